import PyProof.Rows.All
import Wide.All
import OpenK.AllK
import Wide.FinOn
import KE.KOpsOwn
import HandS.ForMost
import HandS.Exc
import HandS.IsInst
import HandS.Wide
import HandS.ExcOwn
import HandS.RaiseOp
import HandS.RaiseMore
import PyProof.RaisesAny
import HandS.Flow
import HandS.TryOnly
import HandS.WordsExc
import HandS.Defaults
import HandS.Head0
import HandS.Head1
import HandS.Head2
import HandS.HeadEnd
import HandS.HeadHook1
import HandS.HeadHook2
import HandS.HeadHook3
import HandS.HeadHook4
import HandS.Style
import KE.GoesMore
import KE.GoesEnum
import KE.KTupSum
import PyProof.EnumMake
import HandS.Star
import HandS.MakeKwOnly
import HandS.TupMul
import HandS.TupAny
import PyProof.ReprRoads
import PyProof.ReprLen
import PyProof.ReprDict
import HandS.SortRule
import HandS.SortInts
import HandS.ExcInit
import HandS.ExcField
import HandS.ExcIs
import KE.KExcInit
import PyProof.InstEq
import PyProof.NeKinds
import PyProof.ExcBaseAll.OverflowError
import PyProof.ExcBaseAll.ArithmeticError
import PyProof.ExcBaseAll.ValueError
import PyProof.ExcBaseAll.LookupError
import PyProof.ExcBaseAll.RuntimeError
import PyProof.InstStoreFacts
import KE.KExcIs
import HandS.TryMany
import HandS.Property
import HandS.HeadNt
import HandS.ClsMeth
import HandS.DeepEq
import HandS.More
import HandS.SetFor
import HandS.CallLocal
import HandS.OwnEq
import KE.KDictDisplayH
import HandS.Walk
import HandS.Small
import PyProof.LongRange
import HandS.HotCalls
import HandS.Codes
import HandS.StrMore
import HandS.FStr
import KE.KxField
import HandS.Iter
import PySem.Challenge.RW_rangeends_k81_written_grains_and_steps
set_option Elab.async false
set_option linter.all false
set_option maxRecDepth 100000
set_option maxHeartbeats 4000000
/-! own operators over the hand layer -/
namespace L2
open PySem PySem.Spec PyProof.Rows
section
variable {X : Cx} {CX : CXT} {k : Nat} {f C : Addr} {fd : FuncData} {ps : List Str} {sp : Sp} {E : XK}
theorem inst_of {pins : List (Addr × Obj)} {σ : St} {H : Hp} {s : Shared} {a dx : Addr} {fs : List (Str × V)} (I : Inv X pins σ H s) (e : H a = some (.ins C dx fs)) :
    ∃ od, PySem.W.InstAt s.heap a (PySem.W.instObj C dx) C (some od) := by
  obtain ⟨mA, O, _⟩ := ins_get I.hok e
  obtain ⟨od, J, _⟩ := O.look
  exact ⟨od, J⟩
theorem relV_notImpl {v : V} {u : Value} (r : RelV v u) : u ≠ .notImplemented := by
  intro e
  subst e
  cases v with
  | non => cases (show Value.notImplemented = Value.none from r)
  | bl b => cases (show Value.notImplemented = Value.bool b from r)
  | int i => obtain ⟨t, q⟩ := (show ∃ t, Value.notImplemented = Value.int i t from r); cases q
  | str i => obtain ⟨t, q⟩ := (show ∃ t, Value.notImplemented = Value.str i t from r); cases q
  | byt i => obtain ⟨t, q⟩ := (show ∃ t, Value.notImplemented = Value.bytes i t from r); cases q
  | flt i => obtain ⟨t, q⟩ := (show ∃ t, Value.notImplemented = Value.float i t from r); cases q
  | ref i => cases (show Value.notImplemented = Value.ref i from r)
  | ty i => cases (show Value.notImplemented = Value.type i from r)
theorem cmpBack_of {Q : Value → Shared → Prop} {v : Value} {s : Shared} (h : v ≠ .notImplemented) (q : Q v s) : PySem.W.CmpBack Q v s := by
  cases v <;> first | exact absurd rfl h | exact q
/-- the callee runs, and hands back no NotImplemented -/
theorem run_back {pins : List (Addr × Obj)} {σ : St} {H : Hp} {s : Shared} {Q : VK} {us : List Value} {vs : List V} (F : FnOk X.prog X.w X.K X.mg X.base CX k f fd ps sp) (hr : Room k X.A) (hb : Binds X.K fd ps []) (hx : Passes CX X E)
    (I : Inv X pins σ H s) (r : Vals vs us) (h : sp vs H Q E) : wpAny (model X.prog X.w) X.A (call (.ref f) us) (PySem.W.CmpBack (EP X pins σ Q)) X.xe s := by
  refine wpAny_mono (run_fn (dvs := []) F hr hb .nil hx I r (by rw [List.append_nil]; exact h)) (fun v s' q => ?_) fun _ _ e => e
  obtain ⟨v', H', I', rv, q'⟩ := q
  exact cmpBack_of (relV_notImpl rv) ⟨v', H', I', rv, q'⟩
/-- a OP b, both of the class at C -/
def rOwn (C : Addr) (sp : Sp) (E : XK) : R2 := fun x y H Q => ∃ a dx fs b dy gs, x = .ref a ∧ H a = some (.ins C dx fs) ∧ y = .ref b ∧ H b = some (.ins C dy gs) ∧ sp [x, y] H Q E
theorem op_own {op : Operator} (hm : Meth X.K C (PySem.dunder op.info.2) f) (hs : PySem.W.selfFirst X.K C = true) (F : FnOk X.prog X.w X.K X.mg X.base CX k f fd ps sp) (hr : Room k X.A) (hb : Binds X.K fd ps []) (hx : Passes CX X E) :
    OpR X (binaryOp op) (rOwn C sp E) := by
  intro pins s σ H x y u v Q I rx ry h
  obtain ⟨a, dx, fs, b, dy, gs, ex, ha, ey, hb', h⟩ := h
  subst ex
  subst ey
  cases (show u = Value.ref a from rx)
  cases (show v = Value.ref b from ry)
  obtain ⟨oa, Ia⟩ := inst_of I ha
  obtain ⟨ob, Ib⟩ := inst_of I hb'
  obtain ⟨m, Fr⟩ := I.fr
  exact PySem.W.binop_K Fr I.mod.kin Ia Ib.type hs hm.1 hm.2 (run_back (vs := [V.ref a, V.ref b]) F hr hb hx I (.cons rfl (.cons rfl .nil)) h)
/-- - a, ~ a -/
def rOwn1 (C : Addr) (sp : Sp) (E : XK) : V → Hp → VK → Prop := fun x H Q => ∃ a dx fs, x = .ref a ∧ H a = some (.ins C dx fs) ∧ sp [x] H Q E
theorem un_ownNeg (hm : Meth X.K C "__neg__" f) (F : FnOk X.prog X.w X.K X.mg X.base CX k f fd ps sp) (hr : Room k X.A) (hb : Binds X.K fd ps []) (hx : Passes CX X E) : UnR X (unaryOp .USub) (rOwn1 C sp E) := by
  intro pins s σ H x u Q I rx h
  obtain ⟨a, dx, fs, ex, ha, h⟩ := h
  subst ex
  cases (show u = Value.ref a from rx)
  obtain ⟨oa, Ia⟩ := inst_of I ha
  obtain ⟨m, Fr⟩ := I.fr
  exact PySem.W.ksp_neg Fr I.mod.kin Ia hm.1 hm.2 (run_fn (vs := [V.ref a]) (dvs := []) F hr hb .nil hx I (.cons rfl .nil) (by exact h))
theorem un_ownInv (hm : Meth X.K C "__invert__" f) (F : FnOk X.prog X.w X.K X.mg X.base CX k f fd ps sp) (hr : Room k X.A) (hb : Binds X.K fd ps []) (hx : Passes CX X E) : UnR X (unaryOp .Invert) (rOwn1 C sp E) := by
  intro pins s σ H x u Q I rx h
  obtain ⟨a, dx, fs, ex, ha, h⟩ := h
  subst ex
  cases (show u = Value.ref a from rx)
  obtain ⟨oa, Ia⟩ := inst_of I ha
  obtain ⟨m, Fr⟩ := I.fr
  exact PySem.W.ksp_inv Fr I.mod.kin Ia hm.1 hm.2 (run_fn (vs := [V.ref a]) (dvs := []) F hr hb .nil hx I (.cons rfl .nil) (by exact h))
/-- comparisons: a OP b, a of the class at C, b of no subclass of it -/
theorem op_ownCmp {op : CmpOp} (ho : compareOp op = richCompare op) (hm : Meth X.K C (cmpInfo op).2.1 f) (F : FnOk X.prog X.w X.K X.mg X.base CX k f fd ps sp) (hr : Room k X.A) (hb : Binds X.K fd ps []) (hx : Passes CX X E) (hs : PySem.W.notFirst X.K C (.ref C) = true) :
    OpR X (compareOp op) (rOwn C sp E) := by
  intro pins s σ H x y u v Q I rx ry h
  obtain ⟨a, dx, fs, b, dy, gs, ex, ha, ey, hb', h⟩ := h
  subst ex
  subst ey
  cases (show u = Value.ref a from rx)
  cases (show v = Value.ref b from ry)
  obtain ⟨oa, Ia⟩ := inst_of I ha
  obtain ⟨ob, Ib⟩ := inst_of I hb'
  obtain ⟨m, Fr⟩ := I.fr
  rw [ho]
  exact PySem.W.cmp_K hr.units0 Fr I.mod.kin Ia Ib.type hs hm.1 hm.2 (run_back (vs := [V.ref a, V.ref b]) F hr hb hx I (.cons rfl (.cons rfl .nil)) h)
end
end L2

namespace L2
open PySem PySem.Spec PyProof.Rows
section
variable {X : Cx} {CX : CXT} {k : Nat} {f C : Addr} {fd : FuncData} {ps : List Str} {sp : Sp} {E : XK}
/-- a callee that lets no exception out where none is wished for -/
theorem passF {P : Program} {w : World} {X : Cx} : Passes (L2.CX P w) X E0 := fun pins σ H s e s' I c => by
  unfold L2.CX at c
  first
    | (obtain ⟨_, _, _, _, _, _, _, _, _, h⟩ := c; exact (by simpa [E0] using h))
    | (exfalso; revert c; simp [E0])
/-- the callee runs inside a builtin -/
theorem run_fn1 {pins : List (Addr × Obj)} {σ : St} {H : Hp} {s : Shared} {Q : VK} {us : List Value} {vs : List V} (F : FnOk X.prog X.w X.K X.mg X.base CX k f fd ps sp) (hr : Room (k + 1) X.A) (hb : Binds X.K fd ps []) (hx : Passes CX X E)
    (I : Inv X pins σ H s) (r : Vals vs us) (h : sp vs H Q E) : wpAny (model X.prog X.w) X.A.in1 (call (.ref f) us) (EP X pins σ Q) X.xe s := by
  have hl : us.length = ps.length := by rw [← r.length]; exact F.len _ _ _ _ h
  have b := hb s us I.kIn (by rw [List.append_nil]; exact hl)
  rw [List.append_nil] at b
  refine wpAny_call (codeAny_mono (F.run X.A.in1 X.stack s H ⟨us, []⟩ us vs Q E hr.in1 I.env0.in1 b r h) fun r s' hq => ?_)
  cases r with
  | error e => exact hx pins σ H s e s' I hq
  | ok fl =>
    cases fl with
    | ret u => exact I.after hq
    | next => exact False.elim hq
    | brk => exact False.elim hq
    | cont => exact False.elim hq
/-- abs(o) -/
def rOwnC (C : Addr) (sp : Sp) (E : XK) : List V → Hp → VK → Prop := fun xs H Q => ∃ a dx fs, xs = [.ref a] ∧ H a = some (.ins C dx fs) ∧ sp xs H Q E
theorem call_absOwn (hm : Meth X.K C "__abs__" f) (F : FnOk X.prog X.w X.K X.mg X.base CX k f fd ps sp) (hr : Room (k + 1) X.A) (hb : Binds X.K fd ps []) (hx : Passes CX X E) : CallR X (.builtin "abs") (rOwnC C sp E) := by
  intro pins s σ H xs us Q I r h
  obtain ⟨a, dx, fs, ex, ha, h⟩ := h
  subst ex
  obtain ⟨u, rfl, r1⟩ := vals1 r
  cases (show u = Value.ref a from r1)
  obtain ⟨oa, Ia⟩ := inst_of I ha
  refine Calls.call_function_entry kind_abs plain_abs entry_abs (args_abs _) ?_
  unfold Builtin.«abs»
  refine wpAny_bind (m := oneArg "abs" _) (wpAny_pure ?_)
  refine wpAny_bind (m := callSpecial? (.ref a) (Str.ofString "__abs__")) (PySem.W.special_fn I.kIn Ia hm.1 (beq_iff_eq.mp hm.2) (wpAny_mono (run_fn1 F hr hb hx I r h) (fun v s' q => ?_) fun _ _ e => e))
  exact wpAny_pure ⟨_, rfl, q⟩
/-- the truth of o by its own __bool__ -/
def rOwnB (C : Addr) (sp : Sp) (E : XK) : List V → Hp → VK → Prop := fun xs H Q => ∃ a dx fs, xs = [.ref a] ∧ H a = some (.ins C dx fs) ∧ sp xs H (fun v H' => ∃ b, v = .bl b ∧ Q v H') E
theorem truthy_own1 {pins : List (Addr × Obj)} {σ : St} {H : Hp} {s : Shared} {a dx : Addr} {fs : List (Str × V)} {R : Bool → Shared → Prop} {Q : Bool → Hp → Prop} (hm : Meth X.K C "__bool__" f) (F : FnOk X.prog X.w X.K X.mg X.base CX k f fd ps sp) (hr : Room (k + 1) X.A) (hb : Binds X.K fd ps []) (hx : Passes CX X E)
    (I : Inv X pins σ H s) (ha : H a = some (.ins C dx fs)) (h : sp [.ref a] H (fun v H' => ∃ b, v = .bl b ∧ Q b H') E) (hR : ∀ b s' H', Inv X pins σ H' s' → Q b H' → R b s') : wpAny (model X.prog X.w) X.A.in1 (truthy (.ref a)) R X.xe s := by
  obtain ⟨oa, Ia⟩ := inst_of I ha
  obtain ⟨m, Fr⟩ := I.fr
  refine PySem.W.truthy_K Fr I.mod.kin Ia hm.1 hm.2 (wpAny_mono (run_fn1 (vs := [V.ref a]) F hr hb hx I (.cons rfl .nil) h) (fun v s' q => ?_) fun _ _ e => e)
  obtain ⟨v', H', I', rv, b, ev, q'⟩ := q
  subst ev
  cases (show v = Value.bool b from rv)
  exact hR b s' H' I' q'
theorem truthy_own0 {pins : List (Addr × Obj)} {σ : St} {H : Hp} {s : Shared} {a dx : Addr} {fs : List (Str × V)} {R : Bool → Shared → Prop} {Q : Bool → Hp → Prop} (hm : Meth X.K C "__bool__" f) (F : FnOk X.prog X.w X.K X.mg X.base CX k f fd ps sp) (hr : Room k X.A) (hb : Binds X.K fd ps []) (hx : Passes CX X E)
    (I : Inv X pins σ H s) (ha : H a = some (.ins C dx fs)) (h : sp [.ref a] H (fun v H' => ∃ b, v = .bl b ∧ Q b H') E) (hR : ∀ b s' H', Inv X pins σ H' s' → Q b H' → R b s') : wpAny (model X.prog X.w) X.A (truthy (.ref a)) R X.xe s := by
  obtain ⟨oa, Ia⟩ := inst_of I ha
  obtain ⟨m, Fr⟩ := I.fr
  refine PySem.W.truthy_K Fr I.mod.kin Ia hm.1 hm.2 (wpAny_mono (run_fn (vs := [V.ref a]) (dvs := []) F hr hb .nil hx I (.cons rfl .nil) h) (fun v s' q => ?_) fun _ _ e => e)
  obtain ⟨v', H', I', rv, b, ev, q'⟩ := q
  subst ev
  cases (show v = Value.bool b from rv)
  exact hR b s' H' I' q'
end
end L2

namespace L2
open PySem PySem.Spec PyProof.Rows
section
variable {X : Cx} {CX : CXT} {k : Nat} {f C : Addr} {fd : FuncData} {ps : List Str} {sp : Sp} {E : XK}
/-- the callee runs inside something -/
theorem run_fnA {A : Around} {pins : List (Addr × Obj)} {σ : St} {H : Hp} {s : Shared} {Q : VK} {us : List Value} {vs : List V} (F : FnOk X.prog X.w X.K X.mg X.base CX k f fd ps sp) (hr : Room k A) (he : Env0 X.prog X.w X.K X.mg X.base A X.stack s H) (hb : Binds X.K fd ps []) (hx : Passes CX X E)
    (I : Inv X pins σ H s) (r : Vals vs us) (h : sp vs H Q E) : wpAny (model X.prog X.w) A (call (.ref f) us) (EP X pins σ Q) X.xe s := by
  have hl : us.length = ps.length := by rw [← r.length]; exact F.len _ _ _ _ h
  have b := hb s us I.kIn (by rw [List.append_nil]; exact hl)
  rw [List.append_nil] at b
  refine wpAny_call (codeAny_mono (F.run A X.stack s H ⟨us, []⟩ us vs Q E hr he b r h) fun r s' hq => ?_)
  cases r with
  | error e => exact hx pins σ H s e s' I hq
  | ok fl =>
    cases fl with
    | ret u => exact I.after hq
    | next => exact False.elim hq
    | brk => exact False.elim hq
    | cont => exact False.elim hq
/-- bool(o) by its own __bool__ -/
theorem call_boolOwn (hm : Meth X.K C "__bool__" f) (F : FnOk X.prog X.w X.K X.mg X.base CX k f fd ps sp) (hr : Room (k + 2) X.A) (hb : Binds X.K fd ps []) (hx : Passes CX X E) : CallR X (.type "bool") (rOwnB C sp E) := by
  intro pins s σ H xs us Q I r h
  obtain ⟨a, dx, fs, ex, ha, h⟩ := h
  subst ex
  obtain ⟨u, rfl, r1⟩ := vals1 r
  cases (show u = Value.ref a from r1)
  obtain ⟨oa, Ia⟩ := inst_of I ha
  obtain ⟨m, Fr⟩ := I.fr
  refine callType_newIn (S := fun A R s' => A = X.A.in1 ∧ s' = s ∧ (∀ b s1 H1, Inv X pins σ H1 s1 → Q (.bl b) H1 → R (.ok (.ret (.bool b))) s1) ∧ ∀ e s1, X.xe e s1 → R (.error e) s1) PySem.F.called_bool PySem.F.newNe_bool (PySem.F.typeCall_bool_1 _) (PySem.F.newCall_bool_1 _) (fun obj => PySem.F.args_object_init_2 obj _) PySem.F.entry_bool_new ?_ ?_
  · refine .of_wp fun A R s' hS => ?_
    obtain ⟨rfl, rfl, hR, hE⟩ := hS
    have T : wpAny (model X.prog X.w) X.A.in1.in1 (truthy (.ref a)) (fun b s1 => R (.ok (.ret (.bool b))) s1) (fun e s1 => R (.error e) s1) s' := by
      refine wpAny_mono (PySem.W.truthy_K (Q := fun b s1 => R (.ok (.ret (.bool b))) s1) Fr I.mod.kin Ia hm.1 hm.2 (wpAny_mono (run_fnA (vs := [V.ref a]) F (Room.in1 (k := k) (Room.in1 hr)) I.env0.in1.in1 hb hx I (.cons rfl .nil) h) (fun v s' q => ?_) fun _ _ e => e)) (fun _ _ z => z) fun e s1 z => hE e s1 z
      obtain ⟨v', H', I', rv, b, ev, q'⟩ := q
      subst ev
      cases (show v = Value.bool b from rv)
      exact hR b s' H' I' q'
    obtain ⟨hp, g, d, tk, os⟩ := s'
    have f1 := PySem.F.conv_sub_bool
    unfold Builtin.«bool.__new__»
    repeat (any_goals (first | assumption | (with_reducible refine wpAny_bind (wpAny_mono T (fun b s1 z => ?_) fun _ _ z => z)) | wp_step))
    all_goals first | exact ⟨_, rfl, z⟩ | skip
  · exact ⟨rfl, rfl, fun b s1 H1 I1 q => ⟨rfl, .bl b, H1, I1, rfl, q⟩, fun e s1 z => z⟩
end
end L2

namespace PySem.W
open PySem PySem.Calls PyProof.Rows
section
variable {prog : Program} {w : World} {A : Around} {E : Value → Shared → Prop} {s : Shared} {K : Frag} {x C f : Addr} {ox : Obj} {od : Option Obj}
/-- n OP o: the int declines, then o's own reflected method -/
theorem rx_refl {op : Operator} {n : Int} {t : Tok} {idl : String} {B : Builtin} {Q : Value → Shared → Prop} (X : K.In s.heap) (I : InstAt s.heap x ox C od) (hc : selfFirst K C = true)
    (hs : findIn K (.ref C) (dunderR op.info.2) = some (some (.ref f))) (hf : isFn K (.ref f) = true) (hfn : Looks (model prog w) s.heap (fillsNumberSlot (.ref C) op.info.2) true)
    (hfT : fillsNumberSlot (.type "int") op.info.2 = pure true) (hsub : subIn K (.ref C) (.type "int") = some false) (hl : Slot "int" (PySem.dunder op.info.2) idl)
    (entry : entryFor table idl = some B) (args : argsOk idl ⟨[.int n t, .ref x], []⟩) (hB : ∀ (A : Around) (Q : Fin → Shared → Prop) (E : Value → Shared → Prop), Q (.done (.ret .notImplemented)) s → wpAny (model prog w) A (B ⟨[.int n t, .ref x], []⟩) Q E s)
    (h : wpAny (model prog w) A (call (.ref f) [.ref x, .int n t]) (CmpBack Q) E s) : wpAny (model prog w) A (binaryOp op (.int n t) (.ref x)) Q E s := by
  rcases hi : op.info with ⟨sym, nm⟩
  rw [hi] at hs hfn hfT hl
  dsimp only at hs hfn hfT hl
  simp only [binaryOp, hi]
  refine wpAny_holding (wpAny_bind ?_)
  unfold binaryOp1
  refine wpAny_bind (wpAny_typeOf (typeIs_int s n t) (wpAny_bind (I.type.here (wpAny_bind (wpAny_of_eq hfT ?_)))))
  have hne : (Value.type "int" == Value.ref C) = false := Bool.eq_false_iff.mpr fun q => by cases beq_iff_eq.mp q
  simp only [hne, Bool.false_eq_true, if_false]
  refine wpAny_bind (hfn.here ?_)
  simp only [Bool.and_self, if_true]
  refine wpAny_bind ((looks_subIn X hsub).here ?_)
  have hpy : numberSlotInPython (.type "int") nm = pure false := rfl
  simp only [Bool.false_eq_true, if_false, pure_bind, Bool.not_false, Bool.and_self, if_true, hpy]
  refine wpAny_bind (wpAny_tryMethod_declines (typeIs_int s n t) hl (wpAny_call_entry hl (typeIs_int s n t) entry (hB _ _ _ ⟨_, rfl, rfl, ?_⟩) args))
  refine wpAny_bind (wpAny_mono (ksp_try (Q := Q) X I hs hf h) (fun r s' hr => ?_) fun _ _ e => e)
  obtain ⟨v, rfl, hq⟩ := hr
  exact wpAny_bind (wpAny_rule (wpAny_pure (wpAny_pure hq)))
end
end PySem.W

namespace PySem.W
open PySem PySem.Calls PyProof.Rows
section
variable {prog : Program} {w : World} {A : Around} {E : Value → Shared → Prop} {s : Shared} {K : Frag} {x C f : Addr} {ox : Obj} {od : Option Obj}
theorem rx_asInt {Q : Option Int → Shared → Prop} (hx : s.heap.get? x = some (instObj C f)) (q : Q none s) : wpAny (model prog w) A (asInt? (.ref x)) Q E s := by
  obtain ⟨hp, g, d, tk, os⟩ := s
  unfold asInt?
  refine wpAny_bind ?_
  refine wpAny_load hx ?_
  exact wpAny_pure q
theorem rx_mulDeclines {n : Int} {t : Tok} {Q : Fin → Shared → Prop} (hx : s.heap.get? x = some (instObj C f)) (q : Q (.done (.ret .notImplemented)) s) :
    wpAny (model prog w) A (Builtin.«int.__mul__» ⟨[.int n t, .ref x], []⟩) Q E s := by
  have key : ∀ {Q : Option Int → Shared → Prop}, Q none s → wpAny (model prog w) A (asInt? (.ref x)) Q E s := fun q => rx_asInt hx q
  show wpAny _ _ (asInt? (.ref x) >>= _) _ _ _
  refine wpAny_bind (key ?_)
  exact wpAny_bind (wpAny_rule (wpAny_pure q))
end
section
variable {prog : Program} {w : World} {A : Around} {E : Value → Shared → Prop} {s : Shared} {K : Frag} {x C f : Addr} {ox : Obj} {od : Option Obj}
/-- the class's whole row of bases: itself, object -/
def mro2 (K : Frag) (C : Addr) : Bool := (clsIn K C).any fun cd => decide (cd.mro = [.ref C, .type "object"])
theorem mro2_of (h : mro2 K C = true) : ∃ cd, clsIn K C = some cd ∧ cd.mro = [.ref C, .type "object"] := by
  obtain ⟨cd, hcd, hm⟩ := any_some h
  exact ⟨cd, hcd, of_decide_eq_true hm⟩
theorem mro2_first (h : mro2 K C = true) : selfFirst K C = true := by
  obtain ⟨cd, hcd, hm⟩ := mro2_of h
  unfold selfFirst
  rw [hcd]
  show (cd.mro.head? == some (.ref C)) = true
  rw [hm]
  simp
theorem rx_inplNone {M : Model} {h : Heap} {nm : String} {add : Bool} (X : K.In h) (hm : mro2 K C = true) (h1 : findIn K (.ref C) (dunderI nm) = some none) (h2 : findIn K (.type "object") (dunderI nm) = some none) :
    Looks M h (fillsInplaceSlot (.ref C) nm add) false := by
  obtain ⟨cd, hcd, hmr⟩ := mro2_of hm
  intro A Q E s k q
  have Lm : Looks M h (mroOf (.ref C)) cd.mro := (looks_clsIn X hcd).andThen (f := fun cd => pure cd.mro) .now
  have Lm' := Lm.keeps k
  obtain ⟨hh, g, d, tt, os⟩ := s
  have X' : K.In hh := X.keeps k
  have L1 : Looks M hh (typeLookup (.ref C) (dunderI nm)) none := looks_findIn X' h1
  have L2 : Looks M hh (typeLookup (.type "object") (dunderI nm)) none := looks_findIn X' h2
  unfold fillsInplaceSlot
  refine wpAny_bind (Lm'.at ?_)
  rw [hmr, List.anyM_cons]
  refine wpAny_bind ?_
  refine wpAny_bind (L1.at ?_)
  refine wpAny_pure ?_
  simp only [Bool.false_eq_true, if_false]
  rw [List.anyM_cons]
  refine wpAny_bind ?_
  refine wpAny_bind (L2.at ?_)
  refine wpAny_pure ?_
  simp only [Bool.false_eq_true, if_false]
  exact wpAny_pure q
/-- a OP= b of two own things by the plain method -/
theorem rx_inpl {op : Operator} {b : Value} {Q : Value → Shared → Prop} (X : K.In s.heap) (I : InstAt s.heap x ox C od) (hb : Looks (model prog w) s.heap (typeOf b) (.ref C)) (hm : mro2 K C = true)
    (h1 : findIn K (.ref C) (dunderI op.info.2) = some none) (h2 : findIn K (.type "object") (dunderI op.info.2) = some none)
    (hs : findIn K (.ref C) (PySem.dunder op.info.2) = some (some (.ref f))) (hf : isFn K (.ref f) = true)
    (h : wpAny (model prog w) A (call (.ref f) [.ref x, b]) (CmpBack Q) E s) : wpAny (model prog w) A (inplaceOp op (.ref x) b) Q E s := by
  obtain ⟨cd, hcd, hmr⟩ := mro2_of hm
  have L0 := rx_inplNone (M := model prog w) (nm := op.info.2) (add := (op == .Add)) X hm h1 h2
  have L3 : Looks (model prog w) s.heap (fillsNumberSlot (.ref C) op.info.2) true := fills_K X hcd hmr hs
  have one := ksp_try (Q := Q) X I hs hf h
  generalize hnm : op.info.2 = nm at *
  unfold inplaceOp
  rw [hnm]
  refine wpAny_holding (wpAny_bind (I.type.here (wpAny_bind (L0.here ?_))))
  rw [if_neg Bool.false_ne_true]
  refine wpAny_bind ?_
  unfold binaryOp1
  refine wpAny_bind (I.type.here (wpAny_bind (hb.here (wpAny_bind (L3.here ?_)))))
  simp only [beq_self_eq_true, if_true]
  refine wpAny_bind (wpAny_pure ?_)
  simp only [Bool.and_false, Bool.false_eq_true, if_false, Bool.false_and]
  refine wpAny_bind (wpAny_pure ?_)
  simp only [Bool.false_eq_true, if_false]
  refine wpAny_bind (wpAny_mono one (fun r s' hr => ?_) fun _ _ e => e)
  obtain ⟨v, rfl, hq⟩ := hr
  exact wpAny_pure (wpAny_pure hq)
end
end PySem.W

namespace L2
open PySem PySem.Spec PyProof.Rows
section
variable {X : Cx} {CX : CXT} {k : Nat} {f C : Addr} {fd : FuncData} {ps : List Str} {sp : Sp} {E : XK}
/-- a OP= b, both of the class at C -/
theorem iop_own {op : Operator} (hm : Meth X.K C (PySem.dunder op.info.2) f) (hs : PySem.W.mro2 X.K C = true) (h1 : PySem.W.findIn X.K (.ref C) (dunderI op.info.2) = some none) (h2 : PySem.W.findIn X.K (.type "object") (dunderI op.info.2) = some none)
    (F : FnOk X.prog X.w X.K X.mg X.base CX k f fd ps sp) (hr : Room k X.A) (hb : Binds X.K fd ps []) (hx : Passes CX X E) :
    PIp X op (rOwn C sp E) := by
  intro pins s σ H x y u v Q I rx ry h
  obtain ⟨a, dx, fs, b, dy, gs, ex, ha, ey, hb', h⟩ := h
  subst ex
  subst ey
  cases (show u = Value.ref a from rx)
  cases (show v = Value.ref b from ry)
  obtain ⟨oa, Ia⟩ := inst_of I ha
  obtain ⟨ob, Ib⟩ := inst_of I hb'
  exact PySem.W.rx_inpl I.kIn Ia Ib.type hs h1 h2 hm.1 hm.2 (run_back (vs := [V.ref a, V.ref b]) F hr hb hx I (.cons rfl (.cons rfl .nil)) h)
/-- the class C fills the number slot nm by its own method -/
theorem fills_of {M : Model} {h : Heap} {nm : String} {g : Addr} (KX : X.K.In h) (hs : PySem.W.mro2 X.K C = true) (hm : Meth X.K C (PySem.dunder nm) g) : PySem.W.Looks M h (fillsNumberSlot (.ref C) nm) true := by
  obtain ⟨cd, hcd, hmr⟩ := PySem.W.mro2_of hs
  exact PySem.W.fills_K KX hcd hmr hm.1
/-- n * o -/
def rROwn (C : Addr) (sp : Sp) (E : XK) : R2 := fun x y H Q => ∃ n b dy gs, x = .int n ∧ y = .ref b ∧ H b = some (.ins C dy gs) ∧ sp [y, x] H Q E
theorem op_mulR {g : Addr} (hm : Meth X.K C "__rmul__" f) (hm2 : Meth X.K C "__mul__" g) (hs : PySem.W.mro2 X.K C = true) (hsub : PySem.W.subIn X.K (.ref C) (.type "int") = some false)
    (F : FnOk X.prog X.w X.K X.mg X.base CX k f fd ps sp) (hr : Room k X.A) (hb : Binds X.K fd ps []) (hx : Passes CX X E) :
    OpR X (binaryOp .Mult) (rROwn C sp E) := by
  intro pins s σ H x y u v Q I rx ry h
  obtain ⟨n, b, dy, gs, ex, ey, hb', h⟩ := h
  subst ex
  subst ey
  obtain ⟨t, rfl⟩ := (show ∃ t, u = Value.int n t from rx)
  cases (show v = Value.ref b from ry)
  obtain ⟨ob, Ib⟩ := inst_of I hb'
  refine PySem.W.rx_refl (op := .Mult) (idl := "int.__mul__") I.kIn Ib (PySem.W.mro2_first hs) hm.1 hm.2 (fills_of I.kIn hs hm2) fills_int_mul hsub slot_int_mul entry_int_mul (args_int_mul _ _) (fun A Q E q => PySem.W.rx_mulDeclines Ib.1 q) ?_
  exact run_back (vs := [V.ref b, V.int n]) F hr hb hx I (.cons rfl (.cons ⟨t, rfl⟩ .nil)) h
end
/-! ### division that may raise -/
section
variable {prog : Program} {w : World} {A : Around} {E : Value → Shared → Prop} {s : Shared} {a : Int} {t u : Tok} {Q : Value → Shared → Prop}
theorem fdiv_zero (hh : A.handled = none) (h : ∀ h' tk e, Heap.NewExc s.heap h' e "ZeroDivisionError" → E (.ref e) { s with heap := h', toks := tk }) :
    wpAny (model prog w) A (binaryOp .FloorDiv (.int a t) (.int 0 u)) Q E s := by
  refine wpAny_binaryOp_same (op := .FloorDiv) (T := "int") (typeIs_int s a t) (typeIs_int s 0 u) fills_int_floordiv slot_int_floordiv ?_
  refine wpAny_call_entry slot_int_floordiv (typeIs_int s a t) entry_int_floordiv ?_ (args_int_floordiv _ _)
  show wpAny _ _ (do
    if (0 : Int) == 0 then rule "int.floordiv.zero"; raiseError "ZeroDivisionError" "integer division or modulo by zero"
    Builtin.roomForPylong a 0
    ret (← mkInt (a.fdiv 0))) _ _ s
  simp only [beq_self_eq_true, if_true]
  exact wpAny_bind (wpAny_rule (wpAny_bind (raiseErrorWords_exc excClass_ZeroDivisionError hh h)))
theorem mod_zero (hh : A.handled = none) (h : ∀ h' tk e, Heap.NewExc s.heap h' e "ZeroDivisionError" → E (.ref e) { s with heap := h', toks := tk }) :
    wpAny (model prog w) A (binaryOp .Mod (.int a t) (.int 0 u)) Q E s := by
  refine wpAny_binaryOp_same (op := .Mod) (T := "int") (typeIs_int s a t) (typeIs_int s 0 u) PyProof.Rows.fills_int_mod PyProof.Rows.slot_int_mod ?_
  refine wpAny_call_entry PyProof.Rows.slot_int_mod (typeIs_int s a t) PyProof.Rows.entry_int_mod ?_ (PyProof.Rows.args_int_mod _ _)
  show wpAny _ _ (do
    if (0 : Int) == 0 then rule "int.mod.zero"; raiseError "ZeroDivisionError" "integer modulo by zero"
    ret (← mkInt (a.fmod 0))) _ _ s
  simp only [beq_self_eq_true, if_true]
  exact wpAny_bind (wpAny_rule (wpAny_bind (raiseErrorWords_exc excClass_ZeroDivisionError hh h)))
end
section
variable {X : Cx} {W : WX} {a b : Expr} {ta tb : TE} {pos : Pos}
/-- a // b: the quotient (a divisor below 2 ^ 9000), or a ZeroDivisionError -/
def tFdX (W : WX) (ta tb : TE) : TE := fun σ H Q => ta σ H fun x H1 => tb σ H1 fun y H2 => ∃ i j, x = .int i ∧ y = .int j ∧ ((j ≠ 0 ∧ j.natAbs.log2 < 9000 ∧ Q (.int (i.fdiv j)) H2) ∨ (j = 0 ∧ ∀ d, W (.type "ZeroDivisionError") d σ H2))
theorem pe_fdivX (hc : X.calm = true) (tk : Takes X W) (ha : PE X a ta) (hb : PE X b tb) : PE X (.BinOp a .FloorDiv b pos) (tFdX W ta tb) := by
  refine ⟨fun pins s σ H Q I h => ?_⟩
  refine wpAny_BinOp (binT ha hb I (R := fun x y H2 => ∃ i j, x = .int i ∧ y = .int j ∧ ((j ≠ 0 ∧ j.natAbs.log2 < 9000 ∧ Q (.int (i.fdiv j)) H2) ∨ (j = 0 ∧ ∀ d, W (.type "ZeroDivisionError") d σ H2))) h fun v u s2 x y H2 I2 rx ry q => ?_)
  obtain ⟨i, j, ex, ey, q⟩ := q
  subst ex
  subst ey
  obtain ⟨t, rfl⟩ := (show ∃ t, v = Value.int i t from rx)
  obtain ⟨t', rfl⟩ := (show ∃ t, u = Value.int j t from ry)
  rcases q with ⟨hj, hl, q⟩ | ⟨hj, q⟩
  · exact floordiv_int hj ⟨.int (i.fdiv j), H2, I2.tok _, ⟨_, rfl⟩, q⟩ (.inl (PyProof.noPylong_of_log2 hl))
  · subst hj
    exact fdiv_zero (I2.ok.hd hc) fun h' tk' e hx => takes_new (t' := tk') tk I2 hx q
def tModX (W : WX) (ta tb : TE) : TE := fun σ H Q => ta σ H fun x H1 => tb σ H1 fun y H2 => ∃ i j, x = .int i ∧ y = .int j ∧ ((j ≠ 0 ∧ Q (.int (i.fmod j)) H2) ∨ (j = 0 ∧ ∀ d, W (.type "ZeroDivisionError") d σ H2))
theorem pe_modX (hc : X.calm = true) (tk : Takes X W) (ha : PE X a ta) (hb : PE X b tb) : PE X (.BinOp a .Mod b pos) (tModX W ta tb) := by
  refine ⟨fun pins s σ H Q I h => ?_⟩
  refine wpAny_BinOp (binT ha hb I (R := fun x y H2 => ∃ i j, x = .int i ∧ y = .int j ∧ ((j ≠ 0 ∧ Q (.int (i.fmod j)) H2) ∨ (j = 0 ∧ ∀ d, W (.type "ZeroDivisionError") d σ H2))) h fun v u s2 x y H2 I2 rx ry q => ?_)
  obtain ⟨i, j, ex, ey, q⟩ := q
  subst ex
  subst ey
  obtain ⟨t, rfl⟩ := (show ∃ t, v = Value.int i t from rx)
  obtain ⟨t', rfl⟩ := (show ∃ t, u = Value.int j t from ry)
  rcases q with ⟨hj, q⟩ | ⟨hj, q⟩
  · exact mod_int' hj ⟨.int (i.fmod j), H2, I2.tok _, ⟨_, rfl⟩, q⟩
  · subst hj
    exact mod_zero (I2.ok.hd hc) fun h' tk' e hx => takes_new (t' := tk') tk I2 hx q
end
section
variable {X : Cx} {CX : CXT} {k : Nat} {f C : Addr} {fd : FuncData} {ps : List Str} {sp : Sp} {E : St → XK} {a b : Expr} {ta tb : TE} {pos : Pos}
/-- a OP b, both of the class at C; what is raised is wished for at the slots -/
def tOwnS (C : Addr) (sp : Sp) (E : St → XK) (ta tb : TE) : TE := fun σ H Q => ta σ H fun x H1 => tb σ H1 fun y H2 => rOwn C sp (E σ) x y H2 Q
theorem pe_ownS {op : Operator} (hm : Meth X.K C (PySem.dunder op.info.2) f) (hs : PySem.W.selfFirst X.K C = true) (F : FnOk X.prog X.w X.K X.mg X.base CX k f fd ps sp) (hr : Room k X.A) (hb : Binds X.K fd ps []) (hx : ∀ σ, PassesAt CX X σ (E σ)) (ha : PE X a ta) (hb2 : PE X b tb) :
    PE X (.BinOp a op b pos) (tOwnS C sp E ta tb) := by
  refine ⟨fun pins s σ H Q I h => ?_⟩
  refine wpAny_BinOp (binT ha hb2 I (R := fun x y H2 => rOwn C sp (E σ) x y H2 Q) h fun v u s2 x y H2 I2 rx ry q => ?_)
  obtain ⟨a, dx, fs, b, dy, gs, ex, ha, ey, hb', h⟩ := q
  subst ex
  subst ey
  cases (show v = Value.ref a from rx)
  cases (show u = Value.ref b from ry)
  obtain ⟨oa, Ia⟩ := inst_of I2 ha
  obtain ⟨ob, Ib⟩ := inst_of I2 hb'
  obtain ⟨m, Fr⟩ := I2.fr
  refine PySem.W.binop_K Fr I2.mod.kin Ia Ib.type hs hm.1 hm.2 (wpAny_mono (run_fnS (vs := [V.ref a, V.ref b]) F hr hb (hx σ) I2 (.cons rfl (.cons rfl .nil)) h) (fun v s' q => ?_) fun _ _ e => e)
  obtain ⟨v', H', I', rv, q'⟩ := q
  exact cmpBack_of (relV_notImpl rv) ⟨v', H', I', rv, q'⟩
end
end L2

namespace PySem.W
open PySem PySem.Calls PyProof.Rows
section
variable {prog : Program} {w : World} {A : Around} {E : Value → Shared → Prop} {s : Shared} {K : Frag} {x C f : Addr} {ox : Obj} {od : Option Obj}
/-- what the class at C and int say of the number slot nm -/
structure NumI (K : Frag) (C : Addr) (nm : String) : Prop where
  rc : findIn K (.ref C) (dunderR nm) = some none ∨ ∃ g : Addr, findIn K (.ref C) (dunderR nm) = some (some (.ref g))
  h1 : ∃ fo, findIn K (.type "int") (PySem.dunder nm) = some fo
  h2 : ∃ ro, findIn K (.type "int") (dunderR nm) = some ro
  sub : subIn K (.type "int") (.ref C) = some false
def numIB (K : Frag) (C : Addr) (nm : String) : Bool := (match findIn K (.ref C) (dunderR nm) with
  | some none => true
  | some (some (.ref _)) => true
  | _ => false) && ((findIn K (.type "int") (PySem.dunder nm)).isSome && ((findIn K (.type "int") (dunderR nm)).isSome && decide (subIn K (.type "int") (.ref C) = some false)))
theorem numI_ok {nm : String} (h : numIB K C nm = true) : NumI K C nm := by
  obtain ⟨h1, h⟩ := Bool.and_eq_true_iff.mp h
  obtain ⟨h2, h⟩ := Bool.and_eq_true_iff.mp h
  obtain ⟨h3, h4⟩ := Bool.and_eq_true_iff.mp h
  refine ⟨?_, Option.isSome_iff_exists.mp h2, Option.isSome_iff_exists.mp h3, of_decide_eq_true h4⟩
  cases e : findIn K (.ref C) (dunderR nm) with
  | none => rw [e] at h1; cases h1
  | some o =>
    rw [e] at h1
    cases o with
    | none => exact .inl rfl
    | some v =>
      cases v with
      | ref g => exact .inr ⟨g, rfl⟩
      | _ => cases h1
theorem rx_binI {op : Operator} {n : Int} {t : Tok} {h₀ : Heap} {L : Addr} {m : Str → Option Value} {Q : Value → Shared → Prop} (F : Fr h₀ L s.heap m) (X₀ : K.In h₀) (I : InstAt s.heap x ox C od) (hc : selfFirst K C = true) (N : NumI K C op.info.2)
    (hs : findIn K (.ref C) (PySem.dunder op.info.2) = some (some (.ref f))) (hf : isFn K (.ref f) = true)
    (h : wpAny (model prog w) A (call (.ref f) [.ref x, .int n t]) (CmpBack Q) E s) : wpAny (model prog w) A (binaryOp op (.ref x) (.int n t)) Q E s := by
  obtain ⟨rc, ⟨fo, h1⟩, ⟨ro, h2⟩, hsub⟩ := N
  rcases rc with rc | ⟨g, rc⟩
  · exact ksp_binT F X₀ I (T := "int") rfl hc hs hf rc (.inl rfl) h1 h2 hsub h
  · exact ksp_binT F X₀ I (T := "int") rfl hc hs hf rc (.inr ⟨g, rfl⟩) h1 h2 hsub h
theorem rx_inplI {op : Operator} {n : Int} {t : Tok} {Q : Value → Shared → Prop} (X : K.In s.heap) (I : InstAt s.heap x ox C od) (hm : mro2 K C = true) (N : NumI K C op.info.2)
    (h1 : findIn K (.ref C) (dunderI op.info.2) = some none) (h2 : findIn K (.type "object") (dunderI op.info.2) = some none)
    (hs : findIn K (.ref C) (PySem.dunder op.info.2) = some (some (.ref f))) (hf : isFn K (.ref f) = true)
    (h : wpAny (model prog w) A (call (.ref f) [.ref x, .int n t]) (CmpBack Q) E s) : wpAny (model prog w) A (inplaceOp op (.ref x) (.int n t)) Q E s := by
  obtain ⟨cd, hcd, hmr⟩ := mro2_of hm
  obtain ⟨rc, ⟨fo, k1⟩, ⟨ro, k2⟩, hsub⟩ := N
  have L0 := rx_inplNone (M := model prog w) (nm := op.info.2) (add := (op == .Add)) X hm h1 h2
  have L3 : Looks (model prog w) s.heap (fillsNumberSlot (.ref C) op.info.2) true := fills_K X hcd hmr hs
  have L4 : Looks (model prog w) s.heap (fillsNumberSlot (.type "int") op.info.2) ((fo.isSome && !isSeqSlot fo) || (ro.isSome && !isSeqSlot ro)) := ksp_fillsT X k1 k2
  have L5 : Looks (model prog w) s.heap (isSubtype (.type "int") (.ref C)) false := looks_subIn X hsub
  have L6 : Looks (model prog w) s.heap (numberSlotInPython (.ref C) op.info.2) true := by
    rcases rc with rc | ⟨g, rc⟩
    · exact ksp_inPy X hs rc (.inl rfl)
    · exact ksp_inPy X hs rc (.inr ⟨g, rfl⟩)
  have L7 : Looks (model prog w) s.heap (numberSlotInPython (.type "int") op.info.2) false := Looks.of_pure rfl
  have L8 : Looks (model prog w) s.heap (typeLookup (.type "int") (dunderR op.info.2)) ro := looks_findIn X k2
  have one := ksp_try (Q := Q) X I hs hf h
  have hne : (Value.ref C == Value.type "int") = false := Bool.eq_false_iff.mpr fun q => by cases beq_iff_eq.mp q
  generalize ((fo.isSome && !isSeqSlot fo) || (ro.isSome && !isSeqSlot ro)) = right at L4
  generalize hnm : op.info.2 = nm at *
  unfold inplaceOp
  rw [hnm]
  refine wpAny_holding (wpAny_bind (I.type.here (wpAny_bind (L0.here ?_))))
  rw [if_neg Bool.false_ne_true]
  refine wpAny_bind ?_
  unfold binaryOp1
  refine wpAny_bind (I.type.here (wpAny_bind (wpAny_typeOf (typeIs_int s n t) (wpAny_bind (L3.here ?_)))))
  simp only [hne, Bool.false_eq_true, if_false]
  cases right with
  | false =>
    refine wpAny_bind (L4.here ?_)
    simp only [Bool.and_false, Bool.false_eq_true, if_false, Bool.false_and]
    refine wpAny_bind (wpAny_pure ?_)
    simp only [Bool.false_eq_true, if_false, if_true]
    refine wpAny_bind (wpAny_mono one (fun r s' hr => ?_) fun _ _ e => e)
    obtain ⟨v, rfl, hq⟩ := hr
    exact wpAny_pure (wpAny_pure hq)
  | true =>
    refine wpAny_bind (L4.here ?_)
    simp only [Bool.and_self, if_true]
    refine wpAny_bind (L5.here ?_)
    simp only [Bool.false_eq_true, if_false, Bool.not_false, Bool.and_self, if_true]
    refine wpAny_bind (L6.here ?_)
    simp only [if_true]
    refine wpAny_bind (L7.here ?_)
    simp only [Bool.not_false, if_true]
    refine wpAny_bind (L8.here ?_)
    refine wpAny_bind (wpAny_mono one (fun r s' hr => ?_) fun _ _ e => e)
    obtain ⟨v, rfl, hq⟩ := hr
    exact wpAny_pure (wpAny_pure hq)
end
end PySem.W
namespace L2
open PySem PySem.Spec PyProof.Rows
section
variable {X : Cx} {CX : CXT} {k : Nat} {f C : Addr} {fd : FuncData} {ps : List Str} {sp : Sp} {E : XK}
/-- o OP n -/
def rOwnI (C : Addr) (sp : Sp) (E : XK) : R2 := fun x y H Q => ∃ a dx fs n, x = .ref a ∧ H a = some (.ins C dx fs) ∧ y = .int n ∧ sp [x, y] H Q E
theorem op_ownI {op : Operator} (hm : Meth X.K C (PySem.dunder op.info.2) f) (hs : PySem.W.mro2 X.K C = true) (N : PySem.W.NumI X.K C op.info.2) (F : FnOk X.prog X.w X.K X.mg X.base CX k f fd ps sp) (hr : Room k X.A) (hb : Binds X.K fd ps []) (hx : Passes CX X E) :
    OpR X (binaryOp op) (rOwnI C sp E) := by
  intro pins s σ H x y u v Q I rx ry h
  obtain ⟨a, dx, fs, n, ex, ha, ey, h⟩ := h
  subst ex
  subst ey
  cases (show u = Value.ref a from rx)
  obtain ⟨t, rfl⟩ := (show ∃ t, v = Value.int n t from ry)
  obtain ⟨oa, Ia⟩ := inst_of I ha
  obtain ⟨m, Fr⟩ := I.fr
  exact PySem.W.rx_binI Fr I.mod.kin Ia (PySem.W.mro2_first hs) N hm.1 hm.2 (run_back (vs := [V.ref a, V.int n]) F hr hb hx I (.cons rfl (.cons ⟨t, rfl⟩ .nil)) h)
theorem iop_ownI {op : Operator} (hm : Meth X.K C (PySem.dunder op.info.2) f) (hs : PySem.W.mro2 X.K C = true) (N : PySem.W.NumI X.K C op.info.2) (h1 : PySem.W.findIn X.K (.ref C) (dunderI op.info.2) = some none) (h2 : PySem.W.findIn X.K (.type "object") (dunderI op.info.2) = some none)
    (F : FnOk X.prog X.w X.K X.mg X.base CX k f fd ps sp) (hr : Room k X.A) (hb : Binds X.K fd ps []) (hx : Passes CX X E) :
    PIp X op (rOwnI C sp E) := by
  intro pins s σ H x y u v Q I rx ry h
  obtain ⟨a, dx, fs, n, ex, ha, ey, h⟩ := h
  subst ex
  subst ey
  cases (show u = Value.ref a from rx)
  obtain ⟨t, rfl⟩ := (show ∃ t, v = Value.int n t from ry)
  obtain ⟨oa, Ia⟩ := inst_of I ha
  exact PySem.W.rx_inplI I.kIn Ia hs N h1 h2 hm.1 hm.2 (run_back (vs := [V.ref a, V.int n]) F hr hb hx I (.cons rfl (.cons ⟨t, rfl⟩ .nil)) h)
/-- // by any divisor but 0 below 2 ^ 9000 -/
def CDivZ (_ j : Int) : Prop := j ≠ 0 ∧ j.natAbs.log2 < 9000
theorem op_fdivZ : OpR X (binaryOp .FloorDiv) (rI CDivZ fun i j => .int (i.fdiv j)) := opI fun i j _ _ _ _ _ hc q => floordiv_int hc.1 q (.inl (PyProof.noPylong_of_log2 hc.2))
end
/-- what isinstance asks of an own class -/
structure OwnTy (K : PySem.W.Frag) (C : Addr) : Prop where
  ha : PySem.W.findIn K (.ref C) "__class__" = some (some (.builtin "object.__class__"))
  hn : PySem.W.specialIn K (.builtin "object.__class__") "__get__" = some (some (.builtin "getset_descriptor.__get__"))
  ht : PySem.W.takesIn K (.builtin "object.__class__") = some true
  hm : PySem.W.mroIn K C (.type "object") = some true
def ownTyB (K : PySem.W.Frag) (C : Addr) : Bool := He.eqO (PySem.W.findIn K (.ref C) "__class__") (some (some (.builtin "object.__class__"))) && (He.eqO (PySem.W.specialIn K (.builtin "object.__class__") "__get__") (some (some (.builtin "getset_descriptor.__get__"))) &&
  (decide (PySem.W.takesIn K (.builtin "object.__class__") = some true) && decide (PySem.W.mroIn K C (.type "object") = some true)))
theorem ownTy_ok {K : PySem.W.Frag} {C : Addr} (h : ownTyB K C = true) : OwnTy K C := by
  obtain ⟨h1, h⟩ := Bool.and_eq_true_iff.mp h
  obtain ⟨h2, h⟩ := Bool.and_eq_true_iff.mp h
  obtain ⟨h3, h4⟩ := Bool.and_eq_true_iff.mp h
  exact ⟨He.eqO_ok h1, He.eqO_ok h2, of_decide_eq_true h3, of_decide_eq_true h4⟩
theorem tyx_own {K : PySem.W.Frag} {H : Hp} {C a dx : Addr} {fs : List (Str × V)} (e : H a = some (.ins C dx fs)) (cl : Cls K C) (o : OwnTy K C) : TyX K H (.ref a) (.ref C) := .base (.ins e cl o.ha o.hn o.ht o.hm)
end L2

/-! frames: what stays of the heap -/
namespace L2
open PySem PySem.Spec PyProof.Rows
theorem Same.new {H : Hp} {p : Addr} {o : HO} (h : H p = none) : Same H (upd H p o) := fun b u e => by rw [upd_ne (ne_of_none e h)]; exact e
theorem Same.put {H H' : Hp} {p : Addr} {o : HO} (s : Same H H') (h : H p = none) : Same H (upd H' p o) := fun b u e => by rw [upd_ne (ne_of_none e h)]; exact s b u e
/-- a new instance that was filled -/
theorem same_make {H : Hp} {p dp : Addr} {o1 o2 o3 : HO} (hp : H p = none) (hd : H dp = none) : Same H (upd (upd (upd H dp o1) p o2) p o3) := ((Same.new hd).put hp).put hp
/-- the names of a whole object's attributes -/
def wholeN : List (List Str) := [["amount"], ["at"], ["lengths", "start"], ["start", "stop", "held"], ["period", "rise", "steps"], ["layers", "made"], ["kept", "sign", "asked", "bound"], ["low", "high"]]
/-- a thing that never changes: a tuple, a locked thing, a whole object -/
def imm : HO → Bool
  | .tup _ => true
  | .frz _ _ => true
  | .ins _ _ fs => decide (fs.map (·.1) ∈ wholeN)
  | _ => false
/-- what never changes is as it was -/
def Kp (H H' : Hp) : Prop := ∀ b o, H b = some o → imm o = true → H' b = some o
theorem Kp.refl (H : Hp) : Kp H H := fun _ _ e _ => e
theorem Kp.trans {H H1 H2 : Hp} (a : Kp H H1) (b : Kp H1 H2) : Kp H H2 := fun c o e i => b c o (a c o e i) i
theorem Same.kp {H H' : Hp} (s : Same H H') : Kp H H' := fun b o e _ => s b o e
theorem Kp.new {H : Hp} {p : Addr} {o : HO} (h : H p = none) : Kp H (upd H p o) := (Same.new h).kp
theorem Kp.mut {H : Hp} {p : Addr} {u o : HO} (h : H p = some u) (i : imm u = false) : Kp H (upd H p o) := fun b v e j => by
  rw [upd_ne (ne_of e h (fun z => by rw [z, i] at j; cases j))]
  exact e
/-- all but what stands at l is as it was -/
def But (l : Addr) (H H' : Hp) : Prop := ∀ b o, H b = some o → b ≠ l → H' b = some o
theorem But.refl (l : Addr) (H : Hp) : But l H H := fun _ _ e _ => e
theorem But.trans {l : Addr} {H H1 H2 : Hp} (a : But l H H1) (b : But l H1 H2) : But l H H2 := fun c o e n => b c o (a c o e n) n
theorem Same.but {l : Addr} {H H' : Hp} (s : Same H H') : But l H H' := fun b o e _ => s b o e
theorem But.kp {l : Addr} {H H' : Hp} {u : HO} (b : But l H H') (h : H l = some u) (i : imm u = false) : Kp H H' := fun c o e j => b c o e (ne_of e h (fun z => by rw [z, i] at j; cases j))
theorem But.upd {l : Addr} {H : Hp} {o : HO} : But l H (upd H l o) := fun b v e n => by rw [upd_ne n]; exact e
theorem But.free {l p : Addr} {H H' : Hp} (b : But l H H') (h : H' p = none) (n : p ≠ l) : H p = none := by
  cases e : H p with
  | none => rfl
  | some o => rw [b p o e n] at h; cases h
/-- a bag of draws -/
def BagAt (H : Hp) (l : Addr) : Prop := ∃ a b : Int, H l = some (.lst [.int a, .int b]) ∧ 0 ≤ a ∧ 0 ≤ b ∧ b < 2 ^ 40
theorem BagAt.kp {l : Addr} {H H' : Hp} (g : BagAt H l) (b : But l H H') : Kp H H' := by
  obtain ⟨x, y, h, _⟩ := g
  exact b.kp h rfl
theorem BagAt.ne {l p : Addr} {H : Hp} {o : HO} (g : BagAt H l) (h : H p = some o) (n : ∀ a b, o ≠ .lst [.int a, .int b]) : p ≠ l := by
  obtain ⟨x, y, e, _⟩ := g
  exact ne_of h e (n x y)
theorem BagAt.ne0 {l p : Addr} {H : Hp} (g : BagAt H l) (h : H p = none) : p ≠ l := by
  obtain ⟨x, y, e, _⟩ := g
  exact (ne_of_none e h).symm
/-- take(bag, many) -/
def spTake : Sp := fun vs H Q _ => ∃ (l : Addr) (many : Int), vs = [.ref l, .int many] ∧ BagAt H l ∧ 0 < many ∧ many.natAbs.log2 < 9000 ∧
  ∀ (d : Int) (H' : Hp), 0 ≤ d → d < many → But l H H' → BagAt H' l → Q (.int d) H'
/-- a draw of an int: any, within 2 ^ n -/
def spDraw (n : Nat) : Sp := fun vs H Q _ => ∃ (l : Addr), vs = [.ref l] ∧ BagAt H l ∧ ∀ (d : Int) (H' : Hp), d.natAbs < 2 ^ n → But l H H' → BagAt H' l → Q (.int d) H'
/-- the bag made of a script -/
def spBag (K : PySem.W.Frag) : Sp := fun vs H Q _ => ∃ (a : Addr) (ns : List Int) (at_ : Int), vs = [.ref a, .int at_] ∧ SqL K H a (ns.map V.int) ∧ ns.length ≤ 63 ∧ 0 ≤ at_ ∧ at_ < 64 ∧
  ∀ (l : Addr) (H' : Hp), H l = none → Same H H' → BagAt H' l → Q (.ref l) H'
end L2
namespace L2
open PySem PySem.Spec PyProof.Rows
theorem Same.but_ {l : Addr} {H0 H1 H2 : Hp} (s : Same H0 H1) (h : H0 l = none) (b : But l H1 H2) : Same H0 H2 := fun c o e => b c o (s c o e) (ne_of_none e h)
theorem SqT.of_ {K : PySem.W.Frag} {H : Hp} {a : Addr} {xs : List V} (h : H a = some (.tup xs)) : SqT K H a xs := Or.inl (Or.inl h)
/-- for i, x in enumerate(xs) over a list -/
theorem for_enum {K : PySem.W.Frag} {a : Addr} {xs : List V} {g : TG} {tb : TS} {D : Ends} {σ : St} {H : Hp} (Pv : Nat → St → Hp → Prop) (h0 : Pv 0 σ H) (hl : ∀ i σ H, i ≤ xs.length → Pv i σ H → SqL K H a xs)
    (hs : ∀ i x σ H T, xs[i]? = some x → Pv i σ H → H T = none → g (.ref T) σ (upd H T (.tup [.int (i : Nat), x])) fun σ2 H2 => tb { D with nx := Pv (i + 1), ct := Pv (i + 1), bk := D.nx } σ2 H2) (hd : ∀ σ H, Pv xs.length σ H → D.nx σ H) :
    ∃ W : Nat → Nat → St → Hp → Prop, (∃ m, W 0 m σ H) ∧ ∀ i m σ H, W i m σ H →
      ((Ite K a).stop i H ∧ D.nx σ H) ∨ ((Ite K a).go i H ∧ ∃ N : St → Hp → Prop, (∀ σ' H', N σ' H' → ∃ m', m' < m ∧ W (i + 1) m' σ' H') ∧ ∀ x H', (Ite K a).yld i H x H' → g x σ H' fun σ2 H2 => tb { D with nx := N, ct := N, bk := D.nx } σ2 H2) := by
  refine ⟨fun i m σ H => m = xs.length - i ∧ i ≤ xs.length ∧ Pv i σ H, ⟨xs.length, by simp, Nat.zero_le _, h0⟩, ?_⟩
  rintro i m σ H ⟨rfl, hi, p⟩
  have q := hl i σ H hi p
  by_cases hlt : i < xs.length
  · refine .inr ⟨⟨xs, xs[i], q, by simp [hlt]⟩, Pv (i + 1), fun σ' H' p' => ⟨xs.length - (i + 1), by omega, rfl, hlt, p'⟩, fun x H' y => ?_⟩
    obtain ⟨T, z, e1, e2, e3, e4⟩ := y
    subst e1 e3
    exact hs i z σ H T (e4 xs q) p e2
  · have e : i = xs.length := by omega
    subst e
    exact .inl ⟨⟨xs, q, Nat.le_refl _⟩, hd σ H p⟩
theorem g_pair {K : PySem.W.Frag} {i j : Nat} {T : Addr} {x y : V} {σ : St} {H : Hp} {Q : St → Hp → Prop} (h : H T = some (.tup [x, y])) (q : Q ((σ.set i (some x)).set j (some y)) H) :
    gTup K 2 (gCons (gName i) (gCons (gName j) gNil)) (.ref T) σ H Q := ⟨T, _, rfl, SqT.of_ h, rfl, _, _, rfl, _, _, rfl, rfl, q⟩
/-- a multiplication of two numbers that are small enough -/
theorem mulW {i j : Int} (a b : Nat) (ha : i.natAbs < 2 ^ a) (hb : j.natAbs < 2 ^ b) (h0 : 0 < a := by decide) (h1 : 0 < b := by decide) (h : a + b ≤ 1000000 := by decide) : CMulW i j := wide_mul ha hb h0 h1 h
theorem log2_lt {j : Int} {n : Nat} (h0 : 0 < n) (h : j.natAbs < 2 ^ n) (h9 : n ≤ 9000) : j.natAbs.log2 < 9000 := Nat.lt_of_lt_of_le (PySem.Flt.log2_lt_of h0 h) h9
theorem log2_lt' {j : Int} {n : Nat} (h0 : 0 < n) (h : j.natAbs < 2 ^ n) (h9 : n ≤ 1920) : j.natAbs.log2 < 1920 := Nat.lt_of_lt_of_le (PySem.Flt.log2_lt_of h0 h) h9
/-- 64 bits are enough here -/
theorem lt64 {i : Int} (h : -18446744073709551616 < i) (h' : i < 18446744073709551616) : i.natAbs < 2 ^ 64 := by
  have e : (2 : Nat) ^ 64 = 18446744073709551616 := by decide
  omega
theorem nat_pow_mono {a b n : Nat} (h : n < 2 ^ a) (hab : a ≤ b) : n < 2 ^ b := Nat.lt_of_lt_of_le h (Nat.pow_le_pow_right (by decide) hab)
theorem natAbs_add_lt {i j : Int} {a b c : Nat} (ha : i.natAbs < 2 ^ a) (hb : j.natAbs < 2 ^ b) (h1 : a < c := by decide) (h2 : b < c := by decide) : (i + j).natAbs < 2 ^ c := by
  have x := nat_pow_mono ha (show a ≤ c - 1 by omega)
  have y := nat_pow_mono hb (show b ≤ c - 1 by omega)
  have e : 2 ^ c = 2 ^ (c - 1) + 2 ^ (c - 1) := by rw [← Nat.two_mul, ← Nat.pow_succ', Nat.succ_eq_add_one, Nat.sub_add_cancel (by omega)]
  have z := Int.natAbs_add_le i j
  omega
theorem natAbs_sub_lt {i j : Int} {a b c : Nat} (ha : i.natAbs < 2 ^ a) (hb : j.natAbs < 2 ^ b) (h1 : a < c := by decide) (h2 : b < c := by decide) : (i - j).natAbs < 2 ^ c := by
  rw [Int.sub_eq_add_neg]
  exact natAbs_add_lt ha (by rw [Int.natAbs_neg]; exact hb) h1 h2
theorem natAbs_mul_lt {i j : Int} {a b c : Nat} (ha : i.natAbs < 2 ^ a) (hb : j.natAbs < 2 ^ b) (h : a + b ≤ c := by decide) : (i * j).natAbs < 2 ^ c := nat_pow_mono (wide_lt ha hb) h
end L2
namespace L2
open PySem PySem.Spec PyProof.Rows
section
variable {X : Cx}
/-- an expression, a test, a statement with a word behind it: what follows is shown once -/
def tCutE (t : TE) : TE := fun σ H Q => ∃ M : VK, t σ H M ∧ ∀ v H', M v H' → Q v H'
theorem pe_cut {e : Expr} {t : TE} (h : PE X e t) : PE X e (tCutE t) := ⟨fun pins s σ H Q I hq => by
  obtain ⟨M, hm, k⟩ := hq
  exact wpAny_mono (h.run pins s σ H M I hm) (fun u s' q => by
    obtain ⟨v, H', I', r, m⟩ := q
    exact ⟨v, H', I', r, k v H' m⟩) fun _ _ z => z⟩
def tCutT (t : TT) : TT := fun σ H Q => ∃ M : Bool → Hp → Prop, t σ H M ∧ ∀ v H', M v H' → Q v H'
theorem pt_cut {e : Expr} {t : TT} (h : PT X e t) : PT X e (tCutT t) := ⟨fun pins s σ H Q I hq => by
  obtain ⟨M, hm, k⟩ := hq
  exact wpAny_mono (h.run pins s σ H M I hm) (fun u s' q => by
    obtain ⟨H', I', m⟩ := q
    exact ⟨H', I', k _ H' m⟩) fun _ _ z => z⟩
def tCutS (t u : TS) : TS := fun D σ H => ∃ Mid : L2.St → Hp → Prop, t { D with nx := Mid } σ H ∧ ∀ σ' H', Mid σ' H' → u D σ' H'
theorem pss_cut1 {st : Stmt} {rest : List Stmt} {t u : TS} (h1 : PS X st t) (h2 : PSs X rest u) : PSs X (st :: rest) (tCutS t u) := by
  refine ⟨fun pins s σ H D I h => ?_⟩
  obtain ⟨Mid, hm, hu⟩ := h
  refine wpAny_execs_cons (thn (h1.run pins s σ H { D with nx := Mid } I hm) fun f s1 q => ?_)
  cases f with
  | next =>
    obtain ⟨σ', H', I', q⟩ := q
    exact h2.run pins s1 σ' H' D I' (hu σ' H' q)
  | ret v => exact q
  | brk => exact q
  | cont => exact q
end
end L2
namespace L2
theorem atI_pos {α : Type} {xs : List α} {i : Int} {v : α} (h0 : 0 ≤ i) (h : xs[i.toNat]? = some v) : atI xs i = some v := by
  have e : i = ((i.toNat : Nat) : Int) := by omega
  have z := atI_nat h
  rw [← e] at z
  exact z
end L2

namespace PySem.W
open PySem PySem.Calls PyProof.Rows
section
variable {prog : Program} {w : World} {A : Around} {E : Value → Shared → Prop} {s : Shared} {K : Frag} {x y C D f g : Addr} {ox oy : Obj} {od oe : Option Obj}
/-- what two classes say of a number slot: D is no C; D fills it by an own method, or not at all -/
structure Num2 (K : Frag) (C D : Addr) (nm : String) : Prop where
  ne : C ≠ D
  sub : subIn K (.ref D) (.ref C) = some false
  rc : findIn K (.ref C) (dunderR nm) = some none ∨ ∃ g : Addr, findIn K (.ref C) (dunderR nm) = some (some (.ref g))
  dm : mro2 K D = true
  sl : (∃ f1 : Addr, findIn K (.ref D) (PySem.dunder nm) = some (some (.ref f1)) ∧ (findIn K (.ref D) (dunderR nm) = some none ∨ ∃ g : Addr, findIn K (.ref D) (dunderR nm) = some (some (.ref g)))) ∨
    (findIn K (.ref D) (PySem.dunder nm) = some none ∧ findIn K (.ref D) (dunderR nm) = some none ∧ findIn K (.type "object") (PySem.dunder nm) = some none ∧ findIn K (.type "object") (dunderR nm) = some none)
def pyOrNone : Option (Option Value) → Bool
  | some none => true
  | some (some (.ref _)) => true
  | _ => false
theorem pyOrNone_ok {o : Option (Option Value)} (h : pyOrNone o = true) : o = some none ∨ ∃ g : Addr, o = some (some (.ref g)) := by
  cases o with
  | none => cases h
  | some o =>
    cases o with
    | none => exact .inl rfl
    | some v =>
      cases v with
      | ref g => exact .inr ⟨g, rfl⟩
      | _ => cases h
def isPy : Option (Option Value) → Bool
  | some (some (.ref _)) => true
  | _ => false
theorem isPy_ok {o : Option (Option Value)} (h : isPy o = true) : ∃ g : Addr, o = some (some (.ref g)) := by
  cases o with
  | none => cases h
  | some o =>
    cases o with
    | none => cases h
    | some v =>
      cases v with
      | ref g => exact ⟨g, rfl⟩
      | _ => cases h
def num2B (K : Frag) (C D : Addr) (nm : String) : Bool := decide (C ≠ D) && (decide (subIn K (.ref D) (.ref C) = some false) && (pyOrNone (findIn K (.ref C) (dunderR nm)) && (mro2 K D &&
  ((isPy (findIn K (.ref D) (PySem.dunder nm)) && pyOrNone (findIn K (.ref D) (dunderR nm))) || (decide (findIn K (.ref D) (PySem.dunder nm) = some none) && (decide (findIn K (.ref D) (dunderR nm) = some none) &&
    (decide (findIn K (.type "object") (PySem.dunder nm) = some none) && decide (findIn K (.type "object") (dunderR nm) = some none))))))))
theorem num2_ok {nm : String} (h : num2B K C D nm = true) : Num2 K C D nm := by
  obtain ⟨a1, h⟩ := Bool.and_eq_true_iff.mp h
  obtain ⟨a2, h⟩ := Bool.and_eq_true_iff.mp h
  obtain ⟨a3, h⟩ := Bool.and_eq_true_iff.mp h
  obtain ⟨a4, h⟩ := Bool.and_eq_true_iff.mp h
  refine ⟨of_decide_eq_true a1, of_decide_eq_true a2, pyOrNone_ok a3, a4, ?_⟩
  rcases Bool.or_eq_true_iff.mp h with h | h
  · obtain ⟨b1, b2⟩ := Bool.and_eq_true_iff.mp h
    obtain ⟨f1, e1⟩ := isPy_ok b1
    exact .inl ⟨f1, e1, pyOrNone_ok b2⟩
  · obtain ⟨b1, h⟩ := Bool.and_eq_true_iff.mp h
    obtain ⟨b2, h⟩ := Bool.and_eq_true_iff.mp h
    obtain ⟨b3, b4⟩ := Bool.and_eq_true_iff.mp h
    exact .inr ⟨of_decide_eq_true b1, of_decide_eq_true b2, of_decide_eq_true b3, of_decide_eq_true b4⟩
theorem rx_fillsNone {M : Model} {h : Heap} {nm : String} (X : K.In h) (hm : mro2 K D = true) (h1 : findIn K (.ref D) (PySem.dunder nm) = some none) (h2 : findIn K (.ref D) (dunderR nm) = some none)
    (h3 : findIn K (.type "object") (PySem.dunder nm) = some none) (h4 : findIn K (.type "object") (dunderR nm) = some none) : Looks M h (fillsNumberSlot (.ref D) nm) false := by
  obtain ⟨cd, hcd, hmr⟩ := mro2_of hm
  intro A Q E s k q
  have Lm : Looks M h (mroOf (.ref D)) cd.mro := (looks_clsIn X hcd).andThen (f := fun cd => pure cd.mro) .now
  have Lm' := Lm.keeps k
  obtain ⟨hh, g, d, tt, os⟩ := s
  have X' : K.In hh := X.keeps k
  have L1 : Looks M hh (typeLookup (.ref D) (PySem.dunder nm)) none := looks_findIn X' h1
  have L2 : Looks M hh (typeLookup (.ref D) (dunderR nm)) none := looks_findIn X' h2
  have L3 : Looks M hh (typeLookup (.type "object") (PySem.dunder nm)) none := looks_findIn X' h3
  have L4 : Looks M hh (typeLookup (.type "object") (dunderR nm)) none := looks_findIn X' h4
  unfold fillsNumberSlot
  refine wpAny_bind (Lm'.at ?_)
  rw [hmr, List.anyM_cons]
  refine wpAny_bind ?_
  dsimp only
  rw [List.anyM_cons]
  refine wpAny_bind (wpAny_bind (L1.at (wpAny_pure ?_)))
  rw [if_neg Bool.false_ne_true, List.anyM_cons]
  refine wpAny_bind (wpAny_bind (L2.at (wpAny_pure ?_)))
  rw [if_neg Bool.false_ne_true]
  refine wpAny_pure ?_
  rw [if_neg Bool.false_ne_true, List.anyM_cons]
  refine wpAny_bind ?_
  dsimp only
  refine wpAny_bind (L3.at (wpAny_bind (L4.at (wpAny_pure ?_))))
  exact wpAny_pure q
/-- a OP b by a's own method, b of another class; what is behind the first try is told by k -/
theorem rx_bin1 {nm : String} {R : Option Value → Shared → Prop} (X : K.In s.heap) (I : InstAt s.heap x ox C od) (J : InstAt s.heap y oy D oe) (hc : mro2 K C = true) (N : Num2 K C D nm)
    (hs : findIn K (.ref C) (PySem.dunder nm) = some (some (.ref f)))
    (h : wpAny (model prog w) A (tryMethod (.ref x) (PySem.dunder nm) (.ref y)) (fun r s' => (∃ v, r = some v ∧ R (some v) s') ∨ (r = none ∧ ∃ (g : Addr), findIn K (.ref D) (dunderR nm) = some (some (.ref g)) ∧ (∃ f1 : Addr, findIn K (.ref D) (PySem.dunder nm) = some (some (.ref f1))) ∧ Looks (model prog w) s'.heap (typeOf (.ref x)) (.ref C) ∧ Looks (model prog w) s'.heap (typeOf (.ref y)) (.ref D) ∧
      wpAny (model prog w) A (tryMethod (.ref y) (dunderR nm) (.ref x)) (fun r s' => ∃ v, r = some v ∧ R (some v) s') E s')) E s) :
    wpAny (model prog w) A (binaryOp1 nm (.ref x) (.ref y)) R E s := by
  obtain ⟨cd, hcd, hmr⟩ := mro2_of hc
  obtain ⟨ced, hced, hmrD⟩ := mro2_of N.dm
  have L3 : Looks (model prog w) s.heap (fillsNumberSlot (.ref C) nm) true := fills_K X hcd hmr hs
  have L5 : Looks (model prog w) s.heap (isSubtype (.ref D) (.ref C)) false := looks_subIn X N.sub
  have L6 : Looks (model prog w) s.heap (numberSlotInPython (.ref C) nm) true := by
    rcases N.rc with rc | ⟨g, rc⟩
    · exact ksp_inPy X hs rc (.inl rfl)
    · exact ksp_inPy X hs rc (.inr ⟨g, rfl⟩)
  have hne : (Value.ref C == Value.ref D) = false := Bool.eq_false_iff.mpr fun q => by
    have z := beq_iff_eq.mp q
    injection z with z
    exact N.ne z
  unfold binaryOp1
  refine wpAny_bind (I.type.here (wpAny_bind (J.type.here (wpAny_bind (L3.here ?_)))))
  simp only [hne, Bool.false_eq_true, if_false]
  rcases N.sl with ⟨f1, d1, d2⟩ | ⟨d1, d2, d3, d4⟩
  · have L4 : Looks (model prog w) s.heap (fillsNumberSlot (.ref D) nm) true := fills_K X hced hmrD d1
    have L7 : Looks (model prog w) s.heap (numberSlotInPython (.ref D) nm) true := by
      rcases d2 with rc | ⟨g, rc⟩
      · exact ksp_inPy X d1 rc (.inl rfl)
      · exact ksp_inPy X d1 rc (.inr ⟨g, rfl⟩)
    refine wpAny_bind (L4.here ?_)
    simp only [Bool.and_self, if_true]
    refine wpAny_bind (L5.here ?_)
    simp only [Bool.false_eq_true, if_false, Bool.not_false, Bool.and_self, if_true]
    refine wpAny_bind (L6.here ?_)
    simp only [if_true]
    refine wpAny_bind (L7.here ?_)
    simp only [Bool.not_true, Bool.false_eq_true, if_false]
    refine wpAny_bind (wpAny_mono h (fun r s' hr => ?_) fun _ _ e => e)
    rcases hr with ⟨v, rfl, hq⟩ | ⟨rfl, g, _, _, T1, T2, hq⟩
    · exact wpAny_pure hq
    · refine wpAny_bind (T1.here (wpAny_bind (T2.here ?_)))
      simp only [hne, Bool.false_eq_true, if_false]
      refine wpAny_bind (wpAny_mono hq (fun r s2 hr => ?_) fun _ _ e => e)
      obtain ⟨v, rfl, hq⟩ := hr
      exact wpAny_bind (wpAny_rule (wpAny_pure hq))
  · have L4 : Looks (model prog w) s.heap (fillsNumberSlot (.ref D) nm) false := rx_fillsNone X N.dm d1 d2 d3 d4
    refine wpAny_bind (L4.here ?_)
    simp only [Bool.and_false, Bool.false_eq_true, if_false, Bool.false_and]
    refine wpAny_bind (wpAny_pure ?_)
    simp only [Bool.false_eq_true, if_false, if_true]
    refine wpAny_bind (wpAny_mono h (fun r s' hr => ?_) fun _ _ e => e)
    rcases hr with ⟨v, rfl, hq⟩ | ⟨rfl, g, z, _⟩
    · exact wpAny_pure hq
    · rw [d2] at z; cases z
theorem rx_bin2 {op : Operator} {Q : Value → Shared → Prop} (X : K.In s.heap) (I : InstAt s.heap x ox C od) (J : InstAt s.heap y oy D oe) (hc : mro2 K C = true) (N : Num2 K C D op.info.2)
    (hs : findIn K (.ref C) (PySem.dunder op.info.2) = some (some (.ref f))) (hf : isFn K (.ref f) = true)
    (h : wpAny (model prog w) A (call (.ref f) [.ref x, .ref y]) (CmpBack Q) E s) : wpAny (model prog w) A (binaryOp op (.ref x) (.ref y)) Q E s := by
  rcases hi : op.info with ⟨sym, nm⟩
  rw [hi] at hs N
  simp only [binaryOp, hi]
  refine wpAny_holding (wpAny_bind (rx_bin1 X I J hc N hs (wpAny_mono (ksp_try (Q := Q) X I hs hf h) (fun r s' hr => ?_) fun _ _ e => e)))
  obtain ⟨v, e, hq⟩ := hr
  exact .inl ⟨v, e, wpAny_pure hq⟩
/-- a declines, then b's own reflected method -/
theorem rx_bin2R' {op : Operator} {Q : Value → Shared → Prop} (X : K.In s.heap) (I : InstAt s.heap x ox C od) (J : InstAt s.heap y oy D oe) (hc : mro2 K C = true) (N : Num2 K C D op.info.2)
    (hs : findIn K (.ref C) (PySem.dunder op.info.2) = some (some (.ref f))) (hf : isFn K (.ref f) = true)
    (hr : findIn K (.ref D) (dunderR op.info.2) = some (some (.ref g))) (hg : isFn K (.ref g) = true) (hd : ∃ f1 : Addr, findIn K (.ref D) (PySem.dunder op.info.2) = some (some (.ref f1)))
    (h : wpAny (model prog w) A (call (.ref f) [.ref x, .ref y]) (fun v s' => v = .notImplemented ∧ K.In s'.heap ∧ (∃ ox od, InstAt s'.heap x ox C od) ∧ (∃ oy oe, InstAt s'.heap y oy D oe) ∧ wpAny (model prog w) A (call (.ref g) [.ref y, .ref x]) (CmpBack Q) E s') E s) :
    wpAny (model prog w) A (binaryOp op (.ref x) (.ref y)) Q E s := by
  rcases hi : op.info with ⟨sym, nm⟩
  rw [hi] at hs N hr hd
  simp only [binaryOp, hi]
  refine wpAny_holding (wpAny_bind (rx_bin1 X I J hc N hs ?_))
  unfold tryMethod
  refine wpAny_bind (special_fn X I hs (beq_iff_eq.mp hf) (wpAny_mono h (fun v s' hv => ?_) fun _ _ e => e))
  obtain ⟨rfl, X', ⟨_, _, I'⟩, ⟨_, _, J'⟩, hq⟩ := hv
  refine wpAny_pure (.inr ⟨rfl, g, hr, hd, I'.type, J'.type, ?_⟩)
  refine wpAny_mono (ksp_try (Q := Q) X' J' hr hg hq) (fun r s2 hr2 => ?_) fun _ _ e => e
  obtain ⟨v, e, hq⟩ := hr2
  exact ⟨v, e, wpAny_pure hq⟩
theorem rx_inpl2 {op : Operator} {Q : Value → Shared → Prop} (X : K.In s.heap) (I : InstAt s.heap x ox C od) (J : InstAt s.heap y oy D oe) (hc : mro2 K C = true) (N : Num2 K C D op.info.2)
    (h1 : findIn K (.ref C) (dunderI op.info.2) = some none) (h2 : findIn K (.type "object") (dunderI op.info.2) = some none)
    (hs : findIn K (.ref C) (PySem.dunder op.info.2) = some (some (.ref f))) (hf : isFn K (.ref f) = true)
    (h : wpAny (model prog w) A (call (.ref f) [.ref x, .ref y]) (CmpBack Q) E s) : wpAny (model prog w) A (inplaceOp op (.ref x) (.ref y)) Q E s := by
  have L0 := rx_inplNone (M := model prog w) (nm := op.info.2) (add := (op == .Add)) X hc h1 h2
  have one := rx_bin1 (R := fun r s' => ∃ v, r = some v ∧ Q v s') X I J hc N hs (wpAny_mono (ksp_try (Q := Q) X I hs hf h) (fun r s' hr => by
    obtain ⟨v, e, hq⟩ := hr
    exact .inl ⟨v, e, v, rfl, hq⟩) fun _ _ e => e)
  generalize hnm : op.info.2 = nm at *
  unfold inplaceOp
  rw [hnm]
  refine wpAny_holding (wpAny_bind (I.type.here (wpAny_bind (L0.here ?_))))
  rw [if_neg Bool.false_ne_true]
  refine wpAny_bind (wpAny_mono one (fun r s' hr => ?_) fun _ _ e => e)
  obtain ⟨v, rfl, hq⟩ := hr
  exact wpAny_pure hq
end
end PySem.W

namespace L2
open PySem PySem.Spec PyProof.Rows
/-! ### a def that hands back NotImplemented -/
structure FnNI (P : Program) (w : World) (K : PySem.W.Frag) (mg : Str → Option Value) (base : Heap) (k : Nat) (f : Addr) (fd : FuncData) (ps : List Str) (pre : List V → Hp → Prop) : Prop where
  len : ∀ vs H, pre vs H → vs.length = ps.length
  run : ∀ (A : Around) (outer : List Env) (s : Shared) (H : Hp) (args : Args) (us : List Value) (vs : List V), Room k A → Env0 P w K mg base A outer s H → BindsTo s fd args (ps.zip us) → Vals vs us → pre vs H →
    codeAny (model P w) A (.call (.ref f) args) (fun r s' => r = .ok (.ret .notImplemented) ∧ s'.os = s.os ∧ AllBare s'.gens ∧ Un (frs outer) [] H H s.heap s'.heap ∧ HOk P w H s'.heap) s
section
variable {P : Program} {w : World} {K : PySem.W.Frag} {mg : Str → Option Value} {base : Heap} {x qual : Str} {params : Arguments} {body : List Stmt} {scope : Scope} {dvs : List V} {kws : List (Str × V)} {f : Addr} {fd : FuncData}
/-- if test: return NotImplemented, the test being true -/
theorem FunD.ni {N ps : List Str} {k : Nat} {pre : List V → Hp → Prop} {test : Expr} {p1 p2 p3 : Pos} {rest : List Stmt} (F : FunD K x qual params (.If test [.Return (some (.Name "NotImplemented" p1)) p2] [] p3 :: rest) scope dvs kws f fd) (S : FnScope N ps scope)
    (hn : mg "NotImplemented" = none) (len : ∀ vs H, pre vs H → vs.length = ps.length)
    (hbody : ∀ (cdv : Value) (A : Around) (outer : List Env) (s : Shared) (H : Hp) (vs : List V), Room k (A.deeper (envOfC qual scope s.heap.objs.size f cdv)) → pre vs H →
      Gl (cxOf CX0 P w K mg base N qual scope f cdv A outer s H E0).nox "NotImplemented" ∧ ∃ t, PT (cxOf CX0 P w K mg base N qual scope f cdv A outer s H E0).nox test t ∧ t (start N vs) H fun b H' => b = true ∧ H = H') : FnNI P w K mg base (k + 1) f fd ps pre := by
  obtain ⟨oc, od, dV, kV, doc, pm, an, cdv, ct, osl, rfl, lk, hcd, _, _⟩ := F.ex
  refine ⟨len, fun A outer s H args us vs hr e0 hb r hsp => ?_⟩
  have hl := len _ _ hsp
  have KX : K.In s.heap := e0.mod.kin.keeps fun b o e => (e0.bs b o e).1
  have lim : s.heap.NoLimit := e0.mod.nolimit.keeps fun b o e => (e0.bs b o e).1
  have hkind : ∀ y ∈ ps.zip us, scope.names.lookup y.1 = some .local ∨ (scope.names.lookup y.1 = some .cell ∧ ((cellsFrom (s.heap.objs.size + 1) scope.names []).lookup y.1).isSome = true) := fun ⟨n, v⟩ hy => by
    rcases S.par n (List.of_mem_zip hy).1 with q | q
    · exact .inl q
    · exact .inr ⟨q, PySem.W.cellsFrom_some _ _ _ (.inl q)⟩
  refine codeAny_call_function hr.depth (KX _ _ lk) rfl S.co S.gen rfl (PySem.W.codeRec_of KX hcd) (hb _ _ _ _ ?_)
  refine wpAny_newFunctionEnv_cells S.kind hkind fun env he s1 xx => ?_
  subst he
  refine ⟨lim.keeps xx.toInCall.keep, codeAny_func ?_⟩
  obtain ⟨hgl, t, ht, hq⟩ := hbody cdv A outer s H vs (hr.deeper _) hsp
  have I0 : Inv (cxOf CX0 P w K mg base N qual scope f cdv A outer s H E0) [] (start N vs) H s1 := inv_start S hr.hd e0 hl r xx
  have I : Inv (cxOf CX0 P w K mg base N qual scope f cdv A outer s H E0).nox [] (start N vs) H s1 := I0.wish _
  refine wpAny_execs_cons (wpAny_mono (wpAny_If (Q := fun fl s' => fl = .ret .notImplemented ∧ ∃ σ', Inv (cxOf CX0 P w K mg base N qual scope f cdv A outer s H E0).nox [] σ' H s') (E := fun _ _ => False) (thn (ht.run [] s1 (start N vs) H _ I hq) fun d s2 hh => ?_)) (fun fl s2 hh => ?_) fun _ _ z => z.elim)
  · obtain ⟨H1, I1, hd, eH⟩ := hh
    subst hd
    subst eH
    refine wpAny_execs_cons (wpAny_Return_some (ld_blt (u := .notImplemented) I1 ?_ hn (by decide +kernel) ?_))
    · exact hgl
    · exact ⟨rfl, _, I1⟩
  · obtain ⟨rfl, σ', J⟩ := hh
    exact ⟨rfl, J.os, J.bare, J.base, J.hok⟩
end
section
variable {X : Cx} {CX : CXT} {k k' : Nat} {f g C D : Addr} {fd fd' : FuncData} {ps ps' : List Str} {sp : Sp} {E : XK} {pre : List V → Hp → Prop}
/-- it runs: the state is as it was -/
theorem run_ni {A : Around} {pins : List (Addr × Obj)} {σ : St} {H : Hp} {s : Shared} {us : List Value} {vs : List V} (F : FnNI X.prog X.w X.K X.mg X.base k f fd ps pre) (hr : Room k A) (he : Env0 X.prog X.w X.K X.mg X.base A X.stack s H) (hb : Binds X.K fd ps [])
    (I : Inv X pins σ H s) (r : Vals vs us) (h : pre vs H) {E' : Value → Shared → Prop} : wpAny (model X.prog X.w) A (call (.ref f) us) (fun v s' => v = .notImplemented ∧ Inv X pins σ H s') E' s := by
  have hl : us.length = ps.length := by rw [← r.length]; exact F.len _ _ h
  have b := hb s us I.kIn (by rw [List.append_nil]; exact hl)
  rw [List.append_nil] at b
  refine wpAny_call (codeAny_mono (F.run A X.stack s H ⟨us, []⟩ us vs hr he b r h) fun r s' hq => ?_)
  obtain ⟨rfl, os, bare, un, hok⟩ := hq
  obtain ⟨hh, g, d, t, os'⟩ := s'
  obtain rfl : os' = s.os := os
  exact ⟨rfl, I.call (h' := hh) (g' := g) (d' := d) (t' := t) (ch := []) un hok bare (fun b z => absurd z (by simp))⟩
def rOwn2 (C D : Addr) (sp : Sp) (E : XK) : R2 := fun x y H Q => ∃ a dx fs b dy gs, x = .ref a ∧ H a = some (.ins C dx fs) ∧ y = .ref b ∧ H b = some (.ins D dy gs) ∧ sp [x, y] H Q E
theorem op_own2 {op : Operator} (hm : Meth X.K C (PySem.dunder op.info.2) f) (hs : PySem.W.mro2 X.K C = true) (N : PySem.W.Num2 X.K C D op.info.2) (F : FnOk X.prog X.w X.K X.mg X.base CX k f fd ps sp) (hr : Room k X.A) (hb : Binds X.K fd ps []) (hx : Passes CX X E) :
    OpR X (binaryOp op) (rOwn2 C D sp E) := by
  intro pins s σ H x y u v Q I rx ry h
  obtain ⟨a, dx, fs, b, dy, gs, ex, ha, ey, hb', h⟩ := h
  subst ex
  subst ey
  cases (show u = Value.ref a from rx)
  cases (show v = Value.ref b from ry)
  obtain ⟨oa, Ia⟩ := inst_of I ha
  obtain ⟨ob, Ib⟩ := inst_of I hb'
  exact PySem.W.rx_bin2 I.kIn Ia Ib hs N hm.1 hm.2 (run_back (vs := [V.ref a, V.ref b]) F hr hb hx I (.cons rfl (.cons rfl .nil)) h)
theorem iop_own2 {op : Operator} (hm : Meth X.K C (PySem.dunder op.info.2) f) (hs : PySem.W.mro2 X.K C = true) (N : PySem.W.Num2 X.K C D op.info.2) (h1 : PySem.W.findIn X.K (.ref C) (dunderI op.info.2) = some none) (h2 : PySem.W.findIn X.K (.type "object") (dunderI op.info.2) = some none)
    (F : FnOk X.prog X.w X.K X.mg X.base CX k f fd ps sp) (hr : Room k X.A) (hb : Binds X.K fd ps []) (hx : Passes CX X E) :
    PIp X op (rOwn2 C D sp E) := by
  intro pins s σ H x y u v Q I rx ry h
  obtain ⟨a, dx, fs, b, dy, gs, ex, ha, ey, hb', h⟩ := h
  subst ex
  subst ey
  cases (show u = Value.ref a from rx)
  cases (show v = Value.ref b from ry)
  obtain ⟨oa, Ia⟩ := inst_of I ha
  obtain ⟨ob, Ib⟩ := inst_of I hb'
  exact PySem.W.rx_inpl2 I.kIn Ia Ib hs N h1 h2 hm.1 hm.2 (run_back (vs := [V.ref a, V.ref b]) F hr hb hx I (.cons rfl (.cons rfl .nil)) h)
/-- a declines (F, where pre holds), then b's own reflected method -/
def rOwn2R (C D : Addr) (pre : List V → Hp → Prop) (sp : Sp) (E : XK) : R2 := fun x y H Q => ∃ a dx fs b dy gs, x = .ref a ∧ H a = some (.ins C dx fs) ∧ y = .ref b ∧ H b = some (.ins D dy gs) ∧ pre [x, y] H ∧ sp [y, x] H Q E
theorem op_own2R {op : Operator} {f1 : Addr} (hm : Meth X.K C (PySem.dunder op.info.2) f) (hs : PySem.W.mro2 X.K C = true) (N : PySem.W.Num2 X.K C D op.info.2) (hmR : Meth X.K D (dunderR op.info.2) g) (hmD : Meth X.K D (PySem.dunder op.info.2) f1)
    (G : FnNI X.prog X.w X.K X.mg X.base k' f fd' ps' pre) (hr' : Room k' X.A) (hb' : Binds X.K fd' ps' [])
    (F : FnOk X.prog X.w X.K X.mg X.base CX k g fd ps sp) (hr : Room k X.A) (hb : Binds X.K fd ps []) (hx : Passes CX X E) :
    OpR X (binaryOp op) (rOwn2R C D pre sp E) := by
  intro pins s σ H x y u v Q I rx ry h
  obtain ⟨a, dx, fs, b, dy, gs, ex, ha, ey, hbb, hp, h⟩ := h
  subst ex
  subst ey
  cases (show u = Value.ref a from rx)
  cases (show v = Value.ref b from ry)
  obtain ⟨oa, Ia⟩ := inst_of I ha
  obtain ⟨ob, Ib⟩ := inst_of I hbb
  have keep := fun (s' : Shared) (I' : Inv X pins σ H s') => inst_of I' ha
  refine PySem.W.rx_bin2R' I.kIn Ia Ib hs N hm.1 hm.2 hmR.1 hmR.2 ⟨f1, hmD.1⟩ (wpAny_mono (run_ni (vs := [V.ref a, V.ref b]) G hr' I.env0 hb' I (.cons rfl (.cons rfl .nil)) hp) (fun v s' q => ?_) fun _ _ z => z)
  obtain ⟨rfl, I'⟩ := q
  obtain ⟨oa', Ia'⟩ := inst_of I' ha
  obtain ⟨ob', Ib'⟩ := inst_of I' hbb
  exact ⟨rfl, I'.kIn, ⟨_, _, Ia'⟩, ⟨_, _, Ib'⟩, run_back (vs := [V.ref b, V.ref a]) F hr hb hx I' (.cons rfl (.cons rfl .nil)) h⟩
end
end L2

namespace PySem
open Sem (wp)
open AutoSeq1 (wpAny_loadPart')
theorem rx_enum_newT (l : Addr) (items : Array Value) (n : Nat) (dct : Option Addr) (sl : Array (Option Value)) :
    Meets (Builtin.«enumerate.__new__» ⟨[.type "enumerate", .ref l], []⟩) (fun _ R s => s.heap.get? l = some { cls := .type "tuple", dict := dct, data := .seq items n, slots := sl } ∧
      R (.ok (.ret (.ref (s.heap.push { cls := .type "tuple_iterator", data := .fields #[.ref l, .int 0 0] }).objs.size)))
        { s with heap := (s.heap.push { cls := .type "tuple_iterator", data := .fields #[.ref l, .int 0 0] }).push { cls := .type "enumerate", data := .fields #[.none, .bool false, .ref s.heap.objs.size, rawInt 0, .none, .none] } }) :=
  .of_wp fun prog w A R s h => by
    obtain ⟨hp, g, d, tk, os⟩ := s; obtain ⟨hl, h⟩ := h
    have hsub := sub_enumerate
    have hL : Heap.IsTuple (Shared.heap ⟨hp, g, d, tk, os⟩) l items := ⟨_, hl, rfl, n, rfl⟩
    wp_walk using wpAny_loadPart' hl
    refine wpAny_stack_any fun st => wpAny_pure ?_
    split
    · rename_i c _ _ _ _ _
      cases (c == Value.type "enumerate")
      · wp_walk using wpAny_loadPart' hl, wpAny_pyIter_tuple hL
        exact ⟨_, rfl, h⟩
      · wp_walk using wpAny_loadPart' hl, wpAny_pyIter_tuple hL
        exact ⟨_, rfl, h⟩
    · wp_walk using wpAny_loadPart' hl, wpAny_pyIter_tuple hL
      exact ⟨_, rfl, h⟩
section
variable {prog : Program} {w : World} {A : Around} {E : Value → Shared → Prop} {s : Shared}
theorem rx_call_enumT {l : Addr} {items : Array Value} {Q : Value → Shared → Prop} (hL : s.heap.IsTuple l items)
    (h : ∀ h', IsEnum h' (s.heap.objs.size + 1) s.heap.objs.size 0 .none → h'.IsTupleIter s.heap.objs.size l 0 → h'.objs.size = s.heap.objs.size + 2 →
      (∀ b o, s.heap.get? b = some o → h'.get? b = some o) → Q (.ref (s.heap.objs.size + 1)) { s with heap := h' }) :
    wpAny (model prog w) A (call (.type "enumerate") [.ref l]) Q E s := by
  obtain ⟨⟨c, dct, dt, sl⟩, hl, hc, n, hd⟩ := hL
  replace hc : c = .type "tuple" := hc
  replace hd : dt = .seq items n := hd
  subst hc hd
  refine callType_new F.called_enumerate (by decide) (F.typeCall_enumerate_1 _) (F.newCall_enumerate_1 _) (fun obj => F.args_object_init_2 obj _) F.entry_enumerate_new
    (rx_enum_newT l items n dct sl) ⟨hl, ?_⟩
  have hz : (s.heap.push { cls := .type "tuple_iterator", data := .fields #[.ref l, .int 0 0] }).objs.size = s.heap.objs.size + 1 := Heap.size_push ..
  show _ ∧ _
  rw [hz]
  have he : IsEnum ((s.heap.push { cls := .type "tuple_iterator", data := .fields #[.ref l, .int 0 0] }).push
      { cls := .type "enumerate", data := .fields #[.none, .bool false, .ref s.heap.objs.size, rawInt 0, .none, .none] }) (s.heap.objs.size + 1) s.heap.objs.size 0 .none := by
    have := Heap.get?_push_size (s.heap.push { cls := .type "tuple_iterator", data := .fields #[.ref l, .int 0 0] })
      (o := { cls := .type "enumerate", data := .fields #[.none, .bool false, .ref s.heap.objs.size, rawInt 0, .none, .none] }) rfl
    rw [hz] at this; exact this
  refine ⟨⟨_, he, rfl⟩, h _ he ⟨_, Heap.get?_push_of_some _ (Heap.get?_push_size _ rfl), rfl, rfl⟩ (by rw [Heap.size_push, hz]) fun b o x => Heap.get?_push_of_some _ (Heap.get?_push_of_some _ x)⟩
end
end PySem
namespace L2
open PySem PySem.Spec PyProof.Rows
/-! ### enumerate(tuple) -/
def IteT (K : PySem.W.Frag) (a : Addr) : It :=
  ⟨fun i H => ∃ (xs : List V) (x : V), SqT K H a xs ∧ xs[i]? = some x, fun i H v H' => ∃ T x, v = .ref T ∧ H T = none ∧ H' = upd H T (.tup [.int (i : Nat), x]) ∧ ∀ xs, SqT K H a xs → xs[i]? = some x, fun i H => ∃ xs : List V, SqT K H a xs ∧ xs.length ≤ i⟩
theorem turn_enumT {P : Program} {w : World} {K : PySem.W.Frag} {elts : List Expr} {kk : Nat} {tpos : Pos} (a e it : Addr) :
    Turn P w K (.Tuple elts kk tpos) (IteT K a) [e, it] e (fun i h => (∃ old, IsEnum h e it ((i : Nat) : Int) old) ∧ h.IsTupleIter it a i ∧ e ≠ it ∧ a ≠ it ∧ a ≠ e) where
  mem := by simp
  obj := fun i h st b hb => by
    obtain ⟨⟨old, he⟩, ⟨o, ho, hc, hd⟩, _⟩ := st
    have e' : b = e ∨ b = it := by simpa using hb
    rcases e' with z | z
    · rw [z]; exact ⟨_, he, fun v q => nomatch q⟩
    · rw [z]; exact ⟨o, ho, fun v q => by rw [hd] at q; cases q⟩
  keep := fun i h h' st k => by
    obtain ⟨⟨old, he⟩, ⟨o, ho, hc, hd⟩, hne⟩ := st
    exact ⟨⟨old, k e (by simp) _ he⟩, ⟨o, k it (by simp) _ ho, hc, hd⟩, hne⟩
  item := by
    intro X hP hw hK hc i pins s σ H E I hf st hg
    subst hP hw hK
    obtain ⟨⟨old, he⟩, hit, hne, hai, hae⟩ := st
    obtain ⟨xs, x, hq, hx⟩ := hg
    obtain ⟨its, rv, p, hz⟩ := I.tuple hq
    obtain ⟨u, hu, ru⟩ := rv.get hx
    have hel : e < s.heap.objs.size := Heap.lt_size he
    have hil : it < s.heap.objs.size := by obtain ⟨_, q, _⟩ := hit; exact Heap.lt_size q
    have hlt : i < its.toArray.size := by
      have := (List.getElem?_eq_some_iff.mp hu).1
      simpa using this
    have D := Draws.tuple (prog := X.prog) (w := X.w) (A := X.A.in1) (I.ok.hd hc) it a hai its.toArray
    refine wpAny_pyNext_enum_itemD D he ⟨hit, p⟩ hlt hne (by simp [hne, Ne.symm hae]) fun y h' tk hy ho hst hT hsz hk => ?_
    have hyu : y = u := by
      have e1 : its.toArray[i]? = some y := hy
      have e2 : its.toArray[i]? = some u := by simpa using hu
      rw [e2] at e1
      exact (Option.some.inj e1).symm
    subst hyu
    refine ⟨_, rfl, wpAny_letOwnedTupleGo_enum (s := { s with heap := h', toks := tk + 1 }) ho fun h'' he' sb => ?_⟩
    have hT2 : h''.get? s.heap.objs.size = some { cls := .type "tuple", data := .seq #[.int i tk, y] } := (sb.2 _ (Nat.ne_of_gt hel)).trans hT
    have new : ObjOk X.prog X.w (upd H s.heap.objs.size (.tup [.int (i : Nat), x])) h'' s.heap.objs.size (.tup [.int (i : Nat), x]) :=
      ⟨by show 2 ≤ sizeLine; decide, [.int i tk, y], .cons ⟨_, rfl⟩ (.cons ru .nil), ⟨_, hT2, rfl, _, rfl⟩⟩
    have I1 : Inv X pins σ (upd H s.heap.objs.size (.tup [.int (i : Nat), x])) { s with heap := h'', toks := tk + 1 } :=
      I.turnedNew (ch := [e, it]) (fun b ob hb q => (sb.2 b (fun z => hb (by simp [z]))).trans (hk b ob (fun z => hb (by simp [z])) (fun z => hb (by simp [z])) q)) hf (Nat.le_refl _) new
    refine ⟨.ref s.heap.objs.size, _, I1, rfl, ⟨_, x, rfl, I.hok.fresh (Nat.le_refl _), rfl, fun ys hy => by rw [I.tuple_inj hy hq]; exact hx⟩, ⟨⟨y, ?_⟩, ?_, hne, hai, hae⟩, fun b hb => ?_⟩
    · have e1 : ((i + 1 : Nat) : Int) = (i : Int) + 1 := by omega
      rw [e1]; exact he'
    · obtain ⟨o, ho', hc', hd'⟩ := hst.1
      exact ⟨o, (sb.2 it (Ne.symm hne)).trans ho', hc', hd'⟩
    · have hb' : b < s.heap.objs.size := by
        have e' : b = e ∨ b = it := by simpa using hb
        rcases e' with z | z
        · rw [z]; exact hel
        · rw [z]; exact hil
      rw [upd_ne (Nat.ne_of_lt hb')]
      exact (hf b hb).1
  done := by
    intro X hP hw hK hc i pins s σ H E I hf st hg
    subst hP hw hK
    obtain ⟨⟨old, he⟩, hit, hne, hai, hae⟩ := st
    obtain ⟨xs, hq, hx⟩ := hg
    obtain ⟨its, rv, p, hz⟩ := I.tuple hq
    obtain ⟨f0, f1, f2, f3, f4, f5⟩ := hf it (by simp)
    have hl := rv.length
    unfold pyNext
    have hTy : s.TypeIs (.ref e) "enumerate" := ⟨_, he, rfl⟩
    refine wpAny_bind (wpAny_attempt (wpAny_callSpecial?_slot (name := Str.ofString "__next__") hTy PySem.F.slot_enumerate_next
      (wpAny_call_entry PySem.F.slot_enumerate_next hTy PySem.F.entry_enumerate_next ?_ (PySem.F.args_enumerate_next_1 _))))
    show wpAny _ _ (field (.ref e) 2 >>= _) _ _ _
    refine wpAny_bind (wpAny_field he rfl (x := .ref it) rfl ?_)
    refine wpAny_bind (wpAny_nextOf_tuple_end (I.ok.hd hc) hit p (by simp; omega) fun h' x he' hx' => ?_)
    obtain ⟨o, ho, hc⟩ := hx'
    refine wpAny_bind (wpAny_isInstance (T := "StopIteration") (b := true) ⟨o, ho, hc⟩ isSubtype_stop ?_)
    exact wpAny_pure ⟨rfl, I.turned (t' := s.toks) (fun b o hb q => he' b o hb q) f0 f1 f3 f4 f5⟩
  self := fun A i s Q E st h => let ⟨⟨_, he⟩, _⟩ := st; wpAny_pyIter_enum he h
def iEnumT (K : PySem.W.Frag) (ta : TA) : TI := fun σ H R => ta σ H fun vs H1 => ∃ a xs, vs = [.ref a] ∧ SqT K H1 a xs ∧ R (IteT K a) H1
theorem pi_enumT {X : Cx} {e : Expr} {ta : TA} {p pos tpos : Pos} {elts : List Expr} {kk : Nat} (hg : Gl X "enumerate") (hm : X.mg "enumerate" = none) (ha : PA X [e] ta) (hs : starEach [e] X.env = [(false, eval e X.env)] := by rfl) :
    PI X (.Tuple elts kk tpos) (.Call (.Name "enumerate" p) [e] [] pos) (iEnumT X.K ta) := by
  refine ⟨fun pins s σ H R I h => ?_⟩
  refine Call_ (ld_blt I hg hm boot_enumerate (PyProof.Rows.callWith_type1 (thn (ha.run pos pins s σ H _ I h) fun us s1 ⟨vs, H1, I1, r1, q1⟩ => ?_) hs rfl))
  obtain ⟨a, xs, ex, hq, q⟩ := q1
  subst ex
  cases r1 with
  | cons r rr =>
    cases rr
    cases r
    obtain ⟨its, rv, p', hz⟩ := I1.tuple hq
    have hal : a < s1.heap.objs.size := by obtain ⟨_, q, _⟩ := p'; exact Heap.lt_size q
    refine rx_call_enumT p' fun h' he hit hsz hk => wpAny_pyIter_enum he ?_
    have I2 : Inv X pins σ H1 { s1 with heap := h' } := I1.kept (t' := s1.toks) hk
    refine ⟨s1.heap.objs.size + 1, [s1.heap.objs.size + 1, s1.heap.objs.size], _, _, H1, rfl, I2, turn_enumT a (s1.heap.objs.size + 1) s1.heap.objs.size, ⟨⟨.none, he⟩, hit, Nat.succ_ne_self _, Nat.ne_of_lt hal, Nat.ne_of_lt (Nat.lt_succ_of_lt hal)⟩, fun b hb => ?_, q⟩
    have e' : b = s1.heap.objs.size + 1 ∨ b = s1.heap.objs.size := by simpa using hb
    have hle : s1.heap.objs.size ≤ b := by
      rcases e' with z | z
      · rw [z]; exact Nat.le_add_right _ _
      · rw [z]; exact Nat.le_refl _
    exact I1.fpOk hle (I1.hok.fresh hle)
theorem for_enumT {K : PySem.W.Frag} {a : Addr} {xs : List V} {g : TG} {tb : TS} {D : Ends} {σ : St} {H : Hp} (Pv : Nat → St → Hp → Prop) (h0 : Pv 0 σ H) (hl : ∀ i σ H, i ≤ xs.length → Pv i σ H → SqT K H a xs)
    (hs : ∀ i x σ H T, xs[i]? = some x → Pv i σ H → H T = none → g (.ref T) σ (upd H T (.tup [.int (i : Nat), x])) fun σ2 H2 => tb { D with nx := Pv (i + 1), ct := Pv (i + 1), bk := D.nx } σ2 H2) (hd : ∀ σ H, Pv xs.length σ H → D.nx σ H) :
    ∃ W : Nat → Nat → St → Hp → Prop, (∃ m, W 0 m σ H) ∧ ∀ i m σ H, W i m σ H →
      ((IteT K a).stop i H ∧ D.nx σ H) ∨ ((IteT K a).go i H ∧ ∃ N : St → Hp → Prop, (∀ σ' H', N σ' H' → ∃ m', m' < m ∧ W (i + 1) m' σ' H') ∧ ∀ x H', (IteT K a).yld i H x H' → g x σ H' fun σ2 H2 => tb { D with nx := N, ct := N, bk := D.nx } σ2 H2) := by
  refine ⟨fun i m σ H => m = xs.length - i ∧ i ≤ xs.length ∧ Pv i σ H, ⟨xs.length, by simp, Nat.zero_le _, h0⟩, ?_⟩
  rintro i m σ H ⟨rfl, hi, p⟩
  have q := hl i σ H hi p
  by_cases hlt : i < xs.length
  · refine .inr ⟨⟨xs, xs[i], q, by simp [hlt]⟩, Pv (i + 1), fun σ' H' p' => ⟨xs.length - (i + 1), by omega, rfl, hlt, p'⟩, fun x H' y => ?_⟩
    obtain ⟨T, z, e1, e2, e3, e4⟩ := y
    subst e1 e3
    exact hs i z σ H T (e4 xs q) p e2
  · have e : i = xs.length := by omega
    subst e
    exact .inl ⟨⟨xs, q, Nat.le_refl _⟩, hd σ H p⟩
end L2

namespace L2
open PySem PySem.Spec PyProof.Rows PyProof.V
/-! ### sum of a tuple of ints -/
theorem sum_rawT {prog : Program} {w : World} {A : Around} {E : Value → Shared → Prop} {s : Shared} {l : Addr} {its : List Value} {ns : List Int} {Q : Value → Shared → Prop} (hh : A.handled = none) (hl : s.heap.IsTuple l its.toArray) (hi : IntsAre its ns)
    (h : ∀ h' tk t', (∀ b o, s.heap.get? b = some o → h'.get? b = some o) → Q (.int ns.sum t') { s with heap := h', toks := tk }) : wpAny (model prog w) A (call (.builtin "sum") [.ref l]) Q E s := by
  obtain ⟨xs, hx⟩ := hi.allInts.items
  have hn : numsOf its.toArray.toList = ns := by rw [show its.toArray.toList = its from rfl, hi.numsOf]
  rw [hx] at hl hn
  rw [nums_intItems] at hn
  refine PySem.W.ktm_sumG hh hl fun h' tk t' hk => ?_
  have z := h h' tk t' hk
  rw [preSum_eq, List.take_of_length_le (by simp), hn]
  exact z
section
variable {X : Cx}
def rSumT (K : PySem.W.Frag) : List V → Hp → VK → Prop := fun vs H Q => ∃ (a : Addr) (ns : List Int), vs = [V.ref a] ∧ SqT K H a (ns.map V.int) ∧ Q (.int ns.sum) H
theorem cr_sumT (hc : X.calm = true) : CallR X (.builtin "sum") (rSumT X.K) := by
  intro pins s σ H vs us Q I r h
  obtain ⟨a, ns, rfl, hs, q⟩ := h
  obtain ⟨its, rv, hl, _⟩ := I.tuple hs
  rw [Vals.ref1 r]
  exact sum_rawT (I.ok.hd hc) hl rv.ints fun h' tk t' hk => ⟨.int _, H, I.kept hk, ⟨_, rfl⟩, q⟩
end
/-! ### def f(self, *v, k = ..), called with one keyword -/
def FnSK (P : Program) (w : World) (K : PySem.W.Frag) (mg : Str → Option Value) (base : Heap) (CX : CXT) (k : Nat) (f : Addr) (kn : Str) (sp : Sp) : Prop :=
  ∀ (A : Around) (outer : List Env) (s : Shared) (H : Hp) (u0 : Value) (us : List Value) (uw : Value) (v0 : V) (vs : List V) (vw : V) (Q : VK) (E : XK), Room k A → Env0 P w K mg base A outer s H → RelV v0 u0 → Vals vs us → RelV vw uw → vs ≠ [] → vs.length ≤ sizeLine →
    (∀ p, H p = none → sp [v0, vw, .ref p] (upd H p (.tup vs)) Q E) →
    codeAny (model P w) A (.call (.ref f) ⟨u0 :: us, [(kn, uw)]⟩) (CR CX outer P w H s Q E) s
section
variable {CX : CXT} {P : Program} {w : World} {K : PySem.W.Frag} {mg : Str → Option Value} {base : Heap} {k : Nat} {f : Addr} {x qual : Str} {params : Arguments} {body : List Stmt} {scope : Scope} {dvs : List V} {kws : List (Str × V)} {fd : FuncData} {N : List Str} {sp : Sp} {p0 pv kn : Str}
theorem FunD.okSK (F : FunD K x qual params body scope dvs kws f fd) (S : FnScope N [p0, kn, pv] scope) (hdv : dvs = []) (hCX : StX.CXUp CX)
    (hb : ∀ (kV doc pm : Value) (an : Option Addr) (cdv ct : Value) (u0 r : Value) (rs : List Value) (uw : Value), bindArgs (PySem.W.fnOf x qual params body scope .none kV doc pm an cdv ct) ⟨u0 :: r :: rs, [(kn, uw)]⟩ = (newTuple (r :: rs) >>= fun t => pure [(p0, u0), (kn, uw), (pv, t)]))
    (hbody : ∀ (cdv : Value) (A : Around) (outer : List Env) (s : Shared) (H : Hp) (vs : List V) (Q : VK) (E : XK), Room k (A.deeper (envOfC qual scope s.heap.objs.size f cdv)) → vs.length = 3 → sp vs H Q E →
      ∃ t, PSs (cxOf CX P w K mg base N qual scope f cdv A outer s H E) body t ∧ t { nx := fun _ H' => Q .non H', rt := Q } (start N vs) H) :
    FnSK P w K mg base CX (k + 1) f kn sp := by
  obtain ⟨oc, od, dV, kV, doc, pm, an, cdv, ct, osl, rfl, lk, hcd, hD, _⟩ := F.ex
  obtain rfl : dV = .none := by
    rcases hD with ⟨_, e⟩ | ⟨e, _⟩
    · exact e
    · exact absurd hdv e
  intro A outer s H u0 us uw v0 vs vw Q E hr e0 r0 r rw' hne hz hq
  have hn : H s.heap.objs.size = Option.none := e0.hok.fresh (Nat.le_refl _)
  have hl2 : us.length ≤ sizeLine := by rw [← r.length]; exact hz
  refine StX.run_bnd lk hcd S hr e0 (G := fun xs H2 => ∃ p, H p = Option.none ∧ xs = [v0, vw, V.ref p] ∧ H2 = upd H p (.tup vs)) (fun A' Ex Q' h => ?_) fun s2 H2 xs hh hr' => ?_
  · cases us with
    | nil => cases r; exact absurd rfl hne
    | cons u us =>
      rw [hb]
      refine wpAny_bind (wpAny_newTuple (wpAny_pure ?_) hl2)
      have new : ObjOk P w (upd H s.heap.objs.size (.tup vs)) (s.heap.push ({ cls := .type "tuple", data := .seq (u :: us).toArray } : Obj)) s.heap.objs.size (.tup vs) := ⟨hz, u :: us, r, ⟨_, Heap.get?_push_size _ rfl, rfl, _, rfl⟩⟩
      have un := StX.un_laid (fs := frs outer) (s := s) (o := ({ cls := .type "tuple", data := .seq (u :: us).toArray } : Obj)) (u := .tup vs) hn
      exact h _ _ [v0, vw, V.ref s.heap.objs.size] [u0, uw, Value.ref s.heap.objs.size] (StX.env0_laid e0 new) un rfl (fun e s' => hCX outer s H _ _ E e s' un (fun b o q => Heap.get?_push_of_some _ q) rfl) (.cons r0 (.cons rw' (.cons rfl .nil))) rfl ⟨_, hn, rfl, rfl⟩
  · obtain ⟨p, hp, ex, eH⟩ := hh
    subst ex eH
    exact hbody cdv A outer s2 _ _ Q E hr' rfl (hq p hp)
end
section
variable {X : Cx} {CX : CXT} {k : Nat} {f C : Addr} {sp : Sp} {E : XK} {x kn : Str} {p pos kpos : Pos} {e ke : Expr} {es : List Expr} {t : TA} {tk : TE}
/-- C(e, .., k = v) -/
def tMakeSK (C : Addr) (sp : Sp) (E : XK) (t : TA) (tk : TE) : TE := fun σ H Q => t σ H fun vs H1 => tk σ H1 fun z H2 => vs ≠ [] ∧ vs.length ≤ sizeLine ∧
  ∀ x dx pt, H2 x = none → H2 dx = none → dx ≠ x → H2 pt = none → pt ≠ x → pt ≠ dx → sp [.ref x, z, .ref pt] (upd (upd (upd H2 dx (.own x)) x (.ins C dx [])) pt (.tup vs)) (fun v H3 => v = .non ∧ Q (.ref x) H3) E
theorem pe_makeSK (M : Mk X.K C f) (F : FnSK X.prog X.w X.K X.mg X.base CX k f kn sp) (hr : Room (k + 1) X.A) (hg : Gl X x) (hm : X.mg x = some (.ref C)) (hx : Passes CX X E) (ha : PA X (e :: es) t) (hk : PE X ke tk)
    (hdb : (x == ("__debug__" : Str)) = false := by decide) (he : starEach (e :: es) X.env = (false, eval e X.env) :: starEach es X.env := by rfl)
    (hall : (backToKw pos (keywordEach [⟨some kn, ke, kpos⟩] X.env)).all (·.1.isSome) = true := by rfl) (hks : (backToKw pos (keywordEach [⟨some kn, ke, kpos⟩] X.env)).filterMap (·.1) = [kn] := by rfl)
    (hpl : ((backTo pos (starEach (e :: es) X.env)).any (·.1) || (backToKw pos (keywordEach [⟨some kn, ke, kpos⟩] X.env)).any (·.1.isNone)) = false := by rfl) :
    PE X (.Call (.Name x p) (e :: es) [⟨some kn, ke, kpos⟩] pos) (tMakeSK C sp E t tk) := by
  refine ⟨fun pins s σ H Q I h => ?_⟩
  refine wpAny_Call_Name_kw (ld_glob I hg hm ?_ hdb)
  refine PySem.W.callWith_KW (h₀ := X.base) I.ok.mod.kin M.kp hall (thn (ha.run pos pins s σ H _ I h) fun us s1 hh => ?_) hpl he
  obtain ⟨vs, H1, I1, r, q⟩ := hh
  have hkw : PK X [⟨some kn, ke, kpos⟩] (tCons tk tNil) := pk_cons hk pk_nil
  refine thn (hkw.run pos pins s1 σ H1 (fun zs H2 => match zs with
    | [z] => vs ≠ [] ∧ vs.length ≤ sizeLine ∧ ∀ x dx pt, H2 x = none → H2 dx = none → dx ≠ x → H2 pt = none → pt ≠ x → pt ≠ dx → sp [.ref x, z, .ref pt] (upd (upd (upd H2 dx (.own x)) x (.ins C dx [])) pt (.tup vs)) (fun v H3 => v = .non ∧ Q (.ref x) H3) E
    | _ => False) I1 q) fun ws s2 hh => ?_
  obtain ⟨zs, H2, I2, rz, hh⟩ := hh
  cases rz with
  | nil => exact hh.elim
  | cons rz1 rz2 =>
    cases rz2 with
    | cons _ _ => exact hh.elim
    | nil =>
    obtain ⟨hne, hz, q2⟩ := hh
    rename_i z uw
    refine ⟨I2.kIn, ?_⟩
    rw [hks]
    show wpAny _ _ (call (.ref C) us [(kn, uw)]) _ _ _
    have I3 := Inv.made (C := C) I2
    refine wpAny_call (make_map (f := f) I2.kIn M.makes M.init (beq_iff_eq.mp M.fn) (codeAny_mono (F _ X.stack _ _ (Value.ref (s2.heap.objs.size + 1)) us uw (V.ref (s2.heap.objs.size + 1)) vs z (fun v H3 => v = .non ∧ Q (.ref (s2.heap.objs.size + 1)) H3) E (hr.make C us [(kn, uw)])
      (I3.env0.make C us [(kn, uw)]) rfl r rz1 hne hz fun pt hpt => ?_) fun r s' hq' => ?_))
    · have n0 := I2.hok.fresh (a := s2.heap.objs.size + 1) (Nat.le_succ _)
      have n1 := I2.hok.fresh (a := s2.heap.objs.size) (Nat.le_refl _)
      have hp1 : pt ≠ s2.heap.objs.size + 1 := fun e => by rw [e, upd_same] at hpt; cases hpt
      rw [upd_ne hp1] at hpt
      have hp2 : pt ≠ s2.heap.objs.size := fun e => by rw [e, upd_same] at hpt; cases hpt
      rw [upd_ne hp2] at hpt
      exact q2 _ _ pt n0 n1 (Nat.ne_of_lt (Nat.lt_succ_self _)) hpt hp1 hp2
    · cases r with
      | error e => exact hx pins σ _ _ e s' I3 hq'
      | ok fl =>
        cases fl with
        | ret u =>
          obtain ⟨v, H', I4, rv, ev, q3⟩ := I3.after hq'
          subst ev
          exact ⟨rv, ⟨V.ref (s2.heap.objs.size + 1), H', I4, rfl, q3⟩⟩
        | next => exact False.elim hq'
        | brk => exact False.elim hq'
        | cont => exact False.elim hq'
end
end L2

/-! data that are tuples of ints; slices -/
namespace L2
open PySem PySem.Spec PyProof.Rows
theorem dpAll_ints {K : PySem.W.Frag} {H : Hp} : ∀ ns : List Int, DpAll K H (ns.map V.int) (ns.map PyData.int)
  | [] => .nil
  | n :: r => .cons (.int n) (dpAll_ints r)
theorem dp_ints {K : PySem.W.Frag} {H : Hp} {a : Addr} {ns : List Int} (h : SqT K H a (ns.map V.int)) : Dp K H (.ref a) (.tuple (ns.map PyData.int)) := .tup h (dpAll_ints ns)
theorem eqvAll_ints : ∀ a b : List Int, PyData.eqvAll (a.map PyData.int) (b.map PyData.int) = decide (a = b)
  | [], [] => rfl
  | [], _ :: _ => rfl
  | _ :: _, [] => rfl
  | x :: a, y :: b => by
    show (PyData.eqv (.int x) (.int y) && PyData.eqvAll (a.map PyData.int) (b.map PyData.int)) = _
    rw [eqvAll_ints a b]
    show ((x == y) && decide (a = b)) = _
    by_cases h : x = y
    · by_cases h2 : a = b
      · subst h h2; simp
      · simp [h, h2]
    · simp [h]
theorem eqv_ints (a b : List Int) : PyData.eqv (.tuple (a.map PyData.int)) (.tuple (b.map PyData.int)) = decide (a = b) := eqvAll_ints a b
theorem canLayAll_ints : ∀ a : List Int, PyData.canLayAll0 (a.map PyData.int) = true
  | [] => rfl
  | x :: a => by
    show (PyData.canLay0 (.int x) && PyData.canLayAll0 (a.map PyData.int)) = true
    rw [canLayAll_ints a]
    rfl
theorem depthAll_ints : ∀ a : List Int, PyData.depthAll (a.map PyData.int) = 0
  | [] => rfl
  | x :: a => by
    show max 0 (PyData.depthAll (a.map PyData.int)) = 0
    rw [depthAll_ints a]
    rfl
theorem shaped_ints (a : List Int) : SeqAt.shaped (.tuple (a.map PyData.int)) = true := by
  show (PyData.canLayAll0 (a.map PyData.int) && decide (PyData.depthAll (a.map PyData.int) + 1 ≤ 64)) = true
  rw [canLayAll_ints, depthAll_ints]
  rfl
theorem cutV_to {α : Type} (f : α → V) (xs : List α) (i : Int) (h0 : 0 ≤ i) : cutV (xs.map f) none (some i) = (xs.take i.toNat).map f := by
  have e : i = ((i.toNat : Nat) : Int) := by omega
  unfold cutV
  rw [HT.sIx_none, e, HT.sIx_nat]
  simp only [List.drop_zero, Nat.sub_zero, List.length_map, Int.toNat_natCast]
  rw [← List.map_take]
  congr 1
  by_cases h : i.toNat ≤ xs.length
  · rw [Nat.min_eq_left h]
  · rw [Nat.min_eq_right (by omega), List.take_of_length_le (Nat.le_refl _), List.take_of_length_le (by omega)]
theorem cut_part {n : Nat} {i : Int} (h0 : 0 ≤ i) (h1 : i < n) : ¬ (HT.sIx n 0 none = 0 ∧ HT.sIx n n (some i) = n) := by
  rintro ⟨_, h⟩
  have e : i = ((i.toNat : Nat) : Int) := by omega
  rw [e, HT.sIx_nat] at h
  omega
end L2
/-! ### grains -/
namespace Gr
theorem int_all {P : Int → Prop} (h0 : P 0) (hs : ∀ k, P k → P (k + 1)) (hp : ∀ k, P (k + 1) → P k) (k : Int) : P k := by
  have pos : ∀ n : Nat, P (n : Int) := fun n => by
    induction n with
    | zero => exact h0
    | succ n ih => exact hs _ ih
  have neg : ∀ n : Nat, P (-(n : Int)) := fun n => by
    induction n with
    | zero => exact h0
    | succ n ih => exact hp _ (by rw [show -((n + 1 : Nat) : Int) + 1 = -(n : Int) by omega]; exact ih)
  by_cases h : 0 ≤ k
  · have := pos k.toNat
    rwa [Int.toNat_of_nonneg h] at this
  · have := neg (-k).toNat
    rwa [Int.toNat_of_nonneg (by omega), Int.neg_neg] at this
/-- the first moment of cell k of the grain with these lengths and this start -/
def firstOf (ls : List Int) (st k : Int) : Int := st + k / ls.length * ls.sum + (ls.take (k % ls.length).toNat).sum
/-- the length of cell k -/
def lenAt (ls : List Int) (k : Int) : Int := ls.getD (k % ls.length).toNat 0
theorem sum_take_succ (ls : List Int) : ∀ i : Nat, (ls.take (i + 1)).sum = (ls.take i).sum + ls.getD i 0 := by
  induction ls with
  | nil => intro i; simp
  | cons a r ih =>
    intro i
    cases i with
    | zero => simp
    | succ i =>
      have := ih i
      simp only [List.take_succ_cons, List.sum_cons, List.getD_cons_succ] at this ⊢
      omega
theorem firstOf_zero {ls : List Int} {st : Int} : firstOf ls st 0 = st := by
  unfold firstOf
  simp
theorem firstOf_succ {ls : List Int} {st : Int} (hn : ls ≠ []) (k : Int) : firstOf ls st (k + 1) = firstOf ls st k + lenAt ls k := by
  have hp : 0 < ls.length := List.length_pos_iff.mpr hn
  have hpi : (0 : Int) < ls.length := by omega
  unfold firstOf lenAt
  have h1 := Int.emod_nonneg k (show (ls.length : Int) ≠ 0 by omega)
  have h2 := Int.emod_lt_of_pos k hpi
  have h3 := Int.mul_ediv_add_emod k ls.length
  generalize hq : k / (ls.length : Int) = q at *
  generalize hr : k % (ls.length : Int) = r at *
  by_cases hlt : r + 1 < ls.length
  · have e1 : (k + 1) / (ls.length : Int) = q := by
      rw [← h3, show (ls.length : Int) * q + r + 1 = r + 1 + ls.length * q by omega, Int.add_mul_ediv_left _ _ (by omega), Int.ediv_eq_zero_of_lt (by omega) hlt]
      omega
    have e2 : (k + 1) % (ls.length : Int) = r + 1 := by
      rw [← h3, show (ls.length : Int) * q + r + 1 = r + 1 + ls.length * q by omega, Int.add_mul_emod_self_left, Int.emod_eq_of_lt (by omega) hlt]
    rw [e1, e2, show (r + 1).toNat = r.toNat + 1 by omega, sum_take_succ]
    omega
  · have hr1 : r + 1 = ls.length := by omega
    have hk : k + 1 = (ls.length : Int) * (q + 1) := by rw [← h3, Int.mul_add]; omega
    have e1 : (k + 1) / (ls.length : Int) = q + 1 := by rw [hk]; exact Int.mul_ediv_cancel_left _ (by omega)
    have e2 : (k + 1) % (ls.length : Int) = 0 := by rw [hk]; exact Int.mul_emod_right _ _
    rw [e1, e2]
    have e3 : ls.sum = (ls.take r.toNat).sum + ls.getD r.toNat 0 := by
      rw [← sum_take_succ, List.take_of_length_le (by omega)]
    have e4 : (q + 1) * ls.sum = q * ls.sum + ls.sum := by rw [Int.add_mul, Int.one_mul]
    rw [e4, show ((0 : Int)).toNat = 0 from rfl, List.take_zero, List.sum_nil]
    omega
/-- two maps with one start and the same steps are one -/
theorem same_of_steps {f g : Int → Int} (h0 : f 0 = g 0) (hs : ∀ k, f (k + 1) - f k = g (k + 1) - g k) (k : Int) : f k = g k :=
  int_all (P := fun k => f k = g k) h0 (fun k h => by have := hs k; omega) (fun k h => by have := hs k; omega) k
theorem lenAt_pos {ls : List Int} (hn : ls ≠ []) (hp : ∀ x ∈ ls, 0 < x) (k : Int) : 0 < lenAt ls k := by
  have hl : 0 < ls.length := List.length_pos_iff.mpr hn
  have h1 := Int.emod_nonneg k (show (ls.length : Int) ≠ 0 by omega)
  have h2 := Int.emod_lt_of_pos k (show (0 : Int) < ls.length by omega)
  unfold lenAt
  have hi : (k % (ls.length : Int)).toNat < ls.length := by omega
  rw [List.getD_eq_getElem?_getD, List.getElem?_eq_getElem hi]
  exact hp _ (List.getElem_mem hi)
theorem firstOf_lt {ls : List Int} {st : Int} (hn : ls ≠ []) (hp : ∀ x ∈ ls, 0 < x) {a b : Int} (h : a < b) : firstOf ls st a < firstOf ls st b := by
  have key : ∀ n : Nat, firstOf ls st a < firstOf ls st (a + 1 + n) := fun n => by
    induction n with
    | zero =>
      have := firstOf_succ (st := st) hn a
      have := lenAt_pos hn hp a
      rw [show a + 1 + ((0 : Nat) : Int) = a + 1 by omega]
      omega
    | succ n ih =>
      have := firstOf_succ (st := st) hn (a + 1 + n)
      have := lenAt_pos hn hp (a + 1 + n)
      rw [show a + 1 + ((n + 1 : Nat) : Int) = a + 1 + n + 1 by omega]
      omega
  have := key (b - a - 1).toNat
  rwa [Int.toNat_of_nonneg (by omega), show a + 1 + (b - a - 1) = b by omega] at this
theorem firstOf_le {ls : List Int} {st : Int} (hn : ls ≠ []) (hp : ∀ x ∈ ls, 0 < x) {a b : Int} (h : a ≤ b) : firstOf ls st a ≤ firstOf ls st b := by
  rcases Int.lt_or_eq_of_le h with h | h
  · exact Int.le_of_lt (firstOf_lt hn hp h)
  · rw [h]; exact Int.le_refl _
/-- x lies in cell k -/
def InCell (ls : List Int) (st x k : Int) : Prop := firstOf ls st k ≤ x ∧ x < firstOf ls st (k + 1)
theorem inCell_unique {ls : List Int} {st x a b : Int} (hn : ls ≠ []) (hp : ∀ x ∈ ls, 0 < x) (ha : InCell ls st x a) (hb : InCell ls st x b) : a = b := by
  obtain ⟨a1, a2⟩ := ha
  obtain ⟨b1, b2⟩ := hb
  rcases Int.lt_trichotomy a b with h | h | h
  · have := firstOf_le (st := st) hn hp (show a + 1 ≤ b by omega)
    omega
  · exact h
  · have := firstOf_le (st := st) hn hp (show b + 1 ≤ a by omega)
    omega
theorem inCell_first {ls : List Int} {st k : Int} (hn : ls ≠ []) (hp : ∀ x ∈ ls, 0 < x) : InCell ls st (firstOf ls st k) k := ⟨Int.le_refl _, firstOf_lt hn hp (by omega)⟩
theorem inCell_before {ls : List Int} {st k : Int} (hn : ls ≠ []) (hp : ∀ x ∈ ls, 0 < x) : InCell ls st (firstOf ls st k - 1) (k - 1) := by
  have h := firstOf_lt (st := st) hn hp (show k - 1 < k by omega)
  refine ⟨by omega, ?_⟩
  rw [show k - 1 + 1 = k by omega]
  omega
/-! the shortest row -/
theorem get_rep (s : List Int) : ∀ (m i : Nat), i < m * s.length → ((List.replicate m s).flatten)[i]? = s[i % s.length]? := by
  intro m
  induction m with
  | zero => intro i h; simp at h
  | succ m ih =>
    intro i h
    rw [List.replicate_succ, List.flatten_cons]
    by_cases hi : i < s.length
    · rw [List.getElem?_append_left hi, Nat.mod_eq_of_lt hi]
    · rw [List.getElem?_append_right (by omega), ih (i - s.length) (by rw [Nat.succ_mul] at h; omega)]
      congr 1
      rw [Nat.mod_eq_sub_mod (show i ≥ s.length by omega)]
theorem len_rep (s : List Int) (m : Nat) : ((List.replicate m s).flatten).length = m * s.length := by
  induction m with
  | zero => simp
  | succ m ih => rw [List.replicate_succ, List.flatten_cons, List.length_append, ih, Nat.succ_mul, Nat.add_comm]
theorem lenAt_rep {s : List Int} {m : Nat} (hm : 0 < m) (hs : s ≠ []) (k : Int) : lenAt ((List.replicate m s).flatten) k = lenAt s k := by
  have hl : 0 < s.length := List.length_pos_iff.mpr hs
  have hpos : 0 < m * s.length := Nat.mul_pos hm hl
  unfold lenAt
  rw [len_rep]
  have h1 := Int.emod_nonneg k (show ((m * s.length : Nat) : Int) ≠ 0 by omega)
  have h2 := Int.emod_lt_of_pos k (show (0 : Int) < ((m * s.length : Nat) : Int) by omega)
  have hi : (k % ((m * s.length : Nat) : Int)).toNat < m * s.length := by omega
  rw [List.getD_eq_getElem?_getD, List.getD_eq_getElem?_getD, get_rep s m _ hi]
  congr 2
  have e : ((k % ((m * s.length : Nat) : Int)).toNat % s.length : Nat) = (k % (s.length : Int)).toNat := by
    have e1 : (((k % ((m * s.length : Nat) : Int)).toNat % s.length : Nat) : Int) = k % (s.length : Int) := by
      rw [Int.natCast_emod, Int.toNat_of_nonneg h1]
      exact Int.emod_emod_of_dvd k ⟨(m : Int), by rw [Int.natCast_mul, Int.mul_comm]⟩
    omega
  exact e
theorem firstOf_rep {s : List Int} {m : Nat} {st : Int} (hm : 0 < m) (hs : s ≠ []) (k : Int) : firstOf ((List.replicate m s).flatten) st k = firstOf s st k := by
  have hl : 0 < s.length := List.length_pos_iff.mpr hs
  have hne : (List.replicate m s).flatten ≠ [] := by
    intro e
    have := len_rep s m
    rw [e] at this
    have hpos : 0 < m * s.length := Nat.mul_pos hm hl
    simp at this
    omega
  refine same_of_steps (by rw [firstOf_zero, firstOf_zero]) (fun k => ?_) k
  rw [firstOf_succ hne, firstOf_succ hs, lenAt_rep hm hs]
  omega
/-- size makes a shorter row -/
def fits (ls : List Int) (size : Nat) : Bool := decide (ls.length % size = 0) && decide (ls = (List.replicate (ls.length / size) (ls.take size)).flatten)
/-- the row that shortest_row gives: by the first size that fits -/
def shortest (ls : List Int) : List Int := match (List.range' 1 (ls.length - 1)).find? (fits ls) with
  | some k => ls.take k
  | none => ls
/-- a row and its shortest one -/
def Rep (ls s : List Int) : Prop := s ≠ [] ∧ ∃ m : Nat, 0 < m ∧ ls = (List.replicate m s).flatten
theorem shortest_rep {ls : List Int} (hn : ls ≠ []) : Rep ls (shortest ls) := by
  have hl : 0 < ls.length := List.length_pos_iff.mpr hn
  unfold shortest
  cases e : (List.range' 1 (ls.length - 1)).find? (fits ls) with
  | none => exact ⟨hn, 1, by decide, by simp⟩
  | some k =>
    have hk := List.find?_some e
    have hm := List.mem_of_find?_eq_some e
    rw [List.mem_range'_1] at hm
    obtain ⟨h1, h2⟩ := Bool.and_eq_true_iff.mp hk
    refine ⟨fun z => ?_, ls.length / k, Nat.div_pos (by omega) (by omega), of_decide_eq_true h2⟩
    have z' : ls.take k = [] := z
    have : (ls.take k).length = 0 := by rw [z']; rfl
    rw [List.length_take] at this
    omega
theorem Rep.first {ls s : List Int} {st : Int} (h : Rep ls s) (k : Int) : firstOf s st k = firstOf ls st k := by
  obtain ⟨hs, m, hm, rfl⟩ := h
  exact (firstOf_rep hm hs k).symm
theorem Rep.lenAt {ls s : List Int} (h : Rep ls s) (k : Int) : lenAt s k = lenAt ls k := by
  obtain ⟨hs, m, hm, rfl⟩ := h
  exact (lenAt_rep hm hs k).symm
theorem Rep.mem {ls s : List Int} (h : Rep ls s) {x : Int} (hx : x ∈ s) : x ∈ ls := by
  obtain ⟨hs, m, hm, rfl⟩ := h
  rw [List.mem_flatten]
  exact ⟨s, List.mem_replicate.mpr ⟨by omega, rfl⟩, hx⟩
theorem Rep.len {ls s : List Int} (h : Rep ls s) : s.length ≤ ls.length := by
  obtain ⟨hs, m, hm, rfl⟩ := h
  rw [len_rep]
  exact Nat.le_mul_of_pos_left _ hm
/-! sums -/
theorem sum_pos {ls : List Int} (hn : ls ≠ []) (hp : ∀ x ∈ ls, 0 < x) : 0 < ls.sum := by
  cases ls with
  | nil => exact absurd rfl hn
  | cons a r =>
    have h1 : 0 < a := hp a (by simp)
    have h2 : ∀ l : List Int, (∀ x ∈ l, 0 < x) → 0 ≤ l.sum := fun l => by
      induction l with
      | nil => intro _; simp
      | cons b t ih =>
        intro h
        have := h b (by simp)
        have := ih fun x hx => h x (List.mem_cons_of_mem _ hx)
        simp
        omega
    have := h2 r fun x hx => hp x (List.mem_cons_of_mem _ hx)
    simp
    omega
theorem sum_le {B : Int} : ∀ {ls : List Int}, (∀ x ∈ ls, 0 < x ∧ x ≤ B) → 0 ≤ ls.sum ∧ ls.sum ≤ ls.length * B
  | [], _ => by simp
  | a :: r, h => by
    have h1 := h a (by simp)
    have h2 := sum_le (ls := r) fun x hx => h x (List.mem_cons_of_mem _ hx)
    simp only [List.sum_cons, List.length_cons]
    have e : ((r.length + 1 : Nat) : Int) * B = r.length * B + B := by rw [Int.natCast_add, Int.add_mul]; simp
    omega
/-- the lengths are those of a grain -/
structure Row (ls : List Int) : Prop where
  ne : ls ≠ []
  len : ls.length ≤ 12
  pos : ∀ x ∈ ls, 0 < x ∧ x ≤ 10 ^ 15
theorem Row.p {ls : List Int} (h : Row ls) : ∀ x ∈ ls, 0 < x := fun x hx => (h.pos x hx).1
theorem Row.sum {ls : List Int} (h : Row ls) : 0 < ls.sum ∧ ls.sum ≤ 12 * 10 ^ 15 := by
  have h1 := sum_le h.pos
  have h2 := h.len
  refine ⟨sum_pos h.ne h.p, ?_⟩
  have : (ls.length : Int) * 10 ^ 15 ≤ 12 * 10 ^ 15 := Int.mul_le_mul_of_nonneg_right (by omega) (by decide)
  omega
theorem Row.short {ls s : List Int} (h : Row ls) (r : Rep ls s) : Row s := ⟨r.1, Nat.le_trans r.len h.len, fun x hx => h.pos x (r.mem hx)⟩
end Gr
namespace Gr
/-- lengths are at least 1: the number of a cell is near -/
theorem firstOf_ge {ls : List Int} {st : Int} (hn : ls ≠ []) (hp : ∀ x ∈ ls, 0 < x) {k : Int} (h : 0 ≤ k) : st + k ≤ firstOf ls st k := by
  have key : ∀ n : Nat, st + n ≤ firstOf ls st n := fun n => by
    induction n with
    | zero => rw [show ((0 : Nat) : Int) = 0 from rfl, firstOf_zero]; omega
    | succ n ih =>
      have := firstOf_succ (st := st) hn n
      have := lenAt_pos hn hp n
      rw [show ((n + 1 : Nat) : Int) = (n : Int) + 1 by omega]
      omega
  have := key k.toNat
  rwa [Int.toNat_of_nonneg h] at this
theorem firstOf_le_neg {ls : List Int} {st : Int} (hn : ls ≠ []) (hp : ∀ x ∈ ls, 0 < x) {k : Int} (h : k ≤ 0) : firstOf ls st k ≤ st + k := by
  have key : ∀ n : Nat, firstOf ls st (-(n : Int)) ≤ st + -(n : Int) := fun n => by
    induction n with
    | zero => rw [show -((0 : Nat) : Int) = 0 from rfl, firstOf_zero]; omega
    | succ n ih =>
      have := firstOf_succ (st := st) hn (-((n + 1 : Nat) : Int))
      have := lenAt_pos hn hp (-((n + 1 : Nat) : Int))
      rw [show -((n + 1 : Nat) : Int) + 1 = -(n : Int) by omega] at *
      omega
  have := key (-k).toNat
  rwa [Int.toNat_of_nonneg (by omega), Int.neg_neg] at this
theorem inCell_bound {ls : List Int} {st x k : Int} (hn : ls ≠ []) (hp : ∀ x ∈ ls, 0 < x) (h : InCell ls st x k) : k.natAbs ≤ (x - st).natAbs + 1 := by
  obtain ⟨h1, h2⟩ := h
  by_cases hk : 0 ≤ k
  · have := firstOf_ge (st := st) hn hp hk
    omega
  · have := firstOf_le_neg (st := st) hn hp (show k + 1 ≤ 0 by omega)
    omega
theorem firstOf_bound {ls : List Int} {st k : Int} (hr : Row ls) {n : Nat} (hk : k.natAbs < 2 ^ n) (hn : 1 ≤ n) : (firstOf ls st k - st).natAbs < 2 ^ (n + 65) := by
  have hs := hr.sum
  have e15 : (10 : Int) ^ 15 = 1000000000000000 := by decide
  have h1 : (k / (ls.length : Int)).natAbs < 2 ^ n := Nat.lt_of_le_of_lt (Int.natAbs_ediv_le_natAbs _ _) hk
  have h2 : ls.sum.natAbs < 2 ^ 63 := by
    have e : (2 : Nat) ^ 63 = 9223372036854775808 := by decide
    omega
  have h3 := L2.wide_lt h1 h2
  have h4 : 0 ≤ (ls.take (k % (ls.length : Int)).toNat).sum ∧ (ls.take (k % (ls.length : Int)).toNat).sum ≤ 12 * 10 ^ 15 := by
    have a := sum_le (ls := ls.take (k % (ls.length : Int)).toNat) fun x hx => hr.pos x (List.mem_of_mem_take hx)
    have b := hr.len
    have c : (ls.take (k % (ls.length : Int)).toNat).length ≤ 12 := by rw [List.length_take]; omega
    have d : ((ls.take (k % (ls.length : Int)).toNat).length : Int) * 10 ^ 15 ≤ 12 * 10 ^ 15 := Int.mul_le_mul_of_nonneg_right (by omega) (by decide)
    omega
  have e2 : 2 ^ (n + 65) = 2 ^ (n + 63) * 4 := by rw [show n + 65 = n + 63 + 2 by omega, Nat.pow_add]
  have e3 : 2 ^ 64 ≤ 2 ^ (n + 63) := Nat.pow_le_pow_right (by decide) (by omega)
  have e4 : (2 : Nat) ^ 64 = 18446744073709551616 := by decide
  unfold firstOf
  generalize k / (ls.length : Int) * ls.sum = a at *
  generalize (ls.take (k % (ls.length : Int)).toNat).sum = b at *
  rw [show st + a + b - st = a + b by omega, e2]
  omega
end Gr

namespace L2
open PySem PySem.Spec PyProof.Rows PyProof.V
/-! ### data that repr shows -/
def Sh (k m : Nat) (d : PyData) : Prop := d.showable = true ∧ d.hasDict = false ∧ d.depth ≤ k ∧ d.shown.length ≤ m
theorem Sh.mono {k m k' m' : Nat} {d : PyData} (h : Sh k m d) (hk : k ≤ k' := by decide) (hm : m ≤ m' := by decide) : Sh k' m' d := ⟨h.1, h.2.1, Nat.le_trans h.2.2.1 hk, Nat.le_trans h.2.2.2 hm⟩
theorem Sh.int {i : Int} (h : i.natAbs.log2 < 1920) : Sh 0 1921 (.int i) := ⟨decide_eq_true h, rfl, Nat.le_refl _, by rw [PyData.shown_int]; exact int_text_len_1921 h⟩
theorem Sh.bool {b : Bool} : Sh 0 1921 (.bool b) := ⟨rfl, rfl, Nat.le_refl _, by cases b <;> decide⟩
theorem Sh.none : Sh 0 1921 .none := ⟨rfl, rfl, Nat.le_refl _, by decide⟩
theorem Sh.all {k m : Nat} : ∀ {ds : List PyData}, (∀ d ∈ ds, Sh k m d) → PyData.showableAll ds = true ∧ PyData.hasDictAll ds = false ∧ PyData.depthAll ds ≤ k ∧ ((PyData.shownAll ds).map (·.length)).sum ≤ ds.length * m
  | [], _ => ⟨rfl, rfl, Nat.zero_le _, Nat.zero_le _⟩
  | d :: ds, h => by
    obtain ⟨a, b, c, e⟩ := Sh.all (ds := ds) fun x hx => h x (List.mem_cons_of_mem _ hx)
    obtain ⟨a', b', c', e'⟩ := h d List.mem_cons_self
    refine ⟨?_, ?_, ?_, ?_⟩
    · show (d.showable && PyData.showableAll ds) = true
      rw [a, a']; rfl
    · show (d.hasDict || PyData.hasDictAll ds) = false
      rw [b, b']; rfl
    · show max d.depth (PyData.depthAll ds) ≤ k
      omega
    · show (d.shown.length :: (PyData.shownAll ds).map (·.length)).sum ≤ (ds.length + 1) * m
      rw [List.sum_cons, Nat.add_mul]
      omega
theorem Sh.list {k m n : Nat} {ds : List PyData} (h : ∀ d ∈ ds, Sh k m d) (hl : ds.length ≤ n) : Sh (k + 1) (n * (m + 2) + 3) (.list ds) := by
  obtain ⟨a, b, c, e⟩ := Sh.all h
  refine ⟨a, b, Nat.succ_le_succ c, ?_⟩
  rw [PyData.shown_list, ← listText_eq_join]
  have := listText_len_le (PyData.shownAll ds)
  rw [PyData.shownAll_length] at this
  have h1 : ds.length * (m + 2) ≤ n * (m + 2) := Nat.mul_le_mul_right _ hl
  rw [Nat.mul_add] at h1
  omega
theorem Sh.tuple {k m n : Nat} {ds : List PyData} (h : ∀ d ∈ ds, Sh k m d) (hl : ds.length ≤ n) : Sh (k + 1) (n * (m + 2) + 5) (.tuple ds) := by
  obtain ⟨a, b, c, e⟩ := Sh.all h
  refine ⟨a, b, Nat.succ_le_succ c, ?_⟩
  rw [PyData.shown_tuple, Str.length_append, Str.length_append]
  have j := StrLaws.join_length_le (Str.ofString ", ") (PyData.shownAll ds)
  rw [PyData.shownAll_length, show (Str.ofString ", ").length = 2 from rfl] at j
  have h1 : ds.length * (m + 2) ≤ n * (m + 2) := Nat.mul_le_mul_right _ hl
  rw [Nat.mul_add] at h1
  have h2 : (Str.ofString "(").length = 1 := rfl
  have h3 : (Str.ofString (if (ds.length == 1) = true then ",)" else ")")).length ≤ 2 := by
    split <;> decide
  omega
theorem Sh.ints {ns : List Int} {n : Nat} (h : ∀ i ∈ ns, i.natAbs.log2 < 1920) (hl : ns.length ≤ n) : Sh 1 (n * 1923 + 3) (.list (ns.map PyData.int)) :=
  Sh.list (k := 0) (m := 1921) (fun d hd => by
    obtain ⟨i, hi, rfl⟩ := List.mem_map.mp hd
    exact Sh.int (h i hi)) (by rw [List.length_map]; exact hl)
theorem dpl_ints {K : PySem.W.Frag} {H : Hp} {a : Addr} {ns : List Int} (h : SqL K H a (ns.map V.int)) : Dp K H (.ref a) (.list (ns.map PyData.int)) := .lst h (dpAll_ints ns)
/-! ### functions that may ask repr of a list: nothing is being shown around them -/
structure FnOkG (P : Program) (w : World) (K : PySem.W.Frag) (mg : Str → Option Value) (base : Heap) (CX : CXT) (k : Nat) (f : Addr) (fd : FuncData) (ps : List Str) (sp : Sp) : Prop where
  len : ∀ (vs : List V) (H : Hp) (Q : VK) (E : XK), sp vs H Q E → vs.length = ps.length
  run : ∀ (A : Around) (outer : List Env) (s : Shared) (H : Hp) (args : Args) (us : List Value) (vs : List V) (Q : VK) (E : XK), Room k A → A.guards = some [] → Env0 P w K mg base A outer s H →
    BindsTo s fd args (ps.zip us) → Vals vs us → sp vs H Q E → codeAny (model P w) A (.call (.ref f) args) (CR CX outer P w H s Q E) s
section
variable {CX : CXT} {P : Program} {w : World} {K : PySem.W.Frag} {mg : Str → Option Value} {base : Heap} {k : Nat} {f : Addr} {x qual : Str} {params : Arguments} {body : List Stmt} {scope : Scope} {dvs : List V} {kws : List (Str × V)} {fd : FuncData} {N ps : List Str} {sp : Sp}
theorem FunD.okG (F : FunD K x qual params body scope dvs kws f fd) (S : FnScope N ps scope) (len : ∀ (vs : List V) (H : Hp) (Q : VK) (E : XK), sp vs H Q E → vs.length = ps.length)
    (hbody : ∀ (cdv : Value) (A : Around) (outer : List Env) (s : Shared) (H : Hp) (vs : List V) (Q : VK) (E : XK), Room k (A.deeper (envOfC qual scope s.heap.objs.size f cdv)) → A.guards = some [] → sp vs H Q E →
      ∃ t, PSs (cxOf CX P w K mg base N qual scope f cdv A outer s H E) body t ∧ t { nx := fun _ H' => Q .non H', rt := Q } (start N vs) H) :
    FnOkG P w K mg base CX (k + 1) f fd ps sp := by
  obtain ⟨oc, od, dV, kV, doc, pm, an, cdv, ct, osl, rfl, lk, hcd, hD, _⟩ := F.ex
  refine ⟨len, fun A outer s H args us vs Q E hr hgu e0 hb r hsp => ?_⟩
  refine StX.run_bnd lk hcd S hr e0 (G := fun xs H2 => xs = vs ∧ H2 = H) (fun A' Ex Q' h => ?_) fun s2 H2 xs hh hr' => ?_
  · exact hb _ A' Ex Q' (h s H vs us e0 Un.refl rfl (fun e s' z => z) r (len _ _ _ _ hsp) ⟨rfl, rfl⟩)
  · obtain ⟨rfl, rfl⟩ := hh
    exact hbody cdv A outer s2 _ _ Q E hr' hgu hsp
end
section
variable {X : Cx} {CX : CXT} {k : Nat} {f : Addr} {fd : FuncData} {ps : List Str} {sp : Sp} {dvs : List V} {ds : List Value} {E : XK} {x : Str} {p pos : Pos} {e : Expr} {es : List Expr} {t : TA}
theorem run_fnG {pins : List (Addr × Obj)} {σ : L2.St} {H : Hp} {s : Shared} {Q : VK} {us : List Value} {vs : List V} (F : FnOkG X.prog X.w X.K X.mg X.base CX k f fd ps sp) (hr : Room k X.A) (hgu : X.A.guards = some []) (hb : Binds X.K fd ps ds) (hd : Vals dvs ds) (hx : Passes CX X E)
    (I : Inv X pins σ H s) (r : Vals vs us) (h : sp (vs ++ dvs) H Q E) : wpAny (model X.prog X.w) X.A (call (.ref f) us) (EP X pins σ Q) X.xe s := by
  have r2 := r.append hd
  have hl : (us ++ ds).length = ps.length := by rw [← r2.length]; exact F.len _ _ _ _ h
  refine wpAny_call (codeAny_mono (F.run X.A X.stack s H ⟨us, []⟩ (us ++ ds) (vs ++ dvs) Q E hr hgu I.env0 (hb s us I.kIn hl) r2 h) fun r s' hq => ?_)
  cases r with
  | error e => exact hx pins σ H s e s' I hq
  | ok fl =>
    cases fl with
    | ret u => exact I.after hq
    | next => exact False.elim hq
    | brk => exact False.elim hq
    | cont => exact False.elim hq
theorem pe_callG (F : FnOkG X.prog X.w X.K X.mg X.base CX k f fd ps sp) (hr : Room k X.A) (hgu : X.A.guards = some []) (hg : Gl X x) (hm : X.mg x = some (.ref f)) (hk : PySem.W.keepIn X.K (.ref f) = true) (hb : Binds X.K fd ps ds) (hd : Vals dvs ds) (hx : Passes CX X E) (ha : PA X (e :: es) t)
    (hdb : (x == ("__debug__" : Str)) = false := by decide) (he : starEach (e :: es) X.env = (false, eval e X.env) :: starEach es X.env := by rfl) (hpl : (backTo pos (starEach es X.env)).any (·.1) = false := by rfl) :
    PE X (.Call (.Name x p) (e :: es) [] pos) (tCall sp dvs E t) := by
  refine ⟨fun pins s σ H Q I h => ?_⟩
  refine wpAny_Call_Name_kw (ld_glob I hg hm ?_ hdb)
  refine PySem.W.callWith_K I.ok.mod.kin hk (thn (ha.run pos pins s σ H (fun vs H1 => sp (vs ++ dvs) H1 Q E) I h) fun us s1 hh => ?_) he hpl
  obtain ⟨vs, H1, I1, r, q⟩ := hh
  exact ⟨I1.kIn, run_fnG F hr hgu hb hd hx I1 r q⟩
/-- repr of a list or tuple of data -/
def rReprD (K : PySem.W.Frag) : List V → Hp → VK → Prop := fun vs H Q => ∃ (a : Addr) (d : PyData), vs = [V.ref a] ∧ Dp K H (.ref a) d ∧ Sh 64 sizeLine d ∧ Q (.str d.shown) H
theorem call_reprD (hgu : X.A.guards = some []) (hr : Room k X.A) : CallR X (.builtin "repr") (rReprD X.K) := by
  intro pins s σ H vs us Q I r h
  obtain ⟨a, d, rfl, hd, ⟨hs, hn, h64, hz⟩, q⟩ := h
  rw [Vals.ref1 r]
  obtain ⟨as, hR⟩ := Dp.reads I d (.ref a) (.ref a) hd rfl
  refine repr_of_reads' (h₀ := s.heap) hR hs (fun z => by rw [hn] at z; cases z) hgu ?_ (fun _ _ z => z) (fun h' u tk hk => ⟨.str _, H, I.kept hk, ⟨_, rfl⟩, q⟩) hz
  have := hr.un
  omega
end
/-! ### the law's own call -/
theorem law_callG {P : Program} {w : World} {K : PySem.W.Frag} {mg mb : Str → Option Value} {CX : CXT} {k : Nat} {fa a : Addr} {fd : FuncData} {x : Str} {sp : Sp} {s₁ : Shared} {vs : List Value} {ns : List Int}
    (KX : K.In s₁.heap) (hns : s₁.heap.Ns mainGlobals mg) (hb : s₁.heap.Ns builtinsNs mb) (hbb : ∀ x : Str, x ≠ "__name__" → mb x = bootBuiltins x) (hlim : s₁.heap.NoLimit) (hg : s₁.gens = #[])
    (ha : s₁.heap.get? a = some { cls := .type "list", data := .seq vs.toArray }) (hi : IntsAre vs ns) (hl : ns.length ≤ sizeLine) (hr : Room k callerA)
    (F : ∀ base : Heap, K.In base → base.Ns mainGlobals mg → FnOkG P w K mg base CX k fa fd [x] sp) (hbind : ∀ (s : Shared) (u : Value), BindsTo s fd { pos := [u] } [(x, u)])
    (hsp : ∀ H : Hp, Only H → SqL K H a (ns.map V.int) → sp [.ref a] H (fun v _ => v = .bl true) fun _ _ _ => False) (hCX : ∀ (H : Hp) (e : Value) (s' : Shared), CX [] H s₁ (fun _ _ _ => False) e s' → False) :
    codeAny (model P w) callerA (.call (.ref fa) { pos := [.ref a] }) (fun r s' => r = .ok (.ret (.bool true)) ∧ OldK s₁.heap s'.heap ∧ s'.os = s₁.os ∧ AllBare s'.gens) s₁ := by
  have rv := vals_ints hi
  have lenV := IntsAre.length hi
  have core : ∀ H : Hp, Only H → SqL K H a (ns.map V.int) → HOk P w H s₁.heap → (∀ b, H b ≠ none → b = a) → (H a ≠ none → List.lookup a K = none) →
      codeAny (model P w) callerA (.call (.ref fa) { pos := [.ref a] }) (fun r s' => r = .ok (.ret (.bool true)) ∧ OldK s₁.heap s'.heap ∧ s'.os = s₁.os ∧ AllBare s'.gens) s₁ := by
    intro H hO hS hok hA hK
    have noA : ∀ {b o es ep}, s₁.heap.get? b = some o → o.data = .dict es ep → H b = none := by
      intro b o es ep e d
      cases q : H b with
      | none => rfl
      | some u =>
        have e' := hA b (by rw [q]; intro z; cases z)
        subst e'
        rw [ha] at e
        cases e
        cases d
    have nsK : ∀ {b m}, s₁.heap.Ns b m → (hidT s₁.heap H).Ns b m := fun ⟨o, es, ep, e, d, r⟩ => ⟨o, es, ep, hidT_get e (noA e d), d, r⟩
    have hKb : K.In (hidT s₁.heap H) := fun b o e => hidT_get (KX b o e) (by
      cases q : H b with
      | none => rfl
      | some u =>
        have e' := hA b (by rw [q]; intro z; cases z)
        subst e'
        rw [hK (by rw [q]; intro z; cases z)] at e
        cases e)
    have hM : Mod K mg (hidT s₁.heap H) := ⟨hKb, nsK hns, ⟨mb, nsK hb, hbb⟩, by
      obtain ⟨mc, h1, h2⟩ := hlim
      exact ⟨mc, nsK h1, h2⟩⟩
    have e0 : Env0 P w K mg (hidT s₁.heap H) callerA [] s₁ H := { frames := rfl, mod := hM, bs := fun b o e => of_hidT e, bsz := Nat.le_of_eq (hidT_size _ _), funs := trivial, frf := fun b hb => absurd hb List.not_mem_nil, hok := hok, bare := AllBare.of_eq hg }
    refine codeAny_mono ((F _ hKb (nsK hns)).run callerA [] s₁ H { pos := [.ref a] } [.ref a] [.ref a] (fun v _ => v = .bl true) (fun _ _ _ => False) hr rfl e0 (hbind s₁ _) (.cons rfl .nil) (hsp H hO hS)) fun r s' h => ?_
    cases r with
    | error e => exact (hCX H e s' h).elim
    | ok fl =>
      cases fl with
      | next => exact False.elim h
      | brk => exact False.elim h
      | cont => exact False.elim h
      | ret u =>
        obtain ⟨v, H', os, bare, un, hok', r', q⟩ := h
        have q' : v = .bl true := q
        subst q'
        cases (show u = Value.bool true from r')
        refine ⟨rfl, OldK.of_keep fun b o e => ?_, os, bare⟩
        cases q : H b with
        | none => exact un.keep b o e q (fun z => absurd z List.not_mem_nil) List.not_mem_nil
        | some u =>
          rcases hO b with z | ⟨ob, xs, z⟩
          · rw [q] at z; cases z
          · have z2 := un.frzs b ob _ z
            obtain ⟨e1, _⟩ := hok b _ z
            obtain ⟨e2, _⟩ := hok' b _ z2
            rw [e] at e1
            cases e1
            exact e2
  cases hk : List.lookup a K with
  | none =>
    refine core (fun b => if b = a then some (.frz { cls := .type "list", data := .seq vs.toArray } (.lst (ns.map V.int))) else none) (fun b => ?_) (.inl (.inr ⟨_, if_pos rfl⟩)) (fun b u z => ?_) (fun b z => ?_) fun _ => hk
    · by_cases hb : b = a
      · exact .inr ⟨_, _, if_pos hb⟩
      · exact .inl (if_neg hb)
    · by_cases hb : b = a
      · have z' := (if_pos hb).symm.trans z
        cases z'
        subst hb
        exact ⟨ha, by rw [List.length_map]; exact hl, vs, 0, rv, ha⟩
      · have z' := (if_neg hb).symm.trans z
        cases z'
    · by_cases hb : b = a
      · exact hb
      · exact absurd (if_neg hb) z
  | some o =>
    have e := KX a o hk
    rw [ha] at e
    cases e
    refine core (fun _ => none) (fun _ => .inl rfl) (.inr ⟨_, vs.toArray, 0, hk, rfl, rfl, rfl, ?_, rv⟩) (fun b u z => by cases z) (fun b z => absurd rfl z) fun z => absurd rfl z
    rw [List.size_toArray, lenV]
    exact hl
theorem walk_ofG {l : PySem.W.OpenLaw} {n k : Nat} {q : Program} {loose : List Str} {XP : (Str → Option Value) → Heap → Prop} {YP : World → Heap → Prop} {d : DefRec} {CX : CXT} {x : Str}
    (hn : l.most = some n) (hn2 : n ≤ sizeLine) (hdf : d.params.defaults = []) (hr : Room k callerA)
    (F : ∀ (w : World) (mg : Str → Option Value) (fa : Addr) (h : Heap), YP w h → h.Ns mainGlobals mg → mg d.name = some (.ref fa) →
      ∃ K fd sp, PySem.W.Frag.In K h ∧ (∀ (s : Shared) (u : Value), BindsTo s fd { pos := [u] } [(x, u)]) ∧ (∀ (H : Hp) (a : Addr) (ns : List Int), ns.length ≤ n → Only H → SqL K H a (ns.map V.int) → sp [.ref a] H (fun v _ => v = .bl true) fun _ _ _ => False) ∧
        ∀ base : Heap, PySem.W.Frag.In K base → base.Ns mainGlobals mg → FnOkG l.prog w K mg base CX k fa fd [x] sp)
    (hCX : ∀ (H : Hp) (s : Shared) (e : Value) (s' : Shared), CX [] H s (fun _ _ _ => False) e s' → False) : PySem.W.WalkO q loose XP YP l.row.toRowW d [] fun f vs => PySem.call f vs := by
  refine Att.attach_call hn hdf fun w s₀ s₁ mg mb fa o pm cd doc a vs ns G Y ho hd hcd hmg hobj hints hlen hg => ?_
  obtain ⟨K, fd, sp, KX, hb, hsp, hF⟩ := F w mg fa s₁.heap Y G.T.g hmg
  exact law_callG KX G.T.g G.T.b G.T.builtins G.T.nolimit hg hobj hints (Nat.le_trans hlen hn2) hr hF hb (fun H hO hS => hsp H a ns hlen hO hS) fun H e s' => hCX H s₁ e s'
end L2
namespace Gr
theorem sum_take_le : ∀ {ls : List Int}, (∀ x ∈ ls, 0 < x) → ∀ n : Nat, 0 ≤ (ls.take n).sum ∧ (ls.take n).sum ≤ ls.sum
  | [], _, n => by simp
  | a :: r, h, 0 => by
    have := (sum_take_le (ls := r) (fun x hx => h x (List.mem_cons_of_mem _ hx)) r.length)
    rw [List.take_of_length_le (Nat.le_refl _)] at this
    have ha := h a List.mem_cons_self
    simp only [List.take_zero, List.sum_nil, List.sum_cons]
    omega
  | a :: r, h, n + 1 => by
    have := (sum_take_le (ls := r) (fun x hx => h x (List.mem_cons_of_mem _ hx)) n)
    have ha := h a List.mem_cons_self
    simp only [List.take_succ_cons, List.sum_cons]
    omega
theorem Row.lenAt {ls : List Int} (h : Row ls) (k : Int) : 0 < lenAt ls k ∧ lenAt ls k ≤ 10 ^ 15 := by
  have hl1 : 0 < ls.length := List.length_pos_iff.mpr h.ne
  have m0 := Int.emod_nonneg k (show (ls.length : Int) ≠ 0 by omega)
  have m1 := Int.emod_lt_of_pos k (show (0 : Int) < ls.length by omega)
  have hi : (k % (ls.length : Int)).toNat < ls.length := by omega
  unfold Gr.lenAt
  rw [List.getD_eq_getElem?_getD, List.getElem?_eq_getElem hi]
  exact h.pos _ (List.getElem_mem hi)
end Gr

namespace L2
open PySem PySem.Spec PyProof.Rows PyProof.V
section
variable {X : Cx}
/-! ### a field as one of several targets: self.a, self.b = .. -/
def gFld (K : PySem.W.Frag) (ta : TE) (f : Str) : TG := fun v σ H Q => ta σ H fun x H2 => ∃ a C dx fs, x = .ref a ∧ H2 a = some (.ins C dx fs) ∧ Cls K C ∧ NoAttr K C f ∧ fs.length < 1000 ∧ Q σ (upd H2 a (.ins C dx (putF f v fs)))
theorem pg_fld {o : Expr} {f : Str} {pos : Pos} {ta : TE} (ha : PE X o ta) : PG X (.Attribute o f pos) (gFld X.K ta f) := by
  refine ⟨fun pins s σ H v u Q I r h => PySem.W.kas_attr (thn (ha.run pins s σ H _ I h) fun ov s2 hh => ?_)⟩
  obtain ⟨x, H2, I2, rx, a, C, dx, fs, rfl, ea, c, n, l, q⟩ := hh
  cases (show ov = Value.ref a from rx)
  exact setattr_ok I2 ea c n l r fun s3 I3 => ⟨σ, _, I3, q⟩
end
/-! ### an instance that is called -/
def callOB (K : PySem.W.Frag) (C g : Addr) : Bool := He.eqO (PySem.W.findIn K (.ref C) "__call__") (some (some (.ref g))) && (PySem.W.isFn K (.ref g) && PySem.W.fnIn K g)
theorem callO_ok {K : PySem.W.Frag} {C g : Addr} (h : callOB K C g = true) : StX.CallO K C g := by
  unfold callOB at h
  rw [Bool.and_eq_true, Bool.and_eq_true] at h
  exact ⟨He.eqO_ok h.1, h.2.1, h.2.2⟩
end L2

/-! ### the mathematics of step maps: places and values as endless rows -/
namespace Sx
structure F where
  P : Int
  R : Int
  ps : List (Int × Int)
def at_ (f : F) (i : Nat) : Int × Int := f.ps.getD i (0, 0)
/-- the place of step k -/
def pl (f : F) (k : Int) : Int := (at_ f (k % f.ps.length).toNat).1 + k / f.ps.length * f.P
/-- the value of step k -/
def vl (f : F) (k : Int) : Int := (at_ f (k % f.ps.length).toNat).2 + k / f.ps.length * f.R
def InStep (f : F) (x k : Int) : Prop := pl f k ≤ x ∧ x < pl f (k + 1)
theorem at_get {f : F} {i : Nat} (h : i < f.ps.length) : f.ps[i]? = some (at_ f i) := by
  unfold at_
  rw [List.getD_eq_getElem?_getD, List.getElem?_eq_getElem h]
  rfl
theorem at_mem {f : F} {i : Nat} (h : i < f.ps.length) : at_ f i ∈ f.ps := List.mem_of_getElem? (at_get h)
theorem ix {n : Nat} {t : Int} {i : Nat} (h : i < n) : (t * n + i) % (n : Int) = i ∧ (t * n + i) / (n : Int) = t := by
  have hn : (0 : Int) < n := by omega
  rw [show t * (n : Int) + (i : Int) = (i : Int) + n * t by rw [Int.mul_comm]; omega, Int.add_mul_emod_self_left, Int.add_mul_ediv_left _ _ (by omega), Int.emod_eq_of_lt (by omega) (by omega), Int.ediv_eq_zero_of_lt (by omega) (by omega)]
  exact ⟨rfl, by omega⟩
theorem pl_at {f : F} {i : Nat} (t : Int) (h : i < f.ps.length) : pl f (t * f.ps.length + i) = (at_ f i).1 + t * f.P := by
  unfold pl
  rw [(ix h).1, (ix h).2, Int.toNat_natCast]
theorem vl_at {f : F} {i : Nat} (t : Int) (h : i < f.ps.length) : vl f (t * f.ps.length + i) = (at_ f i).2 + t * f.R := by
  unfold vl
  rw [(ix h).1, (ix h).2, Int.toNat_natCast]
/-- any k is t turns and a place -/
theorem split {f : F} (hn : 0 < f.ps.length) (k : Int) : ∃ (t : Int) (i : Nat), i < f.ps.length ∧ k = t * f.ps.length + i := by
  have m0 := Int.emod_nonneg k (show (f.ps.length : Int) ≠ 0 by omega)
  have m1 := Int.emod_lt_of_pos k (show (0 : Int) < f.ps.length by omega)
  refine ⟨k / f.ps.length, (k % f.ps.length).toNat, by omega, ?_⟩
  have := Int.mul_ediv_add_emod k f.ps.length
  rw [Int.mul_comm] at this
  omega
theorem nextK (t : Int) (n : Nat) : t * (n : Int) + ((n - 1 : Nat) : Int) + 1 = (t + 1) * (n : Int) + ((0 : Nat) : Int) ∨ n = 0 := by
  rcases Nat.eq_zero_or_pos n with h | h
  · exact .inr h
  · left
    rw [Int.add_mul]
    omega
/-- the step behind -/
theorem pl_next {f : F} {i : Nat} (t : Int) (h : i < f.ps.length) : pl f (t * f.ps.length + i + 1) = if i + 1 < f.ps.length then (at_ f (i + 1)).1 + t * f.P else (at_ f 0).1 + (t + 1) * f.P := by
  split
  · rename_i h1
    rw [Int.add_assoc, show ((i : Int) + 1) = ((i + 1 : Nat) : Int) by omega, pl_at t h1]
  · have e : i = f.ps.length - 1 := by omega
    rcases nextK t f.ps.length with z | z
    · rw [e, z, pl_at (t + 1) (by omega)]
    · omega
theorem vl_next {f : F} {i : Nat} (t : Int) (h : i < f.ps.length) : vl f (t * f.ps.length + i + 1) = if i + 1 < f.ps.length then (at_ f (i + 1)).2 + t * f.R else (at_ f 0).2 + (t + 1) * f.R := by
  split
  · rename_i h1
    rw [Int.add_assoc, show ((i : Int) + 1) = ((i + 1 : Nat) : Int) by omega, vl_at t h1]
  · have e : i = f.ps.length - 1 := by omega
    rcases nextK t f.ps.length with z | z
    · rw [e, z, vl_at (t + 1) (by omega)]
    · omega
theorem shift {f : F} (hn : 0 < f.ps.length) (k : Int) : pl f (k + f.ps.length) = pl f k + f.P ∧ vl f (k + f.ps.length) = vl f k + f.R := by
  obtain ⟨t, i, hi, rfl⟩ := split hn k
  rw [show t * (f.ps.length : Int) + (i : Int) + f.ps.length = (t + 1) * f.ps.length + i by rw [Int.add_mul]; omega, pl_at _ hi, vl_at _ hi, pl_at _ hi, vl_at _ hi, Int.add_mul, Int.add_mul]
  exact ⟨by omega, by omega⟩
/-- what a step map is -/
structure Good (f : F) : Prop where
  ne : 0 < f.ps.length
  len : f.ps.length ≤ 240
  P0 : 0 < f.P
  R0 : 0 < f.R
  pm : ∀ k, pl f k < pl f (k + 1)
  vm : ∀ k, vl f k < vl f (k + 1)
  bP : f.P.natAbs < 2 ^ 4000
  bR : f.R.natAbs < 2 ^ 4000
  bd : ∀ q ∈ f.ps, q.1.natAbs < 2 ^ 4000 ∧ q.2.natAbs < 2 ^ 4000
/-- what look_steps lets through -/
structure Raw (f : F) : Prop where
  ne : 0 < f.ps.length
  len : f.ps.length ≤ 240
  P0 : 0 < f.P
  R0 : 0 < f.R
  p0 : ∀ i, i < f.ps.length → 0 ≤ (at_ f i).1 ∧ (at_ f i).1 < f.P
  v1 : ∀ i, i < f.ps.length → (at_ f i).2 < (at_ f 0).2 + f.R
  up : ∀ i, i + 1 < f.ps.length → (at_ f i).1 < (at_ f (i + 1)).1 ∧ (at_ f i).2 < (at_ f (i + 1)).2
  bP : f.P.natAbs < 2 ^ 4000
  bR : f.R.natAbs < 2 ^ 4000
  bd : ∀ q ∈ f.ps, q.1.natAbs < 2 ^ 4000 ∧ q.2.natAbs < 2 ^ 4000
theorem Raw.good {f : F} (h : Raw f) : Good f := by
  refine ⟨h.ne, h.len, h.P0, h.R0, fun k => ?_, fun k => ?_, h.bP, h.bR, h.bd⟩
  · obtain ⟨t, i, hi, rfl⟩ := split h.ne k
    rw [pl_next t hi, pl_at t hi]
    split
    · rename_i h1
      have := (h.up i h1).1
      omega
    · have a := h.p0 i hi
      have b := h.p0 0 h.ne
      rw [Int.add_mul]
      omega
  · obtain ⟨t, i, hi, rfl⟩ := split h.ne k
    rw [vl_next t hi, vl_at t hi]
    split
    · rename_i h1
      have := (h.up i h1).2
      omega
    · have a := h.v1 i hi
      rw [Int.add_mul]
      omega
/-- strictly growing rows -/
theorem mono_lt {g : Int → Int} (h : ∀ k, g k < g (k + 1)) : ∀ (n : Nat) (a : Int), g a < g (a + (n + 1 : Nat))
  | 0, a => h a
  | n + 1, a => by
    have := mono_lt h n a
    have h2 := h (a + (n + 1 : Nat))
    rw [show a + ((n + 1 : Nat) : Int) + 1 = a + ((n + 1 + 1 : Nat) : Int) by omega] at h2
    omega
theorem mono {g : Int → Int} (h : ∀ k, g k < g (k + 1)) {a b : Int} (hab : a < b) : g a < g b := by
  have := mono_lt h (b - a - 1).toNat a
  rw [show a + (((b - a - 1).toNat + 1 : Nat) : Int) = b by omega] at this
  exact this
theorem mono_le {g : Int → Int} (h : ∀ k, g k < g (k + 1)) {a b : Int} (hab : a ≤ b) : g a ≤ g b := by
  rcases Int.lt_or_eq_of_le hab with h1 | h1
  · exact Int.le_of_lt (mono h h1)
  · rw [h1]; exact Int.le_refl _
theorem mono_iff {g : Int → Int} (h : ∀ k, g k < g (k + 1)) {a b : Int} : g a < g b ↔ a < b := by
  refine ⟨fun q => ?_, mono h⟩
  rcases Int.lt_or_le a b with z | z
  · exact z
  · have := mono_le h z
    omega
theorem InStep.unique {f : F} (g : Good f) {x a b : Int} (ha : InStep f x a) (hb : InStep f x b) : a = b := by
  have h1 : a < b + 1 := (mono_iff g.pm).mp (Int.lt_of_le_of_lt ha.1 hb.2)
  have h2 : b < a + 1 := (mono_iff g.pm).mp (Int.lt_of_le_of_lt hb.1 ha.2)
  omega
/-- the same endless rows -/
def Rep (f g : F) : Prop := ∀ k, pl f k = pl g k ∧ vl f k = vl g k
theorem Rep.refl (f : F) : Rep f f := fun _ => ⟨rfl, rfl⟩
theorem Rep.inStep {f g : F} (r : Rep f g) {x k : Int} (h : InStep f x k) : InStep g x k := ⟨by rw [← (r k).1]; exact h.1, by rw [← (r (k + 1)).1]; exact h.2⟩
theorem Rep.inStep' {f g : F} (r : Rep f g) {x k : Int} (h : InStep g x k) : InStep f x k := ⟨by rw [(r k).1]; exact h.1, by rw [(r (k + 1)).1]; exact h.2⟩
theorem InStep.shift {f : F} (g : 0 < f.ps.length) {x k : Int} (h : InStep f x k) : InStep f (x + f.P) (k + f.ps.length) := by
  have a := (Sx.shift g k).1
  have b := (Sx.shift g (k + 1)).1
  refine ⟨by rw [a]; have := h.1; omega, ?_⟩
  rw [show k + (f.ps.length : Int) + 1 = k + 1 + f.ps.length by omega, b]
  have := h.2
  omega
/-- one part of a row that goes on by (w, g) a size further -/
theorem rep_part {f : F} {sz parts : Nat} {w g : Int} (hs : 0 < sz) (hp : 0 < parts) (hn : f.ps.length = parts * sz) (hw : f.P = parts * w) (hg : f.R = parts * g)
    (ha : ∀ k, k + sz < f.ps.length → at_ f (k + sz) = ((at_ f k).1 + w, (at_ f k).2 + g)) : Rep ⟨w, g, f.ps.take sz⟩ f := by
  have hle : sz ≤ f.ps.length := by rw [hn]; exact Nat.le_mul_of_pos_left _ hp
  have hl : (f.ps.take sz).length = sz := by rw [List.length_take]; omega
  have hmany : ∀ (j i : Nat), j * sz + i < f.ps.length → at_ f (j * sz + i) = ((at_ f i).1 + j * w, (at_ f i).2 + j * g) := by
    intro j
    induction j with
    | zero => intro i h; simp
    | succ j ih =>
      intro i h
      have e : (j + 1) * sz + i = j * sz + i + sz := by rw [Nat.add_mul]; omega
      rw [e] at h ⊢
      rw [ha _ h, ih i (by omega)]
      have e1 : ((j + 1 : Nat) : Int) * w = j * w + w := by rw [show ((j + 1 : Nat) : Int) = (j : Int) + 1 by omega, Int.add_mul]; omega
      have e2 : ((j + 1 : Nat) : Int) * g = j * g + g := by rw [show ((j + 1 : Nat) : Int) = (j : Int) + 1 by omega, Int.add_mul]; omega
      rw [e1, e2]
      exact Prod.ext (by show _ + _ + _ = _ + (_ + _); omega) (by show _ + _ + _ = _ + (_ + _); omega)
  intro k
  obtain ⟨t, m, hm, rfl⟩ := split (f := f) (by omega) k
  rw [pl_at t hm, vl_at t hm]
  obtain ⟨j, hj⟩ : ∃ j, m / sz = j := ⟨_, rfl⟩
  obtain ⟨i, hi⟩ : ∃ i, m % sz = i := ⟨_, rfl⟩
  have him : i < sz := by rw [← hi]; exact Nat.mod_lt _ hs
  have hmj : m = j * sz + i := by rw [← hj, ← hi, Nat.mul_comm]; exact (Nat.div_add_mod m sz).symm
  have ek : t * (f.ps.length : Int) + (m : Int) = (t * parts + j) * (((⟨w, g, f.ps.take sz⟩ : F).ps.length : Nat) : Int) + (i : Nat) := by
    show _ = _ * (((f.ps.take sz).length : Nat) : Int) + _
    rw [hl, hn, hmj, Int.add_mul, Int.mul_assoc, ← Int.natCast_mul, Int.natCast_add, Int.natCast_mul j sz]
    omega
  have hi2 : i < (⟨w, g, f.ps.take sz⟩ : F).ps.length := by show i < (f.ps.take sz).length; rw [hl]; exact him
  have ea : at_ (⟨w, g, f.ps.take sz⟩ : F) i = at_ f i := by
    unfold at_
    show (f.ps.take sz).getD i (0, 0) = f.ps.getD i (0, 0)
    rw [List.getD_eq_getElem?_getD, List.getD_eq_getElem?_getD, List.getElem?_take, if_pos him]
  rw [ek, pl_at _ hi2, vl_at _ hi2, ea, hmj, hmany j i (by rw [← hmj]; exact hm)]
  show (_ : Int) + (t * parts + j) * w = _ + _ + t * f.P ∧ (_ : Int) + (t * parts + j) * g = _ + _ + t * f.R
  rw [hw, hg, Int.add_mul, Int.add_mul, Int.mul_assoc, Int.mul_assoc]
  exact ⟨by omega, by omega⟩
theorem Good.part {f : F} (G : Good f) {sz parts : Nat} {w g : Int} (hs : 0 < sz) (hp : 0 < parts) (hn : f.ps.length = parts * sz) (hw : f.P = parts * w) (hg : f.R = parts * g) (r : Rep ⟨w, g, f.ps.take sz⟩ f) : Good ⟨w, g, f.ps.take sz⟩ := by
  have hle : sz ≤ f.ps.length := by rw [hn]; exact Nat.le_mul_of_pos_left _ hp
  have hl : (f.ps.take sz).length = sz := by rw [List.length_take]; omega
  have pos : ∀ a b : Int, a = parts * b → 0 < a → 0 < b ∧ b ≤ a := fun a b e h => by
    have h1 : 0 < b := by
      rcases Int.lt_or_le 0 b with z | z
      · exact z
      · have := Int.mul_le_mul_of_nonneg_left z (show (0 : Int) ≤ parts by omega)
        rw [Int.mul_zero, ← e] at this
        omega
    refine ⟨h1, ?_⟩
    have := Int.mul_le_mul_of_nonneg_right (show (1 : Int) ≤ parts by omega) (Int.le_of_lt h1)
    rw [Int.one_mul, ← e] at this
    exact this
  have h1 := pos _ _ hw G.P0
  have h2 := pos _ _ hg G.R0
  have bP := G.bP
  have bR := G.bR
  refine ⟨by show 0 < (f.ps.take sz).length; omega, by show (f.ps.take sz).length ≤ 240; have := G.len; omega, h1.1, h2.1, fun k => ?_, fun k => ?_, ?_, ?_, fun q hq => G.bd q (List.mem_of_mem_take hq)⟩
  · rw [(r k).1, (r (k + 1)).1]; exact G.pm k
  · rw [(r k).2, (r (k + 1)).2]; exact G.vm k
  · exact Nat.lt_of_le_of_lt (show w.natAbs ≤ f.P.natAbs by omega) bP
  · exact Nat.lt_of_le_of_lt (show g.natAbs ≤ f.R.natAbs by omega) bR
end Sx
namespace L2
theorem rg240 : ∀ m : Fin 241, RgC (m.val : Int) 1 (-1) (m.val - 1) := by
  unfold RgC
  decide +kernel
end L2

namespace Sx
theorem sum_le {M : Int} (hM : 0 ≤ M) : ∀ {ls : List Int}, (∀ x ∈ ls, 0 < x ∧ x ≤ M) → 0 ≤ ls.sum ∧ ls.sum ≤ ls.length * M
  | [], _ => by simp
  | a :: r, h => by
    have ih := sum_le hM (ls := r) fun x hx => h x (List.mem_cons_of_mem _ hx)
    have ha := h a List.mem_cons_self
    rw [List.sum_cons, List.length_cons, show ((r.length + 1 : Nat) : Int) = (r.length : Int) + 1 by omega, Int.add_mul, Int.one_mul]
    omega
theorem take_mono {ls : List Int} (h : ∀ x ∈ ls, 0 < x) {i j : Nat} (hij : i ≤ j) : (ls.take i).sum ≤ (ls.take j).sum := by
  have := (Gr.sum_take_le (ls := ls.take j) (fun x hx => h x (List.mem_of_mem_take hx)) i).2
  rw [List.take_take, Nat.min_eq_left hij] at this
  exact this
theorem take_step {ls : List Int} {i : Nat} (hi : i < ls.length) : (ls.take (i + 1)).sum = (ls.take i).sum + ls[i] := by
  rw [Gr.sum_take_succ, List.getD_eq_getElem?_getD, List.getElem?_eq_getElem hi]
  rfl
/-- the pairs that the laws build from widths and gains -/
def build (p0 v0 : Int) (ws gs : List Int) (n : Nat) : List (Int × Int) := (List.range n).map fun j => (p0 + (ws.take j).sum, v0 + (gs.take j).sum)
theorem build_length (p0 v0 : Int) (ws gs : List Int) (n : Nat) : (build p0 v0 ws gs n).length = n := by
  unfold build
  rw [List.length_map, List.length_range]
theorem build_get {p0 v0 : Int} {ws gs : List Int} {n i : Nat} (h : i < n) : (build p0 v0 ws gs n)[i]? = some (p0 + (ws.take i).sum, v0 + (gs.take i).sum) := by
  unfold build
  rw [List.getElem?_map, List.getElem?_range h]
  rfl
theorem build_succ (p0 v0 : Int) (ws gs : List Int) (n : Nat) : build p0 v0 ws gs (n + 1) = build p0 v0 ws gs n ++ [(p0 + (ws.take n).sum, v0 + (gs.take n).sum)] := by
  unfold build
  rw [List.range_succ, List.map_append]
  rfl
theorem raw_build {p0 v0 M : Int} {ws gs : List Int} {n : Nat} (hw : ∀ x ∈ ws, 0 < x ∧ x ≤ M) (hg : ∀ x ∈ gs, 0 < x ∧ x ≤ M) (lw : ws.length = n + 1) (lg : gs.length = n + 1) (hn : n < 240) (hp : 0 ≤ p0) (hp2 : p0 < ws[n]'(by omega)) (hM0 : 0 ≤ M) (hM : M ≤ 10 ^ 16) (hv : v0.natAbs < 10 ^ 16) :
    Raw ⟨ws.sum, gs.sum, build p0 v0 ws gs (n + 1)⟩ := by
  have e16 : (10 : Int) ^ 16 = 10000000000000000 := by decide
  have e16' : (10 : Nat) ^ 16 = 10000000000000000 := by decide
  have wp : ∀ x ∈ ws, 0 < x := fun x hx => (hw x hx).1
  have gp : ∀ x ∈ gs, 0 < x := fun x hx => (hg x hx).1
  have sw := sum_le hM0 hw
  have sg := sum_le hM0 hg
  rw [lw] at sw
  rw [lg] at sg
  have mb : ((n + 1 : Nat) : Int) * M ≤ 240 * 10000000000000000 := Int.mul_le_mul (by omega) (by omega) hM0 (by omega)
  have hlen := build_length p0 v0 ws gs (n + 1)
  have ga : ∀ i, i < n + 1 → at_ ⟨ws.sum, gs.sum, build p0 v0 ws gs (n + 1)⟩ i = (p0 + (ws.take i).sum, v0 + (gs.take i).sum) := fun i hi => by
    unfold at_
    show (build p0 v0 ws gs (n + 1)).getD i (0, 0) = _
    rw [List.getD_eq_getElem?_getD, build_get hi]
    rfl
  have sw1 := take_step (ls := ws) (i := n) (by omega)
  rw [List.take_of_length_le (by omega)] at sw1
  have sg1 := take_step (ls := gs) (i := n) (by omega)
  rw [List.take_of_length_le (by omega)] at sg1
  have gl := gp (gs[n]'(by omega)) (List.getElem_mem _)
  have w0 : ∀ i, i ≤ n → 0 ≤ (ws.take i).sum ∧ (ws.take i).sum ≤ (ws.take n).sum := fun i hi => ⟨(Gr.sum_take_le wp i).1, take_mono wp hi⟩
  have g0 : ∀ i, i ≤ n → 0 ≤ (gs.take i).sum ∧ (gs.take i).sum ≤ (gs.take n).sum := fun i hi => ⟨(Gr.sum_take_le gp i).1, take_mono gp hi⟩
  have wn := w0 n (Nat.le_refl _)
  have gn := g0 n (Nat.le_refl _)
  refine ⟨?_, ?_, ?_, ?_, ?_, ?_, ?_, ?_, ?_, ?_⟩
  · show 0 < (build p0 v0 ws gs (n + 1)).length
    omega
  · show (build p0 v0 ws gs (n + 1)).length ≤ 240
    omega
  · show 0 < ws.sum
    omega
  · show 0 < gs.sum
    omega
  · intro i hi
    replace hi : i < n + 1 := by
      have : i < (build p0 v0 ws gs (n + 1)).length := hi
      omega
    rw [ga i hi]
    have := w0 i (by omega)
    show 0 ≤ p0 + (ws.take i).sum ∧ p0 + (ws.take i).sum < ws.sum
    omega
  · intro i hi
    replace hi : i < n + 1 := by
      have : i < (build p0 v0 ws gs (n + 1)).length := hi
      omega
    rw [ga i hi, ga 0 (by omega)]
    have := g0 i (by omega)
    show v0 + (gs.take i).sum < v0 + (gs.take 0).sum + gs.sum
    rw [List.take_zero, List.sum_nil]
    omega
  · intro i hi
    replace hi : i + 1 < n + 1 := by
      have : i + 1 < (build p0 v0 ws gs (n + 1)).length := hi
      omega
    rw [ga i (by omega), ga (i + 1) hi]
    show p0 + (ws.take i).sum < p0 + (ws.take (i + 1)).sum ∧ v0 + (gs.take i).sum < v0 + (gs.take (i + 1)).sum
    rw [take_step (ls := ws) (i := i) (by omega), take_step (ls := gs) (i := i) (by omega)]
    have a := wp (ws[i]'(by omega)) (List.getElem_mem _)
    have b := gp (gs[i]'(by omega)) (List.getElem_mem _)
    omega
  · exact L2.nat_pow_mono (a := 64) (L2.lt64 (by show _ < ws.sum; omega) (by show ws.sum < _; omega)) (by decide)
  · exact L2.nat_pow_mono (a := 64) (L2.lt64 (by show _ < gs.sum; omega) (by show gs.sum < _; omega)) (by decide)
  · intro q hq
    have hq' : q ∈ build p0 v0 ws gs (n + 1) := hq
    unfold build at hq'
    obtain ⟨j, hj, rfl⟩ := List.mem_map.mp hq'
    rw [List.mem_range] at hj
    have a := w0 j (by omega)
    have b := g0 j (by omega)
    exact ⟨L2.nat_pow_mono (a := 64) (L2.lt64 (by show _ < p0 + (ws.take j).sum; omega) (by show p0 + (ws.take j).sum < _; omega)) (by decide), L2.nat_pow_mono (a := 64) (L2.lt64 (by show _ < v0 + (gs.take j).sum; omega) (by show v0 + (gs.take j).sum < _; omega)) (by decide)⟩
theorem bd_build {p0 v0 M : Int} {ws gs : List Int} {n : Nat} (hw : ∀ x ∈ ws, 0 < x ∧ x ≤ M) (hg : ∀ x ∈ gs, 0 < x ∧ x ≤ M) (lw : ws.length = n + 1) (lg : gs.length = n + 1) (hn : n < 240) (hp : 0 ≤ p0) (hp2 : p0 ≤ M) (hM0 : 0 ≤ M) (hM : M ≤ 10 ^ 15) (hv : v0.natAbs < 10 ^ 16) :
    (ws.sum).natAbs < 2 ^ 64 ∧ (gs.sum).natAbs < 2 ^ 64 ∧ ∀ q ∈ build p0 v0 ws gs (n + 1), q.1.natAbs < 2 ^ 64 ∧ q.2.natAbs < 2 ^ 64 := by
  have e16 : (10 : Int) ^ 15 = 1000000000000000 := by decide
  have e16' : (10 : Nat) ^ 16 = 10000000000000000 := by decide
  have wp : ∀ x ∈ ws, 0 < x := fun x hx => (hw x hx).1
  have gp : ∀ x ∈ gs, 0 < x := fun x hx => (hg x hx).1
  have sw := sum_le hM0 hw
  have sg := sum_le hM0 hg
  rw [lw] at sw
  rw [lg] at sg
  have mb : ((n + 1 : Nat) : Int) * M ≤ 240 * 1000000000000000 := Int.mul_le_mul (by omega) (by omega) hM0 (by omega)
  refine ⟨L2.lt64 (by omega) (by omega), L2.lt64 (by omega) (by omega), fun q hq => ?_⟩
  unfold build at hq
  obtain ⟨j, hj, rfl⟩ := List.mem_map.mp hq
  have a := Gr.sum_take_le wp j
  have b := Gr.sum_take_le gp j
  exact ⟨L2.lt64 (by show _ < p0 + (ws.take j).sum; omega) (by show p0 + (ws.take j).sum < _; omega), L2.lt64 (by show _ < v0 + (gs.take j).sum; omega) (by show v0 + (gs.take j).sum < _; omega)⟩
end Sx
namespace L2
open PySem
theorem atI_end {α : Type} {xs : List α} {v : α} {n : Nat} (hn : xs.length = n + 1) (h : xs[n]? = some v) : atI xs (-1) = some v := by
  unfold atI ixN
  rw [hn, if_neg (by decide), if_pos (by omega), show (-1 + ((n + 1 : Nat) : Int)).toNat = n by omega]
  exact h
theorem But.free_ {l : Addr} {H H' : Hp} (c : But l H H') (B : BagAt H' l) {b : Addr} (h : H' b = none) : H b = none := by
  cases e : H b with
  | none => rfl
  | some o =>
    have := c b o e (B.ne0 h)
    rw [h] at this
    cases this
theorem But.put {l : Addr} {H H' : Hp} (c : But l H H') {b : Addr} {o : HO} (h : H b = none) : But l H (L2.upd H' b o) := fun a u e ne => by
  rw [upd_ne (ne_of_none e h)]
  exact c a u e ne
theorem BagAt.new {H : Hp} {l b : Addr} {o : HO} (B : BagAt H l) (h : H b = none) : BagAt (upd H b o) l := by
  obtain ⟨x, y, e, r⟩ := B
  exact ⟨x, y, Same.new h _ _ e, r⟩
theorem BagAt.off {H : Hp} {l b : Addr} {o : HO} (B : BagAt H l) (h : b ≠ l) : BagAt (upd H b o) l := by
  obtain ⟨x, y, e, r⟩ := B
  exact ⟨x, y, by rw [upd_ne (Ne.symm h)]; exact e, r⟩
end L2
namespace Sx
theorem before {f : F} (G : Good f) {x k k' : Int} (h : InStep f x k) (h' : InStep f (x - 1) k') : (vl f k' < vl f k ↔ x = pl f k) ∧ vl f k' ≤ vl f k := by
  by_cases hx : x = pl f k
  · have e : k' = k - 1 := InStep.unique G h' ⟨by have := G.pm (k - 1); rw [show k - 1 + 1 = k by omega] at this; omega, by rw [show k - 1 + 1 = k by omega]; omega⟩
    have := mono G.vm (show k' < k by omega)
    exact ⟨⟨fun _ => hx, fun _ => this⟩, Int.le_of_lt this⟩
  · have e : k' = k := InStep.unique G h' ⟨by have := h.1; omega, by have := h.2; omega⟩
    rw [e]
    exact ⟨⟨fun z => by omega, fun z => absurd z hx⟩, Int.le_refl _⟩
theorem isStep {f : F} (G : Good f) {x k : Int} (h : InStep f x k) : (∃ i, i < f.ps.length ∧ (x - (at_ f i).1) / f.P * f.P = x - (at_ f i).1) ↔ x = pl f k := by
  constructor
  · rintro ⟨i, hi, e⟩
    have e2 : x = pl f ((x - (at_ f i).1) / f.P * f.ps.length + i) := by rw [pl_at _ hi, e]; omega
    have hin : InStep f x ((x - (at_ f i).1) / f.P * f.ps.length + i) := ⟨by rw [← e2]; exact Int.le_refl _, by have := G.pm ((x - (at_ f i).1) / f.P * f.ps.length + i); omega⟩
    rw [InStep.unique G h hin]
    exact e2
  · intro e
    obtain ⟨t, i, hi, rfl⟩ := split G.ne k
    refine ⟨i, hi, ?_⟩
    rw [pl_at t hi] at e
    rw [show x - (at_ f i).1 = t * f.P by omega, Int.mul_ediv_cancel _ (by have := G.P0; omega)]
/-- all numbers of a map within 2 ^ n -/
structure Bd (n : Nat) (f : F) : Prop where
  P : f.P.natAbs < 2 ^ n
  R : f.R.natAbs < 2 ^ n
  q : ∀ q ∈ f.ps, q.1.natAbs < 2 ^ n ∧ q.2.natAbs < 2 ^ n
theorem Bd.mono {n m : Nat} {f : F} (b : Bd n f) (h : n ≤ m) : Bd m f := ⟨L2.nat_pow_mono b.P h, L2.nat_pow_mono b.R h, fun q hq => ⟨L2.nat_pow_mono (b.q q hq).1 h, L2.nat_pow_mono (b.q q hq).2 h⟩⟩
theorem vl_bound {f : F} (G : Good f) {n m : Nat} (B : Bd n f) (hnm : n ≤ m) {x k : Int} (h : InStep f x k) (hx : x.natAbs < 2 ^ m) : (vl f k).natAbs < 2 ^ (m + n + 3) := by
  obtain ⟨t, i, hi, rfl⟩ := split G.ne k
  obtain ⟨h1, h2⟩ := h
  rw [pl_at t hi] at h1
  rw [pl_next t hi] at h2
  have b1 := (B.q _ (at_mem hi)).1
  have b2 := (B.q _ (at_mem G.ne)).1
  have bv := (B.q _ (at_mem hi)).2
  have bP := B.P
  have hP := G.P0
  have m300 : 2 ^ n ≤ 2 ^ m := Nat.pow_le_pow_right (by decide) hnm
  have e1 : 2 ^ (m + 2) = 4 * 2 ^ m := by rw [Nat.add_comm, Nat.pow_add]
  have ht : (t * f.P).natAbs < 2 ^ (m + 2) := by
    rw [e1]
    have b4 : ∀ j, j < f.ps.length → (at_ f j).1.natAbs < 2 ^ n := fun j hj => (B.q _ (at_mem hj)).1
    generalize 2 ^ m = M at *
    generalize 2 ^ n = N at *
    split at h2
    · rename_i h3
      have b3 := b4 _ h3
      omega
    · rw [Int.add_mul] at h2
      omega
  have ht2 : t.natAbs < 2 ^ (m + 2) := by
    refine Nat.lt_of_le_of_lt ?_ ht
    rw [Int.natAbs_mul]
    exact Nat.le_mul_of_pos_right _ (by omega)
  rw [vl_at t hi]
  exact L2.natAbs_add_lt (a := n) (b := m + 2 + n) bv (L2.natAbs_mul_lt (a := m + 2) (b := n) ht2 B.R (Nat.le_refl _)) (by omega) (by omega)
end Sx
namespace L2
open PySem
theorem canLayAll_pairs : ∀ a : List (Int × Int), PyData.canLayAll0 (a.map fun q => .tuple ([q.1, q.2].map PyData.int)) = true
  | [] => rfl
  | x :: a => by
    show (PyData.canLay0 (.tuple ([x.1, x.2].map PyData.int)) && PyData.canLayAll0 (a.map fun q => .tuple ([q.1, q.2].map PyData.int))) = true
    rw [canLayAll_pairs a]
    rfl
theorem depthAll_pairs : ∀ a : List (Int × Int), PyData.depthAll (a.map fun q => .tuple ([q.1, q.2].map PyData.int)) ≤ 1
  | [] => Nat.zero_le _
  | x :: a => by
    have h := depthAll_pairs a
    show max 1 (PyData.depthAll (a.map fun q => .tuple ([q.1, q.2].map PyData.int))) ≤ 1
    omega
theorem shaped_pairs (a : List (Int × Int)) : SeqAt.shaped (.list (a.map fun q => .tuple ([q.1, q.2].map PyData.int))) = true := by
  show (PyData.canLayAll0 (a.map fun q => .tuple ([q.1, q.2].map PyData.int)) && decide (PyData.depthAll (a.map fun q => .tuple ([q.1, q.2].map PyData.int)) + 1 ≤ 64)) = true
  rw [canLayAll_pairs, decide_eq_true (by have := depthAll_pairs a; omega)]
  rfl
theorem eqv_nil (a : List (Int × Int)) : PyData.eqv (.list (a.map fun q => .tuple ([q.1, q.2].map PyData.int))) (.list []) = a.isEmpty := by
  cases a <;> rfl
theorem dpAll_pairs {K : PySem.W.Frag} {H : Hp} : ∀ {xs : List V} {qs : List (Int × Int)}, xs.length = qs.length → (∀ (i : Nat) (q : Int × Int), qs[i]? = some q → ∃ r, xs[i]? = some (.ref r) ∧ H r = some (.tup [.int q.1, .int q.2])) → DpAll K H xs (qs.map fun q => .tuple ([q.1, q.2].map PyData.int))
  | [], [], _, _ => .nil
  | [], _ :: _, h, _ => by cases h
  | _ :: _, [], h, _ => by cases h
  | x :: xs, q :: qs, h, g => by
    obtain ⟨r, h1, h2⟩ := g 0 q rfl
    obtain rfl := Option.some.inj h1
    exact .cons (dp_ints (ns := [q.1, q.2]) (SqT.of_ h2)) (dpAll_pairs (by simpa using h) fun i q' e => g (i + 1) q' e)
end L2

/-! ### the least form of a step map -/
namespace Sx
def Per (f : F) (d : Int) : Prop := ∃ w g : Int, ∀ k, pl f (k + d) = pl f k + w ∧ vl f (k + d) = vl f k + g
def Least (f : F) : Prop := ∀ d : Nat, 0 < d → Per f d → f.ps.length ≤ d
theorem Per.self {f : F} (hn : 0 < f.ps.length) : Per f f.ps.length := ⟨f.P, f.R, fun k => shift hn k⟩
theorem Per.sub {f : F} {a b : Int} (ha : Per f a) (hb : Per f b) : Per f (a - b) := by
  obtain ⟨w, g, h⟩ := ha
  obtain ⟨w', g', h'⟩ := hb
  refine ⟨w - w', g - g', fun k => ?_⟩
  have h1 := h (k - b)
  have h2 := h' (k - b)
  rw [show k - b + b = k by omega] at h2
  rw [show k - b + a = k + (a - b) by omega] at h1
  omega
theorem Per.zero {f : F} : Per f 0 := ⟨0, 0, fun k => by rw [Int.add_zero]; omega⟩
theorem Per.neg {f : F} {a : Int} (ha : Per f a) : Per f (-a) := by
  have := Per.zero.sub ha
  rw [Int.zero_sub] at this
  exact this
theorem Per.add {f : F} {a b : Int} (ha : Per f a) (hb : Per f b) : Per f (a + b) := by
  have := ha.sub hb.neg
  rw [Int.sub_neg] at this
  exact this
theorem Per.mul {f : F} {a : Int} (ha : Per f a) : ∀ n : Nat, Per f (n * a)
  | 0 => by rw [show ((0 : Nat) : Int) * a = 0 by simp]; exact Per.zero
  | n + 1 => by
    have := (Per.mul ha n).add ha
    rw [show (n : Int) * a + a = ((n + 1 : Nat) : Int) * a by rw [show ((n + 1 : Nat) : Int) = (n : Int) + 1 by omega, Int.add_mul, Int.one_mul]] at this
    exact this
/-- the rest of two such numbers is one -/
theorem Per.mod {f : F} {a m : Nat} (ha : Per f a) (hm : Per f m) : Per f ((a % m : Nat) : Int) := by
  have := ha.sub (hm.mul (a / m))
  have e := Nat.div_add_mod a m
  rw [Nat.mul_comm] at e
  rw [show (a : Int) - ((a / m : Nat) : Int) * (m : Int) = ((a % m : Nat) : Int) by rw [← Int.natCast_mul]; omega] at this
  exact this
theorem Rep.per {f g : F} (r : Rep f g) {d : Int} (h : Per f d) : Per g d := by
  obtain ⟨w, u, h⟩ := h
  exact ⟨w, u, fun k => ⟨by rw [← (r _).1, ← (r k).1]; exact (h k).1, by rw [← (r _).2, ← (r k).2]; exact (h k).2⟩⟩
theorem Rep.symm {f g : F} (r : Rep f g) : Rep g f := fun k => ⟨(r k).1.symm, (r k).2.symm⟩
theorem Rep.trans {f g h : F} (r : Rep f g) (r' : Rep g h) : Rep f h := fun k => ⟨(r k).1.trans (r' k).1, (r k).2.trans (r' k).2⟩
/-- least forms with the same rows are the same -/
theorem Least.unique {f g : F} (hf : 0 < f.ps.length) (hg : 0 < g.ps.length) (lf : Least f) (lg : Least g) (r : Rep f g) : f = g := by
  have hn : f.ps.length = g.ps.length := Nat.le_antisymm (lf _ hg (r.symm.per (Per.self hg))) (lg _ hf (r.per (Per.self hf)))
  have s1 := shift hf 0
  have s2 := shift hg 0
  rw [(r _).1, (r _).1, (r _).2, (r _).2, hn] at s1
  have eP : f.P = g.P := by omega
  have eR : f.R = g.R := by omega
  have eps : f.ps = g.ps := by
    refine List.ext_getElem? fun i => ?_
    rcases Nat.lt_or_ge i f.ps.length with h | h
    · have h' : i < g.ps.length := by omega
      rw [at_get h, at_get h']
      have a := pl_at 0 h
      have b := pl_at 0 h'
      have c := vl_at 0 h
      have d := vl_at 0 h'
      rw [(r _).1, hn] at a
      rw [(r _).2, hn] at c
      exact congrArg some (Prod.ext (by omega) (by omega))
    · rw [List.getElem?_eq_none h, List.getElem?_eq_none (by omega)]
  cases f
  cases g
  simp only at eP eR eps
  rw [eP, eR, eps]
end Sx

namespace Sx
/-- what least_form asks of a number of parts -/
def Tst (f : F) (parts : Nat) : Prop := f.ps.length % parts = 0 ∧ f.P % (parts : Int) = 0 ∧ f.R % (parts : Int) = 0 ∧ ∀ k, k + f.ps.length / parts < f.ps.length → at_ f (k + f.ps.length / parts) = ((at_ f k).1 + f.P / (parts : Int), (at_ f k).2 + f.R / (parts : Int))
theorem Per.gcd {f : F} : ∀ a b : Nat, Per f a → Per f b → Per f (Nat.gcd a b : Nat) := fun a b =>
  Nat.gcd.induction (P := fun a b => Per f a → Per f b → Per f (Nat.gcd a b : Nat)) a b (fun n _ h => by rw [Nat.gcd_zero_left]; exact h) (fun m n hm ih ha hb => by rw [Nat.gcd_rec]; exact ih (hb.mod ha) ha)
theorem iter {f : F} {d w g : Int} (h : ∀ k, pl f (k + d) = pl f k + w ∧ vl f (k + d) = vl f k + g) : ∀ (n : Nat) (k : Int), pl f (k + n * d) = pl f k + n * w ∧ vl f (k + n * d) = vl f k + n * g
  | 0, k => by simp
  | n + 1, k => by
    have ih := iter h n k
    have h1 := h (k + n * d)
    rw [show ((n + 1 : Nat) : Int) = (n : Int) + 1 by omega, Int.add_mul, Int.add_mul, Int.add_mul, Int.one_mul, Int.one_mul, Int.one_mul, ← Int.add_assoc k]
    omega
theorem tst_of_per {f : F} (hn : 0 < f.ps.length) {d : Nat} (hd : 0 < d) (hdv : d ∣ f.ps.length) (h : Per f d) : Tst f (f.ps.length / d) := by
  obtain ⟨parts, hp⟩ := hdv
  have hp0 : 0 < parts := by
    rcases Nat.eq_zero_or_pos parts with z | z
    · rw [z, Nat.mul_zero] at hp; omega
    · exact z
  have e1 : f.ps.length / d = parts := by rw [hp, Nat.mul_div_cancel_left _ hd]
  have e2 : f.ps.length / parts = d := by rw [hp, Nat.mul_div_cancel _ hp0]
  obtain ⟨w, g, hw⟩ := h
  have s := shift hn 0
  have i := iter hw parts 0
  rw [show (0 : Int) + (parts : Int) * (d : Int) = 0 + ((f.ps.length : Nat) : Int) by rw [hp, Int.natCast_mul, Int.mul_comm]] at i
  have eP : f.P = parts * w := by omega
  have eR : f.R = parts * g := by omega
  have hpi : (parts : Int) ≠ 0 := by omega
  rw [e1]
  unfold Tst
  rw [e2, eP, eR, Int.mul_emod_right, Int.mul_emod_right, Int.mul_ediv_cancel_left _ hpi, Int.mul_ediv_cancel_left _ hpi]
  refine ⟨by rw [hp]; exact Nat.mul_mod_left d parts, rfl, rfl, fun k hk => ?_⟩
  have a := hw k
  have b := pl_at (f := f) (i := k) 0 (by omega)
  have c := pl_at (f := f) (i := k + d) 0 hk
  have b' := vl_at (f := f) (i := k) 0 (by omega)
  have c' := vl_at (f := f) (i := k + d) 0 hk
  rw [show (0 : Int) * (f.ps.length : Int) + (k : Int) = (k : Int) by omega] at b b'
  rw [show (0 : Int) * (f.ps.length : Int) + ((k + d : Nat) : Int) = (k : Int) + d by omega] at c c'
  exact Prod.ext (by show _ = _ + _; omega) (by show _ = _ + _; omega)
theorem least_of {f : F} (hn : 0 < f.ps.length) {parts : Nat} (hp : 0 < parts) (hbig : ∀ p', parts < p' → p' ≤ f.ps.length → ¬ Tst f p') {d : Nat} (hd : 0 < d) (h : Per f d) : f.ps.length / parts ≤ d := by
  have hg := Per.gcd _ _ h (Per.self hn)
  have g0 : 0 < Nat.gcd d f.ps.length := Nat.gcd_pos_of_pos_left _ hd
  have ht := tst_of_per hn g0 (Nat.gcd_dvd_right _ _) hg
  have hle : f.ps.length / Nat.gcd d f.ps.length ≤ parts := by
    rcases Nat.lt_or_ge parts (f.ps.length / Nat.gcd d f.ps.length) with z | z
    · exact absurd ht (hbig _ z (Nat.div_le_self _ _))
    · exact z
  have e := Nat.div_mul_cancel (Nat.gcd_dvd_right d f.ps.length)
  have h1 : f.ps.length ≤ parts * Nat.gcd d f.ps.length := by
    have := Nat.mul_le_mul_right (Nat.gcd d f.ps.length) hle
    omega
  exact Nat.le_trans (Nat.div_le_of_le_mul h1) (Nat.gcd_le_left _ hd)
end Sx

namespace L2
open PySem
theorem eqvAll_pairs : ∀ a b : List (Int × Int), PyData.eqvAll (a.map fun q => .tuple ([q.1, q.2].map PyData.int)) (b.map fun q => .tuple ([q.1, q.2].map PyData.int)) = decide (a = b)
  | [], [] => rfl
  | [], _ :: _ => rfl
  | _ :: _, [] => rfl
  | x :: a, y :: b => by
    show (PyData.eqv (.tuple ([x.1, x.2].map PyData.int)) (.tuple ([y.1, y.2].map PyData.int)) && PyData.eqvAll (a.map fun q => .tuple ([q.1, q.2].map PyData.int)) (b.map fun q => .tuple ([q.1, q.2].map PyData.int))) = _
    rw [eqvAll_pairs a b, eqv_ints]
    by_cases h : x = y
    · by_cases h2 : a = b
      · subst h h2; simp
      · simp [h, h2]
    · have : ¬ [x.1, x.2] = [y.1, y.2] := fun z => by
        injection z with z1 z2
        injection z2 with z2 _
        exact h (Prod.ext z1 z2)
      rw [decide_eq_false this, Bool.false_and, decide_eq_false (fun z => h (by injection z))]
/-- the data of a step map -/
def stD (f : Sx.F) : PyData := .tuple [.int f.P, .int f.R, .tuple (f.ps.map fun q => .tuple ([q.1, q.2].map PyData.int))]
theorem eqv_st (f g : Sx.F) : PyData.eqv (stD f) (stD g) = true ↔ f = g := by
  show ((f.P == g.P) && ((f.R == g.R) && (PyData.eqvAll (f.ps.map fun q => .tuple ([q.1, q.2].map PyData.int)) (g.ps.map fun q => .tuple ([q.1, q.2].map PyData.int)) && true))) = true ↔ _
  rw [eqvAll_pairs]
  cases f
  cases g
  simp
theorem shaped_st (f : Sx.F) : SeqAt.shaped (stD f) = true := by
  show ((true && (true && (PyData.canLayAll0 (f.ps.map fun q => .tuple ([q.1, q.2].map PyData.int)) && true))) && decide (max 0 (max 0 (max (PyData.depthAll (f.ps.map fun q => .tuple ([q.1, q.2].map PyData.int)) + 1) 0)) + 1 ≤ 64)) = true
  rw [canLayAll_pairs, decide_eq_true (by have := depthAll_pairs f.ps; omega)]
  rfl
end L2


/-! ### a step map as a function -/
namespace Sx
def Val (f : F) (x y : Int) : Prop := ∃ k, InStep f x k ∧ vl f k = y
def Norm (f : F) : Prop := ∀ i, i < f.ps.length → 0 ≤ (at_ f i).1 ∧ (at_ f i).1 < f.P
theorem InStep.at {f : F} (G : Good f) (k : Int) : InStep f (pl f k) k := ⟨Int.le_refl _, G.pm k⟩
/-- there is a step for every x -/
theorem InStep.exists {f : F} (G : Good f) (x : Int) : ∃ k, InStep f x k := by
  have hP := G.P0
  have hn := G.ne
  -- a place below and a place above
  have hlow : ∀ n : Nat, pl f (0 - n) ≤ pl f 0 - n := by
    intro n
    induction n with
    | zero => simp
    | succ n ih =>
      have := G.pm (0 - ((n + 1 : Nat) : Int))
      rw [show 0 - ((n + 1 : Nat) : Int) + 1 = 0 - (n : Int) by omega] at this
      omega
  have hhigh : ∀ n : Nat, pl f 0 + n ≤ pl f (0 + n) := by
    intro n
    induction n with
    | zero => simp
    | succ n ih =>
      have := G.pm (0 + (n : Int))
      rw [show 0 + (n : Int) + 1 = 0 + ((n + 1 : Nat) : Int) by omega] at this
      omega
  have key : ∀ (n : Nat) (a : Int), pl f a ≤ x → x < pl f (a + (n + 1 : Nat)) → ∃ k, InStep f x k := by
    intro n
    induction n with
    | zero => intro a h1 h2; exact ⟨a, h1, h2⟩
    | succ n ih =>
      intro a h1 h2
      rcases Int.lt_or_le x (pl f (a + 1)) with z | z
      · exact ⟨a, h1, z⟩
      · refine ih (a + 1) z ?_
        rw [show a + 1 + ((n + 1 : Nat) : Int) = a + ((n + 1 + 1 : Nat) : Int) by omega]
        exact h2
  obtain ⟨m, hm⟩ : ∃ m : Nat, (x - pl f 0).natAbs = m := ⟨_, rfl⟩
  refine key (2 * m + 1) (0 - (m : Int)) (by have := hlow m; omega) ?_
  have := hhigh (m + 1)
  rw [show 0 - (m : Int) + ((2 * m + 1 + 1 : Nat) : Int) = 0 + ((m + 1 + 1 : Nat) : Int) by omega]
  have h2 := hhigh (m + 1 + 1)
  omega
theorem Val.exists {f : F} (G : Good f) (x : Int) : ∃ y, Val f x y := by
  obtain ⟨k, h⟩ := InStep.exists G x
  exact ⟨_, k, h, rfl⟩
theorem Val.unique {f : F} (G : Good f) {x y z : Int} (h : Val f x y) (h' : Val f x z) : y = z := by
  obtain ⟨k, a, rfl⟩ := h
  obtain ⟨k', a', rfl⟩ := h'
  rw [InStep.unique G a a']
theorem Rep.val {f g : F} (r : Rep f g) {x y : Int} (h : Val f x y) : Val g x y := by
  obtain ⟨k, a, e⟩ := h
  exact ⟨k, r.inStep a, by rw [← (r k).2]; exact e⟩
/-- the places are where the value grows -/
theorem place_iff {f : F} (G : Good f) {x y z : Int} (h : Val f x y) (h' : Val f (x - 1) z) : z < y ↔ ∃ k, x = pl f k := by
  obtain ⟨k, a, rfl⟩ := h
  obtain ⟨k', a', rfl⟩ := h'
  rw [(before G a a').1]
  constructor
  · intro e; exact ⟨k, e⟩
  · rintro ⟨j, rfl⟩
    rw [InStep.unique G (InStep.at G j) a]
theorem place_of {f g : F} (Gf : Good f) (Gg : Good g) (h : ∀ x y, Val f x y → Val g x y) (k : Int) : ∃ m, pl f k = pl g m := by
  obtain ⟨y, hy⟩ := Val.exists Gf (pl f k)
  obtain ⟨z, hz⟩ := Val.exists Gf (pl f k - 1)
  have := (place_iff Gf hy hz).mpr ⟨k, rfl⟩
  exact (place_iff Gg (h _ _ hy) (h _ _ hz)).mp this
theorem pl_zero {f : F} (hn : 0 < f.ps.length) : pl f 0 = (at_ f 0).1 := by
  have := pl_at (f := f) (i := 0) 0 hn
  rw [show (0 : Int) * (f.ps.length : Int) + ((0 : Nat) : Int) = 0 by omega] at this
  omega
theorem Norm.neg {f : F} (N : Norm f) (hn : 0 < f.ps.length) : pl f (-1) < 0 := by
  have := pl_at (f := f) (i := f.ps.length - 1) (-1) (by omega)
  rw [show (-1 : Int) * (f.ps.length : Int) + ((f.ps.length - 1 : Nat) : Int) = -1 by omega] at this
  have h := N (f.ps.length - 1) (by omega)
  omega
theorem ext_rep {f g : F} (Gf : Good f) (Gg : Good g) (Nf : Norm f) (Ng : Norm g) (h : ∀ x y, Val f x y → Val g x y) : Rep f g := by
  have h' : ∀ x y, Val g x y → Val f x y := fun x y hy => by
    obtain ⟨z, hz⟩ := Val.exists Gf x
    rw [← Val.unique Gg (h _ _ hz) hy]
    exact hz
  have le0 : ∀ {f g : F}, Good f → Good g → Norm f → Norm g → (∀ x y, Val f x y → Val g x y) → pl g 0 ≤ pl f 0 := fun {f g} Gf Gg Nf Ng h => by
    obtain ⟨m, hm⟩ := place_of Gf Gg h 0
    have h0 := (Nf 0 Gf.ne).1
    rw [← pl_zero Gf.ne, hm] at h0
    have hneg := Ng.neg Gg.ne
    have : -1 < m := (mono_iff Gg.pm).mp (by omega)
    rw [hm]
    exact mono_le Gg.pm (by omega)
  have base : pl f 0 = pl g 0 := Int.le_antisymm (le0 Gg Gf Ng Nf h') (le0 Gf Gg Nf Ng h)
  have up : ∀ {f g : F}, Good f → Good g → (∀ x y, Val f x y → Val g x y) → ∀ k, pl f k = pl g k → pl g (k + 1) ≤ pl f (k + 1) := fun {f g} Gf Gg h k e => by
    obtain ⟨m, hm⟩ := place_of Gf Gg h (k + 1)
    have := Gf.pm k
    rw [e, hm] at this
    have := (mono_iff Gg.pm).mp this
    rw [hm]
    exact mono_le Gg.pm (by omega)
  have dn : ∀ {f g : F}, Good f → Good g → (∀ x y, Val f x y → Val g x y) → ∀ k, pl f k = pl g k → pl f (k - 1) ≤ pl g (k - 1) := fun {f g} Gf Gg h k e => by
    obtain ⟨m, hm⟩ := place_of Gf Gg h (k - 1)
    have := Gf.pm (k - 1)
    rw [show k - 1 + 1 = k by omega, e, hm] at this
    have := (mono_iff Gg.pm).mp this
    rw [hm]
    exact mono_le Gg.pm (by omega)
  have pos : ∀ n : Nat, pl f n = pl g n := by
    intro n
    induction n with
    | zero => exact base
    | succ n ih => exact Int.le_antisymm (up Gg Gf h' n ih.symm) (up Gf Gg h n ih)
  have neg : ∀ n : Nat, pl f (0 - n) = pl g (0 - n) := by
    intro n
    induction n with
    | zero => exact base
    | succ n ih =>
      rw [show (0 : Int) - ((n + 1 : Nat) : Int) = 0 - (n : Int) - 1 by omega]
      exact Int.le_antisymm (dn Gf Gg h _ ih) (dn Gg Gf h' _ ih.symm)
  have all : ∀ k, pl f k = pl g k := fun k => by
    rcases Int.lt_or_le k 0 with z | z
    · have := neg k.natAbs
      rw [show (0 : Int) - (k.natAbs : Int) = k by omega] at this
      exact this
    · have := pos k.natAbs
      rw [show (k.natAbs : Int) = k by omega] at this
      exact this
  intro k
  refine ⟨all k, ?_⟩
  have hv := h _ _ ⟨k, InStep.at Gf k, rfl⟩
  have hg : Val g (pl f k) (vl g k) := ⟨k, by rw [all k]; exact InStep.at Gg k, rfl⟩
  exact Val.unique Gg hv hg
theorem ext {f g : F} (Gf : Good f) (Gg : Good g) (Nf : Norm f) (Ng : Norm g) (lf : Least f) (lg : Least g) (h : ∀ x y, Val f x y → Val g x y) : f = g := Least.unique Gf.ne Gg.ne lf lg (ext_rep Gf Gg Nf Ng h)
end Sx

/-! ### a step map as a function of ints -/
namespace Sx
open Classical in
/-- the value of a step map -/
noncomputable def ev (f : F) (x : Int) : Int := if h : ∃ k, InStep f x k then vl f (choose h) else 0
theorem ev_of {f : F} (G : Good f) {x k : Int} (h : InStep f x k) : ev f x = vl f k := by
  unfold ev
  have hex : ∃ k, InStep f x k := ⟨k, h⟩
  rw [dif_pos hex]
  rw [InStep.unique G (Classical.choose_spec hex) h]
theorem ev_val {f : F} (G : Good f) {x y : Int} (h : Val f x y) : ev f x = y := by
  obtain ⟨k, a, rfl⟩ := h
  exact ev_of G a
theorem val_ev {f : F} (G : Good f) (x : Int) : Val f x (ev f x) := by
  obtain ⟨k, h⟩ := InStep.exists G x
  exact ⟨k, h, (ev_of G h).symm⟩
theorem ev_pl {f : F} (G : Good f) (k : Int) : ev f (pl f k) = vl f k := ev_of G (InStep.at G k)
theorem ev_mono {f : F} (G : Good f) {x y : Int} (h : x ≤ y) : ev f x ≤ ev f y := by
  obtain ⟨k, hk⟩ := InStep.exists G x
  obtain ⟨j, hj⟩ := InStep.exists G y
  rw [ev_of G hk, ev_of G hj]
  have : k < j + 1 := (mono_iff G.pm).mp (Int.lt_of_le_of_lt hk.1 (Int.lt_of_le_of_lt h hj.2))
  exact mono_le G.vm (by omega)
theorem ev_shift1 {f : F} (G : Good f) (x : Int) : ev f (x + f.P) = ev f x + f.R := by
  obtain ⟨k, hk⟩ := InStep.exists G x
  rw [ev_of G hk, ev_of G (hk.shift G.ne), (shift G.ne k).2]
/-- a map that rises by R with P, for any whole number of turns -/
theorem turns {g : Int → Int} {P R : Int} (h : ∀ x, g (x + P) = g x + R) (x t : Int) : g (x + t * P) = g x + t * R := by
  have pos : ∀ (n : Nat) (x : Int), g (x + n * P) = g x + n * R := by
    intro n
    induction n with
    | zero => intro x; simp
    | succ n ih =>
      intro x
      rw [show ((n + 1 : Nat) : Int) = (n : Int) + 1 by omega, Int.add_mul, Int.add_mul, Int.one_mul, Int.one_mul, ← Int.add_assoc, h, ih]
      omega
  rcases Int.le_total 0 t with z | z
  · have := pos t.toNat x
    rw [show ((t.toNat : Nat) : Int) = t by omega] at this
    exact this
  · have := pos (-t).toNat (x + t * P)
    rw [show (((-t).toNat : Nat) : Int) = -t by omega, Int.neg_mul, Int.neg_mul, show x + t * P + -(t * P) = x by omega] at this
    omega
theorem ev_shift {f : F} (G : Good f) (x t : Int) : ev f (x + t * f.P) = ev f x + t * f.R := turns (ev_shift1 G) x t
theorem Rep.ev {f g : F} (r : Rep f g) (Gf : Good f) (Gg : Good g) (x : Int) : ev f x = ev g x := by
  obtain ⟨k, hk⟩ := InStep.exists Gf x
  rw [ev_of Gf hk, ev_of Gg (r.inStep hk), (r k).2]
/-- where it rises -/
theorem jump_iff {f : F} (G : Good f) (x : Int) : ev f (x - 1) < ev f x ↔ ∃ k, x = pl f k := place_iff G (val_ev G x) (val_ev G (x - 1))
/-- what a Step object holds -/
structure Ok (f : F) : Prop where
  g : Good f
  l : Least f
  n : Norm f
theorem Ok.ext {f g : F} (a : Ok f) (b : Ok g) (h : ∀ x, ev f x = ev g x) : f = g := Sx.ext a.g b.g a.n b.n a.l b.l fun x y hy => by
  have := val_ev b.g x
  rw [← h x, ev_val a.g hy] at this
  exact this
theorem Ok.eq_iff {f g : F} (a : Ok f) (b : Ok g) : f = g ↔ ∀ x, ev f x = ev g x := ⟨fun e x => by rw [e], a.ext b⟩
theorem Norm.rep_part {f : F} {sz : Nat} {w g : Int} (N : Norm f) (hs : sz ≤ f.ps.length) (h : ∀ i, i < sz → (at_ f i).1 < w) : Norm ⟨w, g, f.ps.take sz⟩ := by
  intro i hi
  have hi' : i < sz := by
    have : i < (f.ps.take sz).length := hi
    rw [List.length_take] at this
    omega
  have e : at_ (⟨w, g, f.ps.take sz⟩ : F) i = at_ f i := by
    unfold at_
    show (f.ps.take sz).getD i (0, 0) = f.ps.getD i (0, 0)
    rw [List.getD_eq_getElem?_getD, List.getD_eq_getElem?_getD, List.getElem?_take, if_pos hi']
  rw [e]
  exact ⟨(N i (by omega)).1, h i hi'⟩
/-- never falling, with a period: no rise in between, no change -/
theorem flat {F : Int → Int} {a : Int} : ∀ (n : Nat), (∀ x, a < x → x ≤ a + n → ¬ F (x - 1) < F x) → (∀ x, F (x - 1) ≤ F x) → F (a + n) = F a
  | 0, _, _ => by simp
  | n + 1, h, m => by
    have ih := flat n (fun x h1 h2 => h x h1 (by omega)) m
    have h1 := h (a + ((n + 1 : Nat) : Int)) (by omega) (by omega)
    have h2 := m (a + ((n + 1 : Nat) : Int))
    rw [show a + ((n + 1 : Nat) : Int) - 1 = a + (n : Int) by omega] at h1 h2
    omega
theorem flat' {F : Int → Int} {a b : Int} (hab : a ≤ b) (h : ∀ x, a < x → x ≤ b → ¬ F (x - 1) < F x) (m : ∀ x, F (x - 1) ≤ F x) : F b = F a := by
  have := flat (F := F) (a := a) (b - a).toNat (fun x h1 h2 => h x h1 (by omega)) m
  rw [show a + ((b - a).toNat : Int) = b by omega] at this
  exact this
theorem mono_of {F : Int → Int} (m : ∀ x, F (x - 1) ≤ F x) {a b : Int} (hab : a ≤ b) : F a ≤ F b := by
  have key : ∀ n : Nat, F a ≤ F (a + n) := by
    intro n
    induction n with
    | zero => simp
    | succ n ih =>
      have := m (a + ((n + 1 : Nat) : Int))
      rw [show a + ((n + 1 : Nat) : Int) - 1 = a + (n : Int) by omega] at this
      omega
  have := key (b - a).toNat
  rw [show a + ((b - a).toNat : Int) = b by omega] at this
  exact this
/-- a function that can be told as a step map -/
structure Fit (F : Int → Int) (P R : Int) : Prop where
  P0 : 0 < P
  R0 : 0 < R
  m : ∀ x, F (x - 1) ≤ F x
  t : ∀ x, F (x + P) = F x + R
theorem Ok.fit {f : F} (a : Ok f) : Fit (ev f) f.P f.R := ⟨a.g.P0, a.g.R0, fun x => ev_mono a.g (by omega), ev_shift1 a.g⟩
/-- the rows of rises of F, told in order, are F -/
theorem raw_of {F : Int → Int} {P R : Int} (h : Fit F P R) {ks : List (Int × Int)} (hl : ks.length ≤ 240) (hv : ∀ q ∈ ks, q.2 = F q.1 ∧ 0 ≤ q.1 ∧ q.1 < P ∧ F (q.1 - 1) < F q.1)
    (hs : ks.Pairwise fun a b => a.1 < b.1) (hc : ∀ x, 0 ≤ x → x < P → F (x - 1) < F x → (x, F x) ∈ ks) (n : Nat) (hn : n ≤ 4000) (hb : P.natAbs < 2 ^ n ∧ R.natAbs < 2 ^ n ∧ ∀ q ∈ ks, q.1.natAbs < 2 ^ n ∧ q.2.natAbs < 2 ^ n) :
    Raw ⟨P, R, ks⟩ ∧ (∀ x, ev ⟨P, R, ks⟩ x = F x) ∧ Bd n ⟨P, R, ks⟩ := by
  have hP := h.P0
  have hR := h.R0
  have M : ∀ {a b : Int}, a ≤ b → F a ≤ F b := fun hab => mono_of h.m hab
  have T := turns h.t
  -- a rise there must be
  have hne : 0 < ks.length := by
    rcases Nat.eq_zero_or_pos ks.length with z | z
    · have hnil : ks = [] := List.eq_nil_of_length_eq_zero z
      have e := flat' (F := F) (a := -1) (b := P - 1) (by omega) (fun x h1 h2 h3 => by have := hc x (by omega) (by omega) h3; rw [hnil] at this; cases this) h.m
      have e2 := h.t (-1)
      rw [show -1 + P = P - 1 by omega] at e2
      omega
    · exact z
  have ga : ∀ i, i < ks.length → at_ ⟨P, R, ks⟩ i ∈ ks := fun i hi => at_mem (f := ⟨P, R, ks⟩) hi
  have up : ∀ i, i + 1 < ks.length → (at_ ⟨P, R, ks⟩ i).1 < (at_ ⟨P, R, ks⟩ (i + 1)).1 := fun i hi => by
    have := List.pairwise_iff_getElem.mp hs i (i + 1) (by omega) hi (by omega)
    have e1 := at_get (f := ⟨P, R, ks⟩) (i := i) (show i < ks.length by omega)
    have e2 := at_get (f := ⟨P, R, ks⟩) (i := i + 1) hi
    rw [List.getElem?_eq_getElem (show i < (⟨P, R, ks⟩ : Sx.F).ps.length from by show i < ks.length; omega)] at e1
    rw [List.getElem?_eq_getElem (show i + 1 < (⟨P, R, ks⟩ : Sx.F).ps.length from hi)] at e2
    rw [← Option.some.inj e1, ← Option.some.inj e2]
    exact this
  have upv : ∀ i, i + 1 < ks.length → (at_ ⟨P, R, ks⟩ i).2 < (at_ ⟨P, R, ks⟩ (i + 1)).2 := fun i hi => by
    have a := hv _ (ga i (by omega))
    have b := hv _ (ga (i + 1) hi)
    have c := up i hi
    have := M (show (at_ ⟨P, R, ks⟩ i).1 ≤ (at_ ⟨P, R, ks⟩ (i + 1)).1 - 1 by omega)
    omega
  have p2 : ∀ k : Nat, 2 ^ n ≤ 2 ^ 4000 := fun _ => Nat.pow_le_pow_right (by decide) hn
  have raw : Raw ⟨P, R, ks⟩ := by
    refine ⟨hne, hl, hP, hR, fun i hi => ?_, fun i hi => ?_, fun i hi => ⟨up i hi, upv i hi⟩, ?_, ?_, fun q hq => ?_⟩
    · have := hv _ (ga i hi)
      exact ⟨this.2.1, this.2.2.1⟩
    · have a := hv _ (ga i hi)
      have b := hv _ (ga 0 hne)
      have c := M (show (at_ ⟨P, R, ks⟩ i).1 ≤ (at_ ⟨P, R, ks⟩ 0).1 - 1 + P by omega)
      rw [h.t] at c
      show (at_ ⟨P, R, ks⟩ i).2 < (at_ ⟨P, R, ks⟩ 0).2 + R
      omega
    · exact Nat.lt_of_lt_of_le hb.1 (p2 0)
    · exact Nat.lt_of_lt_of_le hb.2.1 (p2 0)
    · exact ⟨Nat.lt_of_lt_of_le (hb.2.2 q hq).1 (p2 0), Nat.lt_of_lt_of_le (hb.2.2 q hq).2 (p2 0)⟩
  refine ⟨raw, fun x => ?_, hb.1, hb.2.1, hb.2.2⟩
  have G := raw.good
  obtain ⟨k, hk⟩ := InStep.exists G x
  rw [ev_of G hk]
  -- the value at the place
  have hpv : F (pl ⟨P, R, ks⟩ k) = vl ⟨P, R, ks⟩ k := by
    obtain ⟨t, i, hi, rfl⟩ := split G.ne k
    rw [pl_at t hi, vl_at t hi, T, (hv _ (ga i hi)).1]
  rw [← hpv]
  refine (flat' hk.1 (fun y h1 h2 h3 => ?_) h.m).symm
  -- a rise in between would be a place
  have hy : ∃ j, y = pl ⟨P, R, ks⟩ j := by
    obtain ⟨t, ht⟩ : ∃ t, y / P = t := ⟨_, rfl⟩
    have d1 := Int.mul_ediv_add_emod y P
    have d2 := Int.emod_nonneg y (show P ≠ 0 by omega)
    have d3 := Int.emod_lt_of_pos y hP
    rw [ht] at d1
    have e1 := T (y % P) t
    have e2 := T (y % P - 1) t
    have c1 : y % P + t * P = y := by rw [Int.mul_comm t P]; omega
    have c2 : y % P - 1 + t * P = y - 1 := by omega
    rw [c1] at e1
    rw [c2] at e2
    have hin := hc (y % P) d2 d3 (by omega)
    obtain ⟨i, hi, e⟩ := List.mem_iff_getElem.mp hin
    refine ⟨t * ((⟨P, R, ks⟩ : Sx.F).ps.length : Int) + i, ?_⟩
    rw [pl_at t hi]
    have e3 := at_get (f := ⟨P, R, ks⟩) (i := i) hi
    rw [List.getElem?_eq_getElem (show i < (⟨P, R, ks⟩ : Sx.F).ps.length from hi)] at e3
    rw [← Option.some.inj e3]
    show y = (ks[i]).1 + t * P
    rw [e]
    show y = y % P + t * P
    omega
  obtain ⟨j, rfl⟩ := hy
  have a1 := (mono_iff G.pm).mp h1
  have a2 := (mono_iff G.pm).mp (Int.lt_of_le_of_lt h2 hk.2)
  omega
end Sx

namespace Sx
theorem Norm.part {f : F} (N : Norm f) {sz parts : Nat} {w g : Int} (hs : 0 < sz) (hp : 0 < parts) (hn : f.ps.length = parts * sz) (hw : f.P = parts * w) (r : Rep ⟨w, g, f.ps.take sz⟩ f) : Norm ⟨w, g, f.ps.take sz⟩ := by
  have hle : sz ≤ f.ps.length := by rw [hn]; exact Nat.le_mul_of_pos_left _ hp
  have hl : (f.ps.take sz).length = sz := by rw [List.length_take]; omega
  refine N.rep_part hle fun i hi => ?_
  have hi2 : i < (⟨w, g, f.ps.take sz⟩ : F).ps.length := by show i < (f.ps.take sz).length; omega
  have a := pl_at (f := ⟨w, g, f.ps.take sz⟩) ((parts : Int) - 1) hi2
  have ea : at_ (⟨w, g, f.ps.take sz⟩ : F) i = at_ f i := by
    unfold at_
    show (f.ps.take sz).getD i (0, 0) = f.ps.getD i (0, 0)
    rw [List.getD_eq_getElem?_getD, List.getD_eq_getElem?_getD, List.getElem?_take, if_pos hi]
  rw [(r _).1, ea] at a
  have hm : (parts - 1) * sz + i < f.ps.length := by
    rw [hn, show parts = (parts - 1) + 1 by omega, Nat.add_mul, Nat.add_sub_cancel]
    omega
  have ek : ((parts : Int) - 1) * (((⟨w, g, f.ps.take sz⟩ : F).ps.length : Nat) : Int) + (i : Int) = 0 * (f.ps.length : Int) + (((parts - 1) * sz + i : Nat) : Int) := by
    show ((parts : Int) - 1) * (((f.ps.take sz).length : Nat) : Int) + (i : Int) = _
    rw [hl, Int.natCast_add, Int.natCast_mul, show ((parts - 1 : Nat) : Int) = (parts : Int) - 1 by omega]
    omega
  rw [ek, pl_at 0 hm] at a
  have b := (N _ hm).2
  rw [hw] at b
  have e : ((parts : Int) - 1) * w = parts * w - w := by rw [Int.sub_mul, Int.one_mul]
  have a' : (at_ f ((parts - 1) * sz + i)).1 + 0 * f.P = (at_ f i).1 + ((parts : Int) - 1) * w := a
  omega
/-! ### the scan of step_of -/
/-- what step_of is told: values of F, at least at all places where F rises -/
structure Told (F : Int → Int) (P R : Int) (ps : List (Int × Int)) : Prop where
  fit : Fit F P R
  ne : ps ≠ []
  len : ps.length ≤ 240
  v : ∀ q ∈ ps, q.2 = F q.1
  c : ∀ x, F (x - 1) < F x → ∃ q ∈ ps, ∃ t : Int, x = q.1 + t * P
/-- folded into one period -/
def fold1 (P R : Int) (q : Int × Int) : Int × Int := (q.1 - q.1 / P * P, q.2 - q.1 / P * R)
theorem fold1_ok {F : Int → Int} {P R : Int} (h : Fit F P R) {q : Int × Int} (e : q.2 = F q.1) : (fold1 P R q).2 = F (fold1 P R q).1 ∧ 0 ≤ (fold1 P R q).1 ∧ (fold1 P R q).1 < P := by
  have hP := h.P0
  have d1 := Int.mul_ediv_add_emod q.1 P
  have d2 := Int.emod_nonneg q.1 (show P ≠ 0 by omega)
  have d3 := Int.emod_lt_of_pos q.1 hP
  have T := turns h.t q.1 (-(q.1 / P))
  rw [Int.neg_mul, Int.neg_mul] at T
  have c := Int.mul_comm P (q.1 / P)
  refine ⟨?_, ?_, ?_⟩
  · show q.2 - q.1 / P * R = F (q.1 - q.1 / P * P)
    rw [show q.1 - q.1 / P * P = q.1 + -(q.1 / P * P) by omega, T, e]
    omega
  · show 0 ≤ q.1 - q.1 / P * P
    omega
  · show q.1 - q.1 / P * P < P
    omega
/-- the sorted row that is walked -/
structure Row (F : Int → Int) (P R : Int) (fs : List (Int × Int)) : Prop where
  fit : Fit F P R
  ne : 0 < fs.length
  len : fs.length ≤ 240
  v : ∀ q ∈ fs, q.2 = F q.1 ∧ 0 ≤ q.1 ∧ q.1 < P
  s : fs.Pairwise fun a b => a.1 ≤ b.1
  c : ∀ x, 0 ≤ x → x < P → F (x - 1) < F x → ∃ q ∈ fs, x = q.1
theorem row_of {F : Int → Int} {P R : Int} {ps fs : List (Int × Int)} (h : Told F P R ps) (hp : fs.Perm (ps.map (fold1 P R))) (hs : fs.Pairwise fun a b => a.1 ≤ b.1) : Row F P R fs := by
  have hl : fs.length = ps.length := by rw [hp.length_eq, List.length_map]
  refine ⟨h.fit, ?_, by have := h.len; omega, fun q hq => ?_, hs, fun x h0 h1 hx => ?_⟩
  · have := List.length_pos_iff.mpr h.ne
    omega
  · obtain ⟨u, hu, rfl⟩ := List.mem_map.mp (hp.mem_iff.mp hq)
    exact fold1_ok h.fit (h.v u hu)
  · obtain ⟨q, hq, t, e⟩ := h.c x hx
    refine ⟨fold1 P R q, hp.mem_iff.mpr (List.mem_map.mpr ⟨q, hq, rfl⟩), ?_⟩
    have f := fold1_ok h.fit (h.v q hq)
    have hP := h.fit.P0
    have e2 : (fold1 P R q).1 = q.1 - q.1 / P * P := rfl
    -- both are in the period, and differ by turns
    have hd : x - (fold1 P R q).1 = (t + q.1 / P) * P := by rw [e2, e, Int.add_mul]; omega
    have ht : t + q.1 / P = 0 := by
      rcases Int.lt_trichotomy (t + q.1 / P) 0 with z | z | z
      · have := Int.mul_le_mul_of_nonneg_right (show t + q.1 / P ≤ -1 by omega) (Int.le_of_lt hP)
        omega
      · exact z
      · have := Int.mul_le_mul_of_nonneg_right (show 1 ≤ t + q.1 / P by omega) (Int.le_of_lt hP)
        omega
    rw [ht] at hd
    omega
/-- what the walk has kept behind i items -/
structure Kept (F : Int → Int) (fs : List (Int × Int)) (i : Nat) (ks : List (Int × Int)) : Prop where
  len : ks.length ≤ i
  v : ∀ q ∈ ks, (∃ j, ∃ h : j < fs.length, j < i ∧ fs[j] = q) ∧ F (q.1 - 1) < F q.1
  s : ks.Pairwise fun a b => a.1 < b.1
  c : ∀ j, (h : j < fs.length) → j < i → F (fs[j].1 - 1) < F fs[j].1 → fs[j] ∈ ks
theorem kept0 (F : Int → Int) (fs : List (Int × Int)) : Kept F fs 0 [] := ⟨Nat.le_refl _, (fun q h => by cases h), .nil, fun j _ h => by omega⟩
/-- the value ahead of item i -/
def bef (R : Int) (fs : List (Int × Int)) : Nat → Int
  | 0 => (fs.getD (fs.length - 1) (0, 0)).2 - R
  | i + 1 => (fs.getD i (0, 0)).2
theorem row_le {F : Int → Int} {P R : Int} {fs : List (Int × Int)} (r : Row F P R fs) {i j : Nat} (hij : i ≤ j) (hj : j < fs.length) : (fs[i]'(by omega)).1 ≤ fs[j].1 := by
  rcases Nat.lt_or_eq_of_le hij with h | h
  · exact List.pairwise_iff_getElem.mp r.s i j (by omega) hj h
  · subst h; exact Int.le_refl _
/-- the value ahead is that of the moment before, or the item says the same again -/
theorem bef_eq {F : Int → Int} {P R : Int} {fs : List (Int × Int)} (r : Row F P R fs) {i : Nat} (hi : i < fs.length) :
    bef R fs i = F (fs[i].1 - 1) ∨ (bef R fs i = F fs[i].1 ∧ ∃ h : 0 < i, fs[i - 1] = fs[i]) := by
  have hv := fun j (hj : j < fs.length) => r.v fs[j] (List.getElem_mem hj)
  have M : ∀ {a b : Int}, a ≤ b → F a ≤ F b := fun hab => mono_of r.fit.m hab
  cases i with
  | zero =>
    left
    have hl : fs.length - 1 < fs.length := by omega
    have e : fs.getD (fs.length - 1) (0, 0) = fs[fs.length - 1] := by rw [List.getD_eq_getElem?_getD, List.getElem?_eq_getElem hl]; rfl
    show (fs.getD (fs.length - 1) (0, 0)).2 - R = _
    rw [e, (hv _ hl).1]
    have t := r.fit.t (fs[fs.length - 1].1 - P)
    rw [show fs[fs.length - 1].1 - P + P = fs[fs.length - 1].1 by omega] at t
    have b0 := hv 0 hi
    have b1 := hv _ hl
    have := flat' (F := F) (a := fs[fs.length - 1].1 - P) (b := fs[0].1 - 1) (by omega) (fun x h1 h2 h3 => ?_) r.fit.m
    · omega
    · rcases Int.lt_or_le x 0 with z | z
      · -- a rise below 0: one period up it is behind the last item
        have t1 := r.fit.t x
        have t2 := r.fit.t (x - 1)
        rw [show x - 1 + P = x + P - 1 by omega] at t2
        obtain ⟨q, hq, e⟩ := r.c (x + P) (by omega) (by omega) (by omega)
        obtain ⟨j, hj, rfl⟩ := List.mem_iff_getElem.mp hq
        have := row_le r (i := j) (j := fs.length - 1) (by omega) hl
        omega
      · obtain ⟨q, hq, e⟩ := r.c x z (by omega) h3
        obtain ⟨j, hj, rfl⟩ := List.mem_iff_getElem.mp hq
        have := row_le r (i := 0) (j := j) (by omega) hj
        omega
  | succ i =>
    have hi' : i < fs.length := by omega
    have e : bef R fs (i + 1) = F fs[i].1 := by
      show (fs.getD i (0, 0)).2 = _
      rw [List.getD_eq_getElem?_getD, List.getElem?_eq_getElem hi', ← (hv i hi').1]
      rfl
    have hle := row_le r (i := i) (j := i + 1) (by omega) hi
    rcases Int.lt_or_eq_of_le hle with h | h
    · left
      rw [e]
      refine (flat' (F := F) (a := fs[i].1) (b := fs[i + 1].1 - 1) (by omega) (fun x h1 h2 h3 => ?_) r.fit.m).symm
      have b0 := hv i hi'
      have b1 := hv (i + 1) hi
      obtain ⟨q, hq, ex⟩ := r.c x (by omega) (by omega) h3
      obtain ⟨j, hj, rfl⟩ := List.mem_iff_getElem.mp hq
      rcases Nat.lt_or_ge i j with z | z
      · have := row_le r (i := i + 1) (j := j) (by omega) hj
        omega
      · have := row_le r (i := j) (j := i) z hi'
        omega
    · right
      refine ⟨by rw [e, h], by omega, ?_⟩
      show fs[i] = fs[i + 1]
      have a := (hv i hi').1
      have b := (hv (i + 1) hi).1
      exact Prod.ext h (by rw [a, b, h])
theorem kept_yes {F : Int → Int} {P R : Int} {fs ks : List (Int × Int)} (r : Row F P R fs) {i : Nat} (hi : i < fs.length) (k : Kept F fs i ks) (h : fs[i].2 > bef R fs i) : Kept F fs (i + 1) (ks ++ [fs[i]]) := by
  have hv := r.v fs[i] (List.getElem_mem hi)
  have hj : F (fs[i].1 - 1) < F fs[i].1 := by
    rcases bef_eq r hi with z | z
    · omega
    · omega
  refine ⟨by rw [List.length_append]; have := k.len; show _ + 1 ≤ _; omega, fun q hq => ?_, ?_, fun j hj1 hj2 hj3 => ?_⟩
  · rcases List.mem_append.mp hq with z | z
    · obtain ⟨⟨j, h1, h2, h3⟩, h4⟩ := k.v q z
      exact ⟨⟨j, h1, by omega, h3⟩, h4⟩
    · rw [List.mem_singleton.mp z]
      exact ⟨⟨i, hi, by omega, rfl⟩, hj⟩
  · refine List.pairwise_append.mpr ⟨k.s, List.pairwise_singleton _ _, fun a ha b hb => ?_⟩
    rw [List.mem_singleton.mp hb]
    obtain ⟨⟨j, h1, h2, rfl⟩, h4⟩ := k.v a ha
    have hle := row_le r (i := j) (j := i) (by omega) hi
    rcases Int.lt_or_eq_of_le hle with z | z
    · exact z
    · -- the same place would not be greater than the one ahead
      exfalso
      have hp : i - 1 < fs.length := by omega
      have h5 := row_le r (i := j) (j := i - 1) (by omega) hp
      have h6 := row_le r (i := i - 1) (j := i) (by omega) hi
      have e : fs[i - 1].1 = fs[i].1 := by omega
      have b := (r.v fs[i - 1] (List.getElem_mem hp)).1
      have eb : bef R fs i = F fs[i - 1].1 := by
        obtain ⟨m, rfl⟩ : ∃ m, i = m + 1 := ⟨i - 1, by omega⟩
        show (fs.getD m (0, 0)).2 = F (fs[m]'(by omega)).1
        rw [List.getD_eq_getElem?_getD, List.getElem?_eq_getElem (show m < fs.length by omega)]
        exact b
      rw [e] at eb
      omega
  · rcases Nat.lt_or_ge j i with z | z
    · exact List.mem_append_left _ (k.c j hj1 z hj3)
    · obtain rfl : j = i := by omega
      exact List.mem_append_right _ (List.mem_singleton.mpr rfl)
theorem kept_no {F : Int → Int} {P R : Int} {fs ks : List (Int × Int)} (r : Row F P R fs) {i : Nat} (hi : i < fs.length) (k : Kept F fs i ks) (h : ¬ fs[i].2 > bef R fs i) : Kept F fs (i + 1) ks := by
  have hv := r.v fs[i] (List.getElem_mem hi)
  refine ⟨by have := k.len; omega, fun q hq => ?_, k.s, fun j hj1 hj2 hj3 => ?_⟩
  · obtain ⟨⟨j, h1, h2, h3⟩, h4⟩ := k.v q hq
    exact ⟨⟨j, h1, by omega, h3⟩, h4⟩
  · rcases Nat.lt_or_ge j i with z | z
    · exact k.c j hj1 z hj3
    · obtain rfl : j = i := by omega
      rcases bef_eq r hi with z | ⟨z, h0, e⟩
      · omega
      · have := k.c (j - 1) (by omega) (by omega) (by rw [e]; exact hj3)
        rw [e] at this
        exact this
theorem kept_raw {F : Int → Int} {P R : Int} {fs ks : List (Int × Int)} (r : Row F P R fs) (k : Kept F fs fs.length ks) (n : Nat) (hn : n ≤ 4000) (hP : P.natAbs < 2 ^ n) (hR : R.natAbs < 2 ^ n) (hb : ∀ q ∈ fs, q.1.natAbs < 2 ^ n ∧ q.2.natAbs < 2 ^ n) :
    Raw ⟨P, R, ks⟩ ∧ (∀ x, ev ⟨P, R, ks⟩ x = F x) ∧ Bd n ⟨P, R, ks⟩ := by
  have mem : ∀ q ∈ ks, q ∈ fs := fun q hq => by
    obtain ⟨⟨j, h1, h2, rfl⟩, h4⟩ := k.v q hq
    exact List.getElem_mem h1
  refine raw_of r.fit (by have := k.len; have := r.len; omega) (fun q hq => ?_) k.s (fun x h0 h1 hx => ?_) n hn ⟨hP, hR, fun q hq => hb q (mem q hq)⟩
  · have := r.v q (mem q hq)
    exact ⟨this.1, this.2.1, this.2.2, (k.v q hq).2⟩
  · obtain ⟨q, hq, rfl⟩ := r.c x h0 h1 hx
    obtain ⟨j, hj, rfl⟩ := List.mem_iff_getElem.mp hq
    have := k.c j hj hj hx
    rw [show fs[j] = (fs[j].1, F fs[j].1) from Prod.ext rfl (r.v _ (List.getElem_mem hj)).1] at this
    exact this
end Sx

namespace Sx
/-! ### strictly growing rows -/
theorem sandwich {g : Int → Int} (h : ∀ k, g k < g (k + 1)) (x : Int) : ∃ k, g k ≤ x ∧ x < g (k + 1) := by
  have hlow : ∀ n : Nat, g (0 - n) ≤ g 0 - n := by
    intro n
    induction n with
    | zero => simp
    | succ n ih =>
      have := h (0 - ((n + 1 : Nat) : Int))
      rw [show 0 - ((n + 1 : Nat) : Int) + 1 = 0 - (n : Int) by omega] at this
      omega
  have hhigh : ∀ n : Nat, g 0 + n ≤ g (0 + n) := by
    intro n
    induction n with
    | zero => simp
    | succ n ih =>
      have := h (0 + (n : Int))
      rw [show 0 + (n : Int) + 1 = 0 + ((n + 1 : Nat) : Int) by omega] at this
      omega
  have key : ∀ (n : Nat) (a : Int), g a ≤ x → x < g (a + (n + 1 : Nat)) → ∃ k, g k ≤ x ∧ x < g (k + 1) := by
    intro n
    induction n with
    | zero => intro a h1 h2; exact ⟨a, h1, h2⟩
    | succ n ih =>
      intro a h1 h2
      rcases Int.lt_or_le x (g (a + 1)) with z | z
      · exact ⟨a, h1, z⟩
      · refine ih (a + 1) z ?_
        rw [show a + 1 + ((n + 1 : Nat) : Int) = a + ((n + 1 + 1 : Nat) : Int) by omega]
        exact h2
  obtain ⟨m, hm⟩ : ∃ m : Nat, (x - g 0).natAbs = m := ⟨_, rfl⟩
  refine key (2 * m + 1) (0 - (m : Int)) (by have := hlow m; omega) ?_
  rw [show 0 - (m : Int) + ((2 * m + 1 + 1 : Nat) : Int) = 0 + ((m + 1 + 1 : Nat) : Int) by omega]
  have h2 := hhigh (m + 1 + 1)
  omega
/-- two strictly growing rows with the same members are one row, moved -/
theorem enum {a b : Int → Int} (ha : ∀ k, a k < a (k + 1)) (hb : ∀ k, b k < b (k + 1)) (h1 : ∀ k, ∃ m, a k = b m) (h2 : ∀ k, ∃ m, b k = a m) : ∃ c, ∀ k, a k = b (k + c) := by
  obtain ⟨c, hc⟩ := h1 0
  have next : ∀ {a b : Int → Int}, (∀ k, a k < a (k + 1)) → (∀ k, b k < b (k + 1)) → (∀ k, ∃ m, a k = b m) → ∀ k j, a k = b j → b (j + 1) ≤ a (k + 1) := fun {a b} ha hb h1 k j e => by
    obtain ⟨m, hm⟩ := h1 (k + 1)
    have := ha k
    rw [e, hm] at this
    have := (mono_iff hb).mp this
    rw [hm]
    exact mono_le hb (by omega)
  have prev : ∀ {a b : Int → Int}, (∀ k, a k < a (k + 1)) → (∀ k, b k < b (k + 1)) → (∀ k, ∃ m, a k = b m) → ∀ k j, a k = b j → a (k - 1) ≤ b (j - 1) := fun {a b} ha hb h1 k j e => by
    obtain ⟨m, hm⟩ := h1 (k - 1)
    have := ha (k - 1)
    rw [show k - 1 + 1 = k by omega, e, hm] at this
    have := (mono_iff hb).mp this
    rw [hm]
    exact mono_le hb (by omega)
  have pos : ∀ n : Nat, a n = b (n + c) := by
    intro n
    induction n with
    | zero => rw [show ((0 : Nat) : Int) + c = c by omega]; exact hc
    | succ n ih =>
      have x := next ha hb h1 _ _ ih
      have y := next hb ha h2 _ _ ih.symm
      rw [show (n : Int) + c + 1 = ((n + 1 : Nat) : Int) + c by omega] at x y
      exact Int.le_antisymm y x
  have neg : ∀ n : Nat, a (0 - n) = b (0 - n + c) := by
    intro n
    induction n with
    | zero => rw [show (0 : Int) - ((0 : Nat) : Int) + c = c by omega]; exact hc
    | succ n ih =>
      have x := prev ha hb h1 _ _ ih
      have y := prev hb ha h2 _ _ ih.symm
      rw [show (0 : Int) - ((n + 1 : Nat) : Int) + c = 0 - (n : Int) + c - 1 by omega, show (0 : Int) - ((n + 1 : Nat) : Int) = 0 - (n : Int) - 1 by omega]
      exact Int.le_antisymm x y
  refine ⟨c, fun k => ?_⟩
  rcases Int.le_total 0 k with z | z
  · have := pos k.toNat
    rw [show ((k.toNat : Nat) : Int) = k by omega] at this
    exact this
  · have := neg (-k).toNat
    rw [show (0 : Int) - (((-k).toNat : Nat) : Int) = k by omega] at this
    exact this
/-! ### the partner -/
theorem val_between {f : F} (G : Good f) (y : Int) : ∃ k, vl f (k - 1) < y ∧ y ≤ vl f k := by
  obtain ⟨k, h1, h2⟩ := sandwich G.vm (y - 1)
  exact ⟨k + 1, by rw [show k + 1 - 1 = k by omega]; omega, by omega⟩
open Classical in
/-- the least x whose value is not less than y -/
noncomputable def pa (f : F) (y : Int) : Int := if h : ∃ k, vl f (k - 1) < y ∧ y ≤ vl f k then pl f (choose h) else 0
theorem pa_of {f : F} (G : Good f) {y k : Int} (h1 : vl f (k - 1) < y) (h2 : y ≤ vl f k) : pa f y = pl f k := by
  unfold pa
  have hex : ∃ k, vl f (k - 1) < y ∧ y ≤ vl f k := ⟨k, h1, h2⟩
  rw [dif_pos hex]
  obtain ⟨a, b⟩ := Classical.choose_spec hex
  have c := (mono_iff G.vm).mp (Int.lt_of_lt_of_le a h2)
  have d := (mono_iff G.vm).mp (Int.lt_of_lt_of_le h1 b)
  rw [show Classical.choose hex = k by omega]
theorem gal {f : F} (G : Good f) {x y : Int} : pa f y ≤ x ↔ y ≤ ev f x := by
  obtain ⟨k, h1, h2⟩ := val_between G y
  rw [pa_of G h1 h2]
  constructor
  · intro h
    have := ev_mono G h
    rw [ev_pl G] at this
    omega
  · intro h
    obtain ⟨j, hj⟩ := InStep.exists G x
    rw [ev_of G hj] at h
    have c := (mono_iff G.vm).mp (Int.lt_of_lt_of_le h1 h)
    exact Int.le_trans (mono_le G.pm (show k ≤ j by omega)) hj.1
theorem pa_unique {f : F} (G : Good f) {x y : Int} (h1 : y ≤ ev f x) (h2 : ev f (x - 1) < y) : pa f y = x := by
  have a := (gal G).mpr h1
  have b : ¬ pa f y ≤ x - 1 := fun z => by have := (gal G).mp z; omega
  omega
theorem pa_spec {f : F} (G : Good f) (y : Int) : y ≤ ev f (pa f y) ∧ ev f (pa f y - 1) < y := by
  refine ⟨(gal G).mp (Int.le_refl _), ?_⟩
  rcases Int.lt_or_le (ev f (pa f y - 1)) y with z | z
  · exact z
  · have := (gal G).mpr z
    omega
theorem pa_mono {f : F} (G : Good f) {x y : Int} (h : x ≤ y) : pa f x ≤ pa f y := (gal G).mpr (Int.le_trans h (pa_spec G y).1)
theorem pa_shift1 {f : F} (G : Good f) (y : Int) : pa f (y + f.R) = pa f y + f.P := by
  obtain ⟨a, b⟩ := pa_spec G y
  refine pa_unique G ?_ ?_
  · rw [ev_shift1 G]; omega
  · rw [show pa f y + f.P - 1 = pa f y - 1 + f.P by omega, ev_shift1 G]; omega
theorem pa_shift {f : F} (G : Good f) (y t : Int) : pa f (y + t * f.R) = pa f y + t * f.P := turns (pa_shift1 G) y t
theorem pa_fit {f : F} (G : Good f) : Fit (pa f) f.R f.P := ⟨G.R0, G.P0, fun x => pa_mono G (by omega), pa_shift1 G⟩
/-- where the partner rises: just behind the values -/
theorem pa_jump {f : F} (G : Good f) (y : Int) : pa f (y - 1) < pa f y ↔ ∃ k, y = vl f k + 1 := by
  constructor
  · intro h
    obtain ⟨k, h1, h2⟩ := val_between G (y - 1)
    refine ⟨k, ?_⟩
    rcases Int.lt_or_le (vl f k) y with z | z
    · omega
    · have e1 := pa_of G h1 h2
      have e2 := pa_of G (k := k) (y := y) (by omega) z
      omega
  · rintro ⟨k, rfl⟩
    have e1 := pa_of G (y := vl f k + 1 - 1) (k := k) (by have := G.vm (k - 1); rw [show k - 1 + 1 = k by omega] at this; omega) (by omega)
    have e2 := pa_of G (y := vl f k + 1) (k := k + 1) (by rw [show k + 1 - 1 = k by omega]; omega) (by have := G.vm k; omega)
    rw [e1, e2]
    exact G.pm k
theorem pa_at {f : F} (G : Good f) (k : Int) : pa f (vl f k + 1) = pl f (k + 1) := pa_of G (by rw [show k + 1 - 1 = k by omega]; omega) (by have := G.vm k; omega)
theorem pa_vl {f : F} (G : Good f) (k : Int) : pa f (vl f k) = pl f k := pa_of G (by have := G.vm (k - 1); rw [show k - 1 + 1 = k by omega] at this; omega) (Int.le_refl _)
/-! ### the least period, as of a function -/
/-- every period of the function is a period of the rows -/
theorem per_of_fn {f : F} (G : Good f) {w r : Int} (h : ∀ x, ev f (x + w) = ev f x + r) : ∃ c, ∀ k, pl f (k + c) = pl f k + w ∧ vl f (k + c) = vl f k + r := by
  have jump : ∀ x, ev f (x + w - 1) < ev f (x + w) ↔ ev f (x - 1) < ev f x := fun x => by
    have a := h x
    have b := h (x - 1)
    rw [show x - 1 + w = x + w - 1 by omega] at b
    omega
  obtain ⟨c, hc⟩ := enum (a := fun k => pl f k + w) (b := pl f) (fun k => by have := G.pm k; show pl f k + w < pl f (k + 1) + w; omega) G.pm
    (fun k => (jump_iff G _).mp ((jump _).mpr ((jump_iff G _).mpr ⟨k, rfl⟩)))
    (fun k => by
      have := (jump (pl f k - w)).mp (by rw [show pl f k - w + w = pl f k by omega]; exact (jump_iff G _).mpr ⟨k, rfl⟩)
      obtain ⟨m, hm⟩ := (jump_iff G _).mp this
      exact ⟨m, by show pl f k = pl f m + w; omega⟩)
  refine ⟨c, fun k => ⟨(hc k).symm, ?_⟩⟩
  rw [← ev_pl G, ← hc k, h, ev_pl G]
theorem least_P {f : F} (o : Ok f) {w r : Int} (hw : 0 < w) (h : ∀ x, ev f (x + w) = ev f x + r) : f.P ≤ w ∧ f.R ≤ r := by
  obtain ⟨c, hc⟩ := per_of_fn o.g h
  have c0 : 0 < c := by
    have := (hc 0).1
    have h2 : pl f 0 < pl f (0 + c) := by omega
    have := (mono_iff o.g.pm).mp h2
    omega
  have hl := o.l c.toNat (by omega) ⟨w, r, by rw [show ((c.toNat : Nat) : Int) = c by omega]; exact hc⟩
  have s := shift o.g.ne 0
  have a := hc 0
  have m1 := mono_le o.g.pm (show (0 : Int) + f.ps.length ≤ 0 + c by omega)
  have m2 := mono_le o.g.vm (show (0 : Int) + f.ps.length ≤ 0 + c by omega)
  omega
/-- a map told with a period of its least form has the steps of its rows -/
theorem same_len {f g : F} (Gf : Good f) (Gg : Good g) (hP : f.P = g.P) {c : Int} (h : ∀ k, pl f k = pl g (k + c)) : f.ps.length = g.ps.length := by
  have a := (shift Gf.ne 0).1
  have b := (shift Gg.ne c).1
  rw [h, h, hP, show (0 : Int) + c = c by omega, ← b] at a
  have x1 := fun z => (mono_iff Gg.pm (a := 0 + (f.ps.length : Int) + c) (b := c + (g.ps.length : Int))).mpr z
  have x2 := fun z => (mono_iff Gg.pm (a := c + (g.ps.length : Int)) (b := 0 + (f.ps.length : Int) + c)).mpr z
  rcases Int.lt_trichotomy (0 + (f.ps.length : Int) + c) (c + (g.ps.length : Int)) with z | z | z
  · have := x1 z; omega
  · omega
  · have := x2 z; omega
/-- g is the partner of f -/
theorem partner_form {f g : F} (of : Ok f) (og : Ok g) (h : ∀ y, ev g y = pa f y) : g.P = f.R ∧ g.R = f.P ∧ g.ps.length = f.ps.length := by
  have Gf := of.g
  have Gg := og.g
  have h1 := least_P og of.g.R0 (r := f.P) fun y => by rw [h, h, pa_shift1 Gf]
  -- f has the period g.R
  have h2 := least_P of og.g.R0 (r := g.P) fun x => by
    have gal2 : ∀ x y, ev g y ≤ x ↔ y ≤ ev f x := fun x y => by rw [h]; exact gal Gf
    have up : ∀ y, y ≤ ev f (x + g.R) ↔ y ≤ ev f x + g.P := fun y => by
      rw [← gal2]
      have := ev_shift1 Gg (y - g.P)
      rw [show y - g.P + g.P = y by omega] at this
      have g3 := gal2 x (y - g.P)
      omega
    have a := (up (ev f (x + g.R))).mp (Int.le_refl _)
    have b := (up (ev f x + g.P)).mpr (Int.le_refl _)
    omega
  -- the rates are inverse
  have hR0 := Gf.R0
  have hP0 := Gf.P0
  have hr : g.P * f.P = f.R * g.R := by
    have a := ev_shift Gg 0 f.R
    have b : ev g (0 + g.P * f.R) = ev g 0 + g.P * f.P := turns (g := ev g) (fun y => by rw [h, h, pa_shift1 Gf]) 0 g.P
    rw [Int.mul_comm g.P f.R] at b
    omega
  have e1 : g.P = f.R := by
    rcases Int.lt_or_eq_of_le h1.1 with z | z
    · exfalso
      have := Int.mul_lt_mul_of_pos_right z hP0
      have h5 := Int.mul_le_mul_of_nonneg_left h2.1 (Int.le_of_lt hR0)
      omega
    · exact z
  have e2 : g.R = f.P := by
    rw [e1] at hr
    have := Int.eq_of_mul_eq_mul_left (show f.R ≠ 0 by omega) hr
    omega
  refine ⟨e1, e2, ?_⟩
  obtain ⟨c, hc⟩ := enum (a := pl g) (b := fun k => vl f k + 1) Gg.pm (fun k => by have := Gf.vm k; show _ + 1 < _ + 1; omega)
    (fun k => by
      have := (jump_iff Gg _).mpr ⟨k, rfl⟩
      rw [h, h] at this
      exact (pa_jump Gf _).mp this)
    (fun k => by
      have := (pa_jump Gf _).mpr ⟨k, rfl⟩
      rw [← h, ← h] at this
      exact (jump_iff Gg _).mp this)
  have a := (shift Gg.ne 0).1
  have b := (shift Gf.ne c).2
  have hc' : ∀ k, pl g k = vl f (k + c) + 1 := hc
  rw [hc', hc', e1, show (0 : Int) + c = c by omega] at a
  have e : vl f (0 + (g.ps.length : Int) + c) = vl f (c + (f.ps.length : Int)) := by omega
  rcases Int.lt_trichotomy (0 + (g.ps.length : Int) + c) (c + (f.ps.length : Int)) with z | z | z
  · have := mono Gf.vm z; omega
  · omega
  · have := mono Gf.vm z; omega
/-- what partner tells -/
def paPairs (f : F) : List (Int × Int) := (List.range f.ps.length).map fun k => ((at_ f k).2 + 1, if k + 1 < f.ps.length then (at_ f (k + 1)).1 else (at_ f 0).1 + f.P)
theorem told_pa {f : F} (G : Good f) : Told (pa f) f.R f.P (paPairs f) := by
  have hm : ∀ k, k < f.ps.length → ((at_ f k).2 = vl f k) ∧ (if k + 1 < f.ps.length then (at_ f (k + 1)).1 else (at_ f 0).1 + f.P) = pl f ((k : Int) + 1) := fun k hk => by
    have a := vl_at 0 hk
    have b := pl_next 0 hk
    rw [show (0 : Int) * (f.ps.length : Int) + (k : Int) = k by omega] at a b
    refine ⟨by omega, ?_⟩
    rw [b]
    split <;> omega
  refine ⟨pa_fit G, ?_, ?_, fun q hq => ?_, fun y hy => ?_⟩
  · intro z
    have := congrArg List.length z
    unfold paPairs at this
    rw [List.length_map, List.length_range] at this
    have h2 := G.ne
    have h3 : f.ps.length = 0 := this
    omega
  · unfold paPairs
    rw [List.length_map, List.length_range]
    exact G.len
  · unfold paPairs at hq
    obtain ⟨k, hk, rfl⟩ := List.mem_map.mp hq
    obtain ⟨a, b⟩ := hm k (List.mem_range.mp hk)
    show (if k + 1 < f.ps.length then (at_ f (k + 1)).1 else (at_ f 0).1 + f.P) = pa f ((at_ f k).2 + 1)
    rw [b, a, pa_at G]
  · obtain ⟨k, rfl⟩ := (pa_jump G y).mp hy
    obtain ⟨t, i, hi, rfl⟩ := split G.ne k
    refine ⟨((at_ f i).2 + 1, if i + 1 < f.ps.length then (at_ f (i + 1)).1 else (at_ f 0).1 + f.P), List.mem_map.mpr ⟨i, List.mem_range.mpr hi, rfl⟩, t, ?_⟩
    rw [vl_at t hi]
    show _ = (at_ f i).2 + 1 + t * f.R
    omega
/-! ### bounds -/
theorem row_bd {F : Int → Int} {P R : Int} {fs : List (Int × Int)} (r : Row F P R fs) {n : Nat} (hP : P.natAbs < 2 ^ n) (hR : R.natAbs < 2 ^ n) (h0 : (F 0).natAbs < 2 ^ n) : ∀ q ∈ fs, q.1.natAbs < 2 ^ (n + 1) ∧ q.2.natAbs < 2 ^ (n + 1) := by
  intro q hq
  obtain ⟨a, b, c⟩ := r.v q hq
  have e : 2 ^ (n + 1) = 2 * 2 ^ n := by rw [Nat.pow_succ, Nat.mul_comm]
  have m1 := mono_of r.fit.m (show (0 : Int) ≤ q.1 from b)
  have m2 := mono_of r.fit.m (show q.1 ≤ 0 + P by omega)
  rw [r.fit.t] at m2
  have hP0 := r.fit.P0
  have hR0 := r.fit.R0
  rw [e]
  generalize 2 ^ n = N at *
  constructor <;> omega
theorem ev_bd {f : F} (G : Good f) {n m : Nat} (B : Bd n f) (hnm : n ≤ m) {x : Int} (hx : x.natAbs < 2 ^ m) : (ev f x).natAbs < 2 ^ (m + n + 3) := by
  obtain ⟨k, hk⟩ := InStep.exists G x
  rw [ev_of G hk]
  exact vl_bound G B hnm hk hx
theorem vl_zero {f : F} (hn : 0 < f.ps.length) : vl f 0 = (at_ f 0).2 := by
  have := vl_at (f := f) (i := 0) 0 hn
  rw [show (0 : Int) * (f.ps.length : Int) + ((0 : Nat) : Int) = 0 by omega] at this
  omega
theorem ev_zero_bd {f : F} (o : Ok f) {n : Nat} (B : Bd n f) : (ev f 0).natAbs < 2 ^ (n + 1) := by
  have G := o.g
  have h0 := o.n 0 G.ne
  have m1 := ev_mono G (show (0 : Int) ≤ pl f 0 by rw [pl_zero G.ne]; omega)
  have m2 := ev_mono G (show pl f 0 ≤ 0 + f.P by rw [pl_zero G.ne]; omega)
  rw [ev_shift1 G] at m2
  rw [ev_pl G, vl_zero G.ne] at m1 m2
  have b := (B.q _ (at_mem G.ne)).2
  have c := B.R
  have e : 2 ^ (n + 1) = 2 * 2 ^ n := by rw [Nat.pow_succ, Nat.mul_comm]
  rw [e]
  generalize 2 ^ n = N at *
  omega
theorem pa_zero_bd {f : F} (o : Ok f) {n : Nat} (B : Bd n f) : (pa f 0).natAbs < 2 ^ (n + n + 4) := by
  have G := o.g
  obtain ⟨k, h1, h2⟩ := val_between G 0
  rw [pa_of G h1 h2]
  obtain ⟨t, i, hi, rfl⟩ := split G.ne k
  have hv := vl_at t hi
  have hv1 := vl_next (f := f) (t - 1) (i := f.ps.length - 1) (by have := G.ne; omega)
  have bi := B.q _ (at_mem hi)
  have bP := B.P
  have bR := B.R
  have hR0 := G.R0
  -- the turns are few
  have hlow : vl f ((t - 1) * f.ps.length + i) < 0 := by
    have hne := G.ne
    exact Int.lt_of_le_of_lt (mono_le G.vm (show (t - 1) * (f.ps.length : Int) + i ≤ t * f.ps.length + i - 1 by rw [Int.sub_mul]; omega)) h1
  rw [vl_at (t - 1) hi, Int.sub_mul, Int.one_mul] at hlow
  rw [hv] at h2
  have e2 : 2 ^ (n + 2) = 4 * 2 ^ n := by rw [Nat.add_comm, Nat.pow_add]
  have ht : (t * f.R).natAbs < 2 ^ (n + 2) := by
    rw [e2]
    generalize 2 ^ n = N at *
    omega
  have ht2 : t.natAbs < 2 ^ (n + 2) := by
    refine Nat.lt_of_le_of_lt ?_ ht
    rw [Int.natAbs_mul]
    exact Nat.le_mul_of_pos_right _ (by omega)
  rw [pl_at t hi]
  exact L2.natAbs_add_lt (a := n) (b := n + 2 + n) bi.1 (L2.natAbs_mul_lt (a := n + 2) (b := n) ht2 bP (Nat.le_refl _)) (by omega) (by omega)
end Sx

namespace L2
open PySem
/-- a list or tuple of pairs of ints -/
def PairsX (H : Hp) (xs : List V) (ps : List (Int × Int)) : Prop := xs.length = ps.length ∧ ∀ (i : Nat) (q : Int × Int), ps[i]? = some q → ∃ r, xs[i]? = some (.ref r) ∧ H r = some (.tup [.int q.1, .int q.2])
theorem PairsX.kp {H H' : Hp} {xs : List V} {ps : List (Int × Int)} (h : PairsX H xs ps) (k : Kp H H') : PairsX H' xs ps := by
  refine ⟨h.1, fun i q e => ?_⟩
  obtain ⟨r, h1, h2⟩ := h.2 i q e
  exact ⟨r, h1, k _ _ h2 rfl⟩
theorem PairsX.same {H H' : Hp} {xs : List V} {ps : List (Int × Int)} (h : PairsX H xs ps) (k : Same H H') : PairsX H' xs ps := h.kp k.kp
def PairsT (H : Hp) (t : Addr) (ps : List (Int × Int)) : Prop := ∃ xs, H t = some (.tup xs) ∧ PairsX H xs ps
def PairsL (H : Hp) (t : Addr) (ps : List (Int × Int)) : Prop := ∃ xs, H t = some (.lst xs) ∧ PairsX H xs ps
theorem PairsT.kp {H H' : Hp} {t : Addr} {ps : List (Int × Int)} (h : PairsT H t ps) (k : Kp H H') : PairsT H' t ps := by
  obtain ⟨xs, e, h⟩ := h
  exact ⟨xs, k _ _ e rfl, h.kp k⟩
theorem PairsT.same {H H' : Hp} {t : Addr} {ps : List (Int × Int)} (h : PairsT H t ps) (k : Same H H') : PairsT H' t ps := h.kp k.kp
theorem PairsL.same {H H' : Hp} {t : Addr} {ps : List (Int × Int)} (h : PairsL H t ps) (s : Same H H') : PairsL H' t ps := by
  obtain ⟨xs, e, h⟩ := h
  exact ⟨xs, s _ _ e, h.kp s.kp⟩
theorem PairsL.but {l : Addr} {H H' : Hp} {t : Addr} {ps : List (Int × Int)} (h : PairsL H t ps) (B : BagAt H l) (c : But l H H') (n : t ≠ l) : PairsL H' t ps := by
  obtain ⟨xs, e, h⟩ := h
  exact ⟨xs, c _ _ e n, h.kp (B.kp c)⟩
/-- an item of such a row -/
theorem PairsX.at_ {H : Hp} {xs : List V} {f : Sx.F} (h : PairsX H xs f.ps) {i : Nat} (hi : i < f.ps.length) : ∃ r, atI xs (i : Int) = some (.ref r) ∧ H r = some (.tup [.int (Sx.at_ f i).1, .int (Sx.at_ f i).2]) := by
  obtain ⟨r, h1, h2⟩ := h.2 i _ (Sx.at_get hi)
  exact ⟨r, atI_pos (by omega) (by rw [Int.toNat_natCast]; exact h1), h2⟩
theorem PairsX.nil {H : Hp} : PairsX H [] [] := ⟨rfl, fun i q e => by cases e⟩
theorem PairsX.push {H : Hp} {xs : List V} {ps : List (Int × Int)} (h : PairsX H xs ps) {r : Addr} {q : Int × Int} (e : H r = some (.tup [.int q.1, .int q.2])) : PairsX H (xs ++ [.ref r]) (ps ++ [q]) := by
  refine ⟨by rw [List.length_append, List.length_append, h.1]; rfl, fun j q' e' => ?_⟩
  rcases Nat.lt_or_ge j ps.length with z | z
  · rw [List.getElem?_append_left z] at e'
    obtain ⟨r, h1, h2⟩ := h.2 j q' e'
    exact ⟨r, by rw [List.getElem?_append_left (by rw [h.1]; exact z)]; exact h1, h2⟩
  · have hj : j = ps.length := by
      have := (List.getElem?_eq_some_iff.mp e').1
      rw [List.length_append] at this
      have h1 : j < ps.length + 1 := this
      omega
    subst hj
    rw [List.getElem?_append_right (Nat.le_refl _), Nat.sub_self] at e'
    obtain rfl := Option.some.inj e'
    exact ⟨r, by rw [← h.1, List.getElem?_append_right (Nat.le_refl _), Nat.sub_self]; rfl, e⟩
/-- the item under a walk -/
theorem PairsX.item {H : Hp} {xs : List V} {ps : List (Int × Int)} (h : PairsX H xs ps) {i : Nat} {y : V} (e : xs[i]? = some y) : ∃ (hi : i < ps.length) (r : Addr), y = .ref r ∧ H r = some (.tup [.int ps[i].1, .int ps[i].2]) := by
  have hi : i < ps.length := by rw [← h.1]; exact (List.getElem?_eq_some_iff.mp e).1
  obtain ⟨r, h1, h2⟩ := h.2 i _ (List.getElem?_eq_getElem hi)
  rw [e] at h1
  exact ⟨hi, r, Option.some.inj h1, h2⟩
/-- the pairs by their objects -/
theorem PairsX.key {H : Hp} {xs : List V} {ps : List (Int × Int)} (h : PairsX H xs ps) : ∃ k : V → Int × Int, xs.map k = ps ∧ ∀ x ∈ xs, ∃ t, x = V.ref t ∧ H t = some (.tup [.int (k x).1, .int (k x).2]) := by
  let k : V → Int × Int := fun x => match x with
    | .ref t => match H t with
      | some (.tup [.int a, .int b]) => (a, b)
      | _ => (0, 0)
    | _ => (0, 0)
  have hk : ∀ r (q : Int × Int), H r = some (.tup [.int q.1, .int q.2]) → k (.ref r) = q := fun r q e => by
    show (match H r with
      | some (.tup [.int a, .int b]) => (a, b)
      | _ => (0, 0)) = q
    rw [e]
  refine ⟨k, List.ext_getElem? fun i => ?_, fun x hx => ?_⟩
  · rw [List.getElem?_map]
    rcases Nat.lt_or_ge i ps.length with z | z
    · obtain ⟨r, h1, h2⟩ := h.2 i _ (List.getElem?_eq_getElem z)
      rw [h1, List.getElem?_eq_getElem z]
      exact congrArg some (hk r _ h2)
    · rw [List.getElem?_eq_none z, List.getElem?_eq_none (by rw [h.1]; exact z)]
      rfl
  · obtain ⟨i, hi, rfl⟩ := List.mem_iff_getElem.mp hx
    obtain ⟨hi2, r, e1, e2⟩ := h.item (List.getElem?_eq_getElem hi)
    exact ⟨r, e1, by rw [e1, hk r _ e2]; exact e2⟩
theorem pairsX_of {H : Hp} {k : V → Int × Int} {ys : List V} (h : ∀ x ∈ ys, ∃ t, x = V.ref t ∧ H t = some (.tup [.int (k x).1, .int (k x).2])) : PairsX H ys (ys.map k) := by
  refine ⟨(List.length_map _).symm, fun i q e => ?_⟩
  rw [List.getElem?_map] at e
  obtain ⟨y, hy, rfl⟩ := Option.map_eq_some_iff.mp e
  obtain ⟨t, e1, e2⟩ := h y (List.mem_of_getElem? hy)
  exact ⟨t, by rw [hy, e1], by rw [e1] at e2 ⊢; exact e2⟩
theorem srtd_le {k : V → Int × Int} {ys : List V} (h : SrtO.Srtd (ltP k) ys) : (ys.map k).Pairwise fun a b => a.1 ≤ b.1 := by
  refine List.pairwise_map.mpr (List.Pairwise.imp (fun {a b} z => ?_) h)
  have := SrtO.lexB_no.mp z
  omega
/-- behind an append: what stood in other places -/
theorem Same.app {H0 H : Hp} {l : Addr} {o : HO} (s : Same H0 H) (h : H0 l = none) : Same H0 (upd H l o) := s.put h
theorem imm_step {C dx : Addr} {u v w : V} : imm (.ins C dx [("period", u), ("rise", v), ("steps", w)]) = true := by
  show decide ((["period", "rise", "steps"] : List Str) ∈ wholeN) = true
  decide +kernel
/-- a Step object -/
def StepAt (K : PySem.W.Frag) (H : Hp) (v : V) (f : Sx.F) : Prop := ∃ a dx t, v = .ref a ∧ H a = some (.ins (He.ga K "Step") dx [("period", .int f.P), ("rise", .int f.R), ("steps", .ref t)]) ∧ PairsT H t f.ps ∧ Sx.Ok f
theorem StepAt.kp {K : PySem.W.Frag} {H H' : Hp} {v : V} {f : Sx.F} (h : StepAt K H v f) (k : Kp H H') : StepAt K H' v f := by
  obtain ⟨a, dx, t, e, h, h2, o⟩ := h
  exact ⟨a, dx, t, e, k _ _ h (by have := @imm_step (He.ga K "Step") dx (.int f.P) (.int f.R) (.ref t); exact this), h2.kp k, o⟩
theorem StepAt.same {K : PySem.W.Frag} {H H' : Hp} {v : V} {f : Sx.F} (h : StepAt K H v f) (k : Same H H') : StepAt K H' v f := h.kp k.kp
theorem StepAt.ok {K : PySem.W.Frag} {H : Hp} {v : V} {f : Sx.F} (h : StepAt K H v f) : Sx.Ok f := by
  obtain ⟨a, dx, t, e, h, h2, o⟩ := h
  exact o
theorem StepAt.ins {K : PySem.W.Frag} {H : Hp} {a : Addr} {f : Sx.F} (h : StepAt K H (.ref a) f) : ∃ dx fs, H a = some (.ins (He.ga K "Step") dx fs) := by
  obtain ⟨a', dx, t, e, h, h2, o⟩ := h
  injection e with e
  subst e
  exact ⟨_, _, h⟩
/-- behind Step(..) -/
theorem made_step {K : PySem.W.Frag} {H H1 : Hp} {x dx t' : Addr} {g : Sx.F} (nx : H x = none) (nd : H dx = none)
    (s : Same (upd (upd H dx (.own x)) x (.ins (He.ga K "Step") dx [])) H1) (o : Sx.Ok g) (hpt : PairsT H1 t' g.ps) :
    ∃ H', upd H1 x (.ins (He.ga K "Step") dx [("period", .int g.P), ("rise", .int g.R), ("steps", .ref t')]) = H' ∧ Same H H' ∧ StepAt K H' (.ref x) g := by
  have s0 : Same H (upd (upd H dx (.own x)) x (.ins (He.ga K "Step") dx [])) := (Same.new nd).put nx
  have hx1 : H1 x = some (.ins (He.ga K "Step") dx []) := s _ _ upd_same
  refine ⟨_, rfl, fun b o e => ?_, x, dx, t', rfl, upd_same, ?_, o⟩
  · rw [upd_ne (ne_of_none e nx)]
    exact s _ _ (s0 _ _ e)
  · exact hpt.kp (Kp.mut hx1 (by show decide (([] : List Str) ∈ wholeN) = false; decide +kernel))
end L2
namespace Sx
/-- the least form of a row that look_steps lets through -/
theorem ok_of {f g : F} (R : Raw f) (G : Good g) (r : Rep g f) (l : Least g) (n : Norm g) : Ok g ∧ ∀ x, ev g x = ev f x := ⟨⟨G, l, n⟩, fun x => r.ev G R.good x⟩
theorem Raw.norm {f : F} (R : Raw f) : Norm f := R.p0
theorem Ok.raw {f : F} (o : Ok f) : Raw f := by
  have G := o.g
  refine ⟨G.ne, G.len, G.P0, G.R0, o.n, fun i hi => ?_, fun i hi => ?_, G.bP, G.bR, G.bd⟩
  · have a := vl_at 0 hi
    have b := vl_at 1 G.ne
    have c := mono G.vm (show (0 : Int) * (f.ps.length : Int) + (i : Int) < 1 * (f.ps.length : Int) + ((0 : Nat) : Int) by omega)
    omega
  · have a := vl_at 0 (show i < f.ps.length by omega)
    have b := vl_at 0 hi
    have a' := pl_at 0 (show i < f.ps.length by omega)
    have b' := pl_at 0 hi
    have c := mono G.vm (show (0 : Int) * (f.ps.length : Int) + (i : Int) < 0 * (f.ps.length : Int) + ((i + 1 : Nat) : Int) by omega)
    have c' := mono G.pm (show (0 : Int) * (f.ps.length : Int) + (i : Int) < 0 * (f.ps.length : Int) + ((i + 1 : Nat) : Int) by omega)
    constructor <;> omega
end Sx
namespace L2
open PySem
theorem iteNo {c A B : Prop} [Decidable c] (h : ¬ c) (b : B) : if c then A else B := by rw [if_neg h]; exact b
theorem iteYes {c A B : Prop} [Decidable c] (h : c) (a : A) : if c then A else B := by rw [if_pos h]; exact a
theorem iteDN {p A B : Prop} [Decidable p] (h : ¬ p) (b : B) : if decide p = true then A else B := iteNo (fun z => h (of_decide_eq_true z)) b
theorem iteDY {p A B : Prop} [Decidable p] (h : p) (a : A) : if decide p = true then A else B := iteYes (decide_eq_true h) a
theorem iteNE {p A B : Prop} [Decidable p] (h : p) (b : B) : if (!decide p) = true then A else B := iteNo (by rw [decide_eq_true h]; decide) b
theorem iteNEY {p A B : Prop} [Decidable p] (h : ¬ p) (a : A) : if (!decide p) = true then A else B := iteYes (by rw [decide_eq_false h]; rfl) a
theorem iteD2 {p A B : Prop} [Decidable p] (h1 : p → A) (h2 : ¬ p → B) : if decide p = true then A else B := ite2 (fun z => h1 (of_decide_eq_true z)) (fun z => h2 fun c => z (decide_eq_true c))
theorem iteND2 {p A B : Prop} [Decidable p] (h1 : ¬ p → A) (h2 : p → B) : if (!decide p) = true then A else B := by
  by_cases h : p
  · exact iteNE h (h2 h)
  · exact iteNEY h (h1 h)
/-- a row of the laws: period, rise, pairs -/
structure RowAt (H : Hp) (r D : Addr) (f : Sx.F) : Prop where
  r : H r = some (.lst [.int f.P, .int f.R, .ref D])
  d : PairsL H D f.ps
theorem RowAt.same {H H' : Hp} {r D : Addr} {f : Sx.F} (h : RowAt H r D f) (s : Same H H') : RowAt H' r D f := ⟨s _ _ h.r, h.d.same s⟩
theorem RowAt.but {l : Addr} {H H' : Hp} {r D : Addr} {f : Sx.F} (h : RowAt H r D f) (B : BagAt H l) (c : But l H H') (n1 : r ≠ l) (n2 : D ≠ l) : RowAt H' r D f := ⟨c _ _ h.r n1, h.d.but B c n2⟩
theorem BagAt.same {H H' : Hp} {l : Addr} (B : BagAt H l) (s : Same H H') : BagAt H' l := by
  obtain ⟨x, y, e, r⟩ := B
  exact ⟨x, y, s _ _ e, r⟩
/-- an item of a written list of ints -/
theorem atI_mem {ns : List Int} {i : Int} (h0 : 0 ≤ i) (h : i < ns.length) : ∃ z ∈ ns, atI (ns.map V.int) i = some (V.int z) :=
  ⟨ns[i.toNat]'(by omega), List.getElem_mem _, atI_pos h0 (by rw [List.getElem?_map, List.getElem?_eq_getElem (by omega)]; rfl)⟩
end L2
namespace L2
open PySem
theorem repr_ints {ns : List Int} (n : Nat) (hl : ns.length ≤ n) (hn : n * 1923 + 3 ≤ sizeLine) (h : ∀ i ∈ ns, i.natAbs < 2 ^ 1900) : Sh 64 sizeLine (.list (ns.map PyData.int)) :=
  (Sh.ints (n := n) (fun i hi => log2_lt' (n := 1900) (by decide) (h i hi) (by decide)) hl).mono (by decide) hn
end L2

namespace Sx
/-! ### the same places, or reflected ones: the same number of steps -/
theorem len_of {a b : Int → Int} {P : Int} {n m : Nat} (ha : ∀ k, a k < a (k + 1)) (hb : ∀ k, b k < b (k + 1)) (h1 : ∀ k, ∃ m, a k = b m) (h2 : ∀ k, ∃ m, b k = a m) (hn : ∀ k, a (k + n) = a k + P) (hm : ∀ k, b (k + m) = b k + P) : n = m := by
  obtain ⟨c, hc⟩ := enum ha hb h1 h2
  have x := hn 0
  have y := hm (0 + c)
  rw [hc, hc] at x
  have e : b (0 + (n : Int) + c) = b (0 + c + (m : Int)) := by omega
  rcases Int.lt_trichotomy (0 + (n : Int) + c) (0 + c + (m : Int)) with z | z | z
  · have := mono hb z; omega
  · omega
  · have := mono hb z; omega
theorem len_jump {f g : F} (Gf : Good f) (Gg : Good g) (hP : g.P = f.P) (h : ∀ x, ev g (x - 1) < ev g x ↔ ev f (x - 1) < ev f x) : g.ps.length = f.ps.length :=
  len_of (P := f.P) Gg.pm Gf.pm (fun k => (jump_iff Gf _).mp ((h _).mp ((jump_iff Gg _).mpr ⟨k, rfl⟩))) (fun k => (jump_iff Gg _).mp ((h _).mpr ((jump_iff Gf _).mpr ⟨k, rfl⟩)))
    (fun k => by rw [(shift Gg.ne k).1, hP]) (fun k => (shift Gf.ne k).1)
/-- a map moved by n -/
theorem raised_form {f g : F} (of : Ok f) (og : Ok g) {n : Int} (h : ∀ x, ev g x = ev f x + n) : g.P = f.P ∧ g.R = f.R ∧ g.ps.length = f.ps.length := by
  have h1 := least_P og of.g.P0 (r := f.R) fun x => by rw [h, h, ev_shift1 of.g]; omega
  have h2 := least_P of og.g.P0 (r := g.R) fun x => by have a := h (x + g.P); have b := h x; have c := ev_shift1 og.g x; omega
  have e : g.P = f.P := by omega
  refine ⟨e, by omega, len_jump of.g og.g e fun x => by rw [h, h]; omega⟩
/-- a map reflected -/
theorem refl_form {f g : F} (of : Ok f) (og : Ok g) (h : ∀ x, ev g x = -ev f (-x)) : g.P = f.P ∧ g.R = f.R ∧ g.ps.length = f.ps.length := by
  have neg1 : ∀ x, ev f (-(x + f.P)) = ev f (-x) - f.R := fun x => by
    have := ev_shift1 of.g (-(x + f.P))
    rw [show -(x + f.P) + f.P = -x by omega] at this
    omega
  have h1 := least_P og of.g.P0 (r := f.R) fun x => by rw [h, h, neg1]; omega
  have h2 := least_P of og.g.P0 (r := g.R) fun x => by
    have a := h (-(x + g.P))
    have b := h (-x)
    have c := ev_shift1 og.g (-(x + g.P))
    rw [show -(x + g.P) + g.P = -x by omega] at c
    rw [Int.neg_neg] at a b
    omega
  have e : g.P = f.P := by omega
  refine ⟨e, by omega, ?_⟩
  have jj : ∀ x, ev g (x - 1) < ev g x ↔ ev f (1 - x - 1) < ev f (1 - x) := fun x => by
    rw [h, h, show -(x - 1) = 1 - x by omega, show 1 - x - 1 = -x by omega]
    omega
  refine len_of (a := pl g) (b := fun k => 1 - pl f (-k)) (P := f.P) og.g.pm (fun k => ?_) (fun k => ?_) (fun k => ?_) (fun k => by rw [(shift og.g.ne k).1, e]) (fun k => ?_)
  · have := of.g.pm (-(k + 1))
    rw [show -(k + 1) + 1 = -k by omega] at this
    show 1 - pl f (-k) < 1 - pl f (-(k + 1))
    omega
  · obtain ⟨m, hm⟩ := (jump_iff of.g _).mp ((jj _).mp ((jump_iff og.g _).mpr ⟨k, rfl⟩))
    exact ⟨-m, by show _ = 1 - pl f (- -m); rw [Int.neg_neg]; omega⟩
  · have := (jj (1 - pl f (-k))).mpr (by rw [show 1 - (1 - pl f (-k)) = pl f (-k) by omega]; exact (jump_iff of.g _).mpr ⟨_, rfl⟩)
    exact (jump_iff og.g _).mp this
  · have := (shift of.g.ne (-(k + (f.ps.length : Int)))).1
    rw [show -(k + (f.ps.length : Int)) + f.ps.length = -k by omega] at this
    show 1 - pl f (-(k + (f.ps.length : Int))) = 1 - pl f (-k) + f.P
    omega
/-- what reflected tells -/
def rePairs (f : F) : List (Int × Int) := (List.range f.ps.length).map fun k => (1 - (at_ f k).1, -(if k = 0 then (at_ f (f.ps.length - 1)).2 - f.R else (at_ f (k - 1)).2))
theorem told_re {f : F} (G : Good f) : Told (fun x => -ev f (-x)) f.P f.R (rePairs f) := by
  have hm : ∀ k, k < f.ps.length → ((at_ f k).1 = pl f k) ∧ (if k = 0 then (at_ f (f.ps.length - 1)).2 - f.R else (at_ f (k - 1)).2) = vl f ((k : Int) - 1) := fun k hk => by
    have a := pl_at 0 hk
    rw [show (0 : Int) * (f.ps.length : Int) + (k : Int) = k by omega] at a
    refine ⟨by omega, ?_⟩
    split
    · rename_i h
      subst h
      have b := vl_at (f := f) (i := f.ps.length - 1) (-1) (by omega)
      rw [show (-1 : Int) * (f.ps.length : Int) + ((f.ps.length - 1 : Nat) : Int) = ((0 : Nat) : Int) - 1 by omega] at b
      omega
    · have b := vl_at (f := f) (i := k - 1) 0 (by omega)
      rw [show (0 : Int) * (f.ps.length : Int) + ((k - 1 : Nat) : Int) = (k : Int) - 1 by omega] at b
      omega
  have hl : (rePairs f).length = f.ps.length := by unfold rePairs; rw [List.length_map, List.length_range]
  refine ⟨⟨G.P0, G.R0, fun x => ?_, fun x => ?_⟩, ?_, by rw [hl]; exact G.len, fun q hq => ?_, fun x hx => ?_⟩
  · have := ev_mono G (show -x ≤ -(x - 1) by omega)
    omega
  · have := ev_shift1 G (-(x + f.P))
    rw [show -(x + f.P) + f.P = -x by omega] at this
    omega
  · intro z
    have := congrArg List.length z
    rw [hl] at this
    have h2 := G.ne
    have h3 : f.ps.length = 0 := this
    omega
  · unfold rePairs at hq
    obtain ⟨k, hk, rfl⟩ := List.mem_map.mp hq
    obtain ⟨a, b⟩ := hm k (List.mem_range.mp hk)
    show -(if k = 0 then (at_ f (f.ps.length - 1)).2 - f.R else (at_ f (k - 1)).2) = -ev f (-(1 - (at_ f k).1))
    rw [b, a]
    rw [ev_of G (k := (k : Int) - 1) ⟨by have := G.pm ((k : Int) - 1); rw [show (k : Int) - 1 + 1 = k by omega] at this; omega, by rw [show (k : Int) - 1 + 1 = k by omega]; omega⟩]
  · have hx' : ev f (1 - x - 1) < ev f (1 - x) := by
      have : -ev f (-(x - 1)) < -ev f (-x) := hx
      rw [show -(x - 1) = 1 - x by omega] at this
      rw [show 1 - x - 1 = -x by omega]
      omega
    obtain ⟨k, hk⟩ := (jump_iff G _).mp hx'
    obtain ⟨t, i, hi, rfl⟩ := split G.ne k
    rw [pl_at t hi] at hk
    refine ⟨(1 - (at_ f i).1, -(if i = 0 then (at_ f (f.ps.length - 1)).2 - f.R else (at_ f (i - 1)).2)), List.mem_map.mpr ⟨i, List.mem_range.mpr hi, rfl⟩, -t, ?_⟩
    show x = 1 - (at_ f i).1 + -t * f.P
    rw [Int.neg_mul]
    omega
/-- the row of raised -/
def raise1 (f : F) (n : Int) : F := ⟨f.P, f.R, f.ps.map fun q => (q.1, q.2 + n)⟩
theorem raise_at {f : F} {n : Int} {i : Nat} (h : i < f.ps.length) : at_ (raise1 f n) i = ((at_ f i).1, (at_ f i).2 + n) := by
  unfold at_ raise1
  rw [List.getD_eq_getElem?_getD, List.getElem?_map, at_get h]
  rfl
theorem raise_raw {f : F} (o : Ok f) {n : Int} (hn : n.natAbs < 2 ^ 3999) {m : Nat} (B : Bd m f) (hm : m < 4000) : Raw (raise1 f n) := by
  have R := o.raw
  have hl : (raise1 f n).ps.length = f.ps.length := List.length_map _
  refine ⟨by rw [hl]; exact R.ne, by rw [hl]; exact R.len, R.P0, R.R0, fun i hi => ?_, fun i hi => ?_, fun i hi => ?_, R.bP, R.bR, fun q hq => ?_⟩
  · rw [hl] at hi
    rw [raise_at hi]
    exact R.p0 i hi
  · rw [hl] at hi
    rw [raise_at hi, raise_at R.ne]
    have := R.v1 i hi
    show (at_ f i).2 + n < (at_ f 0).2 + n + f.R
    omega
  · rw [hl] at hi
    rw [raise_at (show i < f.ps.length by omega), raise_at hi]
    have := R.up i hi
    show (at_ f i).1 < (at_ f (i + 1)).1 ∧ (at_ f i).2 + n < (at_ f (i + 1)).2 + n
    omega
  · obtain ⟨u, hu, rfl⟩ := List.mem_map.mp hq
    have b := B.q u hu
    exact ⟨L2.nat_pow_mono b.1 (by omega), L2.natAbs_add_lt (a := 3999) (b := 3999) (L2.nat_pow_mono b.2 (by omega)) hn⟩
theorem raise_ev {f : F} (o : Ok f) {n : Int} (R : Raw (raise1 f n)) (x : Int) : ev (raise1 f n) x = ev f x + n := by
  have G := o.g
  have hl : (raise1 f n).ps.length = f.ps.length := List.length_map _
  have rows : ∀ k, pl (raise1 f n) k = pl f k ∧ vl (raise1 f n) k = vl f k + n := fun k => by
    obtain ⟨t, i, hi, rfl⟩ := split G.ne k
    have hi' : i < (raise1 f n).ps.length := by rw [hl]; exact hi
    have a := pl_at t hi'
    have b := vl_at t hi'
    rw [hl, raise_at hi] at a b
    rw [pl_at t hi, vl_at t hi, a, b]
    show (at_ f i).1 + t * f.P = (at_ f i).1 + t * f.P ∧ (at_ f i).2 + n + t * f.R = _
    omega
  obtain ⟨k, hk⟩ := InStep.exists G x
  rw [ev_of G hk, ev_of R.good (k := k) ⟨by rw [(rows k).1]; exact hk.1, by rw [(rows (k + 1)).1]; exact hk.2⟩, (rows k).2]
theorem raise_bd {f : F} {n : Int} {m : Nat} (B : Bd m f) (hn : n.natAbs < 2 ^ m) : Bd (m + 1) (raise1 f n) := by
  refine ⟨L2.nat_pow_mono B.P (by omega), L2.nat_pow_mono B.R (by omega), fun q hq => ?_⟩
  obtain ⟨u, hu, rfl⟩ := List.mem_map.mp hq
  have b := B.q u hu
  exact ⟨L2.nat_pow_mono b.1 (by omega), L2.natAbs_add_lt (a := m) (b := m) b.2 hn (by omega) (by omega)⟩
end Sx
namespace L2
open PySem
theorem sh_form {g : Sx.F} {m : Nat} (o : Sx.Ok g) (B : Sx.Bd m g) (hm : m ≤ 1900 := by decide) : Sh 64 sizeLine (.list ([g.P, g.R, (g.ps.length : Int)].map PyData.int)) :=
  repr_ints 3 (Nat.le_refl _) (by decide) fun z hz => by
    simp only [List.mem_cons, List.not_mem_nil, or_false] at hz
    rcases hz with rfl | rfl | rfl
    · exact nat_pow_mono B.P hm
    · exact nat_pow_mono B.R hm
    · have := o.g.len
      exact nat_pow_mono (a := 64) (lt64 (by omega) (by omega)) (by decide)
end L2
namespace L2
open PySem
theorem qT {p : Prop} [Decidable p] {Q : V → Hp → Prop} {H : Hp} (h : p) (q : Q (.bl true) H) : Q (.bl (decide p)) H := by rw [decide_eq_true h]; exact q
theorem qF {p : Prop} [Decidable p] {Q : V → Hp → Prop} {H : Hp} (h : ¬ p) (q : Q (.bl false) H) : Q (.bl (decide p)) H := by rw [decide_eq_false h]; exact q
end L2

namespace L2
open PySem
/-- the turns of a walk over a range, from any heap -/
theorem turns_range {lo : Int} {n : Nat} {B : V → Hp → (Hp → Prop) → Prop} {H0 : Hp} {Qd : Hp → Prop} (Pv : Nat → Hp → Prop) (h0 : Pv 0 H0) (hs : ∀ i H, i < n → Pv i H → B (.int (lo + i)) H (Pv (i + 1))) (hd : ∀ H, Pv n H → Qd H) :
    ∃ W : Nat → Nat → Hp → Prop, (∃ m, W 0 m H0) ∧ ∀ i m H, W i m H → ((Itr lo n).stop i H ∧ Qd H) ∨ ((Itr lo n).go i H ∧ ∃ Nx : Hp → Prop, (∀ H', Nx H' → ∃ m', m' < m ∧ W (i + 1) m' H') ∧ ∀ x H', (Itr lo n).yld i H x H' → B x H' Nx) := by
  refine ⟨fun i m H => m = n - i ∧ i ≤ n ∧ Pv i H, ⟨n, by simp, Nat.zero_le _, h0⟩, ?_⟩
  rintro i m H ⟨rfl, hi, p⟩
  by_cases hlt : i < n
  · refine .inr ⟨hlt, Pv (i + 1), fun H' p' => ⟨n - (i + 1), by omega, rfl, hlt, p'⟩, fun x H' y => ?_⟩
    obtain ⟨e, y⟩ := y
    subst e y
    exact hs i _ hlt p
  · obtain rfl : i = n := by omega
    exact .inl ⟨Nat.le_refl _, hd H p⟩
theorem turns_tup {K : PySem.W.Frag} {a : Addr} {xs : List V} {B : V → Hp → (Hp → Prop) → Prop} {H0 : Hp} {Qd : Hp → Prop} (Pv : Nat → Hp → Prop) (h0 : Pv 0 H0) (hl : ∀ i H, i ≤ xs.length → Pv i H → SqT K H a xs)
    (hs : ∀ i x H, xs[i]? = some x → Pv i H → B x H (Pv (i + 1))) (hd : ∀ H, Pv xs.length H → Qd H) :
    ∃ W : Nat → Nat → Hp → Prop, (∃ m, W 0 m H0) ∧ ∀ i m H, W i m H → ((Itt K a).stop i H ∧ Qd H) ∨ ((Itt K a).go i H ∧ ∃ Nx : Hp → Prop, (∀ H', Nx H' → ∃ m', m' < m ∧ W (i + 1) m' H') ∧ ∀ x H', (Itt K a).yld i H x H' → B x H' Nx) := by
  refine ⟨fun i m H => m = xs.length - i ∧ i ≤ xs.length ∧ Pv i H, ⟨xs.length, by simp, Nat.zero_le _, h0⟩, ?_⟩
  rintro i m H ⟨rfl, hi, p⟩
  have q := hl i H hi p
  by_cases hlt : i < xs.length
  · refine .inr ⟨⟨xs, xs[i], q, by simp [hlt]⟩, Pv (i + 1), fun H' p' => ⟨xs.length - (i + 1), by omega, rfl, hlt, p'⟩, fun x H' y => ?_⟩
    obtain ⟨e, y⟩ := y
    subst e
    exact hs i x _ (y xs q) p
  · obtain rfl : i = xs.length := by omega
    exact .inl ⟨⟨xs, q, Nat.le_refl _⟩, hd H p⟩
theorem turns_list {K : PySem.W.Frag} {a : Addr} {xs : List V} {B : V → Hp → (Hp → Prop) → Prop} {H0 : Hp} {Qd : Hp → Prop} (Pv : Nat → Hp → Prop) (h0 : Pv 0 H0) (hl : ∀ i H, i ≤ xs.length → Pv i H → SqL K H a xs)
    (hs : ∀ i x H, xs[i]? = some x → Pv i H → B x H (Pv (i + 1))) (hd : ∀ H, Pv xs.length H → Qd H) :
    ∃ W : Nat → Nat → Hp → Prop, (∃ m, W 0 m H0) ∧ ∀ i m H, W i m H → ((Itl K a).stop i H ∧ Qd H) ∨ ((Itl K a).go i H ∧ ∃ Nx : Hp → Prop, (∀ H', Nx H' → ∃ m', m' < m ∧ W (i + 1) m' H') ∧ ∀ x H', (Itl K a).yld i H x H' → B x H' Nx) := by
  refine ⟨fun i m H => m = xs.length - i ∧ i ≤ xs.length ∧ Pv i H, ⟨xs.length, by simp, Nat.zero_le _, h0⟩, ?_⟩
  rintro i m H ⟨rfl, hi, p⟩
  have q := hl i H hi p
  by_cases hlt : i < xs.length
  · refine .inr ⟨⟨xs, xs[i], q, by simp [hlt]⟩, Pv (i + 1), fun H' p' => ⟨xs.length - (i + 1), by omega, rfl, hlt, p'⟩, fun x H' y => ?_⟩
    obtain ⟨e, y⟩ := y
    subst e
    exact hs i x _ (y xs q) p
  · obtain rfl : i = xs.length := by omega
    exact .inl ⟨⟨xs, q, Nat.le_refl _⟩, hd H p⟩
end L2
namespace Sx
theorem ev_bdN {g : F} (o : Ok g) {m : Nat} (B : Bd m g) {a : Nat} {x : Int} (hx : x.natAbs < 2 ^ a) : (ev g x).natAbs < 2 ^ (a + m + 2) := by
  have G := o.g
  have hP := G.P0
  have hR := G.R0
  have d1 := Int.mul_ediv_add_emod x g.P
  have d2 := Int.emod_nonneg x (show g.P ≠ 0 by omega)
  have d3 := Int.emod_lt_of_pos x hP
  have e := ev_shift G (x % g.P) (x / g.P)
  rw [show x % g.P + x / g.P * g.P = x by rw [Int.mul_comm (x / g.P)]; omega] at e
  have m1 := ev_mono G d2
  have m2 := ev_mono G (show x % g.P ≤ 0 + g.P by omega)
  rw [ev_shift1 G] at m2
  have b0 := ev_zero_bd o B
  have bR := B.R
  have ht : (x / g.P).natAbs < 2 ^ a := Nat.lt_of_le_of_lt (Int.natAbs_ediv_le_natAbs _ _) hx
  have htr : (x / g.P * g.R).natAbs < 2 ^ (a + m) := L2.natAbs_mul_lt ht bR (Nat.le_refl _)
  have p1 : 2 ^ (m + 1) = 2 * 2 ^ m := by rw [Nat.pow_succ, Nat.mul_comm]
  have p2 : 2 ^ (a + m + 2) = 4 * 2 ^ (a + m) := by rw [Nat.pow_succ, Nat.pow_succ]; omega
  have p3 : 2 ^ m ≤ 2 ^ (a + m) := Nat.pow_le_pow_right (by decide) (by omega)
  rw [e, p2]
  rw [p1] at b0
  generalize 2 ^ (a + m) = N at *
  generalize 2 ^ m = M at *
  generalize x / g.P * g.R = z at *
  -- 2 M + M + N ≤ 4 N
  omega
theorem pa_bdN {g : F} (o : Ok g) {m : Nat} (B : Bd m g) {a : Nat} {y : Int} (hy : y.natAbs < 2 ^ a) : (pa g y).natAbs < 2 ^ (a + 2 * m + 6) := by
  have G := o.g
  have hP := G.P0
  have hR := G.R0
  have d1 := Int.mul_ediv_add_emod y g.R
  have d2 := Int.emod_nonneg y (show g.R ≠ 0 by omega)
  have d3 := Int.emod_lt_of_pos y hR
  have e := pa_shift G (y % g.R) (y / g.R)
  rw [show y % g.R + y / g.R * g.R = y by rw [Int.mul_comm (y / g.R)]; omega] at e
  have m1 := pa_mono G d2
  have m2 := pa_mono G (show y % g.R ≤ 0 + g.R by omega)
  rw [pa_shift1 G] at m2
  have b0 := pa_zero_bd o B
  have bP := B.P
  have ht : (y / g.R).natAbs < 2 ^ a := Nat.lt_of_le_of_lt (Int.natAbs_ediv_le_natAbs _ _) hy
  have htr : (y / g.R * g.P).natAbs < 2 ^ (a + m) := L2.natAbs_mul_lt ht bP (Nat.le_refl _)
  have p2 : 2 ^ (a + 2 * m + 6) = 4 * 2 ^ (a + 2 * m + 4) := by rw [Nat.pow_succ, Nat.pow_succ]; omega
  have p3 : 2 ^ m ≤ 2 ^ (a + 2 * m + 4) := Nat.pow_le_pow_right (by decide) (by omega)
  have p4 : 2 ^ (a + m) ≤ 2 ^ (a + 2 * m + 4) := Nat.pow_le_pow_right (by decide) (by omega)
  have p5 : 2 ^ (m + m + 4) ≤ 2 ^ (a + 2 * m + 4) := Nat.pow_le_pow_right (by decide) (by omega)
  rw [e, p2]
  generalize 2 ^ (a + 2 * m + 4) = N at *
  generalize 2 ^ (a + m) = N1 at *
  generalize 2 ^ (m + m + 4) = N2 at *
  generalize 2 ^ m = M at *
  generalize y / g.R * g.P = z at *
  omega
/-! ### f and then g -/
theorem comp_num {f g : F} (Gf : Good f) (Gg : Good g) : ∃ many more : Nat, g.P / (Int.gcd f.R g.P : Nat) = many ∧ f.R / (Int.gcd f.R g.P : Nat) = more ∧ 0 < many ∧ 0 < more ∧ (many : Int) * f.R = more * g.P ∧ (many : Int) ≤ g.P ∧ (more : Int) ≤ f.R := by
  have hR := Gf.R0
  have hP := Gg.P0
  have c0 : 0 < Int.gcd f.R g.P := Int.gcd_pos_of_ne_zero_left _ (by omega)
  obtain ⟨a, ha⟩ := Int.gcd_dvd_left (a := f.R) (b := g.P)
  obtain ⟨b, hb⟩ := Int.gcd_dvd_right (a := f.R) (b := g.P)
  generalize Int.gcd f.R g.P = c at *
  have hc : (0 : Int) < c := by omega
  have e1 : f.R / (c : Int) = a := by rw [ha]; exact Int.mul_ediv_cancel_left _ (by omega)
  have e2 : g.P / (c : Int) = b := by rw [hb]; exact Int.mul_ediv_cancel_left _ (by omega)
  have pos : ∀ {z u : Int}, 0 < z → z = c * u → 0 < u ∧ u ≤ z := fun {z u} hz e => by
    have hu : 0 < u := by
      rcases Int.lt_or_le 0 u with h | h
      · exact h
      · have := Int.mul_le_mul_of_nonneg_left h (Int.le_of_lt hc)
        omega
    refine ⟨hu, ?_⟩
    have := Int.mul_le_mul_of_nonneg_right (show (1 : Int) ≤ c by omega) (Int.le_of_lt hu)
    omega
  have pa' := pos hR ha
  have pb' := pos hP hb
  refine ⟨b.toNat, a.toNat, by rw [e2]; omega, by rw [e1]; omega, by omega, by omega, ?_, by omega, by omega⟩
  rw [show ((b.toNat : Nat) : Int) = b by omega, show ((a.toNat : Nat) : Int) = a by omega, ha, hb, Int.mul_comm (c : Int) a, Int.mul_comm (c : Int) b, ← Int.mul_assoc, ← Int.mul_assoc, Int.mul_comm b a]
theorem comp_fit {f g : F} (Gf : Good f) (Gg : Good g) {many more : Nat} (h1 : 0 < many) (h2 : 0 < more) (e : (many : Int) * f.R = more * g.P) : Fit (fun x => ev g (ev f x)) (f.P * many) (g.R * more) := by
  refine ⟨Int.mul_pos Gf.P0 (by omega), Int.mul_pos Gg.R0 (by omega), fun x => ev_mono Gg (ev_mono Gf (by omega)), fun x => ?_⟩
  show ev g (ev f (x + f.P * many)) = ev g (ev f x) + g.R * more
  rw [Int.mul_comm f.P, ev_shift Gf, e, ev_shift Gg, Int.mul_comm g.R]
noncomputable def compPairs1 (f g : F) (many : Nat) : List (Int × Int) := (List.range many).flatMap fun (t : Nat) => f.ps.map fun q => (q.1 + (t : Int) * f.P, ev g (q.2 + (t : Int) * f.R))
theorem flat_len {α β : Type} (l : List α) (k : List β) (h : α → β → Int × Int) : (l.flatMap fun t => k.map (h t)).length = l.length * k.length := by
  induction l with
  | nil => simp
  | cons a l ih =>
    rw [List.flatMap_cons, List.length_append, List.length_map, ih, List.length_cons, Nat.add_mul]
    omega
theorem mod_turn (s : Int) {n : Nat} (h : 0 < n) : ∃ (t : Nat) (u : Int), t < n ∧ s = t + u * n := by
  have d1 := Int.mul_ediv_add_emod s n
  have d2 := Int.emod_nonneg s (show (n : Int) ≠ 0 by omega)
  have d3 := Int.emod_lt_of_pos s (show (0 : Int) < n by omega)
  exact ⟨(s % n).toNat, s / n, by omega, by rw [Int.mul_comm]; omega⟩
theorem told1 {f g : F} (Gf : Good f) (Gg : Good g) {many more : Nat} (h1 : 0 < many) (h2 : 0 < more) (e : (many : Int) * f.R = more * g.P) (hl : f.ps.length * many ≤ 240) : Told (fun x => ev g (ev f x)) (f.P * many) (g.R * more) (compPairs1 f g many) := by
  have len : (compPairs1 f g many).length = many * f.ps.length := by
    unfold compPairs1
    rw [flat_len, List.length_range]
  have hne := Gf.ne
  refine ⟨comp_fit Gf Gg h1 h2 e, fun z => ?_, by rw [len, Nat.mul_comm]; exact hl, fun q hq => ?_, fun x hx => ?_⟩
  · have := congrArg List.length z
    rw [len] at this
    have h3 : many * f.ps.length = 0 := this
    have := Nat.mul_pos h1 hne
    omega
  · obtain ⟨t, ht, hq⟩ := List.mem_flatMap.mp hq
    obtain ⟨u, hu, rfl⟩ := List.mem_map.mp hq
    obtain ⟨i, hi, rfl⟩ := List.mem_iff_getElem.mp hu
    have a := pl_at (f := f) 0 hi
    have b := vl_at (f := f) 0 hi
    have eat : at_ f i = f.ps[i] := by
      have := at_get (f := f) hi
      rw [List.getElem?_eq_getElem hi] at this
      exact (Option.some.inj this).symm
    rw [eat] at a b
    show ev g (f.ps[i].2 + t * f.R) = ev g (ev f (f.ps[i].1 + t * f.P))
    rw [ev_shift Gf, show f.ps[i].1 = pl f (0 * (f.ps.length : Int) + i) by omega, ev_pl Gf, b]
    congr 1
    omega
  · have hj : ev f (x - 1) < ev f x := by
      have hx' : ev g (ev f (x - 1)) < ev g (ev f x) := hx
      rcases Int.lt_or_le (ev f (x - 1)) (ev f x) with z | z
      · exact z
      · have := ev_mono Gg z
        omega
    obtain ⟨k, rfl⟩ := (jump_iff Gf x).mp hj
    obtain ⟨s, i, hi, rfl⟩ := split Gf.ne k
    obtain ⟨t, u, ht, hs⟩ := mod_turn s h1
    have eat : at_ f i = f.ps[i] := by
      have := at_get (f := f) hi
      rw [List.getElem?_eq_getElem hi] at this
      exact (Option.some.inj this).symm
    refine ⟨(f.ps[i].1 + t * f.P, ev g (f.ps[i].2 + t * f.R)), List.mem_flatMap.mpr ⟨t, List.mem_range.mpr ht, List.mem_map.mpr ⟨f.ps[i], List.getElem_mem hi, rfl⟩⟩, u, ?_⟩
    rw [pl_at s hi, eat, hs, Int.add_mul]
    show _ = f.ps[i].1 + t * f.P + u * (f.P * many)
    rw [Int.mul_comm f.P, ← Int.mul_assoc]
    omega
noncomputable def compPlaces (f g : F) (more : Nat) : List Int := (List.range more).flatMap fun (t : Nat) => g.ps.map fun q => pa f (q.1 + (t : Int) * g.P)
theorem flat_len' {α β : Type} (l : List α) (k : List β) (h : α → β → Int) : (l.flatMap fun t => k.map (h t)).length = l.length * k.length := by
  induction l with
  | nil => simp
  | cons a l ih =>
    rw [List.flatMap_cons, List.length_append, List.length_map, ih, List.length_cons, Nat.add_mul]
    omega
theorem told2 {f g : F} (Gf : Good f) (Gg : Good g) {many more : Nat} (h1 : 0 < many) (h2 : 0 < more) (e : (many : Int) * f.R = more * g.P) (hl : g.ps.length * more ≤ 240) : Told (fun x => ev g (ev f x)) (f.P * many) (g.R * more) ((compPlaces f g more).map fun p => (p, ev g (ev f p))) := by
  have len : (compPlaces f g more).length = more * g.ps.length := by
    unfold compPlaces
    rw [flat_len', List.length_range]
  have hne := Gg.ne
  refine ⟨comp_fit Gf Gg h1 h2 e, fun z => ?_, by rw [List.length_map, len, Nat.mul_comm]; exact hl, fun q hq => ?_, fun x hx => ?_⟩
  · have := congrArg List.length z
    rw [List.length_map, len] at this
    have h3 : more * g.ps.length = 0 := this
    have := Nat.mul_pos h2 hne
    omega
  · obtain ⟨p, hp, rfl⟩ := List.mem_map.mp hq
    rfl
  · have hx' : ev g (ev f (x - 1)) < ev g (ev f x) := hx
    -- there is a place of g between
    obtain ⟨k, hk⟩ := InStep.exists Gg (ev f x)
    have hb : ev f (x - 1) < pl g k := by
      rcases Int.lt_or_le (ev f (x - 1)) (pl g k) with z | z
      · exact z
      · have := ev_mono Gg z
        rw [ev_pl Gg, ← ev_of Gg hk] at this
        omega
    have hpa : pa f (pl g k) = x := pa_unique Gf hk.1 hb
    obtain ⟨s, i, hi, rfl⟩ := split Gg.ne k
    obtain ⟨t, u, ht, hs⟩ := mod_turn s h2
    have eat : at_ g i = g.ps[i] := by
      have := at_get (f := g) hi
      rw [List.getElem?_eq_getElem hi] at this
      exact (Option.some.inj this).symm
    refine ⟨_, List.mem_map.mpr ⟨pa f (g.ps[i].1 + t * g.P), List.mem_flatMap.mpr ⟨t, List.mem_range.mpr ht, List.mem_map.mpr ⟨g.ps[i], List.getElem_mem hi, rfl⟩⟩, rfl⟩, u, ?_⟩
    show x = pa f (g.ps[i].1 + t * g.P) + u * (f.P * many)
    have sh := pa_shift Gf (g.ps[i].1 + t * g.P) (u * many)
    rw [Int.mul_assoc, e, Int.mul_assoc] at sh
    rw [← hpa, pl_at s hi, eat, hs, Int.add_mul, Int.mul_assoc u more g.P, show g.ps[i].1 + (t * g.P + u * (more * g.P)) = g.ps[i].1 + t * g.P + u * (more * g.P) by omega, sh, Int.mul_comm f.P]
/-- f >> g exists -/
def Cmp (f g : F) : Prop := (f.ps.length : Int) * (g.P / (Int.gcd f.R g.P : Nat)) ≤ 240 ∨ (g.ps.length : Int) * (f.R / (Int.gcd f.R g.P : Nat)) ≤ 240
end Sx

namespace Sx
/-- every period of the function is a number of turns of the least form -/
theorem period_mult {h : F} (o : Ok h) {w r : Int} (hw : 0 < w) (hp : ∀ x, ev h (x + w) = ev h x + r) : ∃ m : Nat, 0 < m ∧ w = m * h.P ∧ r = m * h.R := by
  obtain ⟨c, hc⟩ := per_of_fn o.g hp
  have hne := o.g.ne
  have c0 : 0 < c := by
    have := (hc 0).1
    have h2 : pl h 0 < pl h (0 + c) := by omega
    have := (mono_iff o.g.pm).mp h2
    omega
  obtain ⟨k, rfl⟩ : ∃ k : Nat, c = k := ⟨c.toNat, by omega⟩
  have hper : Per h (k : Int) := ⟨w, r, hc⟩
  have hmod := Per.mod hper (Per.self hne)
  have hz : k % h.ps.length = 0 := by
    rcases Nat.eq_zero_or_pos (k % h.ps.length) with z | z
    · exact z
    · have := o.l _ z hmod
      have := Nat.mod_lt k hne
      omega
  obtain ⟨m, hm⟩ := Nat.dvd_of_mod_eq_zero hz
  have hm0 : 0 < m := by
    rcases Nat.eq_zero_or_pos m with z | z
    · rw [z, Nat.mul_zero] at hm; omega
    · exact z
  refine ⟨m, hm0, ?_⟩
  have it := iter (f := h) (d := h.ps.length) (w := h.P) (g := h.R) (fun j => shift hne j) m 0
  rw [show (0 : Int) + (m : Int) * (h.ps.length : Int) = 0 + (k : Int) by rw [hm, Int.natCast_mul, Int.mul_comm]] at it
  have := hc 0
  omega
/-- fewer places: fewer steps -/
theorem len_le {a b : Int → Int} {P : Int} {n m : Nat} (ha : ∀ k, a k < a (k + 1)) (hb : ∀ k, b k < b (k + 1)) (h1 : ∀ k, ∃ m, a k = b m) (hn : ∀ k, a (k + n) = a k + P) (hm : ∀ k, b (k + m) = b k + P) : n ≤ m := by
  obtain ⟨c, hc⟩ := h1 0
  have key : ∀ i : Nat, ∃ j : Int, c + i ≤ j ∧ a (0 + i) = b j := by
    intro i
    induction i with
    | zero => exact ⟨c, by omega, hc⟩
    | succ i ih =>
      obtain ⟨j, h2, h3⟩ := ih
      obtain ⟨j', h4⟩ := h1 (0 + ((i + 1 : Nat) : Int))
      refine ⟨j', ?_, h4⟩
      have := ha (0 + (i : Int))
      rw [show (0 : Int) + (i : Int) + 1 = 0 + ((i + 1 : Nat) : Int) by omega, h3, h4] at this
      have := (mono_iff hb).mp this
      omega
  obtain ⟨j, h2, h3⟩ := key n
  rw [hn 0, hc, ← hm c] at h3
  have : j = c + m := by
    rcases Int.lt_trichotomy j (c + m) with z | z | z
    · have := mono hb z; omega
    · exact z
    · have := mono hb z; omega
  omega
theorem iter_pl {h : F} (G : Good h) (m : Nat) (k : Int) : pl h (k + (m * h.ps.length : Nat)) = pl h k + m * h.P := by
  have it := (iter (f := h) (d := h.ps.length) (w := h.P) (g := h.R) (fun j => shift G.ne j) m k).1
  rw [Int.natCast_mul]
  exact it
/-- the steps of h in a period of b are no more than those of b -/
theorem len_sub {h b : F} (Gh : Good h) (Gb : Good b) {m : Nat} (hP : b.P = m * h.P) (hj : ∀ x, ev h (x - 1) < ev h x → ev b (x - 1) < ev b x) : m * h.ps.length ≤ b.ps.length :=
  len_le (P := b.P) Gh.pm Gb.pm (fun k => (jump_iff Gb _).mp (hj _ ((jump_iff Gh _).mpr ⟨k, rfl⟩))) (fun k => by rw [iter_pl Gh, hP]) (fun k => (shift Gb.ne k).1)
/-- h of rate one, with the period of b, and rising only where b does, can be followed by what has this period -/
theorem cmp_sub {h b t : F} (oh : Ok h) (Gb : Good b) (hper : ∀ x, ev h (x + b.P) = ev h x + b.P) (hj : ∀ x, ev h (x - 1) < ev h x → ev b (x - 1) < ev b x) (ht : t.P = b.P) : Cmp h t := by
  obtain ⟨m, hm, e1, e2⟩ := period_mult oh Gb.P0 hper
  left
  have hR := oh.g.R0
  have hl := len_sub oh.g Gb e1 hj
  have hb := Gb.len
  rw [ht, e2, Int.gcd_mul_left_right, show ((h.R.natAbs : Nat) : Int) = h.R by omega, Int.mul_ediv_cancel _ (by omega), ← Int.natCast_mul, Nat.mul_comm]
  omega
/-- a part of a product -/
theorem div_gcd_le {x y p q : Int} (hx : 0 < x) (hy : 0 < y) (hp : 0 < p) (e : x * p = y * q) : y / (Int.gcd x y : Nat) ≤ p := by
  obtain ⟨a, rfl⟩ := Int.eq_ofNat_of_zero_le (Int.le_of_lt hx)
  obtain ⟨b, rfl⟩ := Int.eq_ofNat_of_zero_le (Int.le_of_lt hy)
  obtain ⟨c, rfl⟩ := Int.eq_ofNat_of_zero_le (Int.le_of_lt hp)
  rw [Int.gcd_natCast_natCast, ← Int.natCast_ediv]
  have hd : b ∣ a * c := by
    have : (b : Int) ∣ ((a * c : Nat) : Int) := ⟨q, by rw [Int.natCast_mul]; exact e⟩
    exact Int.natCast_dvd_natCast.mp this
  have g0 : 0 < Nat.gcd a b := Nat.gcd_pos_of_pos_left _ (by omega)
  have hcop : Nat.Coprime (b / Nat.gcd a b) (a / Nat.gcd a b) := (Nat.coprime_div_gcd_div_gcd g0).symm
  have h2 : b / Nat.gcd a b ∣ (a / Nat.gcd a b) * c := by
    obtain ⟨k, hk⟩ := hd
    refine ⟨k, ?_⟩
    have ea := Nat.div_mul_cancel (Nat.gcd_dvd_left a b)
    have eb := Nat.div_mul_cancel (Nat.gcd_dvd_right a b)
    refine Nat.eq_of_mul_eq_mul_right g0 ?_
    rw [Nat.mul_right_comm, ea, hk, Nat.mul_right_comm, eb]
  have := Nat.le_of_dvd (by omega) (hcop.dvd_of_dvd_mul_left h2)
  omega
/-- f and g made of rows whose rise and period are multiples of one size -/
theorem cmp_rows {r1 r2 f g : F} (R1 : Raw r1) (R2 : Raw r2) (of : Ok f) (og : Ok g) (e1 : ∀ x, ev f x = ev r1 x) (e2 : ∀ x, ev g x = ev r2 x) {d a b : Int} (hd : 0 < d) (ha : 0 < a) (hb : 0 < b) (h1 : r1.R = d * a) (h2 : r2.P = d * b) :
    (f.ps.length : Int) * (g.P / (Int.gcd f.R g.P : Nat)) ≤ r1.ps.length * b ∧ (g.ps.length : Int) * (f.R / (Int.gcd f.R g.P : Nat)) ≤ r2.ps.length * a := by
  obtain ⟨m1, m10, p1, q1⟩ := period_mult of R1.P0 (r := r1.R) fun x => by rw [e1, e1, ev_shift1 R1.good]
  obtain ⟨m2, m20, p2, q2⟩ := period_mult og R2.P0 (r := r2.R) fun x => by rw [e2, e2, ev_shift1 R2.good]
  have l1 := len_sub of.g R1.good p1 fun x hx => by rw [← e1, ← e1]; exact hx
  have l2 := len_sub og.g R2.good p2 fun x hx => by rw [← e2, ← e2]; exact hx
  have fR := of.g.R0
  have gP := og.g.P0
  -- f.R * (m1 b) = g.P * (m2 a)
  have key : f.R * (m1 * b) = g.P * (m2 * a) := by
    have x1 : (m1 : Int) * f.R * b = d * a * b := by rw [← q1, h1]
    have x2 : (m2 : Int) * g.P * a = d * b * a := by rw [← p2, h2]
    rw [← Int.mul_assoc, Int.mul_comm f.R, x1, ← Int.mul_assoc, Int.mul_comm g.P, x2, Int.mul_assoc, Int.mul_comm a b, Int.mul_assoc]
  have b1 := div_gcd_le fR gP (Int.mul_pos (show (0 : Int) < m1 by omega) hb) key
  have b2 := div_gcd_le gP fR (Int.mul_pos (show (0 : Int) < m2 by omega) ha) key.symm
  rw [Int.gcd_comm] at b2
  constructor
  · have := Int.mul_le_mul_of_nonneg_left b1 (show (0 : Int) ≤ f.ps.length by omega)
    rw [← Int.mul_assoc, Int.mul_comm (f.ps.length : Int) m1, ← Int.natCast_mul] at this
    have x := Int.mul_le_mul_of_nonneg_right (show ((m1 * f.ps.length : Nat) : Int) ≤ (r1.ps.length : Int) by omega) (Int.le_of_lt hb)
    omega
  · have := Int.mul_le_mul_of_nonneg_left b2 (show (0 : Int) ≤ g.ps.length by omega)
    rw [← Int.mul_assoc, Int.mul_comm (g.ps.length : Int) m2, ← Int.natCast_mul] at this
    have x := Int.mul_le_mul_of_nonneg_right (show ((m2 * g.ps.length : Nat) : Int) ≤ (r2.ps.length : Int) by omega) (Int.le_of_lt ha)
    omega
/-- what can be followed, by the numbers alone -/
theorem Cmp.of_eq {f g f' g' : F} (h : Cmp f g) (e1 : f'.R = f.R) (e2 : f'.ps.length = f.ps.length) (e3 : g'.P = g.P) (e4 : g'.ps.length = g.ps.length) : Cmp f' g' := by
  unfold Cmp
  rw [e1, e2, e3, e4]
  exact h
/-- f and what has its rise as its period -/
theorem cmp_same {f g : F} (Gf : Good f) (e : g.P = f.R) : Cmp f g := by
  left
  have := Gf.R0
  have := Gf.len
  rw [e, Int.gcd_self, show ((f.R.natAbs : Nat) : Int) = f.R by omega, Int.ediv_self (by omega)]
  omega
theorem pa_jump_iff {f b : F} (Gf : Good f) (hb : ∀ y, ev b y = pa f y) (y : Int) : ev b (y - 1) < ev b y ↔ pa f (y - 1) < pa f y := by rw [hb, hb]
end Sx
namespace Sx
theorem pa_congr {f g : F} (Gf : Good f) (Gg : Good g) (h : ∀ x, ev f x = ev g x) (y : Int) : pa f y = pa g y := by
  obtain ⟨a, b⟩ := pa_spec Gg y
  exact pa_unique Gf (by rw [h]; exact a) (by rw [h]; exact b)
end Sx

namespace Sx
/-- maps that agree over both periods from 0 on agree everywhere -/
theorem agree {f g : F} (Gf : Good f) (Gg : Good g) (h : ∀ x, 0 ≤ x → x < f.P + g.P → ev f x = ev g x) : ∀ x, ev f x = ev g x := by
  have fP := Gf.P0
  have gP := Gg.P0
  have base : ∀ i, 0 ≤ i → i < f.P → ev f (i + g.P) = ev f i + g.R := fun i h0 h1 => by
    rw [h (i + g.P) (by omega) (by omega), ev_shift1 Gg, h i h0 (by omega)]
  have all : ∀ x, ev f (x + g.P) = ev f x + g.R := fun x => by
    have d1 := Int.mul_ediv_add_emod x f.P
    have d2 := Int.emod_nonneg x (show f.P ≠ 0 by omega)
    have d3 := Int.emod_lt_of_pos x fP
    have e1 := ev_shift Gf (x % f.P) (x / f.P)
    have e2 := ev_shift Gf (x % f.P + g.P) (x / f.P)
    have c : x % f.P + x / f.P * f.P = x := by rw [Int.mul_comm (x / f.P)]; omega
    rw [c] at e1
    rw [show x % f.P + g.P + x / f.P * f.P = x + g.P by omega] at e2
    have := base _ d2 d3
    omega
  intro x
  have d1 := Int.mul_ediv_add_emod x g.P
  have d2 := Int.emod_nonneg x (show g.P ≠ 0 by omega)
  have d3 := Int.emod_lt_of_pos x gP
  have e1 := turns all (x % g.P) (x / g.P)
  have e2 := ev_shift Gg (x % g.P) (x / g.P)
  have c : x % g.P + x / g.P * g.P = x := by rw [Int.mul_comm (x / g.P)]; omega
  rw [c] at e1 e2
  rw [e1, e2, h _ d2 (by omega)]
/-- the first place from 0 on where unlike maps differ -/
theorem first_apart {f g : F} (of : Ok f) (og : Ok g) (hne : f ≠ g) : ∃ d : Nat, (d : Int) < f.P + g.P ∧ ev f d ≠ ev g d ∧ ∀ y : Int, 0 ≤ y → y < d → ev f y = ev g y := by
  have hex : ∃ d : Nat, (d : Int) < f.P + g.P ∧ ev f d ≠ ev g d := by
    refine Classical.byContradiction fun hno => hne (of.ext og (agree of.g og.g fun x h0 h1 => ?_))
    refine Classical.byContradiction fun hx => hno ⟨x.toNat, by omega, ?_⟩
    rw [show ((x.toNat : Nat) : Int) = x by omega]
    exact hx
  obtain ⟨d, hd⟩ := hex
  have key : ∀ n : Nat, (∃ d : Nat, d < n ∧ (d : Int) < f.P + g.P ∧ ev f d ≠ ev g d) → ∃ d : Nat, (d : Int) < f.P + g.P ∧ ev f d ≠ ev g d ∧ ∀ y : Int, 0 ≤ y → y < d → ev f y = ev g y := by
    intro n
    induction n with
    | zero =>
      rintro ⟨d, h, _⟩
      omega
    | succ n ih =>
      rintro ⟨d, h, h1, h2⟩
      by_cases hs : ∃ d' : Nat, d' < n ∧ (d' : Int) < f.P + g.P ∧ ev f d' ≠ ev g d'
      · exact ih hs
      · refine ⟨d, h1, h2, fun y y0 y1 => Classical.byContradiction fun hy => hs ⟨y.toNat, by omega, by omega, ?_⟩⟩
        rw [show ((y.toNat : Nat) : Int) = y by omega]
        exact hy
  exact key (d + 1) ⟨d, by omega, hd⟩
/-- the next place -/
theorem next_spec {f : F} (G : Good f) (x : Int) : x < pa f (ev f x + 1) ∧ ∀ y, x ≤ y → y < pa f (ev f x + 1) → ev f y = ev f x := by
  constructor
  · rcases Int.lt_or_le x (pa f (ev f x + 1)) with z | z
    · exact z
    · have := (gal G).mp z
      omega
  · intro y h1 h2
    have a := ev_mono G h1
    have b : ¬ ev f x + 1 ≤ ev f y := fun z => by
      have := (gal G).mpr z
      omega
    omega
end Sx

/-! ### own errors over any built-in error: their first field -/
namespace PySem.W
open PySem PySem.Calls PyProof.Rows Builtin Builtin.ObjectAttr
section
variable {prog : Program} {w : World} {A : Around} {R : Result → Shared → Prop} {hp : Heap} {gs : Array GenState} {dr : Drawn} {tn : Nat} {os : OsState}
theorem err_osa {B : String} {bmB : List Value} {K : Frag} {name : Str} {tk : Tok} {v : Value} {x C : Addr} {fv : Array Value} {cd : ClassData} (SF : StoreFacts B bmB "object.__setattr__" "object")
    (X : K.In hp) (hx : hp.get? x = some { cls := .ref C, data := .fields fv }) (hcd : clsIn K C = some cd) (hov : excOver K C bmB = true) (hh : cd.hasDict = true) (ha : findIn K (.ref C) name = some none)
    (hq : ∀ h' tk' dx, (∀ b o, b ≠ x → hp.get? b = some o → h'.get? b = some o) → hp.objs.size ≤ dx → dx ≠ x → h'.get? x = some { cls := .ref C, dict := some dx, data := .fields fv } →
      h'.Ns1 dx (fun y => if y = name then some v else none) → R (.ok (.ret .none)) ⟨h', gs, dr, tk', os⟩) :
    codeAny (model prog w) A (.call (.builtin "object.__setattr__") ⟨[.ref x, .str name tk, v], []⟩) R ⟨hp, gs, dr, tn, os⟩ := by
  have I : InstAt hp x { cls := .ref C, data := .fields fv } C none := ⟨hx, rfl, rfl, trivial⟩
  have nx : x ≠ hp.objs.size := Nat.ne_of_lt (Heap.lt_size hx)
  have lc : Looks (model prog w) hp (classData C) cd := looks_clsIn X hcd
  refine osa_openX SF X I hov (r := none) (by unfold takerIn; rw [ha]; rfl) fun b => ?_
  obtain ⟨nm, bs, mro, ns, qn, hd, sn, sb, ab, col, del⟩ := cd
  dsimp only at hh
  subst hh
  show wpAny _ _ (storeInOwnDict (.ref x) (.ref C) (.str name tk) name v b) _ _ _
  unfold storeInOwnDict ownDictForStores
  repeat (first | with_reducible refine HandSPX.store_in_new ?_ ?_ | with_reducible refine wpAny_loadPart_at hx ?_ | with_reducible refine lc.at ?_ | wp_step)
  · exact ⟨_, #[], _, (Heap.get?_update_ne _ _ _ _ (Ne.symm nx)).trans (Heap.get?_push_at rfl rfl), rfl, fun u hu => absurd hu (by simp), fun _ => rfl⟩
  · intro h2 tk2 hn2 sb2
    have at1 : (hp.push { cls := .type "dict", data := .dict #[] }).get? x = some { cls := .ref C, data := .fields fv } := Heap.get?_push_of_some _ hx
    refine hq h2 tk2 hp.objs.size (fun c o hc ho => ?_) (Nat.le_refl _) (Ne.symm nx) ?_ hn2
    · exact (sb2.2 c (Nat.ne_of_lt (Heap.lt_size ho))).trans ((Heap.get?_update_ne _ _ _ _ hc).trans (Heap.get?_push_of_some _ ho))
    · exact (sb2.2 x nx).trans (Heap.get?_update_self _ at1 rfl)
theorem err_osa2 {B : String} {bmB : List Value} {K : Frag} {name : Str} {tk : Tok} {v : Value} {x C dx : Addr} {fv : Array Value} {cd : ClassData} {m0 : Str → Option Value} {nl : List Str} (SF : StoreFacts B bmB "object.__setattr__" "object")
    (X : K.In hp) (hx : hp.get? x = some { cls := .ref C, dict := some dx, data := .fields fv }) (hns : hp.Ns1 dx m0) (hw : Within m0 nl) (hz : nl.length ≤ 1000) (hcd : clsIn K C = some cd) (hov : excOver K C bmB = true) (hh : cd.hasDict = true)
    (ha : findIn K (.ref C) name = some none)
    (hq : ∀ h' tk', (∀ b o, b ≠ dx → hp.get? b = some o → h'.get? b = some o) → h'.Ns1 dx (fun y => if y = name then some v else m0 y) → R (.ok (.ret .none)) ⟨h', gs, dr, tk', os⟩) :
    codeAny (model prog w) A (.call (.builtin "object.__setattr__") ⟨[.ref x, .str name tk, v], []⟩) R ⟨hp, gs, dr, tn, os⟩ := by
  obtain ⟨oD, esD, epD, atD, _, _⟩ := hns.count hw
  have I : InstAt hp x { cls := .ref C, dict := some dx, data := .fields fv } C (some oD) := ⟨hx, rfl, rfl, atD⟩
  have lc : Looks (model prog w) hp (classData C) cd := looks_clsIn X hcd
  refine osa_openX SF X I hov (r := none) (by unfold takerIn; rw [ha]; rfl) fun b => ?_
  obtain ⟨nm, bs, mro, ns, qn, hd, sn, sb, ab, col, del⟩ := cd
  dsimp only at hh
  subst hh
  show wpAny _ _ (storeInOwnDict (.ref x) (.ref C) (.str name tk) name v b) _ _ _
  unfold storeInOwnDict ownDictForStores
  repeat (first | with_reducible refine OEX.store_in_old hns hw hz ?_ | with_reducible refine wpAny_loadPart_at hx ?_ | with_reducible refine lc.at ?_ | wp_step)
  intro h2 tk2 hn2 sb2
  exact hq h2 tk2 (fun c o hc ho => (sb2.2 c hc).trans ho) hn2
end
end PySem.W
namespace L2
open PySem PySem.Spec PyProof.Rows
/-- what the written part says of an own error class over the built-in B -/
structure ErrC (K : PySem.W.Frag) (C : Addr) (B newId initId : String) (bmB : List Value) : Prop where
  base : ExcBaseFacts B newId initId bmB
  st : StoreFacts B bmB "object.__setattr__" "object"
  ty : typeOf (.type B) = pure (.type "type")
  cls : ∃ nm q N bs bm sn sub ab col dd k0 k1 k2 k3 k5, K.lookup C = some (excClassObj nm q C N bs bm true sn sub ab col dd k0 k1 k2 k3 k5 newId) ∧ PySem.W.excTail bmB bm = true
  sa : PySem.W.findIn K (.ref C) "__setattr__" = some (some (.builtin "object.__setattr__"))
  exC : PySem.W.subIn K (.ref C) (.type "BaseException") = some true
  tyC : PySem.W.typeIn K (.ref C) = some (.type "type")
  kC : PySem.W.keepIn K (.ref C) = true
section
variable {X : Cx} {pins : List (Addr × Obj)} {σ : L2.St} {H : Hp} {s : Shared} {a C dx : Addr} {f : Str} {y : V} {u : Value} {fs : List (Str × V)} {Q : Unit → Shared → Prop} {E : Value → Shared → Prop} {A : Around} {B newId initId : String} {bmB : List Value}
/-- the state behind the first field -/
theorem err_put1 {hp h2 : Heap} {gs : Array GenState} {dr : Drawn} {tn tk2 : Nat} {os : OsState} {t1 : Addr} (I : Inv X pins σ H ⟨hp, gs, dr, tn, os⟩) (e : H a = some (exo a C none)) (ry : RelV y u)
    (k : ∀ b o, b ≠ a → hp.get? b = some o → h2.get? b = some o) (dn : hp.objs.size ≤ dx) (hx : h2.get? a = some ({ cls := .ref C, dict := some dx, data := .fields #[.ref t1, .none, .none, .none, .bool false, .none] } : Obj))
    (hn : h2.Ns1 dx (fun z => if z = f then some u else none)) : Inv X pins σ (upd (upd H dx (exd dx [(f, y)])) a (exo a C (some dx))) ⟨h2, gs, dr, tk2, os⟩ := by
  have fresh : H dx = none := I.hok.fresh dn
  have off : ∀ {b : Addr} {o : Obj}, hp.get? b = some o → b ≠ dx := fun {b o} z => Nat.ne_of_lt (Nat.lt_of_lt_of_le (Heap.lt_size z) dn)
  have nota : ∀ {b : Addr}, H b = none → b ≠ a := fun {b} n z => by rw [z, e] at n; cases n
  have U : Un X.fs [] H (upd (upd H dx (exd dx [(f, y)])) a (exo a C (some dx))) hp h2 :=
    { keep := fun b o z n _ _ => k b o (nota n) z
      slot := fun b o z n _ _ => ⟨o.slots, k b o (nota n) z⟩
      free := fun b o z n _ => by
        rw [upd_ne (nota n), upd_ne (off z)]
        exact n
      there := fun b o z _ => by
        by_cases hb : b = a
        · exact ⟨_, by rw [hb]; exact hx⟩
        · exact ⟨o, k b o hb z⟩
      tups := fun b xs z => by
        rw [upd_ne (at_ne e z exo_tup), upd_ne (ne_of_none z fresh)]
        exact z
      frzs := fun b o v z => by
        rw [upd_ne (at_ne e z exo_frz), upd_ne (ne_of_none z fresh)]
        exact z
      tbls := fun b ps z => ⟨#[], by
        rw [upd_ne (at_ne e z exo_tbl), upd_ne (ne_of_none z fresh), z]
        simp⟩ }
  refine I.un (t' := tk2) U fun b o z => ?_
  by_cases hb : b = a
  · subst hb
    rw [upd_same] at z
    cases z
    exact exo_ok hx
  · rw [upd_ne hb] at z
    by_cases hd : b = dx
    · subst hd
      rw [upd_same] at z
      cases z
      exact exd_ok hn (relO_put (fs := []) ry fun g => True.intro)
    · rw [upd_ne hd] at z
      refine (I.hok b o z).stay (fun c v hc w => k c v ?_ w) (fun c hc => ?_) (fun c xs hc => ?_)
      · rcases hc with hc | hc
        · rw [hc]
          exact hb
        · exact at_ne e hc exo_own
      · rw [upd_ne (at_ne e hc exo_own), upd_ne (ne_of_none hc fresh)]
        exact hc
      · rw [upd_ne (at_ne e hc exo_tup), upd_ne (ne_of_none hc fresh)]
        exact hc
/-- self.f = y, the first field -/
theorem err_first (T : ErrC X.K C B newId initId bmB) (I : Inv X pins σ H s) (e : H a = some (exo a C none)) (hno : PySem.W.findIn X.K (.ref C) f = some none) (ry : RelV y u)
    (h : ∀ dx s', H dx = none → dx ≠ a → Inv X pins σ (upd (upd H dx (exd dx [(f, y)])) a (exo a C (some dx))) s' → Q () s') : wpAny (model X.prog X.w) A (setAttr (.ref a) f u) Q E s := by
  obtain ⟨nm, q, N, bs, bm, sn, sub, ab, col, dd, k0, k1, k2, k3, k5, hC, hbm⟩ := T.cls
  have hcl : PySem.W.clsIn X.K C = some { name := nm, bases := bs, mro := .ref C :: bm, ns := N, qualname := q, hasDict := true, slotNames := sn, subclasses := sub, abstract := ab, collection := col, hasDel := false } := by
    unfold PySem.W.clsIn
    rw [hC] <;> rfl
  have hov : PySem.W.excOver X.K C bmB = true := by
    unfold PySem.W.excOver
    rw [hcl]
    show (C == C && PySem.W.excTail bmB bm) = true
    rw [hbm, beq_self_eq_true]
    rfl
  obtain ⟨t1, at1⟩ := exo_at I.hok e
  obtain ⟨hp, gs, dr, tn, os⟩ := s
  refine PySem.W.set_plain I.kIn (ox := { cls := .ref C, dict := none, data := .fields #[.ref t1, .none, .none, .none, .bool false, .none] }) (od := none) ⟨at1, rfl, rfl, trivial⟩ T.sa ?_
  refine PySem.W.err_osa T.st I.kIn at1 hcl hov rfl hno fun h2 tk2 dx k dn dne hx hn => ?_
  exact h dx _ (I.hok.fresh dn) dne (err_put1 I e ry k dn hx hn)
/-- self.f = y, a further field -/
theorem err_more (T : ErrC X.K C B newId initId bmB) (I : Inv X pins σ H s) (e : H a = some (exo a C (some dx))) (ed : H dx = some (exd dx fs)) (hl : fs.length ≤ 900) (hno : PySem.W.findIn X.K (.ref C) f = some none) (ry : RelV y u)
    (h : ∀ s', Inv X pins σ (upd H dx (exd dx ((f, y) :: fs))) s' → Q () s') : wpAny (model X.prog X.w) A (setAttr (.ref a) f u) Q E s := by
  obtain ⟨nm, q, N, bs, bm, sn, sub, ab, col, dd, k0, k1, k2, k3, k5, hC, hbm⟩ := T.cls
  have hcl : PySem.W.clsIn X.K C = some { name := nm, bases := bs, mro := .ref C :: bm, ns := N, qualname := q, hasDict := true, slotNames := sn, subclasses := sub, abstract := ab, collection := col, hasDel := false } := by
    unfold PySem.W.clsIn
    rw [hC] <;> rfl
  have hov : PySem.W.excOver X.K C bmB = true := by
    unfold PySem.W.excOver
    rw [hcl]
    show (C == C && PySem.W.excTail bmB bm) = true
    rw [hbm, beq_self_eq_true]
    rfl
  obtain ⟨t1, at1⟩ := exo_at I.hok e
  obtain ⟨mA, hns, rel⟩ := exd_at I.hok ed
  have inn := within_of rel
  obtain ⟨hp, gs, dr, tn, os⟩ := s
  obtain ⟨oD, _, _, atD, _, _⟩ := hns.count inn
  refine PySem.W.set_plain I.kIn (ox := { cls := .ref C, dict := some dx, data := .fields #[.ref t1, .none, .none, .none, .bool false, .none] }) (od := some oD) ⟨at1, rfl, rfl, atD⟩ T.sa ?_
  refine PySem.W.err_osa2 T.st I.kIn at1 hns inn (by rw [List.length_map]; omega) hcl hov rfl hno fun h2 tk2 k hn => ?_
  have there : ∃ o, h2.get? dx = some o := by
    obtain ⟨o, _, _, z, _⟩ := hn
    exact ⟨o, z⟩
  exact h _ (I.write (t' := tk2) (x := dx) (e := dx) (o := exd dx ((f, y) :: fs)) (by rw [ed]; exact True.intro) (.inl rfl) k there (exd_ok hn (relO_put ry rel)))
/-- B.__init__(self, ..): nothing of it is told -/
theorem err_init {us : List Value} {Qv : Value → Shared → Prop} (T : ErrC X.K C B newId initId bmB) (I : Inv X pins σ H s) (e : H a = some (exo a C none)) (hl : us.length ≤ sizeLine) (h : ∀ s', Inv X pins σ H s' → Qv .none s') :
    wpAny (model X.prog X.w) A (call (.builtin initId) (.ref a :: us)) Qv E s := by
  obtain ⟨nm, q, N, bs, bm, sn, sub, ab, col, dd, k0, k1, k2, k3, k5, hC, hbm⟩ := T.cls
  obtain ⟨t1, at1⟩ := exo_at I.hok e
  obtain ⟨hp, gs, dr, tn, os⟩ := s
  refine wpAny_call (PySem.HandSPX.init_base T.base (fun Y => PySem.W.excTail_contains Y bm hbm) (I.kIn _ _ hC) at1 hl fun h2 t2 k hx => ?_)
  have J := I.write (t' := tn) (x := a) (e := a) (o := exo a C none) (by rw [e]; exact True.intro) (.inl rfl) k ⟨_, hx⟩ (exo_ok hx)
  have same : upd H a (exo a C none) = H := by
    funext b
    by_cases hb : b = a
    · rw [hb, upd_same, e]
    · rw [upd_ne hb]
  rw [same] at J
  exact h _ J
end
/-! ### readings -/
/-- B.__init__(self, ..) of an own error -/
def tErI (K : PySem.W.Frag) (B newId initId : String) (bmB : List Value) (ta : TA) : TE := fun σ H Q => ta σ H fun vs H1 => ∃ (a C : Addr) (ws : List V), vs = .ref a :: ws ∧ ws.length ≤ 1000 ∧ ErrC K C B newId initId bmB ∧ H1 a = some (exo a C none) ∧ Q .non H1
/-- self.f = e in the __init__ of an own error -/
def tErS (K : PySem.W.Frag) (B newId initId : String) (bmB : List Value) (f : Str) (to te : TE) : TS := fun D σ H => te σ H fun y H1 => to σ H1 fun x H2 => ∃ a C : Addr, x = .ref a ∧ ErrC K C B newId initId bmB ∧ PySem.W.findIn K (.ref C) f = some none ∧
  ((H2 a = some (exo a C none) ∧ ∀ dx, H2 dx = none → dx ≠ a → D.nx σ (upd (upd H2 dx (exd dx [(f, y)])) a (exo a C (some dx)))) ∨
    ∃ (dx : Addr) (fs : List (Str × V)), H2 a = some (exo a C (some dx)) ∧ H2 dx = some (exd dx fs) ∧ fs.length ≤ 900 ∧ D.nx σ (upd H2 dx (exd dx ((f, y) :: fs))))
section
variable {X : Cx} {o e : Expr} {es : List Expr} {to te : TE} {ta : TA} {f : Str} {p p' p1 p2 pos : Pos} {B newId initId : String} {bmB : List Value}
theorem pe_erinit {pl : Sem Bool} (hg : Gl X (Str.ofString B)) (hm : X.mg (Str.ofString B) = none) (hboot : bootBuiltins (Str.ofString B) = some (.type B)) (hty : typeOf (.type B) = pure (.type "type")) (vV : PySem.W.findCls X.K (.type B) (.type "type") "__init__" = some (.val (.builtin initId))) (ha : PA X (e :: es) ta)
    (hn1 : Str.ofString B ≠ "__name__" := by decide) (hn2 : (Str.ofString B == ("__debug__" : Str)) = false := by decide) (hmt : PySem.W.handedIn (.builtin initId) = true := by decide +kernel) (hst : Manifest.isStub B = false := by decide +kernel)
    (hc : eval (.Call (.Attribute (.Name (Str.ofString B) p1) "__init__" p2) (e :: es) [] pos) X.env = (do
      let ov ← eval (.Name (Str.ofString B) p1) X.env
      standAt p2.atName
      let (f, first) ← holding [ov] (getMethod ov "__init__" pl)
      callWith pos f first (backTo pos (starEach (e :: es) X.env)) (backToKw pos (keywordEach [] X.env))) := by rfl)
    (he : starEach (e :: es) X.env = (false, eval e X.env) :: starEach es X.env := by rfl) (hpl : (backTo pos (starEach es X.env)).any (·.1) = false := by rfl) :
    PE X (.Call (.Attribute (.Name (Str.ofString B) p1) "__init__" p2) (e :: es) [] pos) (tErI X.K B newId initId bmB ta) := by
  refine ⟨fun pins s σ H Q I h => ?_⟩
  refine PySem.W.methodCall_KW (ld_blt I hg hm hboot ?_ hn1 hn2) hc
  obtain ⟨m, fr⟩ := I.fr
  refine PySem.W.method_type fr I.ok.mod.kin hty hst vV hmt ?_
  show wpAny _ _ (callWith pos (Value.builtin initId) [] (backTo pos (starEach (e :: es) X.env)) []) _ _ _
  refine PyProof.Rows.callWith_method1 (thn (ha.run pos pins _ σ H _ (I.tok _) h) fun us s1 ⟨vs, H1, I1, r1, a, C, ws, ev, hl, T, ea, q⟩ => ?_) he hpl
  subst ev
  cases r1 with
  | @cons _ u0 _ ur ra rest =>
    obtain rfl : u0 = Value.ref a := ra
    have short : ur.length ≤ sizeLine := by
      rw [← Paired.length rest, sizeLine_eq]
      omega
    exact err_init T I1 ea short fun s' J => ⟨.non, H1, J, rfl, q⟩
theorem ps_erset (ho : PE X o to) (he : PE X e te) (hs : swapsWith e (some (.Attribute o f p')) pos.line X.env = pure false := by rfl) : PS X (.Assign [.Attribute o f p'] e pos) (tErS X.K B newId initId bmB f to te) := by
  refine ⟨fun pins s σ H D I h => ?_⟩
  refine plainObj_wpAny_Assign_Attribute (thn (he.run pins s σ H _ I h) fun v s1 ⟨y, H1, I1, r1, q1⟩ => thn (ho.run pins s1 σ H1 _ I1 q1) fun u s2 ⟨x, H2, I2, r2, a, C, ex, T, hno, q⟩ => ?_) hs
  subst ex
  obtain rfl : u = Value.ref a := r2
  rcases q with ⟨ea, q⟩ | ⟨dx, fs, ea, ed, hl, q⟩
  · exact err_first T I2 ea hno r1 fun dx s' n ne J => ⟨σ, _, J, q dx n ne⟩
  · exact err_more T I2 ea ed hl hno r1 fun s' J => ⟨σ, _, J, q⟩
/-- C(e, ..), an own error over B whose __init__ keeps sp -/
theorem pmk_err {CX : CXT} {x : Str} {C fI : Addr} {k : Nat} {fd : FuncData} {ps : List Str} {sp : Sp} {ds : List Value} {dvs : List V} (T : ErrC X.K C B newId initId bmB) (iC : PySem.W.findIn X.K (.ref C) "__init__" = some (some (.ref fI)))
    (tI : PySem.W.typeIn X.K (.ref fI) = some (.type "function")) (F1 : FnOk X.prog X.w X.K X.mg X.base CX k fI fd ps sp) (hr : Room (k + 1) X.A) (hb : Binds X.K fd ps ds) (hd : Vals dvs ds) (hx : Passes CX X (fun _ _ _ => False))
    (hg : Gl X x) (hm : X.mg x = some (.ref C)) (ha : PA X (e :: es) ta) (hdb : (x == ("__debug__" : Str)) = false := by decide) (he : starEach (e :: es) X.env = (false, eval e X.env) :: starEach es X.env := by rfl)
    (hpl : (backTo pos (starEach es X.env)).any (·.1) = false := by rfl) : PMk X (.Call (.Name x p) (e :: es) [] pos) (tMkO C sp dvs ta) := by
  intro pins s σ H Q I h
  obtain ⟨nm, q, N, bs, bm, sn, sub, ab, col, dd, k0, k1, k2, k3, k5, hC, hbm⟩ := T.cls
  refine wpAny_Call_Name_kw (ld_glob I hg hm ?_ hdb)
  refine PySem.W.callWith_K (h₀ := X.base) I.ok.mod.kin T.kC (thn (ha.run pos pins s σ H _ I h) fun us s1 ⟨vs, H1, I1, r1, hz, q1⟩ => ⟨I1.kIn, ?_⟩) he hpl
  show wpAny _ _ (call (.ref C) us) _ _ _
  obtain ⟨hp, gs, dr, tk, os⟩ := s1
  obtain ⟨nw, hnw⟩ : ∃ nw, hp.objs.size + 1 = nw := ⟨_, rfl⟩
  have far : hp.objs.size ≤ hp.objs.size + 1 := Nat.le_succ _
  have free : H1 (hp.objs.size + 1) = none := I1.hok.fresh far
  have want := q1 (hp.objs.size + 1) free
  have stay : ∀ b o, hp.get? b = some o → ((hp.push (PySem.W.kdv_tup us)).push (PySem.HandSPX.excO C hp.objs.size)).get? b = some o := fun b o z => Heap.get?_push_of_some _ (Heap.get?_push_of_some _ z)
  have there : ((hp.push (PySem.W.kdv_tup us)).push (PySem.HandSPX.excO C hp.objs.size)).get? (hp.objs.size + 1) = some (PySem.HandSPX.excO C hp.objs.size) := by heap_get
  have I2 : Inv X pins σ (upd H1 (hp.objs.size + 1) (exo (hp.objs.size + 1) C none)) ⟨(hp.push (PySem.W.kdv_tup us)).push (PySem.HandSPX.excO C hp.objs.size), gs, dr, tk, os⟩ :=
    I1.laid (t' := tk) (a := hp.objs.size + 1) (o := exo (hp.objs.size + 1) C none) (h' := (hp.push (PySem.W.kdv_tup us)).push (PySem.HandSPX.excO C hp.objs.size)) stay far (exo_ok there)
  have vals : Vals (V.ref (hp.objs.size + 1) :: (vs ++ dvs)) (Value.ref (hp.objs.size + 1) :: (us ++ ds)) := .cons rfl (r1.append hd)
  have many : (Value.ref (hp.objs.size + 1) :: us ++ ds).length = ps.length := by
    have z := vals.length
    rw [F1.len _ _ _ _ want] at z
    exact z.symm
  have short : us.length ≤ sizeLine := by
    rw [← Paired.length r1, sizeLine_eq]
    omega
  have runs := F1.run _ X.stack _ _ ⟨Value.ref (hp.objs.size + 1) :: us, []⟩ (Value.ref (hp.objs.size + 1) :: (us ++ ds)) _ _ (fun _ _ _ => False) (hr.make C us []) (I2.env0.make C us []) (hb _ (Value.ref (hp.objs.size + 1) :: us) I2.kIn many) vals want
  refine wpAny_call (PySem.HandSPX.call_own T.base (fun Y => PySem.W.excTail_contains Y bm hbm) (I1.kIn _ _ hC) (PySem.W.looks_findIn I1.kIn iC) (fun self => PySem.W.bind_fn I1.kIn self tI) short (codeAny_mono runs fun r s' got => ?_))
  · cases r with
    | error er => exact hx pins σ _ _ er s' I2 got
    | ok fl =>
      cases fl with
      | ret v =>
        obtain ⟨w, H2, os2, bare2, un2, hok2, rv, ev, d, fs, ea, ed, hd1, q2⟩ := got
        subst ev
        obtain ⟨h2, g2, d2, t2, os'⟩ := s'
        exact ⟨rv, mk_end (raises_own T.exC T.tyC) I1 far stay un2 hok2 os2 bare2 ea ed hd1 q2⟩
      | next => exact False.elim got
      | brk => exact False.elim got
      | cont => exact False.elim got
end
end L2

namespace Gs
/-! ### a map told by its gains -/
/-- the value at x: gains said again and again -/
def fn (gs : List Int) (c : Int) (x : Int) : Int := c + (gs.take ((x % gs.length).toNat + 1)).sum + x / gs.length * gs.sum
def gain (gs : List Int) (x : Int) : Int := gs.getD (x % gs.length).toNat 0
theorem fn_step {gs : List Int} {c : Int} (hn : 0 < gs.length) (x : Int) : fn gs c x = fn gs c (x - 1) + gain gs x := by
  have hn' : (0 : Int) < gs.length := by omega
  have d1 := Int.mul_ediv_add_emod x gs.length
  have d2 := Int.emod_nonneg x (show (gs.length : Int) ≠ 0 by omega)
  have d3 := Int.emod_lt_of_pos x hn'
  obtain ⟨i, hi⟩ : ∃ i : Nat, x % gs.length = i := ⟨(x % gs.length).toNat, by omega⟩
  obtain ⟨t, ht⟩ : ∃ t, x / gs.length = t := ⟨_, rfl⟩
  rw [hi, ht] at d1
  rw [hi] at d3
  have hil : i < gs.length := by omega
  have ex : x = t * gs.length + i := by rw [Int.mul_comm]; omega
  unfold fn gain
  rw [hi, ht, Int.toNat_natCast]
  rcases Nat.eq_zero_or_pos i with z | z
  · subst z
    have e := Sx.ix (n := gs.length) (t := t - 1) (i := gs.length - 1) (by omega)
    rw [show (t - 1) * (gs.length : Int) + ((gs.length - 1 : Nat) : Int) = x - 1 by rw [ex, Int.sub_mul]; omega] at e
    rw [e.1, e.2, Int.toNat_natCast, show gs.length - 1 + 1 = gs.length by omega, List.take_length, Int.sub_mul]
    cases gs with
    | nil => cases hn
    | cons a r =>
      show c + (List.take 1 (a :: r)).sum + _ = _ + a
      simp
      omega
  · have e := Sx.ix (n := gs.length) (t := t) (i := i - 1) (by omega)
    rw [show t * (gs.length : Int) + ((i - 1 : Nat) : Int) = x - 1 by omega] at e
    rw [e.1, e.2, Int.toNat_natCast, show i - 1 + 1 = i by omega, Gr.sum_take_succ]
    omega
theorem fn_neg {gs : List Int} {c : Int} (hn : 0 < gs.length) : fn gs c (-1) = c := by
  have e := Sx.ix (n := gs.length) (t := -1) (i := gs.length - 1) (by omega)
  rw [show (-1 : Int) * (gs.length : Int) + ((gs.length - 1 : Nat) : Int) = -1 by omega] at e
  unfold fn
  rw [e.1, e.2, Int.toNat_natCast, show gs.length - 1 + 1 = gs.length by omega, List.take_length]
  omega
theorem gain_at {gs : List Int} {i : Nat} (t : Int) (h : i < gs.length) : gain gs (t * gs.length + i) = gs[i] := by
  unfold gain
  rw [(Sx.ix h).1, Int.toNat_natCast, List.getD_eq_getElem?_getD, List.getElem?_eq_getElem h]
  rfl
theorem gain_mem {gs : List Int} (hn : 0 < gs.length) (x : Int) : gain gs x ∈ gs := by
  have d2 := Int.emod_nonneg x (show (gs.length : Int) ≠ 0 by omega)
  have d3 := Int.emod_lt_of_pos x (show (0 : Int) < gs.length by omega)
  unfold gain
  rw [List.getD_eq_getElem?_getD, List.getElem?_eq_getElem (show (x % gs.length).toNat < gs.length by omega)]
  exact List.getElem_mem _
theorem fn_fit {gs : List Int} {c : Int} (hn : 0 < gs.length) (hp : ∀ x ∈ gs, 0 ≤ x) (hs : 0 < gs.sum) : Sx.Fit (fn gs c) gs.length gs.sum := by
  refine ⟨by omega, hs, fun x => ?_, fun x => ?_⟩
  · have := fn_step (c := c) hn x
    have := hp _ (gain_mem hn x)
    omega
  · unfold fn
    rw [Int.add_emod_right, Int.add_ediv_of_dvd_right (Int.dvd_refl _), Int.ediv_self (by omega), Int.add_mul]
    omega
end Gs
namespace L2
open PySem PySem.Spec PyProof.Rows
section
variable {X : Cx}
/-- repr of an int or None -/
def rReprI : List V → Hp → VK → Prop := fun vs H Q => ∃ v : V, vs = [v] ∧ ((∃ i, v = .int i ∧ i.natAbs.log2 < 1920 ∧ Q (.str (toString i)) H) ∨ (v = .non ∧ Q (.str "None") H))
theorem call_reprI : CallR X (.builtin "repr") rReprI := by
  intro pins s σ H vs us Q I r h
  obtain ⟨v, rfl, ⟨i, rfl, hz, q⟩ | ⟨rfl, q⟩⟩ := h
  · obtain ⟨u, rfl, t, rfl⟩ := vals1 r
    exact PySem.P.repr_of_int hz ⟨.str _, H, I.tok _, ⟨_, rfl⟩, q⟩
  · obtain ⟨u, rfl, ru⟩ := vals1 r
    cases (show u = Value.none from ru)
    exact PySem.P.repr_of_none ⟨.str _, H, I.tok _, ⟨_, rfl⟩, q⟩
end
end L2

namespace L2
/-- the ends of a range -/
theorem le62 {j : Int} (h : -4611686018427387904 ≤ j) : -2 ^ 62 ≤ j := h
theorem lt62 {j : Int} (h : j < 4611686018427387904) : j < 2 ^ 62 := h
end L2
namespace Gs
theorem sum_nonneg {gs : List Int} (h : ∀ x ∈ gs, 0 ≤ x) : 0 ≤ gs.sum := by
  induction gs with
  | nil => exact Int.le_refl 0
  | cons a r ih =>
    rw [List.sum_cons]
    have := h a (List.mem_cons_self ..)
    have := ih fun x hx => h x (List.mem_cons_of_mem _ hx)
    omega
end Gs

/-! a != b where the class has only __eq__ -/
namespace PySem.W
open PySem PySem.Calls PyProof.Rows
section
variable {prog : Program} {w : World} {A : Around} {E : Value → Shared → Prop} {s : Shared} {K : Frag} {x C L f : Addr} {h₀ : Heap} {m : Str → Option Value} {ox : Obj} {od : Option Obj} {b tb : Value}
theorem check_obj {M : Model} {id n : String} {rest : List Value} {Q : Unit → Shared → Prop} (hk : builtinKind id = some .slot) (hs : splitId id = some ("object", n)) (ha : argsOk id ⟨.ref x :: rest, []⟩)
    (X : K.In s.heap) (I : InstAt s.heap x ox C od) (ho : subIn K (.ref C) (.type "object") = some true) (hq : Q () s) : wpAny M A (checkBuiltinCall id ⟨.ref x :: rest, []⟩) Q E s := by
  simp only [checkBuiltinCall, hk, hs]
  refine wpAny_bind ?_
  unfold isInstance
  refine wpAny_bind (I.type.here ((looks_subIn X ho).here ?_))
  simp only [Bool.not_true, Bool.false_eq_true, if_false]
  cases hsig : Manifest.signature? id with
  | none => exact wpAny_pure hq
  | some sig =>
    simp only [argsOk, hsig] at ha
    have h2 : Bind.checkArgs id sig ⟨.ref x :: rest, []⟩ = pure () := ha
    show wpAny M A (Bind.checkArgs id sig ⟨.ref x :: rest, []⟩) Q E _
    rw [h2]
    exact wpAny_pure hq
/-- the slot of object for an instance -/
theorem ifBound_obj {M : Model} {name : Str} {id : String} {args : List Value} {Q : Option Value → Shared → Prop} (X : K.In s.heap) (I : InstAt s.heap x ox C od) (hs : findIn K (.ref C) name = some (some (.builtin id))) (S : Slot "object" name id)
    (h : wpAny M A (call (.builtin id) (.ref x :: args)) (fun v => Q (some v)) E s) : wpAny M A (callSpecialIfBound? (.ref x) name args) Q E s := by
  simp only [callSpecialIfBound?, bindSpecialIfBound?]
  refine wpAny_holding (wpAny_bind (wpAny_bind (wpAny_bind (I.type.here ((looks_findIn X hs).here ?_)))))
  refine wpAny_bind (wpAny_askSetting (wpAny_ite ?_))
  simp only [S.bind]
  have fin : wpAny M A (call (.builtin id) ([.ref x] ++ args) >>= fun v => pure (some v)) Q E s := wpAny_bind (wpAny_mono h (fun v s' h' => wpAny_pure h') fun _ _ h' => h')
  split
  · exact wpAny_bind (wpAny_pure (wpAny_pure fin))
  · exact wpAny_tryCatch (wpAny_bind (wpAny_pure (wpAny_pure fin)))
theorem ne_K {Q : Value → Shared → Prop} (hu : A.units + 1 < cLine) (Fm : Fr h₀ L s.heap m) (X₀ : K.In h₀) (I : InstAt s.heap x ox C od) (hb : Looks (model prog w) s.heap (typeOf b) tb) (hn : notFirst K C tb = true)
    (hne : findIn K (.ref C) "__ne__" = some (some (.builtin "object.__ne__"))) (ho : subIn K (.ref C) (.type "object") = some true) (hs : findIn K (.ref C) "__eq__" = some (some (.ref f))) (hf : isFn K (.ref f) = true)
    (h : wpAny (model prog w) A.in1 (call (.ref f) [.ref x, b]) (fun v s' => ∃ t, v = .bool t ∧ Q (.bool (!t)) s') E s) : wpAny (model prog w) A (richCompare .NotEq (.ref x) b) Q E s := by
  have X := X₀.keeps Fm.keep
  have one : wpAny (model prog w) A (tryCompare (.ref x) (cmpInfo .NotEq).2.1 b) (fun r s' => ∃ v, r = some v ∧ Q v s') E s := by
    unfold tryCompare
    refine wpAny_bind (ifBound_obj X I hne PySem.F.cmp_object.ne (wpAny_call (codeAny_call_builtin PySem.F.cmp_object.ne.plain PySem.F.cmpEntry_ne (check_obj PySem.F.cmpKind_ne PySem.F.cmpSplit_ne (PySem.F.cmpArgs_ne _ _) X I ho ?_))))
    unfold Builtin.«object.__ne__»
    repeat (first
      | with_reducible refine wpAny_cRoomFor hu ?_
      | (refine wpAny_bind (m := callSpecialIfBound? (.ref x) (Str.ofString "__eq__") [b]) (ifBound_K X I hs hf (wpAny_mono h (fun r s' hr => ?_) fun _ _ e => e)))
      | wp_step)
    obtain ⟨t, rfl, hq⟩ := hr
    repeat (first | (refine wpAny_bind (m := truthy (.bool _)) (wpAny_truthy_bool ?_)) | wp_step)
    exact ⟨_, rfl, hq⟩
  unfold richCompare
  simp only [oneThing_ref]
  refine wpAny_holding (wpAny_bind (wpAny_cRoomFor (by omega) ?_))
  refine wpAny_bind (I.type.here (wpAny_bind (hb.here ?_)))
  split
  · rename_i q
    have e : subIn K tb (.ref C) = some false := by
      rcases Bool.or_eq_true_iff.mp hn with e | e
      · rw [beq_iff_eq.mp e] at q; simp at q
      · exact beq_iff_eq.mp e
    refine wpAny_bind ((looks_subIn X e).here ?_)
    simp only [Bool.false_eq_true, if_false]
    refine wpAny_bind (wpAny_mono one (fun r s' z => ?_) fun _ _ e => e)
    obtain ⟨v, rfl, hq⟩ := z
    exact wpAny_pure hq
  · refine wpAny_bind (wpAny_pure ?_)
    simp only [Bool.false_eq_true, if_false]
    refine wpAny_bind (wpAny_mono one (fun r s' z => ?_) fun _ _ e => e)
    obtain ⟨v, rfl, hq⟩ := z
    exact wpAny_pure hq
end
end PySem.W
namespace L2
open PySem PySem.Spec PyProof.Rows
section
variable {X : Cx} {CX : CXT} {k : Nat} {f C : Addr} {fd : FuncData} {ps : List Str} {sp : Sp} {E : XK}
/-- a != b by the __eq__ of the class of both -/
def rOwnNe (C : Addr) (sp : Sp) (E : XK) : R2 := fun x y H Q => ∃ a dx fs b dy gs, x = .ref a ∧ H a = some (.ins C dx fs) ∧ y = .ref b ∧ H b = some (.ins C dy gs) ∧ sp [x, y] H (fun v H' => ∃ t, v = .bl t ∧ Q (.bl (!t)) H') E
theorem op_ownNe (hm : Meth X.K C "__eq__" f) (hne : PySem.W.findIn X.K (.ref C) "__ne__" = some (some (.builtin "object.__ne__"))) (ho : PySem.W.subIn X.K (.ref C) (.type "object") = some true)
    (F : FnOk X.prog X.w X.K X.mg X.base CX k f fd ps sp) (hr : Room (k + 1) X.A) (hb : Binds X.K fd ps []) (hx : Passes CX X E) (hs : PySem.W.notFirst X.K C (.ref C) = true) :
    OpR X (compareOp .NotEq) (rOwnNe C sp E) := by
  intro pins s σ H x y u v Q I rx ry h
  obtain ⟨a, dx, fs, b, dy, gs, ex, ha, ey, hb', h⟩ := h
  subst ex
  subst ey
  cases (show u = Value.ref a from rx)
  cases (show v = Value.ref b from ry)
  obtain ⟨oa, Ia⟩ := inst_of I ha
  obtain ⟨ob, Ib⟩ := inst_of I hb'
  obtain ⟨m, Fr⟩ := I.fr
  show wpAny _ _ (richCompare .NotEq _ _) _ _ _
  refine PySem.W.ne_K (by have := hr.units; omega) Fr I.mod.kin Ia Ib.type hs hne ho hm.1 hm.2 (wpAny_mono (run_fn1 (vs := [V.ref a, V.ref b]) F hr hb hx I (.cons rfl (.cons rfl .nil)) h) (fun r s' q => ?_) fun _ _ e => e)
  obtain ⟨v', H', I', rv, t, ev, q'⟩ := q
  subst ev
  cases (show r = Value.bool t from rv)
  exact ⟨t, rfl, .bl (!t), H', I', rfl, q'⟩
end
end L2

namespace Gs
/-! ### lists of gains -/
theorem sum_set {ws : List Int} {v : Int} : ∀ {i : Nat} (h : i < ws.length), (ws.set i v).sum = ws.sum - ws[i] + v := by
  induction ws with
  | nil => intro i h; cases h
  | cons a r ih =>
    intro i h
    match i, h with
    | 0, h => simp; omega
    | j + 1, h =>
      have := ih (i := j) (by simp at h; omega)
      simp
      omega
theorem le_sum {ws : List Int} (h : ∀ x ∈ ws, 0 ≤ x) : ∀ x ∈ ws, x ≤ ws.sum := by
  induction ws with
  | nil => intro x hx; cases hx
  | cons a r ih =>
    intro x hx
    have h0 := h a (List.mem_cons_self ..)
    have h1 : ∀ x ∈ r, 0 ≤ x := fun x hx => h x (List.mem_cons_of_mem _ hx)
    have h2 := sum_nonneg h1
    rw [List.sum_cons]
    rcases List.mem_cons.mp hx with rfl | hx
    · omega
    · have := ih h1 x hx
      omega
theorem sum_le {ws : List Int} {m : Int} (h : ∀ x ∈ ws, x ≤ m) : ws.sum ≤ m * ws.length := by
  induction ws with
  | nil => simp
  | cons a r ih =>
    have h0 := h a (List.mem_cons_self ..)
    have := ih fun x hx => h x (List.mem_cons_of_mem _ hx)
    rw [List.sum_cons, List.length_cons, Int.natCast_succ, Int.mul_add, Int.mul_one]
    omega
theorem mem_set {ws : List Int} {i : Nat} {v x : Int} (h : x ∈ ws.set i v) : x ∈ ws ∨ x = v := List.mem_or_eq_of_mem_set h
theorem set_parts {ws : List Int} {v : Int} {i : Nat} (h : i < ws.length) : ws.take i ++ [v] ++ ws.drop (i + 1) = ws.set i v := by
  rw [List.set_eq_take_append_cons_drop, if_pos h, List.append_assoc]
  rfl
/-- the values over one round -/
theorem fn_between {gs : List Int} {c : Int} (hn : 0 < gs.length) (hp : ∀ x ∈ gs, 0 ≤ x) (hs : 0 < gs.sum) {x : Int} (h0 : -1 ≤ x) (h1 : x < gs.length) : c ≤ fn gs c x ∧ fn gs c x ≤ c + gs.sum := by
  have F := fn_fit (c := c) hn hp hs
  have a := Sx.mono_of F.m h0
  have b := Sx.mono_of F.m (show x ≤ -1 + gs.length by omega)
  rw [F.t, fn_neg hn] at b
  rw [fn_neg hn] at a
  exact ⟨a, b⟩
theorem fn_above {gs : List Int} {c : Int} (hn : 0 < gs.length) (hp : ∀ x ∈ gs, 0 ≤ x) (hs : 0 < gs.sum) {x : Int} (h0 : -1 ≤ x) : c ≤ fn gs c x := by
  have F := fn_fit (c := c) hn hp hs
  have a := Sx.mono_of F.m h0
  rw [fn_neg hn] at a
  exact a
end Gs
namespace L2
open PySem
theorem cutV_from {α : Type} (f : α → V) (xs : List α) (i : Int) (h0 : 0 ≤ i) : cutV (xs.map f) (some i) none = (xs.drop i.toNat).map f := by
  obtain ⟨n, rfl⟩ : ∃ n : Nat, i = n := ⟨i.toNat, by omega⟩
  unfold cutV
  rw [HT.sIx_nat, HT.sIx_none, List.length_map, Int.toNat_natCast, ← List.map_drop, ← List.map_take]
  congr 1
  rcases Nat.le_total n xs.length with h | h
  · rw [Nat.min_eq_left h]
    exact List.take_of_length_le (by rw [List.length_drop]; omega)
  · rw [Nat.min_eq_right h, Nat.sub_self, List.drop_eq_nil_of_le h]
    rfl
end L2
namespace L2
open PySem
theorem le_size {n : Nat} (h : n ≤ 100000) : n ≤ sizeLine := Nat.le_trans h (by decide)
theorem lt_size {n : Nat} (h : n < 100000) : n < sizeLine := Nat.lt_of_lt_of_le h (by decide)
end L2
namespace L2
open PySem
theorem at_new {H H1 : Hp} {p : Addr} {o : HO} (h : upd H p o = H1) : H1 p = some o := h ▸ upd_same
theorem same_new {H H1 : Hp} {p : Addr} {o : HO} (h : upd H p o = H1) (n : H p = none) : Same H H1 := h ▸ Same.new n
end L2
namespace L2
open PySem PySem.Spec PyProof.Rows
section
variable {X : Cx} {CX : CXT} {k : Nat} {C g : Addr} {sp : Sp} {E : XK} {fe e : Expr} {es : List Expr} {tf : TE} {t : TA} {pos : Pos}
/-- f(e, ..), f an instance of C, within a comprehension -/
def tCallI (C : Addr) (sp : Sp) (E : XK) (tf : TE) (t : TA) : TE := fun σ H Q => tf σ H fun y H1 => ∃ a, y = V.ref a ∧ t σ H1 fun vs H2 => ((∃ dx vs, SlX.Slt H2 a C dx vs) ∨ ∃ dx fs, H2 a = some (.ins C dx fs)) ∧ sp (V.ref a :: vs) H2 Q E
theorem pe_callI (hf : PE X fe tf) (c : StX.CallO X.K C g) (F : FnR X.prog X.w X.K X.mg X.base CX k g sp) (hr : Room k X.A) (hx : Passes CX X E) (ha : PA X (e :: es) t)
    (ht : eval (.Call fe (e :: es) [] pos) X.env = (do callWith pos (← eval fe X.env) [] (backTo pos (starEach (e :: es) X.env)) (backToKw pos (keywordEach [] X.env))) := by rfl)
    (he : starEach (e :: es) X.env = (false, eval e X.env) :: starEach es X.env := by rfl) (hpl : (backTo pos (starEach es X.env)).any (·.1) = false := by rfl) : PE X (.Call fe (e :: es) [] pos) (tCallI C sp E tf t) :=
  StX.pe_callO hf c F hr hx ha ht he hpl
end
end L2
namespace L2
open PySem
theorem eqvl_ints (a b : List Int) : PyData.eqv (.list (a.map PyData.int)) (.list (b.map PyData.int)) = decide (a = b) := eqvAll_ints a b
theorem shapedl_ints (a : List Int) : SeqAt.shaped (.list (a.map PyData.int)) = true := shaped_ints a
/-- two lists of ints that are alike: a != b is False -/
theorem neD_ints {K : PySem.W.Frag} {H : Hp} {a b : Addr} {xs : List Int} {Q : V → Hp → Prop} (h1 : H a = some (.lst (xs.map V.int))) (h2 : H b = some (.lst (xs.map V.int))) (q : Q (.bl false) H) : rNeD K (.ref a) (.ref b) H Q :=
  ⟨_, _, dpl_ints (SqL.of h1), dpl_ints (SqL.of h2), shapedl_ints xs, shapedl_ints xs, by rw [eqvl_ints, decide_eq_true rfl]; exact q⟩
/-- the data of a step map's attributes in a tuple -/
theorem dp_st {K : PySem.W.Frag} {H : Hp} {p t : Addr} {f : Sx.F} (h : H p = some (.tup [.int f.P, .int f.R, .ref t])) (ht : PairsT H t f.ps) : Dp K H (.ref p) (stD f) := by
  obtain ⟨xs, e, hx⟩ := ht
  exact .tup (SqT.of_ h) (.cons (.int _) (.cons (.int _) (.cons (.tup (SqT.of_ e) (dpAll_pairs hx.1 hx.2)) .nil)))
end L2

/-! a == b, a != b where both sides decline -/
namespace PySem.SeqAt
open AutoSeq1 (wpAny_loadPart')
open MeetsSeq
theorem int_eq_declines_ins (b : Int) (u : Tok) (l : Addr) (c : Value) (dd : Option Addr) (sl : Array (Option Value)) :
    Meets (Builtin.«int.__eq__» ⟨[.int b u, .ref l], []⟩) (fun _ R s => s.heap.get? l = some { cls := c, dict := dd, data := .plain, slots := sl } ∧ R (.ok (.ret .notImplemented)) s) :=
  .of_wp fun prog w A R s h => by obtain ⟨hp, g, d, tk, os⟩ := s; obtain ⟨hl, h⟩ := h; wp_walk using wpAny_loadPart' hl, wpAny_load hl; exact ⟨_, rfl, h⟩
theorem int_ne_declines_ins (b : Int) (u : Tok) (l : Addr) (c : Value) (dd : Option Addr) (sl : Array (Option Value)) :
    Meets (Builtin.«int.__ne__» ⟨[.int b u, .ref l], []⟩) (fun _ R s => s.heap.get? l = some { cls := c, dict := dd, data := .plain, slots := sl } ∧ R (.ok (.ret .notImplemented)) s) :=
  .of_wp fun prog w A R s h => by obtain ⟨hp, g, d, tk, os⟩ := s; obtain ⟨hl, h⟩ := h; wp_walk using wpAny_loadPart' hl, wpAny_load hl; exact ⟨_, rfl, h⟩
end PySem.SeqAt
namespace PySem.W
open PySem PySem.Calls PyProof.Rows
section
variable {prog : Program} {w : World} {A : Around} {E : Value → Shared → Prop} {s : Shared} {K : Frag} {x C f : Addr} {ox : Obj} {od : Option Obj} {b tb : Value}
theorem cmp_decl {op : CmpOp} {k : Bool} {P1 P2 : Shared → Prop} {Q : Value → Shared → Prop} (hop : (op = .Eq ∧ k = false) ∨ (op = .NotEq ∧ k = true)) (hu : A.units < cLine) (X : K.In s.heap) (I : InstAt s.heap x ox C od) (hb : Looks (model prog w) s.heap (typeOf b) tb)
    (hn : notFirst K C tb = true) (one : wpAny (model prog w) A (tryCompare (.ref x) (cmpInfo op).2.1 b) (fun r s' => r = none ∧ P1 s') E s)
    (two : ∀ s1, P1 s1 → wpAny (model prog w) A (tryCompare b (cmpInfo op).2.2 (.ref x)) (fun r s' => r = none ∧ P2 s') E s1)
    (same : ∀ s2, P2 s2 → wpAny (model prog w) A (isSame (.ref x) b) (fun r s' => r = false ∧ Q (.bool k) s') E s2) : wpAny (model prog w) A (richCompare op (.ref x) b) Q E s := by
  unfold richCompare
  simp only [oneThing_ref]
  refine wpAny_holding (wpAny_bind (wpAny_cRoomFor hu ?_))
  refine wpAny_bind (I.type.here (wpAny_bind (hb.here ?_)))
  have hn' : (Value.ref C != tb) = true → subIn K tb (.ref C) = some false := fun q => by
    rcases Bool.or_eq_true_iff.mp hn with e | e
    · rw [beq_iff_eq.mp e] at q; simp at q
    · exact beq_iff_eq.mp e
  split
  · rename_i q
    refine wpAny_bind ((looks_subIn X (hn' q)).here ?_)
    simp only [Bool.false_eq_true, if_false, Bool.not_false, if_true]
    refine wpAny_bind (m := tryCompare (.ref x) _ b) (wpAny_mono one (fun r s1 z => ?_) fun _ _ e => e)
    obtain ⟨rfl, p1⟩ := z
    refine wpAny_bind (m := tryCompare b _ (.ref x)) (wpAny_mono (two s1 p1) (fun r s2 z => ?_) fun _ _ e => e)
    obtain ⟨rfl, p2⟩ := z
    rcases hop with ⟨rfl, rfl⟩ | ⟨rfl, rfl⟩
    · refine wpAny_bind (wpAny_rule (wpAny_bind (wpAny_mono (same s2 p2) (fun r s3 z => ?_) fun _ _ e => e)))
      obtain ⟨rfl, q⟩ := z
      exact wpAny_pure q
    · refine wpAny_bind (wpAny_rule (wpAny_bind (wpAny_mono (same s2 p2) (fun r s3 z => ?_) fun _ _ e => e)))
      obtain ⟨rfl, q⟩ := z
      exact wpAny_pure q
  · refine wpAny_bind (wpAny_pure ?_)
    simp only [Bool.false_eq_true, if_false, Bool.not_false, if_true]
    refine wpAny_bind (m := tryCompare (.ref x) _ b) (wpAny_mono one (fun r s1 z => ?_) fun _ _ e => e)
    obtain ⟨rfl, p1⟩ := z
    refine wpAny_bind (m := tryCompare b _ (.ref x)) (wpAny_mono (two s1 p1) (fun r s2 z => ?_) fun _ _ e => e)
    obtain ⟨rfl, p2⟩ := z
    rcases hop with ⟨rfl, rfl⟩ | ⟨rfl, rfl⟩
    · refine wpAny_bind (wpAny_rule (wpAny_bind (wpAny_mono (same s2 p2) (fun r s3 z => ?_) fun _ _ e => e)))
      obtain ⟨rfl, q⟩ := z
      exact wpAny_pure q
    · refine wpAny_bind (wpAny_rule (wpAny_bind (wpAny_mono (same s2 p2) (fun r s3 z => ?_) fun _ _ e => e)))
      obtain ⟨rfl, q⟩ := z
      exact wpAny_pure q
/-- own __eq__ declines -/
theorem try_ni {name : Str} {P : Shared → Prop} (X : K.In s.heap) (I : InstAt s.heap x ox C od) (hs : findIn K (.ref C) name = some (some (.ref f))) (hf : isFn K (.ref f) = true)
    (h : wpAny (model prog w) A (call (.ref f) [.ref x, b]) (fun v s' => v = .notImplemented ∧ P s') E s) : wpAny (model prog w) A (tryCompare (.ref x) name b) (fun r s' => r = none ∧ P s') E s := by
  unfold tryCompare
  refine wpAny_bind (ifBound_K X I hs hf (wpAny_mono h (fun v s' hv => ?_) fun _ _ e => e))
  obtain ⟨rfl, p⟩ := hv
  exact wpAny_pure ⟨rfl, p⟩
/-- object.__ne__ over an own __eq__ that declines -/
theorem try_ne_ni {P : Shared → Prop} (hu : A.units + 1 < cLine) (X : K.In s.heap) (I : InstAt s.heap x ox C od)
    (hne : findIn K (.ref C) "__ne__" = some (some (.builtin "object.__ne__"))) (ho : subIn K (.ref C) (.type "object") = some true) (hs : findIn K (.ref C) "__eq__" = some (some (.ref f))) (hf : isFn K (.ref f) = true)
    (h : wpAny (model prog w) A.in1 (call (.ref f) [.ref x, b]) (fun v s' => v = .notImplemented ∧ P s') E s) : wpAny (model prog w) A (tryCompare (.ref x) "__ne__" b) (fun r s' => r = none ∧ P s') E s := by
  unfold tryCompare
  refine wpAny_bind (ifBound_obj X I hne PySem.F.cmp_object.ne (wpAny_call (codeAny_call_builtin PySem.F.cmp_object.ne.plain PySem.F.cmpEntry_ne (check_obj PySem.F.cmpKind_ne PySem.F.cmpSplit_ne (PySem.F.cmpArgs_ne _ _) X I ho ?_))))
  unfold Builtin.«object.__ne__»
  repeat (first
    | with_reducible refine wpAny_cRoomFor hu ?_
    | (refine wpAny_bind (m := callSpecialIfBound? (.ref x) (Str.ofString "__eq__") [b]) (ifBound_K X I hs hf (wpAny_mono h (fun r s' hr => ?_) fun _ _ e => e)))
    | wp_step)
  obtain ⟨rfl, p⟩ := hr
  repeat (first | wp_step)
  exact ⟨rfl, p⟩
end
end PySem.W
namespace L2
open PySem PySem.Spec PyProof.Rows
section
variable {X : Cx} {k k' : Nat} {f g C D : Addr} {fd fd' : FuncData} {ps ps' : List Str} {pre pre' : List V → Hp → Prop}
/-- a == b (t: False) or a != b (t: True), both decline -/
def rDecl2 (C D : Addr) (pre pre' : List V → Hp → Prop) (t : Bool) : R2 := fun x y H Q => ∃ a dx fs b dy gs, x = .ref a ∧ H a = some (.ins C dx fs) ∧ y = .ref b ∧ H b = some (.ins D dy gs) ∧ a ≠ b ∧ pre [x, y] H ∧ pre' [y, x] H ∧ Q (.bl t) H
theorem same_ins {A : Around} {E : Value → Shared → Prop} {pins : List (Addr × Obj)} {σ : St} {H : Hp} {s : Shared} {a b dx dy : Addr} {fs gs : List (Str × V)} {R : Bool → Shared → Prop} (I : Inv X pins σ H s) (ha : H a = some (.ins C dx fs)) (hb : H b = some (.ins D dy gs)) (hn : a ≠ b) (q : R false s) :
    wpAny (model X.prog X.w) A (isSame (.ref a) (.ref b)) R E s := by
  obtain ⟨oa, Ia⟩ := inst_of I ha
  obtain ⟨ob, Ib⟩ := inst_of I hb
  exact wpAny_isSame_ref_other hn Ia.at_ Ib.at_ (by rw [Ia.cls]; intro e; cases e) q
theorem op_eqDecl2 (hm : Meth X.K C "__eq__" f) (hm' : Meth X.K D "__eq__" g) (F : FnNI X.prog X.w X.K X.mg X.base k f fd ps pre) (hr : Room k X.A) (hb : Binds X.K fd ps []) (G : FnNI X.prog X.w X.K X.mg X.base k' g fd' ps' pre') (hr' : Room k' X.A) (hb' : Binds X.K fd' ps' [])
    (hs : PySem.W.notFirst X.K C (.ref D) = true) : OpR X (compareOp .Eq) (rDecl2 C D pre pre' false) := by
  intro pins s σ H x y u v Q I rx ry h
  obtain ⟨a, dx, fs, b, dy, gs, ex, ha, ey, hbb, hne, h1, h2, q⟩ := h
  subst ex
  subst ey
  cases (show u = Value.ref a from rx)
  cases (show v = Value.ref b from ry)
  obtain ⟨oa, Ia⟩ := inst_of I ha
  obtain ⟨ob, Ib⟩ := inst_of I hbb
  show wpAny _ _ (richCompare .Eq _ _) _ _ _
  refine PySem.W.cmp_decl (P1 := fun s1 => Inv X pins σ H s1) (P2 := fun s1 => Inv X pins σ H s1) (.inl ⟨rfl, rfl⟩) hr.units0 I.kIn Ia Ib.type hs (PySem.W.try_ni I.kIn Ia hm.1 hm.2 (run_ni (vs := [V.ref a, V.ref b]) F hr I.env0 hb I (.cons rfl (.cons rfl .nil)) h1)) (fun s1 I1 => ?_) (fun s2 I2 => ?_)
  · obtain ⟨ob, Ib⟩ := inst_of I1 hbb
    exact PySem.W.try_ni I1.kIn Ib hm'.1 hm'.2 (run_ni (vs := [V.ref b, V.ref a]) G hr' I1.env0 hb' I1 (.cons rfl (.cons rfl .nil)) h2)
  · exact same_ins I2 ha hbb hne ⟨rfl, .bl false, H, I2, rfl, q⟩
theorem op_neDecl2 (hm : Meth X.K C "__eq__" f) (hm' : Meth X.K D "__eq__" g) (n1 : PySem.W.findIn X.K (.ref C) "__ne__" = some (some (.builtin "object.__ne__"))) (o1 : PySem.W.subIn X.K (.ref C) (.type "object") = some true)
    (n2 : PySem.W.findIn X.K (.ref D) "__ne__" = some (some (.builtin "object.__ne__"))) (o2 : PySem.W.subIn X.K (.ref D) (.type "object") = some true)
    (F : FnNI X.prog X.w X.K X.mg X.base k f fd ps pre) (hr : Room (k + 1) X.A) (hb : Binds X.K fd ps []) (G : FnNI X.prog X.w X.K X.mg X.base k' g fd' ps' pre') (hr' : Room (k' + 1) X.A) (hb' : Binds X.K fd' ps' [])
    (hs : PySem.W.notFirst X.K C (.ref D) = true) : OpR X (compareOp .NotEq) (rDecl2 C D pre pre' true) := by
  intro pins s σ H x y u v Q I rx ry h
  obtain ⟨a, dx, fs, b, dy, gs, ex, ha, ey, hbb, hne, h1, h2, q⟩ := h
  subst ex
  subst ey
  cases (show u = Value.ref a from rx)
  cases (show v = Value.ref b from ry)
  obtain ⟨oa, Ia⟩ := inst_of I ha
  obtain ⟨ob, Ib⟩ := inst_of I hbb
  have hu : X.A.units + 1 < cLine := by have := hr.units; omega
  show wpAny _ _ (richCompare .NotEq _ _) _ _ _
  refine PySem.W.cmp_decl (P1 := fun s1 => Inv X pins σ H s1) (P2 := fun s1 => Inv X pins σ H s1) (.inr ⟨rfl, rfl⟩) hr.units0 I.kIn Ia Ib.type hs (PySem.W.try_ne_ni hu I.kIn Ia n1 o1 hm.1 hm.2 (run_ni (vs := [V.ref a, V.ref b]) F (Room.in1 (k := k) hr) I.env0.in1 hb I (.cons rfl (.cons rfl .nil)) h1)) (fun s1 I1 => ?_) (fun s2 I2 => ?_)
  · obtain ⟨ob, Ib⟩ := inst_of I1 hbb
    exact PySem.W.try_ne_ni hu I1.kIn Ib n2 o2 hm'.1 hm'.2 (run_ni (vs := [V.ref b, V.ref a]) G (Room.in1 (k := k') hr') I1.env0.in1 hb' I1 (.cons rfl (.cons rfl .nil)) h2)
  · exact same_ins I2 ha hbb hne ⟨rfl, .bl true, H, I2, rfl, q⟩
/-- a == i, a != i of an int i -/
def rDeclI (C : Addr) (pre : List V → Hp → Prop) (t : Bool) : R2 := fun x y H Q => ∃ a dx fs i, x = .ref a ∧ H a = some (.ins C dx fs) ∧ y = .int i ∧ pre [x, y] H ∧ Q (.bl t) H
theorem sub_int {K : PySem.W.Frag} {C : Addr} : PySem.W.notFirst K C (.type "int") = true := by
  have e : fastBuiltinMro "int" = some [.type "int", .type "object"] := by decide +kernel
  have h : PySem.W.subIn K (.type "int") (.ref C) = some false := by
    show (fastBuiltinMro "int").map (·.contains (.ref C)) = some false
    rw [e]
    first
      | rfl
      | simp
  unfold PySem.W.notFirst
  rw [h]
  simp
theorem op_eqDeclI (hm : Meth X.K C "__eq__" f) (F : FnNI X.prog X.w X.K X.mg X.base k f fd ps pre) (hr : Room k X.A) (hb : Binds X.K fd ps []) : OpR X (compareOp .Eq) (rDeclI C pre false) := by
  intro pins s σ H x y u v Q I rx ry h
  obtain ⟨a, dx, fs, i, ex, ha, ey, h1, q⟩ := h
  subst ex
  subst ey
  cases (show u = Value.ref a from rx)
  obtain ⟨t, rfl⟩ := (show ∃ t, v = Value.int i t from ry)
  obtain ⟨oa, Ia⟩ := inst_of I ha
  show wpAny _ _ (richCompare .Eq _ _) _ _ _
  refine PySem.W.cmp_decl (P1 := fun s1 => Inv X pins σ H s1) (P2 := fun s1 => Inv X pins σ H s1) (tb := .type "int") (.inl ⟨rfl, rfl⟩) hr.units0 I.kIn Ia (PySem.W.Looks.of_pure rfl) sub_int (PySem.W.try_ni I.kIn Ia hm.1 hm.2 (run_ni (vs := [V.ref a, V.int i]) F hr I.env0 hb I (.cons rfl (.cons ⟨t, rfl⟩ .nil)) h1)) (fun s1 I1 => ?_) (fun s2 I2 => ?_)
  · obtain ⟨oa, Ia⟩ := inst_of I1 ha
    exact wpAny_tryCompare_declines (typeIs_int s1 i t) PySem.F.slot_int_eq_refl (PySem.call_meets PySem.F.slot_int_eq_refl (typeIs_int s1 i t) PySem.F.entry_int_eq (PySem.F.args_int_eq_2 _ _) (PySem.SeqAt.int_eq_declines_ins i t a _ _ _) ⟨Ia.at_, rfl, rfl, I1⟩)
  · exact wpAny_of_eq (rfl : isSame (.ref a) (.int i t) = pure false) ⟨rfl, .bl false, H, I2, rfl, q⟩
theorem op_neDeclI (hm : Meth X.K C "__eq__" f) (n1 : PySem.W.findIn X.K (.ref C) "__ne__" = some (some (.builtin "object.__ne__"))) (o1 : PySem.W.subIn X.K (.ref C) (.type "object") = some true)
    (F : FnNI X.prog X.w X.K X.mg X.base k f fd ps pre) (hr : Room (k + 1) X.A) (hb : Binds X.K fd ps []) : OpR X (compareOp .NotEq) (rDeclI C pre true) := by
  intro pins s σ H x y u v Q I rx ry h
  obtain ⟨a, dx, fs, i, ex, ha, ey, h1, q⟩ := h
  subst ex
  subst ey
  cases (show u = Value.ref a from rx)
  obtain ⟨t, rfl⟩ := (show ∃ t, v = Value.int i t from ry)
  obtain ⟨oa, Ia⟩ := inst_of I ha
  have hu : X.A.units + 1 < cLine := by have := hr.units; omega
  show wpAny _ _ (richCompare .NotEq _ _) _ _ _
  refine PySem.W.cmp_decl (P1 := fun s1 => Inv X pins σ H s1) (P2 := fun s1 => Inv X pins σ H s1) (tb := .type "int") (.inr ⟨rfl, rfl⟩) hr.units0 I.kIn Ia (PySem.W.Looks.of_pure rfl) sub_int (PySem.W.try_ne_ni hu I.kIn Ia n1 o1 hm.1 hm.2 (run_ni (vs := [V.ref a, V.int i]) F (Room.in1 (k := k) hr) I.env0.in1 hb I (.cons rfl (.cons ⟨t, rfl⟩ .nil)) h1)) (fun s1 I1 => ?_) (fun s2 I2 => ?_)
  · obtain ⟨oa, Ia⟩ := inst_of I1 ha
    exact wpAny_tryCompare_declines (typeIs_int s1 i t) PySem.F.slot_int_ne_refl (PySem.call_meets PySem.F.slot_int_ne_refl (typeIs_int s1 i t) PySem.F.entry_int_ne (PySem.F.args_int_ne_2 _ _) (PySem.SeqAt.int_ne_declines_ins i t a _ _ _) ⟨Ia.at_, rfl, rfl, I1⟩)
  · exact wpAny_of_eq (rfl : isSame (.ref a) (.int i t) = pure false) ⟨rfl, .bl true, H, I2, rfl, q⟩
end
end L2

namespace Sx
/-! ### rows as lists -/
structure RawP (P R : Int) (ps : List (Int × Int)) : Prop where
  ne : 0 < ps.length
  len : ps.length ≤ 240
  P0 : 0 < P
  R0 : 0 < R
  up : ps.Pairwise fun a b => a.1 < b.1 ∧ a.2 < b.2
  p0 : ∀ q ∈ ps, 0 ≤ q.1 ∧ q.1 < P
  v1 : ∀ a ∈ ps, ∀ b ∈ ps, b.2 < a.2 + R
theorem get_at {f : F} {j : Nat} (h : j < f.ps.length) : f.ps[j] = at_ f j := by
  have := at_get h
  rw [List.getElem?_eq_getElem h] at this
  exact Option.some.inj this
theorem mem_at {f : F} {q : Int × Int} (h : q ∈ f.ps) : ∃ i, i < f.ps.length ∧ q = at_ f i := by
  obtain ⟨i, hi, rfl⟩ := List.mem_iff_getElem.mp h
  exact ⟨i, hi, get_at hi⟩
theorem RawP.raw {f : F} (h : RawP f.P f.R f.ps) {n : Nat} (B : Bd n f) (hn : n ≤ 4000) : Raw f := by
  refine ⟨h.ne, h.len, h.P0, h.R0, fun i hi => h.p0 _ (at_mem hi), fun i hi => h.v1 _ (at_mem h.ne) _ (at_mem hi), fun i hi => ?_, L2.nat_pow_mono B.P hn, L2.nat_pow_mono B.R hn, fun q hq => ⟨L2.nat_pow_mono (B.q q hq).1 hn, L2.nat_pow_mono (B.q q hq).2 hn⟩⟩
  have := List.pairwise_iff_getElem.mp h.up i (i + 1) (by omega) hi (by omega)
  rw [get_at, get_at] at this
  exact this
theorem Raw.rows {f : F} (R : Raw f) {i j : Nat} (h : i < j) (hj : j < f.ps.length) : (at_ f i).1 < (at_ f j).1 ∧ (at_ f i).2 < (at_ f j).2 := by
  have G := R.good
  have a := pl_at 0 (show i < f.ps.length by omega)
  have b := pl_at 0 hj
  have a' := vl_at 0 (show i < f.ps.length by omega)
  have b' := vl_at 0 hj
  have c := mono G.pm (show (0 : Int) * (f.ps.length : Int) + (i : Int) < 0 * (f.ps.length : Int) + (j : Int) by omega)
  have c' := mono G.vm (show (0 : Int) * (f.ps.length : Int) + (i : Int) < 0 * (f.ps.length : Int) + (j : Int) by omega)
  omega
theorem Raw.list {f : F} (R : Raw f) : RawP f.P f.R f.ps := by
  refine ⟨R.ne, R.len, R.P0, R.R0, List.pairwise_iff_getElem.mpr fun i j hi hj hij => by rw [get_at, get_at]; exact R.rows hij hj, fun q hq => ?_, fun a ha b hb => ?_⟩
  · obtain ⟨i, hi, rfl⟩ := mem_at hq
    exact R.p0 i hi
  · obtain ⟨i, hi, rfl⟩ := mem_at ha
    obtain ⟨j, hj, rfl⟩ := mem_at hb
    have := R.v1 j hj
    rcases Nat.eq_zero_or_pos i with z | z
    · subst z; exact this
    · have := (R.rows z hi).2
      omega
/-! ### a row said m times -/
def again (f : F) (m : Nat) : F := ⟨m * f.P, m * f.R, (List.range (m * f.ps.length)).map fun k : Nat => (pl f k, vl f k)⟩
theorem again_len (f : F) (m : Nat) : (again f m).ps.length = m * f.ps.length := by
  show (List.map _ _).length = _
  rw [List.length_map, List.length_range]
theorem again_raw {f : F} (R : Raw f) {m n : Nat} (hm : 0 < m) (hm4 : m ≤ 4) (hl : m * f.ps.length ≤ 240) (B : Bd n f) (hn : n + 3 ≤ 4000) : Raw (again f m) ∧ (∀ x, ev (again f m) x = ev f x) ∧ Bd (n + 3) (again f m) := by
  have G := R.good
  have hP := R.P0
  have hR := R.R0
  have e3 : 2 ^ (n + 3) = 8 * 2 ^ n := by rw [Nat.pow_add, Nat.mul_comm]
  have np := Nat.two_pow_pos n
  have bm : ∀ t : Nat, t ≤ 4 → ∀ {z : Int}, z.natAbs < 2 ^ n → ((t : Int) * z).natAbs ≤ 4 * (2 ^ n - 1) := fun t ht z hz => by
    rw [Int.natAbs_mul, Int.natAbs_natCast]
    exact Nat.mul_le_mul ht (by omega)
  have mul_le : ∀ {a b : Nat} {z : Int}, a ≤ b → 0 < z → (a : Int) * z ≤ (b : Int) * z := fun h hz => Int.mul_le_mul_of_nonneg_right (by omega) (by omega)
  have spl : ∀ k : Nat, k < m * f.ps.length → ∃ (t i : Nat), t < m ∧ i < f.ps.length ∧ pl f k = (at_ f i).1 + t * f.P ∧ vl f k = (at_ f i).2 + t * f.R := fun k hk => by
    have d := Nat.div_add_mod k f.ps.length
    have hi := Nat.mod_lt k R.ne
    have ht : k / f.ps.length < m := (Nat.div_lt_iff_lt_mul R.ne).mpr hk
    have e : (k : Int) = ((k / f.ps.length : Nat) : Int) * (f.ps.length : Int) + ((k % f.ps.length : Nat) : Int) := by
      rw [Nat.mul_comm] at d
      exact_mod_cast d.symm
    refine ⟨k / f.ps.length, k % f.ps.length, ht, hi, ?_, ?_⟩
    · rw [e, pl_at _ hi]
    · rw [e, vl_at _ hi]
  have Ft : Fit (ev f) (m * f.P) (m * f.R) := by
    refine ⟨Int.mul_pos (by omega) hP, Int.mul_pos (by omega) hR, fun x => ev_mono G (by omega), fun x => ?_⟩
    exact ev_shift G x m
  refine raw_of Ft (by rw [List.length_map, List.length_range]; exact hl) (fun q hq => ?_) ?_ (fun x x0 x1 x2 => ?_) (n + 3) hn ⟨?_, ?_, fun q hq => ?_⟩
  · obtain ⟨k, hk, rfl⟩ := List.mem_map.mp hq
    obtain ⟨t, i, ht, hi, e1, e2⟩ := spl k (List.mem_range.mp hk)
    have p := R.p0 i hi
    have l1 := mul_le (z := f.P) (show t + 1 ≤ m by omega) hP
    have l0 : (0 : Int) ≤ (t : Int) * f.P := Int.mul_nonneg (by omega) (by omega)
    rw [Int.natCast_succ, Int.add_mul, Int.one_mul] at l1
    refine ⟨(ev_pl G _).symm, ?_, ?_, (jump_iff G _).mpr ⟨_, rfl⟩⟩
    · show 0 ≤ pl f k
      omega
    · show pl f k < m * f.P
      omega
  · refine List.pairwise_map.mpr (List.Pairwise.imp (fun {a b} z => ?_) List.pairwise_lt_range)
    exact mono G.pm (by omega)
  · obtain ⟨k, rfl⟩ := (jump_iff G x).mp x2
    obtain ⟨t, i, hi, rfl⟩ := split G.ne k
    have p := R.p0 i hi
    rw [pl_at t hi] at x0 x1
    have t0 : 0 ≤ t := by
      rcases Int.lt_or_le t 0 with z | z
      · have := Int.mul_le_mul_of_nonneg_right (show t ≤ -1 by omega) (show 0 ≤ f.P by omega)
        omega
      · exact z
    have t1 : t < m := by
      rcases Int.lt_or_le t m with z | z
      · exact z
      · have := Int.mul_le_mul_of_nonneg_right z (show 0 ≤ f.P by omega)
        omega
    obtain ⟨s, rfl⟩ : ∃ s : Nat, t = s := ⟨t.toNat, by omega⟩
    refine List.mem_map.mpr ⟨s * f.ps.length + i, List.mem_range.mpr ?_, ?_⟩
    · have := Nat.mul_le_mul_right f.ps.length (show s + 1 ≤ m by omega)
      rw [Nat.add_mul] at this
      omega
    · rw [ev_pl G]
      have e : ((s * f.ps.length + i : Nat) : Int) = (s : Int) * (f.ps.length : Int) + (i : Int) := by simp
      show (pl f _, vl f _) = _
      rw [e]
  · have := bm m hm4 B.P
    omega
  · have := bm m hm4 B.R
    omega
  · obtain ⟨k, hk, rfl⟩ := List.mem_map.mp hq
    obtain ⟨t, i, ht, hi, e1, e2⟩ := spl k (List.mem_range.mp hk)
    have b := B.q _ (at_mem hi)
    have c1 := bm t (by omega) B.P
    have c2 := bm t (by omega) B.R
    constructor
    · show (pl f k).natAbs < _
      rw [e1]
      omega
    · show (vl f k).natAbs < _
      rw [e2]
      omega
/-- one more round -/
theorem again_more (f : F) (hn : 0 < f.ps.length) (t : Nat) : (List.range ((t + 1) * f.ps.length)).map (fun k : Nat => (pl f k, vl f k)) = (List.range (t * f.ps.length)).map (fun k : Nat => (pl f k, vl f k)) ++ f.ps.map fun q => (q.1 + t * f.P, q.2 + t * f.R) := by
  rw [Nat.add_mul, Nat.one_mul, List.range_add, List.map_append, List.map_map]
  congr 1
  refine List.ext_getElem (by rw [List.length_map, List.length_range, List.length_map]) fun i h1 h2 => ?_
  rw [List.length_map, List.length_range] at h1
  rw [List.getElem_map, List.getElem_map, List.getElem_range, get_at h1]
  show (pl f ((t * f.ps.length + i : Nat) : Int), vl f ((t * f.ps.length + i : Nat) : Int)) = _
  have e : ((t * f.ps.length + i : Nat) : Int) = (t : Int) * (f.ps.length : Int) + (i : Int) := by simp
  rw [e, pl_at _ h1, vl_at _ h1]
end Sx
namespace L2
open PySem
theorem PairsX.app {H : Hp} {xs ys : List V} {ps qs : List (Int × Int)} (h : PairsX H xs ps) (k : PairsX H ys qs) : PairsX H (xs ++ ys) (ps ++ qs) := by
  refine ⟨by rw [List.length_append, List.length_append, h.1, k.1], fun i q e => ?_⟩
  rcases Nat.lt_or_ge i ps.length with z | z
  · rw [List.getElem?_append_left z] at e
    obtain ⟨r, h1, h2⟩ := h.2 i q e
    exact ⟨r, by rw [List.getElem?_append_left (by rw [h.1]; exact z)]; exact h1, h2⟩
  · rw [List.getElem?_append_right z] at e
    obtain ⟨r, h1, h2⟩ := k.2 _ q e
    exact ⟨r, by rw [List.getElem?_append_right (by rw [h.1]; exact z), h.1]; exact h1, h2⟩
theorem PairsX.take {H : Hp} {xs : List V} {ps : List (Int × Int)} (h : PairsX H xs ps) (n : Nat) : PairsX H (xs.take n) (ps.take n) := by
  refine ⟨by rw [List.length_take, List.length_take, h.1], fun i q e => ?_⟩
  rw [List.getElem?_take] at e
  split at e
  · rename_i z
    obtain ⟨r, h1, h2⟩ := h.2 i q e
    exact ⟨r, by rw [List.getElem?_take, if_pos z]; exact h1, h2⟩
  · cases e
theorem PairsX.drop {H : Hp} {xs : List V} {ps : List (Int × Int)} (h : PairsX H xs ps) (n : Nat) : PairsX H (xs.drop n) (ps.drop n) := by
  refine ⟨by rw [List.length_drop, List.length_drop, h.1], fun i q e => ?_⟩
  rw [List.getElem?_drop] at e
  obtain ⟨r, h1, h2⟩ := h.2 _ q e
  exact ⟨r, by rw [List.getElem?_drop]; exact h1, h2⟩
end L2
namespace L2
open PySem
theorem cutV_last (xs : List V) (h : 0 < xs.length) : cutV xs none (some (-1)) = xs.take (xs.length - 1) := by
  unfold cutV
  show (xs.drop 0).take ((if (-1 : Int) < 0 then (-1 + (xs.length : Int)).toNat else min (-1 : Int).toNat xs.length) - 0) = _
  rw [if_pos (by omega), List.drop_zero, Nat.sub_zero, show (-1 + (xs.length : Int)).toNat = xs.length - 1 by omega]
theorem cutV_to' (xs : List V) (i : Nat) : cutV xs none (some (i : Int)) = xs.take i := by
  have := cutV_to id xs (i : Int) (by omega)
  rw [List.map_id, List.map_id, Int.toNat_natCast] at this
  exact this
theorem cutV_from' (xs : List V) (i : Nat) : cutV xs (some (i : Int)) none = xs.drop i := by
  have := cutV_from id xs (i : Int) (by omega)
  rw [List.map_id, List.map_id, Int.toNat_natCast] at this
  exact this
end L2
namespace Sx
/-! ### rows that are a little other -/
theorem RawP.sub {P R : Int} {ps qs : List (Int × Int)} (h : RawP P R ps) (s : qs.Sublist ps) (hn : 0 < qs.length) : RawP P R qs :=
  ⟨hn, Nat.le_trans s.length_le h.len, h.P0, h.R0, h.up.sublist s, fun q hq => h.p0 q (s.subset hq), fun a ha b hb => h.v1 a (s.subset ha) b (s.subset hb)⟩
theorem RawP.wider {P R : Int} {ps : List (Int × Int)} (h : RawP P R ps) {P' R' : Int} (h1 : P ≤ P') (h2 : R ≤ R') : RawP P' R' ps :=
  ⟨h.ne, h.len, by have := h.P0; omega, by have := h.R0; omega, h.up, fun q hq => by have := h.p0 q hq; omega, fun a ha b hb => by have := h.v1 a ha b hb; omega⟩
theorem RawP.plus {P R : Int} {ps : List (Int × Int)} (h : RawP P R ps) : RawP P R (ps.map fun q => (q.1, q.2 + 1)) := by
  refine ⟨by rw [List.length_map]; exact h.ne, by rw [List.length_map]; exact h.len, h.P0, h.R0, List.pairwise_map.mpr (h.up.imp fun {a b} z => ?_), fun q hq => ?_, fun a ha b hb => ?_⟩
  · show a.1 < b.1 ∧ a.2 + 1 < b.2 + 1
    omega
  · obtain ⟨u, hu, rfl⟩ := List.mem_map.mp hq
    exact h.p0 u hu
  · obtain ⟨u, hu, rfl⟩ := List.mem_map.mp ha
    obtain ⟨v, hv, rfl⟩ := List.mem_map.mp hb
    have := h.v1 u hu v hv
    show v.2 + 1 < u.2 + 1 + R
    omega
/-- the last step another one -/
theorem RawP.last {P R : Int} {ps : List (Int × Int)} (h : RawP P R ps) {u w : Int × Int} (hu : ps[ps.length - 1]? = some u) {R' : Int} (hR : R ≤ R') (h1 : u.1 ≤ w.1) (h2 : u.2 ≤ w.2) (h3 : w.1 < P) (h4 : w.2 + R ≤ u.2 + R') : RawP P R' (ps.take (ps.length - 1) ++ [w]) := by
  have hn := h.ne
  have R0 := h.R0
  have mu : u ∈ ps := List.mem_of_getElem? hu
  have mt : ∀ q ∈ ps.take (ps.length - 1), q ∈ ps ∧ q.1 < u.1 ∧ q.2 < u.2 := fun q hq => by
    refine ⟨List.mem_of_mem_take hq, ?_⟩
    obtain ⟨i, hi, rfl⟩ := List.mem_iff_getElem.mp hq
    rw [List.length_take] at hi
    rw [List.getElem_take]
    have := List.pairwise_iff_getElem.mp h.up i (ps.length - 1) (by omega) (by omega) (by omega)
    rw [List.getElem?_eq_getElem (by omega)] at hu
    rw [← Option.some.inj hu]
    exact this
  refine ⟨by rw [List.length_append]; show 0 < _ + 1; omega, ?_, h.P0, by omega, ?_, fun q hq => ?_, fun a ha b hb => ?_⟩
  · have := h.len
    rw [List.length_append, List.length_take]
    show _ + 1 ≤ 240
    omega
  · refine List.pairwise_append.mpr ⟨h.up.sublist (List.take_sublist _ _), List.pairwise_singleton _ _, fun a ha b hb => ?_⟩
    obtain rfl := List.mem_singleton.mp hb
    have := mt a ha
    omega
  · rcases List.mem_append.mp hq with z | z
    · exact h.p0 q (mt q z).1
    · obtain rfl := List.mem_singleton.mp z
      have := h.p0 u mu
      omega
  · have uu := h.v1 u mu u mu
    rcases List.mem_append.mp ha with za | za <;> rcases List.mem_append.mp hb with zb | zb
    · have := h.v1 a (mt a za).1 b (mt b zb).1
      omega
    · obtain rfl := List.mem_singleton.mp zb
      have := h.v1 a (mt a za).1 u mu
      omega
    · obtain rfl := List.mem_singleton.mp za
      have := h.v1 u mu b (mt b zb).1
      omega
    · obtain rfl := List.mem_singleton.mp za
      obtain rfl := List.mem_singleton.mp zb
      omega
theorem Bd.near {n : Nat} {f g : F} (B : Bd n f) (hn : 2 ≤ n) (hP : (g.P - f.P).natAbs ≤ 2) (hR : (g.R - f.R).natAbs ≤ 2) (hq : ∀ q ∈ g.ps, ∃ u ∈ f.ps, (q.1 - u.1).natAbs ≤ 2 ∧ (q.2 - u.2).natAbs ≤ 2) : Bd (n + 1) g := by
  have e : 2 ^ (n + 1) = 2 * 2 ^ n := by rw [Nat.pow_succ, Nat.mul_comm]
  have e2 : 4 ≤ 2 ^ n := Nat.pow_le_pow_right (n := 2) (by decide) hn
  have a := B.P
  have b := B.R
  refine ⟨by omega, by omega, fun q hqm => ?_⟩
  obtain ⟨u, hu, h1, h2⟩ := hq q hqm
  have := B.q u hu
  omega
end Sx

namespace Sx
/-- f of a period P1 and a rise R1 = d a, and rising only where b does, followed by what has a period P2 = d c -/
theorem cmpA {f g b : F} (of : Ok f) (og : Ok g) (Gb : Good b) {R1 P2 R2 d a c : Int} (hf : ∀ x, ev f (x + b.P) = ev f x + R1) (hg : ∀ x, ev g (x + P2) = ev g x + R2) (hj : ∀ x, ev f (x - 1) < ev f x → ev b (x - 1) < ev b x)
    (hd : 0 < d) (hc : 0 < c) (h1 : R1 = d * a) (h2 : P2 = d * c) : (f.ps.length : Int) * (g.P / (Int.gcd f.R g.P : Nat)) ≤ b.ps.length * c := by
  obtain ⟨m1, m10, p1, q1⟩ := period_mult of Gb.P0 hf
  obtain ⟨m2, m20, p2, q2⟩ := period_mult og (by rw [h2]; exact Int.mul_pos hd hc) hg
  have l1 := len_sub of.g Gb p1 hj
  have fR := of.g.R0
  have gP := og.g.P0
  have key : f.R * (m1 * c) = g.P * (m2 * a) := by
    have x1 : (m1 : Int) * f.R * c = d * a * c := by rw [← q1, h1]
    have x2 : (m2 : Int) * g.P * a = d * c * a := by rw [← p2, h2]
    rw [← Int.mul_assoc, Int.mul_comm f.R, x1, ← Int.mul_assoc, Int.mul_comm g.P, x2, Int.mul_assoc, Int.mul_comm a c, Int.mul_assoc]
  have b1 := div_gcd_le fR gP (Int.mul_pos (show (0 : Int) < m1 by omega) hc) key
  have := Int.mul_le_mul_of_nonneg_left b1 (show (0 : Int) ≤ f.ps.length by omega)
  rw [← Int.mul_assoc, Int.mul_comm (f.ps.length : Int) m1, ← Int.natCast_mul] at this
  have x := Int.mul_le_mul_of_nonneg_right (show ((m1 * f.ps.length : Nat) : Int) ≤ (b.ps.length : Int) by omega) (Int.le_of_lt hc)
  omega
/-- the same where the steps are those of a map with a part of the period -/
theorem cmpB {f g b : F} (of : Ok f) (og : Ok g) (Gb : Good b) {k : Nat} {R1 P2 R2 d a c : Int} (hk : 0 < k) (hf : ∀ x, ev f (x + k * b.P) = ev f x + R1) (hg : ∀ x, ev g (x + P2) = ev g x + R2) (hj : ∀ x, ev f (x - 1) < ev f x → ev b (x - 1) < ev b x)
    (hd : 0 < d) (hc : 0 < c) (h1 : R1 = d * a) (h2 : P2 = d * c) : (f.ps.length : Int) * (g.P / (Int.gcd f.R g.P : Nat)) ≤ k * b.ps.length * c := by
  have kP : 0 < (k : Int) * b.P := Int.mul_pos (by omega) Gb.P0
  obtain ⟨m1, m10, p1, q1⟩ := period_mult of kP hf
  obtain ⟨m2, m20, p2, q2⟩ := period_mult og (by rw [h2]; exact Int.mul_pos hd hc) hg
  have l1 : m1 * f.ps.length ≤ k * b.ps.length := len_le (P := k * b.P) of.g.pm Gb.pm (fun i => (jump_iff Gb _).mp (hj _ ((jump_iff of.g _).mpr ⟨i, rfl⟩))) (fun i => by rw [iter_pl of.g, p1]) (fun i => iter_pl Gb k i)
  have fR := of.g.R0
  have gP := og.g.P0
  have key : f.R * (m1 * c) = g.P * (m2 * a) := by
    have x1 : (m1 : Int) * f.R * c = d * a * c := by rw [← q1, h1]
    have x2 : (m2 : Int) * g.P * a = d * c * a := by rw [← p2, h2]
    rw [← Int.mul_assoc, Int.mul_comm f.R, x1, ← Int.mul_assoc, Int.mul_comm g.P, x2, Int.mul_assoc, Int.mul_comm a c, Int.mul_assoc]
  have b1 := div_gcd_le fR gP (Int.mul_pos (show (0 : Int) < m1 by omega) hc) key
  have := Int.mul_le_mul_of_nonneg_left b1 (show (0 : Int) ≤ f.ps.length by omega)
  rw [← Int.mul_assoc, Int.mul_comm (f.ps.length : Int) m1, ← Int.natCast_mul] at this
  have x := Int.mul_le_mul_of_nonneg_right (show ((m1 * f.ps.length : Nat) : Int) ≤ ((k * b.ps.length : Nat) : Int) by omega) (Int.le_of_lt hc)
  rw [Int.natCast_mul k] at x
  omega
/-- a row that goes on by (w, g) a size further is no least form -/
theorem not_least {f : F} (hn0 : 0 < f.ps.length) (l : Least f) {sz parts : Nat} {w g : Int} (hs : 0 < sz) (hlt : sz < f.ps.length) (hn : f.ps.length = sz * parts) (hw : w * parts = f.P) (hg : g * parts = f.R) : ¬ ((f.ps.take (f.ps.length - sz)).map (fun q => (q.1 + w, q.2 + g)) = f.ps.drop sz) := by
  intro e
  have hp : 0 < parts := by
    rcases Nat.eq_zero_or_pos parts with z | z
    · rw [z] at hn; omega
    · exact z
  have ha : ∀ k, k + sz < f.ps.length → at_ f (k + sz) = ((at_ f k).1 + w, (at_ f k).2 + g) := fun k hk => by
    have e1 := congrArg (fun l => l[k]?) e
    simp only [List.getElem?_map, List.getElem?_drop, List.getElem?_take] at e1
    rw [if_pos (by omega), at_get (by omega), Nat.add_comm sz k, at_get hk] at e1
    exact (Option.some.inj e1).symm
  have r := rep_part hs hp (by rw [hn, Nat.mul_comm]) (by rw [← hw, Int.mul_comm]) (by rw [← hg, Int.mul_comm]) ha
  have hl : (f.ps.take sz).length = sz := by rw [List.length_take]; omega
  have := l sz hs (r.per (by have := Per.self (f := ⟨w, g, f.ps.take sz⟩) (by show 0 < (f.ps.take sz).length; omega); rw [hl] at this; exact this))
  omega
end Sx
namespace L2
open PySem
theorem eqvl_pairs (a b : List (Int × Int)) : PyData.eqv (.list (a.map fun q => .tuple ([q.1, q.2].map PyData.int))) (.list (b.map fun q => .tuple ([q.1, q.2].map PyData.int))) = decide (a = b) := eqvAll_pairs a b
/-- two lists of pairs compared -/
theorem eqD_pairs {K : PySem.W.Frag} {H : Hp} {a b : Addr} {ps qs : List (Int × Int)} {Q : V → Hp → Prop} (h1 : PairsL H a ps) (h2 : PairsL H b qs) (q : Q (.bl (decide (ps = qs))) H) : rEqD K (.ref a) (.ref b) H Q := by
  obtain ⟨xs, e1, x1⟩ := h1
  obtain ⟨ys, e2, x2⟩ := h2
  refine ⟨_, _, .lst (SqL.of e1) (dpAll_pairs x1.1 x1.2), .lst (SqL.of e2) (dpAll_pairs x2.1 x2.2), shaped_pairs _, shaped_pairs _, ?_⟩
  rw [eqvl_pairs]
  exact q
end L2
namespace L2
open PySem
/-! ### comprehensions over lists of ints -/
theorem int_item {zs : List Int} {i : Nat} {y : V} (h : (zs.map V.int)[i]? = some y) : ∃ (z : Int) (_ : zs[i]? = some z), y = V.int z := by
  rw [List.getElem?_map] at h
  obtain ⟨z, hz, e⟩ := Option.map_eq_some_iff.mp h
  exact ⟨z, hz, e.symm⟩
theorem lc_sz {zs : List Int} {φ : Int → Int} {i : Nat} (h : zs.length < 100000) : (((zs.take i).map φ).map V.int).length < sizeLine := by
  refine lt_size ?_
  rw [List.length_map, List.length_map, List.length_take]
  omega
theorem lc_put {H : Hp} {D : Addr} {zs : List Int} {φ : Int → Int} {i : Nat} {z : Int} (h : zs[i]? = some z) : upd H D (.lst (((zs.take i).map φ).map V.int ++ [V.int (φ z)])) D = some (.lst (((zs.take (i + 1)).map φ).map V.int)) := by
  rw [upd_same, List.take_succ, h]
  simp
theorem lc_end {H : Hp} {D : Addr} {zs : List Int} {φ : Int → Int} (h : H D = some (.lst (((zs.take (zs.map V.int).length).map φ).map V.int))) : H D = some (.lst ((zs.map φ).map V.int)) := by
  rw [List.length_map, List.take_length] at h
  exact h
theorem mut_but {l b : Addr} {H H' H2 : Hp} {o : HO} (e : upd H' b o = H2) (c : But l H H') (h : H b = none) : But l H H2 := e ▸ c.put h
theorem mut_bag {l b : Addr} {H' H2 : Hp} {o : HO} (e : upd H' b o = H2) (B : BagAt H' l) (h : b ≠ l) : BagAt H2 l := e ▸ B.off h
theorem put_int {H H1 : Hp} {D : Addr} {zs : List Int} {z : Int} (h : upd H D (.lst (zs.map V.int ++ [V.int z])) = H1) : H1 D = some (.lst ((zs ++ [z]).map V.int)) := by
  rw [← h, upd_same, List.map_append]
  rfl
theorem cat_int {H H1 : Hp} {D : Addr} {zs ys : List Int} (h : upd H D (.lst (zs.map V.int ++ ys.map V.int)) = H1) : H1 D = some (.lst ((zs ++ ys).map V.int)) := by
  rw [← h, upd_same, List.map_append]
theorem lg19 {i : Int} {n : Nat} (h : i.natAbs < 2 ^ n) (hn : n ≤ 1900 := by decide) : i.natAbs.log2 < 1920 := by
  have h2 : i.natAbs < 2 ^ 1900 := nat_pow_mono h hn
  by_cases h0 : i.natAbs = 0
  · rw [h0]; decide
  · exact Nat.lt_trans ((Nat.log2_lt h0).mpr h2) (by decide)
theorem lg90 {i : Int} {n : Nat} (h : i.natAbs < 2 ^ n) (hn : n ≤ 8999 := by decide) : i.natAbs.log2 < 9000 := by
  have h2 : i.natAbs < 2 ^ 8999 := nat_pow_mono h hn
  by_cases h0 : i.natAbs = 0
  · rw [h0]; decide
  · exact Nat.lt_trans ((Nat.log2_lt h0).mpr h2) (by decide)
end L2

/-! ### own errors: what the written part says of them, looked up -/
namespace L2
open PySem PySem.Spec PyProof.Rows
def errClsB (K : PySem.W.Frag) (C : Addr) (bmB : List Value) (newId : String) : Bool := match K.lookup C with
  | some ⟨.type "type", _, .cls cd, sl⟩ => (match cd.mro, sl.toList with
    | .ref C' :: bm, [_, _, _, _, some (.builtin n), _] => C' == C && n == newId && !cd.hasDel && cd.hasDict && PySem.W.excTail bmB bm
    | _, _ => false)
  | _ => false
theorem errCls_ok {K : PySem.W.Frag} {C : Addr} {bmB : List Value} {newId : String} (q : errClsB K C bmB newId = true) :
    ∃ nm qn N bs bm sn sub ab col dd k0 k1 k2 k3 k5, K.lookup C = some (excClassObj nm qn C N bs bm true sn sub ab col dd k0 k1 k2 k3 k5 newId) ∧ PySem.W.excTail bmB bm = true := by
  unfold errClsB at q
  split at q
  · rename_i dd cd sl ho
    split at q
    · rename_i C' bm k0 k1 k2 k3 n k5 hm hs
      simp only [Bool.and_eq_true, beq_iff_eq, Bool.not_eq_true'] at q
      obtain ⟨⟨⟨⟨rfl, rfl⟩, hdel⟩, hdic⟩, ht⟩ := q
      obtain ⟨nm, bs, mro, ns, qn, hd, sn, sub, ab, col, del⟩ := cd
      dsimp only at hm hdel hdic
      subst hm hdel hdic
      have hsl : sl = #[k0, k1, k2, k3, some (.builtin n), k5] := by
        obtain ⟨l⟩ := sl
        simp only at hs
        rw [hs]
      subst hsl
      exact ⟨nm, qn, ns, bs, bm, sn, sub, ab, col, dd, k0, k1, k2, k3, k5, ho, ht⟩
    · cases q
  · cases q
def errB (K : PySem.W.Frag) (C : Addr) (bmB : List Value) (newId : String) : Bool :=
  errClsB K C bmB newId && (decide (PySem.W.findIn K (.ref C) "__setattr__" = some (some (.builtin "object.__setattr__"))) && (decide (PySem.W.subIn K (.ref C) (.type "BaseException") = some true) && (decide (PySem.W.typeIn K (.ref C) = some (.type "type")) && PySem.W.keepIn K (.ref C))))
theorem err_ok {K : PySem.W.Frag} {C : Addr} {B newId initId : String} {bmB : List Value} (b : ExcBaseFacts B newId initId bmB) (st : StoreFacts B bmB "object.__setattr__" "object") (ty : typeOf (.type B) = pure (.type "type")) (h : errB K C bmB newId = true) : ErrC K C B newId initId bmB := by
  obtain ⟨h1, h⟩ := Bool.and_eq_true_iff.mp h
  obtain ⟨h2, h⟩ := Bool.and_eq_true_iff.mp h
  obtain ⟨h3, h⟩ := Bool.and_eq_true_iff.mp h
  obtain ⟨h4, h5⟩ := Bool.and_eq_true_iff.mp h
  exact ⟨b, st, ty, errCls_ok h1, of_decide_eq_true h2, of_decide_eq_true h3, of_decide_eq_true h4, h5⟩
abbrev bmOverflow : List Value := [.type "OverflowError", .type "ArithmeticError", .type "Exception", .type "BaseException", .type "object"]
abbrev bmArithmetic : List Value := [.type "ArithmeticError", .type "Exception", .type "BaseException", .type "object"]
abbrev bmValue : List Value := [.type "ValueError", .type "Exception", .type "BaseException", .type "object"]
abbrev bmLookup : List Value := [.type "LookupError", .type "Exception", .type "BaseException", .type "object"]
abbrev bmRuntime : List Value := [.type "RuntimeError", .type "Exception", .type "BaseException", .type "object"]
theorem arg_sa (a b c : Value) : argsOk "object.__setattr__" ⟨[a, b, c], []⟩ := by
  unfold argsOk
  kernel_rfl
theorem st_of {B : String} {bm : List Value} (hm : mroOf (.type B) = pure bm) (hl : typeLookup (.type B) "__setattr__" = pure (some (.builtin "object.__setattr__"))) (hs : isSubtype (.type B) (.type "object") = pure true) (ho : bm.contains (.type "object") = true) (hp : ∀ self : Value, refuseLoop self "__setattr__" bm = pure ()) :
    StoreFacts B bm "object.__setattr__" "object" :=
  ⟨hm, PySem.Slot.of (owner := "object") (n := "__setattr__") hl (by decide +kernel) (by decide +kernel) (by decide +kernel) (by first | exact .inl (by decide +kernel) | exact .inr (by decide +kernel)) hs, PySem.F.entry_object_sa, by decide +kernel, by decide +kernel, ho, arg_sa, hp⟩
theorem st_Value : StoreFacts "ValueError" bmValue "object.__setattr__" "object" := PySem.F.store_ValueError
theorem st_Overflow : StoreFacts "OverflowError" bmOverflow "object.__setattr__" "object" := st_of (by kernel_rfl) (by rw [PySem.typeLookup_type, PySem.builtinLookup_eq_fast]; kernel_rfl) (by rw [PySem.isSubtype_type]; kernel_rfl) (by decide +kernel) (fun self => by kernel_rfl)
theorem st_Arithmetic : StoreFacts "ArithmeticError" bmArithmetic "object.__setattr__" "object" := st_of (by kernel_rfl) (by rw [PySem.typeLookup_type, PySem.builtinLookup_eq_fast]; kernel_rfl) (by rw [PySem.isSubtype_type]; kernel_rfl) (by decide +kernel) (fun self => by kernel_rfl)
theorem st_Lookup : StoreFacts "LookupError" bmLookup "object.__setattr__" "object" := st_of (by kernel_rfl) (by rw [PySem.typeLookup_type, PySem.builtinLookup_eq_fast]; kernel_rfl) (by rw [PySem.isSubtype_type]; kernel_rfl) (by decide +kernel) (fun self => by kernel_rfl)
theorem st_Runtime : StoreFacts "RuntimeError" bmRuntime "object.__setattr__" "object" := st_of (by kernel_rfl) (by rw [PySem.typeLookup_type, PySem.builtinLookup_eq_fast]; kernel_rfl) (by rw [PySem.isSubtype_type]; kernel_rfl) (by decide +kernel) (fun self => by kernel_rfl)
theorem ty_Overflow : typeOf (.type "OverflowError") = pure (.type "type") := by kernel_rfl
theorem ty_Arithmetic : typeOf (.type "ArithmeticError") = pure (.type "type") := by kernel_rfl
theorem ty_Value : typeOf (.type "ValueError") = pure (.type "type") := by kernel_rfl
theorem ty_Lookup : typeOf (.type "LookupError") = pure (.type "type") := by kernel_rfl
theorem ty_Runtime : typeOf (.type "RuntimeError") = pure (.type "type") := by kernel_rfl
/-- the __init__ that an error of a builtin class has -/
def viB (K : PySem.W.Frag) (B initId : String) : Bool := match PySem.W.findCls K (.type B) (.type "type") "__init__" with
  | some (.val (.builtin i)) => i == initId
  | _ => false
theorem vi_ok {K : PySem.W.Frag} {B initId : String} (h : viB K B initId = true) : PySem.W.findCls K (.type B) (.type "type") "__init__" = some (.val (.builtin initId)) := by
  unfold viB at h
  split at h
  · rename_i i e
    rw [e, beq_iff_eq.mp h]
  · cases h
/-- the promise of an own error's __init__ with one field -/
def spErr (K : PySem.W.Frag) (C : Addr) (f : Str) : Sp := fun vs H Q _ => ∃ (a : Addr) (v : V), vs = [.ref a, v] ∧ H a = some (exo a C none) ∧ ∀ dx, H dx = none → dx ≠ a → Q .non (upd (upd H dx (exd dx [(f, v)])) a (exo a C (some dx)))
/-- what is left behind a raise C(v): the heap with the fields of the error at d -/
def Raised (H : Hp) (d : Addr) (f : Str) (v : V) (H' : Hp) : Prop := H d = none ∧ H' d = some (.xd [(f, v)]) ∧ Same H H'
/-- raise C(v) -/
theorem err_raise {K : PySem.W.Frag} {C : Addr} {f : Str} {v : V} {H : Hp} {Q : XK} (q : ∀ d H', Raised H d f v H' → Q (.ref C) (some d) H') :
    ∀ a, H a = none → spErr K C f (.ref a :: ([v] ++ [])) (upd H a (exo a C none)) (fun w H2 => w = .non ∧ ∃ (d : Addr) (fs : List (Str × V)), H2 a = some (exo a C (some d)) ∧ H2 d = some (exd d fs) ∧ H d = none ∧ Q (.ref C) (some d) (upd (del H2 a) d (.xd fs))) (fun _ _ _ => False) := by
  intro a na
  refine ⟨a, v, rfl, upd_same, fun dx nd ne => ⟨rfl, dx, [(f, v)], upd_same, ?_, ?_, ?_⟩⟩
  · rw [upd_ne ne, upd_same]
  · rw [upd_ne ne] at nd
    exact nd
  · have nd' : H dx = none := by
      rw [upd_ne ne] at nd
      exact nd
    refine q dx _ ⟨nd', upd_same, fun b o hb => ?_⟩
    have hbd : b ≠ dx := fun z => by rw [z, nd'] at hb; cases hb
    have hba : b ≠ a := fun z => by rw [z, na] at hb; cases hb
    rw [upd_ne hbd, del_ne hba, upd_ne hba, upd_ne hbd, upd_ne hba]
    exact hb
/-! ### isinstance of a caught own error, which has fields -/
def excCB (K : PySem.W.Frag) (D : Addr) : Bool := decide (PySem.W.findIn K (.ref D) "__getattribute__" = some (some (.builtin "BaseException.__getattribute__"))) && (decide (PySem.W.findIn K (.ref D) "__getattr__" = some none) && (decide (PySem.W.subIn K (.ref D) (.type "BaseException") = some true) && (PySem.W.hasDictIn K D &&
  (decide (PySem.W.findIn K (.ref D) "__class__" = some (some (.builtin "object.__class__"))) && (decide (PySem.W.specialIn K (.builtin "object.__class__") "__get__" = some (some (.builtin "getset_descriptor.__get__"))) && (decide (PySem.W.takesIn K (.builtin "object.__class__") = some true) && decide (PySem.W.mroIn K D (.type "object") = some true)))))))
theorem excC_ok {K : PySem.W.Frag} {D : Addr} (h : excCB K D = true) : ExcC K D := by
  unfold excCB at h
  simp only [Bool.and_eq_true] at h
  obtain ⟨h1, h2, h3, h4, h5, h6, h7, h8⟩ := h
  exact ⟨of_decide_eq_true h1, of_decide_eq_true h2, of_decide_eq_true h3, h4, of_decide_eq_true h5, of_decide_eq_true h6, of_decide_eq_true h7, of_decide_eq_true h8⟩
def rIsX (K : PySem.W.Frag) (D a : Addr) (cls : Value) (d : Option Addr) : List V → Hp → VK → Prop := fun xs H Q => ∃ (c : V) (cv : Value) (b : Bool), xs = [.ref a, c] ∧ cls = .ref D ∧ (∃ dd fs, d = some dd ∧ H dd = some (.xd fs)) ∧ (∀ u, RelV c u → u = cv) ∧ PySem.W.kitOne K (.ref D) cv = some b ∧ Q (.bl b) H
theorem hasDict_cls {K : PySem.W.Frag} {D : Addr} (h : PySem.W.hasDictIn K D = true) : (PySem.W.clsIn K D).isSome = true := by
  obtain ⟨cd, hc, _⟩ := PySem.W.any_some h
  rw [hc]
  rfl
theorem call_isX {X : Cx} {a D : Addr} {oe : Obj} {cls : Value} {d : Option Addr} {pn : List (Addr × Obj)} (C : ExcC X.K D) (hz : Zc cls d oe) (hf : ∃ vs, oe.data = .fields vs) : CallR (X.suite a ((a, oe) :: pn)) (.builtin "isinstance") (rIsX X.K D a cls d) := by
  intro pins s σ H xs us Q I r h
  obtain ⟨c, cv, b, rfl, rfl, ⟨dd, fs, rfl, hdd⟩, hcv, e, q⟩ := h
  cases r with
  | cons rx rr =>
    cases rr with
    | cons rt rr =>
      cases rr
      cases rx
      have ec := hcv _ rt
      subst ec
      obtain ⟨hget, _⟩ := I.pin (a, oe) (List.mem_append.mpr (.inl List.mem_cons_self))
      obtain ⟨vs, hv⟩ := hf
      have hx : ObjOk X.prog X.w H s.heap dd (.xd fs) := I.hok dd _ hdd
      obtain ⟨mA, hns, hr⟩ := hx
      obtain ⟨od, ho, hl⟩ := lookIn_ns hns
      have J : PySem.W.InstAt s.heap a oe D (some od) := ⟨hget, hz.1, by unfold PySem.W.notCls; rw [hv] <;> rfl, by rw [hz.2]; exact ho⟩
      exact PySem.W.kia_one (PySem.W.kitx_exc (hasDict_cls C.hd) C.hg C.hk C.hs C.ha C.hn C.ht C.hm) I.kIn J e (fun z => nomatch z) fun tk => ⟨.bl b, H, I.kept (t' := tk) fun _ _ z => z, rfl, q⟩
/-- what an own error's __init__ does: the builtin one, then its field -/
theorem spErr_len {K : PySem.W.Frag} {C : Addr} {f : Str} {vs : List V} {H : Hp} {Q : VK} {E : XK} (h : spErr K C f vs H Q E) : vs.length = 2 := by
  obtain ⟨a, v, rfl, _⟩ := h
  rfl
end L2

namespace Sx
/-! ### the laws' own search for the least form -/
theorem rep_row {f r : F} (R : Raw r) (o : Ok f) (h : ∀ x, ev f x = ev r x) : Rep f r := ext_rep o.g R.good o.n R.norm fun x y hy => by
  have e := ev_val o.g hy
  have v := val_ev R.good x
  rw [← h, e] at v
  exact v
theorem part_ge {f r : F} (R : Raw r) (o : Ok f) (h : ∀ x, ev f x = ev r x) {sz parts : Nat} {w g : Int} (hs : 0 < sz) (hlt : sz < r.ps.length) (hn : r.ps.length = sz * parts) (hw : w * parts = r.P) (hg : g * parts = r.R)
    (e : (r.ps.take (r.ps.length - sz)).map (fun q => (q.1 + w, q.2 + g)) = r.ps.drop sz) : f.ps.length ≤ sz := by
  have hp : 0 < parts := by
    rcases Nat.eq_zero_or_pos parts with z | z
    · rw [z] at hn; omega
    · exact z
  have ha : ∀ k, k + sz < r.ps.length → at_ r (k + sz) = ((at_ r k).1 + w, (at_ r k).2 + g) := fun k hk => by
    have e1 := congrArg (fun l => l[k]?) e
    simp only [List.getElem?_map, List.getElem?_drop, List.getElem?_take] at e1
    rw [if_pos (by omega), at_get (by omega), Nat.add_comm sz k, at_get hk] at e1
    exact (Option.some.inj e1).symm
  have rr := rep_part hs hp (by rw [hn, Nat.mul_comm]) (by rw [← hw, Int.mul_comm]) (by rw [← hg, Int.mul_comm]) ha
  have hl : (r.ps.take sz).length = sz := by rw [List.length_take]; omega
  have pr : Per r sz := rr.per (by have := Per.self (f := ⟨w, g, r.ps.take sz⟩) (by show 0 < (r.ps.take sz).length; omega); rw [hl] at this; exact this)
  exact o.l sz hs ((rep_row R o h).symm.per pr)
theorem part_at {f r : F} (R : Raw r) (o : Ok f) (h : ∀ x, ev f x = ev r x) : ∃ m : Nat, 0 < m ∧ r.ps.length = f.ps.length * m ∧ f.P * m = r.P ∧ f.R * m = r.R ∧ (r.ps.take (r.ps.length - f.ps.length)).map (fun q => (q.1 + f.P, q.2 + f.R)) = r.ps.drop f.ps.length := by
  have G := R.good
  have rp := rep_row R o h
  obtain ⟨m, m0, hP, hR⟩ := period_mult o G.P0 (fun x => by rw [h, h]; exact ev_shift1 G x)
  have hl : r.ps.length = m * f.ps.length := len_of (a := pl r) (b := pl f) (P := r.P) G.pm o.g.pm (fun k => ⟨k, (rp k).1.symm⟩) (fun k => ⟨k, (rp k).1⟩) (fun k => (shift G.ne k).1) (fun k => by rw [iter_pl o.g, hP])
  refine ⟨m, m0, by rw [hl, Nat.mul_comm], by rw [hP, Int.mul_comm], by rw [hR, Int.mul_comm], ?_⟩
  have fr : f.ps.length ≤ r.ps.length := by rw [hl]; exact Nat.le_mul_of_pos_left _ m0
  refine List.ext_getElem (by rw [List.length_map, List.length_take, List.length_drop]; omega) fun i h1 h2 => ?_
  rw [List.length_map, List.length_take] at h1
  have hi : i + f.ps.length < r.ps.length := by omega
  rw [List.getElem_map, List.getElem_take, List.getElem_drop, get_at (by omega), get_at (by omega)]
  have p1 := pl_at (f := r) (i := i) 0 (by omega)
  have v1 := vl_at (f := r) (i := i) 0 (by omega)
  have p2 := pl_at (f := r) (i := f.ps.length + i) 0 (by omega)
  have v2 := vl_at (f := r) (i := f.ps.length + i) 0 (by omega)
  have s := shift o.g.ne (i : Int)
  rw [Int.zero_mul, Int.zero_mul, Int.zero_add, Int.add_zero] at p1 v1 p2 v2
  rw [(rp _).1, (rp _).2, (rp _).1, (rp _).2, show (i : Int) + (f.ps.length : Int) = ((f.ps.length + i : Nat) : Int) by omega, p1, v1, p2, v2] at s
  exact Prod.ext s.1.symm s.2.symm
/-! ### rows of widths and gains whose sums are told -/
theorem raw_buildS {p0 v0 : Int} {ws gs : List Int} {n : Nat} (wp : ∀ x ∈ ws, 0 < x) (gp : ∀ x ∈ gs, 0 < x) (lw : ws.length = n + 1) (lg : gs.length = n + 1) (hn : n < 240) (hp : 0 ≤ p0) (hp2 : p0 < ws[n]'(by omega)) (hv : v0.natAbs < 10 ^ 18)
    (sw : ws.sum ≤ 2 * 10 ^ 18) (sg : gs.sum ≤ 2 * 10 ^ 18) :
    Raw ⟨ws.sum, gs.sum, build p0 v0 ws gs (n + 1)⟩ ∧ Bd 64 ⟨ws.sum, gs.sum, build p0 v0 ws gs (n + 1)⟩ := by
  have e18 : (10 : Int) ^ 18 = 1000000000000000000 := by decide
  have e18' : (10 : Nat) ^ 18 = 1000000000000000000 := by decide
  rw [e18] at sw sg
  rw [e18'] at hv
  have hlen := build_length p0 v0 ws gs (n + 1)
  have ga : ∀ i, i < n + 1 → at_ ⟨ws.sum, gs.sum, build p0 v0 ws gs (n + 1)⟩ i = (p0 + (ws.take i).sum, v0 + (gs.take i).sum) := fun i hi => by
    unfold at_
    show (build p0 v0 ws gs (n + 1)).getD i (0, 0) = _
    rw [List.getD_eq_getElem?_getD, build_get hi]
    rfl
  have sw1 := take_step (ls := ws) (i := n) (by omega)
  rw [List.take_of_length_le (by omega)] at sw1
  have sg1 := take_step (ls := gs) (i := n) (by omega)
  rw [List.take_of_length_le (by omega)] at sg1
  have gl := gp (gs[n]'(by omega)) (List.getElem_mem _)
  have w0 : ∀ i, i ≤ n → 0 ≤ (ws.take i).sum ∧ (ws.take i).sum ≤ (ws.take n).sum := fun i hi => ⟨(Gr.sum_take_le wp i).1, take_mono wp hi⟩
  have g0 : ∀ i, i ≤ n → 0 ≤ (gs.take i).sum ∧ (gs.take i).sum ≤ (gs.take n).sum := fun i hi => ⟨(Gr.sum_take_le gp i).1, take_mono gp hi⟩
  have wn := w0 n (Nat.le_refl _)
  have gn := g0 n (Nat.le_refl _)
  have hP64 : (ws.sum).natAbs < 2 ^ 64 := L2.lt64 (by omega) (by omega)
  have hR64 : (gs.sum).natAbs < 2 ^ 64 := L2.lt64 (by omega) (by omega)
  have hq64 : ∀ q ∈ build p0 v0 ws gs (n + 1), q.1.natAbs < 2 ^ 64 ∧ q.2.natAbs < 2 ^ 64 := by
    intro q hq
    unfold build at hq
    obtain ⟨j, hj, rfl⟩ := List.mem_map.mp hq
    rw [List.mem_range] at hj
    have a := w0 j (by omega)
    have b := g0 j (by omega)
    exact ⟨L2.lt64 (by show _ < p0 + (ws.take j).sum; omega) (by show p0 + (ws.take j).sum < _; omega), L2.lt64 (by show _ < v0 + (gs.take j).sum; omega) (by show v0 + (gs.take j).sum < _; omega)⟩
  refine ⟨⟨?_, ?_, ?_, ?_, ?_, ?_, ?_, ?_, ?_, ?_⟩, ⟨hP64, hR64, hq64⟩⟩
  · show 0 < (build p0 v0 ws gs (n + 1)).length
    omega
  · show (build p0 v0 ws gs (n + 1)).length ≤ 240
    omega
  · show 0 < ws.sum
    omega
  · show 0 < gs.sum
    omega
  · intro i hi
    replace hi : i < n + 1 := by
      have : i < (build p0 v0 ws gs (n + 1)).length := hi
      omega
    rw [ga i hi]
    have := w0 i (by omega)
    show 0 ≤ p0 + (ws.take i).sum ∧ p0 + (ws.take i).sum < ws.sum
    omega
  · intro i hi
    replace hi : i < n + 1 := by
      have : i < (build p0 v0 ws gs (n + 1)).length := hi
      omega
    rw [ga i hi, ga 0 (by omega)]
    have := g0 i (by omega)
    show v0 + (gs.take i).sum < v0 + (gs.take 0).sum + gs.sum
    rw [List.take_zero, List.sum_nil]
    omega
  · intro i hi
    replace hi : i + 1 < n + 1 := by
      have : i + 1 < (build p0 v0 ws gs (n + 1)).length := hi
      omega
    rw [ga i (by omega), ga (i + 1) hi]
    show p0 + (ws.take i).sum < p0 + (ws.take (i + 1)).sum ∧ v0 + (gs.take i).sum < v0 + (gs.take (i + 1)).sum
    rw [take_step (ls := ws) (i := i) (by omega), take_step (ls := gs) (i := i) (by omega)]
    have a := wp (ws[i]'(by omega)) (List.getElem_mem _)
    have b := gp (gs[i]'(by omega)) (List.getElem_mem _)
    omega
  · exact L2.nat_pow_mono hP64 (by decide)
  · exact L2.nat_pow_mono hR64 (by decide)
  · intro q hq
    exact ⟨L2.nat_pow_mono (hq64 q hq).1 (by decide), L2.nat_pow_mono (hq64 q hq).2 (by decide)⟩
theorem le_partN {P w : Int} {p : Nat} (hp : 0 < p) (h : P = p * w) (h0 : 0 < P) : w.natAbs ≤ P.natAbs := by
  rw [h, Int.natAbs_mul, Int.natAbs_natCast]
  exact Nat.le_mul_of_pos_left _ hp
/-- each row has a least form -/
theorem top_of {p : Nat → Prop} (h1 : p 1) : ∀ n : Nat, 1 ≤ n → ∃ k, 1 ≤ k ∧ k ≤ n ∧ p k ∧ ∀ j, k < j → j ≤ n → ¬ p j
  | 0, h => by omega
  | n + 1, _ => by
    by_cases hp : p (n + 1)
    · exact ⟨n + 1, by omega, Nat.le_refl _, hp, fun j a b => by omega⟩
    · rcases Nat.eq_zero_or_pos n with z | z
      · exact absurd (by rw [z]; exact h1) hp
      · obtain ⟨k, a, b, c, d⟩ := top_of h1 n z
        refine ⟨k, a, by omega, c, fun j x y => ?_⟩
        rcases Nat.lt_or_ge n j with w | w
        · obtain rfl : j = n + 1 := by omega
          exact hp
        · exact d j x w
theorem Raw.form {r : F} (R : Raw r) : ∃ f, Ok f ∧ (∀ x, ev f x = ev r x) ∧ ∀ n, Bd n r → Bd n f := by
  have G := R.good
  have hn := G.ne
  have t1 : Tst r 1 := ⟨Nat.mod_one _, Int.emod_one _, Int.emod_one _, fun k hk => by rw [Nat.div_one] at hk; omega⟩
  obtain ⟨p, p1, p2, ht, hbig⟩ := top_of (p := Tst r) t1 r.ps.length hn
  obtain ⟨e1, e2, e3, hall⟩ := ht
  obtain ⟨sz, hsz⟩ : ∃ sz : Nat, r.ps.length / p = sz := ⟨_, rfl⟩
  have hn' : r.ps.length = p * sz := by
    have := Nat.div_add_mod r.ps.length p
    rw [hsz, e1] at this
    omega
  have hw' : r.P = p * (r.P / (p : Int)) := by
    have := Int.mul_ediv_add_emod r.P p
    rw [e2] at this
    omega
  have hg' : r.R = p * (r.R / (p : Int)) := by
    have := Int.mul_ediv_add_emod r.R p
    rw [e3] at this
    omega
  have hs0 : 0 < sz := by
    rcases Nat.eq_zero_or_pos sz with z | z
    · rw [z] at hn'; omega
    · exact z
  have hrep := rep_part (f := r) hs0 p1 hn' hw' hg' (fun k hk => by have := hall k (by rw [hsz]; exact hk); rw [hsz] at this; exact this)
  have hleast : Least ⟨r.P / (p : Int), r.R / (p : Int), r.ps.take sz⟩ := fun d hd hper => by
    have := least_of (f := r) hn p1 hbig hd (hrep.per hper)
    show (r.ps.take sz).length ≤ d
    rw [List.length_take]
    omega
  have hgood := G.part hs0 p1 hn' hw' hg' hrep
  obtain ⟨o, he⟩ := ok_of R hgood hrep hleast (R.norm.part hs0 p1 hn' hw' hrep)
  exact ⟨_, o, he, fun n B => ⟨Nat.lt_of_le_of_lt (le_partN p1 hw' G.P0) B.P, Nat.lt_of_le_of_lt (le_partN p1 hg' G.R0) B.R, fun q hq => B.q q (List.mem_of_mem_take hq)⟩⟩
end Sx
namespace L2
open PySem
theorem put_ints {H : Hp} {D : Addr} {zs : List Int} {z : Int} : upd H D (.lst (zs.map V.int ++ [V.int z])) D = some (.lst ((zs ++ [z]).map V.int)) := by
  rw [upd_same, List.map_append]
  rfl
end L2

namespace Sx
/-! ### two maps of one rate: a common period, and where they rise in it -/
/-- the least common period, as the program reckons it -/
def com (f g : F) : Int := f.P / (Int.gcd f.P g.P : Nat) * g.P
def Rate (f g : F) : Prop := f.P * g.R = g.P * f.R
instance (f g : F) : Decidable (Rate f g) := inferInstanceAs (Decidable (_ = _))
/-- how many places there are in the common period -/
def cnt (f g : F) : Int := f.ps.length * (com f g / f.P) + g.ps.length * (com f g / g.P)
structure Comm (f g : F) (k m : Nat) : Prop where
  k0 : 0 < k
  m0 : 0 < m
  c0 : 0 < com f g
  kP : com f g = k * f.P
  mP : com f g = m * g.P
  dk : com f g / f.P = k
  dm : com f g / g.P = m
  min : ∀ x y : Int, 0 < x → 0 < y → x * f.P = y * g.P → (k : Int) ≤ x ∧ (m : Int) ≤ y
  le : (k : Int) ≤ g.P ∧ (m : Int) ≤ f.P
theorem com_num {f g : F} (Gf : Good f) (Gg : Good g) : ∃ k m : Nat, Comm f g k m := by
  have hf := Gf.P0
  have hg := Gg.P0
  obtain ⟨G, hG⟩ : ∃ G : Nat, Int.gcd f.P g.P = G := ⟨_, rfl⟩
  have G0 : 0 < G := by rw [← hG]; exact Int.gcd_pos_of_ne_zero_left _ (by omega)
  obtain ⟨a, ha⟩ : (G : Int) ∣ f.P := by rw [← hG]; exact Int.gcd_dvd_left ..
  obtain ⟨b, hb⟩ : (G : Int) ∣ g.P := by rw [← hG]; exact Int.gcd_dvd_right ..
  have Gp : (0 : Int) < G := by omega
  have a0 : 0 < a := by
    rcases Int.lt_or_le 0 a with z | z
    · exact z
    · have := Int.mul_le_mul_of_nonneg_left z (Int.le_of_lt Gp)
      omega
  have b0 : 0 < b := by
    rcases Int.lt_or_le 0 b with z | z
    · exact z
    · have := Int.mul_le_mul_of_nonneg_left z (Int.le_of_lt Gp)
      omega
  have da : f.P / (G : Int) = a := by rw [ha, Int.mul_ediv_cancel_left _ (by omega)]
  have db : g.P / (G : Int) = b := by rw [hb, Int.mul_ediv_cancel_left _ (by omega)]
  have ec : com f g = a * g.P := by
    unfold com
    rw [hG, da]
  have ec2 : com f g = b * f.P := by
    rw [ec, ha, hb, Int.mul_left_comm a, Int.mul_left_comm b, Int.mul_comm a b]
  obtain ⟨k, rfl⟩ : ∃ k : Nat, b = k := ⟨b.toNat, by omega⟩
  obtain ⟨m, rfl⟩ : ∃ m : Nat, a = m := ⟨a.toNat, by omega⟩
  have le1 : (k : Int) ≤ g.P := by
    have := Int.mul_le_mul_of_nonneg_right (show (1 : Int) ≤ G by omega) (show (0 : Int) ≤ k by omega)
    omega
  have le2 : (m : Int) ≤ f.P := by
    have := Int.mul_le_mul_of_nonneg_right (show (1 : Int) ≤ G by omega) (show (0 : Int) ≤ m by omega)
    omega
  refine ⟨k, m, by omega, by omega, by rw [ec]; exact Int.mul_pos (by omega) hg, ec2, ec, by rw [ec2, Int.mul_ediv_cancel _ (by omega)], by rw [ec, Int.mul_ediv_cancel _ (by omega)], fun x y x0 y0 e => ⟨?_, ?_⟩, ⟨le1, le2⟩⟩
  · have := div_gcd_le hf hg x0 (q := y) (by rw [Int.mul_comm, e, Int.mul_comm])
    rw [hG, db] at this
    exact this
  · have := div_gcd_le hg hf y0 (q := x) (by rw [Int.mul_comm, ← e, Int.mul_comm])
    rw [Int.gcd_comm, hG, da] at this
    exact this
theorem Rate.turn {f g : F} (r : Rate f g) (Gg : Good g) {k m : Nat} (c : Comm f g k m) : (k : Int) * f.R = m * g.R := by
  have hg := Gg.P0
  have h := c.kP.symm.trans c.mP
  have r' : f.P * g.R = g.P * f.R := r
  refine Int.eq_of_mul_eq_mul_left (show g.P ≠ 0 by omega) ?_
  rw [← Int.mul_assoc, Int.mul_comm g.P, Int.mul_assoc, ← r', ← Int.mul_assoc, h, Int.mul_assoc, Int.mul_left_comm]
/-- the places of the rises in k periods -/
def plc (f : F) (k : Nat) : List Int := (List.range k).flatMap fun (t : Nat) => f.ps.map fun q => q.1 + (t : Int) * f.P
theorem plc_len (f : F) (k : Nat) : (plc f k).length = k * f.ps.length := by
  unfold plc
  rw [flat_len', List.length_range]
theorem plc_bd {f : F} (o : Ok f) {k : Nat} : ∀ z ∈ plc f k, 0 ≤ z ∧ z < k * f.P := by
  intro z hz
  obtain ⟨t, ht, hz⟩ := List.mem_flatMap.mp hz
  obtain ⟨q, hq, rfl⟩ := List.mem_map.mp hz
  have ht' := List.mem_range.mp ht
  obtain ⟨i, hi, rfl⟩ := mem_at hq
  have n := o.n i hi
  have P0 := o.g.P0
  have a := Int.mul_nonneg (show (0 : Int) ≤ t by omega) (Int.le_of_lt P0)
  have b := Int.mul_le_mul_of_nonneg_right (show (t : Int) + 1 ≤ k by omega) (Int.le_of_lt P0)
  rw [Int.add_mul, Int.one_mul] at b
  omega
theorem plc_jump {f : F} (o : Ok f) {k : Nat} {y : Int} (h0 : 0 ≤ y) (h1 : y < k * f.P) (hj : ev f (y - 1) < ev f y) : y ∈ plc f k := by
  obtain ⟨s, rfl⟩ := (jump_iff o.g y).mp hj
  obtain ⟨t, i, hi, rfl⟩ := split o.g.ne s
  have P0 := o.g.P0
  have n := o.n i hi
  rw [pl_at t hi] at h0 h1 ⊢
  have t0 : 0 ≤ t := by
    rcases Int.lt_or_le t 0 with z | z
    · have := Int.mul_le_mul_of_nonneg_right (show t ≤ -1 by omega) (Int.le_of_lt P0)
      omega
    · exact z
  have t1 : t < k := by
    rcases Int.lt_or_le t k with z | z
    · exact z
    · have := Int.mul_le_mul_of_nonneg_right z (Int.le_of_lt P0)
      omega
  obtain ⟨u, rfl⟩ : ∃ u : Nat, t = u := ⟨t.toNat, by omega⟩
  exact List.mem_flatMap.mpr ⟨u, List.mem_range.mpr (by omega), List.mem_map.mpr ⟨_, at_mem hi, rfl⟩⟩
/-- between the places nothing rises -/
theorem down_to {f g : F} (of : Ok f) (og : Ok g) {k m : Nat} (c : Comm f g k m) {zs : List Int} (hz : zs.Perm (plc f k ++ plc g m)) : ∀ n : Nat, (n : Int) < com f g → ∃ y ∈ (0 : Int) :: zs, y ≤ n ∧ ev f y = ev f n ∧ ev g y = ev g n
  | 0, _ => ⟨0, List.mem_cons_self, Int.le_refl _, rfl, rfl⟩
  | n + 1, h => by
    have mem : ∀ z, z ∈ plc f k ++ plc g m → z ∈ (0 : Int) :: zs := fun z hz' => List.mem_cons_of_mem _ (hz.mem_iff.mpr hz')
    by_cases h1 : ev f ((n + 1 : Nat) - 1) < ev f (n + 1 : Nat)
    · exact ⟨_, mem _ (List.mem_append_left _ (plc_jump of (by omega) (by rw [← c.kP]; exact h) h1)), Int.le_refl _, rfl, rfl⟩
    by_cases h2 : ev g ((n + 1 : Nat) - 1) < ev g (n + 1 : Nat)
    · exact ⟨_, mem _ (List.mem_append_right _ (plc_jump og (by omega) (by rw [← c.mP]; exact h) h2)), Int.le_refl _, rfl, rfl⟩
    have m1 := ev_mono of.g (show ((n + 1 : Nat) : Int) - 1 ≤ (n + 1 : Nat) by omega)
    have m2 := ev_mono og.g (show ((n + 1 : Nat) : Int) - 1 ≤ (n + 1 : Nat) by omega)
    have e : ((n + 1 : Nat) : Int) - 1 = (n : Int) := by omega
    rw [e] at h1 h2 m1 m2
    obtain ⟨y, hy, yl, y1, y2⟩ := down_to of og c hz n (by omega)
    exact ⟨y, hy, by omega, by omega, by omega⟩
theorem com_shift {f g : F} (of : Ok f) (og : Ok g) {k m : Nat} (c : Comm f g k m) (x t : Int) : ev f (x + t * com f g) = ev f x + t * (k * f.R) ∧ ev g (x + t * com f g) = ev g x + t * (m * g.R) := by
  constructor
  · rw [c.kP, ← Int.mul_assoc, ev_shift of.g, Int.mul_assoc]
  · rw [c.mP, ← Int.mul_assoc, ev_shift og.g, Int.mul_assoc]
/-- f is above g at no place: nowhere -/
theorem above_none {f g : F} (of : Ok f) (og : Ok g) (r : Rate f g) {k m : Nat} (c : Comm f g k m) {zs : List Int} (hz : zs.Perm (plc f k ++ plc g m)) (h : ∀ y ∈ (0 : Int) :: zs, ev f y ≤ ev g y) (x : Int) : ev f x ≤ ev g x := by
  have d1 := Int.mul_ediv_add_emod x (com f g)
  have d2 := Int.emod_nonneg x (show com f g ≠ 0 by have := c.c0; omega)
  have d3 := Int.emod_lt_of_pos x c.c0
  obtain ⟨n, hn⟩ : ∃ n : Nat, x % com f g = n := ⟨(x % com f g).toNat, by omega⟩
  rw [hn] at d1 d3
  obtain ⟨y, hy, _, e1, e2⟩ := down_to of og c hz n d3
  have s := com_shift of og c (n : Int) (x / com f g)
  rw [show (n : Int) + x / com f g * com f g = x by rw [Int.mul_comm]; omega, r.turn og.g c] at s
  have := h y hy
  omega
/-- f is above g at a place, and at none ahead of it: at none from 0 on ahead of it -/
theorem above_first {f g : F} (of : Ok f) (og : Ok g) {k m : Nat} (c : Comm f g k m) {zs : List Int} (hz : zs.Perm (plc f k ++ plc g m)) {x : Int} (hx : x < com f g) (h : ∀ y ∈ (0 : Int) :: zs, y < x → ev f y ≤ ev g y) {y : Int} (h0 : 0 ≤ y) (h1 : y < x) : ev f y ≤ ev g y := by
  obtain ⟨n, rfl⟩ : ∃ n : Nat, y = n := ⟨y.toNat, by omega⟩
  obtain ⟨y, hy, yl, e1, e2⟩ := down_to of og c hz n (by omega)
  have := h y hy (by omega)
  omega
theorem cnt_le {f g r1 r2 : F} (of : Ok f) (og : Ok g) (R1 : Raw r1) (R2 : Raw r2) (e1 : ∀ x, ev f x = ev r1 x) (e2 : ∀ x, ev g x = ev r2 x) {a b : Nat} (ha : 0 < a) (hb : 0 < b) (h : a * r1.P = b * r2.P) : cnt f g ≤ a * r1.ps.length + b * r2.ps.length := by
  obtain ⟨k, m, c⟩ := com_num of.g og.g
  obtain ⟨u, u0, l1, p1, _, _⟩ := part_at R1 of e1
  obtain ⟨w, w0, l2, p2, _, _⟩ := part_at R2 og e2
  have key : ((a * u : Nat) : Int) * f.P = ((b * w : Nat) : Int) * g.P := by
    rw [Int.natCast_mul, Int.natCast_mul, Int.mul_assoc, Int.mul_assoc, Int.mul_comm (u : Int), Int.mul_comm (w : Int), p1, p2]
    exact h
  have au : 0 < a * u := Nat.mul_pos ha u0
  have bw : 0 < b * w := Nat.mul_pos hb w0
  obtain ⟨x1, x2⟩ := c.min _ _ (show (0 : Int) < ((a * u : Nat) : Int) by omega) (show (0 : Int) < ((b * w : Nat) : Int) by omega) key
  unfold cnt
  rw [c.dk, c.dm]
  have y1 := Nat.mul_le_mul_left f.ps.length (show k ≤ a * u by omega)
  have y2 := Nat.mul_le_mul_left g.ps.length (show m ≤ b * w by omega)
  have z1 : f.ps.length * (a * u) = a * r1.ps.length := by rw [l1, Nat.mul_left_comm]
  have z2 : g.ps.length * (b * w) = b * r2.ps.length := by rw [l2, Nat.mul_left_comm]
  rw [z1] at y1
  rw [z2] at y2
  exact_mod_cast Nat.add_le_add y1 y2
theorem rate_rows {f g r1 r2 : F} (of : Ok f) (og : Ok g) (R1 : Raw r1) (R2 : Raw r2) (e1 : ∀ x, ev f x = ev r1 x) (e2 : ∀ x, ev g x = ev r2 x) : Rate f g ↔ r1.P * r2.R = r2.P * r1.R := by
  obtain ⟨u, u0, _, p1, q1, _⟩ := part_at R1 of e1
  obtain ⟨w, w0, _, p2, q2, _⟩ := part_at R2 og e2
  have a : r1.P * r2.R = f.P * g.R * ((u : Int) * w) := by
    rw [← p1, ← q2]
    simp only [Int.mul_comm, Int.mul_left_comm, Int.mul_assoc]
  have b : r2.P * r1.R = g.P * f.R * ((u : Int) * w) := by
    rw [← p2, ← q1]
    simp only [Int.mul_comm, Int.mul_left_comm, Int.mul_assoc]
  rw [a, b]
  refine ⟨fun h => by rw [show f.P * g.R = g.P * f.R from h], fun h => ?_⟩
  exact Int.eq_of_mul_eq_mul_right (Int.ne_of_gt (Int.mul_pos (by omega) (by omega))) h
/-- two maps with the same rises have as many in the common period -/
theorem cnt_same {f g f' g' : F} (h1 : f'.P = f.P) (h2 : f'.ps.length = f.ps.length) (h3 : g'.P = g.P) (h4 : g'.ps.length = g.ps.length) : cnt f' g' = cnt f g := by
  unfold cnt com
  rw [h1, h2, h3, h4]
end Sx

namespace Sx
theorem RawP.plusN {P R : Int} {ps : List (Int × Int)} (h : RawP P R ps) (n : Int) : RawP P R (ps.map fun q => (q.1, q.2 + n)) := by
  refine ⟨by rw [List.length_map]; exact h.ne, by rw [List.length_map]; exact h.len, h.P0, h.R0, List.pairwise_map.mpr (h.up.imp fun {a b} z => ?_), fun q hq => ?_, fun a ha b hb => ?_⟩
  · show a.1 < b.1 ∧ a.2 + n < b.2 + n
    omega
  · obtain ⟨u, hu, rfl⟩ := List.mem_map.mp hq
    exact h.p0 u hu
  · obtain ⟨u, hu, rfl⟩ := List.mem_map.mp ha
    obtain ⟨v, hv, rfl⟩ := List.mem_map.mp hb
    have := h.v1 u hu v hv
    show v.2 + n < u.2 + n + R
    omega
/-- the last step another one, of the same rise -/
theorem RawP.last2 {P R : Int} {ps : List (Int × Int)} (h : RawP P R ps) {u w : Int × Int} (hu : ps[ps.length - 1]? = some u) (h1 : u.1 ≤ w.1) (h2 : u.2 ≤ w.2) (h3 : w.1 < P) (h4 : ∀ a ∈ ps, w.2 < a.2 + R) : RawP P R (ps.take (ps.length - 1) ++ [w]) := by
  have hn := h.ne
  have R0 := h.R0
  have mu : u ∈ ps := List.mem_of_getElem? hu
  have mt : ∀ q ∈ ps.take (ps.length - 1), q ∈ ps ∧ q.1 < u.1 ∧ q.2 < u.2 := fun q hq => by
    refine ⟨List.mem_of_mem_take hq, ?_⟩
    obtain ⟨i, hi, rfl⟩ := List.mem_iff_getElem.mp hq
    rw [List.length_take] at hi
    rw [List.getElem_take]
    have := List.pairwise_iff_getElem.mp h.up i (ps.length - 1) (by omega) (by omega) (by omega)
    rw [List.getElem?_eq_getElem (by omega)] at hu
    rw [← Option.some.inj hu]
    exact this
  refine ⟨by rw [List.length_append]; show 0 < _ + 1; omega, ?_, h.P0, by omega, ?_, fun q hq => ?_, fun a ha b hb => ?_⟩
  · have := h.len
    rw [List.length_append, List.length_take]
    show _ + 1 ≤ 240
    omega
  · refine List.pairwise_append.mpr ⟨h.up.sublist (List.take_sublist _ _), List.pairwise_singleton _ _, fun a ha b hb => ?_⟩
    obtain rfl := List.mem_singleton.mp hb
    have := mt a ha
    omega
  · rcases List.mem_append.mp hq with z | z
    · exact h.p0 q (mt q z).1
    · obtain rfl := List.mem_singleton.mp z
      have := h.p0 u mu
      omega
  · rcases List.mem_append.mp ha with za | za <;> rcases List.mem_append.mp hb with zb | zb
    · exact h.v1 a (mt a za).1 b (mt b zb).1
    · obtain rfl := List.mem_singleton.mp zb
      exact h4 a (mt a za).1
    · obtain rfl := List.mem_singleton.mp za
      have := h.v1 u mu b (mt b zb).1
      omega
    · obtain rfl := List.mem_singleton.mp za
      obtain rfl := List.mem_singleton.mp zb
      omega
theorem Raw.bd48 {f : F} (R : Raw f) (hP : f.P < 70368744177664) (hR : f.R < 70368744177664) (hv : (at_ f 0).2.natAbs ≤ 1000) : Bd 48 f := by
  have P0 := R.P0
  have R0 := R.R0
  have e : (2 : Nat) ^ 48 = 281474976710656 := by decide
  refine ⟨by rw [e]; omega, by rw [e]; omega, fun q hq => ?_⟩
  obtain ⟨i, hi, rfl⟩ := mem_at hq
  have p := R.p0 i hi
  have v := R.v1 i hi
  have w : (at_ f 0).2 ≤ (at_ f i).2 := by
    rcases Nat.eq_zero_or_pos i with z | z
    · rw [z]; exact Int.le_refl _
    · have := (R.rows z hi).2
      omega
  rw [e]
  omega
/-- how far a map comes in some periods from 0 on -/
theorem ev_near {r : F} (R : Raw r) {n : Nat} (B : Bd n r) {a : Nat} {x : Int} (h0 : 0 ≤ x) (h1 : x ≤ a * r.P) : -(2 ^ n : Nat) - r.R ≤ ev r x ∧ ev r x ≤ (2 ^ n : Nat) + a * r.R := by
  have G := R.good
  have b0 := B.q _ (at_mem R.ne)
  have p := R.p0 0 R.ne
  have z := pl_zero (f := r) R.ne
  have zv := vl_zero (f := r) R.ne
  have e0 := ev_pl G 0
  rw [z, zv] at e0
  have e1 := ev_shift1 G ((at_ r 0).1 - r.P)
  rw [Int.sub_add_cancel, e0] at e1
  have m1 := ev_mono G (show (at_ r 0).1 - r.P ≤ x by omega)
  have m2 := ev_mono G (show x ≤ (at_ r 0).1 + a * r.P by omega)
  rw [ev_shift G, e0] at m2
  omega
/-- rows of steps as dense as can be -/
def dense (m : Nat) : F := ⟨2 * m + 1, 3 * m + 1, (List.range m).map fun k : Nat => (2 * (k : Int), 3 * (k : Int))⟩
theorem dense_len (m : Nat) : (dense m).ps.length = m := by
  show ((List.range m).map _).length = m
  rw [List.length_map, List.length_range]
theorem dense_bd {m : Nat} (h1 : m ≤ 240) : Bd 48 (dense m) := by
  have e : (2 : Nat) ^ 48 = 281474976710656 := by decide
  refine ⟨by rw [e]; show (2 * (m : Int) + 1).natAbs < _; omega, by rw [e]; show (3 * (m : Int) + 1).natAbs < _; omega, fun q hq => ?_⟩
  obtain ⟨k, hk, rfl⟩ := List.mem_map.mp hq
  have := List.mem_range.mp hk
  rw [e]
  show (2 * (k : Int)).natAbs < _ ∧ (3 * (k : Int)).natAbs < _
  omega
theorem dense_raw {m : Nat} (h0 : 0 < m) (h1 : m ≤ 240) : Raw (dense m) := by
  refine RawP.raw (n := 48) ?_ (dense_bd h1) (by decide)
  refine ⟨by rw [dense_len]; exact h0, by rw [dense_len]; exact h1, by show (0 : Int) < 2 * (m : Int) + 1; omega, by show (0 : Int) < 3 * (m : Int) + 1; omega, ?_, fun q hq => ?_, fun a ha b hb => ?_⟩
  · refine List.pairwise_map.mpr (List.Pairwise.imp (fun {a b} z => ?_) List.pairwise_lt_range)
    show 2 * (a : Int) < 2 * (b : Int) ∧ 3 * (a : Int) < 3 * (b : Int)
    omega
  · obtain ⟨k, hk, rfl⟩ := List.mem_map.mp hq
    have := List.mem_range.mp hk
    show 0 ≤ 2 * (k : Int) ∧ 2 * (k : Int) < 2 * (m : Int) + 1
    omega
  · obtain ⟨k, hk, rfl⟩ := List.mem_map.mp ha
    obtain ⟨j, hj, rfl⟩ := List.mem_map.mp hb
    have := List.mem_range.mp hj
    show 3 * (j : Int) < 3 * (k : Int) + (3 * (m : Int) + 1)
    omega
theorem dense_form {m : Nat} (h0 : 0 < m) (h1 : m ≤ 240) {f : F} (o : Ok f) (h : ∀ x, ev f x = ev (dense m) x) : f.P = 2 * m + 1 ∧ f.R = 3 * m + 1 ∧ f.ps.length = m := by
  obtain ⟨u, u0, l, p, r, _⟩ := part_at (dense_raw h0 h1) o h
  rw [dense_len] at l
  have p' : f.P * u = 2 * (m : Int) + 1 := p
  have r' : f.R * u = 3 * (m : Int) + 1 := r
  have e : (f.P - 2 * (f.ps.length : Int)) * u = 1 := by
    rw [Int.sub_mul, p', Int.mul_assoc, ← Int.natCast_mul, ← l]
    omega
  have u1 : u = 1 := by
    have d : (u : Int) ∣ 1 := ⟨f.P - 2 * (f.ps.length : Int), by rw [Int.mul_comm]; exact e.symm⟩
    have := Int.eq_one_of_dvd_one (by omega) d
    omega
  subst u1
  omega
theorem cnt_self {f : F} (o : Ok f) : Rate f f ∧ cnt f f = 2 * f.ps.length := by
  obtain ⟨k, m, c⟩ := com_num o.g o.g
  have e := c.min 1 1 (by omega) (by omega) rfl
  have e1 := c.k0
  refine ⟨by show f.P * f.R = f.P * f.R; rfl, ?_⟩
  have e3 : k = 1 := by omega
  unfold cnt
  rw [c.dk, e3]
  omega
/-- two rows of one rate, and the maps that are made of them -/
structure Duo (f1 f2 : F) (a b : Nat) : Prop where
  raw1 : Raw f1
  raw2 : Raw f2
  bd1 : Bd 53 f1
  bd2 : Bd 53 f2
  l1 : f1.ps.length ≤ 12
  l2 : f2.ps.length ≤ 48
  a0 : 0 < a
  b0 : 0 < b
  a4 : a ≤ 4
  b4 : b ≤ 4
  eP : a * f1.P = b * f2.P
  eR : a * f1.R = b * f2.R
  cn : a * f1.ps.length + b * f2.ps.length ≤ 240
  dv : f2.P / f1.P ≤ 4
theorem Duo.rate1 {f1 f2 : F} {a b : Nat} (d : Duo f1 f2 a b) : f1.P * f2.R = f2.P * f1.R := by
  have a0 := d.a0
  refine Int.eq_of_mul_eq_mul_left (show (a : Int) ≠ 0 by omega) ?_
  rw [← Int.mul_assoc, d.eP, Int.mul_left_comm, d.eR, Int.mul_assoc, Int.mul_left_comm (f2.P)]
theorem Duo.rate {f1 f2 f g : F} {a b : Nat} (d : Duo f1 f2 a b) (of : Ok f) (og : Ok g) (e1 : ∀ x, ev f x = ev f1 x) (e2 : ∀ x, ev g x = ev f2 x) : Rate f g ∧ cnt f g ≤ 240 := by
  refine ⟨(rate_rows of og d.raw1 d.raw2 e1 e2).mpr d.rate1, ?_⟩
  have := cnt_le of og d.raw1 d.raw2 e1 e2 d.a0 d.b0 d.eP
  have := d.cn
  have e : ((a * f1.ps.length + b * f2.ps.length : Nat) : Int) = a * f1.ps.length + b * f2.ps.length := by simp
  omega
theorem Duo.com {f1 f2 f g : F} {a b : Nat} (d : Duo f1 f2 a b) (of : Ok f) (og : Ok g) (e1 : ∀ x, ev f x = ev f1 x) (e2 : ∀ x, ev g x = ev f2 x) : com f g ≤ f1.P * f2.P ∧ com f g ≤ a * f1.P := by
  obtain ⟨k, m, c⟩ := com_num of.g og.g
  obtain ⟨u, u0, _, p1, _, _⟩ := part_at d.raw1 of e1
  obtain ⟨w, w0, _, p2, _, _⟩ := part_at d.raw2 og e2
  have P0 := of.g.P0
  have Q0 := og.g.P0
  have a0 := d.a0
  have b0 := d.b0
  have key : ((a * u : Nat) : Int) * f.P = ((b * w : Nat) : Int) * g.P := by
    rw [Int.natCast_mul, Int.natCast_mul, Int.mul_assoc, Int.mul_assoc, Int.mul_comm (u : Int), Int.mul_comm (w : Int), p1, p2]
    exact d.eP
  have au : 0 < a * u := Nat.mul_pos a0 u0
  have bw : 0 < b * w := Nat.mul_pos b0 w0
  obtain ⟨x1, _⟩ := c.min _ _ (show (0 : Int) < ((a * u : Nat) : Int) by omega) (show (0 : Int) < ((b * w : Nat) : Int) by omega) key
  have y1 := Int.mul_le_mul_of_nonneg_right x1 (Int.le_of_lt P0)
  have y2 := Int.mul_le_mul_of_nonneg_right c.le.1 (Int.le_of_lt P0)
  have g1 : g.P ≤ f2.P := by
    have := Int.mul_le_mul_of_nonneg_left (show (1 : Int) ≤ w by omega) (Int.le_of_lt Q0)
    omega
  have f1' : f.P ≤ f1.P := by
    have := Int.mul_le_mul_of_nonneg_left (show (1 : Int) ≤ u by omega) (Int.le_of_lt P0)
    omega
  have y3 := Int.mul_le_mul g1 f1' (Int.le_of_lt P0) (by omega)
  rw [c.kP]
  refine ⟨by rw [Int.mul_comm f1.P]; omega, ?_⟩
  have e : ((a * u : Nat) : Int) * f.P = a * f1.P := by
    rw [Int.natCast_mul, Int.mul_assoc, Int.mul_comm (u : Int), p1]
  omega
/-- the two are never 10 ** 20 apart -/
theorem Duo.far {f1 f2 : F} {a b : Nat} (d : Duo f1 f2 a b) {x : Int} (h0 : 0 ≤ x) (h1 : x ≤ a * f1.P) : ev f1 x < ev f2 x + 100000000000000000000 := by
  have n1 := ev_near d.raw1 d.bd1 h0 h1
  have n2 := ev_near d.raw2 d.bd2 h0 (show x ≤ b * f2.P by rw [← d.eP]; exact h1)
  have r1 := d.bd1.R
  have r2 := d.bd2.R
  have R1 := d.raw1.R0
  have R2 := d.raw2.R0
  have a4 := d.a4
  have e : (2 : Nat) ^ 53 = 9007199254740992 := by decide
  rw [e] at n1 n2 r1 r2
  have y := Int.mul_le_mul_of_nonneg_right (show (a : Int) ≤ 4 by omega) (Int.le_of_lt R1)
  omega
end Sx

/-! ### own == a list, where the own side declines -/
namespace PySem.W
open PySem PySem.Calls PyProof.Rows
theorem list_eq_declines_own {K : Frag} {x C : Addr} {ox : Obj} {od : Option Obj} (la : Addr) :
    Meets (Builtin.«list.__eq__» ⟨[.ref la, .ref x], []⟩) (fun _ R s => (K.In s.heap ∧ InstAt s.heap x ox C od ∧ subIn K (.ref C) (.type "list") = some false) ∧ R (.ok (.ret .notImplemented)) s) :=
  .of_wp fun prog w A R s h => by
    obtain ⟨hp, g, d, tk, os⟩ := s
    obtain ⟨⟨X, I, hs⟩, q⟩ := h
    have f1 : Looks (model prog w) hp (isInstance (.ref x) (.type "list")) false := I.type.andThen (looks_subIn X hs)
    wp_walk using f1.at, f1.here
    exact ⟨_, rfl, q⟩
end PySem.W
namespace L2
open PySem PySem.Spec PyProof.Rows
section
variable {X : Cx} {k : Nat} {f C : Addr} {fd : FuncData} {ps : List Str} {pre : List V → Hp → Prop}
def rDeclL (K : PySem.W.Frag) (C : Addr) (pre : List V → Hp → Prop) (t : Bool) : R2 := fun x y H Q => ∃ a dx fs l ys, x = .ref a ∧ H a = some (.ins C dx fs) ∧ y = .ref l ∧ SqL K H l ys ∧ pre [x, y] H ∧ Q (.bl t) H
theorem sub_listO {K : PySem.W.Frag} {C : Addr} : PySem.W.notFirst K C (.type "list") = true := by
  have e : fastBuiltinMro "list" = some [.type "list", .type "object"] := by decide +kernel
  have h : PySem.W.subIn K (.type "list") (.ref C) = some false := by
    show (fastBuiltinMro "list").map (·.contains (.ref C)) = some false
    rw [e]
    first
      | rfl
      | simp
  show ((Value.ref C == Value.type "list") || (PySem.W.subIn K (.type "list") (.ref C) == some false)) = true
  rw [h]
  simp
theorem op_eqDeclL (hm : Meth X.K C "__eq__" f) (hs : PySem.W.subIn X.K (.ref C) (.type "list") = some false) (F : FnNI X.prog X.w X.K X.mg X.base k f fd ps pre) (hr : Room k X.A) (hb : Binds X.K fd ps []) : OpR X (compareOp .Eq) (rDeclL X.K C pre false) := by
  intro pins s σ H x y u v Q I rx ry h
  obtain ⟨a, dx, fs, l, ys, ex, ha, ey, hl, h1, q⟩ := h
  subst ex
  subst ey
  cases (show u = Value.ref a from rx)
  cases (show v = Value.ref l from ry)
  obtain ⟨oa, Ia⟩ := inst_of I ha
  obtain ⟨its, rv, ⟨ol, n, hol, hcl, hdl, _⟩, hz⟩ := I.list hl
  have hbt : PySem.W.Looks (model X.prog X.w) s.heap (typeOf (.ref l)) (.type "list") := fun A Q E s k q => wpAny_typeOf_ref (k _ _ hol) (by rw [hcl]; exact q)
  show wpAny _ _ (richCompare .Eq _ _) _ _ _
  refine PySem.W.cmp_decl (P1 := fun s1 => Inv X pins σ H s1) (P2 := fun s1 => Inv X pins σ H s1) (tb := .type "list") (.inl ⟨rfl, rfl⟩) hr.units0 I.kIn Ia hbt sub_listO (PySem.W.try_ni I.kIn Ia hm.1 hm.2 (run_ni (vs := [V.ref a, V.ref l]) F hr I.env0 hb I (.cons rfl (.cons rfl .nil)) h1)) (fun s1 I1 => ?_) (fun s2 I2 => ?_)
  · obtain ⟨oa, Ia⟩ := inst_of I1 ha
    obtain ⟨its, rv, ⟨ol, n, hol, hcl, hdl, _⟩, hz⟩ := I1.list hl
    have ht : s1.TypeIs (.ref l) "list" := ⟨ol, hol, hcl⟩
    exact wpAny_tryCompare_declines ht PySem.F.slot_list_eq_refl (PySem.call_meets PySem.F.slot_list_eq_refl ht PySem.F.entry_list_eq (PySem.F.args_list_eq_2 _ _) (PySem.W.list_eq_declines_own l) ⟨⟨I1.kIn, Ia, hs⟩, ⟨rfl, rfl, I1⟩⟩)
  · obtain ⟨oa, Ia⟩ := inst_of I2 ha
    obtain ⟨its, rv, ⟨ol, n, hol, hcl, hdl, _⟩, hz⟩ := I2.list hl
    have hn : a ≠ l := fun z => by
      subst z
      have e := Option.some.inj (Ia.at_.symm.trans hol)
      have c := Ia.cls
      rw [e, hcl] at c
      cases c
    exact wpAny_isSame_ref_other hn Ia.at_ hol (by rw [Ia.cls]; intro e; cases e) ⟨rfl, .bl false, H, I2, rfl, q⟩
end
/-! ### a told map, shown -/
/-- [period, rise, steps] -/
def stL (f : Sx.F) : PyData := .list [.int f.P, .int f.R, .tuple (f.ps.map fun q => .tuple ([q.1, q.2].map PyData.int))]
theorem dp_stL {K : PySem.W.Frag} {H : Hp} {p t : Addr} {f : Sx.F} (h : H p = some (.lst [.int f.P, .int f.R, .ref t])) (ht : PairsT H t f.ps) : Dp K H (.ref p) (stL f) := by
  obtain ⟨xs, e, hx⟩ := ht
  exact .lst (SqL.of h) (.cons (.int _) (.cons (.int _) (.cons (.tup (SqT.of_ e) (dpAll_pairs hx.1 hx.2)) .nil)))
theorem sh_stL {f : Sx.F} {n : Nat} (B : Sx.Bd n f) (hn : n ≤ 1900) (hl : f.ps.length ≤ 240) : Sh 64 sizeLine (stL f) := by
  have b1 := lg19 B.P hn
  have b2 := lg19 B.R hn
  have s3 : Sh 2 (240 * (3851 + 2) + 5) (.tuple (f.ps.map fun q => .tuple ([q.1, q.2].map PyData.int))) := by
    refine Sh.tuple (k := 1) (m := 3851) (fun d hd => ?_) (by rw [List.length_map]; exact hl)
    obtain ⟨q, hq, rfl⟩ := List.mem_map.mp hd
    refine Sh.tuple (k := 0) (m := 1921) (n := 2) (fun d hd => ?_) (by simp)
    simp only [List.map_cons, List.map_nil, List.mem_cons, List.not_mem_nil, or_false] at hd
    rcases hd with rfl | rfl
    · exact Sh.int (lg19 (B.q q hq).1 hn)
    · exact Sh.int (lg19 (B.q q hq).2 hn)
  refine (Sh.list (k := 2) (m := 240 * (3851 + 2) + 5) (n := 3) (fun d hd => ?_) (by simp)).mono
  simp only [List.mem_cons, List.not_mem_nil, or_false] at hd
  rcases hd with rfl | rfl | rfl
  · exact (Sh.int b1).mono
  · exact (Sh.int b2).mono
  · exact s3
theorem stL_inj {f g : Sx.F} (h : f = g) : (stL f).shown = (stL g).shown := by rw [h]
end L2
namespace Sx
/-- a row said many times -/
theorem again_rawM {f : F} (R : Raw f) {m n : Nat} (hm : 0 < m) (hl : m * f.ps.length ≤ 240) (B : Bd n f) (hn : n + 9 ≤ 4000) : Raw (again f m) ∧ (∀ x, ev (again f m) x = ev f x) ∧ Bd (n + 9) (again f m) := by
  have G := R.good
  have hP := R.P0
  have hR := R.R0
  have m240 : m ≤ 240 := Nat.le_trans (Nat.le_mul_of_pos_right m R.ne) hl
  have e3 : 2 ^ (n + 9) = 512 * 2 ^ n := by rw [Nat.pow_add, Nat.mul_comm]
  have np := Nat.two_pow_pos n
  have bm : ∀ t : Nat, t ≤ 240 → ∀ {z : Int}, z.natAbs < 2 ^ n → ((t : Int) * z).natAbs ≤ 240 * (2 ^ n - 1) := fun t ht z hz => by
    rw [Int.natAbs_mul, Int.natAbs_natCast]
    exact Nat.mul_le_mul ht (by omega)
  have mul_le : ∀ {a b : Nat} {z : Int}, a ≤ b → 0 < z → (a : Int) * z ≤ (b : Int) * z := fun h hz => Int.mul_le_mul_of_nonneg_right (by omega) (by omega)
  have spl : ∀ k : Nat, k < m * f.ps.length → ∃ (t i : Nat), t < m ∧ i < f.ps.length ∧ pl f k = (at_ f i).1 + t * f.P ∧ vl f k = (at_ f i).2 + t * f.R := fun k hk => by
    have d := Nat.div_add_mod k f.ps.length
    have hi := Nat.mod_lt k R.ne
    have ht : k / f.ps.length < m := (Nat.div_lt_iff_lt_mul R.ne).mpr hk
    have e : (k : Int) = ((k / f.ps.length : Nat) : Int) * (f.ps.length : Int) + ((k % f.ps.length : Nat) : Int) := by
      rw [Nat.mul_comm] at d
      exact_mod_cast d.symm
    refine ⟨k / f.ps.length, k % f.ps.length, ht, hi, ?_, ?_⟩
    · rw [e, pl_at _ hi]
    · rw [e, vl_at _ hi]
  have Ft : Fit (ev f) (m * f.P) (m * f.R) := by
    refine ⟨Int.mul_pos (by omega) hP, Int.mul_pos (by omega) hR, fun x => ev_mono G (by omega), fun x => ?_⟩
    exact ev_shift G x m
  refine raw_of Ft (by rw [List.length_map, List.length_range]; exact hl) (fun q hq => ?_) ?_ (fun x x0 x1 x2 => ?_) (n + 9) hn ⟨?_, ?_, fun q hq => ?_⟩
  · obtain ⟨k, hk, rfl⟩ := List.mem_map.mp hq
    obtain ⟨t, i, ht, hi, e1, e2⟩ := spl k (List.mem_range.mp hk)
    have p := R.p0 i hi
    have l1 := mul_le (z := f.P) (show t + 1 ≤ m by omega) hP
    have l0 : (0 : Int) ≤ (t : Int) * f.P := Int.mul_nonneg (by omega) (by omega)
    rw [Int.natCast_succ, Int.add_mul, Int.one_mul] at l1
    refine ⟨(ev_pl G _).symm, ?_, ?_, (jump_iff G _).mpr ⟨_, rfl⟩⟩
    · show 0 ≤ pl f k
      omega
    · show pl f k < m * f.P
      omega
  · refine List.pairwise_map.mpr (List.Pairwise.imp (fun {a b} z => ?_) List.pairwise_lt_range)
    exact mono G.pm (by omega)
  · obtain ⟨k, rfl⟩ := (jump_iff G x).mp x2
    obtain ⟨t, i, hi, rfl⟩ := split G.ne k
    have p := R.p0 i hi
    rw [pl_at t hi] at x0 x1
    have t0 : 0 ≤ t := by
      rcases Int.lt_or_le t 0 with z | z
      · have := Int.mul_le_mul_of_nonneg_right (show t ≤ -1 by omega) (show 0 ≤ f.P by omega)
        omega
      · exact z
    have t1 : t < m := by
      rcases Int.lt_or_le t m with z | z
      · exact z
      · have := Int.mul_le_mul_of_nonneg_right z (show 0 ≤ f.P by omega)
        omega
    obtain ⟨s, rfl⟩ : ∃ s : Nat, t = s := ⟨t.toNat, by omega⟩
    refine List.mem_map.mpr ⟨s * f.ps.length + i, List.mem_range.mpr ?_, ?_⟩
    · have := Nat.mul_le_mul_right f.ps.length (show s + 1 ≤ m by omega)
      rw [Nat.add_mul] at this
      omega
    · rw [ev_pl G]
      have e : ((s * f.ps.length + i : Nat) : Int) = (s : Int) * (f.ps.length : Int) + (i : Int) := by simp
      show (pl f _, vl f _) = _
      rw [e]
  · have := bm m m240 B.P
    omega
  · have := bm m m240 B.R
    omega
  · obtain ⟨k, hk, rfl⟩ := List.mem_map.mp hq
    obtain ⟨t, i, ht, hi, e1, e2⟩ := spl k (List.mem_range.mp hk)
    have b := B.q _ (at_mem hi)
    have c1 := bm t (by omega) B.P
    have c2 := bm t (by omega) B.R
    constructor
    · show (pl f k).natAbs < _
      rw [e1]
      omega
    · show (vl f k).natAbs < _
      rw [e2]
      omega
end Sx
namespace Sx
theorem take_form {f r : F} (R : Raw r) (o : Ok f) (h : ∀ x, ev f x = ev r x) : r.ps.take f.ps.length = f.ps := by
  have rp := rep_row R o h
  obtain ⟨m, m0, hl, _⟩ := part_at R o h
  have fr : f.ps.length ≤ r.ps.length := by rw [hl]; exact Nat.le_mul_of_pos_right _ m0
  refine List.ext_getElem (by rw [List.length_take]; omega) fun i h1 h2 => ?_
  rw [List.getElem_take, get_at (by omega), get_at h2]
  have p1 := pl_at (f := r) (i := i) 0 (by omega)
  have v1 := vl_at (f := r) (i := i) 0 (by omega)
  have p2 := pl_at (f := f) (i := i) 0 h2
  have v2 := vl_at (f := f) (i := i) 0 h2
  rw [Int.zero_mul, Int.zero_mul, Int.zero_add, Int.add_zero] at p1 v1 p2 v2
  exact Prod.ext (by rw [← p1, ← p2, (rp _).1]) (by rw [← v1, ← v2, (rp _).2])
/-- two maps that go on by unlike amounts in one period are no one map -/
theorem ne_of_rise {f g r1 r2 : F} (R1 : Raw r1) (R2 : Raw r2) (e1 : ∀ x, ev f x = ev r1 x) (e2 : ∀ x, ev g x = ev r2 x) {a b : Int} (hP : a * r1.P = b * r2.P) (hR : a * r1.R ≠ b * r2.R) : f ≠ g := by
  intro e
  subst e
  have h1 := ev_shift R1.good 0 a
  have h2 := ev_shift R2.good 0 b
  rw [← e1, ← e1, hP] at h1
  rw [← e2, ← e2] at h2
  omega
end Sx
namespace L2
open PySem
theorem RowAt.mut {H : Hp} {r D P : Addr} {f : Sx.F} {xs ys : List V} (h : RowAt H r D f) (hP : H P = some (.lst xs)) (n1 : r ≠ P) (n2 : D ≠ P) : RowAt (upd H P (.lst ys)) r D f := by
  obtain ⟨zs, hD, hx⟩ := h.d
  exact ⟨by rw [upd_ne n1]; exact h.r, zs, by rw [upd_ne n2]; exact hD, hx.kp (Kp.mut hP rfl)⟩
theorem neD_pairs {K : PySem.W.Frag} {H : Hp} {a b : Addr} {ps qs : List (Int × Int)} {Q : V → Hp → Prop} (h1 : PairsL H a ps) (h2 : PairsL H b qs) (q : Q (.bl (!decide (ps = qs))) H) : rNeD K (.ref a) (.ref b) H Q := by
  obtain ⟨xs, e1, x1⟩ := h1
  obtain ⟨ys, e2, x2⟩ := h2
  refine ⟨_, _, .lst (SqL.of e1) (dpAll_pairs x1.1 x1.2), .lst (SqL.of e2) (dpAll_pairs x2.1 x2.2), shaped_pairs _, shaped_pairs _, ?_⟩
  rw [eqvl_pairs]
  exact q
theorem neD_pair {K : PySem.W.Frag} {H : Hp} {a b : Addr} {p q : Int × Int} {Q : V → Hp → Prop} (h1 : H a = some (.tup [.int p.1, .int p.2])) (h2 : H b = some (.tup [.int q.1, .int q.2])) (k : Q (.bl (!decide (p = q))) H) : rNeD K (.ref a) (.ref b) H Q := by
  refine ⟨.tuple ([p.1, p.2].map PyData.int), .tuple ([q.1, q.2].map PyData.int), dp_ints (SqT.of_ h1), dp_ints (SqT.of_ h2), shaped_ints _, shaped_ints _, ?_⟩
  rw [eqv_ints]
  have e : decide ([p.1, p.2] = [q.1, q.2]) = decide (p = q) := decide_eq_decide.mpr ⟨fun h => by injection h with h1 h2; injection h2 with h2 _; exact Prod.ext h1 h2, fun h => by rw [h]⟩
  rw [e]
  exact k
end L2
namespace L2
theorem ndF {p : Prop} [Decidable p] (h : (!decide p) = false) : p := by
  by_cases hp : p
  · exact hp
  · rw [decide_eq_false hp] at h
    cases h
theorem ndT {p : Prop} [Decidable p] (h : (!decide p) = true) : ¬ p := fun hp => by
  rw [decide_eq_true hp] at h
  cases h
end L2
namespace L2
theorem idLtI {a b : Int} (h : a < b) : a < b := h
theorem idLeI {a b : Int} (h : a ≤ b) : a ≤ b := h
theorem idLtN {a b : Nat} (h : a < b) : a < b := h
theorem idLeN {a b : Nat} (h : a ≤ b) : a ≤ b := h
theorem idEqI {a b : Int} (h : a = b) : a = b := h
theorem idNeI {a b : Int} (h : a ≠ b) : a ≠ b := h
theorem idEqN {a b : Nat} (h : a = b) : a = b := h
theorem idNot {p : Prop} (h : ¬ p) : ¬ p := h
end L2
namespace L2
theorem iteNF {A B : Prop} (b : B) : if (!true) = true then A else B := iteF b
theorem iteNT {A B : Prop} (a : A) : if (!false) = true then A else B := iteT a
end L2
namespace L2
theorem idR4 {a b : Int} (h : -2 ^ 62 ≤ a ∧ a < 2 ^ 62 ∧ -2 ^ 62 ≤ b ∧ b < 2 ^ 62) : -2 ^ 62 ≤ a ∧ a < 2 ^ 62 ∧ -2 ^ 62 ≤ b ∧ b < 2 ^ 62 := h
end L2

namespace L2
open PySem
/-! ### the slots, looked up and compared step by step -/
theorem wipe_get {σ : St} {vs : List Nat} {k : Nat} : (wipe σ vs)[k]? = if k ∈ vs then (if k < σ.length then some none else none) else σ[k]? := by
  by_cases h : k ∈ vs
  · rw [if_pos h]
    induction vs with
    | nil => cases h
    | cons v vs ih =>
      unfold wipe
      by_cases e : v = k
      · subst e
        by_cases hl : v < σ.length
        · rw [if_pos hl, List.getElem?_set_self (by rw [wipe_length]; exact hl)]
        · rw [if_neg hl, List.getElem?_eq_none (by rw [List.length_set, wipe_length]; omega)]
      · rw [List.getElem?_set_ne e]
        exact ih (by rcases List.mem_cons.mp h with z | z; exact absurd z.symm e; exact z)
  · rw [if_neg h]
    exact wipe_out h
theorem wipe_set {σ : St} {vs : List Nat} {i : Nat} {x : Option V} (h : i ∈ vs) : wipe (σ.set i x) vs = wipe σ vs := by
  refine List.ext_getElem? fun k => ?_
  rw [wipe_get, wipe_get, List.length_set]
  by_cases hk : k ∈ vs
  · rw [if_pos hk, if_pos hk]
  · rw [if_neg hk, if_neg hk, List.getElem?_set_ne (fun e => hk (by rw [← e]; exact h))]
theorem wipe_wipe {σ : St} {vs ws : List Nat} (h : ∀ i ∈ ws, i ∈ vs) : wipe (wipe σ ws) vs = wipe σ vs := by
  refine List.ext_getElem? fun k => ?_
  rw [wipe_get (σ := wipe σ ws), wipe_get (σ := σ) (vs := vs), wipe_length]
  by_cases hk : k ∈ vs
  · rw [if_pos hk, if_pos hk]
  · rw [if_neg hk, if_neg hk, wipe_out (fun z => hk (h k z))]
theorem wipe_l {σ r : St} {vs : List Nat} {i : Nat} {x : Option V} (h : i ∈ vs) (e : wipe σ vs = r) : wipe (σ.set i x) vs = r := (wipe_set h).trans e
theorem wipe_lw {σ r : St} {vs ws : List Nat} (h : ∀ i ∈ ws, i ∈ vs) (e : wipe σ vs = r) : wipe (wipe σ ws) vs = r := (wipe_wipe h).trans e
theorem wipe_r {σ r : St} {vs : List Nat} {i : Nat} {x : Option V} (h : i ∈ vs) (e : r = wipe σ vs) : r = wipe (σ.set i x) vs := e.trans (wipe_set h).symm
theorem wipe_rw {σ r : St} {vs ws : List Nat} (h : ∀ i ∈ ws, i ∈ vs) (e : r = wipe σ vs) : r = wipe (wipe σ ws) vs := e.trans (wipe_wipe h).symm
theorem gs_ne {l : St} {i j : Nat} {v w : Option V} (h : i ≠ j) (e : l[j]? = some w) : (l.set i v)[j]? = some w := by
  rw [List.getElem?_set_ne h]
  exact e
theorem gs_wipe {l : St} {vs : List Nat} {j : Nat} {w : Option V} (h : j ∉ vs) (e : l[j]? = some w) : (wipe l vs)[j]? = some w := by
  rw [wipe_out h]
  exact e
theorem gs_eq {l : St} {i : Nat} {v : Option V} (h : i < l.length) : (l.set i v)[i]? = some v := List.getElem?_set_self h
end L2

/-! ### several except clauses, each with a name -/
namespace L2
open PySem PySem.Spec PyProof.Rows
/-- an except suite that has a name in slot i: behind it the slot is empty -/
def outOf (D : Ends) (i : Nat) : Ends := { nx := fun τ G => D.nx (τ.set i none) G, rt := D.rt, bk := fun τ G => D.bk (τ.set i none) G, ct := fun τ G => D.ct (τ.set i none) G }
abbrev AsC := Value × Nat × (Addr → Value → Option Addr → TS)
def wAsM (K : PySem.W.Frag) (Wo : WX) (D : Ends) : List AsC → WX
  | [] => Wo
  | e :: r => fun cls d τ G => ∃ b, PySem.W.exmOne K cls e.1 = some b ∧ (b = true → ∀ a, G a = none → e.2.2 a cls d (outOf D e.2.1) (τ.set e.2.1 (some (.ref a))) G) ∧ (b = false → wAsM K Wo D r cls d τ G)
inductive AsOk (X : Cx) : List ExceptHandler → List AsC → Prop
  | nil : AsOk X [] []
  | cons {x n : Str} {c : Value} {i : Nat} {ts : Addr → Value → Option Addr → TS} {st : Stmt} {su : List Stmt} {q1 q2 : Pos} {hs : List ExceptHandler} {es : List AsC} (slot : X.N[i]? = some n) (loc : X.env.kindOf n = some .local) (nm : Names X x c)
      (does : ∀ (a : Addr) (oe : Obj) (cls : Value) (d : Option Addr) (pn : List (Addr × Obj)), Zc cls d oe → (∃ vs, oe.data = .fields vs) → PSs (X.suite a ((a, oe) :: pn)) (st :: su) (ts a cls d)) (r : AsOk X hs es) :
      AsOk X (.ExceptHandler (some (.Name x q1)) (some n) (st :: su) q2 :: hs) ((c, i, ts) :: es)
section
variable {X : Cx} {body : List Stmt} {k₀ : ExceptHandler} {ks : List ExceptHandler} {es : List AsC} {q0 : Pos} {tb : WX → TS} {Wo : WX}
theorem ps_try_asM (hst : X.stack = X.env :: X.outer) (hfr0 : X.env.frame = some X.env.locals) (hN : X.N.Nodup) (tk : Takes X Wo)
    (hb : ∀ (W : WX) (pn : List (Addr × Obj)) (xe : Value → Shared → Prop), Takes (X.tr pn xe) W → PassesOwn (model X.prog X.w) X.A X.env xe → PSs (X.tr pn xe) body (tb W)) (hk : AsOk X (k₀ :: ks) es) :
    PS X (.Try body (k₀ :: ks) [] [] q0) (fun D τ G => tb (wAsM X.K Wo D es) D τ G) := by
  refine ⟨fun pins s τ G D I g => ?_⟩
  have ok := I.ok
  have hA : X.A.frames = some (X.env :: X.outer) := by rw [ok.frames, hst]
  have after : ∀ (f : Flow) (s1 : Shared), SP (X.tr (X.pn ++ pins) (fun e z₁ => wpAny (model X.prog X.w) X.A (noteFrame e X.env) (fun _ z₂ => wpAny (model X.prog X.w) X.A (setFlight e none) (fun _ z₃ => wpAny (model X.prog X.w) X.A (handleBy e X.env (k₀ :: ks)) (SP X pins D) X.xe z₃) X.xe z₂) X.xe z₁)) [] D f s1 → SP X pins D f s1 := by
    intro f s1 q
    cases f with
    | next => obtain ⟨τ', G', J, r⟩ := q; exact ⟨τ', G', J.ofTry ok, r⟩
    | brk => obtain ⟨τ', G', J, r⟩ := q; exact ⟨τ', G', J.ofTry ok, r⟩
    | cont => obtain ⟨τ', G', J, r⟩ := q; exact ⟨τ', G', J.ofTry ok, r⟩
    | ret u => obtain ⟨v, τ', G', J, r1, r⟩ := q; exact ⟨v, τ', G', J.ofTry ok, r1, r⟩
  refine wpAny_Try_except (wpAny_mono ((hb (wAsM X.K Wo D es) (X.pn ++ pins) _ (fun u s' xx => ?_) PassesOwn.looking).run [] s τ G D (I.toTry _) g) (fun f s1 q => ?_) (fun e s1 he => he))
  · obtain ⟨a, B, sI, pins', τ', G', cls, d, rfl, J0, nb, up, sky, na, os, ag, wish⟩ := xx
    have J : Inv X pins τ' G' sI := J0.ofTry ok
    rw [show (X.tr (X.pn ++ pins) _).stack = X.env :: X.outer from hst] at sky
    refine Sky.land Zc.steady hA hfr0 sky fun h3 fl3 up3 => ?_
    have J3 : Inv X pins τ' G' { s' with heap := h3 } := J.landed nb fl3.1 (up.trans up3) os ag
    obtain ⟨oe, vs, he, hz, hd⟩ := fl3.there
    have away : a ∉ frs (X.env :: X.outer) := fun hm => by
      obtain ⟨_, o', e', hnf⟩ := fl3.2.2.1.mem hm
      rw [he] at e'
      cases e'
      exact hnf _ hd
    have awayL : a ≠ X.env.locals := fun z => away (List.mem_filterMap.mpr ⟨X.env, List.mem_cons_self, by rw [hfr0, z]⟩)
    have awayF : a ∉ X.fs := fun hm => by
      obtain ⟨e, he', q⟩ := List.mem_filterMap.mp hm
      exact away (List.mem_filterMap.mpr ⟨e, List.mem_cons_of_mem _ he', q⟩)
    have S3 := J3.suite he hd na awayL awayF
    have all : ∀ {hs : List ExceptHandler} {cs : List AsC}, AsOk X hs cs → wAsM X.K Wo D cs cls d τ' G' → wpAny (model X.prog X.w) X.A (handleBy (.ref a) X.env hs) (SP X pins D) X.xe { s' with heap := h3 } := by
      intro hs cs hk
      induction hk with
      | nil =>
        intro w
        refine wpAny_handleBy_nil ?_
        obtain ⟨k1, k2, k3, oe', vs', T, oT, ts', he', hz', hd', h1, hr⟩ := id fl3
        unfold PySem.passOn
        refine wpAny_bind (wpAny_field he' hd' h1 ?_)
        rw [if_neg (show ¬ (Value.ref T == Value.none) = true by simp)]
        have fin : wpAny (model X.prog X.w) X.A (setFlight (.ref a) X.env.frame) (fun _ z4 => wpAny (model X.prog X.w) X.A (throw (.ref a) : Sem Flow) (SP X pins D) X.xe z4) X.xe { s' with heap := h3 } := by
          rw [hfr0]
          refine HandSPX.setFlight_upZ fl3 fun h4 hh4 up4 => ?_
          refine wpAny_throw (tk _ _ ⟨a, B, sI, pins, τ', G', cls, d, rfl, J, nb, (up.trans up3).trans up4, .inr (.inr ?_), na, os, ag, w⟩)
          rw [hst]
          exact hh4
        first | exact wpAny_bind (wpAny_pure (wpAny_bind fin)) | exact wpAny_bind fin
      | @cons x n c i ts st su q1 q2 hs2 cs2 slot loc nm does r ih =>
        rintro ⟨b, hb1, hyes, hno⟩
        refine wpAny_handleBy_cons (codeAny_handlers_test ?_) (fun q => by cases q)
        have LT : PySem.W.Looks (model X.prog X.w) h3 (typeOf (.ref a)) cls := fun A Q E z k q => wpAny_typeOf_ref (k _ _ he) (by rw [hz.1]; exact q)
        have LM := PySem.W.exm_one (M := model X.prog X.w) J3.kIn LT hb1
        have named : ∀ {Q : Value → Shared → Prop} {E : Value → Shared → Prop}, Q c { s' with heap := h3 } → wpAny (model X.prog X.w) (X.A.mark (some (.ref a))) (eval (.Name x q1) X.env) Q E { s' with heap := h3 } := fun {Q E} q => by
          obtain ⟨hg, hdbg, hm | ⟨hm, hv, hnn⟩⟩ := nm
          · exact ld_glob (X := X.suite a ((a, oe) :: (X.pn ++ pins))) S3 hg hm q hdbg
          · exact ld_blt (X := X.suite a ((a, oe) :: (X.pn ++ pins))) S3 hg hm hv q hnn hdbg
        refine named (LM.here ?_)
        cases b with
        | false =>
          show wpAny _ X.A (handleBy (.ref a) X.env hs2) _ _ _
          exact ih (hno rfl)
        | true =>
          refine codeAny_handlers_suite_as (HandSPX.lands_againZ fl3 fun h4 fl4 up4 => ?_)
          have J4 : Inv X pins τ' G' { s' with heap := h4 } := J.landed nb fl4.1 ((up.trans up3).trans up4) os ag
          obtain ⟨oe4, fv4, he4, hz4, hd4⟩ := fl4.there
          have S4 := J4.suite he4 hd4 na awayL awayF
          refine store_ok (X := X.suite a ((a, oe4) :: (X.pn ++ pins))) (v := .ref a) S4 hN slot (.inl loc) rfl (fun s5 S5 => ?_) (.inr loc)
          have done_ : ∀ {τ6 : St} {G6 : Hp} {s6 : Shared} {Q : Shared → Prop}, Inv (X.suite a ((a, oe4) :: (X.pn ++ pins))) [] τ6 G6 s6 → (∀ s7, Inv X pins (τ6.set i none) G6 s7 → Q s7) →
              wpAny (model X.prog X.w) X.A (do bindName X.env n .none; unbindBehindTheSuite X.env n q2) (fun _ s7 => Q s7) X.xe s6 := fun S6 hq => gone_ok (S6.unsuite ok) hN slot loc hq
          refine wpAny_mono ((does a oe4 cls d (X.pn ++ pins) hz4 ⟨_, hd4⟩).run [] s5 _ G' _ S5 (hyes rfl a na)) (fun f s6 q => ?_) (fun _ _ z => False.elim z)
          cases f with
          | next => obtain ⟨τ6, G6, S6, q6⟩ := q; exact done_ S6 fun s7 J7 => ⟨_, _, J7, q6⟩
          | brk => obtain ⟨τ6, G6, S6, q6⟩ := q; exact done_ S6 fun s7 J7 => ⟨_, _, J7, q6⟩
          | cont => obtain ⟨τ6, G6, S6, q6⟩ := q; exact done_ S6 fun s7 J7 => ⟨_, _, J7, q6⟩
          | ret u => obtain ⟨v6, τ6, G6, S6, r6, q6⟩ := q; exact done_ S6 fun s7 J7 => ⟨_, _, _, J7, r6, q6⟩
    exact all hk wish
  · have q2 := after f s1 q
    cases f with
    | next => exact wpAny_execs_nil q2
    | brk => exact q2
    | cont => exact q2
    | ret u => exact q2
end
end L2

/-! ### a map done again and again -/
namespace Sx
/-- f, n times over -/
noncomputable def over (f : F) : Nat → Int → Int
  | 0, x => x
  | n + 1, x => ev f (over f n x)
theorem over_front (f : F) : ∀ (n : Nat) (x : Int), over f (n + 1) x = over f n (ev f x)
  | 0, _ => rfl
  | n + 1, x => by
    show ev f (over f (n + 1) x) = ev f (over f n (ev f x))
    rw [over_front f n x]
theorem over_mono {f : F} (G : Good f) : ∀ (n : Nat) {x y : Int}, x ≤ y → over f n x ≤ over f n y
  | 0, _, _, h => h
  | n + 1, _, _, h => ev_mono G (over_mono G n h)
theorem over_congr {f g : F} (h : ∀ x, ev f x = ev g x) : ∀ (n : Nat) (x : Int), over f n x = over g n x
  | 0, _ => rfl
  | n + 1, x => by
    show ev f (over f n x) = ev g (over g n x)
    rw [over_congr h n x, h]
theorem over_bd {f : F} (o : Ok f) {m : Nat} (B : Bd m f) {a : Nat} : ∀ (n : Nat) {x : Int}, x.natAbs < 2 ^ a → (over f n x).natAbs < 2 ^ (a + n * (m + 2))
  | 0, _, h => by rw [Nat.zero_mul]; exact h
  | n + 1, x, h => by
    have := ev_bdN o B (over_bd o B n h)
    rw [show a + (n + 1) * (m + 2) = a + n * (m + 2) + m + 2 by rw [Nat.add_mul]; omega]
    exact this
theorem over_jump {f : F} (n : Nat) {x : Int} (G : Good f) (h : over f (n + 1) (x - 1) < over f (n + 1) x) : ev f (x - 1) < ev f x := by
  rw [over_front, over_front] at h
  rcases Int.lt_or_eq_of_le (ev_mono G (show x - 1 ≤ x by omega)) with z | z
  · exact z
  · rw [z] at h
    exact absurd h (Int.lt_irrefl _)
theorem over_shiftA {f : F} (G : Good f) {c : Nat} (e : f.R = c * f.P) : ∀ (n : Nat) (x t : Int), over f n (x + t * f.P) = over f n x + t * (c ^ n : Nat) * f.P
  | 0, x, t => by
    show x + t * f.P = x + t * ((1 : Nat) : Int) * f.P
    rw [Int.natCast_one, Int.mul_one]
  | n + 1, x, t => by
    show ev f (over f n (x + t * f.P)) = ev f (over f n x) + t * (c ^ (n + 1) : Nat) * f.P
    rw [over_shiftA G e n x t, ev_shift G, e, Nat.pow_succ, Int.natCast_mul, ← Int.mul_assoc, Int.mul_assoc t]
theorem over_shiftB {f : F} (G : Good f) {c : Nat} (e : f.P = c * f.R) : ∀ (n : Nat) (x t : Int), over f n (x + t * ((c ^ n : Nat) * f.R)) = over f n x + t * f.R
  | 0, x, t => by
    show x + t * (((1 : Nat) : Int) * f.R) = x + t * f.R
    rw [Int.natCast_one, Int.one_mul]
  | n + 1, x, t => by
    show ev f (over f n (x + t * ((c ^ (n + 1) : Nat) * f.R))) = ev f (over f n x) + t * f.R
    have h : t * (((c ^ (n + 1) : Nat) : Int) * f.R) = (t * c) * ((c ^ n : Nat) * f.R) := by
      rw [Nat.pow_succ, Int.natCast_mul, Int.mul_comm ((c ^ n : Nat) : Int), Int.mul_assoc, ← Int.mul_assoc t]
    rw [h, over_shiftB G e n x (t * c), Int.mul_assoc, ← e, ev_shift G]
/-- what f is to f, where the period measures the rise or the rise the period -/
def Even (f : F) : Prop := (∃ c : Nat, 0 < c ∧ f.R = c * f.P) ∨ ∃ c : Nat, 0 < c ∧ f.P = c * f.R
theorem cmp_over {f h : F} (o : Ok f) (oh : Ok h) {n : Nat} (e : ∀ x, ev h x = over f (n + 1) x) (r : Even f) : Cmp h f := by
  have len := o.g.len
  rcases r with ⟨c, c0, r⟩ | ⟨c, c0, r⟩
  · left
    have P0 := o.g.P0
    have := cmpA (f := h) (g := f) (b := f) oh o o.g (R1 := f.P * (c ^ (n + 1) : Nat)) (P2 := f.P * 1) (R2 := f.R) (d := f.P) (a := (c ^ (n + 1) : Nat)) (c := 1)
      (fun x => by
        have z := over_shiftA o.g r (n + 1) x 1
        rw [Int.one_mul, Int.one_mul] at z
        rw [e, e, z, Int.mul_comm f.P])
      (fun x => by rw [Int.mul_one]; exact ev_shift1 o.g x)
      (fun x hx => by
        rw [e, e] at hx
        exact over_jump n o.g hx) P0 (by decide) rfl rfl
    omega
  · right
    have R0 := o.g.R0
    have cp : 0 < c ^ (n + 1) := Nat.pow_pos c0
    obtain ⟨m, m0, hP, hR⟩ := period_mult oh (w := (c ^ (n + 1) : Nat) * f.R) (r := f.R) (Int.mul_pos (by omega) R0) (fun x => by
      have z := over_shiftB o.g r (n + 1) x 1
      rw [Int.one_mul, Int.one_mul] at z
      rw [e, e, z])
    have hR0 := oh.g.R0
    have g1 : Int.gcd h.R f.P = h.R.natAbs := by
      exact Int.gcd_eq_natAbs_left (a := h.R) ⟨c * m, by rw [r, hR, ← Int.mul_assoc, Int.mul_comm]⟩
    rw [g1, show ((h.R.natAbs : Nat) : Int) = h.R by omega, Int.ediv_self (by omega)]
    omega
theorem Even.of_row {f r : F} (R : Raw r) (o : Ok f) (h : ∀ x, ev f x = ev r x) (e : Even r) : Even f := by
  obtain ⟨m, m0, _, p, q, _⟩ := part_at R o h
  have m1 : (m : Int) ≠ 0 := by omega
  rcases e with ⟨c, c0, e⟩ | ⟨c, c0, e⟩
  · refine .inl ⟨c, c0, Int.eq_of_mul_eq_mul_right m1 ?_⟩
    rw [q, e, ← p, Int.mul_assoc]
  · refine .inr ⟨c, c0, Int.eq_of_mul_eq_mul_right m1 ?_⟩
    rw [p, e, ← q, Int.mul_assoc]
/-- a row of one step -/
theorem one_raw {P R p v : Int} (hP : 0 < P) (hR : 0 < R) (h0 : 0 ≤ p) (h1 : p < P) {n : Nat} (B : Bd n ⟨P, R, [(p, v)]⟩) (hn : n ≤ 4000) : Raw ⟨P, R, [(p, v)]⟩ := by
  refine RawP.raw (n := n) ⟨Nat.one_pos, (show 1 ≤ 240 by decide), hP, hR, List.pairwise_singleton _ _, fun q hq => ?_, fun a ha b hb => ?_⟩ B hn
  · rw [List.mem_singleton.mp hq]
    exact ⟨h0, h1⟩
  · rw [List.mem_singleton.mp ha, List.mem_singleton.mp hb]
    show v < v + R
    omega
theorem one_form {P R p v : Int} (R' : Raw ⟨P, R, [(p, v)]⟩) {f : F} (o : Ok f) (h : ∀ x, ev f x = ev ⟨P, R, [(p, v)]⟩ x) : f.P = P ∧ f.R = R ∧ f.ps.length = 1 := by
  obtain ⟨m, m0, l, hp, hr, _⟩ := part_at R' o h
  have l' : 1 = f.ps.length * m := l
  have l1 : f.ps.length = 1 := Nat.eq_one_of_mul_eq_one_right l'.symm
  rw [l1, Nat.one_mul] at l'
  subst l'
  rw [Int.natCast_one, Int.mul_one] at hp hr
  exact ⟨hp, hr, l1⟩
/-- the map that takes x to x -/
def same : F := ⟨1, 1, [(0, 0)]⟩
theorem same_bd : Bd 2 same := ⟨by decide, by decide, fun q hq => by rw [List.mem_singleton.mp hq]; decide⟩
theorem same_raw : Raw same := one_raw (by decide) (by decide) (by decide) (by decide) same_bd (by decide)
theorem same_ok : Ok same := by
  obtain ⟨f, o, e, _⟩ := same_raw.form
  obtain ⟨h1, h2, h3⟩ := one_form same_raw o e
  refine ⟨same_raw.good, fun d hd _ => hd, fun i hi => ?_⟩
  obtain rfl : i = 0 := by
    have : i < 1 := hi
    omega
  decide
theorem same_ev (x : Int) : ev same x = x := by
  have h : InStep same x x := by
    constructor
    · have := pl_at (f := same) (i := 0) x (by decide)
      rw [show x * ((same.ps.length : Nat) : Int) + ((0 : Nat) : Int) = x by show x * 1 + 0 = x; omega] at this
      rw [this]
      show 0 + x * 1 ≤ x
      omega
    · have := pl_at (f := same) (i := 0) (x + 1) (by decide)
      rw [show (x + 1) * ((same.ps.length : Nat) : Int) + ((0 : Nat) : Int) = x + 1 by show (x + 1) * 1 + 0 = x + 1; omega] at this
      rw [this]
      show x < 0 + (x + 1) * 1
      omega
  rw [ev_of same_raw.good h]
  have := vl_at (f := same) (i := 0) x (by decide)
  rw [show x * ((same.ps.length : Nat) : Int) + ((0 : Nat) : Int) = x by show x * 1 + 0 = x; omega] at this
  rw [this]
  show 0 + x * 1 = x
  omega
theorem wild_no {f : F} (hP : f.P = 1000003) (hR : f.R = 2000003) (hl : f.ps.length = 1) : ¬ Cmp f f := by
  intro c
  unfold Cmp at c
  rw [hP, hR, hl] at c
  exact absurd c (by decide)
end Sx
namespace L2
open PySem PySem.Spec PyProof.Rows
/-- any object, by what isinstance says of it -/
def IsInt (K : PySem.W.Frag) (H : Hp) (v : V) (b : Bool) : Prop := ∃ t bi, TyX K H v t ∧ PySem.W.kitOne K t (.type "int") = some bi ∧ ((bi = false ∧ b = false) ∨ (bi = true ∧ ∃ bb, PySem.W.kitOne K t (.type "bool") = some bb ∧ b = !bb))
theorem TyX.same {K : PySem.W.Frag} {H H' : Hp} {v : V} {t : Value} (h : TyX K H v t) (s : Same H H') : TyX K H' v t := by
  cases h with
  | base h =>
    refine .base ?_
    cases h with
    | non => exact .non
    | bl => exact .bl _
    | int => exact .int _
    | str => exact .str _
    | flt => exact .flt _
    | lst e => exact .lst (s _ _ e)
    | frz e => exact .frz (s _ _ e)
    | tup e => exact .tup (s _ _ e)
    | dK e => exact .dK (s _ _ e)
    | dT e => exact .dT (s _ _ e)
    | ins e c h1 h2 h3 h4 => exact .ins (s _ _ e) c h1 h2 h3 h4
  | byt b => exact .byt b
  | set e => exact .set (s _ _ e)
  | kList e c => exact .kList e c
  | kTuple e c => exact .kTuple e c
  | kDict e c => exact .kDict e c
  | fTuple e => exact .fTuple (s _ _ e)
  | fDict e => exact .fDict (s _ _ e)
theorem IsInt.same {K : PySem.W.Frag} {H H' : Hp} {v : V} {b : Bool} (h : IsInt K H v b) (s : Same H H') : IsInt K H' v b := by
  obtain ⟨t, bi, h1, h2⟩ := h
  exact ⟨t, bi, h1.same s, h2⟩
/-- a number of times: none for what is no integer from 0 to 16 -/
def Times (K : PySem.W.Frag) (H : Hp) (v : V) : Option Nat → Prop
  | some k => v = .int k ∧ k ≤ 16
  | none => (∃ i : Int, v = .int i ∧ (i < 0 ∨ 16 < i)) ∨ IsInt K H v false
theorem Times.same {K : PySem.W.Frag} {H H' : Hp} {v : V} {o : Option Nat} (h : Times K H v o) (s : Same H H') : Times K H' v o := by
  cases o with
  | some k => exact h
  | none =>
    rcases h with h | h
    · exact .inl h
    · exact .inr (h.same s)
theorem Sh.strC {x : Str} (h : (reprText x).length ≤ 1921) : Sh 0 1921 (.str x) := ⟨rfl, rfl, Nat.le_refl _, h⟩
theorem atI_memV {xs : List V} {i : Int} (h0 : 0 ≤ i) (h1 : i < (xs.length : Int)) : ∃ z, z ∈ xs ∧ atI xs i = some z := by
  have hi : i.toNat < xs.length := by omega
  exact ⟨xs[i.toNat], List.getElem_mem hi, atI_pos h0 (List.getElem?_eq_getElem hi)⟩
/-- alike data: != is False -/
theorem neD_same {K : PySem.W.Frag} {H : Hp} {x y : V} {d : PyData} {Q : V → Hp → Prop} (h1 : Dp K H x d) (h2 : Dp K H y d) (hs : SeqAt.shaped d = true) (he : PyData.eqv d d = true) (q : Q (.bl false) H) : rNeD K x y H Q :=
  ⟨_, _, h1, h2, hs, hs, by rw [he]; exact q⟩
section
variable {X : Cx} {CX : CXT} {k : Nat} {f C : Addr} {fd : FuncData} {ps : List Str} {sp : Sp} {E : L2.St → XK} {ta tb : TE} {t : TA} {m : Str} {o e : Expr} {es : List Expr} {apos pos : Pos}
/-- o.m(..); what is raised is wished for at the slots -/
def tMethE (C : Addr) (m : Str) (sp : Sp) (E : L2.St → XK) (ta : TE) (t : TA) : TE := fun σ H Q => ta σ H fun x H1 => ∃ a dx fs, x = .ref a ∧ H1 a = some (.ins C dx fs) ∧ fs.lookup m = none ∧
  t σ H1 fun vs H2 => sp (x :: vs) H2 Q (E σ)
theorem pe_methE {pl : Sem Bool} (he : PE X o ta) (c : Cls X.K C) (hm : Meth X.K C m f) (F : FnOk X.prog X.w X.K X.mg X.base CX k f fd ps sp) (hr : Room k X.A) (hb : Binds X.K fd ps []) (hx : ∀ σ, PassesAt CX X σ (E σ)) (ha : PA X (e :: es) t)
    (hst : starEach (e :: es) X.env = (false, eval e X.env) :: starEach es X.env := by rfl) (hpl : (backTo pos (starEach es X.env)).any (·.1) = false := by rfl)
    (ht : eval (.Call (.Attribute o m apos) (e :: es) [] pos) X.env = (do
      let ov ← eval o X.env
      standAt apos.atName
      let (f, first) ← holding [ov] (getMethod ov m pl)
      callWith pos f first (backTo pos (starEach (e :: es) X.env)) (backToKw pos (keywordEach [] X.env))) := by rfl) :
    PE X (.Call (.Attribute o m apos) (e :: es) [] pos) (tMethE C m sp E ta t) := by
  refine ⟨fun pins s σ H Q I h => ?_⟩
  refine PySem.W.methodCall_KW (pl := pl) (thn (he.run pins s σ H _ I h) fun u s1 ⟨x, H1, I1, rx, a, dx, fs, ex, ea, l, q⟩ => ?_) ht
  subst ex
  obtain rfl : u = Value.ref a := rx
  refine getmeth_ok I1 ea c hm l ?_
  refine PySem.W.callWith_K (first := [.ref a]) (h₀ := X.base) I.ok.mod.kin hm.kp (thn (ha.run pos pins s1 σ H1 _ I1 q) fun us s2 ⟨vs, H2, I2, r, q2⟩ => ⟨I2.kIn, ?_⟩) hst hpl
  exact run_fnS (us := .ref a :: us) (vs := .ref a :: vs) F hr hb (hx σ) I2 (.cons rfl r) q2
/-- o OP n; what is raised is wished for at the slots -/
def tOwnSI (C : Addr) (sp : Sp) (E : L2.St → XK) (ta tb : TE) : TE := fun σ H Q => ta σ H fun x H1 => tb σ H1 fun y H2 => rOwnI C sp (E σ) x y H2 Q
theorem pe_ownSI {op : Operator} {a b : Expr} (hm : Meth X.K C (PySem.dunder op.info.2) f) (hs : PySem.W.mro2 X.K C = true) (N : PySem.W.NumI X.K C op.info.2) (F : FnOk X.prog X.w X.K X.mg X.base CX k f fd ps sp) (hr : Room k X.A) (hb : Binds X.K fd ps []) (hx : ∀ σ, PassesAt CX X σ (E σ)) (ha : PE X a ta) (hb2 : PE X b tb) :
    PE X (.BinOp a op b pos) (tOwnSI C sp E ta tb) := by
  refine ⟨fun pins s σ H Q I h => ?_⟩
  refine wpAny_BinOp (binT ha hb2 I (R := fun x y H2 => rOwnI C sp (E σ) x y H2 Q) h fun v u s2 x y H2 I2 rx ry q => ?_)
  obtain ⟨a, dx, fs, n, ex, ha, ey, h⟩ := q
  subst ex
  subst ey
  cases (show v = Value.ref a from rx)
  obtain ⟨t, rfl⟩ := (show ∃ t, u = Value.int n t from ry)
  obtain ⟨oa, Ia⟩ := inst_of I2 ha
  obtain ⟨m, Fr⟩ := I2.fr
  refine PySem.W.rx_binI Fr I2.mod.kin Ia (PySem.W.mro2_first hs) N hm.1 hm.2 (wpAny_mono (run_fnS (vs := [V.ref a, V.int n]) F hr hb (hx σ) I2 (.cons rfl (.cons ⟨t, rfl⟩ .nil)) h) (fun v s' q => ?_) fun _ _ e => e)
  obtain ⟨v', H', I', rv, q'⟩ := q
  exact cmpBack_of (relV_notImpl rv) ⟨v', H', I', rv, q'⟩
end
end L2

/-! ### x in o by o's own __contains__ -/
namespace PySem.W
open PySem PySem.Spec
variable {K : Frag} {prog : Program} {w : World} {A : Around} {s : Shared} {x C f : Addr}
theorem contains_fn {E : Value → Shared → Prop} {ox : Obj} {od : Option Obj} {v : Value} {Q : Bool → Shared → Prop} (X : K.In s.heap) (I : InstAt s.heap x ox C od)
    (hs : findIn K (.ref C) "__contains__" = some (some (.ref f))) (hf : typeIn K (.ref f) = some (.type "function")) (h : wpAny (model prog w) A (call (.ref f) [.ref x, v]) (fun r s' => ∃ b, r = .bool b ∧ Q b s') E s) :
    wpAny (model prog w) A (contains (.ref x) v) Q E s := by
  unfold contains
  refine wpAny_holding ?_
  refine wpAny_bind (wpAny_bind (I.type.here ((looks_findIn X hs).here ?_)))
  have hne : (some (Value.ref f) == some Value.none) = false := by simp
  rw [hne]
  refine wpAny_bind (wpAny_bind (wpAny_bind (I.type.here ((looks_findIn X hs).here (wpAny_holding (wpAny_bind ((bind_fn X _ hf).here ?_)))))))
  have hn2 : (Value.ref f == Value.none) = false := by simp
  show wpAny (model prog w) A (if (Value.ref f == Value.none) = true then _ else _) _ E s
  rw [hn2]
  refine wpAny_bind (wpAny_mono h (fun r s' q => ?_) fun _ _ z => z)
  obtain ⟨b, rfl, q⟩ := q
  exact wpAny_pure (wpAny_pure q)
end PySem.W

namespace L2
open PySem PySem.Spec PyProof.Rows
section
variable {X : Cx} {CX : CXT} {k : Nat} {f C : Addr} {fd : FuncData} {ps : List Str} {sp : Sp} {E : XK}
def rOwnIn (C : Addr) (sp : Sp) (E : XK) (neg : Bool) : R2 := fun x y H Q => ∃ a dx fs, y = .ref a ∧ H a = some (.ins C dx fs) ∧ sp [y, x] H (fun v H' => ∃ t, v = .bl t ∧ Q (.bl (if neg then !t else t)) H') E
theorem in_own0 {pins : List (Addr × Obj)} {σ : St} {H : Hp} {s : Shared} {a dx : Addr} {fs : List (Str × V)} {x : V} {v : Value} {R : Bool → Shared → Prop} {Q : Bool → Hp → Prop} (hm : Meth X.K C "__contains__" f) (F : FnOk X.prog X.w X.K X.mg X.base CX k f fd ps sp) (hr : Room k X.A) (hb : Binds X.K fd ps []) (hx : Passes CX X E)
    (I : Inv X pins σ H s) (ha : H a = some (.ins C dx fs)) (rx : RelV x v) (h : sp [.ref a, x] H (fun v H' => ∃ b, v = .bl b ∧ Q b H') E) (hR : ∀ b s' H', Inv X pins σ H' s' → Q b H' → R b s') : wpAny (model X.prog X.w) X.A (contains (.ref a) v) R X.xe s := by
  obtain ⟨oa, Ia⟩ := inst_of I ha
  refine PySem.W.contains_fn I.kIn Ia hm.1 (beq_iff_eq.mp hm.2) (wpAny_mono (run_fn (vs := [V.ref a, x]) (dvs := []) F hr hb .nil hx I (.cons rfl (.cons rx .nil)) h) (fun v s' q => ?_) fun _ _ e => e)
  obtain ⟨v', H', I', rv, b, ev, q'⟩ := q
  subst ev
  cases (show v = Value.bool b from rv)
  exact ⟨b, rfl, hR b s' H' I' q'⟩
theorem op_ownIn (hm : Meth X.K C "__contains__" f) (F : FnOk X.prog X.w X.K X.mg X.base CX k f fd ps sp) (hr : Room k X.A) (hb : Binds X.K fd ps []) (hx : Passes CX X E) : OpR X (compareOp .In) (rOwnIn C sp E false) := by
  intro pins s σ H x y v u Q I rx ry h
  obtain ⟨a, dx, fs, ey, ha, h⟩ := h
  subst ey
  cases (show u = Value.ref a from ry)
  exact wpAny_bind (in_own0 (Q := fun b H' => Q (.bl b) H') hm F hr hb hx I ha rx h fun b s' H' I' q => wpAny_pure ⟨.bl b, H', I', rfl, q⟩)
theorem op_ownNotIn (hm : Meth X.K C "__contains__" f) (F : FnOk X.prog X.w X.K X.mg X.base CX k f fd ps sp) (hr : Room k X.A) (hb : Binds X.K fd ps []) (hx : Passes CX X E) : OpR X (compareOp .NotIn) (rOwnIn C sp E true) := by
  intro pins s σ H x y v u Q I rx ry h
  obtain ⟨a, dx, fs, ey, ha, h⟩ := h
  subst ey
  cases (show u = Value.ref a from ry)
  exact wpAny_bind (in_own0 (Q := fun b H' => Q (.bl (!b)) H') hm F hr hb hx I ha rx h fun b s' H' I' q => wpAny_pure ⟨.bl (!b), H', I', rfl, q⟩)
end
end L2

/-! ### what the top has left, with defs at any address (properties, static methods) -/
namespace HeY
open PySem PySem.Spec PyProof.Rows
abbrev AlY : Type := He.AlD × Bool
def obsA (fa : List He.Fa) (fn : List He5.DefA) (K : PySem.W.Frag) : He.AlD := ((fa.all fun f => f.ok K) && fn.all fun d => d.ok K, fn.map fun d => He5.fnA K (d.at_ K))
def valA (fn : List He5.DefA) : He.AlD := (true, fn.map He5.DefA.val)
def asY (_ : Addr → Option Obj) (n : Nat) : List Addr := List.range n
def obsY (n : Nat) (fa : List He.Fa) (fn : List He5.DefA) (ex : PySem.W.Frag → Bool) (g : Addr → Option Obj) : AlY := (obsA fa fn (He.frT g (asY g n)), ex (He.frT g (asY g n)))
def valY (fn : List He5.DefA) : AlY := (valA fn, true)
structure SaysY (fa : List He.Fa) (fn : List He5.DefA) (ex : PySem.W.Frag → Bool) (K : PySem.W.Frag) : Prop where
  t : obsA fa fn K = valA fn
  more : ex K = true
theorem saysY_of {n : Nat} {fa : List He.Fa} {fn : List He5.DefA} {ex : PySem.W.Frag → Bool} {g : Addr → Option Obj} (e : obsY n fa fn ex g = valY fn) : SaysY fa fn ex (He.frT g (asY g n)) :=
  ⟨congrArg (fun z : AlY => z.1) e, congrArg (fun z : AlY => z.2) e⟩
def hookY (n : Nat) (fa : List He.Fa) (fn : List He5.DefA) (ex : PySem.W.Frag → Bool) : PySem.W.Hook where
  α := AlY
  obs := fun s => obsY n fa fn ex s.heap.get?
  val := fun _ => valY fn
  says := fun _ h => ∃ K : PySem.W.Frag, K.In h ∧ SaysY fa fn ex K
  of := fun _ _ e => ⟨_, He.frT_in, saysY_of e⟩
  keeps := fun _ _ _ ⟨K, hK, c⟩ k => ⟨K, PySem.W.Frag.In.keeps hK k, c⟩
theorem obsY_eq {n : Nat} {fa : List He.Fa} {fn : List He5.DefA} {ex : PySem.W.Frag → Bool} {g : Addr → Option Obj} {s : Shared} (h : ∀ a, g a = s.heap.get? a) : obsY n fa fn ex g = (hookY n fa fn ex).obs s := by
  have e : g = s.heap.get? := funext h
  rw [e] <;> rfl
section
variable {fa : List He.Fa} {fn : List He5.DefA} {ex : PySem.W.Frag → Bool} {K : PySem.W.Frag}
theorem SaysY.fact (c : SaysY fa fn ex K) (i : Nat) {f : He.Fa} (h : fa[i]? = some f := by rfl) : f.ok K = true := by
  have c1 := (Bool.and_eq_true_iff.mp (show ((fa.all fun f => f.ok K) && fn.all fun d => d.ok K) = true from congrArg (fun z : He.AlD => z.1) c.t)).1
  exact List.all_eq_true.mp c1 f (List.mem_of_getElem? h)
theorem SaysY.def_ (c : SaysY fa fn ex K) (i : Nat) {d : He5.DefA} (h : fn[i]? = some d := by rfl) : ∃ fd, L2.FunD K d.name d.qual d.params d.body d.scope (d.dvs K) (d.kws K) (d.at_ K) fd := by
  have c2 := (Bool.and_eq_true_iff.mp (show ((fa.all fun f => f.ok K) && fn.all fun d => d.ok K) = true from congrArg (fun z : He.AlD => z.1) c.t)).2
  have e : fn.map (fun d => He5.fnA K (d.at_ K)) = fn.map He5.DefA.val := congrArg (fun z : He.AlD => z.2) c.t
  have e2 : (fn.map fun d => He5.fnA K (d.at_ K))[i]? = (fn.map He5.DefA.val)[i]? := by rw [e]
  rw [List.getElem?_map, List.getElem?_map, h] at e2
  exact He5.DefA.funD (Option.some.inj e2) (List.all_eq_true.mp c2 d (List.mem_of_getElem? h))
end
end HeY
namespace L2
open PySem PySem.Spec PyProof.Rows
def propB (K : PySem.W.Frag) (C : Addr) (m : Str) : Bool := decide (PySem.W.findIn K (.ref C) m = some (some (.ref (He.ma K C m)))) && (decide (PySem.W.specialIn K (.ref (He.ma K C m)) "__get__" = some (some (.builtin "property.__get__"))) && (decide (PySem.W.takesIn K (.ref (He.ma K C m)) = some true) && (match PySem.W.recIn K (He.ma K C m) "property" with
  | some (.ref _ :: _) => true
  | _ => false)))
theorem propB_ok {K : PySem.W.Frag} {C : Addr} {m : Str} (h : propB K C m = true) : PropOf K C m (He.ma K C m) (He5.wf K C "property" m) := by
  obtain ⟨h1, h⟩ := Bool.and_eq_true_iff.mp h
  obtain ⟨h2, h⟩ := Bool.and_eq_true_iff.mp h
  obtain ⟨h3, h4⟩ := Bool.and_eq_true_iff.mp h
  refine ⟨of_decide_eq_true h1, of_decide_eq_true h2, of_decide_eq_true h3, ?_⟩
  unfold He5.wf
  split at h4
  · rename_i f r e
    exact ⟨r, by rw [e]⟩
  · cases h4
end L2
namespace L2
open PySem PySem.Spec PyProof.Rows
section
variable {X : Cx}
/-- max, min whose value gets a name -/
theorem call_max2V (hc : X.calm = true) : CallR X (.builtin "max") (fun xs H Q => ∃ i j, xs = [.int i, .int j] ∧ ∀ m : Int, m = max i j → Q (.int m) H) := by
  intro pins s σ H xs us Q I r h
  obtain ⟨i, j, e, q⟩ := h
  exact call_max2 hc pins s σ H xs us Q I r ⟨i, j, e, q _ (by split <;> omega)⟩
theorem call_min2V (hc : X.calm = true) : CallR X (.builtin "min") (fun xs H Q => ∃ i j, xs = [.int i, .int j] ∧ ∀ m : Int, m = min i j → Q (.int m) H) := by
  intro pins s σ H xs us Q I r h
  obtain ⟨i, j, e, q⟩ := h
  exact call_min2 hc pins s σ H xs us Q I r ⟨i, j, e, q _ (by split <;> omega)⟩
end
end L2

/-! ### layers as step maps -/
namespace Cn
open Gr
/-- places p and values v that go on by (P, R) after N steps -/
structure Stair (p v : Int → Int) (N : Nat) (P R : Int) : Prop where
  N0 : 0 < N
  pm : ∀ k, p k < p (k + 1)
  vm : ∀ k, v k < v (k + 1)
  ps : ∀ k, p (k + N) = p k + P
  vs : ∀ k, v (k + N) = v k + R
open Classical in
/-- the value of the last place up to x -/
noncomputable def stair (p v : Int → Int) (x : Int) : Int := if h : ∃ k, p k ≤ x ∧ x < p (k + 1) then v (Classical.choose h) else 0
theorem up_le {p : Int → Int} (h : ∀ k, p k < p (k + 1)) {a b : Int} (hab : a ≤ b) : p a ≤ p b := by
  obtain ⟨n, rfl⟩ : ∃ n : Nat, b = a + n := ⟨(b - a).toNat, by omega⟩
  induction n with
  | zero => rw [show a + ((0 : Nat) : Int) = a by omega]; exact Int.le_refl _
  | succ n ih =>
    have := h (a + n)
    rw [show a + ((n + 1 : Nat) : Int) = a + n + 1 by omega]
    have := ih (by omega)
    omega
theorem up_lt {p : Int → Int} (h : ∀ k, p k < p (k + 1)) {a b : Int} (hab : a < b) : p a < p b := by
  have h1 := h a
  have h2 := up_le h (show a + 1 ≤ b by omega)
  omega
theorem Stair.ex {p v : Int → Int} {N : Nat} {P R : Int} (S : Stair p v N P R) (x : Int) : ∃ k, p k ≤ x ∧ x < p (k + 1) := by
  have key : ∀ d : Int, ∃ k, p k ≤ p 0 + d ∧ p 0 + d < p (k + 1) := by
    refine int_all ⟨0, by omega, by have := S.pm 0; omega⟩ (fun d ⟨k, h1, h2⟩ => ?_) (fun d ⟨k, h1, h2⟩ => ?_)
    · by_cases h : p 0 + (d + 1) < p (k + 1)
      · exact ⟨k, by omega, h⟩
      · exact ⟨k + 1, by omega, by have := S.pm (k + 1); omega⟩
    · by_cases h : p k ≤ p 0 + d
      · exact ⟨k, h, by omega⟩
      · refine ⟨k - 1, ?_, ?_⟩
        · have := S.pm (k - 1)
          rw [show k - 1 + 1 = k by omega] at this
          omega
        · rw [show k - 1 + 1 = k by omega]
          omega
  have := key (x - p 0)
  rw [show p 0 + (x - p 0) = x by omega] at this
  exact this
theorem stair_eq {p v : Int → Int} (pm : ∀ k, p k < p (k + 1)) {x k : Int} (h1 : p k ≤ x) (h2 : x < p (k + 1)) : stair p v x = v k := by
  have h : ∃ k, p k ≤ x ∧ x < p (k + 1) := ⟨k, h1, h2⟩
  unfold stair
  rw [dif_pos h]
  obtain ⟨c1, c2⟩ := Classical.choose_spec h
  generalize Classical.choose h = c at c1 c2
  have : c = k := by
    rcases Int.lt_trichotomy c k with z | z | z
    · have := up_le pm (show c + 1 ≤ k by omega)
      omega
    · exact z
    · have := up_le pm (show k + 1 ≤ c by omega)
      omega
  rw [this]
theorem shiftT {p : Int → Int} {N : Nat} {P : Int} (h : ∀ k, p (k + N) = p k + P) (k : Int) : ∀ t : Int, p (k + t * N) = p k + t * P := by
  refine int_all (by rw [Int.zero_mul, Int.zero_mul, Int.add_zero, Int.add_zero]) (fun t ih => ?_) (fun t ih => ?_)
  · rw [Int.add_mul, Int.one_mul, Int.add_mul, Int.one_mul, ← Int.add_assoc, h, ih]
    omega
  · rw [Int.add_mul, Int.one_mul, Int.add_mul, Int.one_mul, ← Int.add_assoc, h] at ih
    omega
section
variable {p v : Int → Int} {N : Nat} {P R : Int}
theorem Stair.P0 (S : Stair p v N P R) : 0 < P := by
  have h1 := S.ps 0
  have h2 := up_lt S.pm (show (0 : Int) < 0 + N by have := S.N0; omega)
  omega
theorem Stair.R0 (S : Stair p v N P R) : 0 < R := by
  have h1 := S.vs 0
  have h2 := up_lt S.vm (show (0 : Int) < 0 + N by have := S.N0; omega)
  omega
theorem Stair.fit (S : Stair p v N P R) : Sx.Fit (stair p v) P R := by
  refine ⟨S.P0, S.R0, fun x => ?_, fun x => ?_⟩
  · obtain ⟨k, h1, h2⟩ := S.ex x
    obtain ⟨j, h3, h4⟩ := S.ex (x - 1)
    rw [stair_eq S.pm h1 h2, stair_eq S.pm h3 h4]
    refine up_le S.vm ?_
    rcases Int.lt_or_le k j with z | z
    · have := up_le S.pm (show k + 1 ≤ j by omega)
      omega
    · exact z
  · obtain ⟨k, h1, h2⟩ := S.ex x
    have h3 := S.ps k
    have h4 := S.ps (k + 1)
    rw [show k + 1 + (N : Int) = k + N + 1 by omega] at h4
    rw [stair_eq S.pm h1 h2, stair_eq S.pm (k := k + N) (by omega) (by omega), S.vs]
theorem Stair.jump (S : Stair p v N P R) {x : Int} (h : stair p v (x - 1) < stair p v x) : ∃ k, x = p k := by
  obtain ⟨k, h1, h2⟩ := S.ex x
  by_cases h3 : p k ≤ x - 1
  · rw [stair_eq S.pm h1 h2, stair_eq S.pm h3 (by omega)] at h
    exact absurd h (Int.lt_irrefl _)
  · exact ⟨k, by omega⟩
theorem Stair.told (S : Stair p v N P R) (hN : N ≤ 240) : Sx.Told (stair p v) P R ((List.range N).map fun k : Nat => (p k, v k)) := by
  have N0 := S.N0
  refine ⟨S.fit, ?_, by rw [List.length_map, List.length_range]; exact hN, fun q hq => ?_, fun x hx => ?_⟩
  · intro z
    have := congrArg List.length z
    rw [List.length_map, List.length_range] at this
    have h0 : N = 0 := this
    omega
  · obtain ⟨k, _, rfl⟩ := List.mem_map.mp hq
    exact (stair_eq S.pm (Int.le_refl _) (S.pm _)).symm
  · obtain ⟨k, rfl⟩ := S.jump hx
    obtain ⟨t, u, ht, rfl⟩ := Sx.mod_turn k N0
    refine ⟨(p t, v t), List.mem_map.mpr ⟨t, List.mem_range.mpr ht, rfl⟩, u, ?_⟩
    exact shiftT S.ps t u
end
/-! ### a grain's cells -/
theorem firstOf_turn {ls : List Int} {st : Int} (hn : ls ≠ []) (k : Int) : firstOf ls st (k + ls.length) = firstOf ls st k + ls.sum := by
  have hl : (0 : Int) < ls.length := by have := List.length_pos_iff.mpr hn; omega
  unfold firstOf
  rw [Int.add_emod_right, Int.add_ediv_of_dvd_right (Int.dvd_refl _), Int.ediv_self (by omega), Int.add_mul, Int.one_mul]
  omega
section
variable {ls : List Int} {st : Int}
theorem fst_up (h : Row ls) : ∀ k, firstOf ls st k < firstOf ls st (k + 1) := fun k => firstOf_lt h.ne h.p (by omega)
/-- cut down to the first moment of the cell -/
noncomputable def cutF (ls : List Int) (st : Int) : Int → Int := stair (firstOf ls st) (firstOf ls st)
theorem cut_stair (h : Row ls) : Stair (firstOf ls st) (firstOf ls st) ls.length ls.sum ls.sum :=
  ⟨List.length_pos_iff.mpr h.ne, fst_up h, fst_up h, firstOf_turn h.ne, firstOf_turn h.ne⟩
theorem cut_eq (h : Row ls) {x k : Int} (c : InCell ls st x k) : cutF ls st x = firstOf ls st k := stair_eq (fst_up h) c.1 c.2
/-- the number of the cell -/
noncomputable def numF (ls : List Int) (st : Int) : Int → Int := stair (firstOf ls st) fun k => k
theorem num_stair (h : Row ls) : Stair (firstOf ls st) (fun k => k) ls.length ls.sum ls.length :=
  ⟨List.length_pos_iff.mpr h.ne, fst_up h, fun k => by omega, firstOf_turn h.ne, fun k => rfl⟩
theorem num_eq (h : Row ls) {x k : Int} (c : InCell ls st x k) : numF ls st x = k := stair_eq (v := fun k => k) (fst_up h) c.1 c.2
/-- raised to the first moment of a cell -/
noncomputable def upF (ls : List Int) (st : Int) : Int → Int := stair (fun k => firstOf ls st k + 1) fun k => firstOf ls st (k + 1)
theorem up_stair (h : Row ls) : Stair (fun k => firstOf ls st k + 1) (fun k => firstOf ls st (k + 1)) ls.length ls.sum ls.sum :=
  ⟨List.length_pos_iff.mpr h.ne, fun k => by have := fst_up (st := st) h k; omega, fun k => fst_up h _, fun k => by rw [firstOf_turn h.ne]; omega, fun k => by rw [show k + (ls.length : Int) + 1 = k + 1 + ls.length by omega, firstOf_turn h.ne]⟩
theorem up_eq1 (h : Row ls) {x k : Int} (c : InCell ls st x k) (e : firstOf ls st k = x) : upF ls st x = x := by
  have := stair_eq (p := fun k => firstOf ls st k + 1) (v := fun k => firstOf ls st (k + 1)) (up_stair h).pm (x := x) (k := k - 1)
    (by have := fst_up (st := st) h (k - 1); rw [show k - 1 + 1 = k by omega] at this; show firstOf ls st (k - 1) + 1 ≤ x; omega)
    (by show x < firstOf ls st (k - 1 + 1) + 1; rw [show k - 1 + 1 = k by omega]; omega)
  unfold upF
  rw [this, show k - 1 + 1 = k by omega, e]
theorem up_eq2 (h : Row ls) {x k : Int} (c : InCell ls st x k) (e : firstOf ls st k ≠ x) : upF ls st x = firstOf ls st (k + 1) := by
  have c1 := c.1
  have c2 := c.2
  exact stair_eq (p := fun k => firstOf ls st k + 1) (v := fun k => firstOf ls st (k + 1)) (up_stair h).pm (x := x) (k := k) (by show firstOf ls st k + 1 ≤ x; omega) (by show x < firstOf ls st (k + 1) + 1; omega)
/-- the ways with ties -/
inductive Tie where
  | early
  | late
  | even
/-- the least integer of cell k that is rounded up -/
def nearFrom (ls : List Int) (st : Int) (t : Tie) (k : Int) : Int := match t with
  | .early => (firstOf ls st k + firstOf ls st (k + 1)) / 2 + 1
  | .late => (firstOf ls st k + firstOf ls st (k + 1) + 1) / 2
  | .even => if k % 2 = 0 then (firstOf ls st k + firstOf ls st (k + 1)) / 2 + 1 else (firstOf ls st k + firstOf ls st (k + 1) + 1) / 2
theorem nearFrom_in (h : Row ls) (t : Tie) (k : Int) : firstOf ls st k < nearFrom ls st t k ∧ nearFrom ls st t k ≤ firstOf ls st (k + 1) := by
  have := fst_up (st := st) h k
  cases t with
  | early =>
    unfold nearFrom
    dsimp only
    omega
  | late =>
    unfold nearFrom
    dsimp only
    omega
  | even =>
    unfold nearFrom
    dsimp only
    split <;> omega
/-- how many turns a rounding takes to repeat -/
def turnsOf (ls : List Int) : Tie → Nat
  | .even => if ls.length % 2 = 1 then 2 else 1
  | _ => 1
theorem nearFrom_turn (h : Row ls) (t : Tie) (k : Int) : nearFrom ls st t (k + (turnsOf ls t * ls.length : Nat)) = nearFrom ls st t k + (turnsOf ls t : Int) * ls.sum := by
  have f1 : firstOf ls st (k + (turnsOf ls t * ls.length : Nat)) = firstOf ls st k + (turnsOf ls t : Int) * ls.sum := by
    rw [Int.natCast_mul]
    exact shiftT (firstOf_turn h.ne) k _
  have f2 : firstOf ls st (k + (turnsOf ls t * ls.length : Nat) + 1) = firstOf ls st (k + 1) + (turnsOf ls t : Int) * ls.sum := by
    rw [show k + ((turnsOf ls t * ls.length : Nat) : Int) + 1 = k + 1 + (turnsOf ls t : Int) * ls.length by rw [Int.natCast_mul]; omega]
    exact shiftT (firstOf_turn h.ne) (k + 1) _
  generalize hD : (turnsOf ls t : Int) * ls.sum = D at f1 f2 ⊢
  cases t with
  | early =>
    unfold nearFrom
    dsimp only
    rw [f1, f2]
    omega
  | late =>
    unfold nearFrom
    dsimp only
    rw [f1, f2]
    omega
  | even =>
    have hp : (k + (turnsOf ls .even * ls.length : Nat)) % 2 = k % 2 := by
      have : (turnsOf ls .even * ls.length) % 2 = 0 := by
        unfold turnsOf
        dsimp only
        split <;> omega
      omega
    unfold nearFrom
    dsimp only
    rw [f1, f2, hp]
    split <;> omega
/-- rounded to the nearest first moment -/
noncomputable def nearF (ls : List Int) (st : Int) (t : Tie) : Int → Int := stair (nearFrom ls st t) fun k => firstOf ls st (k + 1)
theorem near_stair (h : Row ls) (t : Tie) : Stair (nearFrom ls st t) (fun k => firstOf ls st (k + 1)) (turnsOf ls t * ls.length) ((turnsOf ls t : Int) * ls.sum) ((turnsOf ls t : Int) * ls.sum) := by
  refine ⟨?_, fun k => ?_, fun k => fst_up h _, nearFrom_turn h t, fun k => ?_⟩
  · refine Nat.mul_pos ?_ (List.length_pos_iff.mpr h.ne)
    cases t <;> unfold turnsOf <;> dsimp only <;> first | decide | (split <;> decide)
  · have h1 := (nearFrom_in (st := st) h t k).2
    have h2 := (nearFrom_in (st := st) h t (k + 1)).1
    omega
  · rw [show k + ((turnsOf ls t * ls.length : Nat) : Int) + 1 = k + 1 + (turnsOf ls t : Int) * ls.length by rw [Int.natCast_mul]; omega]
    exact shiftT (firstOf_turn h.ne) (k + 1) _
theorem near_eq1 (h : Row ls) {t : Tie} {x k : Int} (c : InCell ls st x k) (e : nearFrom ls st t k ≤ x) : nearF ls st t x = firstOf ls st (k + 1) := by
  have h2 := (nearFrom_in (st := st) h t (k + 1)).1
  have c2 := c.2
  exact stair_eq (v := fun k => firstOf ls st (k + 1)) (near_stair h t).pm e (by omega)
theorem near_eq2 (h : Row ls) {t : Tie} {x k : Int} (c : InCell ls st x k) (e : x < nearFrom ls st t k) : nearF ls st t x = firstOf ls st k := by
  have h1 := (nearFrom_in (st := st) h t (k - 1)).2
  rw [show k - 1 + 1 = k by omega] at h1
  have c1 := c.1
  have := stair_eq (p := nearFrom ls st t) (v := fun k => firstOf ls st (k + 1)) (near_stair h t).pm (x := x) (k := k - 1) (by omega) (by rw [show k - 1 + 1 = k by omega]; exact e)
  rw [show k - 1 + 1 = k by omega] at this
  exact this
/-- the first moment of a cell -/
theorem beg_stair (h : Row ls) : Stair (fun k => k) (firstOf ls st) ls.length ls.length ls.sum :=
  ⟨List.length_pos_iff.mpr h.ne, fun k => by omega, fst_up h, fun k => rfl, firstOf_turn h.ne⟩
theorem beg_eq (x : Int) : stair (fun k => k) (firstOf ls st) x = firstOf ls st x := stair_eq (p := fun k => k) (fun k => by omega) (Int.le_refl _) (by omega)
end
end Cn

/-! ### C.m(..), m a static method -/
namespace L2
open PySem PySem.Spec PyProof.Rows
/-- C.m is a static method: its record at p, its def at g -/
structure SMet (K : PySem.W.Frag) (C : Addr) (m : Str) (p g : Addr) : Prop where
  at_ : PySem.W.findCls K (.ref C) (.type "type") m = some (.get (.builtin "staticmethod.__get__") (.ref p) .none (.ref C))
  rc : ∃ rest, PySem.W.recIn K p "staticmethod" = some (.ref g :: rest)
  kp : PySem.W.keepIn K (.ref g) = true
def smB (K : PySem.W.Frag) (C : Addr) (m : Str) : Bool := He5.wrapB K C "staticmethod" "staticmethod.__get__" m && PySem.W.keepIn K (.ref (He5.wf K C "staticmethod" m))
theorem smB_ok {K : PySem.W.Frag} {C : Addr} {m : Str} (h : smB K C m = true) : SMet K C m (He.ma K C m) (He5.wf K C "staticmethod" m) := by
  obtain ⟨h1, h2⟩ := Bool.and_eq_true_iff.mp h
  obtain ⟨h3, h4⟩ := He5.wrapB_ok h1
  exact ⟨h3, h4, h2⟩
/-- attributes of C are read as type.__getattribute__ reads them -/
def creadB (K : PySem.W.Frag) (C : Addr) : Bool := PySem.W.readsIn K C (.type "type") && decide (PySem.W.specialIn K (.ref C) "__getattribute__" = some (some (.builtin "type.__getattribute__")))
theorem creadB_ok {K : PySem.W.Frag} {C : Addr} (h : creadB K C = true) : ClX.CRead K C (.type "type") := by
  obtain ⟨h1, h2⟩ := Bool.and_eq_true_iff.mp h
  exact ⟨h1, of_decide_eq_true h2⟩
section
variable {X : Cx} {CX : CXT} {k : Nat} {C p g : Addr} {fd : FuncData} {ps : List Str} {sp : Sp} {dvs : List V} {ds : List Value} {E : XK} {o e : Expr} {es : List Expr} {m : Str} {pos apos : Pos} {ta : TE} {t : TA} {pl : Sem Bool}
/-- e.m(..), e the class at C, m a static method -/
def tSMeth (C : Addr) (sp : Sp) (dvs : List V) (E : XK) (ta : TE) (t : TA) : TE := fun σ H Q => ta σ H fun x H1 => x = .ref C ∧ t σ H1 fun vs H2 => sp (vs ++ dvs) H2 Q E
theorem getsm_ok {pins : List (Addr × Obj)} {σ : L2.St} {H : Hp} {s : Shared} {A : Around} {E' : Value → Shared → Prop} {Q : Value × List Value → Shared → Prop} (I : Inv X pins σ H s) (r : ClX.CRead X.K C (.type "type")) (k : SMet X.K C m p g)
    (h : ∀ s', Inv X pins σ H s' → Q (.ref g, []) s') : wpAny (model X.prog X.w) A (getMethod (.ref C) m pl) Q E' s := by
  obtain ⟨rest, hp⟩ := k.rc
  refine PySem.W.method_cls I.kIn r.ga (PySem.W.cls_bind I.kIn r.rd k.at_ ?_)
  exact wpAny_call (PySem.W.sm_get (s := { s with toks := s.toks + 1 }) I.kIn hp (PySem.W.handed_on rfl (h _ (I.tok _))))
theorem pe_smeth (he : PE X o ta) (r : ClX.CRead X.K C (.type "type")) (c : SMet X.K C m p g) (F : FnOk X.prog X.w X.K X.mg X.base CX k g fd ps sp) (hr : Room k X.A) (hb : Binds X.K fd ps ds) (hd : Vals dvs ds) (hx : Passes CX X E) (ha : PA X (e :: es) t)
    (hst : starEach (e :: es) X.env = (false, eval e X.env) :: starEach es X.env := by rfl) (hpl : (backTo pos (starEach es X.env)).any (·.1) = false := by rfl)
    (ht : eval (.Call (.Attribute o m apos) (e :: es) [] pos) X.env = (do
      let ov ← eval o X.env
      standAt apos.atName
      let (f, first) ← holding [ov] (getMethod ov m pl)
      callWith pos f first (backTo pos (starEach (e :: es) X.env)) (backToKw pos (keywordEach [] X.env))) := by rfl) :
    PE X (.Call (.Attribute o m apos) (e :: es) [] pos) (tSMeth C sp dvs E ta t) := by
  refine ⟨fun pins s σ H Q I h => ?_⟩
  refine PySem.W.methodCall_KW (pl := pl) (thn (he.run pins s σ H _ I h) fun u s1 ⟨x, H1, I1, rx, ex, q⟩ => ?_) ht
  subst ex
  obtain rfl : u = Value.ref C := rx
  refine getsm_ok I1 r c fun s2 I2 => ?_
  refine PySem.W.callWith_K (first := []) (h₀ := X.base) I.ok.mod.kin c.kp (thn (ha.run pos pins s2 σ H1 _ I2 q) fun us s3 ⟨vs, H2, I3, rv, q2⟩ => ⟨I3.kIn, ?_⟩) hst hpl
  exact run_fn F hr hb hd hx I3 rv q2
end
end L2
/-! ### len(o) by o's own __len__ -/
namespace L2
open PySem PySem.Spec PyProof.Rows
section
variable {X : Cx} {CX : CXT} {k : Nat} {f C : Addr} {fd : FuncData} {ps : List Str} {sp : Sp} {E : XK}
def rOwnLen (C : Addr) (sp : Sp) (E : XK) : List V → Hp → VK → Prop := fun xs H Q => ∃ a dx fs, xs = [.ref a] ∧ H a = some (.ins C dx fs) ∧ sp xs H (fun v H' => ∃ n : Nat, v = .int (n : Int) ∧ n < 2 ^ 62 ∧ Q (.int (n : Int)) H') E
theorem call_lenOwn (hm : Meth X.K C "__len__" f) (F : FnOk X.prog X.w X.K X.mg X.base CX k f fd ps sp) (hr : Room (k + 1) X.A) (hb : Binds X.K fd ps []) (hx : Passes CX X E) : CallR X (.builtin "len") (rOwnLen C sp E) := by
  intro pins s σ H xs us Q I r h
  obtain ⟨a, dx, fs, ex, ha, h⟩ := h
  subst ex
  obtain ⟨u, rfl, r1⟩ := vals1 r
  cases (show u = Value.ref a from r1)
  obtain ⟨oa, Ia⟩ := inst_of I ha
  refine Calls.call_function_entry PySem.kind_len PySem.plain_len PySem.entry_len (PySem.args_len1 _) ?_
  unfold Builtin.«len»
  refine wpAny_bind (m := oneArg "len" _) (wpAny_pure ?_)
  refine wpAny_bind (m := callSpecial? (.ref a) (Str.ofString "__len__")) (PySem.W.special_fn I.kIn Ia hm.1 (beq_iff_eq.mp hm.2) (wpAny_mono (run_fn1 F hr hb hx I r h) (fun v s' q => ?_) fun _ _ e => e))
  obtain ⟨v', H', I', rv, n, ev, hn, q'⟩ := q
  subst ev
  obtain ⟨t, rfl⟩ := (show ∃ t, v = Value.int (n : Int) t from rv)
  refine wpAny_bind (wpAny_holding (wpAny_pure ?_))
  refine wpAny_bind (wpAny_letGo ?_)
  show wpAny _ _ (if ((n : Nat) : Int) < 0 then _ else _) _ _ _
  rw [if_neg (by omega)]
  show wpAny _ _ (if ((n : Nat) : Int) ≥ 2 ^ 63 then _ else _) _ _ _
  rw [if_neg (by have : (2 : Nat) ^ 62 = 4611686018427387904 := by decide
                 have : (2 : Int) ^ 63 = 9223372036854775808 := by decide
                 omega)]
  exact wpAny_bind (wpAny_mkInt (wpAny_pure ⟨_, rfl, .int _, H', I'.tok _, ⟨_, rfl⟩, q'⟩))
end
end L2

/-! ### def __init__(self, *v), called with positional arguments -/
namespace L2
open PySem PySem.Spec PyProof.Rows PyProof.V
def FnV (P : Program) (w : World) (K : PySem.W.Frag) (mg : Str → Option Value) (base : Heap) (CX : CXT) (k : Nat) (f : Addr) (sp : Sp) : Prop :=
  ∀ (A : Around) (outer : List Env) (s : Shared) (H : Hp) (u0 : Value) (us : List Value) (v0 : V) (vs : List V) (Q : VK) (E : XK), Room k A → Env0 P w K mg base A outer s H → RelV v0 u0 → Vals vs us → vs.length ≤ sizeLine →
    (∀ p, H p = none → sp [v0, .ref p] (upd H p (.tup vs)) Q E) →
    codeAny (model P w) A (.call (.ref f) ⟨u0 :: us, []⟩) (CR CX outer P w H s Q E) s
section
variable {CX : CXT} {P : Program} {w : World} {K : PySem.W.Frag} {mg : Str → Option Value} {base : Heap} {k : Nat} {f : Addr} {x qual : Str} {params : Arguments} {body : List Stmt} {scope : Scope} {dvs : List V} {kws : List (Str × V)} {fd : FuncData} {N : List Str} {sp : Sp} {p0 pv : Str}
theorem FunD.okV (F : FunD K x qual params body scope dvs kws f fd) (S : FnScope N [p0, pv] scope) (hdv : dvs = []) (hCX : StX.CXUp CX)
    (hb : ∀ (kV doc pm : Value) (an : Option Addr) (cdv ct : Value) (u0 r : Value) (rs : List Value), bindArgs (PySem.W.fnOf x qual params body scope .none kV doc pm an cdv ct) ⟨u0 :: r :: rs, []⟩ = (newTuple (r :: rs) >>= fun t => pure [(p0, u0), (pv, t)]))
    (hb0 : ∀ (kV doc pm : Value) (an : Option Addr) (cdv ct : Value) (u0 : Value), bindArgs (PySem.W.fnOf x qual params body scope .none kV doc pm an cdv ct) ⟨[u0], []⟩ = (newTuple [] >>= fun t => pure [(p0, u0), (pv, t)]))
    (hbody : ∀ (cdv : Value) (A : Around) (outer : List Env) (s : Shared) (H : Hp) (vs : List V) (Q : VK) (E : XK), Room k (A.deeper (envOfC qual scope s.heap.objs.size f cdv)) → vs.length = 2 → sp vs H Q E →
      ∃ t, PSs (cxOf CX P w K mg base N qual scope f cdv A outer s H E) body t ∧ t { nx := fun _ H' => Q .non H', rt := Q } (start N vs) H) :
    FnV P w K mg base CX (k + 1) f sp := by
  obtain ⟨oc, od, dV, kV, doc, pm, an, cdv, ct, osl, rfl, lk, hcd, hD, _⟩ := F.ex
  obtain rfl : dV = .none := by
    rcases hD with ⟨_, e⟩ | ⟨e, _⟩
    · exact e
    · exact absurd hdv e
  intro A outer s H u0 us v0 vs Q E hr e0 r0 r hz hq
  have hn : H s.heap.objs.size = Option.none := e0.hok.fresh (Nat.le_refl _)
  have hl2 : us.length ≤ sizeLine := by rw [← r.length]; exact hz
  refine StX.run_bnd lk hcd S hr e0 (G := fun xs H2 => ∃ p, H p = Option.none ∧ xs = [v0, V.ref p] ∧ H2 = upd H p (.tup vs)) (fun A' Ex Q' h => ?_) fun s2 H2 xs hh hr' => ?_
  · have fin : ∀ us' : List Value, us' = us → bindArgs (PySem.W.fnOf x qual params body scope .none kV doc pm an cdv ct) ⟨u0 :: us', []⟩ = (newTuple us' >>= fun t => pure [(p0, u0), (pv, t)]) → wpAny (model P w) A' (bindArgs (PySem.W.fnOf x qual params body scope .none kV doc pm an cdv ct) ⟨u0 :: us', []⟩) Q' Ex s := fun us' eu e => by
      subst eu
      rw [e]
      refine wpAny_bind (wpAny_newTuple (wpAny_pure ?_) hl2)
      have new : ObjOk P w (upd H s.heap.objs.size (.tup vs)) (s.heap.push ({ cls := .type "tuple", data := .seq us'.toArray } : Obj)) s.heap.objs.size (.tup vs) := ⟨hz, us', r, ⟨_, Heap.get?_push_size _ rfl, rfl, _, rfl⟩⟩
      have un := StX.un_laid (fs := frs outer) (s := s) (o := ({ cls := .type "tuple", data := .seq us'.toArray } : Obj)) (u := .tup vs) hn
      exact h _ _ [v0, V.ref s.heap.objs.size] [u0, Value.ref s.heap.objs.size] (StX.env0_laid e0 new) un rfl (fun e s' => hCX outer s H _ _ E e s' un (fun b o q => Heap.get?_push_of_some _ q) rfl) (.cons r0 (.cons rfl .nil)) rfl ⟨_, hn, rfl, rfl⟩
    cases us with
    | nil => exact fin [] rfl (hb0 _ _ _ _ _ _ _)
    | cons u us => exact fin (u :: us) rfl (hb _ _ _ _ _ _ _ _ _)
  · obtain ⟨p, hp, ex, eH⟩ := hh
    subst ex eH
    exact hbody cdv A outer s2 _ _ Q E hr' rfl (hq p hp)
end
section
variable {X : Cx} {CX : CXT} {k : Nat} {f C : Addr} {sp : Sp} {E : L2.St → XK} {x : Str} {p pos : Pos} {e : Expr} {es : List Expr} {t : TA}
/-- C(e, ..) -/
def tMakeV (C : Addr) (sp : Sp) (E : L2.St → XK) (t : TA) : TE := fun σ H Q => t σ H fun vs H2 => vs.length ≤ sizeLine ∧
  ∀ x dx pt, H2 x = none → H2 dx = none → dx ≠ x → H2 pt = none → pt ≠ x → pt ≠ dx → sp [.ref x, .ref pt] (upd (upd (upd H2 dx (.own x)) x (.ins C dx [])) pt (.tup vs)) (fun v H3 => v = .non ∧ Q (.ref x) H3) (E σ)
theorem run_makeV {pins : List (Addr × Obj)} {σ : L2.St} {H : Hp} {s : Shared} {Q : VK} {us : List Value} {vs : List V} (M : Mk X.K C f) (F : FnV X.prog X.w X.K X.mg X.base CX k f sp) (hr : Room (k + 1) X.A) (hx : ∀ σ, PassesAt CX X σ (E σ)) (I : Inv X pins σ H s) (r : Vals vs us) (hz : vs.length ≤ sizeLine)
    (h : ∀ x dx pt, H x = none → H dx = none → dx ≠ x → H pt = none → pt ≠ x → pt ≠ dx → sp [.ref x, .ref pt] (upd (upd (upd H dx (.own x)) x (.ins C dx [])) pt (.tup vs)) (fun v H3 => v = .non ∧ Q (.ref x) H3) (E σ)) :
    wpAny (model X.prog X.w) X.A (call (.ref C) us []) (EP X pins σ Q) X.xe s := by
  have I3 := Inv.made (C := C) I
  refine wpAny_call (make_map (f := f) I.kIn M.makes M.init (beq_iff_eq.mp M.fn) (codeAny_mono (F _ X.stack _ _ (Value.ref (s.heap.objs.size + 1)) us (V.ref (s.heap.objs.size + 1)) vs (fun v H3 => v = .non ∧ Q (.ref (s.heap.objs.size + 1)) H3) (E σ) (hr.make C us [])
      (I3.env0.make C us []) rfl r hz fun pt hpt => ?_) fun r s' hq' => ?_))
  · have n0 := I.hok.fresh (a := s.heap.objs.size + 1) (Nat.le_succ _)
    have n1 := I.hok.fresh (a := s.heap.objs.size) (Nat.le_refl _)
    have hp1 : pt ≠ s.heap.objs.size + 1 := fun e => by rw [e, upd_same] at hpt; cases hpt
    rw [upd_ne hp1] at hpt
    have hp2 : pt ≠ s.heap.objs.size := fun e => by rw [e, upd_same] at hpt; cases hpt
    rw [upd_ne hp2] at hpt
    exact h _ _ pt n0 n1 (Nat.ne_of_lt (Nat.lt_succ_self _)) hpt hp1 hp2
  · cases r with
    | error e => exact hx σ pins _ _ e s' I3 hq'
    | ok fl =>
      cases fl with
      | ret u =>
        obtain ⟨v, H', I4, rv, ev, q3⟩ := I3.after hq'
        subst ev
        exact ⟨rv, ⟨V.ref (s.heap.objs.size + 1), H', I4, rfl, q3⟩⟩
      | next => exact False.elim hq'
      | brk => exact False.elim hq'
      | cont => exact False.elim hq'
theorem pe_makeV (M : Mk X.K C f) (F : FnV X.prog X.w X.K X.mg X.base CX k f sp) (hr : Room (k + 1) X.A) (hg : Gl X x) (hm : X.mg x = some (.ref C)) (hx : ∀ σ, PassesAt CX X σ (E σ)) (ha : PA X (e :: es) t)
    (hdb : (x == ("__debug__" : Str)) = false := by decide) (he : starEach (e :: es) X.env = (false, eval e X.env) :: starEach es X.env := by rfl) (hpl : (backTo pos (starEach es X.env)).any (·.1) = false := by rfl) :
    PE X (.Call (.Name x p) (e :: es) [] pos) (tMakeV C sp E t) := by
  refine ⟨fun pins s σ H Q I h => ?_⟩
  refine wpAny_Call_Name_kw (ld_glob I hg hm ?_ hdb)
  refine PySem.W.callWith_K (h₀ := X.base) I.ok.mod.kin M.kp (thn (ha.run pos pins s σ H _ I h) fun us s2 ⟨vs, H2, I2, r, hz, q2⟩ => ⟨I2.kIn, ?_⟩) he hpl
  exact run_makeV M F hr hx I2 r hz q2
/-- C() -/
theorem pe_makeV0 (M : Mk X.K C f) (F : FnV X.prog X.w X.K X.mg X.base CX k f sp) (hr : Room (k + 1) X.A) (hg : Gl X x) (hm : X.mg x = some (.ref C)) (hx : ∀ σ, PassesAt CX X σ (E σ))
    (hdb : (x == ("__debug__" : Str)) = false := by decide) : PE X (.Call (.Name x p) [] [] pos) (tMakeV C sp E tNil) := by
  refine ⟨fun pins s σ H Q I h => ?_⟩
  refine wpAny_Call_Name_kw (ld_glob I hg hm ?_ hdb)
  exact PySem.W.callWith_K0 I.kIn M.kp (run_makeV (us := []) M F hr hx I .nil h.1 h.2)
/-- C(*y) -/
def tMakeVS (K : PySem.W.Frag) (C : Addr) (sp : Sp) (E : L2.St → XK) (te : TE) : TE := fun σ H Q => te σ H fun y H2 => ∃ a vs, y = V.ref a ∧ (SqT K H2 a vs ∨ SqL K H2 a vs) ∧ vs.length ≤ sizeLine ∧
  ∀ x dx pt, H2 x = none → H2 dx = none → dx ≠ x → H2 pt = none → pt ≠ x → pt ≠ dx → sp [.ref x, .ref pt] (upd (upd (upd H2 dx (.own x)) x (.ins C dx [])) pt (.tup vs)) (fun v H3 => v = .non ∧ Q (.ref x) H3) (E σ)
theorem pe_makeVS {te : TE} {sp_ : Pos} (M : Mk X.K C f) (F : FnV X.prog X.w X.K X.mg X.base CX k f sp) (hr : Room (k + 1) X.A) (hg : Gl X x) (hm : X.mg x = some (.ref C)) (hx : ∀ σ, PassesAt CX X σ (E σ)) (he : PE X e te)
    (hdb : (x == ("__debug__" : Str)) = false := by decide) (hst : starEach [.Starred e sp_] X.env = [(true, eval e X.env)] := by rfl) :
    PE X (.Call (.Name x p) [.Starred e sp_] [] pos) (tMakeVS X.K C sp E te) := by
  refine ⟨fun pins s σ H Q I h => ?_⟩
  refine wpAny_Call_Name_kw (ld_glob I hg hm ?_ hdb)
  refine PySem.W.callWith_S (h₀ := X.base) I.ok.mod.kin M.kp (thn (he.run pins s σ H _ I h) fun v s1 ⟨y, H1, I1, ry, a, xs, ey, hxs, hz, q⟩ => ?_) hst
  subst ey
  obtain rfl : v = Value.ref a := ry
  exact StX.star_any I1 hxs fun us s2 I2 rv => ⟨I2.kIn, run_makeV M F hr hx I2 rv hz q⟩
/-- what passes at all slots passes at each -/
theorem passAll {E0' : XK} (h : Passes CX X E0') : ∀ σ : L2.St, PassesAt CX X σ E0' := fun σ pins H s e s' I c => h pins σ H s e s' I c
end
end L2
/-! ### a tuple of texts that the module holds -/
namespace L2
open PySem PySem.Spec PyProof.Rows
def strsB : List Value → List Str → Bool
  | [], [] => true
  | .str x _ :: us, y :: ys => decide (x = y) && strsB us ys
  | _, _ => false
theorem strsB_ok : ∀ {us : List Value} {xs : List Str}, strsB us xs = true → Vals (xs.map V.str) us
  | [], [], _ => .nil
  | .str x t :: us, y :: ys, h => by
    obtain ⟨h1, h2⟩ := Bool.and_eq_true_iff.mp (show (decide (x = y) && strsB us ys) = true from h)
    have e := of_decide_eq_true h1
    subst e
    exact .cons ⟨t, rfl⟩ (strsB_ok h2)
def tupStrB (K : PySem.W.Frag) (a : Addr) (xs : List Str) : Bool := match K.lookup a with
  | some o => decide (o.cls = .type "tuple") && (match o.data with
    | .seq its _ => decide (its.size ≤ sizeLine) && strsB its.toList xs
    | _ => false)
  | none => false
theorem tupStrB_ok {K : PySem.W.Frag} {a : Addr} {xs : List Str} {H : Hp} (h : tupStrB K a xs = true) : SqT K H a (xs.map V.str) := by
  unfold tupStrB at h
  split at h
  · rename_i o e
    obtain ⟨h1, h2⟩ := Bool.and_eq_true_iff.mp h
    split at h2
    · rename_i its n ed
      obtain ⟨h3, h4⟩ := Bool.and_eq_true_iff.mp h2
      exact .inr ⟨o, its, n, e, of_decide_eq_true h1, ed, of_decide_eq_true h3, strsB_ok h4⟩
    · cases h2
  · cases h
end L2
/-! ### rows of steps that a stair gives -/
namespace Cn
section
variable {p v : Int → Int} {N : Nat} {P R : Int}
/-- its row -/
def rowF (p v : Int → Int) (N : Nat) (P R : Int) : Sx.F := ⟨P, R, (List.range N).map fun k : Nat => (p k, v k)⟩
theorem row_len : (rowF p v N P R).ps.length = N := by
  show ((List.range N).map _).length = N
  rw [List.length_map, List.length_range]
theorem row_at {i : Nat} (h : i < N) : Sx.at_ (rowF p v N P R) i = (p i, v i) := by
  have := Sx.at_get (f := rowF p v N P R) (i := i) (by rw [row_len]; exact h)
  have e : (rowF p v N P R).ps[i]? = some (p i, v i) := by
    show ((List.range N).map fun k : Nat => (p k, v k))[i]? = _
    rw [List.getElem?_map, List.getElem?_range h]
    rfl
  rw [e] at this
  exact (Option.some.inj this).symm
theorem Stair.raw (S : Stair p v N P R) (hN : N ≤ 240) (h0 : ∀ i : Nat, i < N → 0 ≤ p i ∧ p i < P) {n : Nat} (B : Sx.Bd n (rowF p v N P R)) (hn : n ≤ 4000) : Sx.Raw (rowF p v N P R) := by
  refine ⟨by rw [row_len]; exact S.N0, by rw [row_len]; exact hN, S.P0, S.R0, fun i hi => ?_, fun i hi => ?_, fun i hi => ?_, L2.nat_pow_mono B.P hn, L2.nat_pow_mono B.R hn, fun q hq => ⟨L2.nat_pow_mono (B.q q hq).1 hn, L2.nat_pow_mono (B.q q hq).2 hn⟩⟩
  · rw [row_len] at hi
    rw [row_at hi]
    exact h0 i hi
  · rw [row_len] at hi
    rw [row_at hi, row_at S.N0]
    have h1 := S.vs 0
    have h2 := up_lt S.vm (show (i : Int) < 0 + N by omega)
    show v i < v ((0 : Nat) : Int) + R
    rw [show ((0 : Nat) : Int) = 0 from rfl]
    omega
  · rw [row_len] at hi
    rw [row_at (show i < N by omega), row_at hi]
    exact ⟨up_lt S.pm (show (i : Int) < ((i + 1 : Nat) : Int) by omega), up_lt S.vm (show (i : Int) < ((i + 1 : Nat) : Int) by omega)⟩
theorem Stair.row (S : Stair p v N P R) (Rw : Sx.Raw (rowF p v N P R)) (x : Int) : Sx.ev (rowF p v N P R) x = stair p v x := by
  have key : ∀ k : Int, Sx.pl (rowF p v N P R) k = p k ∧ Sx.vl (rowF p v N P R) k = v k := fun k => by
    obtain ⟨t, u, ht, rfl⟩ := Sx.mod_turn k S.N0
    have a := Sx.pl_at (f := rowF p v N P R) (i := t) u (by rw [row_len]; exact ht)
    have b := Sx.vl_at (f := rowF p v N P R) (i := t) u (by rw [row_len]; exact ht)
    rw [row_len, row_at ht, show u * (N : Int) + (t : Int) = t + u * N by omega] at a b
    exact ⟨a.trans (shiftT S.ps t u).symm, b.trans (shiftT S.vs t u).symm⟩
  obtain ⟨k, h1, h2⟩ := S.ex x
  rw [Sx.ev_of Rw.good (k := k) ⟨by rw [(key k).1]; exact h1, by rw [(key (k + 1)).1]; exact h2⟩, (key k).2, stair_eq S.pm h1 h2]
end
theorem shift_stair (n : Int) : Stair (fun k => k) (fun k => k + n) 1 1 1 := ⟨by decide, fun k => by omega, fun k => by omega, fun k => rfl, fun k => by show k + ((1 : Nat) : Int) + n = k + n + 1; omega⟩
theorem shift_eq (n x : Int) : stair (fun k => k) (fun k => k + n) x = x + n := stair_eq (p := fun k => k) (v := fun k => k + n) (fun k => by omega) (Int.le_refl _) (by omega)
end Cn
namespace Cn
/-- a stair has a least form -/
theorem Stair.form {p v : Int → Int} {N : Nat} {P R : Int} (S : Stair p v N P R) (hN : N ≤ 240) {n : Nat} (hP : P.natAbs < 2 ^ n) (hR : R.natAbs < 2 ^ n) (h1 : (stair p v (-1)).natAbs < 2 ^ n) (hn : n + 2 ≤ 4000) :
    ∃ g, Sx.Ok g ∧ (∀ x, Sx.ev g x = stair p v x) ∧ Sx.Bd (n + 2) g := by
  obtain ⟨j, c1, c2⟩ := S.ex (-1)
  have ej := stair_eq (v := v) S.pm c1 c2
  rw [ej] at h1
  have S' : Stair (fun k => p (j + 1 + k)) (fun k => v (j + 1 + k)) N P R := by
    refine ⟨S.N0, fun k => ?_, fun k => ?_, fun k => ?_, fun k => ?_⟩
    · show p (j + 1 + k) < p (j + 1 + (k + 1))
      rw [← Int.add_assoc]
      exact S.pm _
    · show v (j + 1 + k) < v (j + 1 + (k + 1))
      rw [← Int.add_assoc]
      exact S.vm _
    · show p (j + 1 + (k + N)) = p (j + 1 + k) + P
      rw [← Int.add_assoc]
      exact S.ps _
    · show v (j + 1 + (k + N)) = v (j + 1 + k) + R
      rw [← Int.add_assoc]
      exact S.vs _
  have q0 : ∀ i : Nat, i < N → 0 ≤ p (j + 1 + i) ∧ p (j + 1 + i) < P := fun i hi => by
    have a := up_le S.pm (show j + 1 ≤ j + 1 + (i : Int) by omega)
    have b := up_le S.pm (show j + 1 + (i : Int) ≤ j + N by omega)
    have c := S.ps j
    omega
  have qv : ∀ i : Nat, i < N → v j < v (j + 1 + i) ∧ v (j + 1 + i) ≤ v j + R := fun i hi => by
    have a := up_lt S.vm (show j < j + 1 + (i : Int) by omega)
    have b := up_le S.vm (show j + 1 + (i : Int) ≤ j + N by omega)
    have c := S.vs j
    omega
  have e2 : (2 : Nat) ^ (n + 2) = 2 ^ n * 4 := by rw [Nat.pow_add]
  have B : Sx.Bd (n + 2) (rowF (fun k => p (j + 1 + k)) (fun k => v (j + 1 + k)) N P R) := by
    have P0 := S.P0
    have R0 := S.R0
    refine ⟨L2.nat_pow_mono hP (by omega), L2.nat_pow_mono hR (by omega), fun q hq => ?_⟩
    obtain ⟨k, hk, rfl⟩ := List.mem_map.mp hq
    have h2 := q0 k (List.mem_range.mp hk)
    have h3 := qv k (List.mem_range.mp hk)
    show (p (j + 1 + k)).natAbs < 2 ^ (n + 2) ∧ (v (j + 1 + k)).natAbs < 2 ^ (n + 2)
    rw [e2]
    generalize (2 : Nat) ^ n = M at hP hR h1
    omega
  have Rw := S'.raw hN q0 B hn
  obtain ⟨g, og, eg, bg⟩ := Rw.form
  refine ⟨g, og, fun x => ?_, bg _ B⟩
  rw [eg, S'.row Rw]
  obtain ⟨k, d1, d2⟩ := S.ex x
  rw [stair_eq S.pm d1 d2, stair_eq S'.pm (k := k - (j + 1)) (by show p (j + 1 + (k - (j + 1))) ≤ x; rw [show j + 1 + (k - (j + 1)) = k by omega]; exact d1) (by show x < p (j + 1 + (k - (j + 1) + 1)); rw [show j + 1 + (k - (j + 1) + 1) = k + 1 by omega]; exact d2)]
  show v (j + 1 + (k - (j + 1))) = v k
  rw [show j + 1 + (k - (j + 1)) = k by omega]
end Cn

/-! ### C.m(e, .., k = v), m a static method with keyword-only parameters -/
namespace L2
open PySem PySem.Spec PyProof.Rows
section
variable {X : Cx} {CX : CXT} {k n : Nat} {C p g : Addr} {fd : FuncData} {ps : List Str} {sp : Sp} {E : XK} {o e ke : Expr} {es : List Expr} {m kn : Str} {pos apos kpos : Pos} {ta tk : TE} {t : TA} {pl : Sem Bool} {gg : List Value → List Value → List Value} {gV : List V → List V → List V}
/-- without the keyword -/
def tSMeth0 (C : Addr) (n : Nat) (sp : Sp) (gV : List V → List V → List V) (E : XK) (ta : TE) (t : TA) : TE := fun σ H Q => ta σ H fun x H1 => x = .ref C ∧ t σ H1 fun vs H2 => vs.length = n ∧ sp (gV vs []) H2 Q E
theorem run_kb {pins : List (Addr × Obj)} {σ : L2.St} {H : Hp} {s : Shared} {Q : VK} {us ws : List Value} {vs zs : List V} {ks : List Str} (F : FnOk X.prog X.w X.K X.mg X.base CX k g fd ps sp) (hr : Room k X.A) (hb : KBn X.K fd ps n ks gg gV) (hx : Passes CX X E)
    (I : Inv X pins σ H s) (r : Vals vs us) (rz : Vals zs ws) (l1 : vs.length = n) (l2 : zs.length = ks.length) (h : sp (gV vs zs) H Q E) : wpAny (model X.prog X.w) X.A (call (.ref g) us (ks.zip ws)) (EP X pins σ Q) X.xe s := by
  have r2 := hb.rel r rz
  refine wpAny_call (codeAny_mono (F.run X.A X.stack s H ⟨us, ks.zip ws⟩ (gg us ws) (gV vs zs) Q E hr I.env0 (hb.to s us ws I.kIn (r.length.symm.trans l1) (rz.length.symm.trans l2)) r2 h) fun r s' hq => ?_)
  cases r with
  | error e => exact hx pins σ H s e s' I hq
  | ok fl =>
    cases fl with
    | ret u => exact I.after hq
    | next => exact False.elim hq
    | brk => exact False.elim hq
    | cont => exact False.elim hq
theorem pe_smeth0 (he : PE X o ta) (r : ClX.CRead X.K C (.type "type")) (c : SMet X.K C m p g) (F : FnOk X.prog X.w X.K X.mg X.base CX k g fd ps sp) (hr : Room k X.A) (hb : KBn X.K fd ps n [] gg gV) (hx : Passes CX X E) (ha : PA X (e :: es) t)
    (hst : starEach (e :: es) X.env = (false, eval e X.env) :: starEach es X.env := by rfl) (hpl : (backTo pos (starEach es X.env)).any (·.1) = false := by rfl)
    (ht : eval (.Call (.Attribute o m apos) (e :: es) [] pos) X.env = (do
      let ov ← eval o X.env
      standAt apos.atName
      let (f, first) ← holding [ov] (getMethod ov m pl)
      callWith pos f first (backTo pos (starEach (e :: es) X.env)) (backToKw pos (keywordEach [] X.env))) := by rfl) :
    PE X (.Call (.Attribute o m apos) (e :: es) [] pos) (tSMeth0 C n sp gV E ta t) := by
  refine ⟨fun pins s σ H Q I h => ?_⟩
  refine PySem.W.methodCall_KW (pl := pl) (thn (he.run pins s σ H _ I h) fun u s1 ⟨x, H1, I1, rx, ex, q⟩ => ?_) ht
  subst ex
  obtain rfl : u = Value.ref C := rx
  refine getsm_ok I1 r c fun s2 I2 => ?_
  refine PySem.W.callWith_K (first := []) (h₀ := X.base) I.ok.mod.kin c.kp (thn (ha.run pos pins s2 σ H1 _ I2 q) fun us s3 ⟨vs, H2, I3, rv, l1, q2⟩ => ⟨I3.kIn, ?_⟩) hst hpl
  exact run_kb F hr hb hx I3 rv .nil l1 rfl q2
/-- with one keyword -/
def tSMethK (C : Addr) (n : Nat) (sp : Sp) (gV : List V → List V → List V) (E : XK) (ta : TE) (t : TA) (tk : TE) : TE := fun σ H Q => ta σ H fun x H1 => x = .ref C ∧ t σ H1 fun vs H2 => tk σ H2 fun z H3 => vs.length = n ∧ sp (gV vs [z]) H3 Q E
theorem pe_smethK (he : PE X o ta) (r : ClX.CRead X.K C (.type "type")) (c : SMet X.K C m p g) (F : FnOk X.prog X.w X.K X.mg X.base CX k g fd ps sp) (hr : Room k X.A) (hb : KBn X.K fd ps n [kn] gg gV) (hx : Passes CX X E) (ha : PA X (e :: es) t) (hk : PE X ke tk)
    (hst : starEach (e :: es) X.env = (false, eval e X.env) :: starEach es X.env := by rfl)
    (hall : (backToKw pos (keywordEach [⟨some kn, ke, kpos⟩] X.env)).all (·.1.isSome) = true := by rfl) (hks : (backToKw pos (keywordEach [⟨some kn, ke, kpos⟩] X.env)).filterMap (·.1) = [kn] := by rfl)
    (hpl : ((backTo pos (starEach (e :: es) X.env)).any (·.1) || (backToKw pos (keywordEach [⟨some kn, ke, kpos⟩] X.env)).any (·.1.isNone)) = false := by rfl)
    (ht : eval (.Call (.Attribute o m apos) (e :: es) [⟨some kn, ke, kpos⟩] pos) X.env = (do
      let ov ← eval o X.env
      standAt apos.atName
      let (f, first) ← holding [ov] (getMethod ov m pl)
      callWith pos f first (backTo pos (starEach (e :: es) X.env)) (backToKw pos (keywordEach [⟨some kn, ke, kpos⟩] X.env))) := by rfl) :
    PE X (.Call (.Attribute o m apos) (e :: es) [⟨some kn, ke, kpos⟩] pos) (tSMethK C n sp gV E ta t tk) := by
  refine ⟨fun pins s σ H Q I h => ?_⟩
  refine PySem.W.methodCall_KW (pl := pl) (thn (he.run pins s σ H _ I h) fun u s1 ⟨x, H1, I1, rx, ex, q⟩ => ?_) ht
  subst ex
  obtain rfl : u = Value.ref C := rx
  refine getsm_ok I1 r c fun s2 I2 => ?_
  refine PySem.W.callWith_KW (first := []) (h₀ := X.base) I.ok.mod.kin c.kp hall (thn (ha.run pos pins s2 σ H1 _ I2 q) fun us s3 hh => ?_) hpl hst
  obtain ⟨vs, H2, I3, rv, q2⟩ := hh
  have hkw : PK X [⟨some kn, ke, kpos⟩] (tCons tk tNil) := pk_cons hk pk_nil
  refine thn (hkw.run pos pins s3 σ H2 (fun zs H3 => match zs with
    | [z] => vs.length = n ∧ sp (gV vs [z]) H3 Q E
    | _ => False) I3 q2) fun ws s4 hh => ?_
  obtain ⟨zs, H4, I4, rz, hh⟩ := hh
  cases rz with
  | nil => exact hh.elim
  | cons rz1 rz2 =>
    cases rz2 with
    | cons _ _ => exact hh.elim
    | nil =>
    obtain ⟨l1, q3⟩ := hh
    rename_i z uw
    refine ⟨I4.kIn, ?_⟩
    rw [hks]
    exact run_kb (ks := [kn]) (zs := [z]) (ws := [uw]) F hr hb hx I4 rv (.cons rz1 .nil) l1 rfl q3
end
end L2
namespace L2
open PySem PySem.Spec PyProof.Rows
theorem lgi9 {z : Int} (h : -18446744073709551616 < z) (h' : z < 18446744073709551616) : z.natAbs.log2 < 9000 := log2_lt (n := 64) (by decide) (lt64 h h') (by decide)
theorem lgi19 {z : Int} (h : -18446744073709551616 < z) (h' : z < 18446744073709551616) : z.natAbs.log2 < 1920 := log2_lt' (n := 64) (by decide) (lt64 h h') (by decide)
theorem of_ints {x : V} {ns : List Int} (h : x ∈ ns.map V.int) : ∃ z, z ∈ ns ∧ x = .int z := by
  obtain ⟨z, hz, e⟩ := List.mem_map.mp h
  exact ⟨z, hz, e.symm⟩
end L2

/-! ### tuples of the heap put together -/
namespace L2
open PySem PySem.Spec PyProof.Rows
def rCatP : R2 := fun x y H Q => ∃ a b xs ys, x = .ref a ∧ y = .ref b ∧ H a = some (.tup xs) ∧ H b = some (.tup ys) ∧ xs.length + ys.length ≤ sizeLine ∧ ∀ p H', Same H H' → H' p = some (.tup (xs ++ ys)) → Q (.ref p) H'
theorem op_catP {X : Cx} : OpR X (binaryOp .Add) rCatP := by
  intro pins s σ H x y v u Q I rx ry h
  obtain ⟨a, b, xs, ys, rfl, rfl, ha, hb, hz, q⟩ := h
  refine op_catA pins s σ H (.ref a) (.ref b) v u Q I rx ry ⟨a, b, xs, ys, rfl, rfl, SqT.of_ ha, SqT.of_ hb, hz, fun e => ?_, fun _ e => ?_, fun _ _ p np => q p _ (Same.new np) upd_same⟩
  · subst e
    exact q b H (Same.refl _) hb
  · subst e
    exact q a H (Same.refl _) (by rw [List.append_nil]; exact ha)
end L2
/-! ### tuples of the very same objects -/
namespace L2
open PySem PySem.Spec PyProof.Rows
def SameV (x y : V) : Prop := (x = y ∧ flatB x = true) ∨ ∃ a, x = .ref a ∧ y = .ref a
theorem sameV_at {A : Around} {s : Shared} {x y : V} {v u : Value} (h : SameV x y) (rx : RelV x v) (ry : RelV y u) : SeqAt.EqAt A s v u true := by
  rcases h with ⟨rfl, f⟩ | ⟨a, rfl, rfl⟩
  · exact eqAt_same rx ry f
  · cases (show v = Value.ref a from rx)
    cases (show u = Value.ref a from ry)
    exact SeqAt.EqAt.same _
theorem sameV_items {A : Around} {s : Shared} {xs ys : List V} (hp : Paired SameV xs ys) : ∀ {us ws : List Value}, Vals xs us → Vals ys ws → ∀ j (h1 : j < us.length) (h2 : j < ws.length), SeqAt.EqAt A s us[j] ws[j] true := by
  induction hp with
  | nil =>
    intro us ws r1 r2 j h1 h2
    cases r1
    exact absurd h1 (Nat.not_lt_zero j)
  | cons h _ k =>
    intro us ws r1 r2 j h1 h2
    cases r1 with
    | cons a1 b1 =>
      cases r2 with
      | cons a2 b2 =>
        cases j with
        | zero => exact sameV_at h a1 a2
        | succ j => exact k b1 b2 j (Nat.lt_of_succ_lt_succ h1) (Nat.lt_of_succ_lt_succ h2)
def rNeTI (K : PySem.W.Frag) : R2 := fun x y H Q => ∃ a b xs ys, x = .ref a ∧ y = .ref b ∧ SqT K H a xs ∧ SqT K H b ys ∧ Paired SameV xs ys ∧ Q (.bl false) H
theorem op_neTI {X : Cx} (hu : X.A.units + 64 < cLine) : OpR X (compareOp .NotEq) (rNeTI X.K) := by
  intro pins s σ H x y v u Q I rx ry h
  obtain ⟨a, b, xs, ys, rfl, rfl, ha, hb, hp, q⟩ := h
  cases (show v = Value.ref a from rx)
  cases (show u = Value.ref b from ry)
  obtain ⟨us, r1, p1, _⟩ := I.tuple ha
  obtain ⟨ws, r2, p2, _⟩ := I.tuple hb
  have hsz : us.toArray.size = ws.toArray.size := by
    rw [List.size_toArray, List.size_toArray, ← r1.length, ← r2.length]
    exact Paired.length hp
  refine SeqAt.RcNeAt.tuples (e := fun _ => true) p1 p2 (by omega) (fun j h1 h2 => ?_) X.prog X.w _ _ ?_
  · have k := sameV_items (A := X.A.in1) (s := s) hp r1 r2 j (by simpa using h1) (by simpa using h2)
    simpa using k
  · rw [show ((List.range (min us.toArray.size ws.toArray.size)).all fun _ => true) = true from List.all_eq_true.mpr fun _ _ => rfl, hsz]
    refine ⟨.bl false, H, I, ?_, q⟩
    simp
    rfl
theorem paired_refs : ∀ {xs : List V}, (∀ z ∈ xs, ∃ p, z = .ref p) → Paired SameV xs xs
  | [], _ => .nil
  | x :: r, h => .cons (by
      obtain ⟨p, e⟩ := h x List.mem_cons_self
      exact .inr ⟨p, e, e⟩) (paired_refs fun z hz => h z (List.mem_cons_of_mem _ hz))
end L2
namespace L2
theorem bnF {v : V} : (!decide (v = v)) = false := by rw [decide_eq_true rfl]; rfl
theorem ix0 {n : Nat} (h : 0 < n) : ixN n 0 = some 0 := by
  unfold ixN
  rw [if_pos (Int.le_refl 0), if_pos (by omega)]
  rfl
open PySem
/-- two lists of ints that are alike: a == b is True -/
theorem eqD_ints {K : PySem.W.Frag} {H : Hp} {a b : Addr} {xs : List Int} {Q : V → Hp → Prop} (h1 : H a = some (.lst (xs.map V.int))) (h2 : H b = some (.lst (xs.map V.int))) (q : Q (.bl true) H) : rEqD K (.ref a) (.ref b) H Q :=
  ⟨_, _, dpl_ints (SqL.of h1), dpl_ints (SqL.of h2), shapedl_ints xs, shapedl_ints xs, by rw [eqvl_ints, decide_eq_true rfl]; exact q⟩
end L2

/-! ### what the top has left: defs at any address, Bools, tables with text keys -/
namespace HeZ
open PySem PySem.Spec PyProof.Rows
abbrev AlZ : Type := He.AlD × Bool × List (Option (List (Option (Str × Int))))
def obsK (fa : List He.Fa) (fn : List He5.DefA) (ex : PySem.W.Frag → Bool) (ts : List He.Tab) (K : PySem.W.Frag) : AlZ := (HeY.obsA fa fn K, ex K, ts.map fun t => He.dicW K (t.1 K))
/-- the addresses looked at: the module's names, then from the last made on -/
def adr (n : Nat) : List Addr := 3 :: (List.range n).reverse
def obsZ (n : Nat) (fa : List He.Fa) (fn : List He5.DefA) (ex : PySem.W.Frag → Bool) (ts : List He.Tab) (g : Addr → Option Obj) : AlZ := obsK fa fn ex ts (He.frT g (adr n))
def valZ (fn : List He5.DefA) (ts : List He.Tab) (w : World) : AlZ := (HeY.valA fn, true, ts.map fun t => some (He.keysIn w.params t.2))
structure SaysZ (fa : List He.Fa) (fn : List He5.DefA) (ex : PySem.W.Frag → Bool) (ts : List He.Tab) (w : World) (K : PySem.W.Frag) : Prop where
  t : HeY.obsA fa fn K = HeY.valA fn
  more : ex K = true
  tabs : ts.map (fun t => He.dicW K (t.1 K)) = ts.map fun t => some (He.keysIn w.params t.2)
theorem saysZ_of {n : Nat} {fa : List He.Fa} {fn : List He5.DefA} {ex : PySem.W.Frag → Bool} {ts : List He.Tab} {w : World} {g : Addr → Option Obj} (e : obsZ n fa fn ex ts g = valZ fn ts w) : SaysZ fa fn ex ts w (He.frT g (adr n)) :=
  ⟨congrArg (fun z : AlZ => z.1) e, congrArg (fun z : AlZ => z.2.1) e, congrArg (fun z : AlZ => z.2.2) e⟩
def hookZ (n : Nat) (fa : List He.Fa) (fn : List He5.DefA) (ex : PySem.W.Frag → Bool) (ts : List He.Tab) : PySem.W.Hook where
  α := AlZ
  obs := fun s => obsZ n fa fn ex ts s.heap.get?
  val := fun w => valZ fn ts w
  says := fun w h => ∃ K : PySem.W.Frag, K.In h ∧ SaysZ fa fn ex ts w K
  of := fun _ _ e => ⟨_, He.frT_in, saysZ_of e⟩
  keeps := fun _ _ _ ⟨K, hK, c⟩ k => ⟨K, PySem.W.Frag.In.keeps hK k, c⟩
theorem obsZ_eq {n : Nat} {fa : List He.Fa} {fn : List He5.DefA} {ex : PySem.W.Frag → Bool} {ts : List He.Tab} {g : Addr → Option Obj} {s : Shared} (h : ∀ a, g a = s.heap.get? a) : obsZ n fa fn ex ts g = (hookZ n fa fn ex ts).obs s := by
  have e : g = s.heap.get? := funext h
  rw [e] <;> rfl
section
variable {fa : List He.Fa} {fn : List He5.DefA} {ex : PySem.W.Frag → Bool} {ts : List He.Tab} {w : World} {K : PySem.W.Frag}
theorem SaysZ.y (c : SaysZ fa fn ex ts w K) : HeY.SaysY fa fn ex K := ⟨c.t, c.more⟩
theorem SaysZ.fact (c : SaysZ fa fn ex ts w K) (i : Nat) {f : He.Fa} (h : fa[i]? = some f := by rfl) : f.ok K = true := c.y.fact i h
theorem SaysZ.def_ (c : SaysZ fa fn ex ts w K) (i : Nat) {d : He5.DefA} (h : fn[i]? = some d := by rfl) : ∃ fd, L2.FunD K d.name d.qual d.params d.body d.scope (d.dvs K) (d.kws K) (d.at_ K) fd := c.y.def_ i h
theorem SaysZ.tab (c : SaysZ fa fn ex ts w K) (i : Nat) {t : He.Tab} (h : ts[i]? = some t := by rfl) : ∃ es n, L2.KDict K w (t.1 K) es n := by
  have e2 : (ts.map fun t => He.dicW K (t.1 K))[i]? = (ts.map fun t => some (He.keysIn w.params t.2))[i]? := by rw [c.tabs]
  rw [List.getElem?_map, List.getElem?_map, h] at e2
  exact He.dicW_ok (Option.some.inj e2)
end
end HeZ
namespace L2
open PySem PySem.Spec PyProof.Rows
/-! ### a dict of the module from texts to texts -/
def sdB (K : PySem.W.Frag) (d : Addr) (kv : List (Str × Str)) : Bool := kv.all fun p => match PySem.W.nsIn K d p.1 with
  | some (some (.str y _)) => decide (y = p.2)
  | _ => false
structure SDict (K : PySem.W.Frag) (w : World) (d : Addr) (kv : List (Str × Str)) : Prop where
  kd : ∃ es n, KDict K w d es n
  at_ : ∀ z v, kv.lookup z = some v → ∃ t, PySem.W.nsIn K d z = some (some (.str v t))
theorem sd_mem {z v : Str} : ∀ {l : List (Str × Str)}, l.lookup z = some v → (z, v) ∈ l
  | [], h => by cases h
  | (a, b) :: r, h => by
    rw [List.lookup_cons] at h
    cases e : z == a with
    | true =>
      rw [e] at h
      have e1 := eq_of_beq e
      cases Option.some.inj h
      rw [e1]
      exact List.mem_cons_self
    | false =>
      rw [e] at h
      exact List.mem_cons_of_mem _ (sd_mem h)
theorem sdB_ok {K : PySem.W.Frag} {w : World} {d : Addr} {kv : List (Str × Str)} (kd : ∃ es n, KDict K w d es n) (h : sdB K d kv = true) : SDict K w d kv := by
  refine ⟨kd, fun z v hm => ?_⟩
  have h1 := List.all_eq_true.mp h (z, v) (sd_mem hm)
  dsimp only at h1
  split at h1
  · rename_i y t e
    exact ⟨t, by rw [e, of_decide_eq_true h1]⟩
  · cases h1
section
variable {X : Cx} {d : Addr} {kv : List (Str × Str)}
/-- the key is there -/
def rSdIn (d : Addr) (kv : List (Str × Str)) (b : Bool) : R2 := fun x y H Q => ∃ (z v : Str), x = .str z ∧ y = .ref d ∧ kv.lookup z = some v ∧ Q (.bl b) H
theorem op_in_sd (D : SDict X.K X.w d kv) : OpR X (compareOp .In) (rSdIn d kv true) := by
  intro pins s σ H x y v u Q I rx ry h
  obtain ⟨z, w, ex, ey, hm, q⟩ := h
  obtain ⟨es, n, kd⟩ := D.kd
  obtain ⟨t, e⟩ := D.at_ z w hm
  exact op_in_kd kd pins s σ H x y v u Q I rx ry ⟨z, _, ex, ey, e, q⟩
theorem op_notIn_sd (D : SDict X.K X.w d kv) : OpR X (compareOp .NotIn) (rSdIn d kv false) := by
  intro pins s σ H x y v u Q I rx ry h
  obtain ⟨z, w, ex, ey, hm, q⟩ := h
  obtain ⟨es, n, kd⟩ := D.kd
  obtain ⟨t, e⟩ := D.at_ z w hm
  exact op_notIn_kd kd pins s σ H x y v u Q I rx ry ⟨z, _, ex, ey, e, q⟩
def rSdIx (d : Addr) (kv : List (Str × Str)) : R2 := fun x y H Q => ∃ (z v : Str), x = .ref d ∧ y = .str z ∧ kv.lookup z = some v ∧ Q (.str v) H
theorem ix_sd (D : SDict X.K X.w d kv) : IxR X (rSdIx d kv) := by
  intro value slice pins s σ H x y v u Q I rx ry h hs
  obtain ⟨z, w, rfl, rfl, hm, q⟩ := h
  obtain ⟨es, n, kd⟩ := D.kd
  obtain ⟨t0, e⟩ := D.at_ z w hm
  cases rx
  obtain ⟨t, rfl⟩ := ry
  refine tail_any (kd_type kd I) PySem.F.slot_dict_getitem.lookup ?_ hs
  exact wpAny_getItem_of (PySem.strKind_is X.prog X.w z t) (PySem.W.mapOf_K (prog := X.prog) I.kIn kd.at_ kd.lit) (PySem.W.find_K kd.at_ e) ⟨.str w, H, I.tok _, ⟨t0, rfl⟩, q⟩
end
end L2
namespace L2
open PySem PySem.Spec PyProof.Rows
/-! ### a tuple that stands in a class -/
def ccB (K : PySem.W.Frag) (C f : Str) : Bool := He.eqO (PySem.W.findIn K (.ref (He.ga K C)) f) (some (some (.ref (He.ma K (He.ga K C) f)))) && He.eqO (PySem.W.specialIn K (.ref (He.ma K (He.ga K C) f)) "__get__") (some none)
theorem ccB_ok {K : PySem.W.Frag} {C f : Str} (h : ccB K C f = true) (hc : PySem.W.copiedNames.contains f = false := by decide) : Con K (He.ga K C) f (.ref (He.ma K (He.ga K C) f)) (.ref (He.ma K (He.ga K C) f)) := by
  obtain ⟨h1, h2⟩ := Bool.and_eq_true_iff.mp h
  exact ⟨He.eqO_ok h1, rfl, He.eqO_ok h2, hc⟩
end L2
namespace L2
open PySem PySem.Spec PyProof.Rows
section
variable {X : Cx} {CX : CXT} {k : Nat} {f C : Addr} {fd : FuncData} {ps : List Str} {sp : Sp} {E : L2.St → XK} {ds : List Value} {dvs : List V} {t : TA} {x : Str} {e : Expr} {es : List Expr} {p pos : Pos}
/-- C(..) of an own class; what is raised is wished for at the slots -/
def tMakeE (C : Addr) (sp : Sp) (dvs : List V) (E : L2.St → XK) (t : TA) : TE := fun σ H Q => t σ H fun vs H1 => ∀ x dx, H1 x = none → H1 dx = none → dx ≠ x → sp (.ref x :: (vs ++ dvs)) (upd (upd H1 dx (.own x)) x (.ins C dx [])) (fun v H2 => v = .non ∧ Q (.ref x) H2) (E σ)
theorem run_makeE {pins : List (Addr × Obj)} {σ : L2.St} {H : Hp} {s : Shared} {Q : VK} {us : List Value} {vs : List V} (M : Mk X.K C f) (F : FnOk X.prog X.w X.K X.mg X.base CX k f fd ps sp) (hr : Room (k + 1) X.A) (hb : Binds X.K fd ps ds) (hd : Vals dvs ds)
    (hx : ∀ σ, PassesAt CX X σ (E σ)) (I : Inv X pins σ H s) (r : Vals vs us)
    (h : ∀ x dx, H x = none → H dx = none → dx ≠ x → sp (.ref x :: (vs ++ dvs)) (upd (upd H dx (.own x)) x (.ins C dx [])) (fun v H2 => v = .non ∧ Q (.ref x) H2) (E σ)) :
    wpAny (model X.prog X.w) X.A (call (.ref C) us) (EP X pins σ Q) X.xe s := by
  have hq := h (s.heap.objs.size + 1) s.heap.objs.size (I.hok.fresh (Nat.le_succ _)) (I.hok.fresh (Nat.le_refl _)) (Nat.ne_of_lt (Nat.lt_succ_self _))
  have I2 := Inv.made (C := C) I
  have r2 : Vals (V.ref (s.heap.objs.size + 1) :: (vs ++ dvs)) (Value.ref (s.heap.objs.size + 1) :: (us ++ ds)) := .cons rfl (r.append hd)
  have hl : (Value.ref (s.heap.objs.size + 1) :: us ++ ds).length = ps.length := by
    have e := r2.length
    rw [F.len _ _ _ _ hq] at e
    exact e.symm
  refine wpAny_call (make_map (f := f) I.kIn M.makes M.init (beq_iff_eq.mp M.fn) (codeAny_mono (F.run _ X.stack _ _ ⟨Value.ref (s.heap.objs.size + 1) :: us, []⟩ (Value.ref (s.heap.objs.size + 1) :: (us ++ ds)) _ _ (E σ) (hr.make C us [])
    (I2.env0.make C us []) (hb _ (Value.ref (s.heap.objs.size + 1) :: us) I2.kIn hl) r2 hq) fun r s' hq' => ?_))
  cases r with
  | error e => exact hx σ pins _ _ e s' I2 hq'
  | ok fl =>
    cases fl with
    | ret u =>
      obtain ⟨v, H', I3, rv, ev, q3⟩ := I2.after hq'
      subst ev
      exact ⟨rv, ⟨V.ref (s.heap.objs.size + 1), H', I3, rfl, q3⟩⟩
    | next => exact False.elim hq'
    | brk => exact False.elim hq'
    | cont => exact False.elim hq'
theorem pe_makeE (M : Mk X.K C f) (F : FnOk X.prog X.w X.K X.mg X.base CX k f fd ps sp) (hr : Room (k + 1) X.A) (hg : Gl X x) (hm : X.mg x = some (.ref C)) (hb : Binds X.K fd ps ds) (hd : Vals dvs ds) (hx : ∀ σ, PassesAt CX X σ (E σ))
    (ha : PA X (e :: es) t) (hdb : (x == ("__debug__" : Str)) = false := by decide) (he : starEach (e :: es) X.env = (false, eval e X.env) :: starEach es X.env := by rfl) (hpl : (backTo pos (starEach es X.env)).any (·.1) = false := by rfl) :
    PE X (.Call (.Name x p) (e :: es) [] pos) (tMakeE C sp dvs E t) := by
  refine ⟨fun pins s σ H Q I h => ?_⟩
  refine wpAny_Call_Name_kw (ld_glob I hg hm ?_ hdb)
  refine PySem.W.callWith_K (h₀ := X.base) I.ok.mod.kin M.kp (thn (ha.run pos pins s σ H _ I h) fun us s1 ⟨vs, H1, I1, r, q⟩ => ⟨I1.kIn, ?_⟩) he hpl
  exact run_makeE M F hr hb hd hx I1 r q
end
end L2
namespace L2
open PySem PySem.Spec PyProof.Rows
/-! ### a list that is compared with the empty one -/
def rNeE (K : PySem.W.Frag) : R2 := fun x y H Q => ∃ a b xs, x = .ref a ∧ y = .ref b ∧ SqL K H a xs ∧ SqL K H b [] ∧ Q (.bl (!xs.isEmpty)) H
theorem op_neE {X : Cx} (hu : X.A.units + 64 < cLine) : OpR X (compareOp .NotEq) (rNeE X.K) := by
  intro pins s σ H x y v u Q I rx ry h
  obtain ⟨a, b, xs, rfl, rfl, ha, hb, q⟩ := h
  cases (show v = Value.ref a from rx)
  cases (show u = Value.ref b from ry)
  obtain ⟨us, r1, p1, _⟩ := I.list ha
  obtain ⟨ws, r2, p2, _⟩ := I.list hb
  cases r2
  cases r1 with
  | nil =>
    refine SeqAt.RcNeAt.lists (e := fun _ => true) p1.isList p2.isList rfl (by omega) (fun j h1 h2 => absurd h1 (Nat.not_lt_zero j)) X.prog X.w _ _ ?_
    exact ⟨.bl false, H, I, rfl, q⟩
  | cons r1 r1' =>
    refine SeqAt.RcNeAt.lists_lengths p1.isList p2.isList rfl (by omega) X.prog X.w _ _ ?_
    exact ⟨.bl true, H, I, rfl, q⟩
end L2

/-! ### how densely a function rises -/
namespace Sx
/-- F goes on by (P, R), and rises in a period at no more than N places -/
def Den (F : Int → Int) (P R : Int) (N : Nat) : Prop := Fit F P R ∧ ∃ (b : Int → Int) (m : Nat), m ≤ N ∧ (∀ k, b k < b (k + 1)) ∧ (∀ k, b (k + m) = b k + P) ∧ ∀ x, F (x - 1) < F x → ∃ k, x = b k
theorem Den.fit {F : Int → Int} {P R : Int} {N : Nat} (d : Den F P R N) : Fit F P R := d.1
theorem Den.mono {F : Int → Int} {P R : Int} {N M : Nat} (d : Den F P R N) (h : N ≤ M) : Den F P R M := by
  obtain ⟨f, b, m, hm, r⟩ := d
  exact ⟨f, b, m, Nat.le_trans hm h, r⟩
theorem Den.congr {F G : Int → Int} {P R : Int} {N : Nat} (d : Den F P R N) (h : ∀ x, G x = F x) : Den G P R N := by
  have e : G = F := funext h
  rw [e]
  exact d
theorem Den.of_good {f : F} (o : Ok f) : Den (ev f) f.P f.R f.ps.length := ⟨o.fit, pl f, f.ps.length, Nat.le_refl _, o.g.pm, fun k => (shift o.g.ne k).1, fun x hx => (jump_iff o.g x).mp hx⟩
theorem Den.of_stair {p v : Int → Int} {N : Nat} {P R : Int} (S : Cn.Stair p v N P R) : Den (Cn.stair p v) P R N := ⟨S.fit, p, N, Nat.le_refl _, S.pm, S.ps, fun x hx => S.jump hx⟩
/-- x + n -/
theorem Den.trans (n : Int) : Den (fun x => x + n) 1 1 1 := (Den.of_stair (Cn.shift_stair n)).congr fun x => (Cn.shift_eq n x).symm
/-- followed by + n -/
theorem Den.add {F : Int → Int} {P R : Int} {N : Nat} (d : Den F P R N) (n : Int) : Den (fun x => F x + n) P R N := by
  obtain ⟨f, b, m, hm, h1, h2, h3⟩ := d
  refine ⟨⟨f.P0, f.R0, fun x => ?_, fun x => ?_⟩, b, m, hm, h1, h2, fun x hx => h3 x ?_⟩
  · have := f.m x
    show F (x - 1) + n ≤ F x + n
    omega
  · have := f.t x
    show F (x + P) + n = F x + n + R
    omega
  · have hx : F (x - 1) + n < F x + n := hx
    omega
/-- + n ahead of it -/
theorem Den.pre {F : Int → Int} {P R : Int} {N : Nat} (d : Den F P R N) (n : Int) : Den (fun x => F (x + n)) P R N := by
  obtain ⟨f, b, m, hm, h1, h2, h3⟩ := d
  refine ⟨⟨f.P0, f.R0, fun x => ?_, fun x => ?_⟩, fun k => b k - n, m, hm, fun k => ?_, fun k => ?_, fun x hx => ?_⟩
  · have := f.m (x + n)
    show F (x - 1 + n) ≤ F (x + n)
    rw [show x - 1 + n = x + n - 1 by omega]
    exact this
  · have := f.t (x + n)
    show F (x + P + n) = F (x + n) + R
    rw [show x + P + n = x + n + P by omega]
    exact this
  · have := h1 k
    show b k - n < b (k + 1) - n
    omega
  · have := h2 k
    show b (k + m) - n = b k - n + P
    omega
  · have hx : F (x - 1 + n) < F (x + n) := hx
    rw [show x - 1 + n = x + n - 1 by omega] at hx
    obtain ⟨k, e⟩ := h3 _ hx
    exact ⟨k, by show x = b k - n; omega⟩
theorem Fit.turn {F : Int → Int} {P R : Int} (f : Fit F P R) (c : Nat) (x : Int) : F (x + c * P) = F x + c * R := by
  induction c with
  | zero => rw [show ((0 : Nat) : Int) = 0 from rfl, Int.zero_mul, Int.zero_mul, Int.add_zero, Int.add_zero]
  | succ c ih =>
    rw [show ((c + 1 : Nat) : Int) = (c : Int) + 1 from rfl, Int.add_mul, Int.one_mul, Int.add_mul, Int.one_mul, ← Int.add_assoc, f.t, ih]
    omega
theorem Fit.le {F : Int → Int} {P R : Int} (f : Fit F P R) {x y : Int} (h : x ≤ y) : F x ≤ F y := by
  obtain ⟨n, rfl⟩ : ∃ n : Nat, y = x + n := ⟨(y - x).toNat, by omega⟩
  clear h
  induction n with
  | zero => rw [show x + ((0 : Nat) : Int) = x by omega]; exact Int.le_refl _
  | succ n ih =>
    have := f.m (x + (n + 1 : Nat))
    rw [show x + ((n + 1 : Nat) : Int) - 1 = x + n by omega] at this
    omega
/-- followed by G -/
theorem Den.comp {F G : Int → Int} {P1 R1 P2 R2 : Int} {N c a : Nat} (d : Den F P1 R1 N) (g : Fit G P2 R2) (hc : 0 < c) (ha : 0 < a) (e : R1 * c = P2 * a) : Den (fun x => G (F x)) (P1 * c) (R2 * a) (N * c) := by
  obtain ⟨f, b, m, hm, h1, h2, h3⟩ := d
  have it : ∀ (n : Nat) (k : Int), b (k + (m * n : Nat)) = b k + P1 * n := fun n k => by
    induction n with
    | zero => rw [Nat.mul_zero, show ((0 : Nat) : Int) = 0 from rfl, Int.mul_zero, Int.add_zero, Int.add_zero]
    | succ n ih =>
      rw [Nat.mul_succ, show k + ((m * n + m : Nat) : Int) = k + (m * n : Nat) + m by omega, h2, ih, show ((n + 1 : Nat) : Int) = (n : Int) + 1 from rfl, Int.mul_add, Int.mul_one]
      omega
  refine ⟨⟨Int.mul_pos f.P0 (by omega), Int.mul_pos g.R0 (by omega), fun x => ?_, fun x => ?_⟩, b, m * c, Nat.mul_le_mul_right _ hm, h1, it c, fun x hx => h3 x ?_⟩
  · exact g.le (f.m x)
  · show G (F (x + P1 * c)) = G (F x) + R2 * a
    rw [Int.mul_comm P1, f.turn, Int.mul_comm (c : Int), e, Int.mul_comm P2, g.turn, Int.mul_comm (a : Int)]
  · have hx : G (F (x - 1)) < G (F x) := hx
    rcases Int.lt_or_le (F (x - 1)) (F x) with z | z
    · exact z
    · have := g.le z
      omega
/-- what the least form's numbers are -/
theorem Den.least {f : F} (o : Ok f) {P R : Int} {N : Nat} (d : Den (ev f) P R N) : ∃ m : Nat, 0 < m ∧ P = m * f.P ∧ R = m * f.R ∧ m * f.ps.length ≤ N := by
  obtain ⟨ft, b, m, hm, h1, h2, h3⟩ := d
  obtain ⟨k, k0, eP, eR⟩ := period_mult o ft.P0 ft.t
  refine ⟨k, k0, eP, eR, Nat.le_trans ?_ hm⟩
  exact len_le (P := P) o.g.pm h1 (fun i => h3 _ ((jump_iff o.g _).mpr ⟨i, rfl⟩)) (fun i => by rw [iter_pl o.g, eP]) h2
/-- f can be followed by g: few rises of f -/
theorem Den.cmp {f g : F} (of : Ok f) (og : Ok g) {P1 R1 P2 R2 d a c : Int} {N : Nat} (D : Den (ev f) P1 R1 N) (hg : Fit (ev g) P2 R2) (hd : 0 < d) (hc : 0 < c) (h1 : R1 = d * a) (h2 : P2 = d * c) (hN : N * c ≤ 240) : Cmp f g := by
  obtain ⟨m1, m10, p1, q1, l1⟩ := D.least of
  obtain ⟨m2, m20, p2, q2⟩ := period_mult og hg.P0 hg.t
  have fR := of.g.R0
  have gP := og.g.P0
  have key : f.R * (m1 * c) = g.P * (m2 * a) := by
    have x1 : (m1 : Int) * f.R * c = d * a * c := by rw [← q1, h1]
    have x2 : (m2 : Int) * g.P * a = d * c * a := by rw [← p2, h2]
    rw [← Int.mul_assoc, Int.mul_comm f.R, x1, ← Int.mul_assoc, Int.mul_comm g.P, x2, Int.mul_assoc, Int.mul_comm a c, Int.mul_assoc]
  have b1 := div_gcd_le fR gP (Int.mul_pos (show (0 : Int) < m1 by omega) hc) key
  have := Int.mul_le_mul_of_nonneg_left b1 (show (0 : Int) ≤ f.ps.length by omega)
  rw [← Int.mul_assoc, Int.mul_comm (f.ps.length : Int) m1, ← Int.natCast_mul] at this
  have x := Int.mul_le_mul_of_nonneg_right (show ((m1 * f.ps.length : Nat) : Int) ≤ (N : Int) by omega) (Int.le_of_lt hc)
  left
  omega
/-- f can be followed by g: few rises of g -/
theorem Den.cmp2 {f g : F} (of : Ok f) (og : Ok g) {P1 R1 P2 R2 d a c : Int} {M : Nat} (hf : Fit (ev f) P1 R1) (D : Den (ev g) P2 R2 M) (hd : 0 < d) (ha : 0 < a) (h1 : R1 = d * a) (h2 : P2 = d * c) (hN : M * a ≤ 240) : Cmp f g := by
  obtain ⟨m1, m10, p1, q1⟩ := period_mult of hf.P0 hf.t
  obtain ⟨m2, m20, p2, q2, l2⟩ := D.least og
  have fR := of.g.R0
  have gP := og.g.P0
  have key : g.P * (m2 * a) = f.R * (m1 * c) := by
    have x1 : (m1 : Int) * f.R * c = d * a * c := by rw [← q1, h1]
    have x2 : (m2 : Int) * g.P * a = d * c * a := by rw [← p2, h2]
    rw [← Int.mul_assoc, Int.mul_comm g.P, x2, ← Int.mul_assoc, Int.mul_comm f.R, x1, Int.mul_assoc, Int.mul_comm c a, Int.mul_assoc]
  have b1 := div_gcd_le gP fR (Int.mul_pos (show (0 : Int) < m2 by omega) ha) key
  rw [Int.gcd_comm] at b1
  have := Int.mul_le_mul_of_nonneg_left b1 (show (0 : Int) ≤ g.ps.length by omega)
  rw [← Int.mul_assoc, Int.mul_comm (g.ps.length : Int) m2, ← Int.natCast_mul] at this
  have x := Int.mul_le_mul_of_nonneg_right (show ((m2 * g.ps.length : Nat) : Int) ≤ (M : Int) by omega) (Int.le_of_lt ha)
  right
  omega
end Sx

/-! ### a world by its answer to one row -/
namespace HeZ
open PySem
def setRow (w : World) (row : String) (b : Bool) : World := { w with params := { w.params with followText := fun r => if r = row then b else w.params.followText r } }
theorem setRow_eq (w : World) (row : String) : setRow w row (w.params.followText row) = w := by
  have e : (fun r => if r = row then w.params.followText row else w.params.followText r) = w.params.followText := by
    funext r
    split
    · rename_i h
      rw [h]
    · rfl
  unfold setRow
  rw [e]
theorem by_row {P : World → Prop} (row : String) (t : ∀ w, P (setRow w row true)) (f : ∀ w, P (setRow w row false)) (w : World) : P w := by
  have h : P (setRow w row (w.params.followText row)) := by
    cases w.params.followText row with
    | true => exact t w
    | false => exact f w
  rw [setRow_eq] at h
  exact h
end HeZ

/-! ### maps that are there without a walk -/
namespace Sx
theorem kept_all {F : Int → Int} {P R : Int} {fs : List (Int × Int)} (r : Row F P R fs) : ∀ i, i ≤ fs.length → ∃ ks, Kept F fs i ks
  | 0, _ => ⟨[], kept0 F fs⟩
  | i + 1, h => by
    obtain ⟨ks, k⟩ := kept_all r i (by omega)
    by_cases z : fs[i].2 > bef R fs i
    · exact ⟨_, kept_yes r (by omega) k z⟩
    · exact ⟨_, kept_no r (by omega) k z⟩
theorem Told.form {F : Int → Int} {P R : Int} {ps : List (Int × Int)} (T : Told F P R ps) {n : Nat} (hn : n < 4000) (hP : P.natAbs < 2 ^ n) (hR : R.natAbs < 2 ^ n) (h0 : (F 0).natAbs < 2 ^ n) : ∃ f, Ok f ∧ (∀ x, ev f x = F x) ∧ Bd (n + 1) f := by
  have hs := List.pairwise_mergeSort (le := fun a b : Int × Int => decide (a.1 ≤ b.1)) (fun a b c h1 h2 => decide_eq_true (Int.le_trans (of_decide_eq_true h1) (of_decide_eq_true h2))) (fun a b => by
    rcases Int.le_total a.1 b.1 with h | h
    · rw [decide_eq_true h]; rfl
    · rw [decide_eq_true h, Bool.or_true]) (ps.map (fold1 P R))
  have r := row_of T (List.mergeSort_perm (ps.map (fold1 P R)) fun a b => decide (a.1 ≤ b.1)) (hs.imp fun h => of_decide_eq_true h)
  obtain ⟨ks, k⟩ := kept_all r _ (Nat.le_refl _)
  obtain ⟨hraw, hev, hbd⟩ := kept_raw r k (n + 1) (by omega) (L2.nat_pow_mono hP (by omega)) (L2.nat_pow_mono hR (by omega)) (row_bd r hP hR h0)
  obtain ⟨f, o, e, b⟩ := hraw.form
  exact ⟨f, o, fun x => by rw [e, hev], b _ hbd⟩
theorem comp_form {f g : F} (of : Ok f) (og : Ok g) (C : Cmp f g) {n m : Nat} (Bf : Bd n f) (Bg : Bd m g) (h : n + m + 10 < 4000) : ∃ k, Ok k ∧ (∀ x, ev k x = ev g (ev f x)) ∧ Bd (n + m + 10) k := by
  obtain ⟨many, more, e1, e2, m0, m1, em, hmP, hmR⟩ := comp_num of.g og.g
  have hP : (f.P * many).natAbs < 2 ^ (n + m + 9) := by
    have : (many : Int).natAbs < 2 ^ m := Nat.lt_of_le_of_lt (by have := og.g.P0; omega) Bg.P
    exact L2.natAbs_mul_lt (a := n) (b := m) Bf.P this (by omega)
  have hR : (g.R * more).natAbs < 2 ^ (n + m + 9) := by
    have : (more : Int).natAbs < 2 ^ n := Nat.lt_of_le_of_lt (by have := of.g.R0; omega) Bf.R
    exact L2.natAbs_mul_lt (a := m) (b := n) Bg.R this (by omega)
  have h0 : (ev g (ev f 0)).natAbs < 2 ^ (n + m + 9) := by
    have b0 := ev_bdN of Bf (a := 1) (x := 0) (by decide)
    exact L2.nat_pow_mono (ev_bdN og Bg b0) (by omega)
  rcases C with c | c
  · rw [e1] at c
    have := (told1 of.g og.g m0 m1 em (by exact_mod_cast c)).form (by omega) hP hR h0
    exact this
  · rw [e2] at c
    have := (told2 of.g og.g m0 m1 em (by exact_mod_cast c)).form (by omega) hP hR h0
    exact this
end Sx
namespace L2
open PySem PySem.Spec PyProof.Rows
section
variable {X : Cx}
def rReprB : List V → Hp → VK → Prop := fun vs H Q => ∃ b : Bool, vs = [.bl b] ∧ Q (.str (if b then "True" else "False")) H
/-- repr of True, False -/
theorem call_reprB : CallR X (.builtin "repr") rReprB := by
  intro pins s σ H vs us Q I r h
  obtain ⟨b, rfl, q⟩ := h
  obtain ⟨u, rfl, ru⟩ := vals1 r
  cases (show u = Value.bool b from ru)
  exact PySem.P.repr_of_bool ⟨.str _, H, I.tok _, ⟨_, rfl⟩, q⟩
end
end L2

/-! ### the head's run in two parts (each holds less than the whole) -/
namespace HeZ
open PySem PySem.W HandSHeadRun
theorem map_two {α β γ δ : Type} {x : Option α} {f : α → β} {g : α → γ} {h : α → δ} {b : β} {c : γ} {d : δ} (h1 : x.map (fun s => (f s, g s)) = some (b, c)) (h2 : x.map h = some d) : x.map (fun s => (f s, g s, h s)) = some (b, c, d) := by
  cases x with
  | none => cases h2
  | some a =>
    cases h1
    cases h2
    rfl
/-- what the run leaves, seen by f -/
def Left {γ : Type} (r : OpenRow) (M : Nat) (w : World) (f : SharedT → γ) (c : γ) : Prop := ∀ os : OsState, (endF (stepQ (denQ tabQ) r.prog w) M r.prog w os).map f = some c
abbrev Left1 (r : OpenRow) (q : Program) (M : Nat) (loose : List PySem.Str) (w : World) : Prop := Left r M w (fun s => (looksF r.prog (boot_heap w.params) s.abs, seenQ q loose (importedModules r.prog.main.body) (fun s => xlAt q [] s && recOk r.toRowW.records s) s.abs)) (true, openGood q loose)
theorem run_parts {r : OpenRow} {q : Program} {H : Hook} {ob : SharedT → H.α} {M : Nat} {loose : List PySem.Str} {w : World} (h1 : Left1 r q M loose w) (h2 : Left r M w ob (H.val w)) : RunEq r q H ob M loose w :=
  fun os => map_two (h1 os) (h2 os)
end HeZ

/-! ### integers that stand in a class -/
namespace L2
open PySem PySem.Spec PyProof.Rows
def cvB (K : PySem.W.Frag) (C : Addr) (f : Str) (n : Int) : Bool := match PySem.W.findCls K (.ref C) (.type "type") f with
  | some (.val (.int m _)) => decide (m = n)
  | _ => false
theorem cvB_ok {K : PySem.W.Frag} {C : Addr} {f : Str} {n : Int} (h : cvB K C f n = true) : ∃ u, ClX.CVal K C (.type "type") f (.int n) u := by
  unfold cvB at h
  split at h
  · rename_i m t e
    exact ⟨_, e, t, by rw [of_decide_eq_true h]⟩
  · cases h
end L2

/-! ### def f(self, *v, k = d), called without the keyword -/
namespace L2
open PySem PySem.Spec PyProof.Rows
def FnSK0 (P : Program) (w : World) (K : PySem.W.Frag) (mg : Str → Option Value) (base : Heap) (CX : CXT) (k : Nat) (f : Addr) (dv : V) (sp : Sp) : Prop :=
  ∀ (A : Around) (outer : List Env) (s : Shared) (H : Hp) (u0 : Value) (us : List Value) (v0 : V) (vs : List V) (Q : VK) (E : XK), Room k A → Env0 P w K mg base A outer s H → RelV v0 u0 → Vals vs us → vs ≠ [] → vs.length ≤ sizeLine →
    (∀ p, H p = none → sp [v0, dv, .ref p] (upd H p (.tup vs)) Q E) →
    codeAny (model P w) A (.call (.ref f) ⟨u0 :: us, []⟩) (CR CX outer P w H s Q E) s
section
variable {CX : CXT} {P : Program} {w : World} {K : PySem.W.Frag} {mg : Str → Option Value} {base : Heap} {k : Nat} {f : Addr} {x qual : Str} {params : Arguments} {body : List Stmt} {scope : Scope} {dvs : List V} {kws : List (Str × V)} {fd : FuncData} {N : List Str} {sp : Sp} {p0 pv kn : Str} {dv : V}
theorem FunD.okSK0 (F : FunD K x qual params body scope dvs kws f fd) (S : FnScope N [p0, kn, pv] scope) (hdv : dvs = []) (hkw : kws = [(kn, dv)]) (hCX : StX.CXUp CX)
    (hb : ∀ (D : Addr) (doc pm : Value) (an : Option Addr) (cdv ct : Value) (u0 r : Value) (rs : List Value) (uw : Value), ∃ (β γ : Type) (k1 : Option Value → Sem β) (k2 : β → Sem γ) (k3 : γ → Sem (List (Str × Value))) (a : β),
      bindArgs (PySem.W.fnOf x qual params body scope .none (.ref D) doc pm an cdv ct) ⟨u0 :: r :: rs, []⟩ = ((nsGet D kn >>= k1) >>= k2) >>= k3 ∧ k1 (some uw) = pure a ∧ (k2 a >>= k3) = (newTuple (r :: rs) >>= fun t => pure [(p0, u0), (kn, uw), (pv, t)]))
    (hbody : ∀ (cdv : Value) (A : Around) (outer : List Env) (s : Shared) (H : Hp) (vs : List V) (Q : VK) (E : XK), Room k (A.deeper (envOfC qual scope s.heap.objs.size f cdv)) → vs.length = 3 → sp vs H Q E →
      ∃ t, PSs (cxOf CX P w K mg base N qual scope f cdv A outer s H E) body t ∧ t { nx := fun _ H' => Q .non H', rt := Q } (start N vs) H) :
    FnSK0 P w K mg base CX (k + 1) f dv sp := by
  obtain ⟨oc, od, dV, kV, doc, pm, an, cdv, ct, osl, rfl, lk, hcd, hD, hK⟩ := F.ex
  obtain rfl : dV = .none := by
    rcases hD with ⟨_, e⟩ | ⟨e, _⟩
    · exact e
    · exact absurd hdv e
  obtain ⟨D, rfl, hq0⟩ : ∃ D : Addr, kV = .ref D ∧ ∀ q ∈ kws, ∃ u, PySem.W.nsIn K D q.1 = some (some u) ∧ RelV q.2 u := by
    rcases hK with e | h
    · rw [hkw] at e; cases e
    · exact h
  obtain ⟨uw, hns, rw'⟩ := hq0 (kn, dv) (by rw [hkw]; exact List.mem_cons_self)
  intro A outer s H u0 us v0 vs Q E hr e0 r0 r hne hz hq
  have hn : H s.heap.objs.size = Option.none := e0.hok.fresh (Nat.le_refl _)
  have hl2 : us.length ≤ sizeLine := by rw [← r.length]; exact hz
  refine StX.run_bnd lk hcd S hr e0 (G := fun xs H2 => ∃ p, H p = Option.none ∧ xs = [v0, dv, V.ref p] ∧ H2 = upd H p (.tup vs)) (fun A' Ex Q' h => ?_) fun s2 H2 xs hh hr' => ?_
  · cases us with
    | nil => cases r; exact absurd rfl hne
    | cons u us =>
      obtain ⟨β, γ, k1, k2, k3, a, e1, e2, e3⟩ := hb D doc pm an cdv ct u0 u us uw
      rw [e1, bind_assoc]
      have l1 : PySem.W.Looks (model P w) s.heap (nsGet D kn >>= k1) a := (PySem.W.looks_nsIn (fun b o e => (e0.bs b o (e0.mod.kin b o e)).1) hns).andThen (PySem.W.Looks.of_pure e2)
      refine wpAny_bind (l1.here ?_)
      rw [e3]
      refine wpAny_bind (wpAny_newTuple (wpAny_pure ?_) hl2)
      have new : ObjOk P w (upd H s.heap.objs.size (.tup vs)) (s.heap.push ({ cls := .type "tuple", data := .seq (u :: us).toArray } : Obj)) s.heap.objs.size (.tup vs) := ⟨hz, u :: us, r, ⟨_, Heap.get?_push_size _ rfl, rfl, _, rfl⟩⟩
      have un := StX.un_laid (fs := frs outer) (s := s) (o := ({ cls := .type "tuple", data := .seq (u :: us).toArray } : Obj)) (u := .tup vs) hn
      exact h _ _ [v0, dv, V.ref s.heap.objs.size] [u0, uw, Value.ref s.heap.objs.size] (StX.env0_laid e0 new) un rfl (fun e s' => hCX outer s H _ _ E e s' un (fun b o q => Heap.get?_push_of_some _ q) rfl) (.cons r0 (.cons rw' (.cons rfl .nil))) rfl ⟨_, hn, rfl, rfl⟩
  · obtain ⟨p, hp, ex, eH⟩ := hh
    subst ex eH
    exact hbody cdv A outer s2 _ _ Q E hr' rfl (hq p hp)
end
section
variable {X : Cx} {CX : CXT} {k : Nat} {f C : Addr} {sp : Sp} {E : XK} {x : Str} {p pos : Pos} {e : Expr} {es : List Expr} {t : TA} {dv : V}
/-- C(e, ..), the keyword left out -/
def tMakeSK0 (C : Addr) (dv : V) (sp : Sp) (E : XK) (t : TA) : TE := fun σ H Q => t σ H fun vs H2 => vs ≠ [] ∧ vs.length ≤ sizeLine ∧
  ∀ x dx pt, H2 x = none → H2 dx = none → dx ≠ x → H2 pt = none → pt ≠ x → pt ≠ dx → sp [.ref x, dv, .ref pt] (upd (upd (upd H2 dx (.own x)) x (.ins C dx [])) pt (.tup vs)) (fun v H3 => v = .non ∧ Q (.ref x) H3) E
theorem pe_makeSK0 (M : Mk X.K C f) (F : FnSK0 X.prog X.w X.K X.mg X.base CX k f dv sp) (hr : Room (k + 1) X.A) (hg : Gl X x) (hm : X.mg x = some (.ref C)) (hx : Passes CX X E) (ha : PA X (e :: es) t)
    (hdb : (x == ("__debug__" : Str)) = false := by decide) (he : starEach (e :: es) X.env = (false, eval e X.env) :: starEach es X.env := by rfl)
    (hpl : (backTo pos (starEach es X.env)).any (·.1) = false := by rfl) :
    PE X (.Call (.Name x p) (e :: es) [] pos) (tMakeSK0 C dv sp E t) := by
  refine ⟨fun pins s σ H Q I h => ?_⟩
  refine wpAny_Call_Name_kw (ld_glob I hg hm ?_ hdb)
  refine PySem.W.callWith_K (h₀ := X.base) I.ok.mod.kin M.kp (thn (ha.run pos pins s σ H _ I h) fun us s2 ⟨vs, H2, I2, r, hne, hz, q2⟩ => ⟨I2.kIn, ?_⟩) he hpl
  show wpAny _ _ (call (.ref C) us []) _ _ _
  have I3 := Inv.made (C := C) I2
  refine wpAny_call (make_map (f := f) I2.kIn M.makes M.init (beq_iff_eq.mp M.fn) (codeAny_mono (F _ X.stack _ _ (Value.ref (s2.heap.objs.size + 1)) us (V.ref (s2.heap.objs.size + 1)) vs (fun v H3 => v = .non ∧ Q (.ref (s2.heap.objs.size + 1)) H3) E (hr.make C us [])
    (I3.env0.make C us []) rfl r hne hz fun pt hpt => ?_) fun r s' hq' => ?_))
  · have n0 := I2.hok.fresh (a := s2.heap.objs.size + 1) (Nat.le_succ _)
    have n1 := I2.hok.fresh (a := s2.heap.objs.size) (Nat.le_refl _)
    have hp1 : pt ≠ s2.heap.objs.size + 1 := fun e => by rw [e, upd_same] at hpt; cases hpt
    rw [upd_ne hp1] at hpt
    have hp2 : pt ≠ s2.heap.objs.size := fun e => by rw [e, upd_same] at hpt; cases hpt
    rw [upd_ne hp2] at hpt
    exact q2 _ _ pt n0 n1 (Nat.ne_of_lt (Nat.lt_succ_self _)) hpt hp1 hp2
  · cases r with
    | error e => exact hx pins σ _ _ e s' I3 hq'
    | ok fl =>
      cases fl with
      | ret u =>
        obtain ⟨v, H', I4, rv, ev, q3⟩ := I3.after hq'
        subst ev
        exact ⟨rv, ⟨V.ref (s2.heap.objs.size + 1), H', I4, rfl, q3⟩⟩
      | next => exact False.elim hq'
      | brk => exact False.elim hq'
      | cont => exact False.elim hq'
end
end L2
/-! ### own == a list or an int, where the own side answers -/
namespace L2
open PySem PySem.Spec PyProof.Rows
section
variable {X : Cx} {CX : CXT} {k : Nat} {f C : Addr} {fd : FuncData} {ps : List Str} {sp : Sp} {E : XK}
def rEqOL (K : PySem.W.Frag) (C : Addr) (sp : Sp) (E : XK) : R2 := fun x y H Q => ∃ a dx fs l ys, x = .ref a ∧ H a = some (.ins C dx fs) ∧ y = .ref l ∧ SqL K H l ys ∧ sp [x, y] H Q E
theorem op_eqOwnL (hm : Meth X.K C "__eq__" f) (F : FnOk X.prog X.w X.K X.mg X.base CX k f fd ps sp) (hr : Room k X.A) (hb : Binds X.K fd ps []) (hx : Passes CX X E) : OpR X (compareOp .Eq) (rEqOL X.K C sp E) := by
  intro pins s σ H x y u v Q I rx ry h
  obtain ⟨a, dx, fs, l, ys, ex, ha, ey, hl, h⟩ := h
  subst ex
  subst ey
  cases (show u = Value.ref a from rx)
  cases (show v = Value.ref l from ry)
  obtain ⟨oa, Ia⟩ := inst_of I ha
  obtain ⟨its, rv, ⟨ol, n, hol, hcl, hdl, _⟩, hz⟩ := I.list hl
  have hbt : PySem.W.Looks (model X.prog X.w) s.heap (typeOf (.ref l)) (.type "list") := fun A Q E s k q => wpAny_typeOf_ref (k _ _ hol) (by rw [hcl]; exact q)
  obtain ⟨m, Fr⟩ := I.fr
  show wpAny _ _ (richCompare .Eq _ _) _ _ _
  exact PySem.W.cmp_K hr.units0 Fr I.mod.kin Ia hbt sub_listO hm.1 hm.2 (run_back (vs := [V.ref a, V.ref l]) F hr hb hx I (.cons rfl (.cons rfl .nil)) h)
def rEqOI (C : Addr) (sp : Sp) (E : XK) : R2 := fun x y H Q => ∃ a dx fs i, x = .ref a ∧ H a = some (.ins C dx fs) ∧ y = .int i ∧ sp [x, y] H Q E
theorem op_eqOwnI (hm : Meth X.K C "__eq__" f) (F : FnOk X.prog X.w X.K X.mg X.base CX k f fd ps sp) (hr : Room k X.A) (hb : Binds X.K fd ps []) (hx : Passes CX X E) : OpR X (compareOp .Eq) (rEqOI C sp E) := by
  intro pins s σ H x y u v Q I rx ry h
  obtain ⟨a, dx, fs, i, ex, ha, ey, h⟩ := h
  subst ex
  subst ey
  cases (show u = Value.ref a from rx)
  obtain ⟨t, rfl⟩ := (show ∃ t, v = Value.int i t from ry)
  obtain ⟨oa, Ia⟩ := inst_of I ha
  obtain ⟨m, Fr⟩ := I.fr
  show wpAny _ _ (richCompare .Eq _ _) _ _ _
  exact PySem.W.cmp_K hr.units0 Fr I.mod.kin Ia (PySem.W.Looks.of_pure rfl) sub_int hm.1 hm.2 (run_back (vs := [V.ref a, V.int i]) F hr hb hx I (.cons rfl (.cons ⟨t, rfl⟩ .nil)) h)
end
end L2

/-! ### C.m(e, .., k = v, ..), m a class method with keyword-only parameters; cls(e, ..) -/
namespace L2
open PySem PySem.Spec PyProof.Rows
section
variable {X : Cx} {CX : CXT} {k n : Nat} {C p q g : Addr} {mc : Value} {fd : FuncData} {ps ks : List Str} {sp : Sp} {E : XK} {o e : Expr} {es : List Expr} {kws : List Keyword} {m : Str} {pos apos : Pos} {ta : TE} {t tk : TA} {pl : Sem Bool} {gg : List Value → List Value → List Value} {gV : List V → List V → List V}
def tCMethK (C : Addr) (n m : Nat) (sp : Sp) (gV : List V → List V → List V) (E : XK) (ta : TE) (t tk : TA) : TE := fun σ H Q => ta σ H fun x H1 => x = .ref C ∧ t σ H1 fun vs H2 => tk σ H2 fun zs H3 => vs.length + 1 = n ∧ zs.length = m ∧ sp (gV (.ref C :: vs) zs) H3 Q E
theorem run_cmK {pins : List (Addr × Obj)} {σ : L2.St} {H : Hp} {s : Shared} {Q : VK} {us ws : List Value} {vs zs : List V} (F : FnOk X.prog X.w X.K X.mg X.base CX k g fd ps sp) (hr : Room k X.A) (hb : KBn X.K fd ps n ks gg gV) (hx : Passes CX X E)
    (I : Inv X ((q, PySem.W.methodObj (.ref g) (.ref C)) :: pins) σ H s) (r : Vals vs us) (rz : Vals zs ws) (l1 : vs.length + 1 = n) (l2 : zs.length = ks.length) (h : sp (gV (.ref C :: vs) zs) H Q E) : wpAny (model X.prog X.w) X.A (call (.ref q) us (ks.zip ws)) (EP X pins σ Q) X.xe s := by
  have r1 : Vals (V.ref C :: vs) (Value.ref C :: us) := .cons rfl r
  have r2 := hb.rel r1 rz
  have z : wpAny (model X.prog X.w) X.A (call (.ref q) us (ks.zip ws)) (EP X ((q, PySem.W.methodObj (.ref g) (.ref C)) :: pins) σ Q) X.xe s := by
    refine wpAny_call (PySem.W.method_call (ClX.pin_at I) (codeAny_mono (F.run X.A X.stack s H ⟨Value.ref C :: us, ks.zip ws⟩ (gg (Value.ref C :: us) ws) (gV (V.ref C :: vs) zs) Q E hr I.env0 (hb.to s (Value.ref C :: us) ws I.kIn (by rw [List.length_cons, ← r.length]; exact l1) (rz.length.symm.trans l2)) r2 h) fun r s' hq => ?_))
    cases r with
    | error e => exact hx _ σ H s e s' I hq
    | ok fl =>
      cases fl with
      | ret u => exact I.after hq
      | next => exact False.elim hq
      | brk => exact False.elim hq
      | cont => exact False.elim hq
  exact thn z fun _ _ y => ClX.unpinE y
theorem callwith_cmK {s : Shared} {A : Around} {Q : Value → Shared → Prop} {E' : Value → Shared → Prop} (hf : PySem.W.fnIn X.K g = true) (hall : (backToKw pos (keywordEach kws X.env)).all (·.1.isSome) = true)
    (h : wpAny (model X.prog X.w) A (spliced (backTo pos (starEach (e :: es) X.env))) (fun vs s₁ => wpAny (model X.prog X.w) A (evalAll ((backToKw pos (keywordEach kws X.env)).map (·.2)))
      (fun ks s₂ => PySem.W.MethP X.K q g (.ref C) s₂.heap ∧ wpAny (model X.prog X.w) A (call (.ref q) vs (((backToKw pos (keywordEach kws X.env)).filterMap (·.1)).zip ks)) Q E' s₂) E' s₁) E' s)
    (hpl : ((backTo pos (starEach (e :: es) X.env)).any (·.1) || (backToKw pos (keywordEach kws X.env)).any (·.1.isNone)) = false) (he : starEach (e :: es) X.env = (false, eval e X.env) :: starEach es X.env) :
    wpAny (model X.prog X.w) A (callWith pos (.ref q) [] (backTo pos (starEach (e :: es) X.env)) (backToKw pos (keywordEach kws X.env))) Q E' s :=
  PySem.W.callWith_of hpl (PySem.W.keeps_M hf) (evalArgs_kw2 hall h he)
theorem pe_cmethK (he : PE X o ta) (r : ClX.CRead X.K C mc) (c : ClX.CMet X.K C mc m p g) (F : FnOk X.prog X.w X.K X.mg X.base CX k g fd ps sp) (hr : Room k X.A) (hb : KBn X.K fd ps n ks gg gV) (hx : Passes CX X E) (ha : PA X (e :: es) t) (hk : PK X kws tk)
    (hst : starEach (e :: es) X.env = (false, eval e X.env) :: starEach es X.env := by rfl)
    (hall : (backToKw pos (keywordEach kws X.env)).all (·.1.isSome) = true := by rfl) (hks : (backToKw pos (keywordEach kws X.env)).filterMap (·.1) = ks := by rfl)
    (hpl : ((backTo pos (starEach (e :: es) X.env)).any (·.1) || (backToKw pos (keywordEach kws X.env)).any (·.1.isNone)) = false := by rfl)
    (ht : eval (.Call (.Attribute o m apos) (e :: es) kws pos) X.env = (do
      let ov ← eval o X.env
      standAt apos.atName
      let (f, first) ← holding [ov] (getMethod ov m pl)
      callWith pos f first (backTo pos (starEach (e :: es) X.env)) (backToKw pos (keywordEach kws X.env))) := by rfl) :
    PE X (.Call (.Attribute o m apos) (e :: es) kws pos) (tCMethK C n ks.length sp gV E ta t tk) := by
  refine ⟨fun pins s σ H Q I h => ?_⟩
  refine PySem.W.methodCall_KW (pl := pl) (thn (he.run pins s σ H _ I h) fun u s1 ⟨x, H1, I1, rx, ex, q⟩ => ?_) ht
  subst ex
  obtain rfl : u = Value.ref C := rx
  refine ClX.getmethcm_ok I1 r c fun s2 I2 => ?_
  refine callwith_cmK (C := C) c.fi hall (thn (ha.run pos _ s2 σ H1 _ I2 q) fun us s3 ⟨vs, H2, I3, rv, q2⟩ => ?_) hpl hst
  refine thn (hk.run pos _ s3 σ H2 _ I3 q2) fun ws s4 ⟨zs, H4, I4, rz, l1, l2, q3⟩ => ⟨⟨ClX.pin_at I4, I4.kIn⟩, ?_⟩
  rw [hks]
  exact run_cmK F hr hb hx I4 rv rz l1 l2 q3
end
section
variable {X : Cx} {CX : CXT} {k i : Nat} {f C : Addr} {fd : FuncData} {ps : List Str} {sp : Sp} {dvs : List V} {ds : List Value} {E : XK} {x : Str} {p pos : Pos} {e : Expr} {es : List Expr} {t : TA}
/-- the i-th slot holds the class at C -/
def tMakeL (i : Nat) (C : Addr) (sp : Sp) (dvs : List V) (E : XK) (t : TA) : TE := fun σ H Q => σ[i]? = some (some (.ref C)) ∧ tMake C sp dvs E t σ H Q
theorem pe_makeL (M : Mk X.K C f) (F : FnOk X.prog X.w X.K X.mg X.base CX k f fd ps sp) (hr : Room (k + 1) X.A) (hN : X.N[i]? = some x) (hv : Vis X.env.scope x) (hb : Binds X.K fd ps ds) (hd : Vals dvs ds) (hx : Passes CX X E) (ha : PA X (e :: es) t)
    (hdb : (x == ("__debug__" : Str)) = false := by decide) (hcd : (x == ("__classdict__" : Str)) = false := by decide)
    (he : starEach (e :: es) X.env = (false, eval e X.env) :: starEach es X.env := by rfl) (hpl : (backTo pos (starEach es X.env)).any (·.1) = false := by rfl) : PE X (.Call (.Name x p) (e :: es) [] pos) (tMakeL i C sp dvs E t) := by
  refine ⟨fun pins s σ H Q I h => ?_⟩
  obtain ⟨hs, ht⟩ := h
  refine wpAny_Call_Name_kw (thn ((pe_var (pos := p) hN hv hdb hcd).run pins s σ H (fun v H1 => v = .ref C ∧ H1 = H) I ⟨.ref C, hs, rfl, rfl⟩) fun u s1 ⟨v, H1, I1, r1, q1⟩ => ?_)
  obtain ⟨rfl, rfl⟩ := q1
  cases r1
  refine PySem.W.callWith_K (h₀ := X.base) I.ok.mod.kin M.kp (thn (ha.run pos pins s1 σ _ _ I1 ht) fun us s2 ⟨vs, H2, I2, r, q⟩ => ⟨I2.kIn, ?_⟩) he hpl
  exact run_make M F hr hb hd hx I2 r q
end
/-! ### what the head must see of a class method -/
def cmB (K : PySem.W.Frag) (C : Addr) (m : Str) : Bool := He5.wrapB K C "classmethod" "classmethod.__get__" m && PySem.W.fnIn K (He5.wf K C "classmethod" m)
theorem cmB_ok {K : PySem.W.Frag} {C : Addr} {m : Str} (h : cmB K C m = true) : ClX.CMet K C (.type "type") m (He.ma K C m) (He5.wf K C "classmethod" m) := by
  obtain ⟨h1, h2⟩ := Bool.and_eq_true_iff.mp h
  obtain ⟨h3, h4⟩ := He5.wrapB_ok h1
  exact ⟨h3, h4, h2⟩
end L2

/-! ### C.m(e, .., k = v, ..) of a class method, what is raised is wished for at the slots (inside try) -/
namespace L2
open PySem PySem.Spec PyProof.Rows
section
variable {X : Cx} {CX : CXT} {k n : Nat} {C p q g : Addr} {mc : Value} {fd : FuncData} {ps ks : List Str} {sp : Sp} {E : L2.St → XK} {o e : Expr} {es : List Expr} {kws : List Keyword} {m : Str} {pos apos : Pos} {ta : TE} {t tk : TA} {pl : Sem Bool} {gg : List Value → List Value → List Value} {gV : List V → List V → List V}
def tCMethE (C : Addr) (n m : Nat) (sp : Sp) (gV : List V → List V → List V) (E : L2.St → XK) (ta : TE) (t tk : TA) : TE := fun σ H Q => ta σ H fun x H1 => x = .ref C ∧ t σ H1 fun vs H2 => tk σ H2 fun zs H3 => vs.length + 1 = n ∧ zs.length = m ∧ sp (gV (.ref C :: vs) zs) H3 Q (E σ)
theorem run_cmE {pins : List (Addr × Obj)} {σ : L2.St} {H : Hp} {s : Shared} {Q : VK} {us ws : List Value} {vs zs : List V} (F : FnOk X.prog X.w X.K X.mg X.base CX k g fd ps sp) (hr : Room k X.A) (hb : KBn X.K fd ps n ks gg gV) (hx : ∀ σ, PassesAt CX X σ (E σ))
    (I : Inv X ((q, PySem.W.methodObj (.ref g) (.ref C)) :: pins) σ H s) (r : Vals vs us) (rz : Vals zs ws) (l1 : vs.length + 1 = n) (l2 : zs.length = ks.length) (h : sp (gV (.ref C :: vs) zs) H Q (E σ)) : wpAny (model X.prog X.w) X.A (call (.ref q) us (ks.zip ws)) (EP X pins σ Q) X.xe s := by
  have r1 : Vals (V.ref C :: vs) (Value.ref C :: us) := .cons rfl r
  have r2 := hb.rel r1 rz
  have z : wpAny (model X.prog X.w) X.A (call (.ref q) us (ks.zip ws)) (EP X ((q, PySem.W.methodObj (.ref g) (.ref C)) :: pins) σ Q) X.xe s := by
    refine wpAny_call (PySem.W.method_call (ClX.pin_at I) (codeAny_mono (F.run X.A X.stack s H ⟨Value.ref C :: us, ks.zip ws⟩ (gg (Value.ref C :: us) ws) (gV (V.ref C :: vs) zs) Q (E σ) hr I.env0 (hb.to s (Value.ref C :: us) ws I.kIn (by rw [List.length_cons, ← r.length]; exact l1) (rz.length.symm.trans l2)) r2 h) fun r s' hq => ?_))
    cases r with
    | error e => exact hx σ _ H s e s' I hq
    | ok fl =>
      cases fl with
      | ret u => exact I.after hq
      | next => exact False.elim hq
      | brk => exact False.elim hq
      | cont => exact False.elim hq
  exact thn z fun _ _ y => ClX.unpinE y
theorem pe_cmethE (he : PE X o ta) (r : ClX.CRead X.K C mc) (c : ClX.CMet X.K C mc m p g) (F : FnOk X.prog X.w X.K X.mg X.base CX k g fd ps sp) (hr : Room k X.A) (hb : KBn X.K fd ps n ks gg gV) (hx : ∀ σ, PassesAt CX X σ (E σ)) (ha : PA X (e :: es) t) (hk : PK X kws tk)
    (hst : starEach (e :: es) X.env = (false, eval e X.env) :: starEach es X.env := by rfl)
    (hall : (backToKw pos (keywordEach kws X.env)).all (·.1.isSome) = true := by rfl) (hks : (backToKw pos (keywordEach kws X.env)).filterMap (·.1) = ks := by rfl)
    (hpl : ((backTo pos (starEach (e :: es) X.env)).any (·.1) || (backToKw pos (keywordEach kws X.env)).any (·.1.isNone)) = false := by rfl)
    (ht : eval (.Call (.Attribute o m apos) (e :: es) kws pos) X.env = (do
      let ov ← eval o X.env
      standAt apos.atName
      let (f, first) ← holding [ov] (getMethod ov m pl)
      callWith pos f first (backTo pos (starEach (e :: es) X.env)) (backToKw pos (keywordEach kws X.env))) := by rfl) :
    PE X (.Call (.Attribute o m apos) (e :: es) kws pos) (tCMethE C n ks.length sp gV E ta t tk) := by
  refine ⟨fun pins s σ H Q I h => ?_⟩
  refine PySem.W.methodCall_KW (pl := pl) (thn (he.run pins s σ H _ I h) fun u s1 ⟨x, H1, I1, rx, ex, q⟩ => ?_) ht
  subst ex
  obtain rfl : u = Value.ref C := rx
  refine ClX.getmethcm_ok I1 r c fun s2 I2 => ?_
  refine callwith_cmK (C := C) c.fi hall (thn (ha.run pos _ s2 σ H1 _ I2 q) fun us s3 ⟨vs, H2, I3, rv, q2⟩ => ?_) hpl hst
  refine thn (hk.run pos _ s3 σ H2 _ I3 q2) fun ws s4 ⟨zs, H4, I4, rz, l1, l2, q3⟩ => ⟨⟨ClX.pin_at I4, I4.kIn⟩, ?_⟩
  rw [hks]
  exact run_cmE F hr hb hx I4 rv rz l1 l2 q3
end
end L2

/-! ### == of tuples that hold own objects: True or False -/
namespace GQ
open PySem PySem.SeqAt
open AutoSeq1 (wpAny_loadPart')
open MeetsSeq MeetsSeq2 MeetsSeq3 SeqRoads2
section
variable {prog : Program} {w : World} {A : Around} {R : Result → Shared → Prop}
/-- what is behind the first k pairs, which are equal: a pair that differs, or the end of one tuple -/
def LastB (prog : Program) (w : World) (A : Around) (E : Value → Shared → Prop) (items items2 : Array Value) (k : Nat) (r : Bool) (I : Shared → Prop) (Z : Shared → Prop) : Prop :=
  (∃ (h1 : k < items.size) (h2 : k < items2.size), r = false ∧ ∀ s, I s → wpAny (model prog w) A.in1 (eqBool items[k] items2[k]) (fun z s' => z = false ∧ Z s') E s) ∨
  ((k = items.size ∨ k = items2.size) ∧ r = (items.size == items2.size) ∧ ∀ s, I s → Z s)
theorem tuple_eqB (l b : Addr) (items items2 : Array Value) (n n2 : Nat) (dd dd2 : Option Addr) (sl sl2 : Array (Option Value)) (k : Nat) (r : Bool) (hk1 : k ≤ items.size) (hk2 : k ≤ items2.size) (I : Nat → Shared → Prop)
    (turn : ∀ i (hi : i < k) (h1 : i < items.size) (h2 : i < items2.size) s, I i s → wpAny (model prog w) A.in1 (eqBool items[i] items2[i]) (fun r s' => r = true ∧ I (i + 1) s') (fun e s' => R (.error e) s') s)
    (last : LastB prog w A (fun e s' => R (.error e) s') items items2 k r (I k) (fun s' => R (.ok (.ret (.bool r))) s')) {s : Shared} (hl1 : s.heap.get? l = some { cls := .type "tuple", dict := dd, data := .seq items n, slots := sl }) (hb1 : s.heap.get? b = some { cls := .type "tuple", dict := dd2, data := .seq items2 n2, slots := sl2 }) (h : I 0 s) :
    wpAny (model prog w) A.in1 (Builtin.«tuple.__eq__» ⟨[.ref l, .ref b], []⟩) (FinOf prog w A R) (fun e s' => R (.error e) s') s := by
  have f2 := AutoSeq1.sub_tuple_tuple
  have hZ : (items.toList.zip items2.toList).length = min items.size items2.size := by simp
  have h0 := h
  obtain ⟨hp, g, d, tk, os⟩ := s
  wp_walk using wpAny_loadPart' hl1, wpAny_loadPart' hb1, wpAny_forIn_list _ (fun rest b s' => b.1 = none ∧ ∃ i, rest = (items.toList.zip items2.toList).drop i ∧ i ≤ k ∧ I i s') _
  case turn =>
    rintro ⟨y, x⟩ rest b s' ⟨hb', i, hz, hi, hI⟩
    have hlt : i < (items.toList.zip items2.toList).length := by
      rcases Nat.lt_or_ge i (items.toList.zip items2.toList).length with h' | h'
      · exact h'
      · rw [List.drop_of_length_le h'] at hz; cases hz
    have h1 : i < items.size := by omega
    have h2 : i < items2.size := by omega
    rw [List.drop_eq_getElem_cons hlt] at hz
    injection hz with hyx hrest
    have hy : y = items[i] := by have := congrArg Prod.fst hyx; simpa using this
    have hx : x = items2[i] := by have := congrArg Prod.snd hyx; simpa using this
    subst hy hx
    rcases Nat.lt_or_ge i k with hik | hik
    · refine wpAny_bind (wpAny_mono (turn i hik h1 h2 s' hI) (fun r s2 q2 => ?_) fun _ _ x => x)
      obtain ⟨hr, q2⟩ := q2
      subst hr
      wp_walk
      exact ⟨rfl, i + 1, hrest, hik, q2⟩
    · obtain rfl : i = k := by omega
      rcases last with ⟨_, _, rfl, hq⟩ | ⟨hk, _, _⟩
      · refine wpAny_bind (wpAny_mono (hq s' hI) (fun r s2 q2 => ?_) fun _ _ x => x)
        obtain ⟨hr, q2⟩ := q2
        subst hr
        wp_walk
        exact q2
      · omega
  case fin =>
    rintro ⟨b1, b2⟩ s' ⟨hb', i, hz, hi, hI⟩
    simp only at hb'
    subst hb'
    have hge : min items.size items2.size ≤ i := by
      rcases Nat.lt_or_ge i (items.toList.zip items2.toList).length with h' | h'
      · rw [List.drop_eq_getElem_cons h'] at hz; cases hz
      · exact hZ ▸ h'
    have hi' : i = k := by omega
    subst hi'
    rcases last with ⟨z1, z2, _⟩ | ⟨hk, hr, hq⟩
    · omega
    · have hR := hq s' hI
      subst hr
      wp_walk
      simpa [Builtin.Tuple.tupleCompareSizes] using hR
  case h =>
    exact ⟨rfl, 0, rfl, Nat.zero_le _, h0⟩
end
section
variable {prog : Program} {w : World} {A : Around} {E : Value → Shared → Prop} {s : Shared}
theorem rc_tupB {l b : Addr} {items items2 : Array Value} {Q : Value → Shared → Prop} (k : Nat) (r : Bool) (hk1 : k ≤ items.size) (hk2 : k ≤ items2.size) (hu : A.units < cLine) (I : Nat → Shared → Prop)
    (hl : s.heap.IsTuple l items) (hb : s.heap.IsTuple b items2)
    (turn : ∀ i (hi : i < k) (h1 : i < items.size) (h2 : i < items2.size) s, I i s → wpAny (model prog w) A.in1 (eqBool items[i] items2[i]) (fun r s' => r = true ∧ I (i + 1) s') E s)
    (last : LastB prog w A E items items2 k r (I k) (fun s' => Q (.bool r) s')) (h : I 0 s) : wpAny (model prog w) A (richCompare .Eq (.ref l) (.ref b)) Q E s := by
  obtain ⟨⟨cls, dd, data, sl⟩, ho, hc, n, hd⟩ := id hl
  obtain ⟨⟨cls2, dd2, data2, sl2⟩, ho2, hc2, n2, hd2⟩ := id hb
  simp only at hc hd hc2 hd2
  subst hc hd hc2 hd2
  refine wpAny_richCompare_same_room (op := .Eq) ⟨_, ho, rfl⟩ ⟨_, ho2, rfl⟩ F.slot_tuple_eq (call_here F.slot_tuple_eq ⟨_, ho, rfl⟩ F.entry_tuple_eq (F.args_tuple_eq_2 _ _) ?_) hu
  refine tuple_eqB (R := wants (fun v s' => v ≠ .notImplemented ∧ Q v s') E) l b items items2 n n2 dd dd2 sl sl2 k r hk1 hk2 I turn ?_ ho ho2 h
  rcases last with ⟨h1, h2, e, q⟩ | ⟨hk, e, q⟩
  · exact .inl ⟨h1, h2, e, fun s hs => wpAny_mono (q s hs) (fun z s' hz => ⟨hz.1, (fun x => nomatch x), hz.2⟩) fun _ _ x => x⟩
  · exact .inr ⟨hk, e, fun s hs => ⟨(fun x => nomatch x), q s hs⟩⟩
end
end GQ
namespace L2
open PySem PySem.Spec PyProof.Rows
/-- what == of two values answers, by the abstract heap -/
abbrev Eqb := V → V → Hp → Bool → Prop
def MonB (D : Eqb) : Prop := ∀ x y H H' b, Ext H H' → D x y H b → D x y H' b
def EqB (X : Cx) (n : Nat) (D : Eqb) : Prop :=
  ∀ (A : Around) (pins : List (Addr × Obj)) (s : Shared) (σ : St) (H : Hp) (x y : V) (u v : Value) (b : Bool), Sub X n A → Inv X pins σ H s → RelV x u → RelV y v → D x y H b →
    wpAny (model X.prog X.w) A (eqBool u v) (fun r s' => r = b ∧ ∃ H', Inv X pins σ H' s' ∧ Ext H H') X.xe s
def RcB (X : Cx) (n : Nat) (D : Eqb) : Prop :=
  ∀ (A : Around) (pins : List (Addr × Obj)) (s : Shared) (σ : St) (H : Hp) (x y : V) (u v : Value) (b : Bool), Sub X n A → Inv X pins σ H s → RelV x u → RelV y v → D x y H b →
    wpAny (model X.prog X.w) A (richCompare .Eq u v) (fun r s' => r = .bool b ∧ ∃ H', Inv X pins σ H' s' ∧ Ext H H') X.xe s
/-- item by item, up to the first pair that differs -/
def PrsB (D : Eqb) (xs ys : List V) (H : Hp) (b : Bool) : Prop := ∃ k, k ≤ xs.length ∧ k ≤ ys.length ∧ (∀ i x y, i < k → xs[i]? = some x → ys[i]? = some y → D x y H true) ∧
  ((∃ x y, xs[k]? = some x ∧ ys[k]? = some y ∧ D x y H false ∧ b = false) ∨ ((k = xs.length ∨ k = ys.length) ∧ b = (xs.length == ys.length)))
section
variable {X : Cx} {n m : Nat} {D D' : Eqb}
theorem EqB.mono (h : EqB X n D) (hn : n ≤ m) : EqB X m D := fun A pins s σ H x y u v b sb => h A pins s σ H x y u v b (sb.mono hn)
theorem EqB.or (h : EqB X n D) (h' : EqB X n D') : EqB X n (fun x y H b => D x y H b ∨ D' x y H b) := fun A pins s σ H x y u v b sb I rx ry d => by
  rcases d with d | d
  · exact h A pins s σ H x y u v b sb I rx ry d
  · exact h' A pins s σ H x y u v b sb I rx ry d
theorem MonB.or (h : MonB D) (h' : MonB D') : MonB (fun x y H b => D x y H b ∨ D' x y H b) := fun x y H H' b e d => d.elim (fun d => .inl (h x y H H' b e d)) fun d => .inr (h' x y H H' b e d)
/-- flat values -/
def DFlatB : Eqb := fun x y _ b => flatV x = true ∧ flatV y = true ∧ eqV x y = b
theorem monB_flat : MonB DFlatB := fun _ _ _ _ _ _ d => d
theorem eqB_flat : EqB X 0 DFlatB := by
  intro A pins s σ H x y u v b sb I rx ry d
  obtain ⟨fx, fy, e⟩ := d
  have q := eqAt_V (A := A) (s := s) rx ry fx fy
  rw [e] at q
  exact q X.prog X.w X.xe _ ⟨rfl, H, I, Ext.rfl'⟩
theorem PrsB.mon (hD : MonB D) {xs ys : List V} {H H' : Hp} {b : Bool} (e : Ext H H') (p : PrsB D xs ys H b) : PrsB D xs ys H' b := by
  obtain ⟨k, h1, h2, h3, h4⟩ := p
  refine ⟨k, h1, h2, fun i x y hi e1 e2 => hD _ _ _ _ _ e (h3 i x y hi e1 e2), ?_⟩
  rcases h4 with ⟨x, y, e1, e2, d, eb⟩ | h4
  · exact .inl ⟨x, y, e1, e2, hD _ _ _ _ _ e d, eb⟩
  · exact .inr h4
theorem PrsB.nil {H : Hp} : PrsB D [] [] H true := ⟨0, Nat.le_refl _, Nat.le_refl _, fun i x y h => absurd h (Nat.not_lt_zero i), .inr ⟨.inl rfl, rfl⟩⟩
theorem PrsB.nilR {y : V} {ys : List V} {H : Hp} : PrsB D [] (y :: ys) H false := ⟨0, Nat.le_refl _, Nat.zero_le _, fun i x y h => absurd h (Nat.not_lt_zero i), .inr ⟨.inl rfl, rfl⟩⟩
theorem PrsB.nilL {x : V} {xs : List V} {H : Hp} : PrsB D (x :: xs) [] H false := ⟨0, Nat.zero_le _, Nat.le_refl _, fun i x y h => absurd h (Nat.not_lt_zero i), .inr ⟨.inr rfl, rfl⟩⟩
theorem PrsB.cons {x y : V} {xs ys : List V} {H : Hp} {b : Bool} (h : D x y H true) (p : PrsB D xs ys H b) : PrsB D (x :: xs) (y :: ys) H b := by
  obtain ⟨k, h1, h2, h3, h4⟩ := p
  refine ⟨k + 1, Nat.succ_le_succ h1, Nat.succ_le_succ h2, fun i a c hi e1 e2 => ?_, ?_⟩
  · cases i with
    | zero =>
      cases Option.some.inj e1
      cases Option.some.inj e2
      exact h
    | succ i => exact h3 i a c (Nat.lt_of_succ_lt_succ hi) e1 e2
  · rcases h4 with ⟨a, c, e1, e2, d, eb⟩ | ⟨hk, eb⟩
    · exact .inl ⟨a, c, e1, e2, d, eb⟩
    · refine .inr ⟨hk.imp (fun e => by rw [e]; rfl) (fun e => by rw [e]; rfl), ?_⟩
      rw [eb, List.length_cons, List.length_cons]
      simp
theorem PrsB.stop {x y : V} {xs ys : List V} {H : Hp} (h : D x y H false) : PrsB D (x :: xs) (y :: ys) H false :=
  ⟨0, Nat.zero_le _, Nat.zero_le _, fun i x y hi => absurd hi (Nat.not_lt_zero i), .inl ⟨x, y, rfl, rfl, h, rfl⟩⟩
theorem getB (h : EqB X n D) {A : Around} (sb : Sub X (n + 1) A) {pins : List (Addr × Obj)} {σ : St} {H H1 : Hp} {xs ys : List V} {its its2 : List Value} (r : Vals xs its) (r2 : Vals ys its2) (hD : MonB D) {b : Bool}
    (i : Nat) (h1 : i < its.toArray.size) (h2 : i < its2.toArray.size) (d : ∀ x y, xs[i]? = some x → ys[i]? = some y → D x y H b) {s' : Shared} (I1 : Inv X pins σ H1 s') (e1 : Ext H H1) :
    wpAny (model X.prog X.w) A.in1 (eqBool its.toArray[i] its2.toArray[i]) (fun r s2 => r = b ∧ LoopI X pins σ H s2) X.xe s' := by
  have g1 : its[i]? = some its.toArray[i] := by
    have h1' : i < its.length := by simpa using h1
    rw [List.getElem?_eq_getElem h1'] <;> simp
  have g2 : its2[i]? = some its2.toArray[i] := by
    have h2' : i < its2.length := by simpa using h2
    rw [List.getElem?_eq_getElem h2'] <;> simp
  have k1 : i < xs.length := by rw [r.length]; simpa using h1
  have k2 : i < ys.length := by rw [r2.length]; simpa using h2
  obtain ⟨u, hu, ru⟩ := r.get (List.getElem?_eq_getElem k1)
  obtain ⟨v, hv, rv⟩ := r2.get (List.getElem?_eq_getElem k2)
  rw [g1] at hu
  rw [g2] at hv
  rw [Option.some.inj hu, Option.some.inj hv]
  refine wpAny_mono (h A.in1 pins s' σ H1 _ _ u v b sb.in1 I1 ru rv (hD _ _ _ _ _ e1 (d _ _ (List.getElem?_eq_getElem k1) (List.getElem?_eq_getElem k2)))) (fun r s2 q => ?_) fun _ _ x => x
  obtain ⟨hr, H2, I2, e2⟩ := q
  exact ⟨hr, H2, I2, e1.trans e2⟩
/-- tuples; the same one is equal to itself -/
def DTupB (K : PySem.W.Frag) (D : Eqb) : Eqb := fun x y H b => ∃ a c xs ys, x = .ref a ∧ y = .ref c ∧ SqT K H a xs ∧ SqT K H c ys ∧ PrsB D xs ys H b ∧ (a = c → b = true)
theorem monB_tup {K : PySem.W.Frag} (hD : MonB D) : MonB (DTupB K D) := fun x y H H' b e d => by
  obtain ⟨a, c, xs, ys, hx, hy, h1, h2, p, q⟩ := d
  exact ⟨a, c, xs, ys, hx, hy, h1.ext e, h2.ext e, p.mon hD e, q⟩
theorem rcB_tup (hD : MonB D) (h : EqB X n D) : RcB X (n + 1) (DTupB X.K D) := by
  intro A pins s σ H x y u v b sb I rx ry d
  obtain ⟨a, c, xs, ys, rfl, rfl, ha, hc, ⟨k, k1, k2, p1, p2⟩, _⟩ := d
  cases rx
  cases ry
  obtain ⟨its, r, e, z⟩ := I.tuple ha
  obtain ⟨its2, r2, e2, z2⟩ := I.tuple hc
  have s1 : its.toArray.size = xs.length := by rw [List.size_toArray, ← r.length]
  have s2 : its2.toArray.size = ys.length := by rw [List.size_toArray, ← r2.length]
  refine GQ.rc_tupB k b (by rw [s1]; exact k1) (by rw [s2]; exact k2) sb.room.units0 (fun _ s' => LoopI X pins σ H s') e e2 (fun i hi h1 h2 s' q => ?_) ?_ ⟨H, I, Ext.rfl'⟩
  · obtain ⟨H1, I1, e1⟩ := q
    exact getB h sb r r2 hD i h1 h2 (fun x y g1 g2 => p1 i x y hi g1 g2) I1 e1
  · rcases p2 with ⟨x, y, g1, g2, d, eb⟩ | ⟨hk, eb⟩
    · have h1 : k < its.toArray.size := by
        rw [s1]
        rcases Nat.lt_or_ge k xs.length with z | z
        · exact z
        · rw [List.getElem?_eq_none z] at g1; cases g1
      have h2 : k < its2.toArray.size := by
        rw [s2]
        rcases Nat.lt_or_ge k ys.length with z | z
        · exact z
        · rw [List.getElem?_eq_none z] at g2; cases g2
      refine .inl ⟨h1, h2, eb, fun s' q => ?_⟩
      obtain ⟨H1, I1, e1⟩ := q
      refine wpAny_mono (getB h sb r r2 hD k h1 h2 (b := false) (fun x' y' g1' g2' => ?_) I1 e1) (fun r s2 q => ⟨q.1, rfl, q.2⟩) fun _ _ x => x
      rw [g1] at g1'
      rw [g2] at g2'
      cases g1'
      cases g2'
      exact d
    · exact .inr ⟨by rw [s1, s2]; exact hk, by rw [s1, s2]; exact eb, fun s' q => ⟨rfl, q⟩⟩
theorem RcB.eqB (h : RcB X n D) (hr : ∀ x y H b, D x y H b → ∃ a c, x = .ref a ∧ y = .ref c ∧ (a = c → b = true)) : EqB X n D := by
  intro A pins s σ H x y u v b sb I rx ry d
  obtain ⟨a, c, rfl, rfl, hs⟩ := hr _ _ _ _ d
  cases rx
  cases ry
  by_cases hac : a = c
  · subst hac
    rw [hs rfl] at d ⊢
    exact SeqAt.EqAt.same (A := A) (s := s) (.ref a) X.prog X.w X.xe _ ⟨rfl, H, I, Ext.rfl'⟩
  · refine GQ.eqBool_refG hac (wpAny_mono (h A pins s σ H (.ref a) (.ref c) _ _ b sb I rfl rfl d) (fun r s' q => ?_) fun _ _ x => x)
    obtain ⟨hr', q⟩ := q
    exact ⟨b, hr', rfl, q⟩
theorem eqB_tup (hD : MonB D) (h : EqB X n D) : EqB X (n + 1) (DTupB X.K D) := (rcB_tup hD h).eqB fun _ _ _ _ d => let ⟨a, c, _, _, hx, hy, _, _, _, q⟩ := d; ⟨a, c, hx, hy, q⟩
/-- instances of the class at C with the text's own ==: what R says of the two -/
def DInsB (C : Addr) (R : Eqb) : Eqb := fun x y H b => ∃ a c dx dy fs gs, x = .ref a ∧ y = .ref c ∧ H a = some (.ins C dx fs) ∧ H c = some (.ins C dy gs) ∧ R x y H b ∧ (a = c → b = true)
theorem monB_ins {C : Addr} {R : Eqb} (hR : MonB R) : MonB (DInsB C R) := fun x y H H' b e d => by
  obtain ⟨a, c, dx, dy, fs, gs, hx, hy, h1, h2, r, q⟩ := d
  exact ⟨a, c, dx, dy, fs, gs, hx, hy, e _ _ h1, e _ _ h2, hR _ _ _ _ _ e r, q⟩
/-- the promise of an own == answers as R says -/
def EqSp (sp : Sp) (E : XK) (R : Eqb) : Prop := ∀ x y H b, R x y H b → sp [x, y] H (fun v H' => v = .bl b ∧ Ext H H') E
theorem rcB_ins {CX : CXT} {C f : Addr} {fd : FuncData} {ps : List Str} {R : Eqb} {E : XK} {sp : Sp} (hm : Meth X.K C "__eq__" f) (F : FnOk X.prog X.w X.K X.mg X.base CX n f fd ps sp) (hR : EqSp sp E R)
    (hb : Binds X.K fd ps []) (hx : Passes CX X E) (hs : PySem.W.notFirst X.K C (.ref C) = true) : RcB X n (DInsB C R) := by
  intro A pins s σ H x y u v b' sb I rx ry d
  obtain ⟨a, c, dx, dy, fs, gs, rfl, rfl, ha, hb', hr, _⟩ := d
  cases rx
  cases ry
  obtain ⟨oa, Ia⟩ := inst_of I ha
  obtain ⟨ob, Ib⟩ := inst_of I hb'
  obtain ⟨m, hF⟩ := I.fr
  have hF' : A.frames = X.A.frames := sb.fr
  refine PySem.W.cmp_K (op := .Eq) sb.room.units0 hF I.mod.kin Ia Ib.type hs hm.1 hm.2 ?_
  have hsp := hR (.ref a) (.ref c) H b' hr
  have e0 : Env0 X.prog X.w X.K X.mg X.base A X.stack s H := by
    have e := I.env0
    exact ⟨by rw [sb.fr]; exact e.frames, e.mod, e.bs, e.bsz, e.funs, e.frf, e.hok, e.bare⟩
  have hl := F.len _ _ _ _ hsp
  have r2 : Vals [V.ref a, V.ref c] [Value.ref a, Value.ref c] := .cons rfl (.cons rfl .nil)
  refine wpAny_call (codeAny_mono (F.run A X.stack s H ⟨[.ref a, .ref c], []⟩ [.ref a, .ref c] [.ref a, .ref c] _ E sb.room e0 (by
    have := hb s [.ref a, .ref c] I.kIn (by simpa using hl)
    simpa using this) r2 hsp) fun r s' hq => ?_)
  cases r with
  | error e => exact hx pins σ H s e s' I hq
  | ok fl =>
    cases fl with
    | ret w =>
      obtain ⟨z, H', I', rz, ez, ex⟩ := I.after hq
      subst ez
      cases rz
      exact ⟨rfl, H', I', ex⟩
    | next => exact False.elim hq
    | brk => exact False.elim hq
    | cont => exact False.elim hq
theorem eqB_ins {CX : CXT} {C f : Addr} {fd : FuncData} {ps : List Str} {R : Eqb} {E : XK} {sp : Sp} (hm : Meth X.K C "__eq__" f) (F : FnOk X.prog X.w X.K X.mg X.base CX n f fd ps sp) (hR : EqSp sp E R)
    (hb : Binds X.K fd ps []) (hx : Passes CX X E) (hs : PySem.W.notFirst X.K C (.ref C) = true) : EqB X n (DInsB C R) :=
  (rcB_ins hm F hR hb hx hs).eqB fun _ _ _ _ d => let ⟨a, c, _, _, _, _, hx, hy, _, _, _, q⟩ := d; ⟨a, c, hx, hy, q⟩
/-- x == y as an expression -/
def rEqB (D : Eqb) : R2 := fun x y H Q => ∃ b, D x y H b ∧ ∀ H', Ext H H' → Q (.bl b) H'
theorem op_eqB (h : RcB X n D) (hr : Room n X.A) : OpR X (compareOp .Eq) (rEqB D) := by
  intro pins s σ H x y v u Q I rx ry hq
  obtain ⟨b, d, q⟩ := hq
  show wpAny (model X.prog X.w) X.A (richCompare .Eq v u) (EP X pins σ Q) X.xe s
  refine wpAny_mono (h X.A pins s σ H x y v u b ⟨hr, rfl⟩ I rx ry d) (fun r s' z => ?_) fun _ _ x => x
  obtain ⟨hr', H', I', e⟩ := z
  subst hr'
  exact ⟨.bl b, H', I', rfl, q H' e⟩
end
end L2

/-! ### {k: v} with one key that is a tuple -/
namespace L2
open PySem PySem.Spec PyProof.Rows
def tDisp1T (tk tv : TE) : TE := fun σ H Q => ∀ p, H p = none → tk σ (upd H p (.dT [])) fun x H1 => tv σ H1 fun y H2 => H2 p = some (.dT []) ∧ ∃ (b : Addr) (k : List Key), x = .ref b ∧ H2 b = some (.tup (k.map kV)) ∧ Q (.ref p) (upd H2 p (.dT [(k, y)]))
theorem pe_disp1T {X : Cx} {pos : Pos} {ek ev : Expr} {tk tv : TE} (hu : X.A.units < cLine) (hk : PE X ek tk) (hv : PE X ev tv) : PE X (.Dict [some ek] [ev] pos) (tDisp1T tk tv) := by
  refine ⟨fun pins s σ H Q I q => ?_⟩
  have hn := I.hok.fresh (Nat.le_refl s.heap.objs.size)
  have I1 := I.laid (a := s.heap.objs.size) (o := .dT []) (h' := s.heap.push { cls := .type "dict", data := .dict #[] }) (t' := s.toks) (fun _ _ q => Heap.get?_push_of_some _ q) (Nat.le_refl _) (dt_empty s.heap I.big)
  have hP : PPs X pos [some ek] [ev] [(tk, tv)] := pps_cons hk hv pps_nil
  rw [arm_eval_Dict]
  have hl : (pairTrees [some ek] [ev] X.env pos).length = 1 := pairTrees_length [some ek] [ev] X.env pos rfl rfl
  have hz := zip_pairTrees [some ek] [ev] X.env pos rfl rfl
  rw [hz, dictDisplay_pairs (pairTrees [some ek] [ev] X.env pos) (by
    intro e
    rw [e] at hl
    cases hl) (by rw [hl]; decide)]
  refine wpAny_bind (wpAny_standAt (wpAny_bind (wpAny_subDictH (knd := tupleKind (mixKind X.prog X.w)) hu (by rw [hl]; decide) (thn (hP.run pins _ σ _ (fun ps H2 => match ps with
      | [(x, y)] => H2 s.heap.objs.size = some (.dT []) ∧ ∃ (b : Addr) (k : List Key), x = .ref b ∧ H2 b = some (.tup (k.map kV)) ∧ Q (.ref s.heap.objs.size) (upd H2 s.heap.objs.size (.dT [(k, y)]))
      | _ => False) I1 (q s.heap.objs.size hn)) fun ws s2 ⟨ps, H2, I2, rel, q2⟩ => ?_))))
  match ps, rel, q2 with
  | [(x, y)], .cons ⟨rx, ry⟩ .nil, ⟨e, b, k, ex, eb, q3⟩ =>
    subst ex
    rename_i r _
    obtain ⟨u, v⟩ := r
    cases (show u = Value.ref b from rx)
    obtain ⟨z, hd, xs, r0, dd⟩ := dt_of I2.hok e
    cases r0
    refine ⟨[(k, b, v)], ⟨rfl, rfl, key_of I2.hok eb, trivial⟩, dd, fun h' tk dd' hs => wpAny_pure ⟨.ref s.heap.objs.size, _, ?_, rfl, q3⟩⟩
    rw [storedAllH_nil_of_nodup [(k, b, v)] (by simp)] at dd'
    obtain ⟨q, es, ep, hq, h2, h3, h4, _, h5⟩ := dd'
    have rk : KT (upd H2 s.heap.objs.size (.dT [(k, y)])) [(k, y)] [(k, b, v)] := .cons ⟨rfl, by rw [upd_ne (ne_of eb e (fun z => nomatch z))]; exact eb, ry⟩ .nil
    refine d_write I2 (by rw [e]; exact True.intro) hs ⟨q, hq⟩ ⟨?_, hd, _, rk, q, es, ep, hq, h2, h3, h4, h5⟩
    rw [sizeLine_eq]
    exact (by decide : (1 : Nat) ≤ 4611686018427387904) |> fun h => by simp
end L2

/-! ### != of tuples that hold own objects -/
namespace GQ
open PySem PySem.SeqAt
open AutoSeq1 (wpAny_loadPart')
open MeetsSeq MeetsSeq2 MeetsSeq3 SeqRoads2
section
variable {prog : Program} {w : World} {A : Around} {R : Result → Shared → Prop}
theorem tuple_neB (l b : Addr) (items items2 : Array Value) (n n2 : Nat) (dd dd2 : Option Addr) (sl sl2 : Array (Option Value)) (k : Nat) (r : Bool) (hk1 : k ≤ items.size) (hk2 : k ≤ items2.size) (I : Nat → Shared → Prop)
    (turn : ∀ i (hi : i < k) (h1 : i < items.size) (h2 : i < items2.size) s, I i s → wpAny (model prog w) A.in1 (eqBool items[i] items2[i]) (fun r s' => r = true ∧ I (i + 1) s') (fun e s' => R (.error e) s') s)
    (last : LastB prog w A (fun e s' => R (.error e) s') items items2 k r (I k) (fun s' => R (.ok (.ret (.bool (!r)))) s')) {s : Shared} (hl1 : s.heap.get? l = some { cls := .type "tuple", dict := dd, data := .seq items n, slots := sl }) (hb1 : s.heap.get? b = some { cls := .type "tuple", dict := dd2, data := .seq items2 n2, slots := sl2 }) (h : I 0 s) :
    wpAny (model prog w) A.in1 (Builtin.«tuple.__ne__» ⟨[.ref l, .ref b], []⟩) (FinOf prog w A R) (fun e s' => R (.error e) s') s := by
  have f2 := AutoSeq1.sub_tuple_tuple
  have hZ : (items.toList.zip items2.toList).length = min items.size items2.size := by simp
  have h0 := h
  obtain ⟨hp, g, d, tk, os⟩ := s
  wp_walk using wpAny_loadPart' hl1, wpAny_loadPart' hb1, wpAny_forIn_list _ (fun rest b s' => b.1 = none ∧ ∃ i, rest = (items.toList.zip items2.toList).drop i ∧ i ≤ k ∧ I i s') _
  case turn =>
    rintro ⟨y, x⟩ rest b s' ⟨hb', i, hz, hi, hI⟩
    have hlt : i < (items.toList.zip items2.toList).length := by
      rcases Nat.lt_or_ge i (items.toList.zip items2.toList).length with h' | h'
      · exact h'
      · rw [List.drop_of_length_le h'] at hz; cases hz
    have h1 : i < items.size := by omega
    have h2 : i < items2.size := by omega
    rw [List.drop_eq_getElem_cons hlt] at hz
    injection hz with hyx hrest
    have hy : y = items[i] := by have := congrArg Prod.fst hyx; simpa using this
    have hx : x = items2[i] := by have := congrArg Prod.snd hyx; simpa using this
    subst hy hx
    rcases Nat.lt_or_ge i k with hik | hik
    · refine wpAny_bind (wpAny_mono (turn i hik h1 h2 s' hI) (fun r s2 q2 => ?_) fun _ _ x => x)
      obtain ⟨hr, q2⟩ := q2
      subst hr
      wp_walk
      exact ⟨rfl, i + 1, hrest, hik, q2⟩
    · obtain rfl : i = k := by omega
      rcases last with ⟨_, _, rfl, hq⟩ | ⟨hk, _, _⟩
      · refine wpAny_bind (wpAny_mono (hq s' hI) (fun r s2 q2 => ?_) fun _ _ x => x)
        obtain ⟨hr, q2⟩ := q2
        subst hr
        wp_walk
        exact q2
      · omega
  case fin =>
    rintro ⟨b1, b2⟩ s' ⟨hb', i, hz, hi, hI⟩
    simp only at hb'
    subst hb'
    have hge : min items.size items2.size ≤ i := by
      rcases Nat.lt_or_ge i (items.toList.zip items2.toList).length with h' | h'
      · rw [List.drop_eq_getElem_cons h'] at hz; cases hz
      · exact hZ ▸ h'
    have hi' : i = k := by omega
    subst hi'
    rcases last with ⟨z1, z2, _⟩ | ⟨hk, hr, hq⟩
    · omega
    · have hR := hq s' hI
      subst hr
      wp_walk
      exact hR
  case h =>
    exact ⟨rfl, 0, rfl, Nat.zero_le _, h0⟩
end
section
variable {prog : Program} {w : World} {A : Around} {E : Value → Shared → Prop} {s : Shared}
theorem rc_tupNe {l b : Addr} {items items2 : Array Value} {Q : Value → Shared → Prop} (k : Nat) (r : Bool) (hk1 : k ≤ items.size) (hk2 : k ≤ items2.size) (hu : A.units < cLine) (I : Nat → Shared → Prop)
    (hl : s.heap.IsTuple l items) (hb : s.heap.IsTuple b items2)
    (turn : ∀ i (hi : i < k) (h1 : i < items.size) (h2 : i < items2.size) s, I i s → wpAny (model prog w) A.in1 (eqBool items[i] items2[i]) (fun r s' => r = true ∧ I (i + 1) s') E s)
    (last : LastB prog w A E items items2 k r (I k) (fun s' => Q (.bool (!r)) s')) (h : I 0 s) : wpAny (model prog w) A (richCompare .NotEq (.ref l) (.ref b)) Q E s := by
  obtain ⟨⟨cls, dd, data, sl⟩, ho, hc, n, hd⟩ := id hl
  obtain ⟨⟨cls2, dd2, data2, sl2⟩, ho2, hc2, n2, hd2⟩ := id hb
  simp only at hc hd hc2 hd2
  subst hc hd hc2 hd2
  refine wpAny_richCompare_same_room (op := .NotEq) ⟨_, ho, rfl⟩ ⟨_, ho2, rfl⟩ F.slot_tuple_ne (call_here F.slot_tuple_ne ⟨_, ho, rfl⟩ F.entry_tuple_ne (F.args_tuple_ne_2 _ _) ?_) hu
  refine tuple_neB (R := wants (fun v s' => v ≠ .notImplemented ∧ Q v s') E) l b items items2 n n2 dd dd2 sl sl2 k r hk1 hk2 I turn ?_ ho ho2 h
  rcases last with ⟨h1, h2, e, q⟩ | ⟨hk, e, q⟩
  · exact .inl ⟨h1, h2, e, fun s hs => wpAny_mono (q s hs) (fun z s' hz => ⟨hz.1, (fun x => nomatch x), hz.2⟩) fun _ _ x => x⟩
  · exact .inr ⟨hk, e, fun s hs => ⟨(fun x => nomatch x), q s hs⟩⟩
end
end GQ
namespace L2
open PySem PySem.Spec PyProof.Rows
def RcN (X : Cx) (n : Nat) (D : Eqb) : Prop :=
  ∀ (A : Around) (pins : List (Addr × Obj)) (s : Shared) (σ : St) (H : Hp) (x y : V) (u v : Value) (b : Bool), Sub X n A → Inv X pins σ H s → RelV x u → RelV y v → D x y H b →
    wpAny (model X.prog X.w) A (richCompare .NotEq u v) (fun r s' => r = .bool (!b) ∧ ∃ H', Inv X pins σ H' s' ∧ Ext H H') X.xe s
/-- x != y as an expression -/
def rNeB (D : Eqb) : R2 := fun x y H Q => ∃ b, D x y H b ∧ ∀ H', Ext H H' → Q (.bl (!b)) H'
section
variable {X : Cx} {n m : Nat} {D D' : Eqb}
theorem rcN_tup (hD : MonB D) (h : EqB X n D) : RcN X (n + 1) (DTupB X.K D) := by
  intro A pins s σ H x y u v b sb I rx ry d
  obtain ⟨a, c, xs, ys, rfl, rfl, ha, hc, ⟨k, k1, k2, p1, p2⟩, _⟩ := d
  cases rx
  cases ry
  obtain ⟨its, r, e, z⟩ := I.tuple ha
  obtain ⟨its2, r2, e2, z2⟩ := I.tuple hc
  have s1 : its.toArray.size = xs.length := by rw [List.size_toArray, ← r.length]
  have s2 : its2.toArray.size = ys.length := by rw [List.size_toArray, ← r2.length]
  refine GQ.rc_tupNe k b (by rw [s1]; exact k1) (by rw [s2]; exact k2) sb.room.units0 (fun _ s' => LoopI X pins σ H s') e e2 (fun i hi h1 h2 s' q => ?_) ?_ ⟨H, I, Ext.rfl'⟩
  · obtain ⟨H1, I1, e1⟩ := q
    exact getB h sb r r2 hD i h1 h2 (fun x y g1 g2 => p1 i x y hi g1 g2) I1 e1
  · rcases p2 with ⟨x, y, g1, g2, d, eb⟩ | ⟨hk, eb⟩
    · have h1 : k < its.toArray.size := by
        rw [s1]
        rcases Nat.lt_or_ge k xs.length with z | z
        · exact z
        · rw [List.getElem?_eq_none z] at g1; cases g1
      have h2 : k < its2.toArray.size := by
        rw [s2]
        rcases Nat.lt_or_ge k ys.length with z | z
        · exact z
        · rw [List.getElem?_eq_none z] at g2; cases g2
      refine .inl ⟨h1, h2, eb, fun s' q => ?_⟩
      obtain ⟨H1, I1, e1⟩ := q
      refine wpAny_mono (getB h sb r r2 hD k h1 h2 (b := false) (fun x' y' g1' g2' => ?_) I1 e1) (fun r s2 q => ⟨q.1, rfl, q.2⟩) fun _ _ x => x
      rw [g1] at g1'
      rw [g2] at g2'
      cases g1'
      cases g2'
      exact d
    · exact .inr ⟨by rw [s1, s2]; exact hk, by rw [s1, s2]; exact eb, fun s' q => ⟨rfl, q⟩⟩
theorem op_neB (h : RcN X n D) (hr : Room n X.A) : OpR X (compareOp .NotEq) (rNeB D) := by
  intro pins s σ H x y v u Q I rx ry hq
  obtain ⟨b, d, q⟩ := hq
  show wpAny (model X.prog X.w) X.A (richCompare .NotEq v u) (EP X pins σ Q) X.xe s
  refine wpAny_mono (h X.A pins s σ H x y v u b ⟨hr, rfl⟩ I rx ry d) (fun r s' z => ?_) fun _ _ x => x
  obtain ⟨hr', H', I', e⟩ := z
  subst hr'
  exact ⟨.bl (!b), H', I', rfl, q H' e⟩
end
end L2

/-! ### xs != [], xs == [] of a list of any objects -/
namespace L2
open PySem PySem.Spec PyProof.Rows
section
variable {X : Cx}
def rNeM (K : PySem.W.Frag) : R2 := fun x y H Q => ∃ a b xs, x = .ref a ∧ y = .ref b ∧ SqL K H a xs ∧ SqL K H b [] ∧ Q (.bl (!decide (xs = []))) H
theorem op_neEm (hu : X.A.units < cLine) : OpR X (compareOp .NotEq) (rNeM X.K) := by
  intro pins s σ H x y v u Q I rx ry h
  obtain ⟨a, b, xs, rfl, rfl, ha, hb, q⟩ := h
  cases rx
  cases ry
  obtain ⟨its, r, e, z⟩ := I.list ha
  obtain ⟨its2, r2, e2, z2⟩ := I.list hb
  cases r2
  show wpAny (model X.prog X.w) X.A (richCompare .NotEq (.ref a) (.ref b)) (EP X pins σ Q) X.xe s
  cases xs with
  | nil =>
    cases r
    exact SeqAt.RcNeAt.lists (e := fun _ => true) e.isList e2.isList rfl hu (fun j h1 => absurd h1 (Nat.not_lt_zero j)) _ _ _ _ ⟨.bl false, H, I, rfl, q⟩
  | cons x xs =>
    cases r with
    | cons h1 h2 => exact SeqAt.RcNeAt.lists_lengths e.isList e2.isList rfl hu _ _ _ _ ⟨.bl true, H, I, rfl, q⟩
end
end L2

/-! ### def f(a, b, c, *v) -/
namespace L2
open PySem PySem.Spec PyProof.Rows
/-- what a def with n parameters ahead of a star says of its values -/
def spStar (n : Nat) (sp : Sp) : Sp := fun vs H Q E => ∃ ws rest, vs = ws ++ rest ∧ ws.length = n ∧ rest.length ≤ sizeLine ∧ ∀ p, H p = none → sp (ws ++ [V.ref p]) (upd H p (.tup rest)) Q E
theorem bind_star3 {B : List Value → Sem (List (Str × Value))} {p1 p2 p3 pv : Str} (h0 : ∀ a b c, B [a, b, c] = (newTuple [] >>= fun t => pure [(p1, a), (p2, b), (p3, c), (pv, t)])) (h1 : ∀ a b c r rs, B (a :: b :: c :: r :: rs) = (newTuple (r :: rs) >>= fun t => pure [(p1, a), (p2, b), (p3, c), (pv, t)])) :
    ∀ us rest : List Value, us.length = [p1, p2, p3].length → B (us ++ rest) = (newTuple rest >>= fun t => pure ([p1, p2, p3].zip us ++ [(pv, t)]))
  | [a, b, c], [], _ => h0 a b c
  | [a, b, c], r :: rs, _ => h1 a b c r rs
section
variable {CX : CXT} {P : Program} {w : World} {K : PySem.W.Frag} {mg : Str → Option Value} {base : Heap} {k : Nat} {f : Addr} {x qual : Str} {params : Arguments} {body : List Stmt} {scope : Scope} {dvs : List V} {kws : List (Str × V)} {fd : FuncData} {N ps : List Str} {sp : Sp} {pv : Str}
theorem FunD.okR (F : FunD K x qual params body scope dvs kws f fd) (S : FnScope N (ps ++ [pv]) scope) (hdv : dvs = []) (hCX : StX.CXUp CX)
    (hb : ∀ (kV doc pm : Value) (an : Option Addr) (cdv ct : Value) (us rest : List Value), us.length = ps.length → bindArgs (PySem.W.fnOf x qual params body scope .none kV doc pm an cdv ct) ⟨us ++ rest, []⟩ = (newTuple rest >>= fun t => pure (ps.zip us ++ [(pv, t)])))
    (hbody : ∀ (cdv : Value) (A : Around) (outer : List Env) (s : Shared) (H : Hp) (vs : List V) (Q : VK) (E : XK), Room k (A.deeper (envOfC qual scope s.heap.objs.size f cdv)) → sp vs H Q E →
      ∃ t, PSs (cxOf CX P w K mg base N qual scope f cdv A outer s H E) body t ∧ t { nx := fun _ H' => Q .non H', rt := Q } (start N vs) H) :
    FnR P w K mg base CX (k + 1) f (spStar ps.length sp) := by
  obtain ⟨oc, od, dV, kV, doc, pm, an, cdv, ct, osl, rfl, lk, hcd, hD, _⟩ := F.ex
  obtain rfl : dV = .none := by
    rcases hD with ⟨_, e⟩ | ⟨e, _⟩
    · exact e
    · exact absurd hdv e
  exact StX.fn_star lk hcd S hCX (fun us rest hl => hb kV doc pm an cdv ct us rest hl) fun A outer s H vs Q E hr h => hbody cdv A outer s H vs Q E hr h
end
end L2
namespace L2
open PySem PySem.Spec PyProof.Rows
/-- * by a small right factor -/
def CMulS (_ j : Int) : Prop := j.natAbs < 9223372036854775808
theorem CMulS.ok {i j : Int} (h : CMulS i j) : IntMulOk i j := IntMulOk.of_right (by
  have h' : j.natAbs < 2 ^ 63 := h
  unfold Builtin.Int.intBits
  split
  · decide
  · rename_i hz
    have := PySem.Flt.log2_lt_of (show 0 < 63 by decide) h'
    omega)
theorem op_mulS {X : Cx} : OpR X (binaryOp .Mult) (rI CMulS fun i j => .int (i * j)) := opI fun _ _ _ _ _ _ _ hc q => mul_int q hc.ok
end L2

/-! ### what was made since, and what stays -/
namespace L2
open PySem PySem.Spec PyProof.Rows
open Classical in
/-- the objects of the second heap that the first one has not -/
noncomputable def Nw (H H' : Hp) : Hp := fun a => if H a = none then H' a else none
theorem Nw.to {H H' : Hp} : Same (Nw H H') H' := fun a o e => by
  unfold Nw at e
  split at e
  · exact e
  · cases e
theorem Nw.at {H H' : Hp} {p : Addr} {o : HO} (h : H p = none) (h' : H' p = some o) : Nw H H' p = some o := by
  unfold Nw
  rw [if_pos h]
  exact h'
theorem Nw.fresh {H H' : Hp} {p : Addr} {o : HO} (h : Nw H H' p = some o) : H p = none := by
  unfold Nw at h
  split at h
  · assumption
  · cases h
/-- a region of the heap that stays: all but l -/
def Reg (l : Addr) (G H : Hp) : Prop := Same G H ∧ G l = none
theorem Reg.bb {l : Addr} {G H H' : Hp} (r : Reg l G H) (_ : Kp H H') (c : But l H H') : Reg l G H' := ⟨r.1.but_ r.2 c, r.2⟩
theorem Reg.same {l : Addr} {G H H' : Hp} (r : Reg l G H) (s : Same H H') : Reg l G H' := ⟨r.1.trans s, r.2⟩
theorem Reg.nil {l : Addr} {H : Hp} : Reg l (fun _ => none) H := ⟨(fun a o e => by cases e), rfl⟩
/-- a list that is made is not of the region -/
theorem Reg.put {l R : Addr} {G H : Hp} {o : HO} (r : Reg l G H) (h : G R = none) : Reg l G (upd H R o) := ⟨r.1.put h, r.2⟩
open Classical in
/-- what a call has made becomes part of the region -/
theorem Reg.grow {l : Addr} {G H H' : Hp} {u : HO} (r : Reg l G H) (hl : H l = some u) (c : But l H H') : ∃ G', Reg l G' H' ∧ Same G G' ∧ Same (Nw H H') G' ∧ (∀ R o, H R = some o → G R = none → G' R = none) ∧ ∀ a o, G' a = some o → G a = some o ∨ H a = none := by
  refine ⟨fun a => if H a = none then H' a else G a, ⟨fun a o e => ?_, ?_⟩, fun a o e => ?_, fun a o e => ?_, fun R o h g => ?_, fun a o e => ?_⟩
  · by_cases h : H a = none
    · simp only [h, if_true] at e
      exact e
    · simp only [h, if_false] at e
      exact (r.1.but_ r.2 c) a o e
  · have : ¬ H l = none := fun z => by rw [hl] at z; cases z
    simp only [this, if_false]
    exact r.2
  · have : ¬ H a = none := fun z => by rw [r.1 a o e] at z; cases z
    simp only [this, if_false]
    exact e
  · have h := Nw.fresh e
    simp only [h, if_true]
    exact Nw.to a o e
  · have : ¬ H R = none := fun z => by rw [h] at z; cases z
    simp only [this, if_false]
    exact g
  · by_cases h : H a = none
    · exact .inr h
    · simp only [h, if_false] at e
      exact .inl e
/-- a region of what was made since -/
def Frs (H G : Hp) : Prop := ∀ a o, G a = some o → H a = none
theorem Frs.nil {H : Hp} : Frs H (fun _ => none) := fun a o e => by cases e
theorem Frs.nw {H G H' : Hp} (f : Frs H G) (s : Same G H') : Same G (Nw H H') := fun a o e => Nw.at (f a o e) (s a o e)
theorem Frs.step {l : Addr} {H0 H G G' : Hp} {u : HO} (f : Frs H0 G) (c : But l H0 H) (hl : H l = some u) (g : ∀ a o, G' a = some o → G a = some o ∨ H a = none) : Frs H0 G' := fun a o e => by
  rcases g a o e with z | z
  · exact f a o z
  · exact c.free z fun y => by rw [y, hl] at z; cases z
/-- a list that is done becomes part of the region -/
theorem Reg.done {l R : Addr} {G H : Hp} {o : HO} (r : Reg l G H) (h : G R = none) (n : R ≠ l) (hR : H R = some o) : Reg l (upd G R o) H ∧ Same G (upd G R o) := by
  refine ⟨⟨fun a v e => ?_, by rw [upd_ne (Ne.symm n)]; exact r.2⟩, Same.new h⟩
  by_cases z : a = R
  · subst z
    rw [upd_same] at e
    cases e
    exact hR
  · rw [upd_ne z] at e
    exact r.1 a v e
theorem Frs.done {H G : Hp} {R : Addr} {o : HO} (f : Frs H G) (n : H R = none) : Frs H (upd G R o) := fun a v e => by
  by_cases z : a = R
  · subst z; exact n
  · rw [upd_ne z] at e
    exact f a v e
/-- what was made since stays -/
theorem Nw.bb {l : Addr} {H Hc H' : Hp} {u : HO} (hl : H l = some u) (c : But l Hc H') : Same (Nw H Hc) (Nw H H') := fun a o e => by
  have f := Nw.fresh e
  have n : a ≠ l := fun z => by rw [z, hl] at f; cases f
  exact Nw.at f (c a o (Nw.to a o e) n)
theorem Nw.wide {l : Addr} {H H1 H2 : Hp} {u : HO} (t : But l H H1) (hl : H1 l = some u) : Same (Nw H1 H2) (Nw H H2) := fun a o e => by
  have f := Nw.fresh e
  have n : a ≠ l := fun z => by rw [z, hl] at f; cases f
  exact Nw.at (t.free f n) (Nw.to a o e)
/-- the region grew by what was made -/
structure Gro (l : Addr) (G H G' H' : Hp) : Prop where
  reg : Reg l G' H'
  sub : Same G G'
  new : ∀ a o, G' a = some o → G a = some o ∨ H a = none
theorem Gro.off {l : Addr} {G H G' H' : Hp} (g : Gro l G H G' H') {R : Addr} {o : HO} (h : H R = some o) (n : G R = none) : G' R = none := by
  cases e : G' R with
  | none => rfl
  | some v =>
    rcases g.new R v e with z | z
    · rw [n] at z; cases z
    · rw [h] at z; cases z
theorem Gro.of {l : Addr} {G H H' : Hp} {u : HO} (r : Reg l G H) (hl : H l = some u) (c : But l H H') : ∃ G', Gro l G H G' H' ∧ Same (Nw H H') G' := by
  obtain ⟨G', r1, s1, s2, _, r4⟩ := r.grow hl c
  exact ⟨G', ⟨r1, s1, r4⟩, s2⟩
theorem Gro.refl {l : Addr} {G H : Hp} (r : Reg l G H) : Gro l G H G H := ⟨r, Same.refl _, fun _ _ e => .inl e⟩
theorem Gro.trans {l : Addr} {G H G1 H1 G2 H2 : Hp} (a : Gro l G H G1 H1) (c : But l H H1) (b : Gro l G1 H1 G2 H2) : Gro l G H G2 H2 := ⟨b.reg, a.sub.trans b.sub, fun x o e => by
  rcases b.new x o e with z | z
  · exact a.new x o z
  · refine .inr (c.free z fun y => ?_)
    rw [y, b.reg.2] at e
    cases e⟩
theorem Gro.bb {l : Addr} {G H G1 H1 H2 : Hp} (a : Gro l G H G1 H1) (k : Kp H1 H2) (c : But l H1 H2) : Gro l G H G1 H2 := ⟨a.reg.bb k c, a.sub, a.new⟩
theorem Gro.same {l : Addr} {G H G1 H1 H2 : Hp} (a : Gro l G H G1 H1) (s : Same H1 H2) : Gro l G H G1 H2 := ⟨a.reg.same s, a.sub, a.new⟩
theorem Gro.of2 {l : Addr} {G H H' : Hp} {u : HO} (r : Reg l G H) (hl : H l = some u) (c : But l H H') : ∃ G', Gro l G H G' H' ∧ Same (Nw H H') G' ∧ ∀ G1, Gro l G H G1 H' → Same G1 G' := by
  obtain ⟨G', g, s⟩ := Gro.of r hl c
  refine ⟨G', g, s, fun G1 g1 a o e => ?_⟩
  rcases g1.new a o e with z | z
  · exact g.sub a o z
  · exact s a o (Nw.at z (g1.reg.1 a o e))
theorem But.bb {l : Addr} {H H1 H2 : Hp} (t : But l H H1) (_ : Kp H1 H2) (c : But l H1 H2) : But l H H2 := t.trans c
theorem But.same {l : Addr} {H H1 H2 : Hp} (t : But l H H1) (s : Same H1 H2) : But l H H2 := t.trans s.but
end L2

/-! ### f(e, .., k = v, ..), C(e, .., k = v, ..): parameters without defaults written by their names -/
namespace L2
open PySem PySem.Spec PyProof.Rows
section
variable {K : PySem.W.Frag} {x qual : Str} {params : Arguments} {body : List Stmt} {scope : Scope} {kws : List (Str × V)} {f : Addr} {fd : FuncData} {ps : List Str}
/-- the values in the parameters' order: the places of the written ones, then of the named ones -/
def permL {α : Type} (perm : List Nat) (us ws : List α) : List α := perm.filterMap fun i => (us ++ ws)[i]?
theorem Vals.at_ : ∀ {vs : List V} {us : List Value}, Vals vs us → ∀ i : Nat, (vs[i]? = none ∧ us[i]? = none) ∨ ∃ v u, vs[i]? = some v ∧ us[i]? = some u ∧ RelV v u
  | _, _, .nil, i => .inl ⟨by simp, by simp⟩
  | _, _, .cons r rs, 0 => .inr ⟨_, _, rfl, rfl, r⟩
  | _, _, .cons r rs, i + 1 => by
    rw [List.getElem?_cons_succ, List.getElem?_cons_succ]
    exact Vals.at_ rs i
theorem permL_vals {vs zs : List V} {us ws : List Value} (r1 : Vals vs us) (r2 : Vals zs ws) : ∀ perm : List Nat, Vals (permL perm vs zs) (permL perm us ws)
  | [] => .nil
  | i :: perm => by
    have ih := permL_vals r1 r2 perm
    have rr := r1.append r2
    unfold permL at ih ⊢
    rcases Vals.at_ rr i with ⟨h1, h2⟩ | ⟨v, u, h1, h2, h3⟩
    · rw [List.filterMap_cons_none h1, List.filterMap_cons_none h2]
      exact ih
    · rw [List.filterMap_cons_some h1, List.filterMap_cons_some h2]
      exact .cons h3 ih
/-- every parameter is written, some by names -/
theorem FunD.kbindsW (F : FunD K x qual params body scope [] kws f fd) (n : Nat) (ks : List Str) (perm : List Nat)
    (h : ∀ (kV doc pm : Value) (an : Option Addr) (cdv ct : Value) (us ws : List Value), us.length = n → ws.length = ks.length → bindArgs (PySem.W.fnOf x qual params body scope .none kV doc pm an cdv ct) ⟨us, ks.zip ws⟩ = pure (ps.zip (permL perm us ws))) :
    KBn K fd ps n ks (permL perm) (permL perm) := by
  obtain ⟨oc, od, dV, kV, doc, pm, an, cdv, ct, osl, rfl, lk, hcd, hD, hK⟩ := F.ex
  rcases hD with ⟨_, rfl⟩ | ⟨e, _⟩
  · exact ⟨fun s us ws X l1 l2 => .of_eq (h kV doc pm an cdv ct us ws l1 l2), fun r1 r2 => permL_vals r1 r2 perm⟩
  · exact absurd rfl e
end
/-- f(e, .., k = v, ..): n values and m keywords -/
def tCallW (n m : Nat) (sp : Sp) (gV : List V → List V → List V) (E : XK) (t tk : TA) : TE := fun σ H Q => t σ H fun vs H1 => tk σ H1 fun zs H2 => vs.length = n ∧ zs.length = m ∧ sp (gV vs zs) H2 Q E
section
variable {X : Cx} {CX : CXT} {k n : Nat} {f : Addr} {fd : FuncData} {ps ks : List Str} {sp : Sp} {E : XK} {x : Str} {p pos : Pos} {e : Expr} {es : List Expr} {kws : List Keyword} {t tk : TA} {gg : List Value → List Value → List Value} {gV : List V → List V → List V}
theorem pe_callW (F : FnOk X.prog X.w X.K X.mg X.base CX k f fd ps sp) (hr : Room k X.A) (hg : Gl X x) (hm : X.mg x = some (.ref f)) (hk : PySem.W.keepIn X.K (.ref f) = true) (hb : KBn X.K fd ps n ks gg gV) (hx : Passes CX X E) (ha : PA X (e :: es) t) (hkw : PK X kws tk)
    (hall : (backToKw pos (keywordEach kws X.env)).all (·.1.isSome) = true := by rfl) (hks : (backToKw pos (keywordEach kws X.env)).filterMap (·.1) = ks := by rfl) (hdb : (x == ("__debug__" : Str)) = false := by decide)
    (he : starEach (e :: es) X.env = (false, eval e X.env) :: starEach es X.env := by rfl) (hpl : ((backTo pos (starEach (e :: es) X.env)).any (·.1) || (backToKw pos (keywordEach kws X.env)).any (·.1.isNone)) = false := by rfl) :
    PE X (.Call (.Name x p) (e :: es) kws pos) (tCallW n ks.length sp gV E t tk) := by
  refine ⟨fun pins s σ H Q I h => ?_⟩
  refine wpAny_Call_Name_kw (ld_glob I hg hm ?_ hdb)
  refine PySem.W.callWith_KW (h₀ := X.base) I.ok.mod.kin hk hall (thn (ha.run pos pins s σ H _ I h) fun us s1 ⟨vs, H1, I1, r, q⟩ => ?_) hpl he
  refine thn (hkw.run pos pins s1 σ H1 _ I1 q) fun ws s2 ⟨zs, H2, I2, rz, l1, l2, q2⟩ => ⟨I2.kIn, ?_⟩
  rw [hks]
  exact run_kb F hr hb hx I2 r rz l1 l2 q2
/-- all by names -/
theorem pe_callW0 (F : FnOk X.prog X.w X.K X.mg X.base CX k f fd ps sp) (hr : Room k X.A) (hg : Gl X x) (hm : X.mg x = some (.ref f)) (hk : PySem.W.keepIn X.K (.ref f) = true) (hb : KBn X.K fd ps 0 ks gg gV) (hx : Passes CX X E) (hkw : PK X kws tk)
    (hall : (backToKw pos (keywordEach kws X.env)).all (·.1.isSome) = true := by rfl) (hks : (backToKw pos (keywordEach kws X.env)).filterMap (·.1) = ks := by rfl) (hdb : (x == ("__debug__" : Str)) = false := by decide)
    (hpl : ((backTo pos (starEach [] X.env)).any (·.1) || (backToKw pos (keywordEach kws X.env)).any (·.1.isNone)) = false := by rfl) :
    PE X (.Call (.Name x p) [] kws pos) (tCallW 0 ks.length sp gV E tNil tk) := by
  refine ⟨fun pins s σ H Q I h => ?_⟩
  refine wpAny_Call_Name_kw (ld_glob I hg hm ?_ hdb)
  refine PySem.W.callWith_KW0 (h₀ := X.base) I.ok.mod.kin hk hall ?_ hpl
  refine thn (hkw.run pos pins s σ H _ I h) fun ws s2 ⟨zs, H2, I2, rz, l1, l2, q2⟩ => ⟨I2.kIn, ?_⟩
  rw [hks]
  exact run_kb (us := []) (vs := []) F hr hb hx I2 .nil rz rfl l2 q2
end
end L2

/-! ### counts over a turn: where they change -/
namespace Sw
/-- how many reports of these bounds touch the event of length l that begins at x -/
def cnt (ps : List (Int × Int)) (g x l : Int) : Int := (ps.map fun p => max 0 ((x + l - p.1) / g - (x - p.2) / g)).sum
theorem cnt_push (ps : List (Int × Int)) (p : Int × Int) (g x l : Int) : cnt (ps ++ [p]) g x l = cnt ps g x l + max 0 ((x + l - p.1) / g - (x - p.2) / g) := by
  unfold cnt
  rw [List.map_append, List.sum_append]
  show _ + (_ + 0) = _
  rw [Int.add_zero]
theorem cnt_take {ps : List (Int × Int)} {i : Nat} (h : i < ps.length) (g x l : Int) : cnt (ps.take (i + 1)) g x l = cnt (ps.take i) g x l + max 0 ((x + l - ps[i].1) / g - (x - ps[i].2) / g) := by
  rw [List.take_succ_eq_append_getElem h, cnt_push]
theorem cnt_cons (p : Int × Int) (ps : List (Int × Int)) (g x l : Int) : cnt (p :: ps) g x l = max 0 ((x + l - p.1) / g - (x - p.2) / g) + cnt ps g x l := rfl
theorem cnt_nonneg (ps : List (Int × Int)) (g x l : Int) : 0 ≤ cnt ps g x l := by
  induction ps with
  | nil => exact Int.le_refl _
  | cons p ps ih =>
    rw [cnt_cons]
    have : 0 ≤ max 0 ((x + l - p.1) / g - (x - p.2) / g) := Int.le_max_left _ _
    omega
theorem max_if {z : Int} : (if z > 0 then z else 0) = max 0 z := by rw [Int.max_def]; split <;> split <;> omega
theorem max0 {z : Int} (h : z > 0) : max 0 z = z := by rw [Int.max_def]; split <;> omega
theorem max00 {z : Int} (h : ¬ z > 0) : max 0 z = 0 := by rw [Int.max_def]; split <;> omega
theorem div_step {g : Int} (g0 : 0 < g) (y : Int) : y / g = (y - 1) / g + if y % g = 0 then 1 else 0 := by
  have e := Int.mul_ediv_add_emod y g
  have h0 := Int.emod_nonneg y (show g ≠ 0 by omega)
  have h1 := Int.emod_lt_of_pos y g0
  generalize y / g = q at e ⊢
  generalize y % g = r at e h0 h1 ⊢
  by_cases h : r = 0
  · subst h
    have : (y - 1) / g = q - 1 := ((Int.ediv_emod_unique (r := g - 1) g0).mpr ⟨by rw [Int.mul_sub]; omega, by omega, by omega⟩).1
    rw [this, if_pos rfl]
    omega
  · have : (y - 1) / g = q := ((Int.ediv_emod_unique (r := r - 1) g0).mpr ⟨by omega, by omega, by omega⟩).1
    rw [this, if_neg h, Int.add_zero]
theorem emod_iff {x a g : Int} : (x - a) % g = 0 ↔ a % g = x % g := by
  rw [← Int.emod_eq_emod_iff_emod_sub_eq_zero]
  exact eq_comm
/-- one report's share of the change at the place k -/
def d1 (p : Int × Int) (g l k : Int) : Int := if p.1 - l < p.2 then (if (p.1 - l) % g = k then 1 else 0) - (if p.2 % g = k then 1 else 0) else 0
def dl (ps : List (Int × Int)) (g l k : Int) : Int := (ps.map fun p => d1 p g l k).sum
theorem dl_push (ps : List (Int × Int)) (p : Int × Int) (g l k : Int) : dl (ps ++ [p]) g l k = dl ps g l k + d1 p g l k := by
  unfold dl
  rw [List.map_append, List.sum_append]
  show _ + (_ + 0) = _
  rw [Int.add_zero]
theorem one_step {g : Int} (g0 : 0 < g) (p : Int × Int) (l x : Int) : max 0 ((x + l - p.1) / g - (x - p.2) / g) = max 0 ((x - 1 + l - p.1) / g - (x - 1 - p.2) / g) + d1 p g l (x % g) := by
  have s1 := div_step g0 (x + l - p.1)
  have s2 := div_step g0 (x - p.2)
  have e1 : x + l - p.1 - 1 = x - 1 + l - p.1 := by omega
  have e2 : x - p.2 - 1 = x - 1 - p.2 := by omega
  rw [e1] at s1
  rw [e2] at s2
  have i1 : (x + l - p.1) % g = 0 ↔ (p.1 - l) % g = x % g := by
    have : x + l - p.1 = x - (p.1 - l) := by omega
    rw [this]
    exact emod_iff
  have i2 : (x - p.2) % g = 0 ↔ p.2 % g = x % g := emod_iff
  unfold d1
  by_cases h : p.1 - l < p.2
  · rw [if_pos h]
    have m1 : (x - p.2) / g ≤ (x + l - p.1) / g := Int.ediv_le_ediv g0 (by omega)
    have m2 : (x - 1 - p.2) / g ≤ (x - 1 + l - p.1) / g := Int.ediv_le_ediv g0 (by omega)
    rw [Int.max_eq_right (by omega), Int.max_eq_right (by omega), s1, s2]
    simp only [i1, i2]
    split <;> split <;> omega
  · rw [if_neg h]
    have m1 : (x + l - p.1) / g ≤ (x - p.2) / g := Int.ediv_le_ediv g0 (by omega)
    have m2 : (x - 1 + l - p.1) / g ≤ (x - 1 - p.2) / g := Int.ediv_le_ediv g0 (by omega)
    rw [Int.max_eq_left (by omega), Int.max_eq_left (by omega)]
    rfl
theorem cnt_step {g : Int} (g0 : 0 < g) (l x : Int) : ∀ ps : List (Int × Int), cnt ps g x l = cnt ps g (x - 1) l + dl ps g l (x % g)
  | [] => rfl
  | p :: ps => by
    rw [cnt_cons, cnt_cons, one_step g0 p l x, cnt_step g0 l x ps]
    show _ = _ + (d1 p g l (x % g) + dl ps g l (x % g))
    omega
theorem cnt_turn {g : Int} (g0 : 0 < g) (l x : Int) : ∀ ps : List (Int × Int), cnt ps g (x + g) l = cnt ps g x l
  | [] => rfl
  | p :: ps => by
    rw [cnt_cons, cnt_cons, cnt_turn g0 l x ps]
    have e1 : x + g + l - p.1 = (x + l - p.1) + g := by omega
    have e2 : x + g - p.2 = (x - p.2) + g := by omega
    rw [e1, e2, Int.add_ediv_of_dvd_right (Int.dvd_refl g), Int.add_ediv_of_dvd_right (Int.dvd_refl g), Int.ediv_self (by omega)]
    congr 2
    omega
/-- the places of a turn at which C may change: 0, and all at which it does -/
structure Cov (C : Int → Int) (g : Int) (L : List Int) : Prop where
  srt : L.Pairwise (· < ·)
  z : 0 ∈ L
  rg : ∀ x ∈ L, 0 ≤ x ∧ x < g
  st : ∀ x, 0 < x → x < g → x ∉ L → C x = C (x - 1)
theorem Cov.back {C : Int → Int} {g : Int} {L : List Int} (h : Cov C g L) : ∀ n : Nat, (n : Int) < g → ∃ p ∈ L, p ≤ n ∧ C p = C n
  | 0, _ => ⟨0, h.z, Int.le_refl _, rfl⟩
  | n + 1, hn => by
    by_cases hm : ((n + 1 : Nat) : Int) ∈ L
    · exact ⟨_, hm, Int.le_refl _, rfl⟩
    · obtain ⟨p, hp, h1, h2⟩ := h.back n (by omega)
      have := h.st _ (by omega) hn hm
      rw [show ((n + 1 : Nat) : Int) - 1 = (n : Int) by omega] at this
      exact ⟨p, hp, by omega, by rw [h2, this]⟩
theorem Cov.back_ {C : Int → Int} {g : Int} {L : List Int} (h : Cov C g L) {x : Int} (h0 : 0 ≤ x) (h1 : x < g) : ∃ p ∈ L, p ≤ x ∧ C p = C x := by
  obtain ⟨n, rfl⟩ := Int.eq_ofNat_of_zero_le h0
  exact h.back n h1
/-- the first of a sorted row that answers -/
theorem find_srt {q : Int → Bool} : ∀ {L : List Int}, L.Pairwise (· < ·) → ∀ p, L.find? q = some p ↔ p ∈ L ∧ q p = true ∧ ∀ x ∈ L, x < p → q x = false
  | [], _, p => by simp
  | a :: L, h, p => by
    obtain ⟨h1, h2⟩ := List.pairwise_cons.mp h
    have ih := find_srt (q := q) h2 p
    cases e : q a with
    | true =>
      rw [List.find?_cons_of_pos e]
      constructor
      · intro z
        obtain rfl := Option.some.inj z
        refine ⟨List.mem_cons_self, e, fun x hx hl => ?_⟩
        rcases List.mem_cons.mp hx with y | y
        · omega
        · have := h1 x y
          omega
      · rintro ⟨m, qp, hl⟩
        rcases List.mem_cons.mp m with y | y
        · rw [y]
        · have := hl a List.mem_cons_self (h1 p y)
          rw [e] at this
          cases this
    | false =>
      rw [List.find?_cons_of_neg (by rw [e]; decide), ih]
      constructor
      · rintro ⟨m, qp, hl⟩
        refine ⟨List.mem_cons_of_mem _ m, qp, fun x hx hlt => ?_⟩
        rcases List.mem_cons.mp hx with y | y
        · rw [y]; exact e
        · exact hl x y hlt
      · rintro ⟨m, qp, hl⟩
        rcases List.mem_cons.mp m with y | y
        · rw [y, e] at qp
          cases qp
        · exact ⟨y, qp, fun x hx => hl x (List.mem_cons_of_mem _ hx)⟩
theorem Cov.find {C : Int → Int} {g : Int} {L : List Int} (h : Cov C g L) (q : Int → Bool) (p : Int) : L.find? (fun x => q (C x)) = some p ↔ (0 ≤ p ∧ p < g) ∧ q (C p) = true ∧ ∀ x, 0 ≤ x → x < p → q (C x) = false := by
  rw [find_srt h.srt]
  constructor
  · rintro ⟨m, qp, hl⟩
    refine ⟨h.rg p m, qp, fun x h0 h1 => ?_⟩
    obtain ⟨y, hy, h2, h3⟩ := h.back_ h0 (by have := h.rg p m; omega)
    have := hl y hy (by omega)
    rwa [h3] at this
  · rintro ⟨⟨h0, h1⟩, qp, hl⟩
    obtain ⟨y, hy, h2, h3⟩ := h.back_ h0 h1
    have e : y = p := by
      rcases Int.lt_or_le y p with z | z
      · have := hl y (h.rg y hy).1 z
        rw [h3, qp] at this
        cases this
      · omega
    subst e
    exact ⟨hy, qp, fun x hx hlt => hl x (h.rg x hx).1 hlt⟩
/-- all rows of such places tell the same first one -/
theorem Cov.find_eq {C : Int → Int} {g : Int} {L L' : List Int} (h : Cov C g L) (h' : Cov C g L') (q : Int → Bool) : L.find? (fun x => q (C x)) = L'.find? (fun x => q (C x)) := by
  refine Option.ext fun p => ?_
  rw [h.find, h'.find]
theorem Cov.mem {C : Int → Int} {g : Int} {L L' : List Int} (h : Cov C g L) (h' : Cov C g L') {m : Int} (hm : m ∈ L.map C) : m ∈ L'.map C := by
  obtain ⟨x, hx, rfl⟩ := List.mem_map.mp hm
  obtain ⟨y, hy, _, e⟩ := h'.back_ (h.rg x hx).1 (h.rg x hx).2
  exact List.mem_map.mpr ⟨y, hy, e⟩
theorem least_uniq {xs ys : List Int} (h : ∀ m, m ∈ xs ↔ m ∈ ys) {a b : Int} (ha : a ∈ xs) (hb : b ∈ ys) (la : ∀ y ∈ xs, a ≤ y) (lb : ∀ y ∈ ys, b ≤ y) : a = b := by
  have h1 := la b ((h b).mpr hb)
  have h2 := lb a ((h a).mp ha)
  omega
theorem most_uniq {xs ys : List Int} (h : ∀ m, m ∈ xs ↔ m ∈ ys) {a b : Int} (ha : a ∈ xs) (hb : b ∈ ys) (la : ∀ y ∈ xs, y ≤ a) (lb : ∀ y ∈ ys, y ≤ b) : a = b := by
  have h1 := la b ((h b).mpr hb)
  have h2 := lb a ((h a).mp ha)
  omega
/-- the law's places: 0 and both ends of each report -/
theorem cov_of {ps : List (Int × Int)} {g l : Int} (g0 : 0 < g) {L : List Int} (srt : L.Pairwise (· < ·)) (z : 0 ∈ L) (rg : ∀ x ∈ L, 0 ≤ x ∧ x < g) (hl : ∀ x, 0 < x → x < g → x ∉ L → dl ps g l x = 0) : Cov (fun x => cnt ps g x l) g L :=
  ⟨srt, z, rg, fun x h0 h1 hm => by
    show cnt ps g x l = cnt ps g (x - 1) l
    rw [cnt_step g0 l x ps, Int.emod_eq_of_lt (by omega) h1, hl x h0 h1 hm, Int.add_zero]⟩
theorem dl_zero {ps : List (Int × Int)} {g l k : Int} (h : ∀ p ∈ ps, d1 p g l k = 0) : dl ps g l k = 0 := by
  induction ps with
  | nil => rfl
  | cons p ps ih =>
    show d1 p g l k + dl ps g l k = 0
    rw [h p List.mem_cons_self, ih fun q hq => h q (List.mem_cons_of_mem _ hq)]
    rfl
theorem d1_zero {p : Int × Int} {g l k : Int} (h1 : (p.1 - l) % g ≠ k) (h2 : p.2 % g ≠ k) : d1 p g l k = 0 := by
  unfold d1
  rw [if_neg h1, if_neg h2]
  split <;> rfl
end Sw

namespace L2
open PySem PySem.Spec PyProof.Rows
/-- for k, (a, b) in enumerate(..) -/
theorem g_pairN {K : PySem.W.Frag} {i j l : Nat} {T R : Addr} {x y z : V} {σ : St} {H : Hp} {Q : St → Hp → Prop} (h : H T = some (.tup [x, .ref R])) (h2 : H R = some (.tup [y, z])) (q : Q (((σ.set i (some x)).set j (some y)).set l (some z)) H) :
    gTup K 2 (gCons (gName i) (gCons (gTup K 2 (gCons (gName j) (gCons (gName l) gNil))) gNil)) (.ref T) σ H Q := ⟨T, _, rfl, SqT.of_ h, rfl, _, _, rfl, _, _, rfl, ⟨R, _, rfl, SqT.of_ h2, rfl, _, _, rfl, _, _, rfl, rfl, rfl, q⟩⟩
end L2

/-! ### dicts whose keys are ints -/
namespace L2
open PySem PySem.Spec PyProof.Rows
/-- a dict: ks its keys in their order, f tells what they hold -/
def DK (H : Hp) (d : Addr) (ks : List Int) (f : Int → V) : Prop := ∃ kvs : List (Key × V), H d = some (.dK kvs) ∧ kvs.map (·.1) = ks.map Sum.inl ∧ ks.Nodup ∧ ∀ k : Int, valV kvs (.inl k) = if k ∈ ks then some (f k) else none
/-- the keys behind d[k] = v -/
def putI (ks : List Int) (k : Int) : List Int := if k ∈ ks then ks else ks ++ [k]
theorem mem_putI {ks : List Int} {k j : Int} : j ∈ putI ks k ↔ j ∈ ks ∨ j = k := by
  unfold putI
  split
  · constructor
    · exact .inl
    · rintro (h | rfl)
      · exact h
      · assumption
  · simp
theorem len_putI (ks : List Int) (k : Int) : (putI ks k).length ≤ ks.length + 1 := by
  unfold putI
  split
  · omega
  · rw [List.length_append]; exact Nat.le_refl _
theorem nodup_putI {ks : List Int} (h : ks.Nodup) (k : Int) : (putI ks k).Nodup := by
  unfold putI
  split
  · exact h
  · rename_i hk
    exact List.nodup_append.mpr ⟨h, (List.nodup_cons.mpr ⟨(fun z => by cases z), List.nodup_nil⟩), fun a ha b hb e => hk (by rw [List.mem_singleton.mp hb] at e; rw [← e]; exact ha)⟩
theorem DK.same {H H' : Hp} {d : Addr} {ks : List Int} {f : Int → V} (h : DK H d ks f) (s : Same H H') : DK H' d ks f := by
  obtain ⟨kvs, h1, h2, h3, h4⟩ := h
  exact ⟨kvs, s _ _ h1, h2, h3, h4⟩
theorem DK.isD {H : Hp} {d : Addr} {ks : List Int} {f : Int → V} (h : DK H d ks f) : IsD H d := by
  obtain ⟨kvs, h1, _⟩ := h
  exact .inl ⟨kvs, .inl h1⟩
theorem DK.new {H : Hp} {d : Addr} {f : Int → V} (h : H d = some (.dK [])) : DK H d [] f := ⟨[], h, rfl, List.nodup_nil, fun k => by simp [valV_nil]⟩
theorem DK.get {H : Hp} {d : Addr} {ks : List Int} {f : Int → V} (h : DK H d ks f) (k : Int) : DGet H d (.int k) (if k ∈ ks then some (f k) else none) := by
  obtain ⟨kvs, h1, _, _, h4⟩ := h
  exact .inl ⟨kvs, .inl k, .inl h1, rfl, (h4 k).symm⟩
theorem DK.at_ {H : Hp} {d : Addr} {ks : List Int} {f : Int → V} (h : DK H d ks f) {k : Int} (hk : k ∈ ks) : DGet H d (.int k) (some (f k)) := by
  have := h.get k
  rwa [if_pos hk] at this
theorem DK.off {H : Hp} {d : Addr} {ks : List Int} {f : Int → V} (h : DK H d ks f) {k : Int} (hk : k ∉ ks) : DGet H d (.int k) none := by
  have := h.get k
  rwa [if_neg hk] at this
theorem DK.put {H : Hp} {d : Addr} {ks : List Int} {f : Int → V} (h : DK H d ks f) (hl : ks.length < sizeLine) (k : Int) (v : V) : ∃ o, DPut H d (.int k) v (upd H d o) ∧ DK (upd H d o) d (putI ks k) (fun j => if j = k then v else f j) ∧ Kp H (upd H d o) := by
  obtain ⟨kvs, h1, h2, h3, h4⟩ := h
  have hlen : kvs.length = ks.length := by
    have := congrArg List.length h2
    rwa [List.length_map, List.length_map] at this
  refine ⟨.dK (putK kvs (.inl k) v), .inl ⟨kvs, .inl k, h1, rfl, by omega, rfl⟩, ⟨_, upd_same, ?_, nodup_putI h3 k, fun j => ?_⟩, Kp.mut h1 rfl⟩
  · have ha := valV_any (.inl k : Key) kvs
    rw [h4 k] at ha
    unfold putK putI
    by_cases hk : k ∈ ks
    · rw [if_pos hk] at ha
      rw [if_pos (by rw [ha]; rfl), if_pos hk, ← h2, List.map_map]
      refine List.map_congr_left fun x _ => ?_
      show (if x.1 = _ then (x.1, v) else x).1 = x.1
      split <;> rfl
    · rw [if_neg hk] at ha
      rw [if_neg (by rw [ha]; decide), if_neg hk, List.map_append, List.map_append, h2]
      rfl
  · rw [valV_put]
    by_cases e : j = k
    · subst e
      rw [if_pos rfl, if_pos (mem_putI.mpr (.inr rfl))]
      exact congrArg some (if_pos rfl).symm
    · rw [if_neg (fun z => e (Sum.inl.inj z)), h4 j]
      by_cases hm : j ∈ ks
      · rw [if_pos hm, if_pos (mem_putI.mpr (.inl hm))]
        exact congrArg some (if_neg e).symm
      · rw [if_neg hm, if_neg fun z => by
          rcases mem_putI.mp z with y | y
          · exact hm y
          · exact e y]
theorem DK.congr {H : Hp} {d : Addr} {ks : List Int} {f g : Int → V} (h : DK H d ks f) (e : ∀ k ∈ ks, f k = g k) : DK H d ks g := by
  obtain ⟨kvs, h1, h2, h3, h4⟩ := h
  refine ⟨kvs, h1, h2, h3, fun k => ?_⟩
  rw [h4 k]
  by_cases hk : k ∈ ks
  · rw [if_pos hk, if_pos hk, e k hk]
  · rw [if_neg hk, if_neg hk]
/-- the i-th key of a dict's own row -/
theorem keysI_at {kvs : List (Key × V)} {ks : List Int} (h : kvs.map (·.1) = ks.map Sum.inl) {i : Nat} {k : Key} {v : V} (e : kvs[i]? = some (k, v)) : ∃ n, ks[i]? = some n ∧ k = .inl n := by
  have h1 : (kvs.map (·.1))[i]? = some k := by rw [List.getElem?_map, e]; rfl
  rw [h, List.getElem?_map] at h1
  obtain ⟨n, hn, e2⟩ := Option.map_eq_some_iff.mp h1
  exact ⟨n, hn, e2.symm⟩
/-- behind a walk over a locked dict: all stands as ahead of it -/
theorem unlock_same {H H' : Hp} {d : Addr} {u : HO} (hd : H d = some u) (h : ∀ a o, a ≠ d → H a = some o → H' a = some o) : Same H (upd H' d u) := fun a o e => by
  by_cases z : a = d
  · subst z
    rw [hd] at e
    rw [upd_same]
    exact e
  · rw [upd_ne z]
    exact h a o z e
end L2

namespace L2
open PySem PySem.Spec PyProof.Rows
/-- dicts of ints to ints -/
theorem DK.getI {H : Hp} {d : Addr} {ks : List Int} {f : Int → Int} (h : DK H d ks (fun k => .int (f k))) (h0 : ∀ k, k ∉ ks → f k = 0) (k : Int) : ∃ o, DGet H d (.int k) o ∧ o.getD (.int 0) = .int (f k) := by
  refine ⟨_, h.get k, ?_⟩
  split
  · rfl
  · rename_i hk
    rw [h0 k hk]
    rfl
theorem DK.putI {H : Hp} {d : Addr} {ks : List Int} {f : Int → Int} (h : DK H d ks (fun k => .int (f k))) (hl : ks.length < sizeLine) (k v : Int) : ∃ o, DPut H d (.int k) (.int v) (upd H d o) ∧ DK (upd H d o) d (L2.putI ks k) (fun j => .int (if j = k then v else f j)) ∧ Kp H (upd H d o) := by
  obtain ⟨o, h1, h2, h3⟩ := h.put hl k (.int v)
  refine ⟨o, h1, h2.congr fun j _ => ?_, h3⟩
  show (if j = k then V.int v else .int (f j)) = .int (if j = k then v else f j)
  split <;> rfl
theorem take_snocI {α : Type} {ks : List α} {i : Nat} {n : α} (e : ks[i]? = some n) : ks.take i ++ [n] = ks.take (i + 1) := by
  obtain ⟨h, rfl⟩ := List.getElem?_eq_some_iff.mp e
  exact (List.take_succ_eq_append_getElem h).symm
end L2
namespace Sw
theorem dl_take {ps : List (Int × Int)} {i : Nat} (h : i < ps.length) (g l k : Int) : dl (ps.take (i + 1)) g l k = dl (ps.take i) g l k + d1 ps[i] g l k := by
  rw [List.take_succ_eq_append_getElem h, dl_push]
theorem d1_pos {p : Int × Int} {g l k : Int} (h : p.1 - l < p.2) : d1 p g l k = (if k = (p.1 - l) % g then 1 else 0) - (if k = p.2 % g then 1 else 0) := by
  unfold d1
  rw [if_pos h]
  have e1 : ((p.1 - l) % g = k) = (k = (p.1 - l) % g) := propext eq_comm
  have e2 : (p.2 % g = k) = (k = p.2 % g) := propext eq_comm
  simp only [e1, e2]
theorem d1_neg {p : Int × Int} {g l k : Int} (h : ¬ p.1 - l < p.2) : d1 p g l k = 0 := by
  unfold d1
  rw [if_neg h]
/-- the sum of the changes at the sorted keys up to x is what the count has changed by -/
theorem cnt_zero {ps : List (Int × Int)} {g l : Int} (g0 : 0 < g) {a x : Int} (h0 : 0 ≤ a) (hax : a ≤ x) (hx : x < g) (h : ∀ y, a < y → y ≤ x → dl ps g l y = 0) : cnt ps g x l = cnt ps g a l := by
  obtain ⟨n, rfl⟩ : ∃ n : Nat, x = a + n := ⟨(x - a).toNat, by omega⟩
  induction n with
  | zero => rw [Int.natCast_zero, Int.add_zero]
  | succ n ih =>
    have e := cnt_step g0 l (a + ((n + 1 : Nat) : Int)) ps
    rw [Int.emod_eq_of_lt (by omega) hx, h _ (by omega) (Int.le_refl _), Int.add_zero, show a + ((n + 1 : Nat) : Int) - 1 = a + (n : Int) by omega] at e
    rw [e]
    exact ih (by omega) (by omega) fun y h1 h2 => h y h1 (by omega)
end Sw

/-! ### gaps between reports -/
namespace Gp
/-- the low end of the first turn of a report whose high end is behind x -/
def v (p : Int × Int) (g x : Int) : Int := p.1 + ((x - p.2) / g + 1) * g
/-- y is the least of them -/
def Nx (ps : List (Int × Int)) (g x y : Int) : Prop := (∃ p ∈ ps, y = v p g x) ∧ ∀ p ∈ ps, y ≤ v p g x
theorem nx_ex (g x : Int) : ∀ ps : List (Int × Int), ps ≠ [] → ∃ y, Nx ps g x y
  | [], h => absurd rfl h
  | [p], _ => ⟨v p g x, ⟨p, List.mem_cons_self, rfl⟩, fun q hq => by rw [List.mem_singleton.mp hq]; exact Int.le_refl _⟩
  | p :: q :: ps, _ => by
    obtain ⟨y, ⟨r, hr, e⟩, h⟩ := nx_ex g x (q :: ps) (by simp)
    by_cases z : v p g x ≤ y
    · refine ⟨v p g x, ⟨p, List.mem_cons_self, rfl⟩, fun w hw => ?_⟩
      rcases List.mem_cons.mp hw with rfl | hw
      · exact Int.le_refl _
      · exact Int.le_trans z (h w hw)
    · refine ⟨y, ⟨r, List.mem_cons_of_mem _ hr, e⟩, fun w hw => ?_⟩
      rcases List.mem_cons.mp hw with rfl | hw
      · omega
      · exact h w hw
theorem Nx.uniq {ps : List (Int × Int)} {g x y z : Int} (h : Nx ps g x y) (k : Nx ps g x z) : y = z := by
  obtain ⟨⟨p, hp, rfl⟩, h2⟩ := h
  obtain ⟨⟨q, hq, rfl⟩, k2⟩ := k
  have := h2 q hq
  have := k2 p hp
  omega
open Classical in
noncomputable def nxt (ps : List (Int × Int)) (g x : Int) : Int := if h : ∃ y, Nx ps g x y then h.choose else 0
theorem nxt_spec {ps : List (Int × Int)} (h : ps ≠ []) (g x : Int) : Nx ps g x (nxt ps g x) := by
  have := nx_ex g x ps h
  unfold nxt
  rw [dif_pos this]
  exact this.choose_spec
theorem nxt_eq {ps : List (Int × Int)} (h : ps ≠ []) {g x y : Int} (k : Nx ps g x y) : nxt ps g x = y := (nxt_spec h g x).uniq k
theorem v_turn {g : Int} (g0 : 0 < g) (p : Int × Int) (x t : Int) : v p g (x + g * t) = v p g x + g * t := by
  unfold v
  have e : x + g * t - p.2 = (x - p.2) + g * t := by omega
  rw [e, Int.add_mul_ediv_left _ _ (by omega), Int.add_mul, Int.add_mul, Int.add_mul, Int.mul_comm t g]
  omega
theorem nxt_turn {ps : List (Int × Int)} (h : ps ≠ []) {g : Int} (g0 : 0 < g) (x t : Int) : nxt ps g (x + g * t) = nxt ps g x + g * t := by
  obtain ⟨⟨p, hp, e⟩, h2⟩ := nxt_spec h g x
  refine nxt_eq h ⟨⟨p, hp, by rw [v_turn g0, ← e]⟩, fun q hq => ?_⟩
  rw [v_turn g0]
  have := h2 q hq
  omega
/-- an event is touched by no report -/
theorem cnt_lost {ps : List (Int × Int)} (h : ps ≠ []) {g : Int} (g0 : 0 < g) (x l : Int) : Sw.cnt ps g x l = 0 ↔ x + l < nxt ps g x := by
  have one : ∀ p : Int × Int, max 0 ((x + l - p.1) / g - (x - p.2) / g) = 0 ↔ x + l < v p g x := fun p => by
    have e1 : max 0 ((x + l - p.1) / g - (x - p.2) / g) = 0 ↔ (x + l - p.1) / g < (x - p.2) / g + 1 := by
      rw [Int.max_def]
      split <;> omega
    rw [e1, Int.ediv_lt_iff_lt_mul g0]
    unfold v
    omega
  have all : ∀ qs : List (Int × Int), Sw.cnt qs g x l = 0 ↔ ∀ p ∈ qs, x + l < v p g x := fun qs => by
    induction qs with
    | nil => exact ⟨fun _ p hp => (by cases hp), fun _ => rfl⟩
    | cons p qs ih =>
      rw [Sw.cnt_cons]
      have n1 := Sw.cnt_nonneg qs g x l
      have n2 : 0 ≤ max 0 ((x + l - p.1) / g - (x - p.2) / g) := Int.le_max_left _ _
      constructor
      · intro z q hq
        rcases List.mem_cons.mp hq with rfl | hq
        · exact (one q).mp (by omega)
        · exact ih.mp (by omega) q hq
      · intro z
        have h1 := (one p).mpr (z p List.mem_cons_self)
        have h2 := ih.mpr fun q hq => z q (List.mem_cons_of_mem _ hq)
        omega
  rw [all]
  obtain ⟨⟨p, hp, e⟩, h2⟩ := nxt_spec h g x
  constructor
  · intro z
    rw [e]
    exact z p hp
  · intro z q hq
    have := h2 q hq
    omega
/-- the places at which a report ends -/
def High (ps : List (Int × Int)) (g x : Int) : Prop := ∃ p ∈ ps, p.2 % g = x % g
/-- between the last end not behind x and x nothing changes -/
theorem slide1 {ps : List (Int × Int)} (h : ps ≠ []) {g : Int} (g0 : 0 < g) {x : Int} (hn : ¬ High ps g x) : nxt ps g (x - 1) = nxt ps g x := by
  have hv : ∀ p ∈ ps, v p g (x - 1) = v p g x := fun p hp => by
    have s := Sw.div_step g0 (x - p.2)
    have e : x - p.2 - 1 = x - 1 - p.2 := by omega
    rw [e, if_neg (fun z => hn ⟨p, hp, Sw.emod_iff.mp z⟩), Int.add_zero] at s
    unfold v
    rw [s]
  obtain ⟨⟨p, hp, e⟩, h2⟩ := nxt_spec h g x
  refine nxt_eq h ⟨⟨p, hp, by rw [hv p hp, e]⟩, fun q hq => ?_⟩
  rw [hv q hq]
  exact h2 q hq
theorem slide {ps : List (Int × Int)} (h : ps ≠ []) {g : Int} (g0 : 0 < g) (x : Int) : ∃ y, y ≤ x ∧ High ps g y ∧ nxt ps g y = nxt ps g x := by
  obtain ⟨p, hp⟩ : ∃ p, p ∈ ps := by
    cases ps with
    | nil => exact absurd rfl h
    | cons p _ => exact ⟨p, List.mem_cons_self⟩
  -- the report's end next below x is at most g away
  have key : ∀ n : Nat, (x - p.2) % g = n → ∃ y, y ≤ x ∧ High ps g y ∧ nxt ps g y = nxt ps g x := fun n => by
    induction n generalizing x with
    | zero =>
      intro e
      exact ⟨x, Int.le_refl _, ⟨p, hp, Sw.emod_iff.mp (by rw [e]; rfl)⟩, rfl⟩
    | succ n ih =>
      intro e
      by_cases hx : High ps g x
      · exact ⟨x, Int.le_refl _, hx, rfl⟩
      · have e2 : (x - 1 - p.2) % g = n := by
          have h1 := Int.mul_ediv_add_emod (x - p.2) g
          have h2 := Int.emod_lt_of_pos (x - p.2) g0
          have e3 : x - 1 - p.2 = (n : Int) + g * ((x - p.2) / g) := by omega
          rw [e3, Int.add_mul_emod_self_left, Int.emod_eq_of_lt (by omega) (by omega)]
        obtain ⟨y, h1, h2, h3⟩ := ih (x - 1) e2
        exact ⟨y, by omega, h2, by rw [h3, slide1 h g0 hx]⟩
  exact key ((x - p.2) % g).toNat (by have := Int.emod_nonneg (x - p.2) (show g ≠ 0 by omega); omega)
/-- how long an event that begins at x may be that no report touches -/
noncomputable def len (ps : List (Int × Int)) (g x : Int) : Int := nxt ps g x - 1 - x
theorem len_turn {ps : List (Int × Int)} (h : ps ≠ []) {g : Int} (g0 : 0 < g) (x : Int) : len ps g (x % g) = len ps g x := by
  unfold len
  have e : x = x % g + g * (x / g) := by have := Int.mul_ediv_add_emod x g; omega
  have := nxt_turn h g0 (x % g) (x / g)
  rw [← e] at this
  omega
/-- the best of the places: told with its length, the first one -/
def IsBest (S : Int → Prop) (ln : Int → Int) : Option (Int × Int) → Prop
  | none => ∀ x, S x → ln x < 0
  | some (x, n) => S x ∧ n = ln x ∧ 0 ≤ n ∧ ∀ y, S y → ln y ≤ n ∧ (ln y = n → x ≤ y)
theorem IsBest.uniq {S : Int → Prop} {ln : Int → Int} : ∀ {o o' : Option (Int × Int)}, IsBest S ln o → IsBest S ln o' → o = o'
  | none, none, _, _ => rfl
  | none, some (x, n), h, ⟨h1, h2, h3, _⟩ => by have := h x h1; omega
  | some (x, n), none, ⟨h1, h2, h3, _⟩, h => by have := h x h1; omega
  | some (x, n), some (y, m), ⟨h1, h2, h3, h4⟩, ⟨k1, k2, k3, k4⟩ => by
    obtain ⟨a1, a2⟩ := h4 y k1
    obtain ⟨b1, b2⟩ := k4 x h1
    have e : n = m := by omega
    have := a2 (by omega)
    have := b2 (by omega)
    have e2 : x = y := by omega
    rw [e, e2]
theorem IsBest.congr {S S' : Int → Prop} {ln : Int → Int} (hS : ∀ x, S x ↔ S' x) : ∀ {o : Option (Int × Int)}, IsBest S ln o → IsBest S' ln o
  | none, h => fun x hx => h x ((hS x).mpr hx)
  | some (x, n), ⟨h1, h2, h3, h4⟩ => ⟨(hS x).mp h1, h2, h3, fun y hy => h4 y ((hS y).mpr hy)⟩
/-- one more place, not ahead of the others -/
theorem IsBest.take {S : Int → Prop} {ln : Int → Int} {z : Int} {o : Option (Int × Int)} (h : IsBest S ln o) (c : 0 ≤ ln z) (hc : ∀ x n, o = some (x, n) → n < ln z) : IsBest (fun x => S x ∨ x = z) ln (some (z, ln z)) := by
  refine ⟨.inr rfl, rfl, c, fun y hy => ?_⟩
  rcases hy with hy | rfl
  · cases o with
    | none =>
      have := h y hy
      exact ⟨by omega, fun e => by omega⟩
    | some w =>
      obtain ⟨x, n⟩ := w
      have := (h.2.2.2 y hy).1
      have := hc x n rfl
      exact ⟨by omega, fun e => by omega⟩
  · exact ⟨Int.le_refl _, fun _ => Int.le_refl _⟩
theorem IsBest.keep0 {S : Int → Prop} {ln : Int → Int} {z : Int} (h : IsBest S ln none) (c : ln z < 0) : IsBest (fun x => S x ∨ x = z) ln none := fun y hy => by
  rcases hy with hy | rfl
  · exact h y hy
  · exact c
theorem IsBest.keep {S : Int → Prop} {ln : Int → Int} {z : Int} (hz : ∀ x, S x → x ≤ z) {x n : Int} (h : IsBest S ln (some (x, n))) (c : ln z ≤ n) : IsBest (fun x => S x ∨ x = z) ln (some (x, n)) := by
  obtain ⟨h1, h2, h3, h4⟩ := h
  refine ⟨.inl h1, h2, h3, fun y hy => ?_⟩
  rcases hy with hy | rfl
  · exact h4 y hy
  · exact ⟨c, fun e => hz x h1⟩
/-- the longest of all -/
theorem best_all {ps : List (Int × Int)} (h : ps ≠ []) {g : Int} (g0 : 0 < g) {S : Int → Prop} (hS : ∀ x, S x ↔ ∃ p ∈ ps, p.2 % g = x) {x n : Int} (hb : IsBest S (len ps g) (some (x, n))) (y : Int) : len ps g y ≤ n := by
  obtain ⟨y', h1, ⟨p, hp, ep⟩, h3⟩ := slide h g0 y
  have := (hb.2.2.2 (y' % g) ((hS _).mpr ⟨p, hp, ep⟩)).1
  rw [len_turn h g0] at this
  unfold len at this ⊢
  omega
theorem none_all {ps : List (Int × Int)} (h : ps ≠ []) {g : Int} (g0 : 0 < g) {S : Int → Prop} (hS : ∀ x, S x ↔ ∃ p ∈ ps, p.2 % g = x) (hb : IsBest S (len ps g) none) (y : Int) : len ps g y < 0 := by
  obtain ⟨y', h1, ⟨p, hp, ep⟩, h3⟩ := slide h g0 y
  have := hb (y' % g) ((hS _).mpr ⟨p, hp, ep⟩)
  rw [len_turn h g0] at this
  unfold len at this ⊢
  omega
theorem cnt_len {ps : List (Int × Int)} (h : ps ≠ []) {g : Int} (g0 : 0 < g) (x l : Int) : Sw.cnt ps g x l = 0 ↔ l ≤ len ps g x := by
  rw [cnt_lost h g0]
  unfold len
  omega
/-- a report moved into the first turn: its end's place and its low end there -/
def lw (p : Int × Int) (g : Int) : Int := p.1 - (p.2 - p.2 % g)
theorem v_lw {g : Int} (g0 : 0 < g) (p : Int × Int) {x : Int} (h0 : 0 ≤ x) (h1 : x < g) : v p g x = lw p g + if p.2 % g ≤ x then g else 0 := by
  have e := Int.mul_ediv_add_emod p.2 g
  have r0 := Int.emod_nonneg p.2 (show g ≠ 0 by omega)
  have r1 := Int.emod_lt_of_pos p.2 g0
  unfold v lw
  have e2 : x - p.2 = (x - p.2 % g) + g * (-(p.2 / g)) := by rw [Int.mul_neg]; omega
  rw [e2, Int.add_mul_ediv_left _ _ (by omega)]
  by_cases c : p.2 % g ≤ x
  · rw [if_pos c, Int.ediv_eq_zero_of_lt (by omega) (by omega), Int.zero_add, Int.add_mul, Int.neg_mul, Int.mul_comm (p.2 / g) g]
    omega
  · rw [if_neg c]
    have : (x - p.2 % g) / g = -1 := ((Int.ediv_emod_unique (r := x - p.2 % g + g) g0).mpr ⟨by omega, by omega, by omega⟩).1
    rw [this, show (-1 + -(p.2 / g) + 1 : Int) = -(p.2 / g) by omega, Int.neg_mul, Int.mul_comm (p.2 / g) g]
    omega
/-- each place's nearest low end -/
def NR (ps : List (Int × Int)) (g : Int) (ks : List Int) (f : Int → Int) : Prop := (∀ p ∈ ps, p.2 % g ∈ ks ∧ f (p.2 % g) ≤ lw p g) ∧ ∀ k ∈ ks, ∃ p ∈ ps, p.2 % g = k ∧ lw p g = f k
theorem NR.nil {g : Int} {f : Int → Int} : NR [] g [] f := ⟨fun p hp => (by cases hp), fun k hk => (by cases hk)⟩
theorem NR.push {ps : List (Int × Int)} {g : Int} {ks : List Int} {f : Int → Int} (h : NR ps g ks f) (p : Int × Int) (hc : p.2 % g ∉ ks ∨ lw p g < f (p.2 % g)) : NR (ps ++ [p]) g (L2.putI ks (p.2 % g)) (fun j => if j = p.2 % g then lw p g else f j) := by
  refine ⟨fun q hq => ?_, fun k hk => ?_⟩
  · show _ ∧ (if q.2 % g = p.2 % g then lw p g else f (q.2 % g)) ≤ lw q g
    rcases List.mem_append.mp hq with hq | hq
    · obtain ⟨h1, h2⟩ := h.1 q hq
      refine ⟨L2.mem_putI.mpr (.inl h1), ?_⟩
      split
      · rename_i e
        rcases hc with c | c
        · rw [← e] at c
          exact absurd h1 c
        · rw [e] at h2
          omega
      · exact h2
    · rw [List.mem_singleton.mp hq, if_pos rfl]
      exact ⟨L2.mem_putI.mpr (.inr rfl), Int.le_refl _⟩
  · show ∃ q ∈ ps ++ [p], q.2 % g = k ∧ lw q g = (if k = p.2 % g then lw p g else f k)
    by_cases e : k = p.2 % g
    · exact ⟨p, List.mem_append_right _ List.mem_cons_self, e.symm, by rw [if_pos e]⟩
    · rcases L2.mem_putI.mp hk with hk | hk
      · obtain ⟨q, hq, e1, e2⟩ := h.2 k hk
        exact ⟨q, List.mem_append_left _ hq, e1, by rw [if_neg e]; exact e2⟩
      · exact absurd hk e
theorem NR.skip {ps : List (Int × Int)} {g : Int} {ks : List Int} {f : Int → Int} (h : NR ps g ks f) (p : Int × Int) (h1 : p.2 % g ∈ ks) (h2 : f (p.2 % g) ≤ lw p g) : NR (ps ++ [p]) g ks f := by
  refine ⟨fun q hq => ?_, fun k hk => ?_⟩
  · rcases List.mem_append.mp hq with hq | hq
    · exact h.1 q hq
    · rw [List.mem_singleton.mp hq]
      exact ⟨h1, h2⟩
  · obtain ⟨q, hq, e1, e2⟩ := h.2 k hk
    exact ⟨q, List.mem_append_left _ hq, e1, e2⟩
/-- the next low end by the nearest ones -/
theorem NR.nxt {ps : List (Int × Int)} {g : Int} {ks : List Int} {f : Int → Int} (h : NR ps g ks f) (hp : ps ≠ []) (g0 : 0 < g) {x y : Int} (h0 : 0 ≤ x) (h1 : x < g) (a : ∃ k ∈ ks, y = f k + if k ≤ x then g else 0) (b : ∀ k ∈ ks, y ≤ f k + if k ≤ x then g else 0) : nxt ps g x = y := by
  refine nxt_eq hp ⟨?_, fun p hp => ?_⟩
  · obtain ⟨k, hk, e⟩ := a
    obtain ⟨p, hp, e1, e2⟩ := h.2 k hk
    refine ⟨p, hp, ?_⟩
    rw [v_lw g0 p h0 h1, e1, e2]
    exact e
  · obtain ⟨e1, e2⟩ := h.1 p hp
    rw [v_lw g0 p h0 h1]
    have := b _ e1
    omega
end Gp

/-! ### the look at what is left, in four parts (each holds less than the whole) -/
namespace HeZ
open PySem PySem.W HandSHeadRun
/-- what the run leaves, as far as it is looked at -/
def Kz (n : Nat) (s : SharedT) : Frag := He.frT (getT s) (adr n)
abbrev Part1 (r : OpenRow) (q : Program) (M : Nat) (loose : List PySem.Str) (n : Nat) (ex : Frag → Bool) (ts : List He.Tab) (w : World) : Prop :=
  Left r M w (fun s => ((looksF r.prog (boot_heap w.params) s.abs, seenQ q loose (importedModules r.prog.main.body) (fun s => xlAt q [] s && recOk r.toRowW.records s) s.abs), ex (Kz n s), ts.map fun t => He.dicW (Kz n s) (t.1 (Kz n s))))
    ((true, openGood q loose), true, ts.map fun t => some (He.keysIn w.params t.2))
abbrev Part2 (r : OpenRow) (M n h : Nat) (fa : List He.Fa) (fn : List He5.DefA) (w : World) : Prop := Left r M w (fun s => (fa.all fun f => f.ok (Kz n s)) && (fn.take h).all fun d => d.ok (Kz n s)) true
abbrev Part3 (r : OpenRow) (M n h : Nat) (fn : List He5.DefA) (w : World) : Prop := Left r M w (fun s => (fn.drop h).all fun d => d.ok (Kz n s)) true
abbrev Part4 (r : OpenRow) (M n : Nat) (fn : List He5.DefA) (w : World) : Prop := Left r M w (fun s => fn.map fun d => He5.fnA (Kz n s) (d.at_ (Kz n s))) (fn.map He5.DefA.val)
theorem all_split {α : Type} (h : Nat) (l : List α) (p : α → Bool) : l.all p = ((l.take h).all p && (l.drop h).all p) := by rw [← List.all_append, List.take_append_drop]
theorem run_four {r : OpenRow} {q : Program} {M : Nat} {loose : List PySem.Str} {n h : Nat} {fa : List He.Fa} {fn : List He5.DefA} {ex : Frag → Bool} {ts : List He.Tab} {w : World} (p1 : Part1 r q M loose n ex ts w) (p2 : Part2 r M n h fa fn w) (p3 : Part3 r M n h fn w) (p4 : Part4 r M n fn w) :
    RunEq r q (hookZ n fa fn ex ts) (fun s => obsZ n fa fn ex ts (getT s)) M loose w := by
  have h1 : Left1 r q M loose w := fun os => by
    have a1 := p1 os
    revert a1
    generalize endF (stepQ (denQ tabQ) r.prog w) M r.prog w os = x
    intro a1
    cases x with
    | none => cases a1
    | some a => exact congrArg some (congrArg (fun z => z.1) (Option.some.inj a1))
  have h2 : Left r M w (fun s => obsZ n fa fn ex ts (getT s)) (valZ fn ts w) := fun os => by
    have a1 := p1 os
    have a2 := p2 os
    have a3 := p3 os
    have a4 := p4 os
    revert a1 a2 a3 a4
    generalize endF (stepQ (denQ tabQ) r.prog w) M r.prog w os = x
    intro a1 a2 a3 a4
    cases x with
    | none => cases a1
    | some a =>
      have b1 := congrArg (fun z => z.2) (Option.some.inj a1)
      have b2 := Option.some.inj a2
      have b3 := Option.some.inj a3
      have b4 := Option.some.inj a4
      show some ((((fa.all fun f => f.ok (Kz n a)) && fn.all fun d => d.ok (Kz n a)), fn.map fun d => He5.fnA (Kz n a) (d.at_ (Kz n a))), ex (Kz n a), ts.map fun t => He.dicW (Kz n a) (t.1 (Kz n a))) = some ((true, fn.map He5.DefA.val), true, ts.map fun t => some (He.keysIn w.params t.2))
      have c1 : ((fa.all fun f => f.ok (Kz n a)) && fn.all fun d => d.ok (Kz n a)) = true := by
        rw [all_split h fn, ← Bool.and_assoc]
        exact Bool.and_eq_true_iff.mpr ⟨b2, b3⟩
      rw [c1]
      exact congrArg some (Prod.ext (Prod.ext rfl b4) b1)
  exact run_parts h1 h2
end HeZ
namespace HeZ
open PySem PySem.W HandSHeadRun
abbrev PartE (r : OpenRow) (M n : Nat) (ex : Frag → Bool) (ts : List He.Tab) (w : World) : Prop := Left r M w (fun s => (ex (Kz n s), ts.map fun t => He.dicW (Kz n s) (t.1 (Kz n s)))) (true, ts.map fun t => some (He.keysIn w.params t.2))
abbrev PartA (r : OpenRow) (M n : Nat) (fa : List He.Fa) (w : World) : Prop := Left r M w (fun s => fa.all fun f => f.ok (Kz n s)) true
abbrev PartD (r : OpenRow) (M n : Nat) (fn : List He5.DefA) (w : World) : Prop := Left r M w (fun s => fn.all fun d => d.ok (Kz n s)) true
theorem partD {r : OpenRow} {M n : Nat} {fn fn' : List He5.DefA} {w : World} (h1 : PartD r M n fn w) (h2 : PartD r M n fn' w) : PartD r M n (fn ++ fn') w := fun os => by
  have a1 := h1 os
  have a2 := h2 os
  revert a1 a2
  generalize endF (stepQ (denQ tabQ) r.prog w) M r.prog w os = x
  intro a1 a2
  cases x with
  | none => cases a1
  | some a =>
    have b1 := Option.some.inj a1
    have b2 := Option.some.inj a2
    show some ((fn ++ fn').all fun d => d.ok (Kz n a)) = some true
    rw [List.all_append]
    exact congrArg some (Bool.and_eq_true_iff.mpr ⟨b1, b2⟩)
theorem partD_join {r : OpenRow} {M n q : Nat} {fn : List He5.DefA} {w : World} (h1 : PartD r M n (fn.take q) w) (h2 : PartD r M n (fn.drop q) w) : PartD r M n fn w := by
  have := partD h1 h2
  rwa [List.take_append_drop] at this
theorem run_six {r : OpenRow} {q : Program} {M : Nat} {loose : List PySem.Str} {n h : Nat} {fa : List He.Fa} {fn : List He5.DefA} {ex : Frag → Bool} {ts : List He.Tab} {w : World} (p1 : Left1 r q M loose w) (p2 : PartE r M n ex ts w) (p3 : PartA r M n fa w) (p4 : PartD r M n (fn.take h) w) (p5 : PartD r M n (fn.drop h) w) (p6 : Part4 r M n fn w) :
    RunEq r q (hookZ n fa fn ex ts) (fun s => obsZ n fa fn ex ts (getT s)) M loose w := by
  have h2 : Left r M w (fun s => obsZ n fa fn ex ts (getT s)) (valZ fn ts w) := fun os => by
    have p45 := partD p4 p5
    rw [List.take_append_drop] at p45
    have a1 := p2 os
    have a2 := p3 os
    have a3 := p45 os
    have a4 := p6 os
    revert a1 a2 a3 a4
    generalize endF (stepQ (denQ tabQ) r.prog w) M r.prog w os = x
    intro a1 a2 a3 a4
    cases x with
    | none => cases a1
    | some a =>
      have b1 := Option.some.inj a1
      have b2 := Option.some.inj a2
      have b3 := Option.some.inj a3
      have b4 := Option.some.inj a4
      show some ((((fa.all fun f => f.ok (Kz n a)) && fn.all fun d => d.ok (Kz n a)), fn.map fun d => He5.fnA (Kz n a) (d.at_ (Kz n a))), ex (Kz n a), ts.map fun t => He.dicW (Kz n a) (t.1 (Kz n a))) = some ((true, fn.map He5.DefA.val), true, ts.map fun t => some (He.keysIn w.params t.2))
      have c1 : ((fa.all fun f => f.ok (Kz n a)) && fn.all fun d => d.ok (Kz n a)) = true := Bool.and_eq_true_iff.mpr ⟨b2, b3⟩
      rw [c1]
      exact congrArg some (Prod.ext (Prod.ext rfl b4) b1)
  exact run_parts p1 h2
end HeZ

/-! ### rows of changes that repeat -/
namespace Ty
/-- each entry comes again s places on, d later -/
def RepS (rw : List (Int × Int)) (s : Nat) (d : Int) : Prop := ∀ (i : Nat) (p : Int × Int), rw[i]? = some p → i + s < rw.length → rw[i + s]? = some (p.1 + d, p.2)
theorem RepS.at_ {rw : List (Int × Int)} {s : Nat} {d : Int} (h : RepS rw s d) {i : Nat} {p : Int × Int} (e : rw[i]? = some p) : ∀ j : Nat, i + j * s < rw.length → rw[i + j * s]? = some (p.1 + j * d, p.2)
  | 0, _ => by simpa using e
  | j + 1, hj => by
    have e1 : i + (j + 1) * s = (i + j * s) + s := by rw [Nat.add_mul]; omega
    rw [e1] at hj ⊢
    have := h _ _ (h.at_ e j (by omega)) hj
    rw [this]
    have : p.1 + ((j + 1 : Nat) : Int) * d = p.1 + (j : Int) * d + d := by rw [Int.natCast_succ, Int.add_mul, Int.one_mul]; omega
    rw [this]
/-- a part that repeats, of a row that repeats -/
theorem RepS.sub {rw : List (Int × Int)} {s s' k' : Nat} {d d' : Int} (h : RepS rw s d) (hs : s = k' * s') (hd : d = (k' : Int) * d') (s0 : 0 < s') (k0 : 0 < k') (hn : s ≤ rw.length) (h' : RepS (rw.take s) s' d') : RepS rw s' d' := by
  have B : ∀ (i : Nat) (p : Int × Int), i < s → rw[i]? = some p → i + s' < s → rw[i + s']? = some (p.1 + d', p.2) := fun i p hi e hb => by
    have := h' i p (by rw [List.getElem?_take, if_pos hi]; exact e) (by rw [List.length_take]; omega)
    rwa [List.getElem?_take, if_pos hb] at this
  intro i
  induction i using Nat.strongRecOn with
  | ind i ih =>
    intro p e hi
    rcases Nat.lt_or_ge i s with c | c
    · rcases Nat.lt_or_ge (i + s') s with b | b
      · exact B i p c e b
      · -- the last part of the block
        obtain ⟨m, rfl⟩ : ∃ m, k' = m + 1 := ⟨k' - 1, by omega⟩
        have hs2 : s = m * s' + s' := by rw [hs, Nat.add_mul, Nat.one_mul]
        obtain ⟨r, hr⟩ : ∃ r, i = r + m * s' := ⟨i - m * s', by omega⟩
        have hrs : r < s' := by omega
        have hrl : r < rw.length := by omega
        have er := List.getElem?_eq_getElem hrl
        generalize rw[r] = q at er
        have hit : ∀ j : Nat, j ≤ m → rw[r + j * s']? = some (q.1 + j * d', q.2) := fun j => by
          induction j with
          | zero => intro _; simpa using er
          | succ j ihj =>
            intro hj
            have hm : j * s' + s' ≤ m * s' := by
              have : (j + 1) * s' ≤ m * s' := Nat.mul_le_mul_right _ hj
              rwa [Nat.add_mul, Nat.one_mul] at this
            have := B _ _ (by omega) (ihj (by omega)) (by omega)
            have e1 : r + (j + 1) * s' = r + j * s' + s' := by rw [Nat.add_mul]; omega
            rw [e1, this]
            have : q.1 + ((j + 1 : Nat) : Int) * d' = q.1 + (j : Int) * d' + d' := by rw [Int.natCast_succ, Int.add_mul, Int.one_mul]; omega
            rw [this]
        have e2 := hit m (Nat.le_refl _)
        rw [← hr, e] at e2
        obtain rfl := Option.some.inj e2
        have e3 := h r q er (by omega)
        have e4 : i + s' = r + s := by omega
        rw [e4, e3, hd]
        have : q.1 + ((m + 1 : Nat) : Int) * d' = q.1 + (m : Int) * d' + d' := by rw [Int.natCast_succ, Int.add_mul, Int.one_mul]; omega
        rw [this]
    · have hl : i - s < rw.length := by omega
      have s1 : 0 < s := by rw [hs]; exact Nat.mul_pos k0 s0
      have eq := List.getElem?_eq_getElem hl
      generalize rw[i - s] = q at eq
      have e1 := h _ _ eq (by omega)
      rw [show i - s + s = i by omega, e] at e1
      obtain rfl := Option.some.inj e1
      have e2 := ih (i - s) (by omega) q eq (by omega)
      have e3 := h _ _ e2 (by omega)
      rw [show i - s + s' + s = i + s' by omega] at e3
      rw [e3]
      have : q.1 + d' + d = q.1 + d + d' := by omega
      rw [this]
/-- the row is its first part again and again -/
theorem RepS.block {rw : List (Int × Int)} {s : Nat} {d : Int} (h : RepS rw s d) {j : Nat} (hj : (j + 1) * s ≤ rw.length) : rw.take (j * s) ++ (rw.take s).map (fun p => (p.1 + j * d, p.2)) = rw.take ((j + 1) * s) := by
  have e1 : (j + 1) * s = j * s + s := by rw [Nat.add_mul, Nat.one_mul]
  rw [e1] at hj ⊢
  rw [List.take_add]
  congr 1
  refine List.ext_getElem? fun i => ?_
  rw [List.getElem?_map, List.getElem?_take, List.getElem?_take]
  by_cases c : i < s
  · rw [if_pos c, if_pos c, List.getElem?_drop]
    have hl : i < rw.length := by omega
    have e := List.getElem?_eq_getElem hl
    have := h.at_ e j (by omega)
    rw [show j * s + i = i + j * s by omega, this, e]
    rfl
  · rw [if_neg c, if_neg c]
    rfl
/-- the told row: the first part of the greatest number of parts -/
def Least0 (rw : List (Int × Int)) (g per : Int) (row : List (Int × Int)) : Prop := ∃ k : Nat, 1 ≤ k ∧ k ≤ rw.length ∧ k ∣ rw.length ∧ (k : Int) ∣ g ∧ per = g / k ∧ row = rw.take (rw.length / k) ∧ RepS rw (rw.length / k) (g / k) ∧ ∀ j : Nat, k < j → j ≤ rw.length → j ∣ rw.length → (j : Int) ∣ g → ¬ RepS rw (rw.length / j) (g / j)
theorem repS_one {rw : List (Int × Int)} {d : Int} : RepS rw rw.length d := fun i p e h => by omega
/-- no part of it repeats -/
theorem Least0.least {rw row : List (Int × Int)} {g per : Int} (h : Least0 rw g per row) (n0 : 0 < rw.length) {k' : Nat} (h2 : 2 ≤ k') (hk : k' ≤ row.length) (h3 : k' ∣ row.length) (h4 : (k' : Int) ∣ per) : ¬ RepS row (row.length / k') (per / k') := by
  obtain ⟨k, k1, kn, kd, kg, rfl, rfl, hr, hmax⟩ := h
  intro hrep
  obtain ⟨s, hs⟩ := kd
  have hs1 : rw.length / k = s := by rw [hs]; exact Nat.mul_div_cancel_left _ (by omega)
  have hsl : s ≤ rw.length := by rw [hs]; exact Nat.le_mul_of_pos_left _ (by omega)
  have hlen : (rw.take (rw.length / k)).length = s := by rw [List.length_take, hs1]; omega
  rw [hlen] at hk h3 hrep
  rw [hs1] at hr hrep
  obtain ⟨s', hs'⟩ := h3
  have s0 : 0 < s' := by
    rcases Nat.eq_zero_or_pos s' with z | z
    · rw [z, Nat.mul_zero] at hs'
      omega
    · exact z
  rw [hs', Nat.mul_div_cancel_left _ (by omega), ← hs'] at hrep
  obtain ⟨d', hd'⟩ := h4
  rw [hd', Int.mul_ediv_cancel_left _ (by omega)] at hrep
  have hfin := hr.sub hs' hd' s0 (by omega) hsl hrep
  have e1 : rw.length = (k * k') * s' := by rw [hs, hs', Nat.mul_assoc]
  have e2 : g = ((k * k' : Nat) : Int) * d' := by
    have := Int.mul_ediv_cancel' kg
    rw [hd'] at this
    rw [Int.natCast_mul, Int.mul_assoc, this]
  have kk : 0 < k * k' := Nat.mul_pos (by omega) (by omega)
  refine hmax (k * k') ?_ ?_ ⟨s', e1⟩ ⟨d', e2⟩ ?_
  · have := Nat.mul_le_mul_left k h2
    omega
  · rw [e1]
    exact Nat.le_mul_of_pos_right _ s0
  · rw [e1, Nat.mul_div_cancel_left _ kk]
    have : g / ((k * k' : Nat) : Int) = d' := by
      rw [e2]
      exact Int.mul_ediv_cancel_left _ (by omega)
    rw [this]
    exact hfin
/-- the places at which the count does change -/
def chgs (C : Int → Int) (L : List Int) : List Int := L.filter fun x => !decide (C x = C (x - 1))
theorem mem_chgs {C : Int → Int} {L : List Int} {x : Int} : x ∈ chgs C L ↔ x ∈ L ∧ C x ≠ C (x - 1) := by
  unfold chgs
  rw [List.mem_filter]
  simp
theorem chgs_eq {C : Int → Int} {g : Int} {L L' : List Int} (h : Sw.Cov C g L) (h' : Sw.Cov C g L') : chgs C L = chgs C L' := by
  have key : ∀ {A B : List Int}, Sw.Cov C g A → Sw.Cov C g B → ∀ x, x ∈ chgs C A → x ∈ chgs C B := fun {A B} ha hb x hx => by
    obtain ⟨h1, h2⟩ := mem_chgs.mp hx
    have hr := ha.rg x h1
    refine mem_chgs.mpr ⟨?_, h2⟩
    rcases Int.lt_or_le 0 x with c | c
    · by_cases z : x ∈ B
      · exact z
      · exact absurd (hb.st x c hr.2 z) h2
    · have : x = 0 := by omega
      rw [this]
      exact hb.z
  have p1 : (chgs C L).Pairwise (· < ·) := h.srt.filter _
  have p2 : (chgs C L').Pairwise (· < ·) := h'.srt.filter _
  have nd : ∀ {A : List Int}, A.Pairwise (· < ·) → A.Nodup := fun hA => List.Pairwise.imp (fun {a b} h => by omega) hA
  have hp : (chgs C L).Perm (chgs C L') := (List.perm_ext_iff_of_nodup (nd p1) (nd p2)).mpr fun x => ⟨key h h' x, key h' h x⟩
  exact List.Perm.eq_of_pairwise (fun a b _ _ h1 h2 => by omega) p1 p2 hp
end Ty

namespace L2
open PySem PySem.Spec PyProof.Rows
/-! ranges of any size -/
theorem turn_long {P : Program} {w : World} {K : PySem.W.Frag} {tg : Expr} (it : Addr) (lo : Int) (n : Nat) : Turn P w K tg (Itr lo n) [it] it (fun i h => IsLongIter h it (lo + (i : Nat) * 1) ((n : Int) - (i : Nat)) 1) where
  mem := by simp
  obj := fun i h st b hb => by
    have e : b = it := by simpa using hb
    subst e
    exact ⟨_, st, fun v z => by
      have z' : Data.fields _ = Data.cell v := z
      cases z'⟩
  keep := fun i h h' st k => k it (by simp) _ st
  item := by
    intro X hP hw hK hc i pins s σ H E I hf st hg
    subst hP hw hK
    obtain ⟨f0, f1, f2, f3, f4, f5⟩ := hf it (by simp)
    have W := Walks.longrange (prog := X.prog) (w := X.w) (I.ok.hd hc) it lo 1 n
    refine W.item i s _ _ hg st fun v h' tk hv st' kk => ?_
    obtain ⟨t, rfl⟩ := hv
    have I1 : Inv X pins σ H { s with heap := h', toks := tk } := I.turned (fun b o hb e => kk b o (by simpa using hb) e) f0 f1 f3 f4 f5
    refine ⟨_, rfl, go_of (s := { s with heap := h', toks := tk }) (n := "longrange_iterator") st' rfl rfl (by decide) ⟨.int (lo + i), H, I1, ⟨t, ?_⟩, ⟨rfl, rfl⟩, st', fun b hb => (hf b hb).1⟩⟩
    rw [Int.mul_one]
  done := by
    intro X hP hw hK hc i pins s σ H E I hf st hg
    subst hP hw hK
    obtain ⟨f0, f1, f2, f3, f4, f5⟩ := hf it (by simp)
    exact wpAny_pyNext_long_end (I.ok.hd hc) st (by have : n ≤ i := hg; omega) fun h' eb => ⟨rfl, I.turned (t' := s.toks) (fun b o hb e => eb b o hb e) f0 f1 f3 f4 f5⟩
  self := fun _ _ _ _ _ st h => wpAny_pyIter_longiter st h
theorem range_itW {X : Cx} {tg : Expr} {pins : List (Addr × Obj)} {σ : St} {H : Hp} {s : Shared} {R : It → Hp → Prop} {E : Value → Shared → Prop} {lo hi : Int} {t u v : Tok} {tk : Nat} (I : Inv X pins σ H s)
    (q : R (Itr lo (hi - lo).toNat) H) : wpAny (model X.prog X.w) X.A (pyIter (.ref s.heap.objs.size)) (PIE X pins σ tg R) E { s with heap := s.heap.push { cls := .type "range", data := .fields #[.int lo t, .int hi u, .int 1 v] }, toks := tk } := by
  have I1 : Inv X pins σ H { s with heap := s.heap.push { cls := .type "range", data := .fields #[.int lo t, .int hi u, .int 1 v] }, toks := tk } := I.kept fun b o e => Heap.get?_push_of_some _ e
  have e1 : lo + ((0 : Nat) : Int) * 1 = lo := by simp
  have e2 : (((hi - lo).toNat : Nat) : Int) - ((0 : Nat) : Int) = Builtin.Range.rangeSize lo hi 1 := by rw [rangeSize_one]; split <;> omega
  cases hb : Builtin.Range.small lo hi 1 with
  | true =>
    refine wpAny_pyIter_range (IsRange.new ..) hb ?_
    refine ⟨(s.heap.push { cls := .type "range", data := .fields #[.int lo t, .int hi u, .int 1 v] }).objs.size, [(s.heap.push { cls := .type "range", data := .fields #[.int lo t, .int hi u, .int 1 v] }).objs.size], _, _, H, rfl,
      I1.kept (t' := tk) fun b o e => Heap.get?_push_of_some _ e, turn_range _ lo (hi - lo).toNat, ?_, fun b hb => ?_, q⟩
    · show IsRangeIter _ _ (lo + ((0 : Nat) : Int) * 1) ((((hi - lo).toNat : Nat) : Int) - ((0 : Nat) : Int)) 1
      rw [e1, e2]
      exact Heap.get?_push_size _ rfl
    · have e : b = (s.heap.push { cls := .type "range", data := .fields #[.int lo t, .int hi u, .int 1 v] }).objs.size := by simpa using hb
      subst e
      exact I1.fpOk (Nat.le_refl _) (I1.hok.fresh (Nat.le_refl _))
  | false =>
    refine wpAny_pyIter_longrange (IsRange.new ..) hb ?_
    refine ⟨(s.heap.push { cls := .type "range", data := .fields #[.int lo t, .int hi u, .int 1 v] }).objs.size, [(s.heap.push { cls := .type "range", data := .fields #[.int lo t, .int hi u, .int 1 v] }).objs.size], _, _, H, rfl,
      I1.kept (t' := tk) fun b o e => Heap.get?_push_of_some _ e, turn_long _ lo (hi - lo).toNat, ?_, fun b hb => ?_, q⟩
    · show IsLongIter _ _ (lo + ((0 : Nat) : Int) * 1) ((((hi - lo).toNat : Nat) : Int) - ((0 : Nat) : Int)) 1
      rw [e1, e2]
      exact Heap.get?_push_size _ rfl
    · have e : b = (s.heap.push { cls := .type "range", data := .fields #[.int lo t, .int hi u, .int 1 v] }).objs.size := by simpa using hb
      subst e
      exact I1.fpOk (Nat.le_refl _) (I1.hok.fresh (Nat.le_refl _))
def iRng2W (ta : TA) : TI := fun σ H R => ta σ H fun vs H1 => ∃ i j : Int, vs = [.int i, .int j] ∧ R (Itr i (j - i).toNat) H1
theorem pi_range2W {X : Cx} {tg : Expr} {a b : Expr} {ta : TA} {p pos : Pos} (hg : Gl X "range") (hm : X.mg "range" = none) (ha : PA X [a, b] ta) (hs : starEach [a, b] X.env = [(false, eval a X.env), (false, eval b X.env)] := by rfl) (hs2 : starEach [b] X.env = [(false, eval b X.env)] := by rfl) :
    PI X tg (.Call (.Name "range" p) [a, b] [] pos) (iRng2W ta) := by
  refine ⟨fun pins s σ H R I h => ?_⟩
  refine Call_ (ld_blt I hg hm boot_range (PyProof.Rows.callWith_type1 (thn (ha.run pos pins s σ H _ I h) fun us s1 ⟨vs, H1, I1, r1, q1⟩ => ?_) (by rw [hs, hs2]) (by rw [hs2]; rfl)))
  obtain ⟨i, j, e, q⟩ := q1
  subst e
  cases r1 with
  | cons r rr =>
    cases rr with
    | cons r' rr =>
      cases rr
      obtain ⟨t, rfl⟩ := r
      obtain ⟨t', rfl⟩ := r'
      exact call_range_2 (range_itW I1 q)
end L2
/-! ### reports that lie side by side: each begins where the one before ends -/
namespace Ti
/-- B tells where report k begins: it never falls, and N reports further it has risen by G -/
structure Tile (B : Int → Int) (N G : Int) : Prop where
  mono : ∀ k, B k ≤ B (k + 1)
  turn : ∀ k, B (k + N) = B k + G
  n0 : 0 < N
  g0 : 0 < G
theorem Tile.le {B : Int → Int} {N G : Int} (h : Tile B N G) (k : Int) : ∀ n : Nat, B k ≤ B (k + n)
  | 0 => by rw [show k + ((0 : Nat) : Int) = k by omega]; exact Int.le_refl _
  | n + 1 => by
    have := h.mono (k + n)
    have ih := h.le k n
    rw [show k + ((n + 1 : Nat) : Int) = k + n + 1 by omega]
    omega
theorem Tile.le' {B : Int → Int} {N G : Int} (h : Tile B N G) {a b : Int} (ab : a ≤ b) : B a ≤ B b := by
  have := h.le a (b - a).toNat
  rwa [show a + ((b - a).toNat : Int) = b by omega] at this
theorem Tile.turns {B : Int → Int} {N G : Int} (h : Tile B N G) (k : Int) (t : Int) : B (k + t * N) = B k + t * G := by
  have up : ∀ (k : Int) (n : Nat), B (k + n * N) = B k + n * G := by
    intro k n
    induction n with
    | zero => simp
    | succ n ih =>
      have e : k + ((n + 1 : Nat) : Int) * N = k + n * N + N := by rw [Int.natCast_succ, Int.add_mul, Int.one_mul]; omega
      rw [e, h.turn, ih, Int.natCast_succ, Int.add_mul, Int.one_mul]
      omega
  rcases Int.le_total 0 t with z | z
  · obtain ⟨n, rfl⟩ := Int.eq_ofNat_of_zero_le z
    exact up k n
  · obtain ⟨n, e⟩ := Int.eq_ofNat_of_zero_le (show 0 ≤ -t by omega)
    have := up (k + t * N) n
    rw [← e, Int.neg_mul, Int.neg_mul, show k + t * N + -(t * N) = k by omega] at this
    omega
/-- the report that x lies in -/
theorem Tile.at {B : Int → Int} {N G : Int} (h : Tile B N G) (x : Int) : ∃ T, B T ≤ x ∧ x < B (T + 1) := by
  have lo : ∃ a, B a ≤ x := by
    refine ⟨0 + -((B 0 - x).toNat : Int) * N, ?_⟩
    rw [h.turns, Int.neg_mul]
    have : ((B 0 - x).toNat : Int) * 1 ≤ ((B 0 - x).toNat : Int) * G := Int.mul_le_mul_of_nonneg_left (by have := h.g0; omega) (by omega)
    omega
  have hi : ∃ b, x < B b := by
    refine ⟨0 + ((x - B 0).toNat + 1 : Int) * N, ?_⟩
    rw [h.turns]
    have : ((x - B 0).toNat + 1 : Int) * 1 ≤ ((x - B 0).toNat + 1 : Int) * G := Int.mul_le_mul_of_nonneg_left (by have := h.g0; omega) (by omega)
    omega
  obtain ⟨a, ha⟩ := lo
  obtain ⟨b, hb⟩ := hi
  have key : ∀ n : Nat, x < B (a + n) → ∃ T, B T ≤ x ∧ x < B (T + 1) := by
    intro n
    induction n with
    | zero => intro z; rw [show a + ((0 : Nat) : Int) = a by omega] at z; omega
    | succ n ih =>
      intro z
      rcases Int.lt_or_le x (B (a + n)) with c | c
      · exact ih c
      · exact ⟨a + n, c, by rw [show a + (n : Int) + 1 = a + ((n + 1 : Nat) : Int) by omega]; exact z⟩
  have hab : a ≤ b := by
    rcases Int.le_total a b with z | z
    · exact z
    · have := h.le' z; omega
  refine key (b - a).toNat ?_
  rwa [show a + ((b - a).toNat : Int) = b by omega]
theorem Tile.div {B : Int → Int} {N G : Int} (h : Tile B N G) {x T : Int} (h1 : B T ≤ x) (h2 : x < B (T + 1)) (j : Int) : (x - B j) / G = (T - j) / N := by
  have e := Int.mul_ediv_add_emod (T - j) N
  have r0 := Int.emod_nonneg (T - j) (show N ≠ 0 by have := h.n0; omega)
  have r1 := Int.emod_lt_of_pos (T - j) h.n0
  generalize (T - j) / N = t at e ⊢
  generalize (T - j) % N = r at e r0 r1
  have b1 : B (j + t * N) ≤ B T := h.le' (by rw [Int.mul_comm]; omega)
  have b2 : B (T + 1) ≤ B (j + (t + 1) * N) := h.le' (by rw [Int.add_mul, Int.one_mul, Int.mul_comm t N]; omega)
  rw [h.turns] at b1 b2
  rw [Int.add_mul, Int.one_mul] at b2
  exact ((Int.ediv_emod_unique (r := x - B j - G * t) h.g0).mpr ⟨by omega, by rw [Int.mul_comm]; omega, by rw [Int.mul_comm]; omega⟩).1
/-- the sum of the quotients of neighbours -/
def S (N : Nat) (T : Int) (n : Nat) : Int := ((List.range n).map fun j : Nat => (T - (j : Int)) / (N : Int)).sum
theorem S_succ (N : Nat) (T : Int) (n : Nat) : S N T (n + 1) = S N T n + (T - (n : Int)) / (N : Int) := by
  unfold S
  rw [List.range_succ, List.map_append, List.sum_append]
  show _ + (_ + 0) = _
  rw [Int.add_zero]
theorem S_step (N : Nat) (T : Int) : ∀ n, S N (T + 1) n = S N T n + (T + 1) / (N : Int) - (T + 1 - (n : Int)) / (N : Int)
  | 0 => by
    show (0 : Int) = 0 + _ - _
    rw [show T + 1 - ((0 : Nat) : Int) = T + 1 by omega]
    omega
  | n + 1 => by
    rw [S_succ, S_succ, S_step N T n, show T + 1 - ((n + 1 : Nat) : Int) = T - n by omega]
    omega
theorem S_one {N : Nat} (n0 : 0 < N) (T : Int) : S N (T + 1) N = S N T N + 1 := by
  rw [S_step]
  have e0 : T + 1 - (N : Int) = T + 1 + (-1) * (N : Int) := by omega
  have : (T + 1 - (N : Int)) / (N : Int) = (T + 1) / (N : Int) + -1 := by rw [e0, Int.add_mul_ediv_right _ _ (by omega)]
  omega
theorem S_all {N : Nat} (n0 : 0 < N) (T : Int) : S N T N = T - N + 1 := by
  have h0 : ∀ n : Nat, n ≤ N → S N (-1) n = -(n : Int) := by
    intro n
    induction n with
    | zero => intro _; rfl
    | succ n ih =>
      intro h
      rw [S_succ, ih (by omega)]
      have : (-1 - (n : Int)) / (N : Int) = -1 := ((Int.ediv_emod_unique (r := (N : Int) - 1 - n) (by omega)).mpr ⟨by omega, by omega, by omega⟩).1
      rw [this]
      omega
  have h1 : S N (-1) N = -(N : Int) := h0 N (Nat.le_refl _)
  have up : ∀ n : Nat, S N (-1 + (n : Int)) N = -1 + n - N + 1 := by
    intro n
    induction n with
    | zero => rw [show -1 + ((0 : Nat) : Int) = -1 by omega, h1]; omega
    | succ n ih => rw [show -1 + ((n + 1 : Nat) : Int) = -1 + n + 1 by omega, S_one n0, ih]; omega
  have dn : ∀ n : Nat, S N (-1 - (n : Int)) N = -1 - n - N + 1 := by
    intro n
    induction n with
    | zero => rw [show -1 - ((0 : Nat) : Int) = -1 by omega, h1]; omega
    | succ n ih =>
      have := S_one n0 (-1 - ((n + 1 : Nat) : Int))
      rw [show -1 - ((n + 1 : Nat) : Int) + 1 = -1 - n by omega, ih] at this
      omega
  rcases Int.le_total (-1) T with z | z
  · have := up (T + 1).toNat
    rwa [show -1 + ((T + 1).toNat : Int) = T by omega] at this
  · have := dn (-1 - T).toNat
    rwa [show -1 - ((-1 - T).toNat : Int) = T by omega] at this
/-- how many reports touch an event -/
theorem Tile.cnt {B : Int → Int} {N : Nat} {G : Int} (h : Tile B N G) {x l T T' : Int} (l0 : 0 ≤ l) (h1 : B T ≤ x) (h2 : x < B (T + 1)) (h3 : B T' ≤ x + l) (h4 : x + l < B (T' + 1)) : Sw.cnt ((List.range N).map fun j : Nat => (B j, B ((j : Int) + 1))) G x l = T' - T + 1 := by
  have hTT : T ≤ T' := by
    rcases Int.lt_or_le T' T with c | c
    · have := h.le' (show T' + 1 ≤ T by omega); omega
    · exact c
  have key : ∀ n : Nat, Sw.cnt ((List.range n).map fun j : Nat => (B j, B ((j : Int) + 1))) G x l = S N T' n - S N (T - 1) n := by
    intro n
    induction n with
    | zero => rfl
    | succ n ih =>
      rw [List.range_succ, List.map_append, List.map_singleton, Sw.cnt_push, ih, S_succ, S_succ, h.div h3 h4, h.div h1 h2]
      have e : T - ((n : Int) + 1) = T - 1 - n := by omega
      rw [e]
      have : (T - 1 - (n : Int)) / (N : Int) ≤ (T' - n) / (N : Int) := Int.ediv_le_ediv h.n0 (by omega)
      rw [Int.max_def]
      split <;> omega
  have n0 : 0 < N := by have := h.n0; omega
  rw [key, S_all n0, S_all n0]
  omega
end Ti

namespace L2
open PySem PySem.Spec PyProof.Rows
/-! x(e, ..), x a def of the module with a starred parameter -/
def tCallR (sp : Sp) (E : XK) (t : TA) : TE := fun σ H Q => t σ H fun vs H1 => sp vs H1 Q E
theorem pe_callR {X : Cx} {CX : CXT} {k : Nat} {f : Addr} {sp : Sp} {E : XK} {x : Str} {e : Expr} {es : List Expr} {t : TA} {p pos : Pos} (F : FnR X.prog X.w X.K X.mg X.base CX k f sp) (hr : Room k X.A) (hg : Gl X x) (hm : X.mg x = some (.ref f)) (hk : PySem.W.keepIn X.K (.ref f) = true) (hx : Passes CX X E)
    (ha : PA X (e :: es) t) (hdb : (x == ("__debug__" : Str)) = false := by decide) (he : starEach (e :: es) X.env = (false, eval e X.env) :: starEach es X.env := by rfl) (hpl : (backTo pos (starEach es X.env)).any (·.1) = false := by rfl) :
    PE X (.Call (.Name x p) (e :: es) [] pos) (tCallR sp E t) := by
  refine ⟨fun pins s σ H Q I h => ?_⟩
  refine wpAny_Call_Name_kw (ld_glob I hg hm ?_ hdb)
  refine PySem.W.callWith_K (h₀ := X.base) I.ok.mod.kin hk (thn (ha.run pos pins s σ H _ I h) fun us s1 ⟨vs, H1, I1, r, q⟩ => ⟨I1.kIn, ?_⟩) he hpl
  exact wpAny_call (run_fnR F hr hx I1 r q)
end L2
namespace L2
open PySem PySem.Spec PyProof.Rows
section
variable {X : Cx}
/-- xs == [] of a list of any objects -/
def rEqM (K : PySem.W.Frag) : R2 := fun x y H Q => ∃ a b xs, x = .ref a ∧ y = .ref b ∧ SqL K H a xs ∧ SqL K H b [] ∧ Q (.bl (decide (xs = []))) H
theorem op_eqEm (hu : X.A.units < cLine) : OpR X (compareOp .Eq) (rEqM X.K) := by
  intro pins s σ H x y v u Q I rx ry h
  obtain ⟨a, b, xs, rfl, rfl, ha, hb, q⟩ := h
  cases rx
  cases ry
  obtain ⟨its, r, e, z⟩ := I.list ha
  obtain ⟨its2, r2, e2, z2⟩ := I.list hb
  cases r2
  show wpAny (model X.prog X.w) X.A (richCompare .Eq (.ref a) (.ref b)) (EP X pins σ Q) X.xe s
  cases xs with
  | nil =>
    cases r
    exact SeqAt.RcAt.lists (e := fun _ => true) e.isList e2.isList rfl hu (fun j h1 => absurd h1 (Nat.not_lt_zero j)) _ _ _ _ ⟨.bl true, H, I, rfl, q⟩
  | cons x xs =>
    cases r with
    | cons h1 h2 => exact SeqAt.RcAt.lists_lengths e.isList e2.isList rfl hu _ _ _ _ ⟨.bl false, H, I, rfl, q⟩
end
end L2
namespace L2
open PySem PySem.Spec PyProof.Rows
section
variable {X : Cx} {k : Nat}
/-- repr of None, or of a list or tuple of data -/
def rReprO (K : PySem.W.Frag) : List V → Hp → VK → Prop := fun vs H Q => ∃ v : V, vs = [v] ∧ ((v = .non ∧ Q (.str "None") H) ∨ ∃ (a : Addr) (d : PyData), v = .ref a ∧ Dp K H (.ref a) d ∧ Sh 64 sizeLine d ∧ Q (.str d.shown) H)
theorem call_reprO (hgu : X.A.guards = some []) (hr : Room k X.A) : CallR X (.builtin "repr") (rReprO X.K) := by
  intro pins s σ H vs us Q I r h
  obtain ⟨v, rfl, ⟨rfl, q⟩ | ⟨a, d, rfl, h⟩⟩ := h
  · exact call_reprI pins s σ H _ us Q I r ⟨_, rfl, .inr ⟨rfl, q⟩⟩
  · exact call_reprD hgu hr pins s σ H _ us Q I r ⟨a, d, rfl, h⟩
end
end L2

namespace L2
open PySem PySem.Spec PyProof.Rows
/-! ### isinstance of a caught own error, a tuple of classes -/
def rIsXT (K : PySem.W.Frag) (D a : Addr) (cls : Value) (d : Option Addr) : List V → Hp → VK → Prop := fun xs H Q => ∃ (tp : Addr) (cs : List V) (ws : List Value) (b : Bool), xs = [.ref a, .ref tp] ∧ cls = .ref D ∧ (∃ dd fs, d = some dd ∧ H dd = some (.xd fs)) ∧ H tp = some (.tup cs) ∧ Paired ClsV cs ws ∧ PySem.W.kitAny K (.ref D) ws = some b ∧ Q (.bl b) H
theorem call_isXT {X : Cx} {a D : Addr} {oe : Obj} {cls : Value} {d : Option Addr} {pn : List (Addr × Obj)} (C : ExcC X.K D) (hz : Zc cls d oe) (hf : ∃ vs, oe.data = .fields vs) : CallR (X.suite a ((a, oe) :: pn)) (.builtin "isinstance") (rIsXT X.K D a cls d) := by
  intro pins s σ H xs us Q I r h
  obtain ⟨tp, cs, ws, b, rfl, rfl, ⟨dd, fs, rfl, hdd⟩, hT, k, e, q⟩ := h
  obtain ⟨u1, u2, rfl, r1, r2⟩ := vals2 r
  cases (show u2 = Value.ref tp from r2)
  cases (show u1 = Value.ref a from r1)
  obtain ⟨hget, _⟩ := I.pin (a, oe) (List.mem_append.mpr (.inl List.mem_cons_self))
  obtain ⟨vs, hv⟩ := hf
  have hx : ObjOk X.prog X.w H s.heap dd (.xd fs) := I.hok dd _ hdd
  obtain ⟨mA, hns, hr⟩ := hx
  obtain ⟨od, ho, hl⟩ := lookIn_ns hns
  have J : PySem.W.InstAt s.heap a oe D (some od) := ⟨hget, hz.1, by unfold PySem.W.notCls; rw [hv] <;> rfl, by rw [hz.2]; exact ho⟩
  obtain ⟨_, its, rv, o, g1, g2, n, g3⟩ := (show ObjOk X.prog X.w H s.heap tp (.tup cs) from I.hok tp _ hT)
  obtain rfl := ClsV.all k rv
  obtain ⟨oc, ov, dt, sl⟩ := o
  dsimp only at g2 g3
  subst g2 g3
  exact PySem.W.kia_tup (PySem.W.kitx_exc (hasDict_cls C.hd) C.hg C.hk C.hs C.ha C.hn C.ht C.hm) I.kIn J g1 e (fun z => nomatch z) fun tk => ⟨.bl b, H, I.kept (t' := tk) fun _ _ z => z, rfl, q⟩
/-! ### a def that raises nothing and starts no loop, called while an exception is handled -/
structure FnC (P : Program) (w : World) (K : PySem.W.Frag) (mg : Str → Option Value) (base : Heap) (k : Nat) (f : Addr) (fd : FuncData) (ps : List Str) (sp : Sp) : Prop where
  many : ∀ vs H Q E, sp vs H Q E → vs.length = ps.length
  runs : ∀ (A : Around) (outer : List Env) (s : Shared) (H : Hp) (as_ : Args) (us : List Value) (vs : List V) (Q : VK) (E : XK) (pin : Addr × Obj), L2H.RoomH k A → L2H.PinOk outer H s pin → Env0 P w K mg base A outer s H → BindsTo s fd as_ (ps.zip us) → Vals vs us → sp vs H Q E →
    codeAny (model P w) A (.call (.ref f) as_) (CR CX0 outer P w H s Q E) s
section
variable {P : Program} {w : World} {K : PySem.W.Frag} {mg : Str → Option Value} {base : Heap} {k : Nat} {f : Addr} {x qual : Str} {params : Arguments} {body : List Stmt} {scope : Scope} {dvs : List V} {kws : List (Str × V)} {fd : FuncData} {N ps : List Str} {sp : Sp}
theorem FunD.okC (F : FunD K x qual params body scope dvs kws f fd) (S : FnScope N ps scope) (many : ∀ (vs : List V) (H : Hp) (Q : VK) (E : XK), sp vs H Q E → vs.length = ps.length)
    (told : ∀ (cdv : Value) (A : Around) (outer : List Env) (s : Shared) (H : Hp) (vs : List V) (Q : VK) (E : XK) (pin : Addr × Obj), L2H.RoomH k (A.deeper (envOfC qual scope s.heap.objs.size f cdv)) → sp vs H Q E →
      ∃ t, PSs (L2H.cxH CX0 P w K mg base N qual scope f cdv A outer s H E pin) body t ∧ t { nx := fun _ H' => Q .non H', rt := Q } (L2.start N vs) H) : FnC P w K mg base (k + 1) f fd ps sp := by
  obtain ⟨oc, od, dV, kV, doc, pm, an, cdv, ct, osl, rfl, lk, hcd, _, _⟩ := F.ex
  refine ⟨many, fun A outer s H as_ us vs Q E pin room pok e0 bt rel hsp => ?_⟩
  have inK : K.In s.heap := e0.mod.kin.keeps fun c o z => (e0.bs c o z).1
  have noL : s.heap.NoLimit := e0.mod.nolimit.keeps fun c o z => (e0.bs c o z).1
  have kinds : ∀ y ∈ ps.zip us, scope.names.lookup y.1 = some .local ∨ (scope.names.lookup y.1 = some .cell ∧ ((cellsFrom (s.heap.objs.size + 1) scope.names []).lookup y.1).isSome = true) := fun y hy => by
    have par := S.par y.1 (List.of_mem_zip (show (y.1, y.2) ∈ ps.zip us from hy)).1
    exact par.imp id fun z => ⟨z, PySem.W.cellsFrom_some _ _ _ (.inl z)⟩
  refine codeAny_call_function room.depth (inK _ _ lk) rfl S.co S.gen rfl (PySem.W.codeRec_of inK hcd) (bt _ _ _ _ ?_)
  refine wpAny_newFunctionEnv_cells S.kind kinds fun env he s1 hcall => ?_
  subst he
  refine ⟨noL.keeps hcall.toInCall.keep, codeAny_func ?_⟩
  obtain ⟨t, ht, holds⟩ := told cdv A outer s H vs Q E pin (room.deeper _) hsp
  have J0 : Inv (L2H.cxH CX0 P w K mg base N qual scope f cdv A outer s H E pin) [] (L2.start N vs) H s1 := L2H.inv_startH S pok e0 (many _ _ _ _ hsp) rel hcall
  refine wpAny_mono (ht.run [] s1 (L2.start N vs) H _ J0 holds) (fun fl s2 got => ?_) fun _ _ z => z
  cases fl with
  | ret u =>
    obtain ⟨v, σ2, H2, J, rv, q⟩ := got
    exact ⟨v, H2, J.os, J.bare, J.base, J.hok, rv, q⟩
  | next =>
    obtain ⟨σ2, H2, J, q⟩ := got
    exact ⟨V.non, H2, J.os, J.bare, J.base, J.hok, (show RelV V.non Value.none from rfl), q⟩
  | brk =>
    obtain ⟨_, _, _, z⟩ := got
    cases z
  | cont =>
    obtain ⟨_, _, _, z⟩ := got
    cases z
end
theorem RoomH.in1 {k : Nat} {A : Around} (r : L2H.RoomH (k + 1) A) : L2H.RoomH k A.in1 :=
  ⟨(by have z := r.dp; show A.depth + 3 * k + 5 < _; omega), (by have z := r.un; show A.units + 1 + 16 * k + 200 < _; omega)⟩
theorem roomH_mark {k : Nat} {A : Around} {v : Option Value} (r : Room k A) : L2H.RoomH k (A.mark v) := ⟨r.dp, r.un⟩
section
variable {X : Cx} {k : Nat} {C p g a dx : Addr} {fs : List (Str × V)} {f : Str} {fd : FuncData} {ps : List Str} {sp : Sp} {e : Expr} {pos : Pos} {ta : TE} {ds : List Value} {dvs : List V}
/-- a property is read while an exception is handled -/
theorem pe_propC {a0 : Addr} {oe : Obj} {pn : List (Addr × Obj)} (he : PE (X.suite a0 ((a0, oe) :: pn)) e ta) (c : Cls X.K C) (hp : PropOf X.K C f p g) (F : FnC X.prog X.w X.K X.mg X.base k g fd ps sp) (hr : Room (k + 1) X.A) (hb : Binds X.K fd ps ds) (hd : Vals dvs ds)
    (hab : attributeBase e f X.env (eval e X.env) = eval e X.env) : PE (X.suite a0 ((a0, oe) :: pn)) (.Attribute e f pos) (tProp C sp dvs (fun _ _ _ => False) ta) := by
  refine ⟨fun pins s σ H Q I h => ?_⟩
  refine attr_of hab (thn (he.run pins s σ H _ I h) fun u s1 ⟨x, H1, I1, rx, a, dx, fs, ex, ea, q⟩ => ?_)
  subst ex
  obtain rfl : u = Value.ref a := rx
  obtain ⟨mA, O, _, _, _, _⟩ := ins_get I1.hok ea
  obtain ⟨od, J, _⟩ := O.look
  obtain ⟨rest, hrec⟩ := hp.rec_
  have J1 := I1.tok (s1.toks + 1)
  have hl : ([Value.ref a] ++ ds).length = ps.length := by
    rw [← F.many _ _ _ _ q]
    show ds.length + 1 = dvs.length + 1
    rw [hd.length]
  have hcl : (PySem.W.clsIn X.K C).isSome = true := hasDict_cls c.hd
  have rH : L2H.RoomH (k + 1) (X.suite a0 ((a0, oe) :: pn)).A := roomH_mark hr
  have P1 := J1.pin (a0, oe) (List.mem_append_left _ List.mem_cons_self)
  have hpin : L2H.PinOk (X.suite a0 ((a0, oe) :: pn)).stack H1 { s1 with toks := s1.toks + 1 } (a0, oe) := ⟨P1.1, P1.2.1, fun hm => (List.mem_cons.mp (J1.stkSub a0 hm)).elim P1.2.2.1 P1.2.2.2.1, P1.2.2.2.2⟩
  refine PySem.W.get_bind I1.kIn J (PySem.W.plainGet_of (c.get f)).1 (PySem.W.findObj_data hcl hp.at_ hp.get hp.tak) (PySem.W.plainGet_of (c.get f)).2 (wpAny_call (PySem.W.prop_get (s := { s1 with toks := s1.toks + 1 }) I1.kIn hrec ?_))
  refine codeAny_mono (F.runs _ _ _ H1 ⟨[.ref a], []⟩ (.ref a :: ds) (.ref a :: dvs) Q _ (a0, oe) (RoomH.in1 rH) hpin J1.env0.in1 (hb _ [.ref a] J1.kIn hl) (.cons rfl hd) q) fun r s' got => ?_
  cases r with
  | error er => exact False.elim got
  | ok fl =>
    cases fl with
    | ret u =>
      obtain ⟨v, H', I3, rv, q3⟩ := J1.after got
      show wpAny _ _ (handedOut u) _ _ _
      rw [PySem.W.handedOut_of (handed_of rv)]
      exact wpAny_pure ⟨v, H', I3, rv, q3⟩
    | next => exact False.elim got
    | brk => exact False.elim got
    | cont => exact False.elim got
end
/-! ### x is True, x is not False: x a truth, None or an object -/
def rNotBX : R2 := fun x y H Q => ∃ b : Bool, y = .bl b ∧ (x = .non ∨ (∃ a, x = .bl a) ∨ ∃ r, x = .ref r) ∧ Q (.bl (!decide (x = .bl b))) H
def rIsBX : R2 := fun x y H Q => ∃ b : Bool, y = .bl b ∧ (x = .non ∨ (∃ a, x = .bl a) ∨ ∃ r, x = .ref r) ∧ Q (.bl (decide (x = .bl b))) H
section
variable {X : Cx}
theorem op_notBlX : OpR X (compareOp .IsNot) rNotBX := by
  intro pins s σ H x y v u Q I rx ry h
  obtain ⟨b, rfl, hx, q⟩ := h
  cases (show u = Value.bool b from ry)
  rcases hx with rfl | ⟨a, rfl⟩ | ⟨r, rfl⟩
  · cases (show v = Value.none from rx)
    exact wpAny_isNot_other rfl (fun z => by cases z) ⟨.bl true, H, I, rfl, by simpa using q⟩
  · cases (show v = Value.bool a from rx)
    by_cases e : a = b
    · subst e
      exact wpAny_isNot_self rfl ⟨.bl false, H, I, rfl, by simpa using q⟩
    · exact wpAny_isNot_other rfl (fun z => e (Value.bool.inj z)) ⟨.bl true, H, I, rfl, by simpa [e] using q⟩
  · cases (show v = Value.ref r from rx)
    exact wpAny_isNot_other rfl (fun z => by cases z) ⟨.bl true, H, I, rfl, by simpa using q⟩
theorem op_isBlX : OpR X (compareOp .Is) rIsBX := by
  intro pins s σ H x y v u Q I rx ry h
  obtain ⟨b, rfl, hx, q⟩ := h
  cases (show u = Value.bool b from ry)
  rcases hx with rfl | ⟨a, rfl⟩ | ⟨r, rfl⟩
  · cases (show v = Value.none from rx)
    exact wpAny_is_other rfl (fun z => by cases z) ⟨.bl false, H, I, rfl, by simpa using q⟩
  · cases (show v = Value.bool a from rx)
    by_cases e : a = b
    · subst e
      exact wpAny_is_self rfl ⟨.bl true, H, I, rfl, by simpa using q⟩
    · exact wpAny_is_other rfl (fun z => e (Value.bool.inj z)) ⟨.bl false, H, I, rfl, by simpa [e] using q⟩
  · cases (show v = Value.ref r from rx)
    exact wpAny_is_other rfl (fun z => by cases z) ⟨.bl false, H, I, rfl, by simpa using q⟩
end
end L2

/-! ### an own error made as a plain expression; its fields read -/
namespace L2
open PySem PySem.Spec PyProof.Rows
section
variable {X : Cx} {o e : Expr} {es : List Expr} {to te : TE} {ta : TA} {f : Str} {p p' p1 p2 pos : Pos} {B newId initId : String} {bmB : List Value}
def tMkX (C : Addr) (sp : Sp) (dvs : List V) (ta : TA) : TE := fun σ H Q => ta σ H fun vs H1 => vs.length ≤ 1000 ∧ ∀ a, H1 a = none → sp (.ref a :: (vs ++ dvs)) (upd H1 a (exo a C none)) (fun v H2 => v = .non ∧ Q (.ref a) H2) (fun _ _ _ => False)
/-- C(e, ..), an own error over B, as a plain expression -/
theorem pe_mkX {CX : CXT} {x : Str} {C fI : Addr} {k : Nat} {fd : FuncData} {ps : List Str} {sp : Sp} {ds : List Value} {dvs : List V} (T : ErrC X.K C B newId initId bmB) (iC : PySem.W.findIn X.K (.ref C) "__init__" = some (some (.ref fI)))
    (tI : PySem.W.typeIn X.K (.ref fI) = some (.type "function")) (F1 : FnOk X.prog X.w X.K X.mg X.base CX k fI fd ps sp) (hr : Room (k + 1) X.A) (hb : Binds X.K fd ps ds) (hd : Vals dvs ds) (hx : Passes CX X (fun _ _ _ => False))
    (hg : Gl X x) (hm : X.mg x = some (.ref C)) (ha : PA X (e :: es) ta) (hdb : (x == ("__debug__" : Str)) = false := by decide) (he : starEach (e :: es) X.env = (false, eval e X.env) :: starEach es X.env := by rfl)
    (hpl : (backTo pos (starEach es X.env)).any (·.1) = false := by rfl) : PE X (.Call (.Name x p) (e :: es) [] pos) (tMkX C sp dvs ta) := by
  refine ⟨fun pins s σ H Q I h => ?_⟩
  obtain ⟨nm, q, N, bs, bm, sn, sub, ab, col, dd, k0, k1, k2, k3, k5, hC, hbm⟩ := T.cls
  refine wpAny_Call_Name_kw (ld_glob I hg hm ?_ hdb)
  refine PySem.W.callWith_K (h₀ := X.base) I.ok.mod.kin T.kC (thn (ha.run pos pins s σ H _ I h) fun us s1 ⟨vs, H1, I1, r1, hz, q1⟩ => ⟨I1.kIn, ?_⟩) he hpl
  show wpAny _ _ (call (.ref C) us) _ _ _
  obtain ⟨hp, gs, dr, tk, os⟩ := s1
  obtain ⟨nw, hnw⟩ : ∃ nw, hp.objs.size + 1 = nw := ⟨_, rfl⟩
  have far : hp.objs.size ≤ hp.objs.size + 1 := Nat.le_succ _
  have free : H1 (hp.objs.size + 1) = none := I1.hok.fresh far
  have want := q1 (hp.objs.size + 1) free
  have stay : ∀ b o, hp.get? b = some o → ((hp.push (PySem.W.kdv_tup us)).push (PySem.HandSPX.excO C hp.objs.size)).get? b = some o := fun b o z => Heap.get?_push_of_some _ (Heap.get?_push_of_some _ z)
  have there : ((hp.push (PySem.W.kdv_tup us)).push (PySem.HandSPX.excO C hp.objs.size)).get? (hp.objs.size + 1) = some (PySem.HandSPX.excO C hp.objs.size) := by heap_get
  have I2 : Inv X pins σ (upd H1 (hp.objs.size + 1) (exo (hp.objs.size + 1) C none)) ⟨(hp.push (PySem.W.kdv_tup us)).push (PySem.HandSPX.excO C hp.objs.size), gs, dr, tk, os⟩ :=
    I1.laid (t' := tk) (a := hp.objs.size + 1) (o := exo (hp.objs.size + 1) C none) (h' := (hp.push (PySem.W.kdv_tup us)).push (PySem.HandSPX.excO C hp.objs.size)) stay far (exo_ok there)
  have vals : Vals (V.ref (hp.objs.size + 1) :: (vs ++ dvs)) (Value.ref (hp.objs.size + 1) :: (us ++ ds)) := .cons rfl (r1.append hd)
  have many : (Value.ref (hp.objs.size + 1) :: us ++ ds).length = ps.length := by
    have z := vals.length
    rw [F1.len _ _ _ _ want] at z
    exact z.symm
  have short : us.length ≤ sizeLine := by
    rw [← Paired.length r1, sizeLine_eq]
    omega
  have runs := F1.run _ X.stack _ _ ⟨Value.ref (hp.objs.size + 1) :: us, []⟩ (Value.ref (hp.objs.size + 1) :: (us ++ ds)) _ _ (fun _ _ _ => False) (hr.make C us []) (I2.env0.make C us []) (hb _ (Value.ref (hp.objs.size + 1) :: us) I2.kIn many) vals want
  refine wpAny_call (PySem.HandSPX.call_own T.base (fun Y => PySem.W.excTail_contains Y bm hbm) (I1.kIn _ _ hC) (PySem.W.looks_findIn I1.kIn iC) (fun self => PySem.W.bind_fn I1.kIn self tI) short (codeAny_mono runs fun r s' got => ?_))
  · cases r with
    | error er => exact hx pins σ _ _ er s' I2 got
    | ok fl =>
      cases fl with
      | ret v =>
        obtain ⟨w, H', I3, rv, ev, q3⟩ := I2.after got
        subst ev
        exact ⟨rv, ⟨V.ref (hp.objs.size + 1), H', I3, rfl, q3⟩⟩
      | next => exact False.elim got
      | brk => exact False.elim got
      | cont => exact False.elim got
/-- err.f, err an own error in the heap -/
def tXo (C : Addr) (f : Str) (te : TE) : TE := fun σ H Q => te σ H fun x H1 => ∃ (a d : Addr) (fs : List (Str × V)) (v : V), x = .ref a ∧ H1 a = some (exo a C (some d)) ∧ H1 d = some (exd d fs) ∧ fs.lookup f = some v ∧ Q v H1
theorem pe_xo {C : Addr} {n : Str} (T : XfC X.K C) (hno : PySem.W.findIn X.K (.ref C) n = some none) (he : PE X e te) (hb : attributeBase e n X.env (eval e X.env) = eval e X.env := by rfl) : PE X (.Attribute e n pos) (tXo C n te) := by
  refine ⟨fun pins s σ H Q I h => ?_⟩
  refine attr_of hb (thn (he.run pins s σ H _ I h) fun u s1 hh => ?_)
  obtain ⟨x, H1, I1, rx, a, d, fs, v, ex, ea, ed, l, q⟩ := hh
  subst ex
  obtain rfl : u = Value.ref a := rx
  obtain ⟨t0, hoe⟩ := exo_at I1.hok ea
  obtain ⟨mA, hns, hr⟩ := exd_at I1.hok ed
  obtain ⟨od, ho, hl⟩ := lookIn_ns hns
  obtain ⟨u, hu, ru⟩ := RelO.some_of (v := v) (o := mA n) (by rw [← l]; exact hr n)
  have J : PySem.W.InstAt s1.heap a _ C (some od) := ⟨hoe, rfl, rfl, ho⟩
  exact HandSPX.exc_get I1.kIn J T.ga T.gg T.exC (PySem.W.findObj_own T.hdC hno rfl (by rw [hl, hu])) (handed_of ru) ⟨v, H1, I1.tok _, ru, q⟩
end
end L2

/-! ### an own error made with keywords -/
namespace PySem
namespace HandSPX
open Builtin Builtin.ObjectAttr
section
variable {prog : Program} {w : World} {A : Around} {E : Value → Shared → Prop} {R : Result → Shared → Prop} {h : Heap} {g : Array GenState} {d : Drawn} {t : Nat} {os : OsState}
variable {nm q : Str} {C N : Addr} {bs bm bmB : List Value} {hdct : Bool} {sn : List Str} {sub : List Value} {ab : Bool} {col : Option Bool} {dd : Option Addr} {k0 k1 k2 k3 k5 : Option Value} {B newId initId : String} {kw : List (Str × Value)}
theorem kw_check_new {M : Model} (F : ExcBaseFacts B newId initId bmB) (hT : ∀ X : String, bm.contains (.type X) = bmB.contains (.type X)) {rest : List Value} {Q : Unit → Shared → Prop}
    (hC : h.get? C = some (excClassObj nm q C N bs bm hdct sn sub ab col dd k0 k1 k2 k3 k5 newId)) (hq : Q () ⟨h, g, d, t, os⟩) : wpAny M A (checkBuiltinCall newId ⟨.ref C :: rest, kw⟩) Q E ⟨h, g, d, t, os⟩ := by
  have hcont : (Value.ref C :: bm).contains (.type B) = true := by rw [List.contains_cons, hT, F.hasB, Bool.or_true]
  have hstar := F.noStar
  simp only [checkBuiltinCall, F.newKind, F.newSplit, F.newRow]
  repeat (first | refine wpAny_loadPart_at hC ?_ | (refine wpAny_isSubtype_exc hC ?_; rw [hcont]) | refine wpAny_staticBase_exc hC ?_ | refine wpAny_madeBy_exc hC ?_ | simp only [bne_self_eq_false, Bool.false_eq_true, if_false] | wp_step)
  exact hq
theorem kw_new (F : ExcBaseFacts B newId initId bmB) (hT : ∀ X : String, bm.contains (.type X) = bmB.contains (.type X)) {rest : List Value}
    (hC : h.get? C = some (excClassObj nm q C N bs bm hdct sn sub ab col dd k0 k1 k2 k3 k5 newId))
    (hq : R (.ok (.ret (.ref (h.objs.size + 1)))) ⟨(h.push { cls := .type "tuple", data := .seq rest.toArray }).push
      { cls := .ref C, data := .fields #[.ref h.objs.size, .none, .none, .none, .bool false, .none] }, g, d, t, os⟩) (hrest : rest.length ≤ sizeLine) :
    codeAny (model prog w) A (.builtin newId ⟨.ref C :: rest, kw⟩) R ⟨h, g, d, t, os⟩ := by
  have hends := F.ends
  have hcB : (Value.ref C :: bm).contains (.type B) = true := by rw [List.contains_cons, hT, F.hasB, Bool.or_true]
  have hcA : (Value.ref C :: bm).contains (.type "AttributeError") = false := by rw [List.contains_cons, hT, F.noAttr]; rfl
  have hcN : (Value.ref C :: bm).contains (.type "NameError") = false := by rw [List.contains_cons, hT, F.noName]; rfl
  refine codeAny_builtinAt F.entry ?_
  unfold Builtin.«BaseException.__new__»
  refine wpAt_bind ?_
  show wpAt _ _ _ (stack >>= _) _ _ _
  refine wpAt_bind (wpAt_stack fun p below => wpAt_of_wpAny ?_)
  wp_walk
  refine wpAt_of_wpAny ?_
  rw [F.owner]
  repeat (first | with_reducible refine wpAny_madeHere_exc F.canon hC ?_ | with_reducible refine wpAny_loadPart_at hC ?_ | (with_reducible refine wpAny_isSubtype_exc hC ?_; first | rw [hcB] | rw [hcA] | rw [hcN]) | wp_step)
  show R _ _
  rw [Heap.size_push]
  exact hq
theorem kw_type_call (F : ExcBaseFacts B newId initId bmB) (hT : ∀ X : String, bm.contains (.type X) = bmB.contains (.type X)) {rest : List Value} {fI : Addr} {Q : Fin → Shared → Prop}
    (hC : h.get? C = some (excClassObj nm q C N bs bm hdct sn sub ab col dd k0 k1 k2 k3 k5 newId))
    (hi : W.Looks (model prog w) h (typeLookup (.ref C) "__init__") (some (.ref fI))) (hb : ∀ self, W.Looks (model prog w) h (bindSpecial (.ref fI) self) (.ref fI, [self])) (hrest : rest.length ≤ sizeLine)
    (hq : codeAny (model prog w) A (.call (.ref fI) ⟨.ref (h.objs.size + 1) :: rest, kw⟩)
      (fun r s' => match r with | .ok (.ret v) => v = .none ∧ Q (.done (.ret (.ref (h.objs.size + 1)))) s' | .ok _ => False | .error e => E e s')
      ⟨(h.push (W.kdv_tup rest)).push (excO C h.objs.size), g, d, t, os⟩) :
    wpAny (model prog w) A (Builtin.«type.__call__» ⟨.ref C :: rest, kw⟩) Q E ⟨h, g, d, t, os⟩ := by
  repeat (first | with_reducible refine wpAny_loadPart_at hC ?_ | with_reducible refine wpAny_madeBy_exc hC ?_ | wp_step)
  refine codeAny_call_builtin_code (Code.quiet_builtin _ F.quiet) (kw_check_new F hT hC ?_)
  refine kw_new F hT hC ?_ hrest
  show wpAny _ _ _ _ _ _
  have k : ∀ b o, h.get? b = some o → ((h.push (W.kdv_tup rest)).push (excO C h.objs.size)).get? b = some o := fun b o e => Heap.get?_push_of_some _ (Heap.get?_push_of_some _ e)
  have hC₁ := k _ _ hC
  have hget : ((h.push (W.kdv_tup rest)).push (excO C h.objs.size)).get? (h.objs.size + 1) = some (excO C h.objs.size) := by heap_get
  have hcC : (Value.ref C :: bm).contains (.ref C) = true := by simp
  have i1 := hi.keeps k
  have b1 := (hb (.ref (h.objs.size + 1))).keeps k
  unfold isInstance
  repeat (first | with_reducible refine wpAny_loadPart_at hget ?_ | (with_reducible refine wpAny_isSubtype_exc hC₁ ?_; rw [hcC]) | wp_step)
  show wpAny _ _ (typeLookup (.ref C) _) _ _ _
  refine i1.at ?_
  refine wpAny_holding (wpAny_bind (b1.at ?_))
  refine wpAny_bind (wpAny_call (codeAny_mono hq fun r s' z => ?_))
  rcases r with e | (v | _ | _ | _) <;> first | exact z | exact z.elim | skip
  obtain ⟨rfl, z⟩ := z
  first
    | exact wpAny_pure (wpAny_pure z)
    | (wp_walk; exact z)
theorem kw_call (F : ExcBaseFacts B newId initId bmB) (hT : ∀ X : String, bm.contains (.type X) = bmB.contains (.type X)) {rest : List Value} {fI : Addr}
    (hC : h.get? C = some (excClassObj nm q C N bs bm hdct sn sub ab col dd k0 k1 k2 k3 k5 newId))
    (hi : W.Looks (model prog w) h (typeLookup (.ref C) "__init__") (some (.ref fI))) (hb : ∀ self, W.Looks (model prog w) h (bindSpecial (.ref fI) self) (.ref fI, [self])) (hrest : rest.length ≤ sizeLine)
    (hq : codeAny (model prog w) (A.under (.builtin "type.__call__" ⟨.ref C :: rest, kw⟩)) (.call (.ref fI) ⟨.ref (h.objs.size + 1) :: rest, kw⟩) (W.InitBack (h.objs.size + 1) R)
      ⟨(h.push (W.kdv_tup rest)).push (excO C h.objs.size), g, d, t, os⟩) :
    codeAny (model prog w) A (.call (.ref C) ⟨rest, kw⟩) R ⟨h, g, d, t, os⟩ := by
  have f1 := tc_lookup
  have f2 := tc_bind (.ref C)
  have hTy : (⟨h, g, d, t, os⟩ : Shared).TypeIs (.ref C) "type" := ⟨_, hC, rfl⟩
  refine codeAny_of_tree ?_
  show wpAny _ _ (callAny (.ref C) _) _ _ _
  repeat (any_goals (first | assumption | with_reducible refine wpAny_loadPart_at hC ?_ | wp_step))
  refine ⟨rfl, ?_⟩
  refine codeAny_call_builtin_at (Code.quiet_builtin _ (by decide +kernel)) entry_typeCall (wpAny_check_type_call_sub hC (kw_type_call F hT hC hi hb hrest ?_))
  refine codeAny_mono hq fun r s' z => ?_
  rcases r with e | (v | _ | _ | _) <;> exact z
end
end HandSPX
end PySem
namespace L2
open PySem PySem.Spec PyProof.Rows
section
variable {X : Cx} {CX : CXT} {k : Nat} {fI C : Addr} {fd : FuncData} {ps ks : List Str} {sp : Sp} {x : Str} {p pos : Pos} {kws : List Keyword} {tk : TA} {g : List Value → List Value → List Value} {gV : List V → List V → List V} {B newId initId : String} {bmB : List Value}
/-- C(k = v, ..), an own error, as a plain expression -/
def tMkXK (C : Addr) (m : Nat) (sp : Sp) (gV : List V → List V → List V) (tk : TA) : TE := fun σ H Q => tk σ H fun zs H1 => zs.length = m ∧ ∀ a, H1 a = none → sp (gV [.ref a] zs) (upd H1 a (exo a C none)) (fun v H2 => v = .non ∧ Q (.ref a) H2) (fun _ _ _ => False)
theorem pe_mkXK (T : ErrC X.K C B newId initId bmB) (iC : PySem.W.findIn X.K (.ref C) "__init__" = some (some (.ref fI)))
    (tI : PySem.W.typeIn X.K (.ref fI) = some (.type "function")) (F1 : FnOk X.prog X.w X.K X.mg X.base CX k fI fd ps sp) (hr : Room (k + 1) X.A) (hb : KBn X.K fd ps 1 ks g gV) (hx : Passes CX X (fun _ _ _ => False))
    (hg : Gl X x) (hm : X.mg x = some (.ref C)) (hkw : PK X kws tk)
    (hall : (backToKw pos (keywordEach kws X.env)).all (·.1.isSome) = true := by rfl) (hks : (backToKw pos (keywordEach kws X.env)).filterMap (·.1) = ks := by rfl) (hdb : (x == ("__debug__" : Str)) = false := by decide)
    (hpl : ((backTo pos (starEach [] X.env)).any (·.1) || (backToKw pos (keywordEach kws X.env)).any (·.1.isNone)) = false := by rfl) :
    PE X (.Call (.Name x p) [] kws pos) (tMkXK C ks.length sp gV tk) := by
  refine ⟨fun pins s σ H Q I h => ?_⟩
  obtain ⟨nm, q, N, bs, bm, sn, sub, ab, col, dd, k0, k1, k2, k3, k5, hC, hbm⟩ := T.cls
  refine wpAny_Call_Name_kw (ld_glob I hg hm ?_ hdb)
  refine PySem.W.callWith_KW0 (h₀ := X.base) I.ok.mod.kin T.kC hall ?_ hpl
  refine thn (hkw.run pos pins s σ H _ I h) fun ws s1 ⟨zs, H1, I1, rz, hz, q1⟩ => ⟨I1.kIn, ?_⟩
  rw [hks]
  show wpAny _ _ (call (.ref C) [] (ks.zip ws)) _ _ _
  obtain ⟨hp, gs, dr, tk, os⟩ := s1
  have far : hp.objs.size ≤ hp.objs.size + 1 := Nat.le_succ _
  have free : H1 (hp.objs.size + 1) = none := I1.hok.fresh far
  have want := q1 (hp.objs.size + 1) free
  have stay : ∀ b o, hp.get? b = some o → ((hp.push (PySem.W.kdv_tup [])).push (PySem.HandSPX.excO C hp.objs.size)).get? b = some o := fun b o z => Heap.get?_push_of_some _ (Heap.get?_push_of_some _ z)
  have there : ((hp.push (PySem.W.kdv_tup [])).push (PySem.HandSPX.excO C hp.objs.size)).get? (hp.objs.size + 1) = some (PySem.HandSPX.excO C hp.objs.size) := by heap_get
  have I2 : Inv X pins σ (upd H1 (hp.objs.size + 1) (exo (hp.objs.size + 1) C none)) ⟨(hp.push (PySem.W.kdv_tup [])).push (PySem.HandSPX.excO C hp.objs.size), gs, dr, tk, os⟩ :=
    I1.laid (t' := tk) (a := hp.objs.size + 1) (o := exo (hp.objs.size + 1) C none) (h' := (hp.push (PySem.W.kdv_tup [])).push (PySem.HandSPX.excO C hp.objs.size)) stay far (exo_ok there)
  have r1 : Vals [V.ref (hp.objs.size + 1)] [Value.ref (hp.objs.size + 1)] := .cons rfl .nil
  have r2 := hb.rel r1 rz
  have runs := F1.run _ X.stack _ _ ⟨[Value.ref (hp.objs.size + 1)], ks.zip ws⟩ (g [Value.ref (hp.objs.size + 1)] ws) _ _ (fun _ _ _ => False) (hr.make C [] (ks.zip ws)) (I2.env0.make C [] (ks.zip ws)) (hb.to _ [Value.ref (hp.objs.size + 1)] ws I2.kIn rfl (rz.length.symm.trans hz)) r2 want
  refine wpAny_call (PySem.HandSPX.kw_call T.base (fun Y => PySem.W.excTail_contains Y bm hbm) (I1.kIn _ _ hC) (PySem.W.looks_findIn I1.kIn iC) (fun self => PySem.W.bind_fn I1.kIn self tI) (Nat.zero_le _) (codeAny_mono runs fun r s' got => ?_))
  cases r with
  | error er => exact hx pins σ _ _ er s' I2 got
  | ok fl =>
    cases fl with
    | ret v =>
      obtain ⟨w, H', I3, rv, ev, q3⟩ := I2.after got
      subst ev
      exact ⟨rv, ⟨V.ref (hp.objs.size + 1), H', I3, rfl, q3⟩⟩
    | next => exact False.elim got
    | brk => exact False.elim got
    | cont => exact False.elim got
end
end L2

/-! ### own == a tuple, where the own side declines -/
namespace PySem.W
open PySem PySem.Calls PyProof.Rows
theorem tuple_eq_declines_own {K : Frag} {x C : Addr} {ox : Obj} {od : Option Obj} (la : Addr) :
    Meets (Builtin.«tuple.__eq__» ⟨[.ref la, .ref x], []⟩) (fun _ R s => (K.In s.heap ∧ InstAt s.heap x ox C od ∧ subIn K (.ref C) (.type "tuple") = some false) ∧ R (.ok (.ret .notImplemented)) s) :=
  .of_wp fun prog w A R s h => by
    obtain ⟨hp, g, d, tk, os⟩ := s
    obtain ⟨⟨X, I, hs⟩, q⟩ := h
    have f1 : Looks (model prog w) hp (isInstance (.ref x) (.type "tuple")) false := I.type.andThen (looks_subIn X hs)
    wp_walk using f1.at, f1.here
    exact ⟨_, rfl, q⟩
end PySem.W
namespace L2
open PySem PySem.Spec PyProof.Rows
section
variable {X : Cx} {k : Nat} {f C : Addr} {fd : FuncData} {ps : List Str} {pre : List V → Hp → Prop}
def rDeclT (K : PySem.W.Frag) (C : Addr) (pre : List V → Hp → Prop) (t : Bool) : R2 := fun x y H Q => ∃ a dx fs l ys, x = .ref a ∧ H a = some (.ins C dx fs) ∧ y = .ref l ∧ SqT K H l ys ∧ pre [x, y] H ∧ Q (.bl t) H
theorem sub_tupO {K : PySem.W.Frag} {C : Addr} : PySem.W.notFirst K C (.type "tuple") = true := by
  have e : fastBuiltinMro "tuple" = some [.type "tuple", .type "object"] := by decide +kernel
  have h : PySem.W.subIn K (.type "tuple") (.ref C) = some false := by
    show (fastBuiltinMro "tuple").map (·.contains (.ref C)) = some false
    rw [e]
    first
      | rfl
      | simp
  show ((Value.ref C == Value.type "tuple") || (PySem.W.subIn K (.type "tuple") (.ref C) == some false)) = true
  rw [h]
  simp
theorem op_eqDeclT (hm : Meth X.K C "__eq__" f) (hs : PySem.W.subIn X.K (.ref C) (.type "tuple") = some false) (F : FnNI X.prog X.w X.K X.mg X.base k f fd ps pre) (hr : Room k X.A) (hb : Binds X.K fd ps []) : OpR X (compareOp .Eq) (rDeclT X.K C pre false) := by
  intro pins s σ H x y u v Q I rx ry h
  obtain ⟨a, dx, fs, l, ys, ex, ha, ey, hl, h1, q⟩ := h
  subst ex
  subst ey
  cases (show u = Value.ref a from rx)
  cases (show v = Value.ref l from ry)
  obtain ⟨oa, Ia⟩ := inst_of I ha
  obtain ⟨its, rv, ⟨ol, hol, hcl, n, _⟩, hz⟩ := I.tuple hl
  have hbt : PySem.W.Looks (model X.prog X.w) s.heap (typeOf (.ref l)) (.type "tuple") := fun A Q E s k q => wpAny_typeOf_ref (k _ _ hol) (by rw [hcl]; exact q)
  show wpAny _ _ (richCompare .Eq _ _) _ _ _
  refine PySem.W.cmp_decl (P1 := fun s1 => Inv X pins σ H s1) (P2 := fun s1 => Inv X pins σ H s1) (tb := .type "tuple") (.inl ⟨rfl, rfl⟩) hr.units0 I.kIn Ia hbt sub_tupO (PySem.W.try_ni I.kIn Ia hm.1 hm.2 (run_ni (vs := [V.ref a, V.ref l]) F hr I.env0 hb I (.cons rfl (.cons rfl .nil)) h1)) (fun s1 I1 => ?_) (fun s2 I2 => ?_)
  · obtain ⟨oa, Ia⟩ := inst_of I1 ha
    obtain ⟨its, rv, ⟨ol, hol, hcl, n, _⟩, hz⟩ := I1.tuple hl
    have ht : s1.TypeIs (.ref l) "tuple" := ⟨ol, hol, hcl⟩
    exact wpAny_tryCompare_declines ht PySem.F.slot_tuple_eq_refl (PySem.call_meets PySem.F.slot_tuple_eq_refl ht PySem.F.entry_tuple_eq (PySem.F.args_tuple_eq_2 _ _) (PySem.W.tuple_eq_declines_own l) ⟨⟨I1.kIn, Ia, hs⟩, ⟨rfl, rfl, I1⟩⟩)
  · obtain ⟨oa, Ia⟩ := inst_of I2 ha
    obtain ⟨its, rv, ⟨ol, hol, hcl, n, _⟩, hz⟩ := I2.tuple hl
    have hn : a ≠ l := fun z => by
      subst z
      have e := Option.some.inj (Ia.at_.symm.trans hol)
      have c := Ia.cls
      rw [e, hcl] at c
      cases c
    exact wpAny_isSame_ref_other hn Ia.at_ hol (by rw [Ia.cls]; intro e; cases e) ⟨rfl, .bl false, H, I2, rfl, q⟩
end
/-! ### a tuple that stands in a class -/
def cvrB (K : PySem.W.Frag) (C : Addr) (f : Str) (g : Addr) : Bool := match PySem.W.findCls K (.ref C) (.type "type") f with
  | some (.val (.ref m)) => decide (m = g)
  | _ => false
theorem cvrB_ok {K : PySem.W.Frag} {C : Addr} {f : Str} {g : Addr} (h : cvrB K C f g = true) : ClX.CVal K C (.type "type") f (.ref g) (.ref g) := by
  unfold cvrB at h
  split at h
  · rename_i m e
    rw [of_decide_eq_true h] at e
    exact ⟨e, rfl⟩
  · cases h
/-! ### x not in a dict of the module: words that are no keys -/
def sxB (K : PySem.W.Frag) (d : Addr) (ws : List Str) : Bool := ws.all fun z => match PySem.W.nsIn K d z with
  | some none => true
  | _ => false
theorem sxB_ok {K : PySem.W.Frag} {d : Addr} {ws : List Str} (h : sxB K d ws = true) : ∀ z ∈ ws, PySem.W.nsIn K d z = some none := by
  intro z hz
  have h1 := List.all_eq_true.mp h z hz
  split at h1
  · assumption
  · cases h1
def rSdNX (d : Addr) (kv : List (Str × Str)) (ws : List Str) : R2 := fun x y H Q => ∃ z : Str, x = .str z ∧ y = .ref d ∧ ∃ b : Bool, ((b = false ∧ ∃ v, kv.lookup z = some v) ∨ (b = true ∧ z ∈ ws)) ∧ Q (.bl b) H
theorem op_notIn_sdX {X : Cx} {d : Addr} {kv : List (Str × Str)} {ws : List Str} (D : SDict X.K X.w d kv) (N : ∀ z ∈ ws, PySem.W.nsIn X.K d z = some none) : OpR X (compareOp .NotIn) (rSdNX d kv ws) := by
  intro pins s σ H x y v u Q I rx ry h
  obtain ⟨z, ex, ey, b, hb, q⟩ := h
  obtain ⟨es, n, kd⟩ := D.kd
  rcases hb with ⟨rfl, w, hm⟩ | ⟨rfl, hm⟩
  · obtain ⟨t, e⟩ := D.at_ z w hm
    exact op_notIn_kd kd pins s σ H x y v u Q I rx ry ⟨z, _, ex, ey, e, q⟩
  · exact op_notIn_kd kd pins s σ H x y v u Q I rx ry ⟨z, _, ex, ey, N z hm, q⟩
end L2

/-! ### == of lists that hold own objects: True or False -/
namespace GQ
open PySem PySem.SeqAt
open AutoSeq1 (wpAny_loadPart')
open MeetsSeq MeetsSeq2 MeetsSeq3 SeqRoads2
/-- the lists stand there -/
def TwoL (l b : Addr) (items items2 : Array Value) (s : Shared) : Prop :=
  (∃ (n : Nat) (dd : Option Addr) (sl : Array (Option Value)), s.heap.get? l = some { cls := .type "list", dict := dd, data := .seq items n, slots := sl }) ∧ ∃ (n2 : Nat) (dd2 : Option Addr) (sl2 : Array (Option Value)), s.heap.get? b = some { cls := .type "list", dict := dd2, data := .seq items2 n2, slots := sl2 }
/-- pair i: equal and on, or the one that differs, or none is left -/
def StepL (prog : Program) (w : World) (A : Around) (E : Value → Shared → Prop) (l b : Addr) (N k : Nat) (r : Bool) (I : Nat → Shared → Prop) (Z : Shared → Prop) (i : Nat) (s : Shared) : Prop :=
  ∃ items items2 : Array Value, TwoL l b items items2 s ∧ items.size = N ∧ items2.size = N ∧
   ((i < k ∧ ∃ (h1 : i < items.size) (h2 : i < items2.size), wpAny (model prog w) A.in1 (eqBool items[i] items2[i]) (fun z s' => z = true ∧ I (i + 1) s') E s) ∨
    (i = k ∧ r = false ∧ ∃ (h1 : i < items.size) (h2 : i < items2.size), wpAny (model prog w) A.in1 (eqBool items[i] items2[i]) (fun z s' => z = false ∧ I i s' ∧ Z s') E s) ∨ (i = k ∧ i = N ∧ r = true ∧ Z s))
section
variable {prog : Program} {w : World} {A : Around} {R : Result → Shared → Prop}
theorem eq_loopB (l b : Addr) (N k : Nat) (r : Bool) (hk : k ≤ N) (I : Nat → Shared → Prop)
    (st : ∀ i s, i ≤ k → I i s → StepL prog w A (fun e s' => R (.error e) s') l b N k r I (fun s' => R (.ok (.ret (.bool r))) s') i s) (m : Nat) :
    ∀ i : Nat, N - i = m → i ≤ k → ∀ s, I i s → wpAny (model prog w) A.in1 (Builtin.«list.__eq__.loop» ⟨[.ref l, .ref b, rawInt i, rawInt 2], []⟩) (FinOf prog w A R) (fun e s' => R (.error e) s') s := by
  induction m with
  | zero =>
    intro i hm hik s h
    obtain ⟨items, items2, ⟨⟨n, dd, sl, hl⟩, n2, dd2, sl2, hb⟩, z1, z2, q⟩ := st i s hik h
    rcases q with ⟨q, h1, _⟩ | ⟨_, _, h1, _⟩ | ⟨_, hn, er, h'⟩
    · omega
    · omega
    rw [er] at h'
    obtain ⟨hp, g, d, tk, os⟩ := s
    wp_walk using wpAny_loadPart' hl, wpAny_loadPart' hb
    have hi1 : items[((i : Nat) : Int).toNat]? = none := by simp; omega
    have hi2 : items2[((i : Nat) : Int).toNat]? = none := by simp; omega
    rw [hi1, hi2]
    wp_walk using wpAny_loadPart' hl, wpAny_loadPart' hb
    show R (.ok (.ret (.bool (items.size == items2.size)))) _
    rw [z1, z2]
    simpa using h'
  | succ m ih =>
    intro i hm hik s h
    obtain ⟨items, items2, ⟨⟨n, dd, sl, hl⟩, n2, dd2, sl2, hb⟩, z1, z2, q⟩ := st i s hik h
    have hlt : i < items.size := by omega
    have hlt2 : i < items2.size := by omega
    have hi1 : items[((i : Nat) : Int).toNat]? = some items[i] := by simp [hlt]
    have hi2 : items2[((i : Nat) : Int).toNat]? = some items2[i] := by simp [hlt2]
    have hc : ((i : Int) + 1) = ((i + 1 : Nat) : Int) := by push_cast; rfl
    rcases q with ⟨hlk, _, _, tn⟩ | ⟨hik2, er, _, _, tn⟩ | ⟨_, hn, _⟩
    · obtain ⟨hp, g, d, tk, os⟩ := s
      wp_walk using wpAny_loadPart' hl, wpAny_loadPart' hb
      rw [hi1, hi2]
      refine wpAny_bind (wpAny_mono tn (fun z s2 q2 => ?_) fun _ _ x => x)
      obtain ⟨rfl, q2⟩ := q2
      wp_walk
      rw [hc]
      exact ⟨plainId_quiet plain_eq_loop _, codeAny_builtin entry_eq_loop (by
        rw [Around.under_plainId plain_eq_loop _]
        exact ih (i + 1) (by omega) hlk s2 q2)⟩
    · obtain ⟨hp, g, d, tk, os⟩ := s
      wp_walk using wpAny_loadPart' hl, wpAny_loadPart' hb
      rw [hi1, hi2]
      refine wpAny_bind (wpAny_mono tn (fun z s2 q2 => ?_) fun _ _ x => x)
      obtain ⟨rfl, q2, q3⟩ := q2
      obtain ⟨jt, jt2, ⟨⟨n', dd', sl', hl2⟩, n2', dd2', sl2', hb2⟩, y1, y2, _⟩ := st i s2 hik q2
      have hj1 : jt[((i : Nat) : Int).toNat]? = some (jt[i]'(by omega)) := by
        have : i < jt.size := by omega
        simp [this]
      have hj2 : jt2[((i : Nat) : Int).toNat]? = some (jt2[i]'(by omega)) := by
        have : i < jt2.size := by omega
        simp [this]
      rw [er] at q3
      obtain ⟨hp2, g2, d2, tk2, os2⟩ := s2
      wp_walk using wpAny_loadPart' hl2, wpAny_loadPart' hb2
      rw [hj1, hj2]
      wp_walk
      simpa using q3
    · omega
theorem list_eqB (l b : Addr) (N k : Nat) (r : Bool) (hk : k ≤ N) (I : Nat → Shared → Prop)
    (st : ∀ i s, i ≤ k → I i s → StepL prog w A (fun e s' => R (.error e) s') l b N k r I (fun s' => R (.ok (.ret (.bool r))) s') i s) {s : Shared} (h : I 0 s) :
    wpAny (model prog w) A.in1 (Builtin.«list.__eq__» ⟨[.ref l, .ref b], []⟩) (FinOf prog w A R) (fun e s' => R (.error e) s') s := by
  have f3 := AutoSeq1.sub_list_list
  obtain ⟨items, items2, ⟨⟨n, dd, sl, hl⟩, n2, dd2, sl2, hb⟩, z1, z2, _⟩ := st 0 s (Nat.zero_le _) h
  have hne : ¬ (items.size != items2.size) = true := by simp [z1, z2]
  have lp := fun s' (z : I 0 s') => eq_loopB (prog := prog) (w := w) (A := A) (R := R) l b N k r hk I st _ 0 rfl (Nat.zero_le _) s' z
  obtain ⟨hp, g, d, tk, os⟩ := s
  wp_walk using wpAny_loadPart' hl, wpAny_loadPart' hb
  exact ⟨plainId_quiet plain_eq_loop _, codeAny_builtin entry_eq_loop (by
    rw [Around.under_plainId plain_eq_loop _]
    exact lp _ h)⟩
end
section
variable {prog : Program} {w : World} {A : Around} {E : Value → Shared → Prop} {s : Shared}
theorem rc_listB {l b : Addr} {Q : Value → Shared → Prop} (N k : Nat) (r : Bool) (hk : k ≤ N) (hu : A.units < cLine) (I : Nat → Shared → Prop)
    (st : ∀ i s, i ≤ k → I i s → StepL prog w A E l b N k r I (fun s' => Q (.bool r) s') i s) (h : I 0 s) : wpAny (model prog w) A (richCompare .Eq (.ref l) (.ref b)) Q E s := by
  obtain ⟨items, items2, ⟨⟨n, dd, sl, ho⟩, n2, dd2, sl2, ho2⟩, z1, z2, _⟩ := st 0 s (Nat.zero_le _) h
  refine wpAny_richCompare_same_room (op := .Eq) ⟨_, ho, rfl⟩ ⟨_, ho2, rfl⟩ F.slot_list_eq (call_here F.slot_list_eq ⟨_, ho, rfl⟩ F.entry_list_eq (F.args_list_eq_2 _ _) ?_) hu
  refine list_eqB (R := wants (fun v s' => v ≠ .notImplemented ∧ Q v s') E) l b N k r hk I (fun i s' hi q => ?_) h
  obtain ⟨its, its2, tw, y1, y2, c⟩ := st i s' hi q
  refine ⟨its, its2, tw, y1, y2, ?_⟩
  rcases c with c | ⟨e1, er, h1, h2, c⟩ | ⟨e1, e2, er, c⟩
  · exact .inl c
  · exact .inr (.inl ⟨e1, er, h1, h2, wpAny_mono c (fun z s' hz => ⟨hz.1, hz.2.1, (fun x => nomatch x), hz.2.2⟩) fun _ _ x => x⟩)
  · exact .inr (.inr ⟨e1, e2, er, (fun x => nomatch x), c⟩)
end
end GQ
namespace L2
open PySem PySem.Spec PyProof.Rows
section
variable {X : Cx} {n m : Nat} {D D' : Eqb}
/-- lists; the same one is equal to itself -/
def DLstB (D : Eqb) : Eqb := fun x y H b => ∃ a c xs ys, x = .ref a ∧ y = .ref c ∧ H a = some (.lst xs) ∧ H c = some (.lst ys) ∧ ((xs.length ≠ ys.length ∧ b = false) ∨ (xs.length = ys.length ∧ PrsB D xs ys H b)) ∧ (a = c → b = true)
theorem two_of {pins : List (Addr × Obj)} {σ : St} {H : Hp} {s : Shared} {a c : Addr} {xs ys : List V} (I : Inv X pins σ H s) (ha : H a = some (.lst xs)) (hc : H c = some (.lst ys)) : ∃ its its2 : List Value, Vals xs its ∧ Vals ys its2 ∧ GQ.TwoL a c its.toArray its2.toArray s := by
  obtain ⟨its, r, ⟨⟨cls, dd, dt, sl⟩, nn, eo, c1, c2, c3⟩, z⟩ := I.list (SqL.of ha)
  obtain ⟨its2, r2, ⟨⟨cls2, dd2, dt2, sl2⟩, nn2, eo2, d1, d2, d3⟩, z2⟩ := I.list (SqL.of hc)
  simp only at c1 c3 d1 d3
  subst c1 c3 d1 d3
  exact ⟨its, its2, r, r2, ⟨nn, dd, sl, eo⟩, nn2, dd2, sl2, eo2⟩
theorem rcB_lst (hD : MonB D) (h : EqB X n D) : RcB X (n + 1) (DLstB D) := by
  intro A pins s σ H x y u v b sb I rx ry d
  obtain ⟨a, c, xs, ys, rfl, rfl, ha, hc, hp, _⟩ := d
  cases rx
  cases ry
  rcases hp with ⟨hne, rfl⟩ | ⟨hlen, k, k1, k2, p1, p2⟩
  · obtain ⟨its, r, pl, z⟩ := I.list (SqL.of ha)
    obtain ⟨its2, r2, pl2, z2⟩ := I.list (SqL.of hc)
    obtain ⟨o, nn, eo, c1, c2, c3⟩ := pl
    obtain ⟨o2, nn2, eo2, d1, d2, d3⟩ := pl2
    refine SeqAt.RcAt.lists_lengths (items := its.toArray) (items2 := its2.toArray) ⟨o, eo, c1, nn, c3⟩ ⟨o2, eo2, d1, nn2, d3⟩ ?_ sb.room.units0 X.prog X.w X.xe _ ⟨rfl, H, I, Ext.rfl'⟩
    rw [List.size_toArray, List.size_toArray, ← r.length, ← r2.length]
    simpa using hne
  · refine GQ.rc_listB xs.length k b k1 sb.room.units0 (fun _ s' => LoopI X pins σ H s') (fun i s' hi q => ?_) ⟨H, I, Ext.rfl'⟩
    obtain ⟨H1, I1, e1⟩ := q
    obtain ⟨its, its2, r, r2, tw⟩ := two_of I1 (e1 _ _ ha) (e1 _ _ hc)
    have s1 : its.toArray.size = xs.length := by rw [List.size_toArray, ← r.length]
    have s2 : its2.toArray.size = ys.length := by rw [List.size_toArray, ← r2.length]
    refine ⟨its.toArray, its2.toArray, tw, s1, by rw [s2, hlen], ?_⟩
    rcases Nat.lt_or_ge i k with hik | hik
    · refine .inl ⟨hik, by rw [s1]; omega, by rw [s2]; omega, ?_⟩
      exact getB h sb r r2 hD i (by rw [s1]; omega) (by rw [s2]; omega) (fun x y g1 g2 => p1 i x y hik g1 g2) I1 e1
    · obtain rfl : i = k := by omega
      rcases p2 with ⟨x, y, g1, g2, d, eb⟩ | ⟨hk, eb⟩
      · have h1 : i < xs.length := by
          rcases Nat.lt_or_ge i xs.length with z | z
          · exact z
          · rw [List.getElem?_eq_none z] at g1; cases g1
        refine .inr (.inl ⟨rfl, eb, by rw [s1]; exact h1, by rw [s2]; omega, ?_⟩)
        refine wpAny_mono (getB h sb r r2 hD i (by rw [s1]; exact h1) (by rw [s2]; omega) (b := false) (fun x' y' g1' g2' => ?_) I1 e1) (fun r s2 q => ⟨q.1, q.2, rfl, q.2⟩) fun _ _ x => x
        rw [g1] at g1'
        rw [g2] at g2'
        cases g1'
        cases g2'
        exact d
      · refine .inr (.inr ⟨rfl, by omega, ?_, rfl, H1, I1, e1⟩)
        rw [eb, hlen]
        simp
end
end L2

/-! ### static methods that raise; what is raised is wished for at the slots -/
namespace L2
open PySem PySem.Spec PyProof.Rows
section
variable {X : Cx} {CX : CXT} {k n : Nat} {C p g : Addr} {fd : FuncData} {ps : List Str} {sp : Sp} {E : L2.St → XK} {o e ke : Expr} {es : List Expr} {m kn : Str} {pos apos kpos : Pos} {ta tk : TE} {t : TA} {pl : Sem Bool} {gg : List Value → List Value → List Value} {gV : List V → List V → List V} {ds : List Value} {dvs : List V}
def tSMethS (C : Addr) (sp : Sp) (dvs : List V) (E : L2.St → XK) (ta : TE) (t : TA) : TE := fun σ H Q => ta σ H fun x H1 => x = .ref C ∧ t σ H1 fun vs H2 => sp (vs ++ dvs) H2 Q (E σ)
theorem pe_smethS (he : PE X o ta) (r : ClX.CRead X.K C (.type "type")) (c : SMet X.K C m p g) (F : FnOk X.prog X.w X.K X.mg X.base CX k g fd ps sp) (hr : Room k X.A) (hb : Binds X.K fd ps []) (hx : ∀ σ, PassesAt CX X σ (E σ)) (ha : PA X (e :: es) t)
    (hst : starEach (e :: es) X.env = (false, eval e X.env) :: starEach es X.env := by rfl) (hpl : (backTo pos (starEach es X.env)).any (·.1) = false := by rfl)
    (ht : eval (.Call (.Attribute o m apos) (e :: es) [] pos) X.env = (do
      let ov ← eval o X.env
      standAt apos.atName
      let (f, first) ← holding [ov] (getMethod ov m pl)
      callWith pos f first (backTo pos (starEach (e :: es) X.env)) (backToKw pos (keywordEach [] X.env))) := by rfl) :
    PE X (.Call (.Attribute o m apos) (e :: es) [] pos) (tSMethS C sp [] E ta t) := by
  refine ⟨fun pins s σ H Q I h => ?_⟩
  refine PySem.W.methodCall_KW (pl := pl) (thn (he.run pins s σ H _ I h) fun u s1 ⟨x, H1, I1, rx, ex, q⟩ => ?_) ht
  subst ex
  obtain rfl : u = Value.ref C := rx
  refine getsm_ok I1 r c fun s2 I2 => ?_
  refine PySem.W.callWith_K (first := []) (h₀ := X.base) I.ok.mod.kin c.kp (thn (ha.run pos pins s2 σ H1 _ I2 q) fun us s3 ⟨vs, H2, I3, rv, q2⟩ => ⟨I3.kIn, ?_⟩) hst hpl
  have q3 : sp (vs ++ []) H2 Q (E σ) := q2
  rw [List.append_nil] at q3
  exact run_fnS F hr hb (hx σ) I3 rv q3
theorem run_kbS {pins : List (Addr × Obj)} {σ : L2.St} {H : Hp} {s : Shared} {Q : VK} {us ws : List Value} {vs zs : List V} {ks : List Str} {E : XK} (F : FnOk X.prog X.w X.K X.mg X.base CX k g fd ps sp) (hr : Room k X.A) (hb : KBn X.K fd ps n ks gg gV) (hx : PassesAt CX X σ E)
    (I : Inv X pins σ H s) (r : Vals vs us) (rz : Vals zs ws) (l1 : vs.length = n) (l2 : zs.length = ks.length) (h : sp (gV vs zs) H Q E) : wpAny (model X.prog X.w) X.A (call (.ref g) us (ks.zip ws)) (EP X pins σ Q) X.xe s := by
  have r2 := hb.rel r rz
  refine wpAny_call (codeAny_mono (F.run X.A X.stack s H ⟨us, ks.zip ws⟩ (gg us ws) (gV vs zs) Q E hr I.env0 (hb.to s us ws I.kIn (r.length.symm.trans l1) (rz.length.symm.trans l2)) r2 h) fun r s' hq => ?_)
  cases r with
  | error e => exact hx pins H s e s' I hq
  | ok fl =>
    cases fl with
    | ret u => exact I.after hq
    | next => exact False.elim hq
    | brk => exact False.elim hq
    | cont => exact False.elim hq
def tSMeth0S (C : Addr) (n : Nat) (sp : Sp) (gV : List V → List V → List V) (E : L2.St → XK) (ta : TE) (t : TA) : TE := fun σ H Q => ta σ H fun x H1 => x = .ref C ∧ t σ H1 fun vs H2 => vs.length = n ∧ sp (gV vs []) H2 Q (E σ)
theorem pe_smeth0S (he : PE X o ta) (r : ClX.CRead X.K C (.type "type")) (c : SMet X.K C m p g) (F : FnOk X.prog X.w X.K X.mg X.base CX k g fd ps sp) (hr : Room k X.A) (hb : KBn X.K fd ps n [] gg gV) (hx : ∀ σ, PassesAt CX X σ (E σ)) (ha : PA X (e :: es) t)
    (hst : starEach (e :: es) X.env = (false, eval e X.env) :: starEach es X.env := by rfl) (hpl : (backTo pos (starEach es X.env)).any (·.1) = false := by rfl)
    (ht : eval (.Call (.Attribute o m apos) (e :: es) [] pos) X.env = (do
      let ov ← eval o X.env
      standAt apos.atName
      let (f, first) ← holding [ov] (getMethod ov m pl)
      callWith pos f first (backTo pos (starEach (e :: es) X.env)) (backToKw pos (keywordEach [] X.env))) := by rfl) :
    PE X (.Call (.Attribute o m apos) (e :: es) [] pos) (tSMeth0S C n sp gV E ta t) := by
  refine ⟨fun pins s σ H Q I h => ?_⟩
  refine PySem.W.methodCall_KW (pl := pl) (thn (he.run pins s σ H _ I h) fun u s1 ⟨x, H1, I1, rx, ex, q⟩ => ?_) ht
  subst ex
  obtain rfl : u = Value.ref C := rx
  refine getsm_ok I1 r c fun s2 I2 => ?_
  refine PySem.W.callWith_K (first := []) (h₀ := X.base) I.ok.mod.kin c.kp (thn (ha.run pos pins s2 σ H1 _ I2 q) fun us s3 ⟨vs, H2, I3, rv, l1, q2⟩ => ⟨I3.kIn, ?_⟩) hst hpl
  exact run_kbS F hr hb (hx σ) I3 rv .nil l1 rfl q2
def tSMethKS (C : Addr) (n : Nat) (sp : Sp) (gV : List V → List V → List V) (E : L2.St → XK) (ta : TE) (t : TA) (tk : TE) : TE := fun σ H Q => ta σ H fun x H1 => x = .ref C ∧ t σ H1 fun vs H2 => tk σ H2 fun z H3 => vs.length = n ∧ sp (gV vs [z]) H3 Q (E σ)
theorem pe_smethKS (he : PE X o ta) (r : ClX.CRead X.K C (.type "type")) (c : SMet X.K C m p g) (F : FnOk X.prog X.w X.K X.mg X.base CX k g fd ps sp) (hr : Room k X.A) (hb : KBn X.K fd ps n [kn] gg gV) (hx : ∀ σ, PassesAt CX X σ (E σ)) (ha : PA X (e :: es) t) (hk : PE X ke tk)
    (hst : starEach (e :: es) X.env = (false, eval e X.env) :: starEach es X.env := by rfl)
    (hall : (backToKw pos (keywordEach [⟨some kn, ke, kpos⟩] X.env)).all (·.1.isSome) = true := by rfl) (hks : (backToKw pos (keywordEach [⟨some kn, ke, kpos⟩] X.env)).filterMap (·.1) = [kn] := by rfl)
    (hpl : ((backTo pos (starEach (e :: es) X.env)).any (·.1) || (backToKw pos (keywordEach [⟨some kn, ke, kpos⟩] X.env)).any (·.1.isNone)) = false := by rfl)
    (ht : eval (.Call (.Attribute o m apos) (e :: es) [⟨some kn, ke, kpos⟩] pos) X.env = (do
      let ov ← eval o X.env
      standAt apos.atName
      let (f, first) ← holding [ov] (getMethod ov m pl)
      callWith pos f first (backTo pos (starEach (e :: es) X.env)) (backToKw pos (keywordEach [⟨some kn, ke, kpos⟩] X.env))) := by rfl) :
    PE X (.Call (.Attribute o m apos) (e :: es) [⟨some kn, ke, kpos⟩] pos) (tSMethKS C n sp gV E ta t tk) := by
  refine ⟨fun pins s σ H Q I h => ?_⟩
  refine PySem.W.methodCall_KW (pl := pl) (thn (he.run pins s σ H _ I h) fun u s1 ⟨x, H1, I1, rx, ex, q⟩ => ?_) ht
  subst ex
  obtain rfl : u = Value.ref C := rx
  refine getsm_ok I1 r c fun s2 I2 => ?_
  refine PySem.W.callWith_KW (first := []) (h₀ := X.base) I.ok.mod.kin c.kp hall (thn (ha.run pos pins s2 σ H1 _ I2 q) fun us s3 hh => ?_) hpl hst
  obtain ⟨vs, H2, I3, rv, q2⟩ := hh
  have hkw : PK X [⟨some kn, ke, kpos⟩] (tCons tk tNil) := pk_cons hk pk_nil
  refine thn (hkw.run pos pins s3 σ H2 (fun zs H3 => match zs with
    | [z] => vs.length = n ∧ sp (gV vs [z]) H3 Q (E σ)
    | _ => False) I3 q2) fun ws s4 hh => ?_
  obtain ⟨zs, H4, I4, rz, hh⟩ := hh
  cases rz with
  | nil => exact hh.elim
  | cons rz1 rz2 =>
    cases rz2 with
    | cons _ _ => exact hh.elim
    | nil =>
    obtain ⟨l1, q3⟩ := hh
    rename_i z uw
    refine ⟨I4.kIn, ?_⟩
    rw [hks]
    exact run_kbS (ks := [kn]) (zs := [z]) (ws := [uw]) F hr hb (hx σ) I4 rv (.cons rz1 .nil) l1 rfl q3
/-- C.m(k = v) alone -/
def tSMethJS (C : Addr) (sp : Sp) (gV : List V → List V → List V) (E : L2.St → XK) (ta tk : TE) : TE := fun σ H Q => ta σ H fun x H1 => x = .ref C ∧ tk σ H1 fun z H3 => sp (gV [] [z]) H3 Q (E σ)
theorem pe_smethJS (he : PE X o ta) (r : ClX.CRead X.K C (.type "type")) (c : SMet X.K C m p g) (F : FnOk X.prog X.w X.K X.mg X.base CX k g fd ps sp) (hr : Room k X.A) (hb : KBn X.K fd ps 0 [kn] gg gV) (hx : ∀ σ, PassesAt CX X σ (E σ)) (hk : PE X ke tk)
    (hall : (backToKw pos (keywordEach [⟨some kn, ke, kpos⟩] X.env)).all (·.1.isSome) = true := by rfl) (hks : (backToKw pos (keywordEach [⟨some kn, ke, kpos⟩] X.env)).filterMap (·.1) = [kn] := by rfl)
    (hpl : ((backTo pos (starEach [] X.env)).any (·.1) || (backToKw pos (keywordEach [⟨some kn, ke, kpos⟩] X.env)).any (·.1.isNone)) = false := by rfl)
    (ht : eval (.Call (.Attribute o m apos) [] [⟨some kn, ke, kpos⟩] pos) X.env = (do
      let ov ← eval o X.env
      standAt apos.atName
      let (f, first) ← holding [ov] (getMethod ov m pl)
      callWith pos f first (backTo pos (starEach [] X.env)) (backToKw pos (keywordEach [⟨some kn, ke, kpos⟩] X.env))) := by rfl) :
    PE X (.Call (.Attribute o m apos) [] [⟨some kn, ke, kpos⟩] pos) (tSMethJS C sp gV E ta tk) := by
  refine ⟨fun pins s σ H Q I h => ?_⟩
  refine PySem.W.methodCall_KW (pl := pl) (thn (he.run pins s σ H _ I h) fun u s1 ⟨x, H1, I1, rx, ex, q⟩ => ?_) ht
  subst ex
  obtain rfl : u = Value.ref C := rx
  refine getsm_ok I1 r c fun s2 I2 => ?_
  refine PySem.W.callWith_KW0 (h₀ := X.base) I.ok.mod.kin c.kp hall ?_ hpl
  have hkw : PK X [⟨some kn, ke, kpos⟩] (tCons tk tNil) := pk_cons hk pk_nil
  refine thn (hkw.run pos pins s2 σ H1 (fun zs H3 => match zs with
    | [z] => sp (gV [] [z]) H3 Q (E σ)
    | _ => False) I2 q) fun ws s4 hh => ?_
  obtain ⟨zs, H4, I4, rz, hh⟩ := hh
  cases rz with
  | nil => exact hh.elim
  | cons rz1 rz2 =>
    cases rz2 with
    | cons _ _ => exact hh.elim
    | nil =>
    rename_i z uw
    refine ⟨I4.kIn, ?_⟩
    rw [hks]
    exact run_kbS (us := []) (vs := []) (ks := [kn]) (zs := [z]) (ws := [uw]) F hr hb (hx σ) I4 .nil (.cons rz1 .nil) rfl rfl hh
end
end L2

/-! ### texts: {n:02d}, {n:03d}; the texts of times, spans and moments as lists of signs -/
namespace L2
open PySem PySem.Spec PyProof.Rows
open Builtin Builtin.Str Builtin.Int
namespace Tx
/-- n's digits, with zeros ahead of them to W signs -/
def padL (W n : Nat) : List Nat := List.replicate (W - (TL.numL n).length) 48 ++ TL.numL n
section
variable {n : Nat} {t : Tok}
theorem parse2 : Float.parseFormatSpec (Str.ofString "02d").cps.toList "int" 62 = .ok { fill := 48, align := 61, width := some 2, type := some 100 } := by rfl
theorem parse3 : Float.parseFormatSpec (Str.ofString "03d").cps.toList "int" 62 = .ok { fill := 48, align := 61, width := some 3, type := some 100 } := by rfl
theorem fmt2 (h : n < 60) : ∀ u, Meets («int.__format__» ⟨[.int (n : Int) t, .str (Str.ofString "02d") u], []⟩) (fun _ R s => ∀ t' k, R (.ok (.ret (.str (SX.S (padL 2 n)) t'))) { s with toks := k }) := by
  intro u
  apply PySem.W.KPc.meets_of
  intro pg ww AA ss QQ EE hq
  unfold Builtin.«int.__format__»
  refine wpAny_bind (wpAny_of_eq (a := (_, _)) rfl ?_)
  refine wpAny_bind (wpAny_of_eq (a := _) rfl ?_)
  kxf_if
  refine wpAny_bind (wpAny_typeNameOf (T := "str") (typeIs_str _ _ _) (by decide) fun _ => ?_)
  refine wpAny_bind (wpAny_of_eq (a := some _) rfl ?_)
  kxf_if
  kxf_if
  refine wpAny_bind (wpAny_typeNameOfCut_int ?_)
  obtain ⟨f, hf⟩ : ∃ f : Float.FormatSpec, f = { fill := 48, align := 61, width := some 2, type := some 100 } := ⟨_, rfl⟩
  rw [parse2, ← hf]
  have f1 : f.type.getD (if ((Str.ofString "02d").cps.back? == some 0) = true then 0 else 100) = 100 := by rw [hf]; rfl
  simp only [f1]
  refine wpAny_ite (PySem.W.KPc.ite_yes (by decide +kernel) ?_)
  show wpAny _ _ (if _ then _ else _) _ _ _
  rw [if_neg (by rw [hf]; decide +kernel)]
  show wpAny _ _ (if _ then _ else _) _ _ _
  rw [if_neg (by rw [hf]; decide +kernel)]
  show wpAny _ _ (if _ then _ else _) _ _ _
  rw [if_neg (by decide +kernel)]
  show wpAny _ _ (do let r ← Builtin.overDigitLimit? _; _) _ _ _
  refine wpAny_bind (wpAny_of_eq (PySem.overDigitLimit_small (Nat.lt_of_le_of_lt (Nat.log2_le_self _) (by omega))) ?_)
  show wpAny _ _ (if _ then _ else _) _ _ _
  rw [if_neg (by rw [hf]; decide +kernel)]
  subst hf
  refine PySem.W.KXf.ret_text (T := SX.S (padL 2 n)) ?_ ?_ ?_
  · clear hq f1
    revert n
    decide +kernel
  · clear hq f1
    revert n
    decide +kernel
  · assumption
theorem fmt3 (h : n < 1000) : ∀ u, Meets («int.__format__» ⟨[.int (n : Int) t, .str (Str.ofString "03d") u], []⟩) (fun _ R s => ∀ t' k, R (.ok (.ret (.str (SX.S (padL 3 n)) t'))) { s with toks := k }) := by
  intro u
  apply PySem.W.KPc.meets_of
  intro pg ww AA ss QQ EE hq
  unfold Builtin.«int.__format__»
  refine wpAny_bind (wpAny_of_eq (a := (_, _)) rfl ?_)
  refine wpAny_bind (wpAny_of_eq (a := _) rfl ?_)
  kxf_if
  refine wpAny_bind (wpAny_typeNameOf (T := "str") (typeIs_str _ _ _) (by decide) fun _ => ?_)
  refine wpAny_bind (wpAny_of_eq (a := some _) rfl ?_)
  kxf_if
  kxf_if
  refine wpAny_bind (wpAny_typeNameOfCut_int ?_)
  obtain ⟨f, hf⟩ : ∃ f : Float.FormatSpec, f = { fill := 48, align := 61, width := some 3, type := some 100 } := ⟨_, rfl⟩
  rw [parse3, ← hf]
  have f1 : f.type.getD (if ((Str.ofString "03d").cps.back? == some 0) = true then 0 else 100) = 100 := by rw [hf]; rfl
  simp only [f1]
  refine wpAny_ite (PySem.W.KPc.ite_yes (by decide +kernel) ?_)
  show wpAny _ _ (if _ then _ else _) _ _ _
  rw [if_neg (by rw [hf]; decide +kernel)]
  show wpAny _ _ (if _ then _ else _) _ _ _
  rw [if_neg (by rw [hf]; decide +kernel)]
  show wpAny _ _ (if _ then _ else _) _ _ _
  rw [if_neg (by decide +kernel)]
  show wpAny _ _ (do let r ← Builtin.overDigitLimit? _; _) _ _ _
  refine wpAny_bind (wpAny_of_eq (PySem.overDigitLimit_small (Nat.lt_of_le_of_lt (Nat.log2_le_self _) (by omega))) ?_)
  show wpAny _ _ (if _ then _ else _) _ _ _
  rw [if_neg (by rw [hf]; decide +kernel)]
  subst hf
  refine PySem.W.KXf.ret_text (T := SX.S (padL 3 n)) ?_ ?_ ?_
  · clear hq f1
    revert n
    decide +kernel
  · clear hq f1
    revert n
    decide +kernel
  · assumption
end
end Tx
section
variable {X : Cx}
/-- {n:02d} -/
def tFmtD (W m : Nat) (te : TE) : TE := fun σ H Q => te σ H fun x H1 => ∃ n : Nat, x = .int (n : Int) ∧ n < m ∧ Q (.str (SX.S (Tx.padL W n))) H1
theorem pe_fmt2 {e : Expr} {te : TE} {j : Nat} {p1 p2 pos : Pos} (he : PE X e te) : PE X (.FormattedValue e (-1) (some (.JoinedStr [.Constant (.str "02d") j p1] p2)) pos) (tFmtD 2 60 te) := by
  refine ⟨fun pins s σ H Q I h => ?_⟩
  refine wpAny_FormattedValue_spec (thn (he.run pins s σ H _ I h) fun v s1 hv => ?_)
  obtain ⟨x, H1, I1, r1, n, rfl, hn, q⟩ := hv
  obtain ⟨t, rfl⟩ := r1
  refine wpAny_JoinedStr_one (wpAny_Constant_str ?_)
  refine ⟨_, _, rfl, ?_⟩
  refine PySem.W.KXf.field_int rfl (by decide +kernel) (by decide +kernel) (Tx.fmt2 hn) fun t' k => ?_
  exact ⟨.str (SX.S (Tx.padL 2 n)), H1, I1.tok _, ⟨_, rfl⟩, q⟩
theorem pe_fmt3 {e : Expr} {te : TE} {j : Nat} {p1 p2 pos : Pos} (he : PE X e te) : PE X (.FormattedValue e (-1) (some (.JoinedStr [.Constant (.str "03d") j p1] p2)) pos) (tFmtD 3 1000 te) := by
  refine ⟨fun pins s σ H Q I h => ?_⟩
  refine wpAny_FormattedValue_spec (thn (he.run pins s σ H _ I h) fun v s1 hv => ?_)
  obtain ⟨x, H1, I1, r1, n, rfl, hn, q⟩ := hv
  obtain ⟨t, rfl⟩ := r1
  refine wpAny_JoinedStr_one (wpAny_Constant_str ?_)
  refine ⟨_, _, rfl, ?_⟩
  refine PySem.W.KXf.field_int rfl (by decide +kernel) (by decide +kernel) (Tx.fmt3 hn) fun t' k => ?_
  exact ⟨.str (SX.S (Tx.padL 3 n)), H1, I1.tok _, ⟨_, rfl⟩, q⟩
end
end L2

/-! ### texts of integers, times, spans and moments -/
namespace L2
open PySem PySem.Spec PyProof.Rows
namespace Tx
open NumText
/-- all signs are digits, one at least -/
def hasD (a : List Nat) : Bool := !a.isEmpty && a.all (fun c => decide (48 ≤ c) && decide (c ≤ 57))
theorem hasD_iff {a : List Nat} : hasD a = true ↔ a ≠ [] ∧ AllDigits a := by
  unfold hasD
  rw [Bool.and_eq_true, List.all_eq_true]
  constructor
  · rintro ⟨h1, h2⟩
    refine ⟨fun e => absurd h1 (by rw [e]; decide), fun c hc => ?_⟩
    have := h2 c hc
    rw [Bool.and_eq_true] at this
    exact ⟨of_decide_eq_true this.1, of_decide_eq_true this.2⟩
  · rintro ⟨h1, h2⟩
    refine ⟨by cases a with | nil => exact absurd rfl h1 | cons c r => rfl, fun c hc => ?_⟩
    obtain ⟨h3, h4⟩ := h2 c hc
    rw [Bool.and_eq_true]
    exact ⟨decide_eq_true h3, decide_eq_true h4⟩
def isCnt (a : List Nat) : Bool := hasD a && decide (a.length ≤ 30) && (decide (a = [48]) || decide (a.head? ≠ some 48))
def isWr (a : List Nat) : Bool := if a.head? = some 45 then isCnt (a.drop 1) && decide (a ≠ [45, 48]) else isCnt a
/-- the integer that is written -/
def wrV (a : List Nat) : Int := if a.head? = some 45 then -((digitsVal (a.drop 1) : Nat) : Int) else ((digitsVal a : Nat) : Int)
/-- a time of day, read -/
def readT (a : List Nat) : Option Nat :=
  if a.length ≠ 12 ∨ a[2]? ≠ some 58 ∨ a[5]? ≠ some 58 ∨ a[8]? ≠ some 46 then none
  else if hasD (a.take 2 ++ (a.drop 3).take 2 ++ (a.drop 6).take 2 ++ a.drop 9) = false then none
  else if 23 < digitsVal (a.take 2) ∨ 59 < digitsVal ((a.drop 3).take 2) ∨ 59 < digitsVal ((a.drop 6).take 2) then none
  else some (digitsVal (a.take 2) * 3600000 + digitsVal ((a.drop 3).take 2) * 60000 + digitsVal ((a.drop 6).take 2) * 1000 + digitsVal (a.drop 9))
def readSp (a : List Nat) : Option Int :=
  let b := if a.head? = some 45 then a.drop 1 else a
  match TL.par [100, 32] [] b with
  | none => none
  | some (p, q) => match readT q with
    | none => none
    | some r => if isCnt p = false then none else if a.head? = some 45 ∧ digitsVal p * 86400000 + r = 0 then none
      else some (if a.head? = some 45 then -((digitsVal p * 86400000 + r : Nat) : Int) else ((digitsVal p * 86400000 + r : Nat) : Int))
def readMo (a : List Nat) : Option Int :=
  match TL.spl [32] 0 [] a with
  | [d, w, t] => if d = [100, 97, 121] ∧ isWr w = true then (readT t).map (fun r => wrV w * 86400000 + r) else none
  | _ => none
/-! what is written -/
def intL (z : Int) : List Nat := if z < 0 then 45 :: TL.numL z.natAbs else TL.numL z.natAbs
def timeL (r : Nat) : List Nat := padL 2 (r / 3600000) ++ 58 :: (padL 2 (r / 60000 % 60) ++ 58 :: (padL 2 (r / 1000 % 60) ++ 46 :: padL 3 (r % 1000)))
def spanL (z : Int) : List Nat := (if z < 0 then [45] else []) ++ (TL.numL (z.natAbs / 86400000) ++ (100 :: 32 :: timeL (z.natAbs % 86400000)))
def momL (z : Int) : List Nat := [100, 97, 121] ++ (32 :: (intL (z / 86400000) ++ (32 :: timeL (z % 86400000).natAbs)))
theorem pad2 : ∀ n < 100, padL 2 n = [48 + n / 10, 48 + n % 10] := by decide +kernel
theorem pad3 : ∀ n < 1000, padL 3 n = [48 + n / 100, 48 + n / 10 % 10, 48 + n % 10] := by decide +kernel
theorem time_twelve {r : Nat} (h : r < 86400000) : ∃ a b c d e f g i j, timeL r = [48 + a, 48 + b, 58, 48 + c, 48 + d, 58, 48 + e, 48 + f, 46, 48 + g, 48 + i, 48 + j] ∧ a < 10 ∧ b < 10 ∧ c < 10 ∧ d < 10 ∧ e < 10 ∧ f < 10 ∧ g < 10 ∧ i < 10 ∧ j < 10 ∧
    a * 10 + b = r / 3600000 ∧ c * 10 + d = r / 60000 % 60 ∧ e * 10 + f = r / 1000 % 60 ∧ g * 100 + i * 10 + j = r % 1000 := by
  refine ⟨r / 3600000 / 10, r / 3600000 % 10, r / 60000 % 60 / 10, r / 60000 % 60 % 10, r / 1000 % 60 / 10, r / 1000 % 60 % 10, r % 1000 / 100, r % 1000 / 10 % 10, r % 1000 % 10, ?_, by omega, by omega, by omega, by omega, by omega, by omega, by omega, by omega, by omega, by omega, by omega, by omega, by omega⟩
  unfold timeL
  rw [pad2 _ (by omega), pad2 _ (by omega), pad2 _ (by omega), pad3 _ (by omega)]
  rfl
theorem time_len {r : Nat} (h : r < 86400000) : (timeL r).length = 12 := by
  obtain ⟨a, b, c, d, e, f, g, i, j, et, _⟩ := time_twelve h
  rw [et]
  rfl
theorem read_time {r : Nat} (h : r < 86400000) : readT (timeL r) = some r := by
  obtain ⟨a, b, c, d, e, f, g, i, j, et, ha, hb, hc, hd, he, hf, hg, hi, hj, h1, h2, h3, h4⟩ := time_twelve h
  rw [et]
  unfold readT
  have hD : hasD ([48 + a, 48 + b, 48 + c, 48 + d, 48 + e, 48 + f, 48 + g, 48 + i, 48 + j]) = true := hasD_iff.mpr ⟨List.cons_ne_nil _ _, fun x hx => by
    simp only [List.mem_cons, List.not_mem_nil, or_false] at hx
    omega⟩
  have v1 : digitsVal [48 + a, 48 + b] = r / 3600000 := by
    show (0 * 10 + (48 + a - 48)) * 10 + (48 + b - 48) = _
    omega
  have v2 : digitsVal [48 + c, 48 + d] = r / 60000 % 60 := by
    show (0 * 10 + (48 + c - 48)) * 10 + (48 + d - 48) = _
    omega
  have v3 : digitsVal [48 + e, 48 + f] = r / 1000 % 60 := by
    show (0 * 10 + (48 + e - 48)) * 10 + (48 + f - 48) = _
    omega
  have v4 : digitsVal [48 + g, 48 + i, 48 + j] = r % 1000 := by
    show ((0 * 10 + (48 + g - 48)) * 10 + (48 + i - 48)) * 10 + (48 + j - 48) = _
    omega
  rw [if_neg (by
    rintro (z | z | z | z)
    · exact z rfl
    · exact z rfl
    · exact z rfl
    · exact z rfl)]
  show (if hasD ([48 + a, 48 + b, 48 + c, 48 + d, 48 + e, 48 + f, 48 + g, 48 + i, 48 + j]) = false then none else if 23 < digitsVal [48 + a, 48 + b] ∨ 59 < digitsVal [48 + c, 48 + d] ∨ 59 < digitsVal [48 + e, 48 + f] then none else some (digitsVal [48 + a, 48 + b] * 3600000 + digitsVal [48 + c, 48 + d] * 60000 + digitsVal [48 + e, 48 + f] * 1000 + digitsVal [48 + g, 48 + i, 48 + j])) = some r
  rw [hD, if_neg (by decide), v1, v2, v3, v4, if_neg (by omega)]
  congr 1
  omega
theorem num_hd : ∀ n : Nat, 0 < n → (TL.numL n).head? ≠ some 48 := by
  intro n
  induction n using Nat.strongRecOn with
  | ind n ih =>
    intro hn
    by_cases h : n < 10
    · rw [TL.numL_lt h]
      intro e
      injection e with e
      omega
    · rw [TL.numL_step (by omega), List.head?_append]
      have := ih (n / 10) (by omega) (by omega)
      cases e : (TL.numL (n / 10)).head? with
      | none => exact absurd (List.head?_eq_none_iff.mp e) (TL.numL_ne _)
      | some c =>
        rw [e] at this
        exact this
theorem num_hasD (n : Nat) : hasD (TL.numL n) = true := hasD_iff.mpr ⟨TL.numL_ne n, TL.numL_digits n⟩
theorem num_cnt {n : Nat} (h : n < 10 ^ 30) : isCnt (TL.numL n) = true := by
  unfold isCnt
  rw [num_hasD, decide_eq_true (TL.numL_len (by decide) h), Bool.true_and, Bool.true_and, Bool.or_eq_true]
  rcases Nat.eq_zero_or_pos n with e | e
  · subst e
    exact .inl (by decide)
  · exact .inr (decide_eq_true (num_hd n e))
theorem num_hd45 (n : Nat) : (TL.numL n).head? ≠ some 45 := fun e => TL.numL_free (.inl (by decide)) (List.mem_of_mem_head? (Option.mem_def.mpr e))
theorem int_wr {z : Int} (h : z.natAbs < 10 ^ 30) : isWr (intL z) = true ∧ wrV (intL z) = z := by
  unfold intL isWr wrV
  by_cases hz : z < 0
  · rw [if_pos hz]
    have e45 : (45 :: TL.numL z.natAbs).head? = some 45 := rfl
    rw [if_pos e45, if_pos e45]
    refine ⟨?_, ?_⟩
    · show (isCnt (TL.numL z.natAbs) && decide (45 :: TL.numL z.natAbs ≠ [45, 48])) = true
      rw [num_cnt h, Bool.true_and, decide_eq_true_eq]
      intro e
      injection e with _ e
      have := num_hd z.natAbs (by omega)
      rw [e] at this
      exact this rfl
    · show -((digitsVal (TL.numL z.natAbs) : Nat) : Int) = z
      rw [TL.numL_val]
      omega
  · rw [if_neg hz, if_neg (num_hd45 _), if_neg (num_hd45 _)]
    refine ⟨num_cnt h, ?_⟩
    rw [TL.numL_val]
    omega
theorem read_span {z : Int} (h : z.natAbs < 10 ^ 30) : readSp (spanL z) = some z := by
  have hr : z.natAbs % 86400000 < 86400000 := Nat.mod_lt _ (by decide)
  have hq : z.natAbs / 86400000 < 10 ^ 30 := by omega
  have hp : TL.par [100, 32] [] (TL.numL (z.natAbs / 86400000) ++ (100 :: 32 :: timeL (z.natAbs % 86400000))) = some (TL.numL (z.natAbs / 86400000), timeL (z.natAbs % 86400000)) := SX.par_head _ (TL.numL_free (.inr (by decide)))
  unfold readSp spanL
  by_cases hz : z < 0
  · rw [if_pos hz]
    show (match TL.par [100, 32] [] (TL.numL (z.natAbs / 86400000) ++ (100 :: 32 :: timeL (z.natAbs % 86400000))) with
      | none => none
      | some (p, q) => match readT q with
        | none => none
        | some r => if isCnt p = false then none else if some 45 = some 45 ∧ digitsVal p * 86400000 + r = 0 then none
          else some (if some 45 = some 45 then -((digitsVal p * 86400000 + r : Nat) : Int) else ((digitsVal p * 86400000 + r : Nat) : Int))) = some z
    rw [hp]
    show (match readT (timeL (z.natAbs % 86400000)) with
        | none => none
        | some r => if isCnt (TL.numL (z.natAbs / 86400000)) = false then none else if some 45 = some 45 ∧ digitsVal (TL.numL (z.natAbs / 86400000)) * 86400000 + r = 0 then none
          else some (if some 45 = some 45 then -((digitsVal (TL.numL (z.natAbs / 86400000)) * 86400000 + r : Nat) : Int) else ((digitsVal (TL.numL (z.natAbs / 86400000)) * 86400000 + r : Nat) : Int))) = some z
    rw [read_time hr]
    show (if isCnt (TL.numL (z.natAbs / 86400000)) = false then none else if some 45 = some 45 ∧ digitsVal (TL.numL (z.natAbs / 86400000)) * 86400000 + z.natAbs % 86400000 = 0 then none
          else some (if some 45 = some 45 then -((digitsVal (TL.numL (z.natAbs / 86400000)) * 86400000 + z.natAbs % 86400000 : Nat) : Int) else ((digitsVal (TL.numL (z.natAbs / 86400000)) * 86400000 + z.natAbs % 86400000 : Nat) : Int))) = some z
    rw [num_cnt hq, if_neg (by decide), TL.numL_val, if_neg (by omega), if_pos rfl]
    congr 1
    omega
  · have h45 : (TL.numL (z.natAbs / 86400000) ++ (100 :: 32 :: timeL (z.natAbs % 86400000))).head? ≠ some 45 := by
      rw [List.head?_append]
      cases e : (TL.numL (z.natAbs / 86400000)).head? with
      | none => exact absurd (List.head?_eq_none_iff.mp e) (TL.numL_ne _)
      | some c =>
        have := num_hd45 (z.natAbs / 86400000)
        rw [e] at this
        exact this
    rw [if_neg hz, List.nil_append]
    simp only [if_neg h45, hp, read_time hr, num_cnt hq, TL.numL_val]
    rw [if_neg (by decide), if_neg (fun e => h45 e.1)]
    congr 1
    omega
theorem read_mom {z : Int} (h : z.natAbs < 10 ^ 30) : readMo (momL z) = some z := by
  have hr : (z % 86400000).natAbs < 86400000 := by omega
  have hq : (z / 86400000).natAbs < 10 ^ 30 := by omega
  have hi : 32 ∉ intL (z / 86400000) := by
    unfold intL
    have := TL.numL_free (n := (z / 86400000).natAbs) (s := 32) (.inl (by decide))
    split
    · intro hm
      rcases List.mem_cons.mp hm with e | e
      · cases e
      · exact this e
    · exact this
  have ht : 32 ∉ timeL (z % 86400000).natAbs := by
    obtain ⟨a, b, c, d, e, f, g, i, j, et, _⟩ := time_twelve hr
    rw [et]
    intro hm
    simp only [List.mem_cons, List.not_mem_nil, or_false] at hm
    omega
  have hs : TL.spl [32] 0 [] (momL z) = [[100, 97, 121], intL (z / 86400000), timeL (z % 86400000).natAbs] := by
    have := SX.spl_join (c := 32) (sep := []) (parts := [[100, 97, 121], intL (z / 86400000), timeL (z % 86400000).natAbs]) (List.cons_ne_nil _ _) (fun p hp => by
      simp only [List.mem_cons, List.not_mem_nil, or_false] at hp
      rcases hp with rfl | rfl | rfl
      · decide
      · exact hi
      · exact ht)
    rw [← this]
    rfl
  unfold readMo
  rw [hs]
  obtain ⟨w1, w2⟩ := int_wr hq
  show (if [100, 97, 121] = [100, 97, 121] ∧ isWr (intL (z / 86400000)) = true then _ else _) = _
  rw [if_pos ⟨rfl, w1⟩, read_time hr, w2]
  show some (z / 86400000 * 86400000 + (((z % 86400000).natAbs : Nat) : Int)) = some z
  congr 1
  omega
end Tx
end L2

/-! ### texts as lists of signs: constants, slices, sums, comparison, parts, numbers -/
namespace L2
open PySem PySem.Spec PyProof.Rows
open SX (S)
namespace Tx
open NumText
theorem slice_mid {a : List Nat} {i j : Int} (h0 : 0 ≤ i) (hij : i ≤ j) (hi : i ≤ (a.length : Int)) : Txt.slice (S a) (some i) (some j) = S ((a.take j.toNat).drop i.toNat) := by
  have hl : ((S a).length : Int) = (a.length : Int) := by rw [SX.S_len]
  by_cases hj : j ≤ (a.length : Int)
  · have e2 := beq_iff_eq.mp (PyProof.Rows.slice_closesL (x := S a) h0 hij (by omega))
    refine e2.trans (TL.ext_tl ?_)
    show (a.drop i.toNat).take (j - i).toNat = (a.take j.toNat).drop i.toNat
    rw [List.drop_take]
    congr 1
    omega
  · have e2 : Txt.slice (S a) (some i) (some j) = Txt.slice (S a) (some i) (some (a.length : Int)) := by
      unfold Txt.slice
      rw [SX.S_len, SX.idx_hi (by omega)]
    have e := beq_iff_eq.mp (PyProof.Rows.slice_closesL (x := S a) (i := i) (j := (a.length : Int)) h0 (by omega) (by omega))
    refine (e2.trans e).trans (TL.ext_tl ?_)
    show (a.drop i.toNat).take ((a.length : Int) - i).toNat = (a.take j.toNat).drop i.toNat
    rw [List.take_of_length_le (l := a) (by omega), List.take_of_length_le (by rw [List.length_drop]; omega)]
theorem str_int (z : Int) : Str.ofString (toString z) = S (intL z) := by
  unfold intL
  by_cases h : z < 0
  · rw [if_pos h]
    obtain ⟨n, rfl⟩ : ∃ n : Nat, z = Int.negSucc n := ⟨(-z - 1).toNat, by omega⟩
    refine TL.ext_tl ?_
    rw [TL.tl_ofString]
    show ("-" ++ Nat.repr (n + 1)).toList.map Char.toNat = 45 :: TL.numL (n + 1)
    rw [String.toList_append, List.map_append, Nat.toList_repr]
    rfl
  · rw [if_neg h]
    have e := SX.num_S z.natAbs
    rw [show ((z.natAbs : Nat) : Int) = z by omega] at e
    exact e
theorem zfill_num (n W : Nat) : Txt.zfill (S (TL.numL n)) (W : Int) = S (padL W n) := by
  unfold Txt.zfill padL
  rw [SX.S_len]
  split
  · rename_i h
    rw [show W - (TL.numL n).length = 0 by omega]
    rfl
  · rename_i h
    have h45 := TL.numL_free (n := n) (s := 45) (.inl (by decide))
    have h43 := TL.numL_free (n := n) (s := 43) (.inl (by decide))
    rw [Int.toNat_natCast]
    unfold zfilled
    have hp : Builtin.Str.padded (S (TL.numL n)) (W - (TL.numL n).length) 0 48 = S (List.replicate (W - (TL.numL n).length) 48 ++ TL.numL n) := by
      refine TL.ext_tl ?_
      show (Array.replicate (W - (TL.numL n).length) 48 ++ (TL.numL n).toArray ++ Array.replicate 0 48).toList = _
      simp
    have e0 : (S (TL.numL n)).cps[0]? = (TL.numL n)[0]? := by simp
    rw [e0]
    split
    · rename_i h1
      exact absurd (List.mem_of_getElem? h1) h43
    · rename_i h1
      exact absurd (List.mem_of_getElem? h1) h45
    · exact hp
def parL (b a : List Nat) : List Nat × List Nat × List Nat := match TL.par b [] a with
  | some (p, q) => (p, b, q)
  | none => (a, [], [])
theorem partition_S {a b : List Nat} (hb : b ≠ []) : Txt.partition (S a) (S b) = (S (parL b a).1, S (parL b a).2.1, S (parL b a).2.2) := by
  unfold parL
  cases h : TL.par b [] a with
  | none => exact SX.partition_none hb h
  | some pq => exact SX.partition_some hb h
/-- the integer that a text of digits, or of a minus and digits, tells -/
def IntT (a : List Nat) (z : Int) : Prop := (hasD a = true ∧ z = ((digitsVal a : Nat) : Int)) ∨ (a.head? = some 45 ∧ hasD (a.drop 1) = true ∧ z = -((digitsVal (a.drop 1) : Nat) : Int))
theorem IntT.ok {a : List Nat} {z : Int} (h : IntT a z) (hl : a.length ≤ 640) : intText? (S a) = some z := by
  rcases h with ⟨h, rfl⟩ | ⟨h1, h, rfl⟩
  · obtain ⟨h1, h2⟩ := hasD_iff.mp h
    exact intText_digits (x := S a) h2 h1 (by rw [SX.S_len]; omega)
  · obtain ⟨h3, h2⟩ := hasD_iff.mp h
    match a, h1, h2, h3, hl with
    | c :: r, h1, h2, h3, hl =>
      injection h1 with h1
      subst h1
      exact intText_neg (x := S (45 :: r)) rfl h2 h3 (by rw [SX.S_len]; omega)
theorem sign_S (c : Nat) : (⟨#[c]⟩ : Str) = S [c] := rfl
theorem V_eq {a b : List Nat} : (V.str (S a) = V.str (S b)) ↔ a = b := ⟨fun h => SX.S_inj (by injection h), fun h => by rw [h]⟩
end Tx
section
variable {X : Cx} {e : Expr} {te t to : TE} {pos : Pos}
theorem pe_strS {x : Str} {j : Nat} {l : List Nat} (h : x = S l) : PE X (.Constant (.str x) j pos) (tC (.str (S l))) := by
  subst h
  exact pe_str
def rSlTo : V → Option Int → Option Int → Hp → VK → Prop := fun x lo hi H Q => ∃ (a : List Nat) (j : Int), x = .str (S a) ∧ lo = none ∧ hi = some j ∧ 0 ≤ j ∧ a.length ≤ sizeLine ∧ Q (.str (S (a.take j.toNat))) H
def rSlFrom : V → Option Int → Option Int → Hp → VK → Prop := fun x lo hi H Q => ∃ (a : List Nat) (i : Int), x = .str (S a) ∧ lo = some i ∧ hi = none ∧ 0 ≤ i ∧ a.length ≤ sizeLine ∧ Q (.str (S (a.drop i.toNat))) H
def rSlMid : V → Option Int → Option Int → Hp → VK → Prop := fun x lo hi H Q => ∃ (a : List Nat) (i j : Int), x = .str (S a) ∧ lo = some i ∧ hi = some j ∧ 0 ≤ i ∧ i ≤ j ∧ i ≤ (a.length : Int) ∧ a.length ≤ sizeLine ∧ Q (.str (S ((a.take j.toNat).drop i.toNat))) H
theorem sl_Sto : SlR X rSlTo := by
  intro pins s σ H x v vl vu lo hi sl Q I rx hs pl pu h
  obtain ⟨a, j, rfl, rfl, rfl, hj, hz, q⟩ := h
  exact C8.sl_txt pins s σ H _ v vl vu none (some j) sl Q I rx hs pl pu ⟨S a, rfl, by rw [SX.S_len]; exact hz, by rw [SX.slice_to hj]; exact q⟩
theorem sl_Sfrom : SlR X rSlFrom := by
  intro pins s σ H x v vl vu lo hi sl Q I rx hs pl pu h
  obtain ⟨a, i, rfl, rfl, rfl, hi, hz, q⟩ := h
  exact C8.sl_txt pins s σ H _ v vl vu (some i) none sl Q I rx hs pl pu ⟨S a, rfl, by rw [SX.S_len]; exact hz, by rw [SX.slice_from hi]; exact q⟩
theorem sl_Smid : SlR X rSlMid := by
  intro pins s σ H x v vl vu lo hi sl Q I rx hs pl pu h
  obtain ⟨a, i, j, rfl, rfl, rfl, hi, hij, hil, hz, q⟩ := h
  exact C8.sl_txt pins s σ H _ v vl vu (some i) (some j) sl Q I rx hs pl pu ⟨S a, rfl, by rw [SX.S_len]; exact hz, by rw [Tx.slice_mid hi hij hil]; exact q⟩
/-- text[i] -/
def rIxSS : V → V → Hp → VK → Prop := fun x y H Q => ∃ (a : List Nat) (i : Int) (c : Nat), x = .str (S a) ∧ y = .int i ∧ 0 ≤ i ∧ a[i.toNat]? = some c ∧ a.length ≤ sizeLine ∧ Q (.str (S [c])) H
theorem ix_S : IxR X rIxSS := by
  have h0 : IxR X rIxS := ix_str
  intro value slice pins s σ H x y v u Q I rx ry h hs
  obtain ⟨a, i, c, rfl, rfl, hi, hc, hz, q⟩ := h
  exact h0 value slice pins s σ H _ _ v u Q I rx ry ⟨S a, i, c, rfl, rfl, by rw [SX.S_len]; exact hz, atI_pos hi hc, q⟩ hs
theorem op_addS : OpR X (binaryOp .Add) (fun x y H Q => ∃ a b : List Nat, x = .str (S a) ∧ y = .str (S b) ∧ a.length + b.length ≤ sizeLine ∧ Q (.str (S (a ++ b))) H) := by
  intro pins s σ H x y v u Q I rx ry h
  obtain ⟨a, b, rfl, rfl, hz, q⟩ := h
  exact op_add_str pins s σ H _ _ v u Q I rx ry ⟨S a, S b, rfl, rfl, by rw [SX.S_len, SX.S_len]; exact hz, by rw [SX.S_cat]; exact q⟩
theorem op_eqS : OpR X (compareOp .Eq) (fun x y H Q => ∃ a b : List Nat, x = .str (S a) ∧ y = .str (S b) ∧ Q (.bl (decide (a = b))) H) := by
  intro pins s σ H x y v u Q I rx ry h
  obtain ⟨a, b, rfl, rfl, q⟩ := h
  exact op_eq pins s σ H _ _ v u Q I rx ry ⟨rfl, by rw [decide_eq_decide.mpr Tx.V_eq]; exact q⟩
theorem op_neS : OpR X (compareOp .NotEq) (fun x y H Q => ∃ a b : List Nat, x = .str (S a) ∧ y = .str (S b) ∧ Q (.bl (!decide (a = b))) H) := by
  intro pins s σ H x y v u Q I rx ry h
  obtain ⟨a, b, rfl, rfl, q⟩ := h
  exact op_ne pins s σ H _ _ v u Q I rx ry ⟨rfl, by rw [decide_eq_decide.mpr Tx.V_eq]; exact q⟩
theorem op_inC : OpR X (compareOp .In) (fun x y H Q => ∃ (c : Nat) (z : List Nat), x = .str (S [c]) ∧ y = .str (S z) ∧ Q (.bl (decide (c ∈ z))) H) := by
  intro pins s σ H x y v u Q I rx ry h
  obtain ⟨c, z, rfl, rfl, q⟩ := h
  exact op_in_sign pins s σ H _ _ v u Q I rx ry ⟨c, S z, rfl, rfl, q⟩
theorem op_notInC : OpR X (compareOp .NotIn) (fun x y H Q => ∃ (c : Nat) (z : List Nat), x = .str (S [c]) ∧ y = .str (S z) ∧ Q (.bl (!decide (c ∈ z))) H) := by
  intro pins s σ H x y v u Q I rx ry h
  obtain ⟨c, z, rfl, rfl, q⟩ := h
  exact op_notIn_sign pins s σ H _ _ v u Q I rx ry ⟨c, S z, rfl, rfl, q⟩
theorem call_strS : CallR X (.type "str") (fun xs H Q => ∃ i : Int, xs = [.int i] ∧ i.natAbs.log2 < 1920 ∧ Q (.str (S (Tx.intL i))) H) := by
  intro pins s σ H xs us Q I rs h
  obtain ⟨i, rfl, hl, q⟩ := h
  exact call_str_int pins s σ H _ us Q I rs ⟨i, rfl, hl, by
    show Q (.str (Str.ofString (toString i))) H
    rw [Tx.str_int]
    exact q⟩
theorem call_intS : CallR X (.type "int") (fun xs H Q => ∃ (a : List Nat) (z : Int), xs = [.str (S a)] ∧ a.length ≤ 640 ∧ Tx.IntT a z ∧ Q (.int z) H) := by
  intro pins s σ H xs us Q I rs h
  obtain ⟨a, z, rfl, hl, hi, q⟩ := h
  exact call_int_str pins s σ H _ us Q I rs ⟨S a, z, rfl, hi.ok hl, by rw [SX.S_len]; exact hl, q⟩
theorem call_lenS : CallR X (.builtin "len") (fun xs H Q => ∃ a : List Nat, xs = [.str (S a)] ∧ a.length ≤ sizeLine ∧ Q (.int (a.length : Int)) H) := by
  intro pins s σ H xs us Q I rs h
  obtain ⟨a, rfl, hl, q⟩ := h
  exact call_len_str pins s σ H _ us Q I rs ⟨S a, rfl, by rw [SX.S_len]; exact hl, by rw [SX.S_len]; exact q⟩
/-! methods -/
theorem mt_partS : MtR X "str.partition" (fun x xs H Q => ∃ a b : List Nat, x = .str (S a) ∧ xs = [.str (S b)] ∧ b ≠ [] ∧ a.length ≤ sizeLine ∧ ∀ p, H p = none → Q (.ref p) (upd H p (.tup [.str (S (Tx.parL b a).1), .str (S (Tx.parL b a).2.1), .str (S (Tx.parL b a).2.2)]))) := by
  intro pins s σ H x xs u us Q I rx rs h
  obtain ⟨a, b, rfl, rfl, hb, hl, q⟩ := h
  refine mt_partition pins s σ H _ _ u us Q I rx rs ⟨S a, S b, rfl, rfl, ?_, by rw [SX.S_len]; exact hl, ?_⟩
  · rw [SX.S_len]
    cases b with
    | nil => exact absurd rfl hb
    | cons c r => rfl
  · rw [Tx.partition_S hb]
    exact q
theorem mt_splitS : MtR X "str.split" (fun x xs H Q => ∃ a b : List Nat, x = .str (S a) ∧ xs = [.str (S b)] ∧ b ≠ [] ∧ b.all (· < 256) = true ∧ a.length + 2 ≤ sizeLine ∧ ∀ p, H p = none → Q (.ref p) (upd H p (.lst ((TL.spl b 0 [] a).map fun l => V.str (S l))))) := by
  intro pins s σ H x xs u us Q I rx rs h
  obtain ⟨a, b, rfl, rfl, hb, hk, hl, q⟩ := h
  refine mt_split pins s σ H _ _ u us Q I rx rs ⟨S a, S b, rfl, rfl, ?_, by rw [SX.S_len]; exact hl, ?_⟩
  · rw [SX.S_len]
    cases b with
    | nil => exact absurd rfl hb
    | cons c r => rfl
  · rw [SX.split_S hb hk]
    intro p hp
    rw [List.map_map]
    exact q p hp
theorem mt_joinS : MtR X "str.join" (fun x xs H Q => ∃ (a : List Nat) (p : Addr) (ys : List (List Nat)), x = .str (S a) ∧ xs = [.ref p] ∧ SqL X.K H p (ys.map fun l => V.str (S l)) ∧ (ys.map (·.length)).sum + ys.length * a.length ≤ 16777216 ∧ Q (.str (S (TL.joinL a ys))) H) := by
  intro pins s σ H x xs u us Q I rx rs h
  obtain ⟨a, p, ys, rfl, rfl, hp, hz, q⟩ := h
  refine mt_join pins s σ H _ _ u us Q I rx rs ⟨S a, p, ys.map S, rfl, rfl, .inl (by rw [List.map_map]; exact hp), ?_, by rw [SX.join_S]; exact q⟩
  rw [SX.lens, List.length_map, SX.S_len]
  exact hz
theorem mt_zfillS : MtR X "str.zfill" (fun x xs H Q => ∃ (n W : Nat), x = .str (S (TL.numL n)) ∧ xs = [.int (W : Int)] ∧ W < 100 ∧ Q (.str (S (Tx.padL W n))) H) := by
  intro pins s σ H x xs u us Q I rx rs h
  obtain ⟨n, W, rfl, rfl, hW, q⟩ := h
  refine mt_zfill pins s σ H _ _ u us Q I rx rs ⟨S (TL.numL n), W, rfl, rfl, ?_, by rw [Tx.zfill_num]; exact q⟩
  exact (show ∀ W < 100, PadOk ((W : Nat) : Int) = true by decide +kernel) W hW
/-! f-strings -/
def tFmtS (te : TE) : TE := fun σ H Q => te σ H fun x H1 => (∃ a : List Nat, x = .str (S a) ∧ a.length ≤ sizeLine ∧ Q (.str (S a)) H1) ∨ ∃ i : Int, x = .int i ∧ i.natAbs.log2 < 1920 ∧ Q (.str (S (Tx.intL i))) H1
theorem pe_fmtS (he : PE X e te) : PE X (.FormattedValue e (-1) none pos) (tFmtS te) := by
  refine ⟨fun pins s σ H Q I h => ?_⟩
  refine wpAny_FormattedValue_plain (thn (he.run pins s σ H _ I h) fun v s1 hv => ?_)
  obtain ⟨x, H1, I1, r1, q⟩ := hv
  rcases q with ⟨a, rfl, hz, q⟩ | ⟨i, rfl, hz, q⟩
  · obtain ⟨t, rfl⟩ := r1
    exact wpAny_formatField_str ⟨.str (S a), H1, I1, ⟨t, rfl⟩, q⟩ ⟨.str (S a), H1, I1.tok _, ⟨_, rfl⟩, q⟩ (by rw [SX.S_len]; exact hz)
  · obtain ⟨t, rfl⟩ := r1
    refine wpAny_formatField_int hz ?_
    exact ⟨.str (S (Tx.intL i)), H1, I1.tok _, (by rw [← Tx.str_int]; exact ⟨_, rfl⟩), q⟩
/-- the texts one behind the other -/
def tJsS : List TE → List Nat → St → Hp → (List Nat → Hp → Prop) → Prop
  | [], acc, _, H, Q => Q acc H
  | t :: ts, acc, σ, H, Q => t σ H fun x H1 => ∃ y : List Nat, x = .str (S y) ∧ acc.length + y.length ≤ sizeLine ∧ tJsS ts (acc ++ y) σ H1 Q
theorem pj_runS {pins : List (Addr × Obj)} {σ : St} {es : List Expr} {ts : List TE} (h : PJ X es ts) : ∀ (acc : List Nat) (s : Shared) (H : Hp) (Q : List Nat → Hp → Prop) (R : Str → Shared → Prop), acc.length ≤ sizeLine → Inv X pins σ H s → tJsS ts acc σ H Q →
    (∀ out s1 H1, out.length ≤ sizeLine → Inv X pins σ H1 s1 → Q out H1 → R (S out) s1) → Joins (model X.prog X.w) X.A X.xe (evalEach es X.env) (S acc) R s := by
  induction h with
  | nil =>
    intro acc s H Q R hz I q k
    have e0 : evalEach [] X.env = [] := by first | rfl | simp [evalEach]
    rw [e0]
    exact k acc s H hz I q
  | @cons e t es ts he r ih =>
    intro acc s H Q R hz I q k
    have e0 : evalEach (e :: es) X.env = eval e X.env :: evalEach es X.env := by first | rfl | simp [evalEach]
    rw [e0]
    refine thn (he.run pins s σ H _ I q) fun v s1 hv => ?_
    obtain ⟨x, H1, I1, r1, y, rfl, hy, q1⟩ := hv
    obtain ⟨tk, rfl⟩ := r1
    refine ⟨S y, tk, rfl, ?_, ?_⟩
    · rw [SX.S_cat, SX.S_len, List.length_append]
      exact hy
    · rw [SX.S_cat]
      exact ih (acc ++ y) s1 H1 Q R (by rw [List.length_append]; exact hy) I1 q1 k
theorem pe_joinedS {v1 v2 : Expr} {rest : List Expr} {ts : List TE} (h : PJ X (v1 :: v2 :: rest) ts) : PE X (.JoinedStr (v1 :: v2 :: rest) pos) (fun σ H Q => tJsS ts [] σ H fun out H1 => Q (.str (S out)) H1) := by
  refine ⟨fun pins s σ H Q I q => ?_⟩
  exact wpAny_JoinedStr (pj_runS h [] s H (fun out H1 => Q (.str (S out)) H1) _ (Nat.zero_le _) I q fun out s1 H1 hz I1 q1 => ⟨by rw [SX.S_len]; exact hz, .str (S out), H1, I1.tok _, ⟨_, rfl⟩, q1⟩)
/-! a for over a text -/
theorem for_S {a : List Nat} {g : TG} {tb : TS} {D : Ends} {σ : St} {H : Hp} (Pv : Nat → St → Hp → Prop) (h0 : Pv 0 σ H)
    (hs : ∀ i c σ H, a[i]? = some c → Pv i σ H → g (.str (S [c])) σ H fun σ2 H2 => tb { D with nx := Pv (i + 1), ct := Pv (i + 1), bk := D.nx } σ2 H2) (hd : ∀ σ H, Pv a.length σ H → D.nx σ H) :
    ∃ W : Nat → Nat → St → Hp → Prop, (∃ m, W 0 m σ H) ∧ ∀ i m σ H, W i m σ H →
      ((Its (S a)).stop i H ∧ D.nx σ H) ∨ ((Its (S a)).go i H ∧ ∃ N : St → Hp → Prop, (∀ σ' H', N σ' H' → ∃ m', m' < m ∧ W (i + 1) m' σ' H') ∧ ∀ x H', (Its (S a)).yld i H x H' → g x σ H' fun σ2 H2 => tb { D with nx := N, ct := N, bk := D.nx } σ2 H2) := by
  have es : (S a).cps.size = a.length := by simp
  refine ⟨fun i m σ H => m = a.length - i ∧ i ≤ a.length ∧ Pv i σ H, ⟨a.length, by simp, Nat.zero_le _, h0⟩, ?_⟩
  rintro i m σ H ⟨rfl, hi, p⟩
  by_cases hlt : i < a.length
  · refine .inr ⟨show i < (S a).cps.size by rw [es]; exact hlt, Pv (i + 1), fun σ' H' p' => ⟨a.length - (i + 1), by omega, rfl, hlt, p'⟩, fun x H' y => ?_⟩
    obtain ⟨e, c, hc, ex⟩ := y
    subst e
    subst ex
    exact hs i c σ _ (by rw [← hc]; simp) p
  · have e : i = a.length := by omega
    subst e
    exact .inl ⟨show (S a).cps.size ≤ a.length by rw [es]; exact Nat.le_refl _, hd σ H p⟩
end
end L2

/-! ### C(*y, k = v): a class made from a list's items and one keyword -/
namespace PySem.W
open PySem PySem.Calls PyProof.Rows
section
variable {M : Model} {A : Around} {E : Value → Shared → Prop} {s : Shared}
theorem ks_loneK {f : Value} {x : Sem Value} {pos : Pos} {kws : List (Option Str × Sem Value)} {Q : Args → Shared → Prop} (hall : kws.all (·.1.isSome) = true)
    (h : wpAny M A x (fun v s₁ => wpAny M A (evalAll (kws.map (·.2))) (fun ks s₂ => StarOf M A E v (fun vs s₃ => Q ⟨vs, (kws.filterMap (·.1)).zip ks⟩ s₃) s₂) E s₁) E s) :
    wpAny M A (evalArgs f true [(true, (do let v ← x; standAt pos; pure v))] kws) Q E s := by
  unfold evalArgs
  first
    | refine wpAny_bind (wpAny_bind (wpAny_mono h (fun v s₁ h₁ => wpAny_bind (wpAny_standAt (wpAny_pure ?_))) fun _ _ x => x))
    | refine wpAny_bind (wpAny_bind (wpAny_bind (wpAny_mono h (fun v s₁ h₁ => wpAny_bind (wpAny_standAt (wpAny_pure (wpAny_pure ?_)))) fun _ _ x => x)))
  refine wpAny_holding ?_
  simp only [hall, if_true]
  refine wpAny_bind (wpAny_mono h₁ (fun ks s₂ h₂ => ?_) fun _ _ x => x)
  unfold StarOf at h₂
  refine wpAny_bind (wpAny_bind (wpAny_mono h₂ (fun b s₃ h₃ => ?_) fun _ _ x => x))
  obtain ⟨rfl, h₃⟩ := h₃
  have z : wpAny M A (holding (((kws.filterMap (·.1)).zip ks).map (·.2)) (collect v) >>= fun vs => (pure (⟨vs, (kws.filterMap (·.1)).zip ks⟩ : Args) : Sem Args)) Q E s₃ := wpAny_bind (wpAny_holding (wpAny_mono h₃ (fun vs s₄ h₄ => wpAny_pure h₄) fun _ _ x => x))
  try simp only [Bool.false_eq_true, if_false]
  first
    | exact z
    | exact wpAny_bind (wpAny_pure z)
    | exact wpAny_holding (wpAny_mono h₃ (fun vs s₄ h₄ => wpAny_pure h₄) fun _ _ x => x)
theorem ks_callK {f : Value} {first : List Value} {pos : Pos} {Q : Value → Shared → Prop} {P : Heap → Prop} {args : List (Bool × Sem Value)} {kws : List (Option Str × Sem Value)} (hst : args.any (·.1) = true)
    (hk : ∀ h, P h → ∃ k, (k = Keeper.frame ∨ k = Keeper.machine ∨ k = Keeper.boundFrame) ∧ Looks M h (keeperOf f) k)
    (h : wpAny M A (evalArgs f true args kws) (fun a s₁ => P s₁.heap ∧ wpAny M A (call f (first ++ a.pos) a.kw) Q E s₁) E s) : wpAny M A (callWith pos f first args kws) Q E s := by
  unfold callWith
  refine wpAny_bind (wpAny_holding (wpAny_mono h (fun a s₁ h₁ => wpAny_bind (wpAny_standAt ?_)) fun _ _ x => x))
  obtain ⟨k, hk', L⟩ := hk _ h₁.1
  simp only [hst, Bool.true_or]
  refine wpAny_bind (L.here ?_)
  have tail : ∀ {t : Sem Value}, wpAny M A t Q E s₁ → wpAny M A (t >>= fun r => holding [r] point >>= fun _ => pure r) Q E s₁ :=
    fun ht => wpAny_bind (wpAny_mono ht (fun r s₂ hr => wpAny_bind (wpAny_holding (wpAny_point (wpAny_pure hr)))) fun _ _ x => x)
  have marked (mk : Value) : wpAny M A (callMarked mk f (first ++ a.pos) a.kw) Q E s₁ := by unfold callMarked; exact Calls.wpAny_keep h₁.2
  rcases hk' with rfl | rfl | rfl <;> dsimp only <;> first | exact tail (marked _) | exact tail (wpAny_operating h₁.2)
end
section
variable {M : Model} {A : Around} {E : Value → Shared → Prop} {s : Shared} {K : Frag} {env : Env} {pos p : Pos} {f : Value} {first : List Value} {Q : Value → Shared → Prop} {h₀ : Heap} {e : Expr} {rest : List Expr} {kws : List Keyword}
theorem callWith_SK (_X : K.In h₀) (hk : keepIn K f = true) (hall : (backToKw pos (keywordEach kws env)).all (·.1.isSome) = true)
    (h : wpAny M A (eval e env) (fun v s₁ => wpAny M A (evalAll ((backToKw pos (keywordEach kws env)).map (·.2))) (fun ks s₂ => StarOf M A E v (fun vs s₃ => K.In s₃.heap ∧ wpAny M A (call f (first ++ vs) (((backToKw pos (keywordEach kws env)).filterMap (·.1)).zip ks)) Q E s₃) s₂) E s₁) E s)
    (he : starEach [.Starred e p] env = [(true, eval e env)] := by rfl) :
    wpAny M A (callWith pos f first (backTo pos (starEach [.Starred e p] env)) (backToKw pos (keywordEach kws env))) Q E s := by
  rw [he]
  exact ks_callK rfl (keeps_K hk) (ks_loneK hall h)
end
end PySem.W
namespace L2
open PySem PySem.Spec PyProof.Rows
section
variable {X : Cx} {CX : CXT} {k : Nat} {f C : Addr} {sp : Sp} {E : L2.St → XK} {x kn : Str} {p pos kpos : Pos} {e ke : Expr} {te tk : TE}
/-- C(*y, k = v) -/
def tMakeSKS (K : PySem.W.Frag) (C : Addr) (sp : Sp) (E : L2.St → XK) (te tk : TE) : TE := fun σ H Q => te σ H fun y H1 => tk σ H1 fun z H2 => ∃ a vs, y = V.ref a ∧ (SqT K H2 a vs ∨ SqL K H2 a vs) ∧ vs ≠ [] ∧ vs.length ≤ sizeLine ∧
  ∀ x dx pt, H2 x = none → H2 dx = none → dx ≠ x → H2 pt = none → pt ≠ x → pt ≠ dx → sp [.ref x, z, .ref pt] (upd (upd (upd H2 dx (.own x)) x (.ins C dx [])) pt (.tup vs)) (fun v H3 => v = .non ∧ Q (.ref x) H3) (E σ)
theorem pe_makeSKS {sp_ : Pos} (M : Mk X.K C f) (F : FnSK X.prog X.w X.K X.mg X.base CX k f kn sp) (hr : Room (k + 1) X.A) (hg : Gl X x) (hm : X.mg x = some (.ref C)) (hx : ∀ σ, PassesAt CX X σ (E σ)) (he : PE X e te) (hk : PE X ke tk)
    (hdb : (x == ("__debug__" : Str)) = false := by decide) (hst : starEach [.Starred e sp_] X.env = [(true, eval e X.env)] := by rfl)
    (hall : (backToKw pos (keywordEach [⟨some kn, ke, kpos⟩] X.env)).all (·.1.isSome) = true := by rfl) (hks : (backToKw pos (keywordEach [⟨some kn, ke, kpos⟩] X.env)).filterMap (·.1) = [kn] := by rfl) :
    PE X (.Call (.Name x p) [.Starred e sp_] [⟨some kn, ke, kpos⟩] pos) (tMakeSKS X.K C sp E te tk) := by
  refine ⟨fun pins s σ H Q I h => ?_⟩
  refine wpAny_Call_Name_kw (ld_glob I hg hm ?_ hdb)
  refine PySem.W.callWith_SK (h₀ := X.base) I.ok.mod.kin M.kp hall (thn (he.run pins s σ H _ I h) fun v s1 hh => ?_) hst
  obtain ⟨y, H1, I1, ry, q⟩ := hh
  have hkw : PK X [⟨some kn, ke, kpos⟩] (tCons tk tNil) := pk_cons hk pk_nil
  refine thn (hkw.run pos pins s1 σ H1 (fun zs H2 => match zs with
    | [z] => ∃ a vs, y = V.ref a ∧ (SqT X.K H2 a vs ∨ SqL X.K H2 a vs) ∧ vs ≠ [] ∧ vs.length ≤ sizeLine ∧ ∀ x dx pt, H2 x = none → H2 dx = none → dx ≠ x → H2 pt = none → pt ≠ x → pt ≠ dx → sp [.ref x, z, .ref pt] (upd (upd (upd H2 dx (.own x)) x (.ins C dx [])) pt (.tup vs)) (fun v H3 => v = .non ∧ Q (.ref x) H3) (E σ)
    | _ => False) I1 q) fun ws s2 hh => ?_
  obtain ⟨zs, H2, I2, rz, hh⟩ := hh
  cases rz with
  | nil => exact hh.elim
  | cons rz1 rz2 =>
    cases rz2 with
    | cons _ _ => exact hh.elim
    | nil =>
    obtain ⟨a, vs, ey, hxs, hne, hz, q2⟩ := hh
    subst ey
    obtain rfl : v = Value.ref a := ry
    rename_i z uw
    rw [hks]
    refine StX.star_any I2 hxs fun us s3 I2' r => ⟨I2'.kIn, ?_⟩
    show wpAny _ _ (call (.ref C) us [(kn, uw)]) _ _ _
    have I3 := Inv.made (C := C) I2'
    refine wpAny_call (make_map (f := f) I2'.kIn M.makes M.init (beq_iff_eq.mp M.fn) (codeAny_mono (F _ X.stack _ _ (Value.ref (s3.heap.objs.size + 1)) us uw (V.ref (s3.heap.objs.size + 1)) vs z (fun v H3 => v = .non ∧ Q (.ref (s3.heap.objs.size + 1)) H3) (E σ) (hr.make C us [(kn, uw)])
      (I3.env0.make C us [(kn, uw)]) rfl r rz1 hne hz fun pt hpt => ?_) fun r s' hq' => ?_))
    · have n0 := I2'.hok.fresh (a := s3.heap.objs.size + 1) (Nat.le_succ _)
      have n1 := I2'.hok.fresh (a := s3.heap.objs.size) (Nat.le_refl _)
      have hp1 : pt ≠ s3.heap.objs.size + 1 := fun e => by rw [e, upd_same] at hpt; cases hpt
      rw [upd_ne hp1] at hpt
      have hp2 : pt ≠ s3.heap.objs.size := fun e => by rw [e, upd_same] at hpt; cases hpt
      rw [upd_ne hp2] at hpt
      exact q2 _ _ pt n0 n1 (Nat.ne_of_lt (Nat.lt_succ_self _)) hpt hp1 hp2
    · cases r with
      | error e => exact hx σ pins _ _ e s' I3 hq'
      | ok fl =>
        cases fl with
        | ret u =>
          obtain ⟨v, H', I4, rv, ev, q3⟩ := I3.after hq'
          subst ev
          exact ⟨rv, ⟨V.ref (s3.heap.objs.size + 1), H', I4, rfl, q3⟩⟩
        | next => exact False.elim hq'
        | brk => exact False.elim hq'
        | cont => exact False.elim hq'
end
end L2

/-! ### the shortest row of any list, and its periods -/
namespace Ls
variable {α : Type} [DecidableEq α]
omit [DecidableEq α] in
theorem len_rep (s : List α) (m : Nat) : ((List.replicate m s).flatten).length = m * s.length := by
  induction m with
  | zero => simp
  | succ m ih => rw [List.replicate_succ, List.flatten_cons, List.length_append, ih, Nat.succ_mul, Nat.add_comm]
omit [DecidableEq α] in
theorem get_rep (s : List α) : ∀ (m i : Nat), i < m * s.length → ((List.replicate m s).flatten)[i]? = s[i % s.length]? := by
  intro m
  induction m with
  | zero => intro i h; simp at h
  | succ m ih =>
    intro i h
    rw [List.replicate_succ, List.flatten_cons]
    by_cases hi : i < s.length
    · rw [List.getElem?_append_left hi, Nat.mod_eq_of_lt hi]
    · rw [List.getElem?_append_right (by omega), ih (i - s.length) (by rw [Nat.succ_mul] at h; omega)]
      congr 1
      rw [Nat.mod_eq_sub_mod (show i ≥ s.length by omega)]
def fits (xs : List α) (d : Nat) : Bool := decide (xs.length % d = 0) && decide (xs = (List.replicate (xs.length / d) (xs.take d)).flatten)
def lsize (xs : List α) : Nat := match (List.range' 1 (xs.length - 1)).find? (fits xs) with
  | some k => k
  | none => xs.length
/-- d is a period of the list said again and again -/
def Pr (xs : List α) (d : Nat) : Prop := ∀ i : Nat, xs[i % xs.length]? = xs[(i + d) % xs.length]?
omit [DecidableEq α] in
theorem Pr.mul {xs : List α} {d : Nat} (h : Pr xs d) : ∀ (n i : Nat), xs[i % xs.length]? = xs[(i + n * d) % xs.length]? := by
  intro n
  induction n with
  | zero => intro i; rw [Nat.zero_mul, Nat.add_zero]
  | succ n ih =>
    intro i
    rw [ih i, h (i + n * d), Nat.succ_mul, Nat.add_assoc]
omit [DecidableEq α] in
theorem Pr.mod {xs : List α} {a b : Nat} (ha : Pr xs a) (hb : Pr xs b) : Pr xs (a % b) := by
  intro i
  rw [ha i, hb.mul (a / b) (i + a % b), Nat.add_assoc]
  have e : a % b + a / b * b = a := by rw [Nat.mul_comm]; exact Nat.mod_add_div a b
  rw [e]
omit [DecidableEq α] in
theorem Pr.self (xs : List α) : Pr xs xs.length := fun i => by rw [Nat.add_mod_right]
theorem fits_pr {xs : List α} {d : Nat} (hd : 0 < d) (h : fits xs d = true) : d ∣ xs.length ∧ Pr xs d := by
  unfold fits at h
  rw [Bool.and_eq_true] at h
  have h1 := of_decide_eq_true h.1
  have h2 := of_decide_eq_true h.2
  have hdv : d ∣ xs.length := Nat.dvd_of_mod_eq_zero h1
  refine ⟨hdv, fun i => ?_⟩
  rcases Nat.eq_zero_or_pos xs.length with e | hn
  · have : xs = [] := List.length_eq_zero_iff.mp e
    subst this
    rfl
  have hdn : d ≤ xs.length := Nat.le_of_dvd hn hdv
  have ht : (xs.take d).length = d := by rw [List.length_take]; omega
  have hm : xs.length / d * d = xs.length := Nat.div_mul_cancel hdv
  have key : ∀ j : Nat, xs[j % xs.length]? = (xs.take d)[j % d]? := fun j => by
    have hj : j % xs.length < xs.length := Nat.mod_lt _ hn
    have := get_rep (xs.take d) (xs.length / d) (j % xs.length) (by rw [ht, hm]; exact hj)
    rw [← h2, ht] at this
    rw [this, Nat.mod_mod_of_dvd _ hdv]
  rw [key i, key (i + d), Nat.add_mod_right]
theorem pr_fits {xs : List α} {d : Nat} (hd : 0 < d) (hdv : d ∣ xs.length) (h : Pr xs d) : fits xs d = true := by
  unfold fits
  rw [Bool.and_eq_true]
  refine ⟨decide_eq_true (Nat.mod_eq_zero_of_dvd hdv), decide_eq_true ?_⟩
  rcases Nat.eq_zero_or_pos xs.length with e | hn
  · have : xs = [] := List.length_eq_zero_iff.mp e
    subst this
    simp
  have hdn : d ≤ xs.length := Nat.le_of_dvd hn hdv
  have ht : (xs.take d).length = d := by rw [List.length_take]; omega
  have hm : xs.length / d * d = xs.length := Nat.div_mul_cancel hdv
  refine List.ext_getElem? fun i => ?_
  by_cases hi : i < xs.length
  · rw [get_rep _ _ _ (by rw [ht, hm]; exact hi), ht, List.getElem?_take_of_lt (Nat.mod_lt _ hd)]
    have := h.mul (i / d) (i % d)
    rw [show i % d + i / d * d = i by rw [Nat.mul_comm]; exact Nat.mod_add_div i d, Nat.mod_eq_of_lt hi, Nat.mod_eq_of_lt (Nat.lt_of_le_of_lt (Nat.mod_le _ _) hi)] at this
    exact this.symm
  · rw [List.getElem?_eq_none (by omega), List.getElem?_eq_none (by rw [len_rep, ht, hm]; omega)]
theorem lsize_pr {xs : List α} (hn : xs ≠ []) : 0 < lsize xs ∧ lsize xs ≤ xs.length ∧ lsize xs ∣ xs.length ∧ Pr xs (lsize xs) := by
  have hl : 0 < xs.length := List.length_pos_iff.mpr hn
  unfold lsize
  cases e : (List.range' 1 (xs.length - 1)).find? (fits xs) with
  | none => exact ⟨hl, Nat.le_refl _, Nat.dvd_refl _, Pr.self _⟩
  | some k =>
    have hk := List.find?_some e
    have hm := List.mem_of_find?_eq_some e
    rw [List.mem_range'_1] at hm
    obtain ⟨h1, h2⟩ := fits_pr (by omega) hk
    exact ⟨by show 0 < k; omega, by show k ≤ _; omega, h1, h2⟩
theorem lsize_fit {xs : List α} {k : Nat} (h0 : 0 < k) (hk : fits xs k = true) (hkn : k ≤ xs.length) : lsize xs ≤ k := by
  unfold lsize
  cases e : (List.range' 1 (xs.length - 1)).find? (fits xs) with
  | none =>
    rw [List.find?_eq_none] at e
    rcases Nat.lt_or_ge k xs.length with z | z
    · exact absurd hk (e k (List.mem_range'_1.mpr ⟨h0, by omega⟩))
    · exact z
  | some j =>
    rw [List.find?_eq_some_iff_getElem] at e
    obtain ⟨_, i, hi, ei, hlt⟩ := e
    rcases Nat.lt_or_ge k j with z | z
    · have := hlt (k - 1) (by simp at ei; omega)
      simp at this
      rw [show 1 + (k - 1) = k by omega, hk] at this
      cases this
    · exact z
theorem lsize_le {xs : List α} (hn : xs ≠ []) : ∀ {a : Nat}, 0 < a → Pr xs a → lsize xs ≤ a := by
  have hl : 0 < xs.length := List.length_pos_iff.mpr hn
  intro a
  induction a using Nat.strongRecOn with
  | ind a ih =>
    intro h0 ha
    rcases Nat.eq_zero_or_pos (xs.length % a) with z | z
    · have hd := Nat.dvd_of_mod_eq_zero z
      exact lsize_fit h0 (pr_fits h0 hd ha) (Nat.le_of_dvd hl hd)
    · have hr := (Pr.self xs).mod ha
      have := ih (xs.length % a) (Nat.mod_lt _ h0) z hr
      have := Nat.mod_lt xs.length h0
      omega
omit [DecidableEq α] in
theorem pr_rep {xs : List α} {t d : Nat} (ht : 0 < t) (hn : xs ≠ []) : Pr (List.replicate t xs).flatten d ↔ Pr xs d := by
  have hl : 0 < xs.length := List.length_pos_iff.mpr hn
  have hp : 0 < t * xs.length := Nat.mul_pos ht hl
  have key : ∀ j : Nat, ((List.replicate t xs).flatten)[j % ((List.replicate t xs).flatten).length]? = xs[j % xs.length]? := fun j => by
    rw [len_rep, get_rep _ _ _ (Nat.mod_lt _ hp), Nat.mod_mod_of_dvd _ (Nat.dvd_mul_left _ _)]
  constructor
  · intro h i
    have := h i
    rw [key, key] at this
    exact this
  · intro h i
    rw [key, key]
    exact h i
theorem lsize_rep {xs : List α} {t : Nat} (ht : 0 < t) (hn : xs ≠ []) : lsize (List.replicate t xs).flatten = lsize xs := by
  have hl : 0 < xs.length := List.length_pos_iff.mpr hn
  have hn2 : (List.replicate t xs).flatten ≠ [] := fun e => by
    have := len_rep xs t
    rw [e] at this
    have hp : 0 < t * xs.length := Nat.mul_pos ht hl
    simp at this
    omega
  obtain ⟨a1, _, _, a2⟩ := lsize_pr hn
  obtain ⟨b1, _, _, b2⟩ := lsize_pr hn2
  exact Nat.le_antisymm (lsize_le hn2 a1 ((pr_rep ht hn).mpr a2)) (lsize_le hn b1 ((pr_rep ht hn).mp b2))
theorem lsize_fits {xs : List α} (hn : xs ≠ []) : fits xs (lsize xs) = true := by
  obtain ⟨h0, _, hd, hp⟩ := lsize_pr hn
  exact pr_fits h0 hd hp
theorem lsize_first {xs : List α} {k : Nat} (hn : xs ≠ []) (h1 : 1 ≤ k) (hk : k ≤ xs.length) (hfit : fits xs k = true) (hno : ∀ j, 1 ≤ j → j < k → fits xs j = false) : lsize xs = k := by
  have h := lsize_fit h1 hfit hk
  rcases Nat.lt_or_ge (lsize xs) k with z | z
  · have := hno _ (lsize_pr hn).1 z
    rw [lsize_fits hn] at this
    cases this
  · omega
theorem lsize_none {xs : List α} (hn : xs ≠ []) (hno : ∀ j, 1 ≤ j → j < xs.length → fits xs j = false) : lsize xs = xs.length := by
  have h := (lsize_pr hn).2.1
  rcases Nat.lt_or_ge (lsize xs) xs.length with z | z
  · have := hno _ (lsize_pr hn).1 z
    rw [lsize_fits hn] at this
    cases this
  · omega
end Ls
namespace Gr
theorem shortest_take (ls : List Int) : shortest ls = ls.take (Ls.lsize ls) := by
  unfold shortest Ls.lsize
  show (match (List.range' 1 (ls.length - 1)).find? (Ls.fits ls) with | some k => ls.take k | none => ls) = _
  cases (List.range' 1 (ls.length - 1)).find? (Ls.fits ls) with
  | none => rw [List.take_of_length_le (Nat.le_refl _)]
  | some k => rfl
theorem shortest_again {ls : List Int} {t : Nat} (ht : 0 < t) (hn : ls ≠ []) : shortest (List.replicate t ls).flatten = shortest ls := by
  rw [shortest_take, shortest_take, Ls.lsize_rep ht hn]
  obtain ⟨t', rfl⟩ : ∃ t', t = t' + 1 := ⟨t - 1, by omega⟩
  rw [List.replicate_succ, List.flatten_cons, List.take_append_of_le_length (Ls.lsize_pr hn).2.1]
end Gr
namespace L2
open PySem PySem.Spec PyProof.Rows
/-- tuple(y), K given ahead -/
def rTupOf (K : PySem.W.Frag) : List V → Hp → VK → Prop := fun xs H Q => ∃ p ys, xs = [.ref p] ∧ ((SqL K H p ys ∧ ∀ l, H l = none → Q (.ref l) (upd H l (.tup ys))) ∨ (SqT K H p ys ∧ Q (.ref p) H))
end L2
namespace L2
open PySem PySem.Spec PyProof.Rows
section
variable {X : Cx}
def rReprT : List V → Hp → VK → Prop := fun vs H Q => ∃ a : List Nat, vs = [.str (SX.S a)] ∧ (∀ c ∈ a, c < 128) ∧ a.length ≤ 1000000 ∧ Q (.str (SX.S (reprText (SX.S a)).cps.toList)) H
/-- repr of a text of signs below 128 -/
theorem call_reprT : CallR X (.builtin "repr") rReprT := by
  intro pins s σ H vs us Q I r h
  obtain ⟨a, rfl, ha, hl, q⟩ := h
  obtain ⟨u, rfl, t, rfl⟩ := vals1 r
  refine PySem.P.repr_of_str ⟨.str _, H, I.tok _, ⟨_, rfl⟩, ?_⟩ ?_
  · rw [SX.S_tl] at q
    exact q
  · have := StrLaws.reprText_len (SX.S a) (fun c hc => by
      have := ha c hc
      have e : (16 : Nat) ^ 8 = 4294967296 := by decide
      omega)
    have e := SX.S_len a
    exact Nat.le_trans this (Nat.le_trans (show 10 * (SX.S a).length + 2 ≤ 10000002 by omega) (by decide))
end
end L2

namespace K81
open PySem PySem.Spec PyProof.Rows L2
/-! ### the text by places -/
def top (i : Nat) : Stmt := PySem.Challenge.pw_rangeends_k81_written_grains_and_steps.main.body.getD i (.Pass ⟨0, 0, 0, 0⟩)
abbrev s_BadText_init : Stmt := inClass (top 5) 0
abbrev s_is_integer : Stmt := top 9
abbrev s_shortest_row : Stmt := top 15
abbrev s_Grain_init : Stmt := inClass (top 17) 5
abbrev s_Grain_eq : Stmt := inClass (top 17) 6
abbrev s_least_form : Stmt := top 23
abbrev s_look_steps : Stmt := top 24
abbrev s_raised : Stmt := top 29
abbrev s_Step_init : Stmt := inClass (top 35) 0
abbrev s_Step_eq : Stmt := inClass (top 35) 1
abbrev s_Step_add : Stmt := inClass (top 35) 6
abbrev s_has_digits : Stmt := top 39
abbrev s_is_count : Stmt := top 40
abbrev s_is_written : Stmt := top 41
abbrev s_look_string : Stmt := top 42
abbrev s_show_grain : Stmt := top 43
abbrev s_grain_parts : Stmt := top 44
abbrev s_read_grain : Stmt := top 45
abbrev s_show_step : Stmt := top 46
abbrev s_read_step : Stmt := top 47
abbrev s_l_bag : Stmt := top 49
abbrev s_l_take : Stmt := top 50
abbrev s_l_gap : Stmt := top 51
abbrev s_l_map : Stmt := top 52
abbrev s_l_again : Stmt := top 53
abbrev s_l_text : Stmt := top 54
abbrev s_l_row : Stmt := top 55
abbrev s_l_grain : Stmt := top 56
abbrev s_l_least : Stmt := top 57
abbrev s_law : Stmt := top 58
def d_BadText_init : He5.DefA := ⟨fun K => (He.fAd K ("BadText", some "__init__")), "__init__", "BadText.__init__", defArgs s_BadText_init, defBody s_BadText_init, defScope s_BadText_init, [], []⟩
def d_is_integer : He5.DefA := ⟨fun K => (He.fAd K ("is_integer", none)), "is_integer", "is_integer", defArgs s_is_integer, defBody s_is_integer, defScope s_is_integer, [], []⟩
def d_shortest_row : He5.DefA := ⟨fun K => (He.fAd K ("shortest_row", none)), "shortest_row", "shortest_row", defArgs s_shortest_row, defBody s_shortest_row, defScope s_shortest_row, [], []⟩
def d_Grain_init : He5.DefA := ⟨fun K => (He.fAd K ("Grain", some "__init__")), "__init__", "Grain.__init__", defArgs s_Grain_init, defBody s_Grain_init, defScope s_Grain_init, [], []⟩
def d_Grain_eq : He5.DefA := ⟨fun K => (He.fAd K ("Grain", some "__eq__")), "__eq__", "Grain.__eq__", defArgs s_Grain_eq, defBody s_Grain_eq, defScope s_Grain_eq, [], []⟩
def d_least_form : He5.DefA := ⟨fun K => (He.fAd K ("least_form", none)), "least_form", "least_form", defArgs s_least_form, defBody s_least_form, defScope s_least_form, [], []⟩
def d_look_steps : He5.DefA := ⟨fun K => (He.fAd K ("look_steps", none)), "look_steps", "look_steps", defArgs s_look_steps, defBody s_look_steps, defScope s_look_steps, [], []⟩
def d_raised : He5.DefA := ⟨fun K => (He.fAd K ("raised", none)), "raised", "raised", defArgs s_raised, defBody s_raised, defScope s_raised, [], []⟩
def d_Step_init : He5.DefA := ⟨fun K => (He.fAd K ("Step", some "__init__")), "__init__", "Step.__init__", defArgs s_Step_init, defBody s_Step_init, defScope s_Step_init, [], []⟩
def d_Step_eq : He5.DefA := ⟨fun K => (He.fAd K ("Step", some "__eq__")), "__eq__", "Step.__eq__", defArgs s_Step_eq, defBody s_Step_eq, defScope s_Step_eq, [], []⟩
def d_Step_add : He5.DefA := ⟨fun K => (He.fAd K ("Step", some "__add__")), "__add__", "Step.__add__", defArgs s_Step_add, defBody s_Step_add, defScope s_Step_add, [], []⟩
def d_has_digits : He5.DefA := ⟨fun K => (He.fAd K ("has_digits", none)), "has_digits", "has_digits", defArgs s_has_digits, defBody s_has_digits, defScope s_has_digits, [], []⟩
def d_is_count : He5.DefA := ⟨fun K => (He.fAd K ("is_count", none)), "is_count", "is_count", defArgs s_is_count, defBody s_is_count, defScope s_is_count, [], []⟩
def d_is_written : He5.DefA := ⟨fun K => (He.fAd K ("is_written", none)), "is_written", "is_written", defArgs s_is_written, defBody s_is_written, defScope s_is_written, [], []⟩
def d_look_string : He5.DefA := ⟨fun K => (He.fAd K ("look_string", none)), "look_string", "look_string", defArgs s_look_string, defBody s_look_string, defScope s_look_string, [], []⟩
def d_show_grain : He5.DefA := ⟨fun K => (He.fAd K ("show_grain", none)), "show_grain", "show_grain", defArgs s_show_grain, defBody s_show_grain, defScope s_show_grain, [], []⟩
def d_grain_parts : He5.DefA := ⟨fun K => (He.fAd K ("grain_parts", none)), "grain_parts", "grain_parts", defArgs s_grain_parts, defBody s_grain_parts, defScope s_grain_parts, [], []⟩
def d_read_grain : He5.DefA := ⟨fun K => (He.fAd K ("read_grain", none)), "read_grain", "read_grain", defArgs s_read_grain, defBody s_read_grain, defScope s_read_grain, [], []⟩
def d_show_step : He5.DefA := ⟨fun K => (He.fAd K ("show_step", none)), "show_step", "show_step", defArgs s_show_step, defBody s_show_step, defScope s_show_step, [], []⟩
def d_read_step : He5.DefA := ⟨fun K => (He.fAd K ("read_step", none)), "read_step", "read_step", defArgs s_read_step, defBody s_read_step, defScope s_read_step, [], []⟩
def d_l_bag : He5.DefA := ⟨fun K => (He.fAd K ("_law_bag", none)), "_law_bag", "_law_bag", defArgs s_l_bag, defBody s_l_bag, defScope s_l_bag, [], []⟩
def d_l_take : He5.DefA := ⟨fun K => (He.fAd K ("_law_take", none)), "_law_take", "_law_take", defArgs s_l_take, defBody s_l_take, defScope s_l_take, [], []⟩
def d_l_gap : He5.DefA := ⟨fun K => (He.fAd K ("_law_gap", none)), "_law_gap", "_law_gap", defArgs s_l_gap, defBody s_l_gap, defScope s_l_gap, [], []⟩
def d_l_map : He5.DefA := ⟨fun K => (He.fAd K ("_law_map", none)), "_law_map", "_law_map", defArgs s_l_map, defBody s_l_map, defScope s_l_map, [], []⟩
def d_l_again : He5.DefA := ⟨fun K => (He.fAd K ("_law_again", none)), "_law_again", "_law_again", defArgs s_l_again, defBody s_l_again, defScope s_l_again, [], []⟩
def d_l_text : He5.DefA := ⟨fun K => (He.fAd K ("_law_text", none)), "_law_text", "_law_text", defArgs s_l_text, defBody s_l_text, defScope s_l_text, [], []⟩
def d_l_row : He5.DefA := ⟨fun K => (He.fAd K ("_law_row", none)), "_law_row", "_law_row", defArgs s_l_row, defBody s_l_row, defScope s_l_row, [], []⟩
def d_l_grain : He5.DefA := ⟨fun K => (He.fAd K ("_law_grain", none)), "_law_grain", "_law_grain", defArgs s_l_grain, defBody s_l_grain, defScope s_l_grain, [], []⟩
def d_l_least : He5.DefA := ⟨fun K => (He.fAd K ("_law_least", none)), "_law_least", "_law_least", defArgs s_l_least, defBody s_l_least, defScope s_l_least, [], []⟩
def d_law : He5.DefA := ⟨fun K => (He.fAd K ("law", none)), "law", "law", defArgs s_law, defBody s_law, defScope s_law, [], []⟩
def fn : List He5.DefA := [d_BadText_init, d_is_integer, d_shortest_row, d_Grain_init, d_Grain_eq, d_least_form, d_look_steps, d_raised, d_Step_init, d_Step_eq, d_Step_add, d_has_digits, d_is_count, d_is_written, d_look_string, d_show_grain, d_grain_parts, d_read_grain, d_show_step, d_read_step, d_l_bag, d_l_take, d_l_gap, d_l_map, d_l_again, d_l_text, d_l_row, d_l_grain, d_l_least, d_law]
def fa : List He.Fa := [.meth "BadText" "__init__", .glo "is_integer", .glo "shortest_row", .meth "Grain" "__init__", .meth "Grain" "__eq__", .glo "least_form", .glo "look_steps", .glo "raised", .meth "Step" "__init__", .meth "Step" "__eq__", .meth "Step" "__add__", .glo "has_digits", .glo "is_count", .glo "is_written", .glo "look_string", .glo "show_grain", .glo "grain_parts", .glo "read_grain", .glo "show_step", .glo "read_step", .glo "_law_bag", .glo "_law_take", .glo "_law_gap", .glo "_law_map", .glo "_law_again", .glo "_law_text", .glo "_law_row", .glo "_law_grain", .glo "_law_least", .glo "law", .glo "BadNumber", .glo "BadGrain", .glo "BadSteps", .glo "BadText", .glo "TooMany", .glo "Drift", .glo "Grain", .cls "Grain", .mkr "Grain", .noat "Grain" "lengths", .noat "Grain" "start", .glo "Step", .cls "Step", .mkr "Step", .noat "Step" "period", .noat "Step" "rise", .noat "Step" "steps", .free "ValueError", .free "abs", .free "all", .free "bool", .free "enumerate", .free "int", .free "isinstance", .free "len", .free "list", .free "max", .free "min", .free "range", .free "repr", .free "str", .free "sum", .free "tuple", .int "MOST_LENGTHS" 12, .int "GREATEST_LENGTH" 1000000000000000, .int "MOST_STEPS" 240, .int "MOST_TIMES" 16, .int "MOST_DIGITS" 30, .str "DIGITS" (SX.S [48, 49, 50, 51, 52, 53, 54, 55, 56, 57])]
def exs : List (PySem.W.Frag → Bool) := [fun K => errB K (He.ga K "BadText") bmValue "ValueError.__new__",
  fun K => viB K "ValueError" "ValueError.__init__",
  fun K => xfB K (He.ga K "BadText"),
  fun K => excCB K (He.ga K "BadText"),
  fun K => He.eqO (PySem.W.findIn K (.ref (He.ga K "BadText")) "place") (some none),
  fun K => PySem.W.mro2 K (He.ga K "Grain"),
  fun K => ownTyB K (He.ga K "Grain"),
  fun K => decide (PySem.W.subIn K (.ref (He.ga K "Grain")) (.type "int") = some false),
  fun K => PySem.W.notFirst K (He.ga K "Grain") (.ref (He.ga K "Grain")),
  fun K => PySem.W.mro2 K (He.ga K "Step"),
  fun K => ownTyB K (He.ga K "Step"),
  fun K => decide (PySem.W.subIn K (.ref (He.ga K "Step")) (.type "int") = some false),
  fun K => PySem.W.notFirst K (He.ga K "Step") (.ref (He.ga K "Step")),
  fun K => PySem.W.numIB K (He.ga K "Step") "add",
  fun K => decide (PySem.W.kitOne K (.ref (He.ga K "Step")) (.ref (He.ga K "Step")) = some true),
  fun K => decide (PySem.W.kitOne K (.ref (He.ga K "Grain")) (.ref (He.ga K "Grain")) = some true),
  fun K => decide (PySem.W.kitOne K (.type "int") (.type "int") = some true),
  fun K => decide (PySem.W.kitOne K (.type "int") (.type "bool") = some false),
  fun K => decide (PySem.W.kitOne K (.type "tuple") (.type "tuple") = some true),
  fun K => decide (PySem.W.kitOne K (.type "str") (.type "str") = some true),
  fun K => decide (PySem.W.kitAny K (.type "list") [.type "list", .type "tuple"] = some true),
  fun K => decide (PySem.W.kitAny K (.type "tuple") [.type "list", .type "tuple"] = some true)]
def ex (K : PySem.W.Frag) : Bool := exs.all fun f => f K
theorem ex_at {K : PySem.W.Frag} (h : ex K = true) (i : Nat) {f : PySem.W.Frag → Bool} (e : exs[i]? = some f) : f K = true := List.all_eq_true.mp (show (exs.all fun f => f K) = true from h) f (List.mem_of_getElem? e)
/-! ### what the top has left -/
def ts : List He.Tab := []
structure TX (w : World) (K : PySem.W.Frag) (mg : Str → Option Value) where
  fd_BadText_init : FuncData
  F_BadText_init : FunD K "__init__" "BadText.__init__" (defArgs s_BadText_init) (defBody s_BadText_init) (defScope s_BadText_init) (He5.DefA.dvs K d_BadText_init) (He5.DefA.kws K d_BadText_init) (He.fAd K ("BadText", some "__init__")) fd_BadText_init
  b_BadText_init : Binds K fd_BadText_init ["self", "place"] []
  m_BadText_init : Meth K (He.ga K "BadText") "__init__" (He.fAd K ("BadText", some "__init__"))
  fd_is_integer : FuncData
  F_is_integer : FunD K "is_integer" "is_integer" (defArgs s_is_integer) (defBody s_is_integer) (defScope s_is_integer) (He5.DefA.dvs K d_is_integer) (He5.DefA.kws K d_is_integer) (He.fAd K ("is_integer", none)) fd_is_integer
  b_is_integer : Binds K fd_is_integer ["thing"] []
  g_is_integer : mg "is_integer" = some (.ref (He.fAd K ("is_integer", none)))
  fd_shortest_row : FuncData
  F_shortest_row : FunD K "shortest_row" "shortest_row" (defArgs s_shortest_row) (defBody s_shortest_row) (defScope s_shortest_row) (He5.DefA.dvs K d_shortest_row) (He5.DefA.kws K d_shortest_row) (He.fAd K ("shortest_row", none)) fd_shortest_row
  b_shortest_row : Binds K fd_shortest_row ["lengths"] []
  g_shortest_row : mg "shortest_row" = some (.ref (He.fAd K ("shortest_row", none)))
  fd_Grain_init : FuncData
  F_Grain_init : FunD K "__init__" "Grain.__init__" (defArgs s_Grain_init) (defBody s_Grain_init) (defScope s_Grain_init) (He5.DefA.dvs K d_Grain_init) (He5.DefA.kws K d_Grain_init) (He.fAd K ("Grain", some "__init__")) fd_Grain_init
  m_Grain_init : Meth K (He.ga K "Grain") "__init__" (He.fAd K ("Grain", some "__init__"))
  fd_Grain_eq : FuncData
  F_Grain_eq : FunD K "__eq__" "Grain.__eq__" (defArgs s_Grain_eq) (defBody s_Grain_eq) (defScope s_Grain_eq) (He5.DefA.dvs K d_Grain_eq) (He5.DefA.kws K d_Grain_eq) (He.fAd K ("Grain", some "__eq__")) fd_Grain_eq
  b_Grain_eq : Binds K fd_Grain_eq ["self", "other"] []
  m_Grain_eq : Meth K (He.ga K "Grain") "__eq__" (He.fAd K ("Grain", some "__eq__"))
  fd_least_form : FuncData
  F_least_form : FunD K "least_form" "least_form" (defArgs s_least_form) (defBody s_least_form) (defScope s_least_form) (He5.DefA.dvs K d_least_form) (He5.DefA.kws K d_least_form) (He.fAd K ("least_form", none)) fd_least_form
  b_least_form : Binds K fd_least_form ["period", "rise", "steps"] []
  g_least_form : mg "least_form" = some (.ref (He.fAd K ("least_form", none)))
  fd_look_steps : FuncData
  F_look_steps : FunD K "look_steps" "look_steps" (defArgs s_look_steps) (defBody s_look_steps) (defScope s_look_steps) (He5.DefA.dvs K d_look_steps) (He5.DefA.kws K d_look_steps) (He.fAd K ("look_steps", none)) fd_look_steps
  b_look_steps : Binds K fd_look_steps ["period", "rise", "steps"] []
  g_look_steps : mg "look_steps" = some (.ref (He.fAd K ("look_steps", none)))
  fd_raised : FuncData
  F_raised : FunD K "raised" "raised" (defArgs s_raised) (defBody s_raised) (defScope s_raised) (He5.DefA.dvs K d_raised) (He5.DefA.kws K d_raised) (He.fAd K ("raised", none)) fd_raised
  b_raised : Binds K fd_raised ["f", "n"] []
  g_raised : mg "raised" = some (.ref (He.fAd K ("raised", none)))
  fd_Step_init : FuncData
  F_Step_init : FunD K "__init__" "Step.__init__" (defArgs s_Step_init) (defBody s_Step_init) (defScope s_Step_init) (He5.DefA.dvs K d_Step_init) (He5.DefA.kws K d_Step_init) (He.fAd K ("Step", some "__init__")) fd_Step_init
  b_Step_init : Binds K fd_Step_init ["self", "period", "rise", "steps"] []
  m_Step_init : Meth K (He.ga K "Step") "__init__" (He.fAd K ("Step", some "__init__"))
  fd_Step_eq : FuncData
  F_Step_eq : FunD K "__eq__" "Step.__eq__" (defArgs s_Step_eq) (defBody s_Step_eq) (defScope s_Step_eq) (He5.DefA.dvs K d_Step_eq) (He5.DefA.kws K d_Step_eq) (He.fAd K ("Step", some "__eq__")) fd_Step_eq
  b_Step_eq : Binds K fd_Step_eq ["self", "other"] []
  m_Step_eq : Meth K (He.ga K "Step") "__eq__" (He.fAd K ("Step", some "__eq__"))
  fd_Step_add : FuncData
  F_Step_add : FunD K "__add__" "Step.__add__" (defArgs s_Step_add) (defBody s_Step_add) (defScope s_Step_add) (He5.DefA.dvs K d_Step_add) (He5.DefA.kws K d_Step_add) (He.fAd K ("Step", some "__add__")) fd_Step_add
  b_Step_add : Binds K fd_Step_add ["self", "other"] []
  m_Step_add : Meth K (He.ga K "Step") "__add__" (He.fAd K ("Step", some "__add__"))
  fd_has_digits : FuncData
  F_has_digits : FunD K "has_digits" "has_digits" (defArgs s_has_digits) (defBody s_has_digits) (defScope s_has_digits) (He5.DefA.dvs K d_has_digits) (He5.DefA.kws K d_has_digits) (He.fAd K ("has_digits", none)) fd_has_digits
  b_has_digits : Binds K fd_has_digits ["text"] []
  g_has_digits : mg "has_digits" = some (.ref (He.fAd K ("has_digits", none)))
  fd_is_count : FuncData
  F_is_count : FunD K "is_count" "is_count" (defArgs s_is_count) (defBody s_is_count) (defScope s_is_count) (He5.DefA.dvs K d_is_count) (He5.DefA.kws K d_is_count) (He.fAd K ("is_count", none)) fd_is_count
  b_is_count : Binds K fd_is_count ["text"] []
  g_is_count : mg "is_count" = some (.ref (He.fAd K ("is_count", none)))
  fd_is_written : FuncData
  F_is_written : FunD K "is_written" "is_written" (defArgs s_is_written) (defBody s_is_written) (defScope s_is_written) (He5.DefA.dvs K d_is_written) (He5.DefA.kws K d_is_written) (He.fAd K ("is_written", none)) fd_is_written
  b_is_written : Binds K fd_is_written ["text"] []
  g_is_written : mg "is_written" = some (.ref (He.fAd K ("is_written", none)))
  fd_look_string : FuncData
  F_look_string : FunD K "look_string" "look_string" (defArgs s_look_string) (defBody s_look_string) (defScope s_look_string) (He5.DefA.dvs K d_look_string) (He5.DefA.kws K d_look_string) (He.fAd K ("look_string", none)) fd_look_string
  b_look_string : Binds K fd_look_string ["text"] []
  g_look_string : mg "look_string" = some (.ref (He.fAd K ("look_string", none)))
  fd_show_grain : FuncData
  F_show_grain : FunD K "show_grain" "show_grain" (defArgs s_show_grain) (defBody s_show_grain) (defScope s_show_grain) (He5.DefA.dvs K d_show_grain) (He5.DefA.kws K d_show_grain) (He.fAd K ("show_grain", none)) fd_show_grain
  b_show_grain : Binds K fd_show_grain ["grain"] []
  g_show_grain : mg "show_grain" = some (.ref (He.fAd K ("show_grain", none)))
  fd_grain_parts : FuncData
  F_grain_parts : FunD K "grain_parts" "grain_parts" (defArgs s_grain_parts) (defBody s_grain_parts) (defScope s_grain_parts) (He5.DefA.dvs K d_grain_parts) (He5.DefA.kws K d_grain_parts) (He.fAd K ("grain_parts", none)) fd_grain_parts
  b_grain_parts : Binds K fd_grain_parts ["text"] []
  g_grain_parts : mg "grain_parts" = some (.ref (He.fAd K ("grain_parts", none)))
  fd_read_grain : FuncData
  F_read_grain : FunD K "read_grain" "read_grain" (defArgs s_read_grain) (defBody s_read_grain) (defScope s_read_grain) (He5.DefA.dvs K d_read_grain) (He5.DefA.kws K d_read_grain) (He.fAd K ("read_grain", none)) fd_read_grain
  b_read_grain : Binds K fd_read_grain ["text"] []
  g_read_grain : mg "read_grain" = some (.ref (He.fAd K ("read_grain", none)))
  fd_show_step : FuncData
  F_show_step : FunD K "show_step" "show_step" (defArgs s_show_step) (defBody s_show_step) (defScope s_show_step) (He5.DefA.dvs K d_show_step) (He5.DefA.kws K d_show_step) (He.fAd K ("show_step", none)) fd_show_step
  b_show_step : Binds K fd_show_step ["step"] []
  g_show_step : mg "show_step" = some (.ref (He.fAd K ("show_step", none)))
  fd_read_step : FuncData
  F_read_step : FunD K "read_step" "read_step" (defArgs s_read_step) (defBody s_read_step) (defScope s_read_step) (He5.DefA.dvs K d_read_step) (He5.DefA.kws K d_read_step) (He.fAd K ("read_step", none)) fd_read_step
  b_read_step : Binds K fd_read_step ["text"] []
  g_read_step : mg "read_step" = some (.ref (He.fAd K ("read_step", none)))
  fd_l_bag : FuncData
  F_l_bag : FunD K "_law_bag" "_law_bag" (defArgs s_l_bag) (defBody s_l_bag) (defScope s_l_bag) (He5.DefA.dvs K d_l_bag) (He5.DefA.kws K d_l_bag) (He.fAd K ("_law_bag", none)) fd_l_bag
  b_l_bag : Binds K fd_l_bag ["_law_script", "_law_at"] []
  g_l_bag : mg "_law_bag" = some (.ref (He.fAd K ("_law_bag", none)))
  fd_l_take : FuncData
  F_l_take : FunD K "_law_take" "_law_take" (defArgs s_l_take) (defBody s_l_take) (defScope s_l_take) (He5.DefA.dvs K d_l_take) (He5.DefA.kws K d_l_take) (He.fAd K ("_law_take", none)) fd_l_take
  b_l_take : Binds K fd_l_take ["_law_bag_here", "_law_many"] []
  g_l_take : mg "_law_take" = some (.ref (He.fAd K ("_law_take", none)))
  fd_l_gap : FuncData
  F_l_gap : FunD K "_law_gap" "_law_gap" (defArgs s_l_gap) (defBody s_l_gap) (defScope s_l_gap) (He5.DefA.dvs K d_l_gap) (He5.DefA.kws K d_l_gap) (He.fAd K ("_law_gap", none)) fd_l_gap
  b_l_gap : Binds K fd_l_gap ["_law_bag_here"] []
  g_l_gap : mg "_law_gap" = some (.ref (He.fAd K ("_law_gap", none)))
  fd_l_map : FuncData
  F_l_map : FunD K "_law_map" "_law_map" (defArgs s_l_map) (defBody s_l_map) (defScope s_l_map) (He5.DefA.dvs K d_l_map) (He5.DefA.kws K d_l_map) (He.fAd K ("_law_map", none)) fd_l_map
  b_l_map : Binds K fd_l_map ["_law_bag_here", "_law_most"] []
  g_l_map : mg "_law_map" = some (.ref (He.fAd K ("_law_map", none)))
  fd_l_again : FuncData
  F_l_again : FunD K "_law_again" "_law_again" (defArgs s_l_again) (defBody s_l_again) (defScope s_l_again) (He5.DefA.dvs K d_l_again) (He5.DefA.kws K d_l_again) (He.fAd K ("_law_again", none)) fd_l_again
  b_l_again : Binds K fd_l_again ["_law_row_here", "_law_times"] []
  g_l_again : mg "_law_again" = some (.ref (He.fAd K ("_law_again", none)))
  fd_l_text : FuncData
  F_l_text : FunD K "_law_text" "_law_text" (defArgs s_l_text) (defBody s_l_text) (defScope s_l_text) (He5.DefA.dvs K d_l_text) (He5.DefA.kws K d_l_text) (He.fAd K ("_law_text", none)) fd_l_text
  b_l_text : Binds K fd_l_text ["_law_row_here"] []
  g_l_text : mg "_law_text" = some (.ref (He.fAd K ("_law_text", none)))
  fd_l_row : FuncData
  F_l_row : FunD K "_law_row" "_law_row" (defArgs s_l_row) (defBody s_l_row) (defScope s_l_row) (He5.DefA.dvs K d_l_row) (He5.DefA.kws K d_l_row) (He.fAd K ("_law_row", none)) fd_l_row
  b_l_row : Binds K fd_l_row ["_law_row_here", "_law_begin"] []
  g_l_row : mg "_law_row" = some (.ref (He.fAd K ("_law_row", none)))
  fd_l_grain : FuncData
  F_l_grain : FunD K "_law_grain" "_law_grain" (defArgs s_l_grain) (defBody s_l_grain) (defScope s_l_grain) (He5.DefA.dvs K d_l_grain) (He5.DefA.kws K d_l_grain) (He.fAd K ("_law_grain", none)) fd_l_grain
  b_l_grain : Binds K fd_l_grain ["_law_row_here", "_law_begin"] []
  g_l_grain : mg "_law_grain" = some (.ref (He.fAd K ("_law_grain", none)))
  fd_l_least : FuncData
  F_l_least : FunD K "_law_least" "_law_least" (defArgs s_l_least) (defBody s_l_least) (defScope s_l_least) (He5.DefA.dvs K d_l_least) (He5.DefA.kws K d_l_least) (He.fAd K ("_law_least", none)) fd_l_least
  b_l_least : Binds K fd_l_least ["_law_row_here"] []
  g_l_least : mg "_law_least" = some (.ref (He.fAd K ("_law_least", none)))
  fd_law : FuncData
  F_law : FunD K "law" "law" (defArgs s_law) (defBody s_law) (defScope s_law) (He5.DefA.dvs K d_law) (He5.DefA.kws K d_law) (He.fAd K ("law", none)) fd_law
  b_law : Binds K fd_law ["_law_script"] []
  g_law : mg "law" = some (.ref (He.fAd K ("law", none)))
  g_BadNumber : mg "BadNumber" = some (.ref (He.ga K "BadNumber"))
  g_BadGrain : mg "BadGrain" = some (.ref (He.ga K "BadGrain"))
  g_BadSteps : mg "BadSteps" = some (.ref (He.ga K "BadSteps"))
  g_BadText : mg "BadText" = some (.ref (He.ga K "BadText"))
  er_BadText : ErrC K (He.ga K "BadText") "ValueError" "ValueError.__new__" "ValueError.__init__" bmValue
  vi_ValueError : PySem.W.findCls K (.type "ValueError") (.type "type") "__init__" = some (.val (.builtin "ValueError.__init__"))
  xf_BadText : XfC K (He.ga K "BadText")
  ec_BadText : ExcC K (He.ga K "BadText")
  nx_BadText_place : PySem.W.findIn K (.ref (He.ga K "BadText")) "place" = some none
  g_TooMany : mg "TooMany" = some (.ref (He.ga K "TooMany"))
  g_Drift : mg "Drift" = some (.ref (He.ga K "Drift"))
  g_Grain : mg "Grain" = some (.ref (He.ga K "Grain"))
  cl_Grain : Cls K (He.ga K "Grain")
  mk_Grain : Mk K (He.ga K "Grain") (He.fAd K ("Grain", some "__init__"))
  n_Grain_lengths : NoAttr K (He.ga K "Grain") "lengths"
  n_Grain_start : NoAttr K (He.ga K "Grain") "start"
  mro_Grain : PySem.W.mro2 K (He.ga K "Grain") = true
  ty_Grain : OwnTy K (He.ga K "Grain")
  si_Grain : PySem.W.subIn K (.ref (He.ga K "Grain")) (.type "int") = some false
  nf_Grain : PySem.W.notFirst K (He.ga K "Grain") (.ref (He.ga K "Grain")) = true
  g_Step : mg "Step" = some (.ref (He.ga K "Step"))
  cl_Step : Cls K (He.ga K "Step")
  mk_Step : Mk K (He.ga K "Step") (He.fAd K ("Step", some "__init__"))
  n_Step_period : NoAttr K (He.ga K "Step") "period"
  n_Step_rise : NoAttr K (He.ga K "Step") "rise"
  n_Step_steps : NoAttr K (He.ga K "Step") "steps"
  mro_Step : PySem.W.mro2 K (He.ga K "Step") = true
  ty_Step : OwnTy K (He.ga K "Step")
  si_Step : PySem.W.subIn K (.ref (He.ga K "Step")) (.type "int") = some false
  nf_Step : PySem.W.notFirst K (He.ga K "Step") (.ref (He.ga K "Step")) = true
  ni_Step_add : PySem.W.NumI K (He.ga K "Step") "add"
  k_Step : PySem.W.kitOne K (.ref (He.ga K "Step")) (.ref (He.ga K "Step")) = some true
  k_Grain : PySem.W.kitOne K (.ref (He.ga K "Grain")) (.ref (He.ga K "Grain")) = some true
  k_int_int : PySem.W.kitOne K (.type "int") (.type "int") = some true
  k_int_bool : PySem.W.kitOne K (.type "int") (.type "bool") = some false
  k_tup_tup : PySem.W.kitOne K (.type "tuple") (.type "tuple") = some true
  k_str_str : PySem.W.kitOne K (.type "str") (.type "str") = some true
  ka_list : PySem.W.kitAny K (.type "list") [.type "list", .type "tuple"] = some true
  ka_tuple : PySem.W.kitAny K (.type "tuple") [.type "list", .type "tuple"] = some true
  f_ValueError : mg "ValueError" = none
  f_abs : mg "abs" = none
  f_all : mg "all" = none
  f_bool : mg "bool" = none
  f_enumerate : mg "enumerate" = none
  f_int : mg "int" = none
  f_isinstance : mg "isinstance" = none
  f_len : mg "len" = none
  f_list : mg "list" = none
  f_max : mg "max" = none
  f_min : mg "min" = none
  f_range : mg "range" = none
  f_repr : mg "repr" = none
  f_str : mg "str" = none
  f_sum : mg "sum" = none
  f_tuple : mg "tuple" = none
  t_MOST_LENGTHS : Tok
  c_MOST_LENGTHS : mg "MOST_LENGTHS" = some (.int 12 t_MOST_LENGTHS)
  t_GREATEST_LENGTH : Tok
  c_GREATEST_LENGTH : mg "GREATEST_LENGTH" = some (.int 1000000000000000 t_GREATEST_LENGTH)
  t_MOST_STEPS : Tok
  c_MOST_STEPS : mg "MOST_STEPS" = some (.int 240 t_MOST_STEPS)
  t_MOST_TIMES : Tok
  c_MOST_TIMES : mg "MOST_TIMES" = some (.int 16 t_MOST_TIMES)
  t_MOST_DIGITS : Tok
  c_MOST_DIGITS : mg "MOST_DIGITS" = some (.int 30 t_MOST_DIGITS)
  t_DIGITS : Tok
  c_DIGITS : mg "DIGITS" = some (.str (SX.S [48, 49, 50, 51, 52, 53, 54, 55, 56, 57]) t_DIGITS)
theorem tx_mk {w : World} {K : PySem.W.Frag} {h : Heap} {mg : Str → Option Value} (X : K.In h) (G : h.Ns mainGlobals mg) (c : HeZ.SaysZ fa fn ex ts w K) : Nonempty (TX w K mg) := by
  obtain ⟨fd0, F0⟩ := c.def_ 0 (d := d_BadText_init) rfl
  obtain ⟨fd1, F1⟩ := c.def_ 1 (d := d_is_integer) rfl
  obtain ⟨fd2, F2⟩ := c.def_ 2 (d := d_shortest_row) rfl
  obtain ⟨fd3, F3⟩ := c.def_ 3 (d := d_Grain_init) rfl
  obtain ⟨fd4, F4⟩ := c.def_ 4 (d := d_Grain_eq) rfl
  obtain ⟨fd5, F5⟩ := c.def_ 5 (d := d_least_form) rfl
  obtain ⟨fd6, F6⟩ := c.def_ 6 (d := d_look_steps) rfl
  obtain ⟨fd7, F7⟩ := c.def_ 7 (d := d_raised) rfl
  obtain ⟨fd8, F8⟩ := c.def_ 8 (d := d_Step_init) rfl
  obtain ⟨fd9, F9⟩ := c.def_ 9 (d := d_Step_eq) rfl
  obtain ⟨fd10, F10⟩ := c.def_ 10 (d := d_Step_add) rfl
  obtain ⟨fd11, F11⟩ := c.def_ 11 (d := d_has_digits) rfl
  obtain ⟨fd12, F12⟩ := c.def_ 12 (d := d_is_count) rfl
  obtain ⟨fd13, F13⟩ := c.def_ 13 (d := d_is_written) rfl
  obtain ⟨fd14, F14⟩ := c.def_ 14 (d := d_look_string) rfl
  obtain ⟨fd15, F15⟩ := c.def_ 15 (d := d_show_grain) rfl
  obtain ⟨fd16, F16⟩ := c.def_ 16 (d := d_grain_parts) rfl
  obtain ⟨fd17, F17⟩ := c.def_ 17 (d := d_read_grain) rfl
  obtain ⟨fd18, F18⟩ := c.def_ 18 (d := d_show_step) rfl
  obtain ⟨fd19, F19⟩ := c.def_ 19 (d := d_read_step) rfl
  obtain ⟨fd20, F20⟩ := c.def_ 20 (d := d_l_bag) rfl
  obtain ⟨fd21, F21⟩ := c.def_ 21 (d := d_l_take) rfl
  obtain ⟨fd22, F22⟩ := c.def_ 22 (d := d_l_gap) rfl
  obtain ⟨fd23, F23⟩ := c.def_ 23 (d := d_l_map) rfl
  obtain ⟨fd24, F24⟩ := c.def_ 24 (d := d_l_again) rfl
  obtain ⟨fd25, F25⟩ := c.def_ 25 (d := d_l_text) rfl
  obtain ⟨fd26, F26⟩ := c.def_ 26 (d := d_l_row) rfl
  obtain ⟨fd27, F27⟩ := c.def_ 27 (d := d_l_grain) rfl
  obtain ⟨fd28, F28⟩ := c.def_ 28 (d := d_l_least) rfl
  obtain ⟨fd29, F29⟩ := c.def_ 29 (d := d_law) rfl
  obtain ⟨TOKMOST_LENGTHS, CMOST_LENGTHS⟩ := He.int_ok X G (c.fact 63 rfl)
  obtain ⟨TOKGREATEST_LENGTH, CGREATEST_LENGTH⟩ := He.int_ok X G (c.fact 64 rfl)
  obtain ⟨TOKMOST_STEPS, CMOST_STEPS⟩ := He.int_ok X G (c.fact 65 rfl)
  obtain ⟨TOKMOST_TIMES, CMOST_TIMES⟩ := He.int_ok X G (c.fact 66 rfl)
  obtain ⟨TOKMOST_DIGITS, CMOST_DIGITS⟩ := He.int_ok X G (c.fact 67 rfl)
  obtain ⟨TOKDIGITS, CDIGITS⟩ := He.str_ok X G (c.fact 68 rfl)
  exact ⟨{
    fd_BadText_init := fd0,
    F_BadText_init := F0,
    b_BadText_init := F0.bindsN (ps := ["self", "place"]) fun _ _ _ _ _ _ us hl => match us, hl with | [_, _], _ => rfl,
    m_BadText_init := He.meth_ok (c.fact 0 rfl),
    fd_is_integer := fd1,
    F_is_integer := F1,
    b_is_integer := F1.bindsN (ps := ["thing"]) fun _ _ _ _ _ _ us hl => match us, hl with | [_], _ => rfl,
    g_is_integer := He.glo_ok X G (c.fact 1 rfl),
    fd_shortest_row := fd2,
    F_shortest_row := F2,
    b_shortest_row := F2.bindsN (ps := ["lengths"]) fun _ _ _ _ _ _ us hl => match us, hl with | [_], _ => rfl,
    g_shortest_row := He.glo_ok X G (c.fact 2 rfl),
    fd_Grain_init := fd3,
    F_Grain_init := F3,
    m_Grain_init := He.meth_ok (c.fact 3 rfl),
    fd_Grain_eq := fd4,
    F_Grain_eq := F4,
    b_Grain_eq := F4.bindsN (ps := ["self", "other"]) fun _ _ _ _ _ _ us hl => match us, hl with | [_, _], _ => rfl,
    m_Grain_eq := He.meth_ok (c.fact 4 rfl),
    fd_least_form := fd5,
    F_least_form := F5,
    b_least_form := F5.bindsN (ps := ["period", "rise", "steps"]) fun _ _ _ _ _ _ us hl => match us, hl with | [_, _, _], _ => rfl,
    g_least_form := He.glo_ok X G (c.fact 5 rfl),
    fd_look_steps := fd6,
    F_look_steps := F6,
    b_look_steps := F6.bindsN (ps := ["period", "rise", "steps"]) fun _ _ _ _ _ _ us hl => match us, hl with | [_, _, _], _ => rfl,
    g_look_steps := He.glo_ok X G (c.fact 6 rfl),
    fd_raised := fd7,
    F_raised := F7,
    b_raised := F7.bindsN (ps := ["f", "n"]) fun _ _ _ _ _ _ us hl => match us, hl with | [_, _], _ => rfl,
    g_raised := He.glo_ok X G (c.fact 7 rfl),
    fd_Step_init := fd8,
    F_Step_init := F8,
    b_Step_init := F8.bindsN (ps := ["self", "period", "rise", "steps"]) fun _ _ _ _ _ _ us hl => match us, hl with | [_, _, _, _], _ => rfl,
    m_Step_init := He.meth_ok (c.fact 8 rfl),
    fd_Step_eq := fd9,
    F_Step_eq := F9,
    b_Step_eq := F9.bindsN (ps := ["self", "other"]) fun _ _ _ _ _ _ us hl => match us, hl with | [_, _], _ => rfl,
    m_Step_eq := He.meth_ok (c.fact 9 rfl),
    fd_Step_add := fd10,
    F_Step_add := F10,
    b_Step_add := F10.bindsN (ps := ["self", "other"]) fun _ _ _ _ _ _ us hl => match us, hl with | [_, _], _ => rfl,
    m_Step_add := He.meth_ok (c.fact 10 rfl),
    fd_has_digits := fd11,
    F_has_digits := F11,
    b_has_digits := F11.bindsN (ps := ["text"]) fun _ _ _ _ _ _ us hl => match us, hl with | [_], _ => rfl,
    g_has_digits := He.glo_ok X G (c.fact 11 rfl),
    fd_is_count := fd12,
    F_is_count := F12,
    b_is_count := F12.bindsN (ps := ["text"]) fun _ _ _ _ _ _ us hl => match us, hl with | [_], _ => rfl,
    g_is_count := He.glo_ok X G (c.fact 12 rfl),
    fd_is_written := fd13,
    F_is_written := F13,
    b_is_written := F13.bindsN (ps := ["text"]) fun _ _ _ _ _ _ us hl => match us, hl with | [_], _ => rfl,
    g_is_written := He.glo_ok X G (c.fact 13 rfl),
    fd_look_string := fd14,
    F_look_string := F14,
    b_look_string := F14.bindsN (ps := ["text"]) fun _ _ _ _ _ _ us hl => match us, hl with | [_], _ => rfl,
    g_look_string := He.glo_ok X G (c.fact 14 rfl),
    fd_show_grain := fd15,
    F_show_grain := F15,
    b_show_grain := F15.bindsN (ps := ["grain"]) fun _ _ _ _ _ _ us hl => match us, hl with | [_], _ => rfl,
    g_show_grain := He.glo_ok X G (c.fact 15 rfl),
    fd_grain_parts := fd16,
    F_grain_parts := F16,
    b_grain_parts := F16.bindsN (ps := ["text"]) fun _ _ _ _ _ _ us hl => match us, hl with | [_], _ => rfl,
    g_grain_parts := He.glo_ok X G (c.fact 16 rfl),
    fd_read_grain := fd17,
    F_read_grain := F17,
    b_read_grain := F17.bindsN (ps := ["text"]) fun _ _ _ _ _ _ us hl => match us, hl with | [_], _ => rfl,
    g_read_grain := He.glo_ok X G (c.fact 17 rfl),
    fd_show_step := fd18,
    F_show_step := F18,
    b_show_step := F18.bindsN (ps := ["step"]) fun _ _ _ _ _ _ us hl => match us, hl with | [_], _ => rfl,
    g_show_step := He.glo_ok X G (c.fact 18 rfl),
    fd_read_step := fd19,
    F_read_step := F19,
    b_read_step := F19.bindsN (ps := ["text"]) fun _ _ _ _ _ _ us hl => match us, hl with | [_], _ => rfl,
    g_read_step := He.glo_ok X G (c.fact 19 rfl),
    fd_l_bag := fd20,
    F_l_bag := F20,
    b_l_bag := F20.bindsN (ps := ["_law_script", "_law_at"]) fun _ _ _ _ _ _ us hl => match us, hl with | [_, _], _ => rfl,
    g_l_bag := He.glo_ok X G (c.fact 20 rfl),
    fd_l_take := fd21,
    F_l_take := F21,
    b_l_take := F21.bindsN (ps := ["_law_bag_here", "_law_many"]) fun _ _ _ _ _ _ us hl => match us, hl with | [_, _], _ => rfl,
    g_l_take := He.glo_ok X G (c.fact 21 rfl),
    fd_l_gap := fd22,
    F_l_gap := F22,
    b_l_gap := F22.bindsN (ps := ["_law_bag_here"]) fun _ _ _ _ _ _ us hl => match us, hl with | [_], _ => rfl,
    g_l_gap := He.glo_ok X G (c.fact 22 rfl),
    fd_l_map := fd23,
    F_l_map := F23,
    b_l_map := F23.bindsN (ps := ["_law_bag_here", "_law_most"]) fun _ _ _ _ _ _ us hl => match us, hl with | [_, _], _ => rfl,
    g_l_map := He.glo_ok X G (c.fact 23 rfl),
    fd_l_again := fd24,
    F_l_again := F24,
    b_l_again := F24.bindsN (ps := ["_law_row_here", "_law_times"]) fun _ _ _ _ _ _ us hl => match us, hl with | [_, _], _ => rfl,
    g_l_again := He.glo_ok X G (c.fact 24 rfl),
    fd_l_text := fd25,
    F_l_text := F25,
    b_l_text := F25.bindsN (ps := ["_law_row_here"]) fun _ _ _ _ _ _ us hl => match us, hl with | [_], _ => rfl,
    g_l_text := He.glo_ok X G (c.fact 25 rfl),
    fd_l_row := fd26,
    F_l_row := F26,
    b_l_row := F26.bindsN (ps := ["_law_row_here", "_law_begin"]) fun _ _ _ _ _ _ us hl => match us, hl with | [_, _], _ => rfl,
    g_l_row := He.glo_ok X G (c.fact 26 rfl),
    fd_l_grain := fd27,
    F_l_grain := F27,
    b_l_grain := F27.bindsN (ps := ["_law_row_here", "_law_begin"]) fun _ _ _ _ _ _ us hl => match us, hl with | [_, _], _ => rfl,
    g_l_grain := He.glo_ok X G (c.fact 27 rfl),
    fd_l_least := fd28,
    F_l_least := F28,
    b_l_least := F28.bindsN (ps := ["_law_row_here"]) fun _ _ _ _ _ _ us hl => match us, hl with | [_], _ => rfl,
    g_l_least := He.glo_ok X G (c.fact 28 rfl),
    fd_law := fd29,
    F_law := F29,
    b_law := F29.bindsN (ps := ["_law_script"]) fun _ _ _ _ _ _ us hl => match us, hl with | [_], _ => rfl,
    g_law := He.glo_ok X G (c.fact 29 rfl),
    g_BadNumber := He.glo_ok X G (c.fact 30 rfl),
    g_BadGrain := He.glo_ok X G (c.fact 31 rfl),
    g_BadSteps := He.glo_ok X G (c.fact 32 rfl),
    g_BadText := He.glo_ok X G (c.fact 33 rfl),
    er_BadText := err_ok PySem.F.excBase_ValueError st_Value ty_Value (ex_at c.more 0 rfl),
    vi_ValueError := vi_ok (ex_at c.more 1 rfl),
    xf_BadText := xfB_ok (ex_at c.more 2 rfl),
    ec_BadText := excC_ok (ex_at c.more 3 rfl),
    nx_BadText_place := He.eqO_ok (ex_at c.more 4 rfl),
    g_TooMany := He.glo_ok X G (c.fact 34 rfl),
    g_Drift := He.glo_ok X G (c.fact 35 rfl),
    g_Grain := He.glo_ok X G (c.fact 36 rfl),
    cl_Grain := He.cls_ok (c.fact 37 rfl),
    mk_Grain := He.mkr_ok (c.fact 38 rfl),
    n_Grain_lengths := He.noat_ok (c.fact 39 rfl),
    n_Grain_start := He.noat_ok (c.fact 40 rfl),
    mro_Grain := ex_at c.more 5 rfl,
    ty_Grain := ownTy_ok (ex_at c.more 6 rfl),
    si_Grain := of_decide_eq_true (ex_at c.more 7 rfl),
    nf_Grain := ex_at c.more 8 rfl,
    g_Step := He.glo_ok X G (c.fact 41 rfl),
    cl_Step := He.cls_ok (c.fact 42 rfl),
    mk_Step := He.mkr_ok (c.fact 43 rfl),
    n_Step_period := He.noat_ok (c.fact 44 rfl),
    n_Step_rise := He.noat_ok (c.fact 45 rfl),
    n_Step_steps := He.noat_ok (c.fact 46 rfl),
    mro_Step := ex_at c.more 9 rfl,
    ty_Step := ownTy_ok (ex_at c.more 10 rfl),
    si_Step := of_decide_eq_true (ex_at c.more 11 rfl),
    nf_Step := ex_at c.more 12 rfl,
    ni_Step_add := PySem.W.numI_ok (ex_at c.more 13 rfl),
    k_Step := of_decide_eq_true (ex_at c.more 14 rfl),
    k_Grain := of_decide_eq_true (ex_at c.more 15 rfl),
    k_int_int := of_decide_eq_true (ex_at c.more 16 rfl),
    k_int_bool := of_decide_eq_true (ex_at c.more 17 rfl),
    k_tup_tup := of_decide_eq_true (ex_at c.more 18 rfl),
    k_str_str := of_decide_eq_true (ex_at c.more 19 rfl),
    ka_list := of_decide_eq_true (ex_at c.more 20 rfl),
    ka_tuple := of_decide_eq_true (ex_at c.more 21 rfl),
    f_ValueError := He.free_ok X G (c.fact 47 rfl),
    f_abs := He.free_ok X G (c.fact 48 rfl),
    f_all := He.free_ok X G (c.fact 49 rfl),
    f_bool := He.free_ok X G (c.fact 50 rfl),
    f_enumerate := He.free_ok X G (c.fact 51 rfl),
    f_int := He.free_ok X G (c.fact 52 rfl),
    f_isinstance := He.free_ok X G (c.fact 53 rfl),
    f_len := He.free_ok X G (c.fact 54 rfl),
    f_list := He.free_ok X G (c.fact 55 rfl),
    f_max := He.free_ok X G (c.fact 56 rfl),
    f_min := He.free_ok X G (c.fact 57 rfl),
    f_range := He.free_ok X G (c.fact 58 rfl),
    f_repr := He.free_ok X G (c.fact 59 rfl),
    f_str := He.free_ok X G (c.fact 60 rfl),
    f_sum := He.free_ok X G (c.fact 61 rfl),
    f_tuple := He.free_ok X G (c.fact 62 rfl),
    t_MOST_LENGTHS := TOKMOST_LENGTHS,
    c_MOST_LENGTHS := CMOST_LENGTHS,
    t_GREATEST_LENGTH := TOKGREATEST_LENGTH,
    c_GREATEST_LENGTH := CGREATEST_LENGTH,
    t_MOST_STEPS := TOKMOST_STEPS,
    c_MOST_STEPS := CMOST_STEPS,
    t_MOST_TIMES := TOKMOST_TIMES,
    c_MOST_TIMES := CMOST_TIMES,
    t_MOST_DIGITS := TOKMOST_DIGITS,
    c_MOST_DIGITS := CMOST_DIGITS,
    t_DIGITS := TOKDIGITS,
    c_DIGITS := CDIGITS
  }⟩
end K81

namespace K81
open PySem PySem.Spec PyProof.Rows L2
def loose0 : List Str := ["_wall", "BadNumber", "BadGrain", "BadSteps", "BadText", "TooMany", "Drift", "is_integer", "gcd", "lcm", "MOST_LENGTHS", "GREATEST_LENGTH", "shortest_row", "cell_in", "Grain", "MOST_STEPS", "MOST_TIMES", "value_at", "partner_at", "least_form", "look_steps", "step_of", "composed", "partner", "reflected", "raised", "repeated", "has_rate", "common_places", "lesser"]
def loose1 : List Str := ["greater", "Step", "MOST_DIGITS", "DIGITS", "has_digits", "is_count", "is_written", "look_string", "show_grain", "grain_parts", "read_grain", "show_step", "read_step", "_law_bag", "_law_take", "_law_gap", "_law_map", "_law_again", "_law_text", "_law_row", "_law_grain", "_law_least"]
def loose : List Str := loose0 ++ loose1
abbrev R : PySem.W.OpenRow := PySem.W.OpenLaw.row PySem.Challenge.rw_rangeends_k81_written_grains_and_steps
abbrev hk : PySem.W.Hook := HeZ.hookZ 1200 fa fn ex ts
def ob (s : PySem.W.SharedT)   : HeZ.AlZ := HeZ.obsZ 1200 fa fn ex ts (HandSHeadRun.getT s)
theorem ob_eq (s : PySem.W.SharedT) : ob s = hk.obs s.abs := HeZ.obsZ_eq (HandSHeadRun.getT_eq s)
set_option maxHeartbeats 0 in
theorem run1 (w : World) : HeZ.Left1 R (PySem.W.view R.prog [58]) 12000 loose w := by
  intro os
  kernel_rfl
set_option maxHeartbeats 0 in
theorem run2 (w : World) : HeZ.Left R 12000 w ob (hk.val w) := by
  intro os
  kernel_rfl
set_option maxHeartbeats 0 in
theorem run (w : World) : HandSHeadRun.RunEq R (PySem.W.view R.prog [58]) hk ob 12000 loose w := HeZ.run_parts (run1 w) (run2 w)
end K81

namespace K81
open PySem PySem.Spec PyProof.Rows L2
set_option hygiene false in
local macro_rules | `(tactic| decreasing_trivial) => `(tactic| (repeat ((fail_if_success (with_reducible intro _)); first | (apply And.intro; case left => first | ((fail_if_success (with_reducible intro _)); first | (with_reducible refine le62 ?_; omega) | (with_reducible refine lt62 ?_; omega) | (with_reducible refine gs_eq ?_; first | (simp only [List.length_set, wipe_length, List.length_cons, List.length_nil]; decide) | decide) | ((first | (with_reducible refine gs_ne (by decide) ?_) | (with_reducible refine gs_wipe (by decide) ?_)); (repeat (first | (with_reducible refine gs_ne (by decide) ?_) | (with_reducible refine gs_wipe (by decide) ?_))); first | (with_reducible refine gs_eq ?_; simp only [List.length_set, wipe_length, List.length_cons, List.length_nil]; decide) | (with_reducible refine gs_eq ?_; decide) | exact rfl) | exact rfl | assumption | (rw [upd_same]) | exact SqL.of (by assumption) | exact SqT.of_ (by assumption) | exact (show Cls _ _ by first | exact T.cl_Grain | exact T.cl_Step) | exact (show NoAttr _ _ _ by first | exact T.n_Grain_lengths | exact T.n_Grain_start | exact T.n_Step_period | exact T.n_Step_rise | exact T.n_Step_steps) | exact (show PySem.W.kitOne _ _ _ = some _ by first | exact T.k_Step | exact T.k_Grain | exact T.k_int_int | exact T.k_int_bool | exact T.k_tup_tup | exact T.k_str_str) | exact (show PySem.W.kitAny _ _ _ = some _ by first | exact T.ka_list | exact T.ka_tuple) | exact BagAt.new (by assumption) (by assumption) | exact .own _ | exact .ty _ | exact (show TyX _ _ _ _ by first | exact .base (.int _) | exact .base (.bl _) | exact .base (.str _) | exact .base .non | exact tyx_own (by assumption) T.cl_Grain T.ty_Grain | exact tyx_own (by assumption) T.cl_Step T.ty_Step) | exact (show LenV _ _ _ _ by first | exact Or.inl ⟨_, SqL.of (by assumption), rfl⟩ | exact Or.inr ⟨_, SqT.of_ (by assumption), rfl⟩ | exact Or.inl ⟨_, (by assumption), rfl⟩ | exact Or.inr ⟨_, (by assumption), rfl⟩) | (with_reducible refine le_size ?_; first | omega | (simp only [List.length_append, List.length_map, List.length_range, List.length_take, List.length_drop, List.length_cons, List.length_nil, List.length_set, List.length_replicate] at *; omega)) | (with_reducible refine lt_size ?_; first | omega | (simp only [List.length_append, List.length_map, List.length_range, List.length_take, List.length_drop, List.length_cons, List.length_nil, List.length_set, List.length_replicate] at *; omega)) | exact (show SqL _ _ _ _ ∨ SqT _ _ _ _ by first | exact Or.inl (SqL.of (by assumption)) | exact Or.inr (SqT.of_ (by assumption))) | exact (show _ ≤ sizeLine by first | exact (show 0 ≤ sizeLine by decide) | exact (show 1 ≤ sizeLine by decide) | exact (show 2 ≤ sizeLine by decide) | exact (show 3 ≤ sizeLine by decide) | exact (show 4 ≤ sizeLine by decide) | exact (show 5 ≤ sizeLine by decide) | exact (show 6 ≤ sizeLine by decide) | exact (show 7 ≤ sizeLine by decide) | exact (show 8 ≤ sizeLine by decide) | exact (show 9 ≤ sizeLine by decide) | exact (show 10 ≤ sizeLine by decide) | exact (show 11 ≤ sizeLine by decide) | exact (show 12 ≤ sizeLine by decide)) | exact ⟨_, SqL.of (by assumption)⟩ | exact ⟨_, SqT.of_ (by assumption)⟩ | exact Or.inl ⟨rfl, _, SqL.of (by assumption)⟩ | exact Or.inr ⟨_, _, (by assumption)⟩ | (with_reducible refine idLtI ?_; omega) | (with_reducible refine idLeI ?_; omega) | (with_reducible refine idLtN ?_; omega) | (with_reducible refine idLeN ?_; omega) | (with_reducible refine idNeI ?_; omega) | (with_reducible refine idEqI ?_; omega) | (with_reducible refine idEqN ?_; omega) | (with_reducible refine idNot ?_; omega) | (with_reducible refine idR4 ?_; omega) | exact (show 0 < List.length (_ :: _) from Nat.zero_lt_succ _) | exact (show List.length (_ :: _) < 100 from (by simp only [List.length_cons, List.length_nil]; decide)) | (with_reducible refine lgi9 ?_ ?_ <;> omega) | (with_reducible refine lgi19 ?_ ?_ <;> omega) | exact (show CDivW _ _ from ⟨by omega, by decide⟩) | exact (show CPow _ _ from ⟨by decide, by decide, by decide⟩) | exact (show CMulW _ _ from mulW 64 64 (lt64 (by omega) (by omega)) (lt64 (by omega) (by omega))) | decide | exact (show ∃ a, V.str _ = V.str a from ⟨_, rfl⟩) | exact SqL.of (by rw [upd_same]) | exact SqT.of_ (by rw [upd_same]) | exact (show TyX _ _ _ _ by first | exact .base (.int _) | exact .base (.bl _) | exact .base (.str _) | exact .base .non | exact tyx_own (by rw [upd_same]) T.cl_Grain T.ty_Grain | exact tyx_own (by rw [upd_same]) T.cl_Step T.ty_Step) | exact (show LenV _ _ _ _ by first | exact Or.inl ⟨_, SqL.of (by rw [upd_same]), rfl⟩ | exact Or.inr ⟨_, SqT.of_ (by rw [upd_same]), rfl⟩ | exact Or.inl ⟨_, (by assumption), rfl⟩ | exact Or.inr ⟨_, (by assumption), rfl⟩) | exact (show SqL _ _ _ _ ∨ SqT _ _ _ _ by first | exact Or.inl (SqL.of (by rw [upd_same])) | exact Or.inr (SqT.of_ (by rw [upd_same]))) | exact ⟨_, SqL.of (by rw [upd_same])⟩ | exact ⟨_, SqT.of_ (by rw [upd_same])⟩ | exact Or.inl ⟨rfl, _, SqL.of (by rw [upd_same])⟩ | exact Or.inr ⟨_, _, (by rw [upd_same])⟩) | assumption) | apply @Exists.intro V | apply @Exists.intro Addr | apply @Exists.intro Int | apply @Exists.intro (List V) | apply @Exists.intro Bool | apply @Exists.intro (List (Str × V)) | apply @Exists.intro Nat | apply @Exists.intro Sx.F | apply @Exists.intro Value | apply @Exists.intro (List Int) | apply @Exists.intro (List (Int × Int)) | apply @Exists.intro Str | apply @Exists.intro (List Nat) | apply @Exists.intro (List (List Nat)) | (show @ite Prop _ _ _ _; with_reducible first | refine iteF ?_ | refine iteT ?_ | refine iteNF ?_ | refine iteNT ?_) | (apply Or.inl; apply Exists.intro; apply And.intro; case left => exact rfl) | (refine And.intro (a := CMulW _ _) ?_ ?_; rotate_left))))
def sp_BadText_init (K : PySem.W.Frag) : Sp := spErr K (He.ga K "BadText") "place"
def sp_is_integer (K : PySem.W.Frag) : Sp := fun vs H Q _ => ∃ i, vs = [.int i] ∧ Q (.bl true) H
def sp_value_at (K : PySem.W.Frag) : Sp := fun vs H Q _ => ∃ v f x, vs = [v, .int x] ∧ StepAt K H v f ∧ x.natAbs < 2 ^ 9000 ∧ Q (.int (Sx.ev f x)) H
def sp_partner_at (K : PySem.W.Frag) : Sp := fun vs H Q _ => ∃ v f x, vs = [v, .int x] ∧ StepAt K H v f ∧ x.natAbs < 2 ^ 9000 ∧ Q (.int (Sx.pa f x)) H
def sp_look_steps (K : PySem.W.Frag) : Sp := fun vs H Q _ => ∃ D f, vs = [.int f.P, .int f.R, .ref D] ∧ PairsL H D f.ps ∧ Sx.Raw f ∧ ∀ H', Same H H' → Q .non H'
def sp_least_form (K : PySem.W.Frag) : Sp := fun vs H Q _ => ∃ t f, vs = [.int f.P, .int f.R, .ref t] ∧ PairsT H t f.ps ∧ Sx.Good f ∧ Sx.Norm f ∧ ∀ p t' g H', Same H H' → Sx.Good g → Sx.Rep g f → Sx.Least g → Sx.Norm g → (∀ n, Sx.Bd n f → Sx.Bd n g) → PairsT H' t' g.ps → H' p = some (.tup [.int g.P, .int g.R, .ref t']) → Q (.ref p) H'
def sp_Step_init (K : PySem.W.Frag) : Sp := fun vs H Q _ => ∃ a dx D f, vs = [.ref a, .int f.P, .int f.R, .ref D] ∧ H a = some (.ins (He.ga K "Step") dx []) ∧ PairsL H D f.ps ∧ Sx.Raw f ∧
  ∀ t' g H1, Same H H1 → Sx.Ok g → (∀ x, Sx.ev g x = Sx.ev f x) → (∀ n, Sx.Bd n f → Sx.Bd n g) → PairsT H1 t' g.ps → Q .non (upd H1 a (.ins (He.ga K "Step") dx [("period", .int g.P), ("rise", .int g.R), ("steps", .ref t')]))
def sp_Step_eq (K : PySem.W.Frag) : Sp := fun vs H Q _ => ∃ u v f g, vs = [u, v] ∧ StepAt K H u f ∧ StepAt K H v g ∧ ∀ b H', (b = true ↔ f = g) → Same H H' → Q (.bl b) H'
def sp_Step_call (K : PySem.W.Frag) : Sp := sp_value_at K
/-- a new Step with the function F -/
def newStep (K : PySem.W.Frag) (H : Hp) (F : Int → Int) (n : Nat) (Q : V → Hp → Prop) : Prop := ∀ v g H', Same H H' → StepAt K H' v g → (∀ x, Sx.ev g x = F x) → Sx.Bd n g → Q v H'
def sp_step_of (K : PySem.W.Frag) : Sp := fun vs H Q _ => ∃ P R D ps F n, vs = [.int P, .int R, .ref D] ∧ PairsL H D ps ∧ Sx.Told F P R ps ∧ n < 4000 ∧ P.natAbs < 2 ^ n ∧ R.natAbs < 2 ^ n ∧ (F 0).natAbs < 2 ^ n ∧ (∀ q ∈ ps, q.1.natAbs < 2 ^ 9000) ∧ newStep K H F (n + 1) Q
def sp_partner (K : PySem.W.Frag) : Sp := fun vs H Q _ => ∃ v f n, vs = [v] ∧ StepAt K H v f ∧ Sx.Bd n f ∧ 2 * n + 5 < 4000 ∧ newStep K H (Sx.pa f) (2 * n + 5) Q
def sp_Step_invert (K : PySem.W.Frag) : Sp := sp_partner K
def sp_reflected (K : PySem.W.Frag) : Sp := fun vs H Q _ => ∃ v f n, vs = [v] ∧ StepAt K H v f ∧ Sx.Bd n f ∧ n + 2 < 4000 ∧ newStep K H (fun x => -Sx.ev f (-x)) (n + 2) Q
def sp_Step_neg (K : PySem.W.Frag) : Sp := sp_reflected K
def sp_raised (K : PySem.W.Frag) : Sp := fun vs H Q _ => ∃ v f n z, vs = [v, .int z] ∧ StepAt K H v f ∧ Sx.Bd n f ∧ n + 1 < 4000 ∧ z.natAbs < 2 ^ n ∧ newStep K H (fun x => Sx.ev f x + z) (n + 1) Q
def sp_Step_add (K : PySem.W.Frag) : Sp := sp_raised K
def sp_Step_sub (K : PySem.W.Frag) : Sp := fun vs H Q _ => ∃ v f n z, vs = [v, .int z] ∧ StepAt K H v f ∧ Sx.Bd n f ∧ n + 1 < 4000 ∧ z.natAbs < 2 ^ n ∧ newStep K H (fun x => Sx.ev f x - z) (n + 1) Q
/-- Step(row) of a row that look_steps lets through -/
theorem step_new {K : PySem.W.Frag} {H : Hp} {D : Addr} {f : Sx.F} {Q : Addr → Hp → Prop} {E : XK} (hd : PairsL H D f.ps) (R : Sx.Raw f)
    (q : ∀ x g H', Same H H' → StepAt K H' (.ref x) g → (∀ x, Sx.ev g x = Sx.ev f x) → (∀ n, Sx.Bd n f → Sx.Bd n g) → Q x H') :
    ∀ x dx : Addr, H x = none → H dx = none → dx ≠ x → sp_Step_init K [.ref x, .int f.P, .int f.R, .ref D] (upd (upd H dx (.own x)) x (.ins (He.ga K "Step") dx [])) (fun r H' => r = .non ∧ Q x H') E := by
  intro x dx nx nd _
  refine ⟨x, dx, D, f, rfl, upd_same, hd.same ((Same.new nd).put nx), R, fun t' g H4 s4 hok hev hbd hpt => ⟨rfl, ?_⟩⟩
  obtain ⟨H5, e5, u5, hst⟩ := made_step nx nd s4 hok hpt
  rw [e5]
  exact q _ g H5 u5 hst hev hbd
theorem le_part {parts : Nat} {a b : Int} (h0 : 0 < parts) (e : a = parts * b) (h : 0 < a) : b.natAbs ≤ a.natAbs := by
  rw [e, Int.natAbs_mul]
  exact Nat.le_mul_of_pos_left _ (by omega)
/-- a tuple of ints -/
def TupI (K : PySem.W.Frag) (H : Hp) (v : V) (ls : List Int) : Prop := ∃ a, v = .ref a ∧ H a = some (.tup (ls.map V.int))
theorem TupI.same {K : PySem.W.Frag} {H H' : Hp} {v : V} {ls : List Int} (h : TupI K H v ls) (s : Same H H') : TupI K H' v ls := by
  obtain ⟨a, e, h⟩ := h
  exact ⟨a, e, s _ _ h⟩
def GrainAt (K : PySem.W.Frag) (H : Hp) (v : V) (ls : List Int) (st : Int) : Prop := ∃ a dx t, v = .ref a ∧ H a = some (.ins (He.ga K "Grain") dx [("lengths", .ref t), ("start", .int st)]) ∧ H t = some (.tup (ls.map V.int))
theorem imm_grain {C dx : Addr} {v w : V} : imm (.ins C dx [("lengths", v), ("start", w)]) = true := by
  show decide ((["lengths", "start"] : List Str) ∈ wholeN) = true
  decide +kernel
theorem GrainAt.kp {K : PySem.W.Frag} {H H' : Hp} {v : V} {ls : List Int} {st : Int} (h : GrainAt K H v ls st) (k : Kp H H') : GrainAt K H' v ls st := by
  obtain ⟨a, dx, t, e, h, h2⟩ := h
  exact ⟨a, dx, t, e, k _ _ h (by have := @imm_grain (He.ga K "Grain") dx (.ref t) (.int st); exact this), k _ _ h2 rfl⟩
theorem GrainAt.same {K : PySem.W.Frag} {H H' : Hp} {v : V} {ls : List Int} {st : Int} (h : GrainAt K H v ls st) (k : Same H H') : GrainAt K H' v ls st := h.kp k.kp
def sp_shortest_row (K : PySem.W.Frag) : Sp := fun vs H Q _ => ∃ v ls, vs = [v] ∧ TupI K H v ls ∧ ls ≠ [] ∧ ls.length ≤ 12 ∧ ∀ v' H', Same H H' → TupI K H' v' (Gr.shortest ls) → Q v' H'
def sp_first_in (K : PySem.W.Frag) : Sp := fun vs H Q _ => ∃ v ls st k, vs = [v, .int st, .int k] ∧ TupI K H v ls ∧ Gr.Row ls ∧ k.natAbs < 2 ^ 3000 ∧ ∀ H', Same H H' → Q (.int (Gr.firstOf ls st k)) H'
def sp_cell_in (K : PySem.W.Frag) : Sp := fun vs H Q _ => ∃ v ls st x, vs = [v, .int st, .int x] ∧ TupI K H v ls ∧ Gr.Row ls ∧ (x - st).natAbs < 2 ^ 3000 ∧ ∀ k H', Gr.InCell ls st x k → Same H H' → Q (.int k) H'
def sp_Grain_cell (K : PySem.W.Frag) : Sp := fun vs H Q _ => ∃ v ls st x, vs = [v, .int x] ∧ GrainAt K H v ls st ∧ Gr.Row ls ∧ (x - st).natAbs < 2 ^ 3000 ∧ ∀ k H', Gr.InCell ls st x k → Same H H' → Q (.int k) H'
def sp_Grain_first (K : PySem.W.Frag) : Sp := fun vs H Q _ => ∃ v ls st k, vs = [v, .int k] ∧ GrainAt K H v ls st ∧ Gr.Row ls ∧ k.natAbs < 2 ^ 3000 ∧ ∀ H', Same H H' → Q (.int (Gr.firstOf ls st k)) H'
/-- __init__ at [self, start, lengths] -/
def sp_Grain_init (K : PySem.W.Frag) : Sp := fun vs H Q _ => ∃ a dx t ls st, vs = [.ref a, .int st, .ref t] ∧ H a = some (.ins (He.ga K "Grain") dx []) ∧ H t = some (.tup (ls.map V.int)) ∧ Gr.Row ls ∧
  ∀ t' H1, Same H H1 → H1 t' = some (.tup ((Gr.shortest ls).map V.int)) → Q .non (upd H1 a (.ins (He.ga K "Grain") dx [("lengths", .ref t'), ("start", .int st)]))
/-- behind Grain(.., start=..) -/
theorem made_grain {K : PySem.W.Frag} {H H1 : Hp} {x dx pt t' : Addr} {xs : List V} {ls : List Int} {st : Int} (nx : H x = none) (nd : H dx = none) (np : H pt = none) (n1 : dx ≠ x) (n2 : pt ≠ x) (n3 : pt ≠ dx)
    (s : Same (upd (upd (upd H dx (.own x)) x (.ins (He.ga K "Grain") dx [])) pt (.tup xs)) H1) (ht : H1 t' = some (.tup (ls.map V.int))) :
    ∃ H', upd H1 x (.ins (He.ga K "Grain") dx [("lengths", .ref t'), ("start", .int st)]) = H' ∧ Same H H' ∧ GrainAt K H' (.ref x) ls st := by
  have s0 : Same H (upd (upd (upd H dx (.own x)) x (.ins (He.ga K "Grain") dx [])) pt (.tup xs)) := ((Same.new nd).put nx).put np
  have hx1 : H1 x = some (.ins (He.ga K "Grain") dx []) := s _ _ (by rw [upd_ne (Ne.symm n2), upd_same])
  refine ⟨_, rfl, fun b o e => ?_, x, dx, t', rfl, upd_same, ?_⟩
  · rw [upd_ne (ne_of_none e nx)]
    exact s _ _ (s0 _ _ e)
  · rw [upd_ne (ne_of ht hx1 (by intro z; cases z))]
    exact ht
/-- Grain(.., start=..) of a right row -/
theorem grain_new {K : PySem.W.Frag} {H : Hp} {xs : List V} {ls : List Int} {st : Int} {Q : Addr → Hp → Prop} {E : XK} (hr : Gr.Row ls) (e : xs = ls.map V.int) (q : ∀ x H', Same H H' → GrainAt K H' (.ref x) (Gr.shortest ls) st → Q x H') :
    ∀ x dx pt, H x = none → H dx = none → dx ≠ x → H pt = none → pt ≠ x → pt ≠ dx → sp_Grain_init K [.ref x, .int st, .ref pt] (upd (upd (upd H dx (.own x)) x (.ins (He.ga K "Grain") dx [])) pt (.tup xs)) (fun v H3 => v = .non ∧ Q x H3) E := by
  intro x dx pt nx nd n1 np n2 n3
  subst e
  refine ⟨x, dx, pt, ls, st, rfl, by rw [upd_ne (Ne.symm n2), upd_same], upd_same, hr, fun t' H1 s1 ht => ⟨rfl, ?_⟩⟩
  obtain ⟨H', e, s', hg⟩ := made_grain (st := st) nx nd np n1 n2 n3 s1 ht
  rw [e]
  exact q _ _ s' hg
def sp_l_bag (K : PySem.W.Frag) : Sp := spBag K
def sp_l_take (K : PySem.W.Frag) : Sp := spTake
def sp_l_number (K : PySem.W.Frag) : Sp := spDraw 90
def sp_l_gap (K : PySem.W.Frag) : Sp := fun vs H Q _ => ∃ (l : Addr), vs = [.ref l] ∧ BagAt H l ∧ ∀ (d : Int) (H' : Hp), 0 < d → d ≤ 10 ^ 15 → But l H H' → BagAt H' l → Q (.int d) H'
def sp_l_map (K : PySem.W.Frag) : Sp := fun vs H Q _ => ∃ (l : Addr) (most : Int), vs = [.ref l, .int most] ∧ BagAt H l ∧ 0 < most ∧ most ≤ 240 ∧ ∀ (f : Sx.F) (p D : Addr) (H' : Hp), Sx.Raw f → Sx.Bd 64 f → (f.ps.length : Int) ≤ most → But l H H' → BagAt H' l → RowAt H' p D f → p ≠ l → D ≠ l → Q (.ref p) H'
def sp_l_again (K : PySem.W.Frag) : Sp := fun vs H Q _ => ∃ (r D : Addr) (f : Sx.F) (M : Int), vs = [.ref r, .int M] ∧ RowAt H r D f ∧ Sx.Raw f ∧ 0 < M ∧ M ≤ 30 ∧ M.toNat * f.ps.length ≤ 240 ∧ ∀ p D' H', H p = none → H D' = none → Same H H' → RowAt H' p D' (Sx.again f M.toNat) → Q (.ref p) H'
def sp_has_digits (K : PySem.W.Frag) : Sp := fun vs H Q _ => ∃ a, vs = [.str (SX.S a)] ∧ a.length ≤ 100000 ∧ Q (.bl (Tx.hasD a)) H
def sp_is_count (K : PySem.W.Frag) : Sp := fun vs H Q _ => ∃ a, vs = [.str (SX.S a)] ∧ a.length ≤ 100000 ∧ Q (.bl (Tx.isCnt a)) H
def sp_is_written (K : PySem.W.Frag) : Sp := fun vs H Q _ => ∃ a, vs = [.str (SX.S a)] ∧ a.length ≤ 100000 ∧ Q (.bl (Tx.isWr a)) H
def sp_look_string (K : PySem.W.Frag) : Sp := fun vs H Q E => ∃ v, vs = [v] ∧ ((∃ a, v = .str (SX.S a) ∧ Q .non H) ∨ (∃ t, TyX K H v t ∧ PySem.W.kitOne K t (.type "str") = some false ∧ ∀ d H', Raised H d "place" (.int (-1)) H' → E (.ref (He.ga K "BadText")) (some d) H'))
def NotStr (K : PySem.W.Frag) (H : Hp) (v : V) : Prop := ∃ t, TyX K H v t ∧ PySem.W.kitOne K t (.type "str") = some false
theorem NotStr.same {K : PySem.W.Frag} {H H' : Hp} {v : V} (h : NotStr K H v) (s : Same H H') : NotStr K H' v := by
  obtain ⟨t, h1, h2⟩ := h
  exact ⟨t, h1.same s, h2⟩
theorem RaisedBy {H H1 H' : Hp} {d : Addr} {f : Str} {v : V} (h : Raised H1 d f v H') (s : Same H H1) : Raised H d f v H' := ⟨s.free h.1, h.2.1, s.trans h.2.2⟩
theorem take_one {a : List Nat} {c : Nat} : a.take (1 : Int).toNat = [c] ↔ a.head? = some c := by
  cases a with
  | nil => exact ⟨fun z => (by cases z), fun z => (by cases z)⟩
  | cons d r =>
    constructor
    · intro z
      injection z with z
      rw [z]
      rfl
    · intro z
      injection z with z
      rw [z]
      rfl
theorem dv_lt : ∀ {a : List Nat}, NumText.AllDigits a → NumText.digitsVal a < 10 ^ a.length := by
  have go : ∀ (a : List Nat) (n k : Nat), NumText.AllDigits a → n < 10 ^ k → a.foldl (fun acc c => acc * 10 + (c - 48)) n < 10 ^ (k + a.length) := by
    intro a
    induction a with
    | nil => intro n k _ h; exact h
    | cons c r ih =>
      intro n k h hn
      have hc := h c List.mem_cons_self
      rw [List.foldl_cons, List.length_cons, show k + (r.length + 1) = (k + 1) + r.length by omega]
      refine ih _ (k + 1) (fun d hd => h d (List.mem_cons_of_mem _ hd)) ?_
      rw [Nat.pow_succ]
      omega
  intro a h
  have := go a 0 0 h (by decide)
  rw [Nat.zero_add] at this
  exact this
theorem par_len {b : List Nat} : ∀ {a acc p q : List Nat}, TL.par b acc a = some (p, q) → p.length + q.length ≤ acc.length + a.length := by
  intro a
  induction a with
  | nil => intro acc p q h; cases h
  | cons c r ih =>
    intro acc p q h
    cases hp : TL.pre b (c :: r) with
    | true =>
      rw [TL.par_hit hp] at h
      injection h with h
      injection h with h1 h2
      subst h1
      subst h2
      rw [List.length_drop]
      omega
    | false =>
      rw [TL.par_miss hp] at h
      have := ih h
      rw [List.length_append, List.length_cons, List.length_nil] at this
      rw [List.length_cons]
      omega
theorem spl_len' {b : List Nat} : ∀ {a : List Nat} {k : Nat} {acc w : List Nat}, w ∈ TL.spl b k acc a → w.length ≤ acc.length + a.length := by
  intro a
  induction a with
  | nil =>
    intro k acc w h
    rw [TL.spl_nil] at h
    rw [List.mem_singleton.mp h]
    omega
  | cons c r ih =>
    intro k acc w h
    rw [List.length_cons]
    cases k with
    | succ k =>
      have := ih (k := k) (acc := acc) h
      omega
    | zero =>
      cases hp : TL.pre b (c :: r) with
      | true =>
        rw [TL.spl_hit hp] at h
        rcases List.mem_cons.mp h with e | e
        · rw [e]; omega
        · have := ih e
          rw [List.length_nil] at this
          omega
      | false =>
        rw [TL.spl_miss hp] at h
        have := ih h
        rw [List.length_append, List.length_cons, List.length_nil] at this
        omega
theorem spl_len {b a w : List Nat} (h : w ∈ TL.spl b 0 [] a) : w.length ≤ a.length := by
  have := spl_len' h
  rw [List.length_nil] at this
  omega
theorem cnt_parts {a : List Nat} (h : Tx.isCnt a = true) : Tx.hasD a = true ∧ a.length ≤ 30 := by
  unfold Tx.isCnt at h
  rw [Bool.and_eq_true, Bool.and_eq_true] at h
  exact ⟨h.1.1, of_decide_eq_true h.1.2⟩
theorem cnt_lt {a : List Nat} (h : Tx.isCnt a = true) : NumText.digitsVal a < 10 ^ 30 :=
  Nat.lt_of_lt_of_le (dv_lt (Tx.hasD_iff.mp (cnt_parts h).1).2) (Nat.pow_le_pow_right (by decide) (cnt_parts h).2)
theorem wr_parts {a : List Nat} (h : Tx.isWr a = true) : Tx.IntT a (Tx.wrV a) ∧ a.length ≤ 31 ∧ (Tx.wrV a).natAbs < 10 ^ 30 := by
  unfold Tx.isWr at h
  unfold Tx.wrV
  by_cases h45 : a.head? = some 45
  · rw [if_pos h45] at h ⊢
    rw [Bool.and_eq_true] at h
    obtain ⟨h1, h2⟩ := cnt_parts h.1
    have h3 := cnt_lt h.1
    rw [List.length_drop] at h2
    exact ⟨.inr ⟨h45, h1, rfl⟩, by omega, by omega⟩
  · rw [if_neg h45] at h ⊢
    obtain ⟨h1, h2⟩ := cnt_parts h
    have h3 := cnt_lt h
    exact ⟨.inl ⟨h1, rfl⟩, by omega, by omega⟩
theorem szP {a b : List Nat} (h : a.length + b.length ≤ 1000) : a.length + b.length ≤ sizeLine := le_size (by omega)
/-- all signs below 128 -/
def Asc (a : List Nat) : Prop := ∀ c ∈ a, c < 128
theorem asc_num (n : Nat) : Asc (TL.numL n) := fun c hc => by
  have := TL.numL_digits n c hc
  omega
theorem asc_app {a b : List Nat} (h : Asc a) (h' : Asc b) : Asc (a ++ b) := fun c hc => (List.mem_append.mp hc).elim (h c) (h' c)
theorem asc_cons {c : Nat} {a : List Nat} (hc : c < 128) (h : Asc a) : Asc (c :: a) := fun d hd => (List.mem_cons.mp hd).elim (fun e => by rw [e]; exact hc) (h d)
theorem asc_nil : Asc [] := fun c hc => by cases hc
theorem asc_int (z : Int) : Asc (Tx.intL z) := by
  unfold Tx.intL
  split
  · exact asc_cons (by decide) (asc_num _)
  · exact asc_num _
theorem sh_text {a : List Nat} (h : Asc a) (hl : a.length ≤ 190) : Sh 0 1921 (.str (SX.S a)) := Sh.strC (by
  have := StrLaws.reprText_len (SX.S a) (fun c hc => by
    have := h c hc
    have e : (16 : Nat) ^ 8 = 4294967296 := by decide
    omega)
  exact Nat.le_trans this (by
    have e := SX.S_len a
    omega))
theorem sh_texts {as : List (List Nat)} {n : Nat} (h : ∀ a ∈ as, Asc a ∧ a.length ≤ 190) (hn : as.length ≤ n) (h8 : n ≤ 8000) : Sh 64 sizeLine (.list (as.map fun a => PyData.str (SX.S a))) :=
  Sh.mono (k := 1) (m := n * 1923 + 3) (Sh.list (k := 0) (m := 1921) (n := n) (fun d hd => by
    obtain ⟨a, ha, rfl⟩ := List.mem_map.mp hd
    exact sh_text (h a ha).1 (h a ha).2) (by rw [List.length_map]; exact hn)) (by decide) (Nat.le_trans (by omega) (show 16000000 ≤ sizeLine by decide))
theorem dpAll_texts {K : PySem.W.Frag} {H : Hp} : ∀ as : List (List Nat), DpAll K H (as.map fun a => V.str (SX.S a)) (as.map fun a => PyData.str (SX.S a))
  | [] => .nil
  | a :: r => .cons (.str _) (dpAll_texts r)
theorem mem_ten {c : Nat} : c ∈ [48, 49, 50, 51, 52, 53, 54, 55, 56, 57] ↔ 48 ≤ c ∧ c ≤ 57 := by
  simp only [List.mem_cons, List.not_mem_nil, or_false]
  omega
theorem intL_lt {z : Int} {k : Nat} (hk : 0 < k) (h : z.natAbs < 10 ^ k) : (Tx.intL z).length ≤ k + 1 := by
  unfold Tx.intL
  have hn : (TL.numL z.natAbs).length ≤ k := TL.numL_len hk h
  split
  · rw [List.length_cons]
    omega
  · omega
theorem len_joinL {sep : List Nat} : ∀ ys : List (List Nat), (TL.joinL sep ys).length ≤ (ys.map (·.length)).sum + ys.length * sep.length := by
  intro ys
  induction ys with
  | nil => exact Nat.zero_le _
  | cons y r ih =>
    cases r with
    | nil =>
      show y.length ≤ _
      simp
    | cons z r =>
      show (y ++ (sep ++ TL.joinL sep (z :: r))).length ≤ _
      rw [List.length_append, List.length_append, List.map_cons, List.sum_cons, List.length_cons, Nat.succ_mul]
      omega
theorem mem_joinL {sep : List Nat} {c : Nat} : ∀ {ys : List (List Nat)}, c ∈ TL.joinL sep ys → c ∈ sep ∨ ∃ y ∈ ys, c ∈ y := by
  intro ys
  induction ys with
  | nil => intro h; cases h
  | cons y r ih =>
    cases r with
    | nil => intro h; exact .inr ⟨y, List.mem_cons_self, h⟩
    | cons z r =>
      intro h
      have h : c ∈ y ++ (sep ++ TL.joinL sep (z :: r)) := h
      rcases List.mem_append.mp h with e | e
      · exact .inr ⟨y, List.mem_cons_self, e⟩
      rcases List.mem_append.mp e with e | e
      · exact .inl e
      rcases ih e with e | ⟨y', h1, h2⟩
      · exact .inl e
      · exact .inr ⟨y', List.mem_cons_of_mem _ h1, h2⟩
theorem sum_le {α : Type} {f : α → Nat} {m : Nat} : ∀ {l : List α}, (∀ x ∈ l, f x ≤ m) → (l.map f).sum ≤ l.length * m := by
  intro l
  induction l with
  | nil => intro _; exact Nat.zero_le _
  | cons x r ih =>
    intro h
    rw [List.map_cons, List.sum_cons, List.length_cons, Nat.succ_mul]
    have := h x List.mem_cons_self
    have := ih fun y hy => h y (List.mem_cons_of_mem _ hy)
    omega
theorem joinL_lt {sep : List Nat} {ys : List (List Nat)} {m : Nat} (h : ∀ y ∈ ys, y.length ≤ m) : (ys.map (·.length)).sum + ys.length * sep.length ≤ ys.length * (m + sep.length) := by
  have := sum_le (f := fun y : List Nat => y.length) h
  rw [Nat.mul_add]
  omega
theorem int_free {z : Int} {c : Nat} (h45 : c ≠ 45) (h : c < 48 ∨ 57 < c) : c ∉ Tx.intL z := by
  unfold Tx.intL
  have hn := TL.numL_free (n := z.natAbs) h
  split
  · intro hm
    rcases List.mem_cons.mp hm with e | e
    · exact h45 e
    · exact hn e
  · exact hn
theorem int_nat (n : Nat) : Tx.intL (n : Int) = TL.numL n := by
  unfold Tx.intL
  rw [if_neg (by omega), Int.natAbs_natCast]
/-- the text of a grain -/
def gTxt (ls : List Int) (st : Int) : List Nat := TL.joinL [43] (ls.map Tx.intL) ++ [64] ++ Tx.intL st
def partsG (a : List Nat) : Option (List Int × Int) := match TL.par [64] [] a with
  | none => none
  | some (row, st) => if Tx.isWr st = true ∧ (TL.spl [43] 0 [] row).all Tx.isWr = true then some ((TL.spl [43] 0 [] row).map Tx.wrV, Tx.wrV st) else none
theorem parts_txt {ls : List Int} {st : Int} (hn : ls ≠ []) (hb : ∀ z ∈ ls, z.natAbs < 10 ^ 30) (hst : st.natAbs < 10 ^ 30) : partsG (gTxt ls st) = some (ls, st) := by
  have hp : TL.par [64] [] (gTxt ls st) = some (TL.joinL [43] (ls.map Tx.intL), Tx.intL st) := by
    unfold gTxt
    rw [List.append_assoc]
    refine SX.par_head (c := 64) (sep := []) (p := TL.joinL [43] (ls.map Tx.intL)) (Tx.intL st) (fun hm => ?_)
    rcases mem_joinL hm with e | ⟨y, hy, e⟩
    · revert e; decide
    · obtain ⟨z, _, rfl⟩ := List.mem_map.mp hy
      exact int_free (by decide) (by decide) e
  have hs : TL.spl [43] 0 [] (TL.joinL [43] (ls.map Tx.intL)) = ls.map Tx.intL := SX.spl_join (c := 43) (sep := []) (by simpa using hn) (fun p hp => by
    obtain ⟨z, _, rfl⟩ := List.mem_map.mp hp
    exact int_free (by decide) (by decide))
  unfold partsG
  rw [hp]
  show (if Tx.isWr (Tx.intL st) = true ∧ (TL.spl [43] 0 [] (TL.joinL [43] (ls.map Tx.intL))).all Tx.isWr = true then some ((TL.spl [43] 0 [] (TL.joinL [43] (ls.map Tx.intL))).map Tx.wrV, Tx.wrV (Tx.intL st)) else none) = _
  rw [hs, if_pos ⟨(Tx.int_wr hst).1, List.all_eq_true.mpr fun p hp => by
    obtain ⟨z, hz, rfl⟩ := List.mem_map.mp hp
    exact (Tx.int_wr (hb z hz)).1⟩, (Tx.int_wr hst).2, List.map_map]
  congr 2
  refine (List.map_congr_left (g := id) fun z hz => (Tx.int_wr (hb z hz)).2).trans (List.map_id _)
theorem gTxt_len {ls : List Int} {st : Int} {n : Nat} (hl : ls.length ≤ n) (hb : ∀ z ∈ ls, z.natAbs < 10 ^ 30) (hst : st.natAbs < 10 ^ 30) : (gTxt ls st).length ≤ n * 32 + 32 := by
  unfold gTxt
  rw [List.length_append, List.length_append, List.length_singleton]
  have h1 := len_joinL (sep := [43]) (ls.map Tx.intL)
  have h2 := joinL_lt (sep := [43]) (ys := ls.map Tx.intL) (m := 31) (fun y hy => by
    obtain ⟨z, hz, rfl⟩ := List.mem_map.mp hy
    exact intL_lt (by decide) (hb z hz))
  rw [List.length_map, List.length_singleton] at h2
  have h3 := intL_lt (k := 30) (by decide) hst
  have : ls.length * 32 ≤ n * 32 := Nat.mul_le_mul_right _ hl
  rw [List.length_map, List.length_singleton] at h1
  omega
theorem gTxt_asc (ls : List Int) (st : Int) : Asc (gTxt ls st) := by
  unfold gTxt
  refine asc_app (asc_app (fun c hc => ?_) (asc_cons (by decide) asc_nil)) (asc_int st)
  rcases mem_joinL hc with e | ⟨y, hy, e⟩
  · rw [List.mem_singleton.mp e]; decide
  · obtain ⟨z, _, rfl⟩ := List.mem_map.mp hy
    exact asc_int z c e
theorem sh_line {a : List Nat} (h : Asc a) (hl : a.length ≤ 1000000) : Sh 64 sizeLine (.str (SX.S a)) := ⟨rfl, rfl, Nat.zero_le _, by
  have := StrLaws.reprText_len (SX.S a) (fun c hc => by
    have := h c hc
    have e : (16 : Nat) ^ 8 = 4294967296 := by decide
    omega)
  rw [PyData.shown_str]
  refine Nat.le_trans this (Nat.le_trans (m := 10000002) (by
    have e := SX.S_len a
    omega) (by decide))⟩
theorem spl_many {b : List Nat} : ∀ {a : List Nat} {k : Nat} {acc : List Nat}, (TL.spl b k acc a).length ≤ a.length + 1 := by
  intro a
  induction a with
  | nil => intro k acc; rw [TL.spl_nil]; exact Nat.le_refl _
  | cons c r ih =>
    intro k acc
    rw [List.length_cons]
    cases k with
    | succ k => exact Nat.le_trans (ih (k := k) (acc := acc)) (by omega)
    | zero =>
      cases hp : TL.pre b (c :: r) with
      | true =>
        rw [TL.spl_hit hp, List.length_cons]
        have := ih (k := b.length - 1) (acc := [])
        omega
      | false =>
        rw [TL.spl_miss hp]
        have := ih (k := 0) (acc := acc ++ [c])
        omega
def sp_show_grain (K : PySem.W.Frag) : Sp := fun vs H Q _ => ∃ v ls st, vs = [v] ∧ GrainAt K H v ls st ∧ ls.length ≤ 12 ∧ (∀ z ∈ ls, z.natAbs < 10 ^ 30) ∧ st.natAbs < 10 ^ 30 ∧ ∀ H', Same H H' → Q (.str (SX.S (gTxt ls st))) H'
def sp_grain_parts (K : PySem.W.Frag) : Sp := fun vs H Q _ => ∃ a, vs = [.str (SX.S a)] ∧ a.length ≤ 90000 ∧ (partsG a = none → ∀ H', Same H H' → Q .non H') ∧ (∀ ls st, partsG a = some (ls, st) → ∀ p q H', Same H H' → H' p = some (.tup [.ref q, .int st]) → H' q = some (.lst (ls.map V.int)) → Q (.ref p) H')
def sp_read_grain (K : PySem.W.Frag) : Sp := fun vs H Q _ => ∃ ls st, vs = [.str (SX.S (gTxt ls st))] ∧ Gr.Row ls ∧ st.natAbs < 10 ^ 30 ∧ ∀ v H', Same H H' → GrainAt K H' v (Gr.shortest ls) st → Q v H'
theorem row_small {ls : List Int} (h : Gr.Row ls) : ∀ z ∈ ls, z.natAbs < 10 ^ 30 := fun z hz => by
  have := h.pos z hz
  have e : (10 : Int) ^ 15 = 1000000000000000 := by decide
  omega
def pairL (q : Int × Int) : List Nat := Tx.intL q.1 ++ [58] ++ Tx.intL q.2
/-- the text of a row of steps -/
def sTxt (f : Sx.F) : List Nat := TL.joinL [32] (Tx.intL f.P :: Tx.intL f.R :: f.ps.map pairL)
theorem pairL_len {q : Int × Int} (h1 : q.1.natAbs < 10 ^ 30) (h2 : q.2.natAbs < 10 ^ 30) : (pairL q).length ≤ 63 := by
  unfold pairL
  have a := intL_lt (k := 30) (by decide) h1
  have b := intL_lt (k := 30) (by decide) h2
  rw [List.length_append, List.length_append, List.length_singleton]
  omega
theorem bd96 {z : Int} (h : z.natAbs < 2 ^ 96) : z.natAbs < 10 ^ 30 := by omega
theorem sTxt_parts {f : Sx.F} (B : Sx.Bd 96 f) : ∀ y ∈ Tx.intL f.P :: Tx.intL f.R :: f.ps.map pairL, y.length ≤ 63 := by
  intro y hy
  rcases List.mem_cons.mp hy with rfl | hy
  · exact Nat.le_trans (intL_lt (k := 30) (by decide) (bd96 B.P)) (by decide)
  rcases List.mem_cons.mp hy with rfl | hy
  · exact Nat.le_trans (intL_lt (k := 30) (by decide) (bd96 B.R)) (by decide)
  obtain ⟨q, hq, rfl⟩ := List.mem_map.mp hy
  exact pairL_len (bd96 (B.q q hq).1) (bd96 (B.q q hq).2)
theorem sTxt_sum {f : Sx.F} (B : Sx.Bd 96 f) (hl : f.ps.length ≤ 240) : ((Tx.intL f.P :: Tx.intL f.R :: f.ps.map pairL).map (·.length)).sum + (Tx.intL f.P :: Tx.intL f.R :: f.ps.map pairL).length * [32].length ≤ 20000 := by
  have := joinL_lt (sep := [32]) (sTxt_parts B)
  rw [List.length_cons, List.length_cons, List.length_map, List.length_singleton] at this ⊢
  have : (f.ps.length + 1 + 1) * (63 + 1) ≤ 242 * 64 := Nat.mul_le_mul_right _ (by omega)
  omega
theorem sTxt_len {f : Sx.F} (B : Sx.Bd 96 f) (hl : f.ps.length ≤ 240) : (sTxt f).length ≤ 20000 := Nat.le_trans (len_joinL _) (sTxt_sum B hl)
theorem pairL_asc (q : Int × Int) : Asc (pairL q) := asc_app (asc_app (asc_int _) (asc_cons (by decide) asc_nil)) (asc_int _)
theorem sTxt_asc (f : Sx.F) : Asc (sTxt f) := fun c hc => by
  rcases mem_joinL hc with e | ⟨y, hy, e⟩
  · rw [List.mem_singleton.mp e]; decide
  rcases List.mem_cons.mp hy with rfl | hy
  · exact asc_int _ c e
  rcases List.mem_cons.mp hy with rfl | hy
  · exact asc_int _ c e
  obtain ⟨q, _, rfl⟩ := List.mem_map.mp hy
  exact pairL_asc q c e
theorem sTxt_split (f : Sx.F) : TL.spl [32] 0 [] (sTxt f) = Tx.intL f.P :: Tx.intL f.R :: f.ps.map pairL := SX.spl_join (c := 32) (sep := []) (List.cons_ne_nil _ _) (fun p hp => by
  rcases List.mem_cons.mp hp with rfl | hp
  · exact int_free (by decide) (by decide)
  rcases List.mem_cons.mp hp with rfl | hp
  · exact int_free (by decide) (by decide)
  obtain ⟨q, _, rfl⟩ := List.mem_map.mp hp
  unfold pairL
  intro hm
  rcases List.mem_append.mp hm with hm | hm
  · rcases List.mem_append.mp hm with hm | hm
    · exact int_free (by decide) (by decide) hm
    · revert hm; decide
  · exact int_free (by decide) (by decide) hm)
theorem pair_split (q : Int × Int) : TL.spl [58] 0 [] (pairL q) = [Tx.intL q.1, Tx.intL q.2] := by
  have e : pairL q = TL.joinL [58] [Tx.intL q.1, Tx.intL q.2] := by
    show Tx.intL q.1 ++ [58] ++ Tx.intL q.2 = Tx.intL q.1 ++ ([58] ++ Tx.intL q.2)
    rw [List.append_assoc]
  rw [e]
  exact SX.spl_join (c := 58) (sep := []) (parts := [Tx.intL q.1, Tx.intL q.2]) (List.cons_ne_nil _ _) (fun p hp => by
    simp only [List.mem_cons, List.not_mem_nil, or_false] at hp
    rcases hp with rfl | rfl <;> exact int_free (by decide) (by decide))
/-- lists of numbers, none of them N -/
def NumsR (N : Addr) (H : Hp) (xs : List V) (rows : List (List Int)) : Prop := xs.length = rows.length ∧ ∀ (j : Nat) (r : List Int), rows[j]? = some r → ∃ a, xs[j]? = some (.ref a) ∧ a ≠ N ∧ H a = some (.lst (r.map V.int))
theorem NumsR.same {N : Addr} {H H' : Hp} {xs : List V} {rows : List (List Int)} (h : NumsR N H xs rows) (s : Same H H') : NumsR N H' xs rows := ⟨h.1, fun j r e => by
  obtain ⟨a, h1, h2, h3⟩ := h.2 j r e
  exact ⟨a, h1, h2, s _ _ h3⟩⟩
theorem NumsR.but {N : Addr} {H H' : Hp} {xs : List V} {rows : List (List Int)} (h : NumsR N H xs rows) (s : But N H H') : NumsR N H' xs rows := ⟨h.1, fun j r e => by
  obtain ⟨a, h1, h2, h3⟩ := h.2 j r e
  exact ⟨a, h1, h2, s _ _ h3 h2⟩⟩
theorem NumsR.nil {N : Addr} {H : Hp} : NumsR N H [] [] := ⟨rfl, fun j r e => by cases e⟩
theorem NumsR.push {N : Addr} {H : Hp} {xs : List V} {rows : List (List Int)} {a : Addr} {r : List Int} (h : NumsR N H xs rows) (ne : a ≠ N) (e : H a = some (.lst (r.map V.int))) : NumsR N H (xs ++ [.ref a]) (rows ++ [r]) := by
  refine ⟨by rw [List.length_append, List.length_append, h.1]; rfl, fun j r' e' => ?_⟩
  by_cases hj : j < rows.length
  · rw [List.getElem?_append_left hj] at e'
    obtain ⟨b, h1, h2⟩ := h.2 j r' e'
    exact ⟨b, by rw [List.getElem?_append_left (by rw [h.1]; exact hj)]; exact h1, h2⟩
  · rw [List.getElem?_append_right (by omega)] at e'
    obtain rfl : j = rows.length := by
      rcases Nat.eq_zero_or_pos (j - rows.length) with z | z
      · omega
      · rw [List.getElem?_eq_none (by rw [List.length_singleton]; omega)] at e'
        cases e'
    rw [Nat.sub_self] at e'
    cases e'
    exact ⟨a, by rw [List.getElem?_append_right (by rw [h.1]; exact Nat.le_refl _), h.1, Nat.sub_self]; rfl, ne, e⟩
def numsOf (f : Sx.F) : List (List Int) := [f.P] :: [f.R] :: f.ps.map fun q => [q.1, q.2]
def wordOf (r : List Int) : List Nat := TL.joinL [58] (r.map Tx.intL)
theorem words_nums (f : Sx.F) : (Tx.intL f.P :: Tx.intL f.R :: f.ps.map pairL) = (numsOf f).map wordOf := by
  unfold numsOf
  rw [List.map_cons, List.map_cons, List.map_map]
  congr 2
  refine List.map_congr_left fun q _ => ?_
  show Tx.intL q.1 ++ [58] ++ Tx.intL q.2 = Tx.intL q.1 ++ ([58] ++ Tx.intL q.2)
  rw [List.append_assoc]
theorem nums_at {f : Sx.F} (B : Sx.Bd 96 f) {i : Nat} {r : List Int} (h : (numsOf f)[i]? = some r) : (∀ z ∈ r, z.natAbs < 2 ^ 96) ∧ ((i < 2 ∧ ∃ z, r = [z]) ∨ (2 ≤ i ∧ ∃ z y, r = [z, y])) := by
  unfold numsOf at h
  match i, h with
  | 0, h =>
    cases h
    exact ⟨fun z hz => by rw [List.mem_singleton.mp hz]; exact B.P, .inl ⟨by decide, _, rfl⟩⟩
  | 1, h =>
    cases h
    exact ⟨fun z hz => by rw [List.mem_singleton.mp hz]; exact B.R, .inl ⟨by decide, _, rfl⟩⟩
  | i + 2, h =>
    rw [List.getElem?_cons_succ, List.getElem?_cons_succ, List.getElem?_map] at h
    cases e : f.ps[i]? with
    | none => rw [e] at h; cases h
    | some q =>
      rw [e] at h
      cases h
      have := B.q q (List.mem_of_getElem? e)
      refine ⟨fun z hz => ?_, .inr ⟨by omega, _, _, rfl⟩⟩
      simp only [List.mem_cons, List.not_mem_nil, or_false] at hz
      rcases hz with rfl | rfl
      · exact this.1
      · exact this.2
theorem word_split {r : List Int} (hn : r ≠ []) : TL.spl [58] 0 [] (wordOf r) = r.map Tx.intL :=
  SX.spl_join (c := 58) (sep := []) (by simpa using hn) (fun p hp => by
    obtain ⟨z, _, rfl⟩ := List.mem_map.mp hp
    exact int_free (by decide) (by decide))
def sp_show_step (K : PySem.W.Frag) : Sp := fun vs H Q _ => ∃ v f, vs = [v] ∧ StepAt K H v f ∧ Sx.Bd 96 f ∧ ∀ H', Same H H' → Q (.str (SX.S (sTxt f))) H'
def sp_read_step (K : PySem.W.Frag) : Sp := fun vs H Q _ => ∃ f, vs = [.str (SX.S (sTxt f))] ∧ Sx.Raw f ∧ Sx.Bd 96 f ∧ ∀ x g H', Same H H' → StepAt K H' (.ref x) g → (∀ x, Sx.ev g x = Sx.ev f x) → (∀ n, Sx.Bd n f → Sx.Bd n g) → Q (.ref x) H'

section
variable {P : Program} {w : World} {K : PySem.W.Frag} {mg : Str → Option Value} {base : Heap}
theorem sc_BadText_init : FnScope ["self", "place"] ["self", "place"] (defScope s_BadText_init) := ⟨rfl, rfl, rfl, by decide +kernel, rfl, by decide +kernel, by decide +kernel⟩
set_option maxHeartbeats 4000000 in
theorem ok_BadText_init (T : TX w K mg) : FnOk P w K mg base CX0 1 (He.fAd K ("BadText", some "__init__")) T.fd_BadText_init ["self", "place"] (sp_BadText_init K) := by
  refine T.F_BadText_init.ok (k := 0) sc_BadText_init (fun vs H Q E h => ?_) (fun cdv A outer s H vs Q E hr h => ⟨_, PSs.nox (by exact (pss_cons (ps_expr (pe_erinit (B := "ValueError") (initId := "ValueError.__init__") (newId := "ValueError.__new__") (bmB := bmValue) (by rfl) T.f_ValueError (by decide +kernel) ty_Value T.vi_ValueError (pa_cons (pv 0) (pa_cons (pe_strS (l := [110, 111, 116, 32, 97, 32, 118, 97, 108, 105, 100, 32, 116, 101, 120, 116]) (by decide +kernel)) pa_nil))))
      (pss_one (ps_erset (B := "ValueError") (initId := "ValueError.__init__") (newId := "ValueError.__new__") (bmB := bmValue) (pv 0) (pv 1))))), ?_⟩)
  · exact spErr_len h
  · obtain ⟨a, v, rfl, ha, q⟩ := h
    refine ⟨_, rfl, a, _, _, rfl, (show 1 ≤ 1000 by decide), T.er_BadText, ha, ?_⟩
    refine ⟨_, rfl, _, rfl, _, _, rfl, T.er_BadText, T.nx_BadText_place, .inl ⟨ha, fun dx nd ne => ?_⟩⟩
    exact q dx nd ne
theorem sc_is_integer : FnScope ["thing"] ["thing"] (defScope s_is_integer) := ⟨rfl, rfl, rfl, by decide +kernel, rfl, by decide +kernel, by decide +kernel⟩
set_option maxHeartbeats 4000000 in
theorem ok_is_integer (T : TX w K mg) : FnOk P w K mg base CX0 1 (He.fAd K ("is_integer", none)) T.fd_is_integer ["thing"] (sp_is_integer K) := by
  refine T.F_is_integer.ok (k := 0) sc_is_integer (fun vs H Q E h => ?_) (fun cdv A outer s H vs Q E hr h => ⟨_, PSs.nox (by exact (pss_one (ps_ret (pe_and (pe_callB call_isi (by rfl) T.f_isinstance (by decide +kernel) (pa_cons (pv 0) (pa_cons (pe_bltn (v := .ty "int") (by rfl) T.f_int (by decide +kernel) rfl) pa_nil))) (pe_one (pe_not (pe_callB call_isi (by rfl) T.f_isinstance (by decide +kernel) (pa_cons (pv 0) (pa_cons (pe_bltn (v := .ty "bool") (by rfl) T.f_bool (by decide +kernel) rfl) pa_nil))))))))), ?_⟩)
  · obtain ⟨i, rfl, _⟩ := h
    rfl
  · obtain ⟨i, rfl, q⟩ := h
    exact ⟨_, rfl, _, _, _, _, _, rfl, .ty "int", .base (.int i), T.k_int_int, true, rfl, iteT ⟨_, rfl, _, _, _, _, _, rfl, .ty "bool", .base (.int i), T.k_int_bool, _, rfl, q⟩⟩
theorem sc_shortest_row : FnScope ["lengths", "size"] ["lengths"] (defScope s_shortest_row) := ⟨rfl, rfl, rfl, by decide +kernel, rfl, by decide +kernel, by decide +kernel⟩
set_option maxHeartbeats 4000000 in
theorem ok_shortest_row (T : TX w K mg) : FnOk P w K mg base CX0 1 (He.fAd K ("shortest_row", none)) T.fd_shortest_row ["lengths"] (sp_shortest_row K) := by
  refine T.F_shortest_row.ok (k := 0) sc_shortest_row (fun vs H Q E h => ?_) (fun cdv A outer s H vs Q E hr h => ⟨_, PSs.nox (by exact (pss_cons (ps_for PassesOwn.never rfl (pi_range2 (by rfl) T.f_range (pa_cons pe_int (pa_cons (pe_callB call_len (by rfl) T.f_len PySem.boot_len (pa_cons (pv 0) pa_nil)) pa_nil))) (pg_name (i := 1) sc_shortest_row.nd rfl (Or.inl rfl))
      (pss_one (ps_if (pt_cut (PW.pt (pw_and (pt_cmpR op_eq (pe_op op_mod (pe_callB call_len (by rfl) T.f_len PySem.boot_len (pa_cons (pv 0) pa_nil)) (pv 1)) pe_int (nomark _)) (pw_and1 (pt_cmpR (op_eqD hr.units) (pv 0) (pe_op op_repT (pe_slice sl_tup (pv 0) po_none (po_some (pv 1))) (pe_op op_fdivW (pe_callB call_len (by rfl) T.f_len PySem.boot_len (pa_cons (pv 0) pa_nil)) (pv 1))) (nomark _)))))) (pss_one (ps_ret (pe_slice sl_tup (pv 0) po_none (po_some (pv 1))))) pss_nil)))
      (pss_one (ps_ret (pv 0))))), ?_⟩)
  · obtain ⟨v, ls, rfl, _⟩ := h
    rfl
  · obtain ⟨v, ls, rfl, ⟨a, rfl, ha⟩, hne, hlen, q⟩ := h
    have hl1 : 0 < ls.length := List.length_pos_iff.mpr hne
    have hT : ∀ H', Same H H' → SqT K H' a (ls.map V.int) := fun H' s => SqT.of_ (s _ _ ha)
    have hmap : (ls.map V.int).length = ls.length := List.length_map _
    refine ⟨_, rfl, _, _, rfl, Or.inr ⟨_, SqT.of_ ha, rfl⟩, _, _, rfl, ⟨by decide, by decide, by rw [hmap]; omega, by rw [hmap]; omega⟩, for_range (lo := 1) (fun i σ H' => ∃ v1 : Option V, σ = [some (.ref a), v1] ∧ Same H H' ∧ ∀ j, 1 ≤ j → j < 1 + i → Gr.fits ls j = false)
      ⟨none, rfl, Same.refl _, fun j h1 h2 => by omega⟩ ?_ ?_⟩
    · rintro i σ H1 hi ⟨v1, rfl, s1, hf⟩
      rw [hmap] at hi
      have hsz : (1 + (i : Int)).toNat = i + 1 := by omega
      refine ⟨fun b H' => b = Gr.fits ls (i + 1) ∧ Same H1 H', ?_, ?_⟩
      · refine ⟨_, rfl, _, _, rfl, Or.inr ⟨_, hT _ s1, rfl⟩, _, rfl, _, _, rfl, rfl, (show (0 : Int) < 1 + (i : Int) by omega), rfl, _, rfl, ?_⟩
        rw [hmap]
        have em : ((ls.length : Int) % (1 + (i : Int)) = 0) ↔ ls.length % (i + 1) = 0 := by
          rw [show (1 + (i : Int)) = ((i + 1 : Nat) : Int) by omega, ← Int.natCast_emod]
          omega
        by_cases hz : ls.length % (i + 1) = 0
        · rw [show decide (V.int ((ls.length : Int) % (1 + (i : Int))) = V.int 0) = true from decide_eq_true (by rw [em.mpr hz])]
          obtain ⟨m, hm⟩ : ∃ m, ls.length / (i + 1) = m := ⟨_, rfl⟩
          have hdiv : m * (i + 1) = ls.length := by rw [← hm]; exact Nat.div_mul_cancel (Nat.dvd_of_mod_eq_zero hz)
          have hk2 : 2 ≤ m := by
            rcases Nat.lt_or_ge m 2 with h | h
            · have : m = 0 ∨ m = 1 := by omega
              rcases this with h | h <;> rw [h] at hdiv <;> omega
            · exact h
          have hkd : m ≤ 12 := by rw [← hm]; exact Nat.le_trans (Nat.div_le_self _ _) hlen
          have ed : (ls.length : Int) / (1 + (i : Int)) = (m : Int) := by
            rw [show (1 + (i : Int)) = ((i + 1 : Nat) : Int) by omega, ← Int.natCast_ediv, hm]
          refine iteT ⟨_, rfl, _, rfl, _, rfl, _, rfl, _, _, rfl, hT _ s1, ?_, fun p np => ?_⟩
          · rw [hmap]
            exact cut_part (by omega) (by omega)
          have s2 := Same.new (o := .tup (cutV (ls.map V.int) none (some (1 + (i : Int))))) np
          rw [cutV_to V.int ls _ (by omega), hsz] at s2 ⊢
          refine ⟨_, rfl, _, _, rfl, Or.inr ⟨_, hT _ (s1.trans s2), rfl⟩, _, rfl, _, _, rfl, rfl, ⟨show (0 : Int) < 1 + (i : Int) by omega, log2_lt (n := 64) (by decide) (lt64 (by omega) (by omega)) (by decide)⟩, ?_⟩
          refine ⟨_, (m : Int), _, rfl, congrArg V.int (by rw [hmap]; exact ed), SqT.of_ upd_same, ?_, by omega, by omega, ?_, fun p2 np2 => ?_⟩
          · intro z
            have h0 : ((ls.take (i + 1)).map V.int).length = 0 := by rw [z]; rfl
            rw [List.length_map, List.length_take] at h0
            omega
          · rw [List.length_map, List.length_take]
            omega
          have er : (List.replicate (m : Int).toNat ((ls.take (i + 1)).map V.int)).flatten = ((List.replicate m (ls.take (i + 1))).flatten).map V.int := by
            rw [Int.toNat_natCast, List.map_flatten, List.map_replicate]
          rw [er]
          have s3 := Same.new (o := .tup (((List.replicate m (ls.take (i + 1))).flatten).map V.int)) np2
          refine ⟨_, _, dp_ints (hT _ ((s1.trans s2).trans s3)), dp_ints (SqT.of_ upd_same), shaped_ints _, shaped_ints _, _, rfl, ?_, s2.trans s3⟩
          rw [eqv_ints]
          unfold Gr.fits
          rw [decide_eq_true hz, Bool.true_and, hm]
        · rw [show decide (V.int ((ls.length : Int) % (1 + (i : Int))) = V.int 0) = false from decide_eq_false (fun z => hz (em.mp (by injection z)))]
          refine iteF ⟨?_, Same.refl _⟩
          unfold Gr.fits
          rw [decide_eq_false hz, Bool.false_and]
      · rintro _ H2 ⟨rfl, s2⟩
        cases hfit : Gr.fits ls (i + 1) with
        | true =>
          refine iteT ⟨_, rfl, _, rfl, _, rfl, _, _, rfl, hT _ (s1.trans s2), ?_, fun p np => ?_⟩
          · rw [hmap]
            exact cut_part (by omega) (by omega)
          have s3 := Same.new (o := .tup (cutV (ls.map V.int) none (some (1 + (i : Int))))) np
          rw [cutV_to V.int ls _ (by omega), hsz] at s3 ⊢
          refine q _ _ ((s1.trans s2).trans s3) ⟨p, rfl, ?_⟩
          rw [upd_same]
          have e : (List.range' 1 (ls.length - 1)).find? (Gr.fits ls) = some (i + 1) := by
            rw [List.find?_eq_some_iff_getElem]
            refine ⟨hfit, i, by simp; omega, by simp; omega, fun j hj => ?_⟩
            have := hf (j + 1) (by omega) (by omega)
            simp
            rw [Nat.add_comm]
            simpa using this
          unfold Gr.shortest
          rw [e]
        | false =>
          refine iteF ⟨_, rfl, s1.trans s2, fun j h1 h2 => ?_⟩
          by_cases hj : j = i + 1
          · rw [hj]; exact hfit
          · exact hf j h1 (by omega)
    · rintro σ H1 ⟨v1, rfl, s1, hf⟩
      rw [hmap] at hf
      refine ⟨_, rfl, q _ _ s1 ⟨a, rfl, ?_⟩⟩
      have e : (List.range' 1 (ls.length - 1)).find? (Gr.fits ls) = none := by
        rw [List.find?_eq_none]
        intro j hj
        rw [List.mem_range'_1] at hj
        rw [hf j hj.1 (by omega)]
        simp
      unfold Gr.shortest
      rw [e]
      exact s1 _ _ ha
theorem sc_least_form : FnScope ["period", "rise", "steps", "many", "parts", "size", "width", "gain", "k"] ["period", "rise", "steps"] (defScope s_least_form) := ⟨rfl, rfl, rfl, by decide +kernel, rfl, by decide +kernel, by decide +kernel⟩
set_option maxHeartbeats 4000000 in
theorem ok_least_form (T : TX w K mg) : FnOk P w K mg base CX0 1 (He.fAd K ("least_form", none)) T.fd_least_form ["period", "rise", "steps"] (sp_least_form K) := by
  refine T.F_least_form.ok (k := 0) sc_least_form (fun vs H Q E h => ?_) (fun cdv A outer s H vs Q E hr h => ⟨_, PSs.nox (by exact (pss_cons (ps_set (i := 3) sc_least_form.nd rfl (Or.inl rfl) (pe_callB call_len (by rfl) T.f_len PySem.boot_len (pa_cons (pv 2) pa_nil)))
      (pss_cons (ps_for PassesOwn.never rfl (pi_range3 (by rfl) T.f_range (pa_cons (pv 3) (pa_cons pe_int (pa_cons (pe_un un_neg pe_int) pa_nil)))) (pg_name (i := 4) sc_least_form.nd rfl (Or.inl rfl))
      (pss_one (ps_if (pt_cut (PW.pt (pw_and (pt_cmpR op_eq (pe_op op_mod (pv 3) (pv 4)) pe_int (nomark _)) (pw_and (pt_cmpR op_eq (pe_op op_mod (pv 0) (pv 4)) pe_int (nomark _)) (pw_and1 (pt_cmpR op_eq (pe_op op_mod (pv 1) (pv 4)) pe_int (nomark _))))))) (pss_cons (ps_asg (pe_tup (pa_cons (pe_op op_fdivW (pv 3) (pv 4)) (pa_cons (pe_op op_fdivW (pv 0) (pv 4)) (pa_cons (pe_op op_fdivW (pv 1) (pv 4)) pa_nil)))) (pg_tup rfl (pgs_cons (pg_name (i := 5) sc_least_form.nd rfl (Or.inr rfl)) (pgs_cons (pg_name (i := 6) sc_least_form.nd rfl (Or.inr rfl)) (pgs_cons (pg_name (i := 7) sc_least_form.nd rfl (Or.inr rfl)) pgs_nil)))))
      (pss_one (ps_if (pt_val (pe_callB (cr_all rfl) (by rfl) T.f_all (by decide +kernel) (pa_cons (pe_lc (own := [("k", 8)]) rfl sc_least_form.nd (pi_range1 (by rfl) T.f_range (pa_cons (pe_op op_sub (pv 3) (pv 5)) pa_nil)) (blkOk_by (own := [("k", 8)]) (N := ["period", "rise", "steps", "many", "parts", "size", "width", "gain", "k"]) (sc := defScope s_least_form) (by decide +kernel)) (fun _ _ _ _ _ => (pg_name (i := 8) sc_least_form.nd rfl (Or.inl rfl))) (fun _ _ _ _ _ => pts_nil) (fun _ _ _ _ _ => (pe_cmpR (show OpR _ _ (rEqD K) from op_eqD hr.units) (pe_ix (show IxR _ (rIxT K) from ix_tup) (pv 2) (pe_op op_add (pv 8) (pv 5)) (fun _ _ => rfl)) (pe_tup (pa_cons (pe_op op_add (pe_ix (show IxR _ (rIxT K) from ix_tup) (pe_ix (show IxR _ (rIxT K) from ix_tup) (pv 2) (pv 8) (fun _ _ => rfl)) pe_int (fun _ _ => rfl)) (pv 6)) (pa_cons (pe_op op_add (pe_ix (show IxR _ (rIxT K) from ix_tup) (pe_ix (show IxR _ (rIxT K) from ix_tup) (pv 2) (pv 8) (fun _ _ => rfl)) pe_int (fun _ _ => rfl)) (pv 7)) pa_nil))) (nomark _)))) pa_nil))) (pss_one (ps_ret (pe_tup (pa_cons (pv 6) (pa_cons (pv 7) (pa_cons (pe_slice sl_tup (pv 2) po_none (po_some (pv 5))) pa_nil)))))) pss_nil))) pss_nil)))
      (pss_one (ps_ret (pe_tup (pa_cons (pv 0) (pa_cons (pv 1) (pa_cons (pv 2) pa_nil))))))))), ?_⟩)
  · obtain ⟨t, f, rfl, _⟩ := h
    rfl
  · obtain ⟨t, f, rfl, ⟨xs, ht, hx⟩, G, N, q⟩ := h
    have hl : xs.length = f.ps.length := hx.1
    have hn := G.ne
    have hn2 := G.len
    have hT : ∀ H', Same H H' → SqT K H' t xs := fun H' s => SqT.of_ (s _ _ ht)
    have hlx : ((xs.length : Nat) : Int) = ((f.ps.length : Nat) : Int) := by rw [hl]
    refine ⟨_, rfl, _, _, rfl, Or.inr ⟨_, hT _ (Same.refl _), rfl⟩, ?_⟩
    refine ⟨_, rfl, _, rfl, _, _, _, _, rfl, (by rw [hlx]; exact rg240 ⟨f.ps.length, by omega⟩), for_rangeC (n := f.ps.length - 1) (fun i σ H' => ∃ v4 v5 v6 v7 v8 : Option V, σ = [some (.int f.P), some (.int f.R), some (.ref t), some (.int (f.ps.length : Int)), v4, v5, v6, v7, v8] ∧ Same H H' ∧ ∀ p', f.ps.length - i < p' → p' ≤ f.ps.length → ¬ Sx.Tst f p')
      ⟨none, none, none, none, none, by rw [← hlx]; rfl, Same.refl _, fun p' h1 h2 => by omega⟩ ?_ ?_⟩
    · rintro i σ H1 hi ⟨v4, v5, v6, v7, v8, rfl, s1, hbig⟩
      obtain ⟨parts, hparts⟩ : ∃ parts : Nat, ((xs.length : Nat) : Int) + (i : Int) * -1 = parts := ⟨f.ps.length - i, by rw [hlx]; omega⟩
      have hp2 : 2 ≤ parts ∧ parts ≤ f.ps.length := by omega
      have hpi : parts = f.ps.length - i := by omega
      have hnext : ¬ Sx.Tst f parts → ∀ p', f.ps.length - (i + 1) < p' → p' ≤ f.ps.length → ¬ Sx.Tst f p' := fun hno p' h1 h2 => by
        rcases Nat.lt_or_ge (f.ps.length - i) p' with h3 | h3
        · exact hbig p' h3 h2
        · obtain rfl : p' = parts := by omega
          exact hno
      rw [hparts]
      have hpos : (0 : Int) < parts := by omega
      refine ⟨fun b H' => (b = true ↔ (f.ps.length : Int) % parts = 0 ∧ f.P % parts = 0 ∧ f.R % parts = 0) ∧ H1 = H', ?_, ?_⟩
      · refine ⟨_, rfl, _, rfl, _, _, rfl, rfl, hpos, rfl, _, rfl, ite2 (fun h1 => ?_) (fun h1 => ?_)⟩
        · refine ⟨_, rfl, _, rfl, _, _, rfl, rfl, hpos, rfl, _, rfl, ite2 (fun h2 => ?_) (fun h2 => ?_)⟩
          · refine ⟨_, rfl, _, rfl, _, _, rfl, rfl, hpos, rfl, _, rfl, ⟨fun h3 => ?_, fun h3 => decide_eq_true (congrArg V.int h3.2.2)⟩, rfl⟩
            have e1 := of_decide_eq_true h1
            have e2 := of_decide_eq_true h2
            have e3 := of_decide_eq_true h3
            injection e1 with e1
            injection e2 with e2
            injection e3 with e3
            exact ⟨e1, e2, e3⟩
          · exact ⟨⟨(fun z => by cases z), fun z => absurd (decide_eq_true (congrArg V.int z.2.1)) h2⟩, rfl⟩
        · exact ⟨⟨(fun z => by cases z), fun z => absurd (decide_eq_true (congrArg V.int z.1)) h1⟩, rfl⟩
      · rintro b _ ⟨hb, rfl⟩
        cases b with
        | false => exact iteF ⟨_, _, _, _, _, rfl, s1, hnext fun z => by have := hb.mpr ⟨by rw [← Int.natCast_emod, z.1]; rfl, z.2.1, z.2.2.1⟩; cases this⟩
        | true =>
          obtain ⟨e1, e2, e3⟩ := hb.mp rfl
          have hlog : (parts : Int).natAbs.log2 < 9000 := log2_lt (n := 64) (by decide) (lt64 (by omega) (by omega)) (by decide)
          refine iteT ⟨_, rfl, _, rfl, _, _, rfl, rfl, ⟨hpos, hlog⟩, _, rfl, _, rfl, _, _, rfl, rfl, ⟨hpos, hlog⟩, _, rfl, _, rfl, _, _, rfl, rfl, ⟨hpos, hlog⟩, (show 3 ≤ sizeLine by decide), fun p np => ⟨_, _, rfl, SqT.of_ upd_same, rfl, _, _, rfl, _, _, rfl, _, _, rfl, rfl, ?_⟩⟩
          have s2 : Same H (upd H1 p (.tup [.int ((f.ps.length : Int) / parts), .int (f.P / parts), .int (f.R / parts)])) := s1.trans (Same.new np)
          obtain ⟨sz, hsz⟩ : ∃ sz : Nat, (f.ps.length : Int) / (parts : Int) = sz := ⟨f.ps.length / parts, by omega⟩
          have hw' : f.P = parts * (f.P / (parts : Int)) := by
            have := Int.mul_ediv_add_emod f.P parts
            rw [e2] at this
            omega
          have hg' : f.R = parts * (f.R / (parts : Int)) := by
            have := Int.mul_ediv_add_emod f.R parts
            rw [e3] at this
            omega
          have hn' : f.ps.length = parts * sz := by
            have := Int.mul_ediv_add_emod (f.ps.length : Int) parts
            rw [hsz, e1, ← Int.natCast_mul] at this
            omega
          have hs0 : 0 < sz := by
            rcases Nat.eq_zero_or_pos sz with z | z
            · rw [z] at hn'; omega
            · exact z
          have hsl : sz + sz ≤ f.ps.length := by
            rw [hn', ← Nat.two_mul]
            exact Nat.mul_le_mul_right _ hp2.1
          refine ⟨_, rfl, _, rfl, _, _, rfl, rfl, _, rfl, (by rw [hsz]; omega), (by rw [hsz]; omega), fun D nD => ?_⟩
          have nD0 := s2.free nD
          refine lc_range (lo := 0) (fun j H' => ∃ bs : List Bool, H' D = some (.lst (bs.map V.bl)) ∧ bs.length = j ∧ Same H H' ∧ (bs.all id = true ↔ ∀ i, i < j → Sx.at_ f (i + sz) = ((Sx.at_ f i).1 + (f.P / (parts : Int)), (Sx.at_ f i).2 + (f.R / (parts : Int)))))
            ⟨[], upd_same, rfl, s2.put nD0, ⟨fun _ i h => by omega, fun _ => rfl⟩⟩ ?_ ?_
          · rintro j H3 hj ⟨bs, hD, hbl, s3, hbs⟩
            have hj2 : j + sz < f.ps.length := by
              rw [hsz] at hj
              omega
            obtain ⟨r1, hr1, hr1t⟩ := hx.at_ hj2
            obtain ⟨r2, hr2, hr2t⟩ := hx.at_ (show j < f.ps.length by omega)
            have hat1 : atI xs (0 + (j : Int) + (f.ps.length : Int) / (parts : Int)) = some (.ref r1) := by
              rw [hsz, show 0 + (j : Int) + (sz : Int) = ((j + sz : Nat) : Int) by omega]
              exact hr1
            have hat2 : atI xs (0 + (j : Int)) = some (.ref r2) := by
              rw [Int.zero_add]
              exact hr2
            refine ⟨(by ((repeat (first | (with_reducible refine wipe_l (by decide) ?_) | (with_reducible refine wipe_lw (by decide) ?_) | (with_reducible refine wipe_r (by decide) ?_) | (with_reducible refine wipe_rw (by decide) ?_))); exact rfl)), ?_⟩
            refine iteT (A := _) (B := True) ?_
            refine ⟨_, rfl, _, rfl, _, rfl, _, _, rfl, rfl, _, _, _, _, rfl, rfl, hT _ s3, hat1, _, rfl, _, rfl, _, _, _, _, rfl, rfl, hT _ s3, hat2, _, _, _, _, rfl, rfl, SqT.of_ (s3 _ _ hr2t), rfl, _, rfl, _, _, rfl, rfl, _, rfl, _, rfl, _, _, _, _, rfl, rfl, hT _ s3, hat2, _, _, _, _, rfl, rfl, SqT.of_ (s3 _ _ hr2t), rfl, _, rfl, _, _, rfl, rfl, (show 2 ≤ sizeLine by decide), fun p2 np2 => ?_⟩
            have s4 := Same.new (o := .tup [.int ((Sx.at_ f j).1 + (f.P / (parts : Int))), .int ((Sx.at_ f j).2 + (f.R / (parts : Int)))]) np2
            refine ⟨.tuple ([(Sx.at_ f (j + sz)).1, (Sx.at_ f (j + sz)).2].map PyData.int), .tuple ([(Sx.at_ f j).1 + (f.P / (parts : Int)), (Sx.at_ f j).2 + (f.R / (parts : Int))].map PyData.int), dp_ints (SqT.of_ ((s3.trans s4) _ _ hr1t)), dp_ints (SqT.of_ upd_same), shaped_ints _, shaped_ints _, ?_⟩
            rw [eqv_ints]
            refine ⟨bs.map V.bl, s4 _ _ hD, ?_, bs ++ [decide ([(Sx.at_ f (j + sz)).1, (Sx.at_ f (j + sz)).2] = [(Sx.at_ f j).1 + (f.P / (parts : Int)), (Sx.at_ f j).2 + (f.R / (parts : Int))])], ?_, ?_, ?_, ⟨fun hb i hi => ?_, fun hall => ?_⟩⟩
            · rw [List.length_map, hbl]
              exact Nat.lt_of_lt_of_le (show j < 1000 by omega) (by decide)
            · rw [upd_same, List.map_append]
              rfl
            · rw [List.length_append, hbl]
              rfl
            · exact (s3.trans s4).put nD0
            · rw [List.all_append, Bool.and_eq_true] at hb
              rcases Nat.lt_or_ge i j with h | h
              · exact hbs.mp hb.1 i h
              · obtain rfl : i = j := by omega
                have h2 := hb.2
                simp only [List.all_cons, List.all_nil, Bool.and_true, id] at h2
                have h3 := of_decide_eq_true h2
                injection h3 with h3 h4
                injection h4 with h4 _
                exact Prod.ext h3 h4
            · rw [List.all_append, Bool.and_eq_true]
              refine ⟨hbs.mpr fun i hi => hall i (by omega), ?_⟩
              have h3 := hall j (by omega)
              simp only [List.all_cons, List.all_nil, Bool.and_true, id]
              exact decide_eq_true (by rw [h3])
          · rintro H3 ⟨bs, hD, hbl, s3, hbs⟩
            refine ⟨D, bs, rfl, SqL.of hD, _, rfl, ite2 (fun h => ?_) (fun h => ?_)⟩
            · have hrep := Sx.rep_part (f := f) hs0 (show 0 < parts by omega) hn' hw' hg' (fun k hk => hbs.mp h k (by rw [hsz]; omega))
              have hszN : f.ps.length / parts = sz := by omega
              have hleast : Sx.Least ⟨f.P / (parts : Int), f.R / (parts : Int), f.ps.take sz⟩ := fun d hd hper => by
                have := Sx.least_of (f := f) hn (show 0 < parts by omega) (by rw [hpi]; exact hbig) hd (hrep.per hper)
                show (f.ps.take sz).length ≤ d
                rw [List.length_take]
                omega
              have hgood := G.part hs0 (show 0 < parts by omega) hn' hw' hg' hrep
              refine ⟨_, rfl, _, rfl, _, rfl, _, rfl, _, rfl, _, _, rfl, hT _ s3, ?_, fun p3 np3 => ?_⟩
              · rw [hl, hsz]
                exact cut_part (by omega) (by omega)
              have ecut : cutV xs none (some ((f.ps.length : Int) / (parts : Int))) = xs.take sz := by
                rw [hsz]
                have := cutV_to id xs (sz : Int) (by omega)
                rw [List.map_id, List.map_id, Int.toNat_natCast] at this
                exact this
              rw [ecut]
              have s5 := Same.new (o := .tup (xs.take sz)) np3
              refine ⟨(show 3 ≤ sizeLine by decide), fun p4 np4 => ?_⟩
              have s6 := Same.new (o := .tup [.int (f.P / (parts : Int)), .int (f.R / (parts : Int)), .ref p3]) np4
              refine q p4 p3 ⟨(f.P / (parts : Int)), (f.R / (parts : Int)), f.ps.take sz⟩ _ ((s3.trans s5).trans s6) hgood hrep hleast (N.part hs0 (show 0 < parts by omega) hn' hw' hrep) (fun n B => ⟨Nat.lt_of_le_of_lt (le_part (show 0 < parts by omega) hw' G.P0) B.P, Nat.lt_of_le_of_lt (le_part (show 0 < parts by omega) hg' G.R0) B.R, fun q hq => B.q q (List.mem_of_mem_take hq)⟩) ⟨xs.take sz, s6 _ _ upd_same, ?_⟩ upd_same
              refine ⟨by show _ = (f.ps.take sz).length; rw [List.length_take, List.length_take, hl], fun i q' e => ?_⟩
              have hi : i < sz := by
                have := (List.getElem?_eq_some_iff.mp e).1
                have e2 : i < (f.ps.take sz).length := this
                rw [List.length_take] at e2
                omega
              have e' : (f.ps.take sz)[i]? = some q' := e
              rw [List.getElem?_take, if_pos hi] at e'
              obtain ⟨r, h1, h2⟩ := hx.2 i q' e'
              exact ⟨r, by rw [List.getElem?_take, if_pos hi]; exact h1, ((s3.trans s5).trans s6) _ _ h2⟩
            · have hszN : f.ps.length / parts = sz := by omega
              exact ⟨_, _, _, _, _, rfl, s3, hnext fun z => h (hbs.mpr fun i hi => by
                have := z.2.2.2 i (by rw [hszN]; rw [hsz] at hi; omega)
                rw [hszN] at this
                exact this)⟩
    · rintro σ H1 ⟨v4, v5, v6, v7, v8, rfl, s1, hbig⟩
      refine ⟨_, rfl, _, rfl, _, rfl, (show 3 ≤ sizeLine by decide), fun p np => ?_⟩
      have s2 := Same.new (o := .tup [.int f.P, .int f.R, .ref t]) np
      exact q p t f _ (s1.trans s2) G (Sx.Rep.refl f) (fun d hd hper => by have := Sx.least_of (f := f) (parts := 1) hn (by decide) (fun p' h1 h2 => hbig p' (by omega) h2) hd hper; rw [Nat.div_one] at this; exact this) N (fun _ b => b) ⟨xs, (s1.trans s2) _ _ ht, hx.kp (s1.trans s2).kp⟩ upd_same
theorem sc_Step_eq : FnScope ["self", "other"] ["self", "other"] (defScope s_Step_eq) := ⟨rfl, rfl, rfl, by decide +kernel, rfl, by decide +kernel, by decide +kernel⟩
set_option maxHeartbeats 4000000 in
theorem ok_Step_eq (T : TX w K mg) : FnOk P w K mg base CX0 1 (He.fAd K ("Step", some "__eq__")) T.fd_Step_eq ["self", "other"] (sp_Step_eq K) := by
  refine T.F_Step_eq.ok (k := 0) sc_Step_eq (fun vs H Q E h => ?_) (fun cdv A outer s H vs Q E hr h => ⟨_, PSs.nox (by exact (pss_cons (ps_if (pt_not (pt_val (pe_callB call_isi (by rfl) T.f_isinstance (by decide +kernel) (pa_cons (pv 1) (pa_cons (pe_glob (v := .ref _) rfl T.g_Step rfl) pa_nil))))) (pss_one ps_never) pss_nil)
      (pss_one (ps_ret (pe_cmpR (op_eqD hr.units) (pe_tup (pa_cons (pe_fld (pv 0) rfl) (pa_cons (pe_fld (pv 0) rfl) (pa_cons (pe_fld (pv 0) rfl) pa_nil)))) (pe_tup (pa_cons (pe_fld (pv 1) rfl) (pa_cons (pe_fld (pv 1) rfl) (pa_cons (pe_fld (pv 1) rfl) pa_nil)))) (nomark _)))))), ?_⟩)
  · obtain ⟨u, v, f, g, rfl, _⟩ := h
    rfl
  · obtain ⟨u, v, f, g, rfl, ⟨a, dx, t, rfl, ha, ⟨xs, ht, hx⟩, _⟩, ⟨b, dy, t2, rfl, hb, ⟨ys, ht2, hy⟩, _⟩, q⟩ := h
    refine ⟨_, rfl, _, _, _, _, _, rfl, .own _, tyx_own hb T.cl_Step T.ty_Step, T.k_Step, true, rfl, iteF ?_⟩
    refine ⟨_, rfl, _, _, _, _, _, rfl, ha, T.cl_Step, T.n_Step_period, rfl, _, rfl, _, _, _, _, _, rfl, ha, T.cl_Step, T.n_Step_rise, rfl, _, rfl, _, _, _, _, _, rfl, ha, T.cl_Step, T.n_Step_steps, rfl, (show 3 ≤ sizeLine by decide), fun p np => ?_⟩
    have s1 := Same.new (o := .tup [.int f.P, .int f.R, .ref t]) np
    refine ⟨_, rfl, _, _, _, _, _, rfl, s1 _ _ hb, T.cl_Step, T.n_Step_period, rfl, _, rfl, _, _, _, _, _, rfl, s1 _ _ hb, T.cl_Step, T.n_Step_rise, rfl, _, rfl, _, _, _, _, _, rfl, s1 _ _ hb, T.cl_Step, T.n_Step_steps, rfl, (show 3 ≤ sizeLine by decide), fun p2 np2 => ?_⟩
    have s2 := Same.new (o := .tup [.int g.P, .int g.R, .ref t2]) np2
    have s := s1.trans s2
    have h1 := hx.kp s.kp
    have h2 := hy.kp s.kp
    refine ⟨stD f, stD g, .tup (SqT.of_ (s2 _ _ upd_same)) (.cons (.int _) (.cons (.int _) (.cons (.tup (SqT.of_ (s _ _ ht)) (dpAll_pairs h1.1 h1.2)) .nil))), .tup (SqT.of_ upd_same) (.cons (.int _) (.cons (.int _) (.cons (.tup (SqT.of_ (s _ _ ht2)) (dpAll_pairs h2.1 h2.2)) .nil))), shaped_st f, shaped_st g, ?_⟩
    exact q _ _ (eqv_st f g) s
theorem sc_has_digits : FnScope ["text", "char"] ["text"] (defScope s_has_digits) := ⟨rfl, rfl, rfl, by decide +kernel, rfl, by decide +kernel, by decide +kernel⟩
set_option maxHeartbeats 4000000 in
theorem ok_has_digits (T : TX w K mg) : FnOk P w K mg base CX0 1 (He.fAd K ("has_digits", none)) T.fd_has_digits ["text"] (sp_has_digits K) := by
  refine T.F_has_digits.ok (k := 0) sc_has_digits (fun vs H Q E h => ?_) (fun cdv A outer s H vs Q E hr h => ⟨_, PSs.nox (by exact (pss_cons (ps_if (pt_cmpR op_eqS (pv 0) (pe_strS (l := []) (by decide +kernel)) (nomark _)) (pss_one (ps_ret pe_bl)) pss_nil)
      (pss_cons (ps_for PassesOwn.never rfl (pi_str (pv 0)) (pg_name (i := 1) sc_has_digits.nd rfl (Or.inl rfl))
      (pss_one (ps_if (pt_cmpR op_notInC (pv 1) (pe_glob (v := .str (SX.S [48, 49, 50, 51, 52, 53, 54, 55, 56, 57])) rfl T.c_DIGITS ⟨_, rfl⟩) (by with_unfolding_all rfl)) (pss_one (ps_ret pe_bl)) pss_nil)))
      (pss_one (ps_ret pe_bl))))), ?_⟩)
  · obtain ⟨a, rfl, _⟩ := h
    rfl
  · obtain ⟨a, rfl, hl, q⟩ := h
    have hz : a.length ≤ sizeLine := le_size (by omega)
    decreasing_trivial
    refine iteD2 (fun e => ?_) (fun e => ?_)
    · subst e
      exact q
    decreasing_trivial
    refine for_S (a := a) (fun i σ H' => ∃ v1 : Option V, σ = [some (.str (SX.S a)), v1] ∧ H = H' ∧ ∀ (j : Nat) (c : Nat), j < i → a[j]? = some c → 48 ≤ c ∧ c ≤ 57) ⟨none, rfl, rfl, fun j c hj => absurd hj (Nat.not_lt_zero j)⟩ ?_ ?_
    · rintro i c σ _ hc ⟨v1, rfl, rfl, hp⟩
      decreasing_trivial
      refine iteND2 (fun hn => ?_) (fun hm => ?_)
      · have hf : Tx.hasD a = false := by
          cases e2 : Tx.hasD a with
          | false => rfl
          | true => exact absurd (mem_ten.mpr ((Tx.hasD_iff.mp e2).2 c (List.mem_of_getElem? hc))) hn
        rw [hf] at q
        exact q
      · refine ⟨_, rfl, rfl, fun j d hj hd => ?_⟩
        by_cases e2 : j = i
        · subst e2
          rw [hc] at hd
          cases hd
          exact mem_ten.mp hm
        · exact hp j d (by omega) hd
    · rintro σ _ ⟨v1, rfl, rfl, hp⟩
      decreasing_trivial
      have ht : Tx.hasD a = true := Tx.hasD_iff.mpr ⟨e, fun c hc => by
        obtain ⟨j, hj, rfl⟩ := List.getElem_of_mem hc
        exact hp j _ hj (List.getElem?_eq_getElem hj)⟩
      rw [ht] at q
      exact q
theorem sc_show_grain : FnScope ["grain", "length"] ["grain"] (defScope s_show_grain) := ⟨rfl, rfl, rfl, by decide +kernel, rfl, by decide +kernel, by decide +kernel⟩
set_option maxHeartbeats 4000000 in
theorem ok_show_grain (T : TX w K mg) : FnOk P w K mg base CX0 1 (He.fAd K ("show_grain", none)) T.fd_show_grain ["grain"] (sp_show_grain K) := by
  refine T.F_show_grain.ok (k := 0) sc_show_grain (fun vs H Q E h => ?_) (fun cdv A outer s H vs Q E hr h => ⟨_, PSs.nox (by exact (pss_one (ps_ret (pe_op op_addS (pe_op op_addS (pe_m1 PySem.F.slot_str_join PySem.F.type_str_join mt_joinS (pe_strS (l := [43]) (by decide +kernel)) (pe_lc (own := [("length", 1)]) rfl sc_show_grain.nd (pi_tup (pe_fld (pv 0) rfl)) (blkOk_by (own := [("length", 1)]) (N := ["grain", "length"]) (sc := defScope s_show_grain) (by decide +kernel)) (fun _ _ _ _ _ => (pg_name (i := 1) sc_show_grain.nd rfl (Or.inl rfl))) (fun _ _ _ _ _ => pts_nil) (fun _ _ _ _ _ => (pe_callTy call_strS (by rfl) T.f_str (by decide +kernel) (pa_cons (pv 1) pa_nil))))) (pe_strS (l := [64]) (by decide +kernel))) (pe_callTy call_strS (by rfl) T.f_str (by decide +kernel) (pa_cons (pe_fld (pv 0) rfl) pa_nil)))))), ?_⟩)
  · obtain ⟨v, ls, st, rfl, _⟩ := h
    rfl
  · obtain ⟨v, ls, st, rfl, ⟨a, dx, t, rfl, ha, ht⟩, hl, hb, hst, q⟩ := h
    have hT := SqT.of_ (K := K) ht
    have hlg : ∀ z ∈ ls, z.natAbs.log2 < 1920 := fun z hz => lg19 (n := 140) (by have := hb z hz; omega)
    have hsl : st.natAbs.log2 < 1920 := lg19 (n := 140) (by omega)
    have hmap : (ls.map V.int).length = ls.length := List.length_map _
    decreasing_trivial
    intro D nD
    refine lc_tup (K := K) (a := t) (xs := ls.map V.int) (fun i H' => H' D = some (.lst ((ls.take i).map fun z => V.str (SX.S (Tx.intL z)))) ∧ Same H H') ⟨upd_same, Same.new nD⟩ (fun i H' _ ⟨_, s⟩ => SqT.of_ (s _ _ ht)) ?_ ?_
    · rintro i x H2 hx ⟨hD, s2⟩
      rw [List.getElem?_map] at hx
      cases hn : ls[i]? with
      | none => rw [hn] at hx; cases hx
      | some n =>
        rw [hn] at hx
        cases hx
        have hi : i < ls.length := (List.getElem?_eq_some_iff.mp hn).1
        have hln := hlg n (List.mem_of_getElem? hn)
        refine ⟨(by ((repeat (first | (with_reducible refine wipe_l (by decide) ?_) | (with_reducible refine wipe_lw (by decide) ?_) | (with_reducible refine wipe_r (by decide) ?_) | (with_reducible refine wipe_rw (by decide) ?_))); exact rfl)), ?_⟩
        refine iteT (A := _) (B := True) ?_
        have hsz : ((ls.take i).map fun z => V.str (SX.S (Tx.intL z))).length < sizeLine := lt_size (by rw [List.length_map, List.length_take]; omega)
        decreasing_trivial
        refine ⟨?_, s2.put nD⟩
        rw [upd_same, List.take_add_one, List.map_append, hn]
        rfl
    · rintro H2 ⟨hD, s2⟩
      rw [hmap, List.take_of_length_le (Nat.le_refl _)] at hD
      have hD2 : SqL K H2 D ((ls.map Tx.intL).map fun l => V.str (SX.S l)) := by
        rw [List.map_map]
        exact SqL.of hD
      have hjm := joinL_lt (sep := [43]) (ys := ls.map Tx.intL) (m := 31) (fun y hy => by
        obtain ⟨z, hz, rfl⟩ := List.mem_map.mp hy
        exact intL_lt (by decide) (hb z hz))
      have hw : ((ls.map Tx.intL).map (·.length)).sum + (ls.map Tx.intL).length * [43].length ≤ 16777216 := by
        rw [List.length_map, List.length_singleton] at hjm ⊢
        omega
      have hj := Nat.le_trans (len_joinL (sep := [43]) (ls.map Tx.intL)) hjm
      rw [List.length_map, List.length_singleton] at hj
      have hi3 := intL_lt (k := 30) (by decide) hst
      have z1 : (TL.joinL [43] (ls.map Tx.intL)).length + [64].length ≤ sizeLine := szP (by rw [List.length_singleton]; omega)
      have z2 : (TL.joinL [43] (ls.map Tx.intL) ++ [64]).length + (Tx.intL st).length ≤ sizeLine := szP (by rw [List.length_append, List.length_singleton]; omega)
      have ha2 := s2 _ _ ha
      decreasing_trivial
      exact q _ s2
theorem sc_show_step : FnScope ["step", "place", "value"] ["step"] (defScope s_show_step) := ⟨rfl, rfl, rfl, by decide +kernel, rfl, by decide +kernel, by decide +kernel⟩
set_option maxHeartbeats 4000000 in
theorem ok_show_step (T : TX w K mg) : FnOk P w K mg base CX0 1 (He.fAd K ("show_step", none)) T.fd_show_step ["step"] (sp_show_step K) := by
  refine T.F_show_step.ok (k := 0) sc_show_step (fun vs H Q E h => ?_) (fun cdv A outer s H vs Q E hr h => ⟨_, PSs.nox (by exact (pss_one (ps_ret (pe_m1 PySem.F.slot_str_join PySem.F.type_str_join mt_joinS (pe_strS (l := [32]) (by decide +kernel)) (pe_op op_cat (pe_lst (pa_cons (pe_callTy call_strS (by rfl) T.f_str (by decide +kernel) (pa_cons (pe_fld (pv 0) rfl) pa_nil)) (pa_cons (pe_callTy call_strS (by rfl) T.f_str (by decide +kernel) (pa_cons (pe_fld (pv 0) rfl) pa_nil)) pa_nil))) (pe_lc (own := [("place", 1), ("value", 2)]) (g := gTup K 2 (gCons (gName 1) (gCons (gName 2) gNil))) rfl sc_show_step.nd (pi_tup (pe_fld (pv 0) rfl)) (blkOk_by (own := [("place", 1), ("value", 2)]) (N := ["step", "place", "value"]) (sc := defScope s_show_step) (by decide +kernel)) (fun _ _ _ _ _ => (pg_tup rfl (pgs_cons (pg_name (i := 1) sc_show_step.nd rfl (Or.inl rfl)) (pgs_cons (pg_name (i := 2) sc_show_step.nd rfl (Or.inl rfl)) pgs_nil)))) (fun _ _ _ _ _ => pts_nil) (fun _ _ _ _ _ => (pe_joinedS (.cons (pe_fmtS (pv 1)) (.cons (pe_strS (l := [58]) (by decide +kernel)) (.cons (pe_fmtS (pv 2)) .nil))))))))))), ?_⟩)
  · obtain ⟨v, f, rfl, _⟩ := h
    rfl
  · obtain ⟨v, f, rfl, ⟨a, dx, t, rfl, ha, ⟨xs, ht, hx⟩, o⟩, B, q⟩ := h
    have hT := SqT.of_ (K := K) ht
    have lP : f.P.natAbs.log2 < 1920 := lg19 B.P
    have lR : f.R.natAbs.log2 < 1920 := lg19 B.R
    have hlx : xs.length = f.ps.length := hx.1
    have h240 := o.g.len
    have hsum := sTxt_sum B h240
    decreasing_trivial
    intro p1 n_p1
    generalize e_H1 : upd _ p1 _ = H1
    have h_p1 := at_new e_H1
    have s_H1 := same_new e_H1 n_p1
    have ht1 := s_H1 _ _ ht
    have hT1 := SqT.of_ (K := K) ht1
    have ha1 := s_H1 _ _ ha
    decreasing_trivial
    intro D nD
    refine lc_tup (te := fun σ H Q => tJsS [tFmtS (tVar 1), tC (V.str (SX.S [58])), tFmtS (tVar 2)] [] σ H fun out H1 => Q (V.str (SX.S out)) H1) (K := K) (a := t) (xs := xs) (fun i H' => H' D = some (.lst (((f.ps.take i).map pairL).map fun l => V.str (SX.S l))) ∧ Same H1 H') ⟨upd_same, Same.new nD⟩ (fun i H' _ ⟨_, s⟩ => SqT.of_ (s _ _ ht1)) ?_ ?_
    · rintro i x H2 hx2 ⟨hD, s2⟩
      obtain ⟨hi, r, rfl, hr1⟩ := (hx.same (s_H1.trans s2)).item hx2
      have hB := B.q _ (List.getElem_mem hi)
      have l1 : (f.ps[i]).1.natAbs.log2 < 1920 := lg19 hB.1
      have l2 : (f.ps[i]).2.natAbs.log2 < 1920 := lg19 hB.2
      have g1 := intL_lt (k := 30) (by decide) (bd96 hB.1)
      have g2 := intL_lt (k := 30) (by decide) (bd96 hB.2)
      refine g_pair hr1 ?_
      refine ⟨(by ((repeat (first | (with_reducible refine wipe_l (by decide) ?_) | (with_reducible refine wipe_lw (by decide) ?_) | (with_reducible refine wipe_r (by decide) ?_) | (with_reducible refine wipe_rw (by decide) ?_))); exact rfl)), ?_⟩
      refine iteT (A := _) (B := True) ?_
      refine iteT ?_
      have hsz : (((f.ps.take i).map pairL).map fun l => V.str (SX.S l)).length < sizeLine := lt_size (by rw [List.length_map, List.length_map, List.length_take]; omega)
      decreasing_trivial
      refine .inr ⟨_, rfl, l1, _, rfl, szP (by simp only [List.length_nil]; omega), ?_⟩
      refine ⟨[58], rfl, szP (by simp only [List.length_append, List.length_nil, List.length_singleton]; omega), ?_⟩
      decreasing_trivial
      refine .inr ⟨_, rfl, l2, _, rfl, szP (by simp only [List.length_append, List.length_nil, List.length_singleton]; omega), ?_⟩
      decreasing_trivial
      refine ⟨?_, s2.put nD⟩
      rw [upd_same, List.take_add_one, List.map_append, List.map_append, List.getElem?_eq_getElem hi]
      rfl
    · rintro H2 ⟨hD, s2⟩
      rw [hlx, List.take_of_length_le (Nat.le_refl _)] at hD
      have hp1 := s2 _ _ h_p1
      decreasing_trivial
      intro p3 n_p3
      generalize e_H3 : upd _ p3 _ = H3
      have h_p3 := at_new e_H3
      have s_H3 := same_new e_H3 n_p3
      have hS3 : SqL K H3 p3 ((Tx.intL f.P :: Tx.intL f.R :: f.ps.map pairL).map fun l => V.str (SX.S l)) := SqL.of h_p3
      decreasing_trivial
      exact q _ ((s_H1.trans s2).trans s_H3)
theorem sc_l_bag : FnScope ["_law_script", "_law_at", "_law_cell", "_law_mixed", "_law_k", "_law_each"] ["_law_script", "_law_at"] (defScope s_l_bag) := ⟨rfl, rfl, rfl, by decide +kernel, rfl, by decide +kernel, by decide +kernel⟩
set_option maxHeartbeats 4000000 in
theorem ok_l_bag (T : TX w K mg) : FnOk P w K mg base CX0 1 (He.fAd K ("_law_bag", none)) T.fd_l_bag ["_law_script", "_law_at"] (sp_l_bag K) := by
  refine T.F_l_bag.ok (k := 0) sc_l_bag (fun vs H Q E h => ?_) (fun cdv A outer s H vs Q E hr h => ⟨_, PSs.nox (by exact (pss_cons (ps_set (i := 2) sc_l_bag.nd rfl (Or.inl rfl) (pe_cut (pe_ifExp (pt_cmpR op_lt (pv 1) (pe_callB call_len (by rfl) T.f_len PySem.boot_len (pa_cons (pv 0) pa_nil)) (nomark _)) (pe_ix ix_list (pv 0) (pv 1) (fun _ _ => rfl)) pe_int)))
      (pss_cons (ps_set (i := 3) sc_l_bag.nd rfl (Or.inl rfl) (pe_op op_add (pe_op op_mulW pe_int (pv 1)) pe_int))
      (pss_cons (ps_for PassesOwn.never rfl (pi_enum (by rfl) T.f_enumerate (pa_cons (pe_slice sl_list (pv 0) po_none (po_some pe_int)) pa_nil)) (pg_tup rfl (pgs_cons (pg_name (i := 4) sc_l_bag.nd rfl (Or.inl rfl)) (pgs_cons (pg_name (i := 5) sc_l_bag.nd rfl (Or.inl rfl)) pgs_nil)))
      (pss_one (ps_set (i := 3) sc_l_bag.nd rfl (Or.inl rfl) (pe_op op_mod (pe_callTy call_int1 (by rfl) T.f_int (by decide +kernel) (pa_cons (pe_op op_add (pe_op op_add (pe_op op_mulW (pv 3) pe_int) (pe_op op_mod (pe_callTy call_int1 (by rfl) T.f_int (by decide +kernel) (pa_cons (pv 5) pa_nil)) pe_int)) (pe_op op_mulW pe_int (pv 4))) pa_nil)) pe_int))))
      (pss_one (ps_ret (pe_lst (pa_cons (pe_cut (pe_ifExp (pt_cmpR op_ge (pe_callB call_abs (by rfl) T.f_abs (by decide +kernel) (pa_cons (pv 2) pa_nil)) (pe_op op_pow pe_int pe_int) (nomark _)) (pe_callB call_abs (by rfl) T.f_abs (by decide +kernel) (pa_cons (pv 2) pa_nil)) pe_int)) (pa_cons (pv 3) pa_nil))))))))), ?_⟩)
  · obtain ⟨a, ns, at_, rfl, _⟩ := h
    rfl
  · obtain ⟨a, ns, at_, rfl, hS, hlen, h0, h64, q⟩ := h
    have hsz : (ns.map V.int).length ≤ 63 := by rw [List.length_map]; exact hlen
    have hc : (cutV (ns.map V.int) none (some 63)).length ≤ 63 := Nat.le_trans (cutV_length _ _ _) hsz
    refine ⟨fun v H' => (∃ c, v = V.int c) ∧ H = H', ?_, ?_⟩
    · refine ⟨_, rfl, _, rfl, _, _, rfl, Or.inl ⟨_, hS, rfl⟩, _, _, rfl, rfl, _, rfl, ite2 (fun h => ?_) (fun h => ?_)⟩
      · have h1 : at_ < ((ns.map V.int).length : Int) := of_decide_eq_true h
        rw [List.length_map] at h1
        have hx : at_.toNat < ns.length := by omega
        refine ⟨_, rfl, _, rfl, _, _, _, V.int ns[at_.toNat], rfl, rfl, hS, ?_, ⟨_, rfl⟩, rfl⟩
        exact atI_pos h0 (by rw [List.getElem?_map, List.getElem?_eq_getElem hx]; rfl)
      · exact ⟨⟨_, rfl⟩, rfl⟩
    · rintro _ _ ⟨⟨c, rfl⟩, rfl⟩
      refine ⟨_, rfl, _, _, rfl, rfl, mulW 64 64 (by decide) (lt64 (by omega) (by omega)), _, _, rfl, rfl, ?_⟩
      refine ⟨_, rfl, _, rfl, _, _, rfl, hS, fun p np => ?_⟩
      refine ⟨_, _, rfl, SqL.of upd_same, for_enum (K := K) (a := p) (xs := cutV (ns.map V.int) none (some 63)) (fun i σ H' => ∃ (m : Int) (v4 v5 : Option V), σ = [some (.ref a), some (.int at_), some (.int c), some (.int m), v4, v5] ∧ 0 ≤ m ∧ m < 2 ^ 40 ∧ Same H' H' ∧ Same (upd H p (.lst (cutV (ns.map V.int) none (some 63)))) H')
        ⟨_, none, none, rfl, by omega, by omega, Same.refl _, Same.refl _⟩ (fun i σ H' _ ⟨m, v4, v5, _, _, _, _, sm⟩ => SqL.of (sm _ _ upd_same)) ?_ ?_⟩
      · rintro i x σ H1 T hx ⟨m, v4, v5, rfl, hm0, hm1, _, sm⟩ nT
        have hi : i < 63 := Nat.lt_of_lt_of_le (List.getElem?_eq_some_iff.mp hx).1 hc
        obtain ⟨z, rfl⟩ : ∃ z : Int, x = V.int z := by
          have hmem : x ∈ ns.map V.int := List.mem_of_mem_drop (List.mem_of_mem_take (List.mem_of_getElem? hx))
          obtain ⟨z, _, e⟩ := List.mem_map.mp hmem
          exact ⟨z, e.symm⟩
        refine g_pair upd_same ?_
        refine ⟨_, rfl, _, _, rfl, rfl, mulW 64 64 (lt64 (by omega) (by omega)) (by decide), _, rfl, .inl ⟨_, rfl, _, _, rfl, rfl, (show (0 : Int) < _ by decide), _, _, rfl, rfl, _, rfl, _, _, rfl, rfl, mulW 64 64 (by decide) (lt64 (by omega) (by omega)), _, _, rfl, rfl, .inl ⟨_, rfl, _, _, rfl, rfl, (show (0 : Int) < _ by decide), ?_⟩⟩⟩
        refine ⟨_, _, _, rfl, Int.emod_nonneg _ (by decide), ?_, Same.refl _, sm.trans (Same.new nT)⟩
        omega
      · rintro σ H1 ⟨m, v4, v5, rfl, hm0, hm1, _, sm⟩
        have s0 : Same H H1 := (Same.new np).trans sm
        refine ⟨fun v H' => (∃ c : Int, v = V.int c ∧ 0 ≤ c) ∧ H1 = H', ?_, ?_⟩
        · refine ⟨_, rfl, _, rfl, _, _, rfl, rfl, ⟨by decide, by decide, by decide⟩, _, _, rfl, rfl, _, rfl, ite2 (fun h => ?_) (fun h => ?_)⟩
          · refine ⟨_, rfl, _, rfl, ⟨_, rfl, ?_⟩, rfl⟩
            split <;> omega
          · exact ⟨⟨_, rfl, Int.le_refl _⟩, rfl⟩
        · rintro _ _ ⟨⟨d, rfl, hd⟩, rfl⟩
          refine ⟨_, rfl, (show 2 ≤ sizeLine by decide), fun l nl => ?_⟩
          exact q l _ (s0.free nl) (s0.put (s0.free nl)) ⟨_, _, upd_same, hd, hm0, hm1⟩
theorem sc_l_take : FnScope ["_law_bag_here", "_law_many", "_law_digit"] ["_law_bag_here", "_law_many"] (defScope s_l_take) := ⟨rfl, rfl, rfl, by decide +kernel, rfl, by decide +kernel, by decide +kernel⟩
set_option maxHeartbeats 4000000 in
theorem ok_l_take (T : TX w K mg) : FnOk P w K mg base CX0 1 (He.fAd K ("_law_take", none)) T.fd_l_take ["_law_bag_here", "_law_many"] (sp_l_take K) := by
  refine T.F_l_take.ok (k := 0) sc_l_take (fun vs H Q E h => ?_) (fun cdv A outer s H vs Q E hr h => ⟨_, PSs.nox (by exact (pss_cons (ps_if (pt_cmpR op_gt (pe_ix ix_list (pv 0) pe_int (fun _ _ => rfl)) pe_int (nomark _)) (pss_cons (ps_set (i := 2) sc_l_take.nd rfl (Or.inl rfl) (pe_op op_mod (pe_callTy call_int1 (by rfl) T.f_int (by decide +kernel) (pa_cons (pe_ix ix_list (pv 0) pe_int (fun _ _ => rfl)) pa_nil)) (pv 1)))
      (pss_cons (ps_asg (pe_op op_fdivW (pe_ix ix_list (pv 0) pe_int (fun _ _ => rfl)) (pv 1)) (pg_sub (pv 0) pe_int set_list))
      (pss_one (ps_ret (pv 2))))) pss_nil)
      (pss_cons (ps_asg (pe_op op_mod (pe_callTy call_int1 (by rfl) T.f_int (by decide +kernel) (pa_cons (pe_op op_add (pe_op op_mulW (pe_ix ix_list (pv 0) pe_int (fun _ _ => rfl)) pe_int) pe_int) pa_nil)) pe_int) (pg_sub (pv 0) pe_int set_list))
      (pss_one (ps_ret (pe_op op_mod (pe_op op_fdivW (pe_op op_mod (pe_callTy call_int1 (by rfl) T.f_int (by decide +kernel) (pa_cons (pe_op op_mulW (pe_op op_fdivW (pe_ix ix_list (pv 0) pe_int (fun _ _ => rfl)) pe_int) pe_int) pa_nil)) pe_int) pe_int) (pv 1))))))), ?_⟩)
  · obtain ⟨l, many, rfl, _⟩ := h
    rfl
  · obtain ⟨l, many, rfl, ⟨a, b, hl, ha, hb, hb2⟩, hm, hm9, q⟩ := h
    refine ⟨_, rfl, _, _, _, _, rfl, rfl, SqL.of hl, rfl, _, _, rfl, rfl, _, rfl, ite2 (fun h => ?_) (fun h => ?_)⟩
    · refine ⟨_, rfl, _, _, _, _, rfl, rfl, SqL.of hl, rfl, .inl ⟨_, rfl, _, rfl, _, _, rfl, rfl, hm, ?_⟩⟩
      refine ⟨_, rfl, _, _, _, _, rfl, rfl, SqL.of hl, rfl, _, rfl, _, _, rfl, rfl, ⟨hm, hm9⟩, _, rfl, _, _, _, _, rfl, rfl, hl, rfl, ?_⟩
      refine ⟨_, rfl, q _ _ (Int.emod_nonneg _ (by omega)) (Int.emod_lt_of_pos _ hm) But.upd ⟨_, _, upd_same, ?_, hb, hb2⟩⟩
      exact Int.ediv_nonneg ha (by omega)
    · have e40 : (2 : Int) ^ 40 = 1099511627776 := by decide
      refine ⟨_, rfl, _, _, _, _, rfl, rfl, SqL.of hl, rfl, _, _, rfl, rfl, mulW 64 64 (lt64 (by omega) (by omega)) (by decide), _, _, rfl, rfl, .inl ⟨_, rfl, _, _, rfl, rfl, (show (0 : Int) < _ by decide), _, rfl, _, _, _, _, rfl, rfl, hl, rfl, ?_⟩⟩
      refine ⟨_, rfl, _, _, _, _, rfl, rfl, SqL.of upd_same, rfl, _, _, rfl, rfl, ⟨by decide, by decide⟩, _, _, rfl, rfl, mulW 64 64 (lt64 (by omega) (by omega)) (by decide), .inl ⟨_, rfl, _, _, rfl, rfl, (show (0 : Int) < _ by decide), _, _, rfl, rfl, ⟨by decide, by decide⟩, _, rfl, _, _, rfl, rfl, hm, ?_⟩⟩
      refine q _ _ (Int.emod_nonneg _ (by omega)) (Int.emod_lt_of_pos _ hm) But.upd ⟨_, _, upd_same, ha, Int.emod_nonneg _ (by decide), ?_⟩
      omega
theorem sc_l_again : FnScope ["_law_row_here", "_law_times", "_law_period", "_law_rise", "_law_pairs", "_law_more", "_law_t", "_law_place", "_law_value"] ["_law_row_here", "_law_times"] (defScope s_l_again) := ⟨rfl, rfl, rfl, by decide +kernel, rfl, by decide +kernel, by decide +kernel⟩
set_option maxHeartbeats 4000000 in
theorem ok_l_again (T : TX w K mg) : FnOk P w K mg base CX0 1 (He.fAd K ("_law_again", none)) T.fd_l_again ["_law_row_here", "_law_times"] (sp_l_again K) := by
  refine T.F_l_again.ok (k := 0) sc_l_again (fun vs H Q E h => ?_) (fun cdv A outer s H vs Q E hr h => ⟨_, PSs.nox (by exact (pss_cons (ps_asg (pv 0) (pg_lst rfl (pgs_cons (pg_name (i := 2) sc_l_again.nd rfl (Or.inr rfl)) (pgs_cons (pg_name (i := 3) sc_l_again.nd rfl (Or.inr rfl)) (pgs_cons (pg_name (i := 4) sc_l_again.nd rfl (Or.inl rfl)) pgs_nil)))))
      (pss_cons (ps_set (i := 5) sc_l_again.nd rfl (Or.inl rfl) (pe_lst pa_nil))
      (pss_cons (ps_for PassesOwn.never rfl (pi_range1 (by rfl) T.f_range (pa_cons (pv 1) pa_nil)) (pg_name (i := 6) sc_l_again.nd rfl (Or.inr rfl))
      (pss_one (ps_expr (pe_bm PySem.F.plainAttrs_list PySem.F.slot_list_extend PySem.F.type_list_extend mt_extend (pv 5) (pa_cons (pe_lc (own := [("_law_place", 7), ("_law_value", 8)]) (g := gTup K 2 (gCons (gName 7) (gCons (gName 8) gNil))) rfl sc_l_again.nd (pi_list (pv 4)) (blkOk_by (own := [("_law_place", 7), ("_law_value", 8)]) (N := ["_law_row_here", "_law_times", "_law_period", "_law_rise", "_law_pairs", "_law_more", "_law_t", "_law_place", "_law_value"]) (sc := defScope s_l_again) (by decide +kernel)) (fun _ _ _ _ _ => (pg_tup rfl (pgs_cons (pg_name (i := 7) sc_l_again.nd rfl (Or.inl rfl)) (pgs_cons (pg_name (i := 8) sc_l_again.nd rfl (Or.inl rfl)) pgs_nil)))) (fun _ _ _ _ _ => pts_nil) (fun _ _ _ _ _ => (pe_tup (pa_cons (pe_op op_add (pv 7) (pe_op op_mulW (pv 6) (pv 2))) (pa_cons (pe_op op_add (pv 8) (pe_op op_mulW (pv 6) (pv 3))) pa_nil))))) pa_nil)))))
      (pss_one (ps_ret (pe_lst (pa_cons (pe_op op_mulW (pv 1) (pv 2)) (pa_cons (pe_op op_mulW (pv 1) (pv 3)) (pa_cons (pv 5) pa_nil)))))))))), ?_⟩)
  · obtain ⟨r, D, f, M, rfl, _⟩ := h
    rfl
  · obtain ⟨r, D, f, M, rfl, hR, R, hM0, hM4, hl, q⟩ := h
    obtain ⟨m, rfl⟩ : ∃ m : Nat, M = m := ⟨M.toNat, by omega⟩
    rw [Int.toNat_natCast] at hl q
    have G := R.good
    have hr := hR.r
    obtain ⟨xs, hD, hx⟩ := hR.d
    decreasing_trivial
    intro L n_L
    generalize e_H1 : upd _ L _ = H1
    have h_L := at_new e_H1
    have s_H1 := same_new e_H1 n_L
    decreasing_trivial
    refine for_range (lo := 0) (fun t σ H' => ∃ (v6 v7 v8 : Option V) (ys : List V), σ = [some (.ref r), some (.int m), some (.int f.P), some (.int f.R), some (.ref D), some (.ref L), v6, v7, v8] ∧ H' L = some (.lst ys) ∧ PairsX H' ys ((List.range (t * f.ps.length)).map fun k : Nat => (Sx.pl f k, Sx.vl f k)) ∧ Same H H') ⟨none, none, none, [], rfl, h_L, ?_, s_H1⟩ ?_ ?_
    · rw [Nat.zero_mul]
      exact PairsX.nil
    · rintro t σ H2 ht ⟨v6, v7, v8, ys, rfl, hL, hY, s2⟩
      have hD2 := s2 _ _ hD
      have mwP : CMulW (0 + (t : Int)) f.P := mulW 64 4000 (lt64 (by omega) (by omega)) R.bP
      have mwR : CMulW (0 + (t : Int)) f.R := mulW 64 4000 (lt64 (by omega) (by omega)) R.bR
      have ht4 : (t + 1) * f.ps.length ≤ m * f.ps.length := Nat.mul_le_mul_right _ (by omega)
      rw [Nat.add_mul, Nat.one_mul] at ht4
      have hyl : ys.length = t * f.ps.length := by rw [hY.1, List.length_map, List.length_range]
      decreasing_trivial
      intro W nW
      refine lc_list (K := K) (a := D) (xs := xs) (fun j H' => ∃ (_ : Unit) (zs : List V), H' W = some (.lst zs) ∧ PairsX H' zs ((f.ps.take j).map fun q => (q.1 + (t : Int) * f.P, q.2 + (t : Int) * f.R)) ∧ Same H2 H') ⟨(), [], upd_same, PairsX.nil, Same.new nW⟩ (fun j H' _ ⟨_, _, _, _, s'⟩ => SqL.of (s' _ _ hD2)) ?_ ?_
      · rintro j y H3 hy ⟨_, zs, hW, hZ, s3⟩
        obtain ⟨hj, r1, rfl, hr1⟩ := (hx.same s2).item hy
        have hr3 := s3 _ _ hr1
        refine g_pair hr3 ?_
        refine ⟨(by ((repeat (first | (with_reducible refine wipe_l (by decide) ?_) | (with_reducible refine wipe_lw (by decide) ?_) | (with_reducible refine wipe_r (by decide) ?_) | (with_reducible refine wipe_rw (by decide) ?_))); exact rfl)), ?_⟩
        refine iteT (A := _) (B := True) ?_
        decreasing_trivial
        intro p n_p
        generalize e_H4 : upd _ p _ = H4
        have h_p := at_new e_H4
        have s_H4 := same_new e_H4 n_p
        have hW4 := s_H4 _ _ hW
        have hzl : zs.length < 100000 := by
          have := hZ.1
          rw [List.length_map, List.length_take] at this
          have := R.len
          omega
        decreasing_trivial
        refine ⟨(), zs ++ [.ref p], upd_same, ?_, (s3.trans s_H4).put nW⟩
        have k1 : Kp H4 (upd H4 W (.lst (zs ++ [.ref p]))) := Kp.mut hW4 rfl
        rw [List.take_succ, List.getElem?_eq_getElem hj, List.map_append]
        refine ((hZ.same s_H4).kp k1).push (q := (f.ps[j].1 + (t : Int) * f.P, f.ps[j].2 + (t : Int) * f.R)) ?_
        rw [upd_ne (ne_of h_p hW4 (fun z => by cases z)), h_p]
        rw [Int.zero_add]
      · rintro H3 ⟨_, zs, hW, hZ, s3⟩
        have hL3 := s3 _ _ hL
        rw [hx.1, List.take_length] at hZ
        have hzl : zs.length = f.ps.length := by rw [hZ.1, List.length_map]
        have hsz : ys.length + zs.length ≤ sizeLine := le_size (by omega)
        decreasing_trivial
        refine ⟨_, _, _, ys ++ zs, rfl, upd_same, ?_, (s2.trans s3).put n_L⟩
        rw [Sx.again_more f R.ne]
        have k1 : Kp H3 (upd H3 L (.lst (ys ++ zs))) := Kp.mut hL3 rfl
        exact ((hY.same s3).kp k1).app (hZ.kp k1)
    · rintro σ H2 ⟨v6, v7, v8, ys, rfl, hL, hY, s2⟩
      have mwP : CMulW (m : Int) f.P := mulW 64 4000 (lt64 (by omega) (by omega)) R.bP
      have mwR : CMulW (m : Int) f.R := mulW 64 4000 (lt64 (by omega) (by omega)) R.bR
      decreasing_trivial
      intro p n_p
      generalize e_H3 : upd _ p _ = H3
      have h_p := at_new e_H3
      have s_H3 := same_new e_H3 n_p
      exact q p L H3 (s2.free n_p) n_L (s2.trans s_H3) ⟨h_p, ys, s_H3 _ _ hL, hY.same s_H3⟩
theorem sc_Grain_init : FnScope ["self", "start", "lengths", "place", "length"] ["self", "start", "lengths"] (defScope s_Grain_init) := ⟨rfl, rfl, rfl, by decide +kernel, rfl, by decide +kernel, by decide +kernel⟩
set_option maxHeartbeats 4000000 in
theorem ok_Grain_init (T : TX w K mg) : FnSK P w K mg base CX0 4 (He.fAd K ("Grain", some "__init__")) "start" (sp_Grain_init K) := by
  refine FunD.okSK (k := 3) T.F_Grain_init sc_Grain_init rfl StX.cxUp_none (fun _ _ _ _ _ _ _ _ _ _ => rfl) (fun cdv A outer s H vs Q E hr hl h => ⟨_, PSs.nox (by exact (pss_cons (ps_if (pt_not (pt_chain op_le op_le pe_int (pe_callB call_len (by rfl) T.f_len PySem.boot_len (pa_cons (pv 2) pa_nil)) (pe_glob (v := .int 12) rfl T.c_MOST_LENGTHS ⟨_, rfl⟩))) (pss_one ps_never) pss_nil)
      (pss_cons (ps_for PassesOwn.never rfl (pi_enumT (by rfl) T.f_enumerate (pa_cons (pv 2) pa_nil)) (pg_tup rfl (pgs_cons (pg_name (i := 3) sc_Grain_init.nd rfl (Or.inl rfl)) (pgs_cons (pg_name (i := 4) sc_Grain_init.nd rfl (Or.inl rfl)) pgs_nil)))
      (pss_one (ps_if (PW.pt (pw_or (pt_not (pt_val (pe_call (ok_is_integer T) (hr.mono (by decide)) rfl T.g_is_integer T.F_is_integer.kp T.b_is_integer .nil pass0 (pa_cons (pv 4) pa_nil)))) (pw_or1 (pt_not (pt_chain op_le op_le pe_int (pv 4) (pe_glob (v := .int 1000000000000000) rfl T.c_GREATEST_LENGTH ⟨_, rfl⟩)))))) (pss_one ps_never) pss_nil)))
      (pss_cons (ps_if (pt_not (pt_val (pe_call (ok_is_integer T) (hr.mono (by decide)) rfl T.g_is_integer T.F_is_integer.kp T.b_is_integer .nil pass0 (pa_cons (pv 1) pa_nil)))) (pss_one ps_never) pss_nil)
      (pss_cons (ps_fld (pv 0) (pe_call (ok_shortest_row T) (hr.mono (by decide)) rfl T.g_shortest_row T.F_shortest_row.kp T.b_shortest_row .nil pass0 (pa_cons (pe_callTy call_tuple_of (by rfl) T.f_tuple (by decide +kernel) (pa_cons (pv 2) pa_nil)) pa_nil)) rfl)
      (pss_one (ps_fld (pv 0) (pv 1) rfl))))))), ?_⟩)
  obtain ⟨a, dx, t, ls, st, rfl, ha, ht, hr1, q⟩ := h
  have hl1 : 0 < ls.length := List.length_pos_iff.mpr hr1.ne
  have hl2 := hr1.len
  have hmap : (ls.map V.int).length = ls.length := List.length_map _
  have hT : ∀ H', Same H H' → SqT K H' t (ls.map V.int) := fun H' s => SqT.of_ (s _ _ ht)
  have e15 : (10 : Int) ^ 15 = 1000000000000000 := by decide
  refine ⟨_, rfl, _, _, rfl, Or.inr ⟨_, hT _ (Same.refl _), rfl⟩, _, _, rfl, rfl, true, ?_, iteT ⟨_, _, rfl, rfl, true, ?_, iteF ?_⟩⟩
  · rw [hmap]
    exact congrArg V.bl (decide_eq_true (by omega))
  · rw [hmap]
    exact congrArg V.bl (decide_eq_true (by omega))
  refine ⟨_, rfl, _, _, rfl, hT _ (Same.refl _), for_enumT (K := K) (a := t) (xs := ls.map V.int) (fun i σ H' => ∃ (v3 v4 : Option V), σ = [some (.ref a), some (.int st), some (.ref t), v3, v4] ∧ Same H H')
    ⟨none, none, rfl, Same.refl _⟩ (fun i σ H' _ ⟨_, _, _, s1⟩ => hT _ s1) ?_ ?_⟩
  · rintro i y σ H1 T' hy ⟨v3, v4, rfl, s1⟩ nT
    rw [List.getElem?_map] at hy
    obtain ⟨z, hz, rfl⟩ : ∃ z, ls[i]? = some z ∧ V.int z = y := by
      cases e : ls[i]? with
      | none => rw [e] at hy; cases hy
      | some z => rw [e] at hy; exact ⟨z, rfl, Option.some.inj hy⟩
    have hzp := hr1.pos z (List.mem_of_getElem? hz)
    refine g_pair upd_same ?_
    refine ⟨_, rfl, z, rfl, true, rfl, iteF ⟨_, rfl, _, _, rfl, rfl, true, ?_, iteT ⟨_, _, rfl, rfl, true, ?_, iteF ?_⟩⟩⟩
    · exact congrArg V.bl (decide_eq_true (by omega))
    · exact congrArg V.bl (decide_eq_true (by omega))
    · exact ⟨_, _, rfl, s1.trans (Same.new nT)⟩
  · rintro σ H1 ⟨v3, v4, rfl, s1⟩
    refine ⟨_, rfl, st, rfl, true, rfl, iteF ?_⟩
    have ha1 := s1 _ _ ha
    have ht1 := s1 _ _ ht
    refine ⟨_, rfl, t, _, rfl, .inr ⟨SqT.of_ ht1, _, ls, rfl, ⟨t, rfl, ht1⟩, hr1.ne, hr1.len, fun v' H2 s2 hv => ?_⟩⟩
    obtain ⟨t', rfl, ht'⟩ := hv
    have ha2 := s2 _ _ ha1
    refine ⟨_, rfl, _, _, _, _, rfl, ha2, T.cl_Grain, T.n_Grain_lengths, by decide, ?_⟩
    refine ⟨_, rfl, _, rfl, _, _, _, _, rfl, upd_same, T.cl_Grain, T.n_Grain_start, (show 1 < 1000 by decide), ?_⟩
    rw [upd_upd]
    exact q t' H2 (s1.trans s2) ht'
theorem sc_look_steps : FnScope ["period", "rise", "steps", "number", "k", "pair"] ["period", "rise", "steps"] (defScope s_look_steps) := ⟨rfl, rfl, rfl, by decide +kernel, rfl, by decide +kernel, by decide +kernel⟩
set_option maxHeartbeats 4000000 in
theorem ok_look_steps (T : TX w K mg) : FnOk P w K mg base CX0 4 (He.fAd K ("look_steps", none)) T.fd_look_steps ["period", "rise", "steps"] (sp_look_steps K) := by
  refine T.F_look_steps.ok (k := 3) sc_look_steps (fun vs H Q E h => ?_) (fun cdv A outer s H vs Q E hr h => ⟨_, PSs.nox (by exact (pss_cons (ps_for PassesOwn.never rfl (pi_tup (pe_tup (pa_cons (pv 0) (pa_cons (pv 1) pa_nil)))) (pg_name (i := 3) sc_look_steps.nd rfl (Or.inl rfl))
      (pss_one (ps_if (PW.pt (pw_or (pt_not (pt_val (pe_call (ok_is_integer T) (hr.mono (by decide)) rfl T.g_is_integer T.F_is_integer.kp T.b_is_integer .nil pass0 (pa_cons (pv 3) pa_nil)))) (pw_or1 (pt_cmpR op_lt (pv 3) pe_int (nomark _))))) (pss_one ps_never) pss_nil)))
      (pss_cons (ps_if (PW.pt (pw_or (pt_not (pt_val (pe_callB call_isiT (by rfl) T.f_isinstance (by decide +kernel) (pa_cons (pv 2) (pa_cons (pe_tup (pa_cons (pe_bltn (v := .ty "list") (by rfl) T.f_list (by decide +kernel) rfl) (pa_cons (pe_bltn (v := .ty "tuple") (by rfl) T.f_tuple (by decide +kernel) rfl) pa_nil))) pa_nil))))) (pw_or1 (pt_cmpR op_eq (pe_callB call_len (by rfl) T.f_len PySem.boot_len (pa_cons (pv 2) pa_nil)) pe_int (nomark _))))) (pss_one ps_never) pss_nil)
      (pss_cons (ps_if (pt_cmpR op_gt (pe_callB call_len (by rfl) T.f_len PySem.boot_len (pa_cons (pv 2) pa_nil)) (pe_glob (v := .int 240) rfl T.c_MOST_STEPS ⟨_, rfl⟩) (nomark _)) (pss_one ps_never) pss_nil)
      (pss_one (ps_for PassesOwn.never rfl (pi_enum (by rfl) T.f_enumerate (pa_cons (pv 2) pa_nil)) (pg_tup rfl (pgs_cons (pg_name (i := 4) sc_look_steps.nd rfl (Or.inl rfl)) (pgs_cons (pg_name (i := 5) sc_look_steps.nd rfl (Or.inl rfl)) pgs_nil)))
      (pss_cons (ps_if (PW.pt (pw_or (pt_not (pt_val (pe_callB call_isi (by rfl) T.f_isinstance (by decide +kernel) (pa_cons (pv 5) (pa_cons (pe_bltn (v := .ty "tuple") (by rfl) T.f_tuple (by decide +kernel) rfl) pa_nil))))) (pw_or (pt_cmpR op_ne (pe_callB call_len (by rfl) T.f_len PySem.boot_len (pa_cons (pv 5) pa_nil)) pe_int (nomark _)) (pw_or (pt_not (pt_val (pe_call (ok_is_integer T) (hr.mono (by decide)) rfl T.g_is_integer T.F_is_integer.kp T.b_is_integer .nil pass0 (pa_cons (pe_ix ix_tup (pv 5) pe_int (fun _ _ => rfl)) pa_nil)))) (pw_or1 (pt_not (pt_val (pe_call (ok_is_integer T) (hr.mono (by decide)) rfl T.g_is_integer T.F_is_integer.kp T.b_is_integer .nil pass0 (pa_cons (pe_ix ix_tup (pv 5) pe_int (fun _ _ => rfl)) pa_nil))))))))) (pss_one ps_never) pss_nil)
      (pss_cons (ps_if (PW.pt (pw_or (pt_not (pt_chain op_le op_lt pe_int (pe_ix ix_tup (pv 5) pe_int (fun _ _ => rfl)) (pv 0))) (pw_or1 (pt_cmpR op_ge (pe_ix ix_tup (pv 5) pe_int (fun _ _ => rfl)) (pe_op op_add (pe_ix ix_tup (pe_ix ix_list (pv 2) pe_int (fun _ _ => rfl)) pe_int (fun _ _ => rfl)) (pv 1)) (nomark _))))) (pss_one ps_never) pss_nil)
      (pss_one (ps_if (PW.pt (pw_and (pt_cmpR op_gt (pv 4) pe_int (nomark _)) (pw_and1 (PW.pt (pw_or (pt_cmpR op_le (pe_ix ix_tup (pv 5) pe_int (fun _ _ => rfl)) (pe_ix ix_tup (pe_ix ix_list (pv 2) (pe_op op_sub (pv 4) pe_int) (fun _ _ => rfl)) pe_int (fun _ _ => rfl)) (nomark _)) (pw_or1 (pt_cmpR op_le (pe_ix ix_tup (pv 5) pe_int (fun _ _ => rfl)) (pe_ix ix_tup (pe_ix ix_list (pv 2) (pe_op op_sub (pv 4) pe_int) (fun _ _ => rfl)) pe_int (fun _ _ => rfl)) (nomark _)))))))) (pss_one ps_never) pss_nil)))))))))), ?_⟩)
  · obtain ⟨D, f, rfl, _⟩ := h
    rfl
  · obtain ⟨D, f, rfl, ⟨xs, hD, hx⟩, R, q⟩ := h
    have hl : xs.length = f.ps.length := hx.1
    have hn := R.ne
    have hn2 := R.len
    refine ⟨_, rfl, _, rfl, (show 2 ≤ sizeLine by decide), fun p np => ⟨p, rfl, ⟨_, SqT.of_ upd_same⟩, for_tup (K := K) (a := p) (xs := [.int f.P, .int f.R]) (fun i σ H' => ∃ v3 : Option V, σ = [some (.int f.P), some (.int f.R), some (.ref D), v3, none, none] ∧ Same H H' ∧ Same (upd H p (.tup [.int f.P, .int f.R])) H')
      ⟨none, rfl, Same.new np, Same.refl _⟩ (fun i σ H' _ ⟨_, _, _, s⟩ => SqT.of_ (s _ _ upd_same)) ?_ ?_⟩⟩
    · rintro i y σ H1 hy ⟨v3, rfl, s1, s2⟩
      obtain ⟨n, rfl, hn⟩ : ∃ n, y = V.int n ∧ 0 < n := by
        match i, hy with
        | 0, hy => exact ⟨_, (Option.some.inj hy).symm, R.P0⟩
        | 1, hy => exact ⟨_, (Option.some.inj hy).symm, R.R0⟩
        | _ + 2, hy => cases hy
      refine ⟨_, rfl, n, rfl, true, rfl, iteF ⟨_, rfl, _, _, rfl, rfl, false, ?_, iteF ⟨_, rfl, s1, s2⟩⟩⟩
      exact congrArg V.bl (decide_eq_false (by omega))
    · rintro σ H1 ⟨v3, rfl, s1, _⟩
      refine ⟨_, rfl, (show 2 ≤ sizeLine by decide), fun p2 np2 => ⟨_, p2, _, _, _, _, rfl, upd_same, .cons (.ty _) (.cons (.ty _) .nil), .base (.lst (Same.new np2 _ _ (s1 _ _ hD))), T.ka_list, true, rfl, iteF ?_⟩⟩
      have s3 : Same H (upd H1 p2 (.tup [.ty "list", .ty "tuple"])) := s1.trans (Same.new np2)
      have hS : ∀ H', Same H H' → SqL K H' D xs := fun H' s => SqL.of (s _ _ hD)
      refine ⟨_, rfl, _, _, rfl, Or.inl ⟨_, hS _ s3, rfl⟩, rfl, false, ?_, iteF ?_⟩
      · exact congrArg V.bl (decide_eq_false (fun z => by injection z with z; omega))
      refine ⟨_, rfl, _, _, rfl, Or.inl ⟨_, hS _ s3, rfl⟩, _, _, rfl, rfl, false, ?_, iteF ?_⟩
      · exact congrArg V.bl (decide_eq_false (by omega))
      refine ⟨_, rfl, _, _, rfl, hS _ s3, for_enum (K := K) (a := D) (xs := xs) (fun i σ H' => ∃ v3 v4 v5 : Option V, σ = [some (.int f.P), some (.int f.R), some (.ref D), v3, v4, v5] ∧ Same H H')
        ⟨_, _, _, rfl, s3⟩ (fun i σ H' _ ⟨_, _, _, _, s⟩ => hS _ s) ?_ ?_⟩
      · rintro i y σ H4 T' hy ⟨v3, v4, v5, rfl, s4⟩ nT
        have hi : i < f.ps.length := by rw [← hl]; exact (List.getElem?_eq_some_iff.mp hy).1
        obtain ⟨r, hr1, hr2⟩ := hx.2 i _ (Sx.at_get hi)
        rw [hy] at hr1
        obtain rfl := Option.some.inj hr1
        obtain ⟨r0, hr01, hr02⟩ := hx.at_ hn
        refine g_pair upd_same ?_
        have s5 : Same H (upd H4 T' (.tup [.int (i : Nat), .ref r])) := s4.trans (Same.new nT)
        have hr := s5 _ _ hr2
        have hpi := R.p0 i hi
        have hvi := R.v1 i hi
        refine ⟨_, rfl, _, _, _, _, _, rfl, .ty "tuple", .base (.tup hr), T.k_tup_tup, true, rfl, iteF ?_⟩
        refine ⟨_, rfl, _, _, rfl, Or.inr ⟨_, SqT.of_ hr, rfl⟩, rfl, false, rfl, iteF ?_⟩
        refine ⟨_, rfl, _, _, _, _, rfl, rfl, SqT.of_ hr, rfl, _, rfl, true, rfl, iteF ?_⟩
        refine ⟨_, rfl, _, _, _, _, rfl, rfl, SqT.of_ hr, rfl, _, rfl, true, rfl, iteF ?_⟩
        refine ⟨_, rfl, _, _, _, _, rfl, rfl, SqT.of_ hr, rfl, _, _, rfl, rfl, true, ?_, iteT ⟨_, rfl, _, _, rfl, rfl, true, ?_, iteF ?_⟩⟩
        · exact congrArg V.bl (decide_eq_true hpi.1)
        · exact congrArg V.bl (decide_eq_true hpi.2)
        refine ⟨_, rfl, _, _, _, _, rfl, rfl, SqT.of_ hr, rfl, _, rfl, _, _, _, _, rfl, rfl, hS _ s5, hr01, _, _, _, _, rfl, rfl, SqT.of_ (s5 _ _ hr02), rfl, _, rfl, _, _, rfl, rfl, _, _, rfl, rfl, false, ?_, iteF ?_⟩
        · exact congrArg V.bl (decide_eq_false (by omega))
        match i, hi, s5, hr, hpi, hvi with
        | 0, hi, s5, hr, hpi, hvi => exact ⟨_, rfl, _, _, rfl, rfl, false, rfl, iteF (iteF ⟨_, _, _, rfl, s5⟩)⟩
        | j + 1, hi, s5, hr, hpi, hvi =>
          obtain ⟨r1, hr11, hr12⟩ := hx.at_ (i := j) (by omega)
          have hat : atI xs (((j + 1 : Nat) : Int) - 1) = some (.ref r1) := by
            rw [show ((j + 1 : Nat) : Int) - 1 = (j : Int) by omega]
            exact hr11
          have hu := R.up j hi
          refine ⟨_, rfl, _, _, rfl, rfl, true, ?_, iteT ⟨_, rfl, _, _, _, _, rfl, rfl, SqT.of_ hr, rfl, _, rfl, _, rfl, _, _, rfl, rfl, _, _, _, _, rfl, rfl, hS _ s5, hat, _, _, _, _, rfl, rfl, SqT.of_ (s5 _ _ hr12), rfl, _, _, rfl, rfl, false, ?_, iteF ?_⟩⟩
          · exact congrArg V.bl (decide_eq_true (by omega))
          · exact congrArg V.bl (decide_eq_false (by omega))
          refine ⟨_, rfl, _, _, _, _, rfl, rfl, SqT.of_ hr, rfl, _, rfl, _, rfl, _, _, rfl, rfl, _, _, _, _, rfl, rfl, hS _ s5, hat, _, _, _, _, rfl, rfl, SqT.of_ (s5 _ _ hr12), rfl, _, _, rfl, rfl, false, ?_, iteF ⟨_, _, _, rfl, s5⟩⟩
          exact congrArg V.bl (decide_eq_false (by omega))
      · rintro σ H4 ⟨v3, v4, v5, rfl, s4⟩
        exact q _ s4
theorem sc_is_count : FnScope ["text"] ["text"] (defScope s_is_count) := ⟨rfl, rfl, rfl, by decide +kernel, rfl, by decide +kernel, by decide +kernel⟩
set_option maxHeartbeats 4000000 in
theorem ok_is_count (T : TX w K mg) : FnOk P w K mg base CX0 4 (He.fAd K ("is_count", none)) T.fd_is_count ["text"] (sp_is_count K) := by
  refine T.F_is_count.ok (k := 3) sc_is_count (fun vs H Q E h => ?_) (fun cdv A outer s H vs Q E hr h => ⟨_, PSs.nox (by exact (pss_one (ps_ret (pe_and (pe_call (ok_has_digits T) (hr.mono (by decide)) rfl T.g_has_digits T.F_has_digits.kp T.b_has_digits .nil pass0 (pa_cons (pv 0) pa_nil)) (pe_and (pe_cmpR op_le (pe_callB call_lenS (by rfl) T.f_len PySem.boot_len (pa_cons (pv 0) pa_nil)) (pe_glob (v := .int 30) rfl T.c_MOST_DIGITS ⟨_, rfl⟩) (nomark _)) (pe_one (pe_or (pe_cmpR op_eqS (pv 0) (pe_strS (l := [48]) (by decide +kernel)) (nomark _)) (pe_one (pe_cmpR op_neS (pe_ix ix_S (pv 0) pe_int (fun _ _ => rfl)) (pe_strS (l := [48]) (by decide +kernel)) (nomark _)))))))))), ?_⟩)
  · obtain ⟨a, rfl, _⟩ := h
    rfl
  · obtain ⟨a, rfl, hl, q⟩ := h
    have hz : a.length ≤ sizeLine := le_size (by omega)
    have hc : Tx.isCnt a = (Tx.hasD a && decide (a.length ≤ 30) && (decide (a = [48]) || decide (a.head? ≠ some 48))) := rfl
    rw [hc] at q
    clear hc
    decreasing_trivial
    cases hd : Tx.hasD a with
    | false =>
      rw [hd] at q
      exact iteF q
    | true =>
      rw [hd] at q
      refine iteT ?_
      decreasing_trivial
      refine iteD2 (fun h30 => ?_) (fun h30 => ?_)
      · have e30 : decide (a.length ≤ 30) = true := decide_eq_true (by omega)
        rw [e30] at q
        decreasing_trivial
        refine iteD2 (fun e0 => ?_) (fun e0 => ?_)
        · have e1 : decide (a = [48]) = true := decide_eq_true e0
          rw [e1] at q
          exact q
        · have e1 : decide (a = [48]) = false := decide_eq_false e0
          rw [e1] at q
          obtain ⟨c, r, rfl⟩ : ∃ c r, a = c :: r := by
            cases a with
            | nil => cases hd
            | cons c r => exact ⟨c, r, rfl⟩
          have hix : (c :: r)[(0 : Int).toNat]? = some c := rfl
          decreasing_trivial
          have e2 : decide ((c :: r).head? ≠ some 48) = !decide ([c] = [48]) := by
            by_cases e : c = 48
            · subst e; rfl
            · rw [decide_eq_true (show (c :: r).head? ≠ some 48 from fun z => e (by injection z)), decide_eq_false (show ¬ [c] = [48] from fun z => e (by injection z))]
              rfl
          rw [e2] at q
          exact q
      · have e30 : decide (a.length ≤ 30) = false := decide_eq_false (by omega)
        rw [e30] at q
        exact q
theorem sc_look_string : FnScope ["text"] ["text"] (defScope s_look_string) := ⟨rfl, rfl, rfl, by decide +kernel, rfl, by decide +kernel, by decide +kernel⟩
set_option maxHeartbeats 4000000 in
theorem ok_look_string (T : TX w K mg) : FnOk P w K mg base (L2.CX P w) 4 (He.fAd K ("look_string", none)) T.fd_look_string ["text"] (sp_look_string K) := by
  refine T.F_look_string.ok (k := 3) sc_look_string (fun vs H Q E h => ?_) (fun cdv A outer s H vs Q E hr h => ⟨_, (by exact (pss_one (ps_if (pt_not (pt_val (pe_callB call_isi (by rfl) T.f_isinstance (by decide +kernel) (pa_cons (pv 0) (pa_cons (pe_bltn (v := .ty "str") (by rfl) T.f_str (by decide +kernel) rfl) pa_nil))))) (pss_one (ps_raise rfl (takes_of rfl rfl rfl rfl) (pmk_err T.er_BadText T.m_BadText_init.1 (eq_of_beq T.m_BadText_init.2) (ok_BadText_init T) (hr.mono (by decide)) T.b_BadText_init .nil pass0 rfl T.g_BadText (pa_cons (pe_un un_neg pe_int) pa_nil)))) pss_nil))), ?_⟩)
  · obtain ⟨v, rfl, _⟩ := h
    rfl
  · obtain ⟨v, rfl, h⟩ := h
    rcases h with ⟨a, rfl, q⟩ | ⟨t, ty, kt, q⟩
    · decreasing_trivial
      exact q
    · decreasing_trivial
      exact err_raise q
theorem sc_l_gap : FnScope ["_law_bag_here", "_law_way"] ["_law_bag_here"] (defScope s_l_gap) := ⟨rfl, rfl, rfl, by decide +kernel, rfl, by decide +kernel, by decide +kernel⟩
set_option maxHeartbeats 4000000 in
theorem ok_l_gap (T : TX w K mg) : FnOk P w K mg base CX0 4 (He.fAd K ("_law_gap", none)) T.fd_l_gap ["_law_bag_here"] (sp_l_gap K) := by
  refine T.F_l_gap.ok (k := 3) sc_l_gap (fun vs H Q E h => ?_) (fun cdv A outer s H vs Q E hr h => ⟨_, PSs.nox (by exact (pss_cons (ps_set (i := 1) sc_l_gap.nd rfl (Or.inl rfl) (pe_call (ok_l_take T) (hr.mono (by decide)) rfl T.g_l_take T.F_l_take.kp T.b_l_take .nil pass0 (pa_cons (pv 0) (pa_cons pe_int pa_nil))))
      (pss_cons (ps_if (pt_cmpR op_eq (pv 1) pe_int (nomark _)) (pss_one (ps_ret (pe_op op_add pe_int (pe_op op_mulW (pe_call (ok_l_take T) (hr.mono (by decide)) rfl T.g_l_take T.F_l_take.kp T.b_l_take .nil pass0 (pa_cons (pv 0) (pa_cons (pe_op op_pow pe_int pe_int) pa_nil))) (pe_op op_pow pe_int pe_int))))) pss_nil)
      (pss_one (ps_ret (pe_cut (pe_ifExp (pt_cmpR op_eq (pv 1) pe_int (nomark _)) (pe_op op_sub (pe_op op_pow pe_int pe_int) (pe_call (ok_l_take T) (hr.mono (by decide)) rfl T.g_l_take T.F_l_take.kp T.b_l_take .nil pass0 (pa_cons (pv 0) (pa_cons pe_int pa_nil)))) (pe_op op_add pe_int (pe_call (ok_l_take T) (hr.mono (by decide)) rfl T.g_l_take T.F_l_take.kp T.b_l_take .nil pass0 (pa_cons (pv 0) (pa_cons pe_int pa_nil))))))))))), ?_⟩)
  · obtain ⟨l, rfl, _⟩ := h
    rfl
  · obtain ⟨l, rfl, hB, q⟩ := h
    have e15 : (10 : Int) ^ (15 : Int).toNat = 1000000000000000 := by decide
    have e9 : (10 : Int) ^ (9 : Int).toNat = 1000000000 := by decide
    have e6 : (10 : Int) ^ (6 : Int).toNat = 1000000 := by decide
    have e15' : (10 : Int) ^ 15 = 1000000000000000 := by decide
    refine ⟨_, rfl, _, _, rfl, hB, by decide, by decide, fun w H1 w0 w1 c1 B1 => ?_⟩
    refine ⟨_, rfl, rfl, _, rfl, ite2 (fun h => ?_) (fun h => ?_)⟩
    · refine ⟨_, rfl, _, _, rfl, rfl, ⟨by decide, by decide, by decide⟩, _, _, rfl, B1, by decide, by decide, fun d H2 d0 d1 c2 B2 => ?_⟩
      rw [e6] at d1
      refine ⟨_, _, rfl, rfl, ⟨by decide, by decide, by decide⟩, _, _, rfl, rfl, mulW 64 64 (lt64 (by omega) (by omega)) (by decide), _, _, rfl, rfl, ?_⟩
      refine q _ _ ?_ ?_ (c1.trans c2) B2
      · rw [e9]; omega
      · rw [e9, e15']; omega
    · refine ⟨fun v H' => ∃ d : Int, v = V.int d ∧ 0 < d ∧ d ≤ 10 ^ 15 ∧ But l H H' ∧ BagAt H' l, ?_, ?_⟩
      · refine ⟨_, rfl, rfl, _, rfl, ite2 (fun h => ?_) (fun h => ?_)⟩
        · refine ⟨_, _, rfl, rfl, ⟨by decide, by decide, by decide⟩, _, rfl, _, _, rfl, B1, by decide, by decide, fun d H2 d0 d1 c2 B2 => ⟨_, _, rfl, rfl, _, rfl, ?_, ?_, c1.trans c2, B2⟩⟩
          · rw [e15]; omega
          · rw [e15, e15']; omega
        · refine ⟨_, rfl, _, _, rfl, B1, by decide, by decide, fun d H2 d0 d1 c2 B2 => ⟨_, _, rfl, rfl, _, rfl, ?_, ?_, c1.trans c2, B2⟩⟩
          · omega
          · rw [e15']; omega
      · rintro _ H2 ⟨d, rfl, d0, d1, c2, B2⟩
        exact q _ _ d0 d1 c2 B2
theorem sc_Step_init : FnScope ["self", "period", "rise", "steps"] ["self", "period", "rise", "steps"] (defScope s_Step_init) := ⟨rfl, rfl, rfl, by decide +kernel, rfl, by decide +kernel, by decide +kernel⟩
set_option maxHeartbeats 4000000 in
theorem ok_Step_init (T : TX w K mg) : FnOk P w K mg base CX0 7 (He.fAd K ("Step", some "__init__")) T.fd_Step_init ["self", "period", "rise", "steps"] (sp_Step_init K) := by
  refine T.F_Step_init.ok (k := 6) sc_Step_init (fun vs H Q E h => ?_) (fun cdv A outer s H vs Q E hr h => ⟨_, PSs.nox (by exact (pss_cons (ps_expr (pe_call (ok_look_steps T) (hr.mono (by decide)) rfl T.g_look_steps T.F_look_steps.kp T.b_look_steps .nil pass0 (pa_cons (pv 1) (pa_cons (pv 2) (pa_cons (pv 3) pa_nil)))))
      (pss_one (ps_asg (pe_call (ok_least_form T) (hr.mono (by decide)) rfl T.g_least_form T.F_least_form.kp T.b_least_form .nil pass0 (pa_cons (pv 1) (pa_cons (pv 2) (pa_cons (pe_callTy call_tuple_of (by rfl) T.f_tuple (by decide +kernel) (pa_cons (pv 3) pa_nil)) pa_nil)))) (pg_tup rfl (pgs_cons (pg_fld (pv 0)) (pgs_cons (pg_fld (pv 0)) (pgs_cons (pg_fld (pv 0)) pgs_nil)))))))), ?_⟩)
  · obtain ⟨a, dx, D, f, rfl, _⟩ := h
    rfl
  · obtain ⟨a, dx, D, f, rfl, ha, ⟨xs, hD, hx⟩, R, q⟩ := h
    refine ⟨_, rfl, _, rfl, _, rfl, D, f, rfl, ⟨xs, hD, hx⟩, R, fun H1 s1 => ?_⟩
    refine ⟨_, rfl, _, rfl, _, rfl, _, xs, rfl, .inl ⟨SqL.of (s1 _ _ hD), fun t nt => ?_⟩⟩
    have s2 := Same.new (o := .tup xs) nt
    refine ⟨t, f, rfl, ⟨xs, upd_same, hx.kp (s1.trans s2).kp⟩, R.good, R.norm, fun p t' g H2 s3 hG hrep hleast hnorm hbd hpt hp => ?_⟩
    have hok := Sx.ok_of R hG hrep hleast hnorm
    have s := (s1.trans s2).trans s3
    refine ⟨p, _, rfl, SqT.of_ hp, rfl, _, _, rfl, ?_⟩
    refine ⟨_, rfl, a, _, dx, [], rfl, s _ _ ha, T.cl_Step, T.n_Step_period, by decide, ?_⟩
    refine ⟨_, _, rfl, _, rfl, a, _, dx, _, rfl, upd_same, T.cl_Step, T.n_Step_rise, (show 1 < 1000 by decide), ?_⟩
    refine ⟨_, _, rfl, _, rfl, a, _, dx, _, rfl, upd_same, T.cl_Step, T.n_Step_steps, (show 2 < 1000 by decide), rfl, ?_⟩
    rw [upd_upd, upd_upd]
    exact q t' g H2 s hok.1 hok.2 hbd hpt
theorem sc_is_written : FnScope ["text"] ["text"] (defScope s_is_written) := ⟨rfl, rfl, rfl, by decide +kernel, rfl, by decide +kernel, by decide +kernel⟩
set_option maxHeartbeats 4000000 in
theorem ok_is_written (T : TX w K mg) : FnOk P w K mg base CX0 7 (He.fAd K ("is_written", none)) T.fd_is_written ["text"] (sp_is_written K) := by
  refine T.F_is_written.ok (k := 6) sc_is_written (fun vs H Q E h => ?_) (fun cdv A outer s H vs Q E hr h => ⟨_, PSs.nox (by exact (pss_cons (ps_if (pt_cmpR op_eqS (pe_slice sl_Sto (pv 0) po_none (po_some pe_int)) (pe_strS (l := [45]) (by decide +kernel)) (nomark _)) (pss_one (ps_ret (pe_and (pe_call (ok_is_count T) (hr.mono (by decide)) rfl T.g_is_count T.F_is_count.kp T.b_is_count .nil pass0 (pa_cons (pe_slice sl_Sfrom (pv 0) (po_some pe_int) po_none) pa_nil)) (pe_one (pe_cmpR op_neS (pv 0) (pe_strS (l := [45, 48]) (by decide +kernel)) (nomark _)))))) pss_nil)
      (pss_one (ps_ret (pe_call (ok_is_count T) (hr.mono (by decide)) rfl T.g_is_count T.F_is_count.kp T.b_is_count .nil pass0 (pa_cons (pv 0) pa_nil)))))), ?_⟩)
  · obtain ⟨a, rfl, _⟩ := h
    rfl
  · obtain ⟨a, rfl, hl, q⟩ := h
    have hz : a.length ≤ sizeLine := le_size (by omega)
    decreasing_trivial
    refine iteD2 (fun e => ?_) (fun e => ?_)
    · have h45 : a.head? = some 45 := take_one.mp e
      have hw : Tx.isWr a = (Tx.isCnt (a.drop 1) && decide (a ≠ [45, 48])) := by
        unfold Tx.isWr
        rw [if_pos h45]
      rw [hw] at q
      have hl1 : (a.drop (1 : Int).toNat).length ≤ 100000 := by rw [List.length_drop]; omega
      decreasing_trivial
      cases hd : Tx.isCnt (a.drop (1 : Int).toNat) with
      | false =>
        rw [show Tx.isCnt (a.drop 1) = false from hd] at q
        exact iteF q
      | true =>
        rw [show Tx.isCnt (a.drop 1) = true from hd] at q
        refine iteT ?_
        decreasing_trivial
        have e2 : decide (a ≠ [45, 48]) = !decide (a = [45, 48]) := decide_not
        rw [e2] at q
        exact q
    · have h45 : ¬ a.head? = some 45 := fun z => e (take_one.mpr z)
      have hw : Tx.isWr a = Tx.isCnt a := by
        unfold Tx.isWr
        rw [if_neg h45]
      rw [hw] at q
      decreasing_trivial
      exact q
theorem sc_l_map : FnScope ["_law_bag_here", "_law_most", "_law_many", "_law_widths", "_law_gains", "_law_k", "_law_place", "_law_pairs", "_law_value"] ["_law_bag_here", "_law_most"] (defScope s_l_map) := ⟨rfl, rfl, rfl, by decide +kernel, rfl, by decide +kernel, by decide +kernel⟩
set_option maxHeartbeats 4000000 in
theorem ok_l_map (T : TX w K mg) : FnOk P w K mg base CX0 7 (He.fAd K ("_law_map", none)) T.fd_l_map ["_law_bag_here", "_law_most"] (sp_l_map K) := by
  refine T.F_l_map.ok (k := 6) sc_l_map (fun vs H Q E h => ?_) (fun cdv A outer s H vs Q E hr h => ⟨_, PSs.nox (by exact (pss_cons (ps_set (i := 2) sc_l_map.nd rfl (Or.inl rfl) (pe_op op_add pe_int (pe_call (ok_l_take T) (hr.mono (by decide)) rfl T.g_l_take T.F_l_take.kp T.b_l_take .nil pass0 (pa_cons (pv 0) (pa_cons (pv 1) pa_nil)))))
      (pss_cons (ps_par (i := 3) (j := 4) (by rfl) sc_l_map.nd rfl rfl (by decide) rfl rfl (pa_cons (pe_lc (own := [("_law_k", 5)]) rfl sc_l_map.nd (pi_range1 (by rfl) T.f_range (pa_cons (pv 2) pa_nil)) (blkOk_by (own := [("_law_k", 5)]) (N := ["_law_bag_here", "_law_most", "_law_many", "_law_widths", "_law_gains", "_law_k", "_law_place", "_law_pairs", "_law_value"]) (sc := defScope s_l_map) (by decide +kernel)) (fun _ _ _ _ _ => (pg_name (i := 5) sc_l_map.nd rfl (Or.inl rfl))) (fun _ _ _ _ _ => pts_nil) (fun _ _ _ _ _ => (pe_call (ok_l_gap T) (hr.mono (by decide)) rfl T.g_l_gap T.F_l_gap.kp T.b_l_gap .nil pass0 (pa_cons (pv 0) pa_nil)))) (pa_cons (pe_lc (own := [("_law_k", 5)]) rfl sc_l_map.nd (pi_range1 (by rfl) T.f_range (pa_cons (pv 2) pa_nil)) (blkOk_by (own := [("_law_k", 5)]) (N := ["_law_bag_here", "_law_most", "_law_many", "_law_widths", "_law_gains", "_law_k", "_law_place", "_law_pairs", "_law_value"]) (sc := defScope s_l_map) (by decide +kernel)) (fun _ _ _ _ _ => (pg_name (i := 5) sc_l_map.nd rfl (Or.inl rfl))) (fun _ _ _ _ _ => pts_nil) (fun _ _ _ _ _ => (pe_call (ok_l_gap T) (hr.mono (by decide)) rfl T.g_l_gap T.F_l_gap.kp T.b_l_gap .nil pass0 (pa_cons (pv 0) pa_nil)))) pa_nil)) (by rfl))
      (pss_cons (ps_par (i := 6) (j := 7) (by rfl) sc_l_map.nd rfl rfl (by decide) rfl rfl (pa_cons (pe_call (ok_l_take T) (hr.mono (by decide)) rfl T.g_l_take T.F_l_take.kp T.b_l_take .nil pass0 (pa_cons (pv 0) (pa_cons (pe_ix ix_list (pv 3) (pe_un un_neg pe_int) (fun _ _ => rfl)) pa_nil))) (pa_cons (pe_lst pa_nil) pa_nil)) (by rfl))
      (pss_cons (ps_set (i := 8) sc_l_map.nd rfl (Or.inl rfl) (pe_op op_sub (pe_call (ok_l_take T) (hr.mono (by decide)) rfl T.g_l_take T.F_l_take.kp T.b_l_take .nil pass0 (pa_cons (pv 0) (pa_cons (pe_op op_pow pe_int pe_int) pa_nil))) (pe_op op_mulW pe_int (pe_op op_pow pe_int pe_int))))
      (pss_cons (ps_for PassesOwn.never rfl (pi_range1 (by rfl) T.f_range (pa_cons (pv 2) pa_nil)) (pg_name (i := 5) sc_l_map.nd rfl (Or.inl rfl))
      (pss_cons (ps_expr (pe_bm PySem.F.plainAttrs_list PySem.F.slot_list_append PySem.F.type_list_append mt_append (pv 7) (pa_cons (pe_tup (pa_cons (pv 6) (pa_cons (pv 8) pa_nil))) pa_nil)))
      (pss_one (ps_par (i := 6) (j := 8) (by rfl) sc_l_map.nd rfl rfl (by decide) rfl rfl (pa_cons (pe_op op_add (pv 6) (pe_ix ix_list (pv 3) (pv 5) (fun _ _ => rfl))) (pa_cons (pe_op op_add (pv 8) (pe_ix ix_list (pv 4) (pv 5) (fun _ _ => rfl))) pa_nil)) (by rfl)))))
      (pss_one (ps_ret (pe_lst (pa_cons (pe_callB (cr_sum rfl) (by rfl) T.f_sum (by decide +kernel) (pa_cons (pv 3) pa_nil)) (pa_cons (pe_callB (cr_sum rfl) (by rfl) T.f_sum (by decide +kernel) (pa_cons (pv 4) pa_nil)) (pa_cons (pv 7) pa_nil)))))))))))), ?_⟩)
  · obtain ⟨l, most, rfl, _⟩ := h
    rfl
  · obtain ⟨l, most, rfl, hB, hm0, hm1, q⟩ := h
    have e9 : (10 : Int) ^ (9 : Int).toNat = 1000000000 := by decide
    have e8 : (10 : Int) ^ (8 : Int).toNat = 100000000 := by decide
    have e15 : (10 : Int) ^ 15 = 1000000000000000 := by decide
    have sm : ∀ {i : Int}, 0 < i → i ≤ 10 ^ 15 → i.natAbs.log2 < 9000 := fun {i} h1 h2 => log2_lt (n := 64) (by decide) (lt64 (by omega) (by omega)) (by decide)
    refine ⟨_, rfl, _, rfl, l, _, rfl, hB, hm0, sm hm0 (by omega), fun d H1 d0 d1 c1 B1 => ⟨_, _, rfl, rfl, ?_⟩⟩
    obtain ⟨n, rfl⟩ : ∃ n : Nat, d = n := ⟨d.toNat, by omega⟩
    refine ⟨_, rfl, _, rfl, by omega, by omega, fun W nW => ?_⟩
    have nW0 := c1.free_ B1 nW
    have nWl : W ≠ l := B1.ne0 nW
    refine lc_range (lo := 0) (fun i H' => ∃ ws : List Int, H' W = some (.lst (ws.map V.int)) ∧ ws.length = i ∧ (∀ x ∈ ws, 0 < x ∧ x ≤ 10 ^ 15) ∧ But l H H' ∧ BagAt H' l)
      ⟨[], upd_same, rfl, (fun x hx => by cases hx), c1.put nW0, B1.new nW⟩ ?_ ?_
    · rintro j H3 hj ⟨ws, hW, hlj, hws, c3, B3⟩
      refine ⟨(by ((repeat (first | (with_reducible refine wipe_l (by decide) ?_) | (with_reducible refine wipe_lw (by decide) ?_) | (with_reducible refine wipe_r (by decide) ?_) | (with_reducible refine wipe_rw (by decide) ?_))); exact rfl)), ?_⟩
      refine iteT (A := _) (B := True) ?_
      refine ⟨_, rfl, l, rfl, B3, fun z H4 z0 z1 c4 B4 => ⟨ws.map V.int, c4 W _ hW nWl, ?_, ws ++ [z], ?_, ?_, ?_, (c3.trans c4).put nW0, B4.off nWl⟩⟩
      · rw [List.length_map, hlj]
        exact Nat.lt_of_lt_of_le (show j < 1000 by omega) (by decide)
      · rw [upd_same, List.map_append]
        rfl
      · rw [List.length_append, hlj]
        rfl
      · intro x hx
        rcases List.mem_append.mp hx with hx | hx
        · exact hws x hx
        · rw [List.mem_singleton.mp hx]
          exact ⟨z0, z1⟩
    rintro H3 ⟨ws, hW, hlw, hws, c3, B3⟩
    refine ⟨_, rfl, _, rfl, by omega, by omega, fun Gd nG => ?_⟩
    have nG0 := c3.free_ B3 nG
    have nGl : Gd ≠ l := B3.ne0 nG
    have nGW : Gd ≠ W := fun z => by rw [z, hW] at nG; cases nG
    refine lc_range (lo := 0) (fun i H' => ∃ gs : List Int, H' Gd = some (.lst (gs.map V.int)) ∧ gs.length = i ∧ (∀ x ∈ gs, 0 < x ∧ x ≤ 10 ^ 15) ∧ H' W = some (.lst (ws.map V.int)) ∧ But l H H' ∧ BagAt H' l)
      ⟨[], upd_same, rfl, (fun x hx => by cases hx), Same.new nG _ _ hW, c3.put nG0, B3.new nG⟩ ?_ ?_
    · rintro j H4 hj ⟨gs, hG, hlj, hgs, hW4, c4, B4⟩
      refine ⟨(by ((repeat (first | (with_reducible refine wipe_l (by decide) ?_) | (with_reducible refine wipe_lw (by decide) ?_) | (with_reducible refine wipe_r (by decide) ?_) | (with_reducible refine wipe_rw (by decide) ?_))); exact rfl)), ?_⟩
      refine iteT (A := _) (B := True) ?_
      refine ⟨_, rfl, l, rfl, B4, fun z H5 z0 z1 c5 B5 => ⟨gs.map V.int, c5 Gd _ hG nGl, ?_, gs ++ [z], ?_, ?_, ?_, ?_, (c4.trans c5).put nG0, B5.off nGl⟩⟩
      · rw [List.length_map, hlj]
        exact Nat.lt_of_lt_of_le (show j < 1000 by omega) (by decide)
      · rw [upd_same, List.map_append]
        rfl
      · rw [List.length_append, hlj]
        rfl
      · intro x hx
        rcases List.mem_append.mp hx with hx | hx
        · exact hgs x hx
        · rw [List.mem_singleton.mp hx]
          exact ⟨z0, z1⟩
      · rw [upd_ne (Ne.symm nGW)]
        exact c5 W _ hW4 nWl
    rintro H4 ⟨gs, hG, hlg, hgs, hW4, c4, B4⟩
    have hlw' : ws.length = n + 1 := by omega
    have hlg' : gs.length = n + 1 := by omega
    have hlast : atI (ws.map V.int) (-1) = some (V.int (ws[n]'(by omega))) := atI_end (n := n) (by rw [List.length_map]; exact hlw') (by rw [List.getElem?_map, List.getElem?_eq_getElem (by omega)]; rfl)
    have hwn := hws _ (List.getElem_mem (show n < ws.length by omega))
    refine ⟨_, _, rfl, ?_⟩
    refine ⟨_, rfl, _, rfl, _, rfl, _, _, _, _, rfl, rfl, SqL.of hW4, hlast, l, _, rfl, B4, hwn.1, sm hwn.1 hwn.2, fun p0 H5 p00 p01 c5 B5 => ?_⟩
    refine ⟨(show 0 ≤ sizeLine by decide), fun D nD => ⟨_, _, rfl, ?_⟩⟩
    have c5' := c4.trans c5
    have nD0 := c5'.free_ B5 nD
    have nDl : D ≠ l := B5.ne0 nD
    have hW5 := c5 W _ hW4 nWl
    have hG5 := c5 Gd _ hG nGl
    have nDW : D ≠ W := fun z => by rw [z, hW5] at nD; cases nD
    have nDG : D ≠ Gd := fun z => by rw [z, hG5] at nD; cases nD
    refine ⟨_, rfl, _, _, rfl, rfl, ⟨by decide, by decide, by decide⟩, l, _, rfl, B5.new nD, by decide, by decide, fun v1 H6 v10 v11 c6 B6 => ?_⟩
    rw [e9] at v11
    refine ⟨_, _, rfl, rfl, ⟨by decide, by decide, by decide⟩, _, _, rfl, rfl, mulW 64 64 (by decide) (by decide), _, _, rfl, rfl, ?_⟩
    obtain ⟨v0, hv0⟩ : ∃ v0, v1 - 5 * 10 ^ (8 : Int).toNat = v0 := ⟨_, rfl⟩
    have hv0b : v0.natAbs < 10 ^ 16 := by
      have e16 : (10 : Nat) ^ 16 = 10000000000000000 := by decide
      rw [e8] at hv0
      omega
    have hD6 := c6 D _ upd_same nDl
    have hW6 := c6 W _ (Same.new nD _ _ hW5) nWl
    have hG6 := c6 Gd _ (Same.new nD _ _ hG5) nGl
    have c6' : But l H H6 := (c5'.put nD0).trans c6
    refine ⟨_, rfl, _, rfl, by omega, by omega, for_range (lo := 0) (fun i σ H' => ∃ (v5 : Option V) (xs : List V), σ = [some (.ref l), some (.int most), some (.int (1 + (n : Int))), some (.ref W), some (.ref Gd), v5, some (.int (p0 + (ws.take i).sum)), some (.ref D), some (.int (v0 + (gs.take i).sum))]
        ∧ H' D = some (.lst xs) ∧ PairsX H' xs (Sx.build p0 v0 ws gs i) ∧ H' W = some (.lst (ws.map V.int)) ∧ H' Gd = some (.lst (gs.map V.int)) ∧ But l H H' ∧ BagAt H' l)
      ⟨none, [], ?_, hD6, ⟨rfl, (fun i q e => by cases e)⟩, hW6, hG6, c6', B6⟩ ?_ ?_⟩
    · rw [← hv0, List.take_zero, List.take_zero, List.sum_nil, Int.add_zero, Int.add_zero]
      rfl
    · rintro i σ H7 hi ⟨v5, xs, rfl, hD7, hx7, hW7, hG7, c7, B7⟩
      have hi' : i < n + 1 := by omega
      have hxl := hx7.1
      rw [Sx.build_length] at hxl
      refine ⟨_, rfl, .inl ⟨rfl, _, SqL.of hD7⟩, _, rfl, _, rfl, (show 2 ≤ sizeLine by decide), fun T' nT => ⟨D, xs, _, rfl, rfl, Same.new nT _ _ hD7, ?_, ?_⟩⟩
      · rw [hxl]
        exact Nat.lt_of_lt_of_le (show i < 1000 by omega) (by decide)
      have nT0 := c7.free_ B7 nT
      have nTD : T' ≠ D := fun z => by rw [z, hD7] at nT; cases nT
      have hatw : atI (ws.map V.int) (0 + (i : Int)) = some (V.int (ws[i]'(by omega))) := atI_pos (by omega) (by rw [List.getElem?_map, show (0 + (i : Int)).toNat = i by omega, List.getElem?_eq_getElem (by omega)]; rfl)
      have hatg : atI (gs.map V.int) (0 + (i : Int)) = some (V.int (gs[i]'(by omega))) := atI_pos (by omega) (by rw [List.getElem?_map, show (0 + (i : Int)).toNat = i by omega, List.getElem?_eq_getElem (by omega)]; rfl)
      have sT := Same.new (o := .tup [.int (p0 + (ws.take i).sum), .int (v0 + (gs.take i).sum)]) nT
      have hW8 : upd (upd H7 T' (.tup [.int (p0 + (ws.take i).sum), .int (v0 + (gs.take i).sum)])) D (.lst (xs ++ [.ref T'])) W = some (.lst (ws.map V.int)) := by
        rw [upd_ne (Ne.symm nDW)]
        exact sT _ _ hW7
      have hG8 : upd (upd H7 T' (.tup [.int (p0 + (ws.take i).sum), .int (v0 + (gs.take i).sum)])) D (.lst (xs ++ [.ref T'])) Gd = some (.lst (gs.map V.int)) := by
        rw [upd_ne (Ne.symm nDG)]
        exact sT _ _ hG7
      refine ⟨_, rfl, _, rfl, _, rfl, _, _, _, _, rfl, rfl, SqL.of hW8, hatw, _, _, rfl, rfl, _, rfl, _, rfl, _, rfl, _, _, _, _, rfl, rfl, SqL.of hG8, hatg, _, _, rfl, rfl, _, _, rfl, ?_⟩
      refine ⟨some (.int (0 + (i : Int))), xs ++ [.ref T'], ?_, upd_same, ?_, hW8, hG8, (c7.put nT0).put nD0, (B7.new nT).off nDl⟩
      · rw [Sx.take_step (ls := ws) (i := i) (by omega), Sx.take_step (ls := gs) (i := i) (by omega), ← Int.add_assoc, ← Int.add_assoc]
        rfl
      · rw [Sx.build_succ]
        have kp : Kp H7 (upd (upd H7 T' (.tup [.int (p0 + (ws.take i).sum), .int (v0 + (gs.take i).sum)])) D (.lst (xs ++ [.ref T']))) := sT.kp.trans (Kp.mut (sT _ _ hD7) rfl)
        have h8 := hx7.kp kp
        refine ⟨by rw [List.length_append, List.length_append, h8.1]; rfl, fun j q' e => ?_⟩
        rcases Nat.lt_or_ge j i with h | h
        · rw [List.getElem?_append_left (by rw [Sx.build_length]; exact h)] at e
          obtain ⟨r, h1, h2⟩ := h8.2 j q' e
          exact ⟨r, by rw [List.getElem?_append_left (by rw [hxl]; exact h)]; exact h1, h2⟩
        · have hj : j = i := by
            have := (List.getElem?_eq_some_iff.mp e).1
            rw [List.length_append, Sx.build_length] at this
            have h1 : j < i + 1 := this
            omega
          subst hj
          rw [List.getElem?_append_right (by rw [Sx.build_length]; exact Nat.le_refl _), Sx.build_length, Nat.sub_self] at e
          obtain rfl := Option.some.inj e
          refine ⟨T', by rw [List.getElem?_append_right (by rw [hxl]; exact Nat.le_refl _), hxl, Nat.sub_self]; rfl, ?_⟩
          rw [upd_ne nTD]
          exact upd_same
    · rintro σ H7 ⟨v5, xs, rfl, hD7, hx7, hW7, hG7, c7, B7⟩
      rw [show (1 + (n : Int)).toNat = n + 1 by omega] at hx7
      have hraw := Sx.raw_build (M := 10 ^ 15) hws hgs hlw' hlg' (by omega) p00 p01 (by decide) (by decide) hv0b
      refine ⟨_, rfl, _, ws, rfl, SqL.of hW7, _, rfl, _, gs, rfl, SqL.of hG7, _, rfl, (show 3 ≤ sizeLine by decide), fun p np => ?_⟩
      have hbd := Sx.bd_build (M := 10 ^ 15) hws hgs hlw' hlg' (by omega) p00 (by omega) (by decide) (by decide) hv0b
      refine q ⟨ws.sum, gs.sum, Sx.build p0 v0 ws gs (n + 1)⟩ p D _ hraw ⟨hbd.1, hbd.2.1, hbd.2.2⟩ ?_ (c7.put (c7.free_ B7 np)) (B7.new np) ⟨upd_same, ⟨xs, Same.new np _ _ hD7, hx7.kp (Same.new np).kp⟩⟩ (B7.ne0 np) nDl
      show ((Sx.build p0 v0 ws gs (n + 1)).length : Int) ≤ most
      rw [Sx.build_length]
      omega
theorem sc_raised : FnScope ["f", "n", "place", "value"] ["f", "n"] (defScope s_raised) := ⟨rfl, rfl, rfl, by decide +kernel, rfl, by decide +kernel, by decide +kernel⟩
set_option maxHeartbeats 4000000 in
theorem ok_raised (T : TX w K mg) : FnOk P w K mg base CX0 10 (He.fAd K ("raised", none)) T.fd_raised ["f", "n"] (sp_raised K) := by
  refine T.F_raised.ok (k := 9) sc_raised (fun vs H Q E h => ?_) (fun cdv A outer s H vs Q E hr h => ⟨_, PSs.nox (by exact (pss_one (ps_ret (pe_make T.mk_Step (ok_Step_init T) (hr.mono (by decide)) rfl T.g_Step T.b_Step_init .nil pass0 (pa_cons (pe_fld (pv 0) rfl) (pa_cons (pe_fld (pv 0) rfl) (pa_cons (pe_lc (own := [("place", 2), ("value", 3)]) (g := gTup K 2 (gCons (gName 2) (gCons (gName 3) gNil))) rfl sc_raised.nd (pi_tup (pe_fld (pv 0) rfl)) (blkOk_by (own := [("place", 2), ("value", 3)]) (N := ["f", "n", "place", "value"]) (sc := defScope s_raised) (by decide +kernel)) (fun _ _ _ _ _ => (pg_tup rfl (pgs_cons (pg_name (i := 2) sc_raised.nd rfl (Or.inl rfl)) (pgs_cons (pg_name (i := 3) sc_raised.nd rfl (Or.inl rfl)) pgs_nil)))) (fun _ _ _ _ _ => pts_nil) (fun _ _ _ _ _ => (pe_tup (pa_cons (pv 2) (pa_cons (pe_op op_add (pv 3) (pv 1)) pa_nil))))) pa_nil))))))), ?_⟩)
  · obtain ⟨v, f, n, z, rfl, _⟩ := h
    rfl
  · obtain ⟨v, f, n, z, rfl, ⟨a, dx, t, rfl, ha, ⟨xs, ht, hx⟩, o⟩, B, hn, hz, q⟩ := h
    have G := o.g
    have hl : xs.length = f.ps.length := hx.1
    have hlen := G.len
    decreasing_trivial
    intro D nD
    refine lc_tup (K := K) (a := t) (xs := xs) (fun i H' => ∃ acc : List V, H' D = some (.lst acc) ∧ PairsX H' acc ((f.ps.take i).map fun q => (q.1, q.2 + z)) ∧ Same H H') ⟨[], upd_same, PairsX.nil, Same.new nD⟩ (fun i H' _ ⟨_, _, _, s⟩ => SqT.of_ (s _ _ ht)) ?_ ?_
    · rintro i y H1 hy ⟨acc, hD, hacc, s1⟩
      obtain ⟨hi, r, rfl, hr⟩ := (hx.same s1).item hy
      have hacl : acc.length = i := by
        rw [hacc.1, List.length_map, List.length_take]
        omega
      refine g_pair hr ?_
      refine iteT (A := _) (B := True) ?_
      decreasing_trivial
      intro t' nt
      have nDt : D ≠ t' := ne_of_none hD nt
      refine ⟨acc, Same.new nt _ _ hD, ?_, acc ++ [.ref t'], upd_same, ?_, (s1.trans (Same.new nt)).put nD⟩
      · rw [hacl]
        exact Nat.lt_of_lt_of_le (show i < 1000 by omega) (by decide)
      rw [List.take_succ_eq_append_getElem hi, List.map_append]
      have k1 : Kp H1 (upd (upd H1 t' (.tup [.int f.ps[i].1, .int (f.ps[i].2 + z)])) D (.lst (acc ++ [.ref t']))) := (Same.new nt).kp.trans (Kp.mut (Same.new nt _ _ hD) rfl)
      refine (hacc.kp k1).push (q := (f.ps[i].1, f.ps[i].2 + z)) ?_
      rw [upd_ne (Ne.symm nDt)]
      exact upd_same
    · rintro H1 ⟨acc, hD, hacc, s1⟩
      rw [hl, List.take_length] at hacc
      decreasing_trivial
      intro x dx' nx nd _
      have hraw := Sx.raise_raw o (n := z) (nat_pow_mono hz (by omega)) B (by omega)
      refine ⟨x, dx', D, Sx.raise1 f z, rfl, upd_same, ⟨acc, ((Same.new nd).put nx) _ _ hD, hacc.same ((Same.new nd).put nx)⟩, hraw, fun t' g H4 s4 hok hev2 hbd2 hpt => ⟨rfl, ?_⟩⟩
      obtain ⟨H5, e5, u5, hst⟩ := made_step nx nd s4 hok hpt
      rw [e5]
      exact q _ g H5 (s1.trans u5) hst (fun x => by rw [hev2, Sx.raise_ev o hraw]) (hbd2 _ (Sx.raise_bd B hz))
theorem sc_grain_parts : FnScope ["text", "row", "mark", "start", "words", "word"] ["text"] (defScope s_grain_parts) := ⟨rfl, rfl, rfl, by decide +kernel, rfl, by decide +kernel, by decide +kernel⟩
set_option maxHeartbeats 4000000 in
theorem ok_grain_parts (T : TX w K mg) : FnOk P w K mg base CX0 10 (He.fAd K ("grain_parts", none)) T.fd_grain_parts ["text"] (sp_grain_parts K) := by
  refine T.F_grain_parts.ok (k := 9) sc_grain_parts (fun vs H Q E h => ?_) (fun cdv A outer s H vs Q E hr h => ⟨_, PSs.nox (by exact (pss_cons (ps_asg (pe_m1 PySem.F.slot_str_partition PySem.F.type_str_partition mt_partS (pv 0) (pe_strS (l := [64]) (by decide +kernel))) (pg_tup rfl (pgs_cons (pg_name (i := 1) sc_grain_parts.nd rfl (Or.inl rfl)) (pgs_cons (pg_name (i := 2) sc_grain_parts.nd rfl (Or.inl rfl)) (pgs_cons (pg_name (i := 3) sc_grain_parts.nd rfl (Or.inl rfl)) pgs_nil)))))
      (pss_cons (ps_set (i := 4) sc_grain_parts.nd rfl (Or.inl rfl) (pe_m1 PySem.F.slot_str_split PySem.F.type_str_split mt_splitS (pv 1) (pe_strS (l := [43]) (by decide +kernel))))
      (pss_cons (ps_if (pt_cut (PW.pt (pw_or (pt_cmpR op_eqS (pv 2) (pe_strS (l := []) (by decide +kernel)) (nomark _)) (pw_or1 (pt_not (pt_val (pe_call (ok_is_written T) (hr.mono (by decide)) rfl T.g_is_written T.F_is_written.kp T.b_is_written .nil pass0 (pa_cons (pv 3) pa_nil)))))))) (pss_one (ps_ret pe_non)) pss_nil)
      (pss_cons (ps_for PassesOwn.never rfl (pi_list (pv 4)) (pg_name (i := 5) sc_grain_parts.nd rfl (Or.inl rfl))
      (pss_one (ps_if (pt_not (pt_val (pe_call (ok_is_written T) (hr.mono (by decide)) rfl T.g_is_written T.F_is_written.kp T.b_is_written .nil pass0 (pa_cons (pv 5) pa_nil)))) (pss_one (ps_ret pe_non)) pss_nil)))
      (pss_one (ps_ret (pe_tup (pa_cons (pe_lc (own := [("word", 5)]) rfl sc_grain_parts.nd (pi_list (pv 4)) (blkOk_by (own := [("word", 5)]) (N := ["text", "row", "mark", "start", "words", "word"]) (sc := defScope s_grain_parts) (by decide +kernel)) (fun _ _ _ _ _ => (pg_name (i := 5) sc_grain_parts.nd rfl (Or.inl rfl))) (fun _ _ _ _ _ => pts_nil) (fun _ _ _ _ _ => (pe_callTy call_intS (by rfl) T.f_int (by decide +kernel) (pa_cons (pv 5) pa_nil)))) (pa_cons (pe_callTy call_intS (by rfl) T.f_int (by decide +kernel) (pa_cons (pv 3) pa_nil)) pa_nil)))))))))), ?_⟩)
  · obtain ⟨a, rfl, _⟩ := h
    rfl
  · obtain ⟨a, rfl, hl, qn, qs⟩ := h
    have hz : a.length ≤ sizeLine := le_size (by omega)
    decreasing_trivial
    cases hp : TL.par [64] [] a with
    | none =>
      have hpl : (Tx.parL [64] a).1 = a ∧ (Tx.parL [64] a).2.1 = [] ∧ (Tx.parL [64] a).2.2 = [] := by
        unfold Tx.parL
        rw [hp]
        exact ⟨rfl, rfl, rfl⟩
      have hn : partsG a = none := by unfold partsG; rw [hp]
      rw [hpl.1, hpl.2.1, hpl.2.2]
      have hz2 : a.length + 2 ≤ sizeLine := le_size (by omega)
      intro p1 n_p1
      generalize e_H1 : upd _ p1 _ = H1
      have h_p1 := at_new e_H1
      have s_H1 := same_new e_H1 n_p1
      decreasing_trivial
      intro p2 n_p2
      generalize e_H2 : upd _ p2 _ = H2
      have h_p2 := at_new e_H2
      have s_H2 := same_new e_H2 n_p2
      refine ⟨fun b H' => b = true ∧ H2 = H', ?_, ?_⟩
      · decreasing_trivial
        exact rfl
      rintro _ _ ⟨rfl, rfl⟩
      decreasing_trivial
      exact qn hn _ (s_H1.trans s_H2)
    | some pq =>
      obtain ⟨row, st⟩ := pq
      have hpl : (Tx.parL [64] a).1 = row ∧ (Tx.parL [64] a).2.1 = [64] ∧ (Tx.parL [64] a).2.2 = st := by
        unfold Tx.parL
        rw [hp]
        exact ⟨rfl, rfl, rfl⟩
      have hps : partsG a = if Tx.isWr st = true ∧ (TL.spl [43] 0 [] row).all Tx.isWr = true then some ((TL.spl [43] 0 [] row).map Tx.wrV, Tx.wrV st) else none := by unfold partsG; rw [hp]
      have hpt := par_len hp
      rw [List.length_nil, Nat.zero_add] at hpt
      rw [hpl.1, hpl.2.1, hpl.2.2]
      have hzr : row.length ≤ sizeLine := le_size (by omega)
      have hz2 : row.length + 2 ≤ sizeLine := le_size (by omega)
      have hl2 : st.length ≤ 100000 := by omega
      have hws : ∀ w ∈ TL.spl [43] 0 [] row, w.length ≤ 100000 := fun w hw => Nat.le_trans (spl_len hw) (by omega)
      have hwl := spl_many (b := [43]) (k := 0) (acc := []) (a := row)
      intro p1 n_p1
      generalize e_H1 : upd _ p1 _ = H1
      have h_p1 := at_new e_H1
      have s_H1 := same_new e_H1 n_p1
      decreasing_trivial
      generalize hw : TL.spl [43] 0 [] row = ws at *
      intro p2 n_p2
      generalize e_H2 : upd _ p2 _ = H2
      have h_p2 := at_new e_H2
      have s_H2 := same_new e_H2 n_p2
      have s12 := s_H1.trans s_H2
      cases hst : Tx.isWr st with
      | false =>
        rw [hst, if_neg (fun z => Bool.false_ne_true z.1)] at hps
        refine ⟨fun b H' => b = true ∧ H2 = H', ?_, ?_⟩
        · decreasing_trivial
          rw [hst]
          decreasing_trivial
          exact rfl
        rintro _ _ ⟨rfl, rfl⟩
        decreasing_trivial
        exact qn hps _ s12
      | true =>
        obtain ⟨wi, wl, wv⟩ := wr_parts hst
        have h640 : st.length ≤ 640 := by omega
        refine ⟨fun b H' => b = false ∧ H2 = H', ?_, ?_⟩
        · decreasing_trivial
          rw [hst]
          decreasing_trivial
          exact rfl
        rintro _ _ ⟨rfl, rfl⟩
        have hS : SqL K H2 p2 (ws.map fun l => V.str (SX.S l)) := SqL.of h_p2
        have hmap : (ws.map fun l => V.str (SX.S l)).length = ws.length := List.length_map _
        decreasing_trivial
        refine for_list (K := K) (a := p2) (xs := ws.map fun l => V.str (SX.S l)) (fun i σ H' => ∃ v5 : Option V, σ = [some (.str (SX.S a)), some (.str (SX.S row)), some (.str (SX.S [64])), some (.str (SX.S st)), some (.ref p2), v5] ∧ H2 = H' ∧ ∀ (j : Nat) (w : List Nat), j < i → ws[j]? = some w → Tx.isWr w = true) ⟨none, rfl, rfl, fun j w hj => absurd hj (Nat.not_lt_zero j)⟩ (fun i σ H' _ ⟨_, _, e, _⟩ => by rw [← e]; exact hS) ?_ ?_
        · rintro i x σ _ hx ⟨v5, rfl, rfl, hall⟩
          rw [List.getElem?_map] at hx
          cases hn : ws[i]? with
          | none => rw [hn] at hx; cases hx
          | some w =>
            rw [hn] at hx
            cases hx
            have hwl1 := hws w (List.mem_of_getElem? hn)
            decreasing_trivial
            cases hww : Tx.isWr w with
            | false =>
              rw [if_neg (fun z => by
                have := List.all_eq_true.mp z.2 w (List.mem_of_getElem? hn)
                rw [hww] at this
                cases this)] at hps
              decreasing_trivial
              exact qn hps _ s12
            | true =>
              decreasing_trivial
              refine ⟨_, rfl, rfl, fun j w' hj hj2 => ?_⟩
              by_cases e2 : j = i
              · subst e2
                rw [hn] at hj2
                cases hj2
                exact hww
              · exact hall j w' (by omega) hj2
        · rintro σ _ ⟨v5, rfl, rfl, hall⟩
          rw [hmap] at hall
          have hall2 : ∀ w ∈ ws, Tx.isWr w = true := fun w hw' => by
            obtain ⟨j, hj, rfl⟩ := List.getElem_of_mem hw'
            exact hall j _ hj (List.getElem?_eq_getElem hj)
          rw [hst, if_pos ⟨rfl, List.all_eq_true.mpr hall2⟩] at hps
          decreasing_trivial
          intro D nD
          refine lc_list (K := K) (a := p2) (xs := ws.map fun l => V.str (SX.S l)) (fun i H' => H' D = some (.lst (((ws.take i).map Tx.wrV).map V.int)) ∧ Same H2 H') ⟨upd_same, Same.new nD⟩ (fun i H' _ ⟨_, s⟩ => SqL.of (s _ _ h_p2)) ?_ ?_
          · rintro i x H3 hx ⟨hD, s3⟩
            rw [List.getElem?_map] at hx
            cases hn : ws[i]? with
            | none => rw [hn] at hx; cases hx
            | some w =>
              rw [hn] at hx
              cases hx
              have hi : i < ws.length := (List.getElem?_eq_some_iff.mp hn).1
              obtain ⟨xi, xl, xv⟩ := wr_parts (hall2 w (List.mem_of_getElem? hn))
              have x640 : w.length ≤ 640 := by omega
              refine ⟨(by ((repeat (first | (with_reducible refine wipe_l (by decide) ?_) | (with_reducible refine wipe_lw (by decide) ?_) | (with_reducible refine wipe_r (by decide) ?_) | (with_reducible refine wipe_rw (by decide) ?_))); exact rfl)), ?_⟩
              refine iteT (A := _) (B := True) ?_
              have hsz : (((ws.take i).map Tx.wrV).map V.int).length < sizeLine := lt_size (by rw [List.length_map, List.length_map, List.length_take]; omega)
              decreasing_trivial
              refine ⟨?_, s3.put nD⟩
              rw [upd_same, List.take_add_one, List.map_append, List.map_append, hn]
              rfl
          · rintro H3 ⟨hD, s3⟩
            rw [hmap, List.take_of_length_le (Nat.le_refl _)] at hD
            decreasing_trivial
            intro p4 n_p4
            generalize e_H4 : upd _ p4 _ = H4
            have h_p4 := at_new e_H4
            have s_H4 := same_new e_H4 n_p4
            decreasing_trivial
            exact qs _ _ hps _ _ _ ((s12.trans s3).trans s_H4) h_p4 (s_H4 _ _ hD)
theorem sc_read_step : FnScope ["text", "numbers", "words", "place", "word", "parts", "part", "pair"] ["text"] (defScope s_read_step) := ⟨rfl, rfl, rfl, by decide +kernel, rfl, by decide +kernel, by decide +kernel⟩
set_option maxHeartbeats 4000000 in
theorem ok_read_step (T : TX w K mg) : FnOk P w K mg base CX0 10 (He.fAd K ("read_step", none)) T.fd_read_step ["text"] (sp_read_step K) := by
  refine T.F_read_step.ok (k := 9) sc_read_step (fun vs H Q E h => ?_) (fun cdv A outer s H vs Q E hr h => ⟨_, PSs.nox (by exact (pss_cons (ps_expr (pe_call (ok_look_string T) (hr.mono (by decide)) rfl T.g_look_string T.F_look_string.kp T.b_look_string .nil passF (pa_cons (pv 0) pa_nil)))
      (pss_cons (ps_set (i := 1) sc_read_step.nd rfl (Or.inl rfl) (pe_lst pa_nil))
      (pss_cons (ps_set (i := 2) sc_read_step.nd rfl (Or.inl rfl) (pe_m1 PySem.F.slot_str_split PySem.F.type_str_split mt_splitS (pv 0) (pe_strS (l := [32]) (by decide +kernel))))
      (pss_cons (ps_for PassesOwn.never rfl (pi_enum (by rfl) T.f_enumerate (pa_cons (pv 2) pa_nil)) (pg_tup rfl (pgs_cons (pg_name (i := 3) sc_read_step.nd rfl (Or.inl rfl)) (pgs_cons (pg_name (i := 4) sc_read_step.nd rfl (Or.inl rfl)) pgs_nil)))
      (pss_cons (ps_set (i := 5) sc_read_step.nd rfl (Or.inl rfl) (pe_cut (pe_ifExp (pt_cmpR op_lt (pv 3) pe_int (nomark _)) (pe_lst (pa_cons (pv 4) pa_nil)) (pe_m1 PySem.F.slot_str_split PySem.F.type_str_split mt_splitS (pv 4) (pe_strS (l := [58]) (by decide +kernel))))))
      (pss_cons (ps_if (pt_cmpR op_ne (pe_callB call_len (by rfl) T.f_len PySem.boot_len (pa_cons (pv 5) pa_nil)) (pe_cut (pe_ifExp (pt_cmpR op_lt (pv 3) pe_int (nomark _)) pe_int pe_int)) (nomark _)) (pss_one ps_never) pss_nil)
      (pss_cons (ps_for PassesOwn.never rfl (pi_list (pv 5)) (pg_name (i := 6) sc_read_step.nd rfl (Or.inl rfl))
      (pss_one (ps_if (pt_not (pt_val (pe_call (ok_is_written T) (hr.mono (by decide)) rfl T.g_is_written T.F_is_written.kp T.b_is_written .nil pass0 (pa_cons (pv 6) pa_nil)))) (pss_one ps_never) pss_nil)))
      (pss_one (ps_expr (pe_bm PySem.F.plainAttrs_list PySem.F.slot_list_append PySem.F.type_list_append mt_append (pv 1) (pa_cons (pe_lc (own := [("part", 6)]) rfl sc_read_step.nd (pi_list (pv 5)) (blkOk_by (own := [("part", 6)]) (N := ["text", "numbers", "words", "place", "word", "parts", "part", "pair"]) (sc := defScope s_read_step) (by decide +kernel)) (fun _ _ _ _ _ => (pg_name (i := 6) sc_read_step.nd rfl (Or.inl rfl))) (fun _ _ _ _ _ => pts_nil) (fun _ _ _ _ _ => (pe_callTy call_intS (by rfl) T.f_int (by decide +kernel) (pa_cons (pv 6) pa_nil)))) pa_nil))))))))
      (pss_cons (ps_if (pt_cmpR op_lt (pe_callB call_len (by rfl) T.f_len PySem.boot_len (pa_cons (pv 2) pa_nil)) pe_int (nomark _)) (pss_one ps_never) pss_nil)
      (pss_one (ps_ret (pe_make T.mk_Step (ok_Step_init T) (hr.mono (by decide)) rfl T.g_Step T.b_Step_init .nil pass0 (pa_cons (pe_ix ix_list (pe_ix ix_list (pv 1) pe_int (fun _ _ => rfl)) pe_int (fun _ _ => rfl)) (pa_cons (pe_ix ix_list (pe_ix ix_list (pv 1) pe_int (fun _ _ => rfl)) pe_int (fun _ _ => rfl)) (pa_cons (pe_lc (own := [("pair", 7)]) rfl sc_read_step.nd (pi_list (pe_slice sl_list (pv 1) (po_some pe_int) po_none)) (blkOk_by (own := [("pair", 7)]) (N := ["text", "numbers", "words", "place", "word", "parts", "part", "pair"]) (sc := defScope s_read_step) (by decide +kernel)) (fun _ _ _ _ _ => (pg_name (i := 7) sc_read_step.nd rfl (Or.inl rfl))) (fun _ _ _ _ _ => pts_nil) (fun _ _ _ _ _ => (pe_callTy (show CallR _ _ (rTupOf K) from call_tuple_of) (by rfl) T.f_tuple (by decide +kernel) (pa_cons (pv 7) pa_nil)))) pa_nil)))))))))))), ?_⟩)
  · obtain ⟨f, rfl, _⟩ := h
    rfl
  · obtain ⟨f, rfl, R, B, q⟩ := h
    have hlen := sTxt_len B R.len
    have hz : (sTxt f).length ≤ sizeLine := le_size (by omega)
    have hz2 : (sTxt f).length + 2 ≤ sizeLine := le_size (by omega)
    decreasing_trivial
    intro N n_N
    generalize e_H1 : upd _ N _ = H1
    have h_N := at_new e_H1
    have s_H1 := same_new e_H1 n_N
    decreasing_trivial
    rw [sTxt_split, words_nums]
    intro W n_W
    generalize e_H2 : upd _ W _ = H2
    have h_W := at_new e_H2
    have s_H2 := same_new e_H2 n_W
    have hnl : (numsOf f).length = f.ps.length + 2 := by unfold numsOf; rw [List.length_cons, List.length_cons, List.length_map]
    have hmap : (((numsOf f).map wordOf).map fun l => V.str (SX.S l)).length = f.ps.length + 2 := by rw [List.length_map, List.length_map, hnl]
    have hps := R.ne
    have hps2 := R.len
    have hN2 := s_H2 _ _ h_N
    have nWN : W ≠ N := fun e => by rw [e, h_N] at n_W; cases n_W
    have nN : H N = none := n_N
    have s12 := s_H1.trans s_H2
    have hS : SqL K H2 W (((numsOf f).map wordOf).map fun l => V.str (SX.S l)) := SqL.of h_W
    decreasing_trivial
    refine for_enum (K := K) (a := W) (xs := ((numsOf f).map wordOf).map fun l => V.str (SX.S l)) (fun i σ H' => ∃ (v3 v4 v5 v6 : Option V) (ns : List V), σ = [some (.str (SX.S (sTxt f))), some (.ref N), some (.ref W), v3, v4, v5, v6, none] ∧ H' N = some (.lst ns) ∧ NumsR N H' ns ((numsOf f).take i) ∧ But N H2 H' ∧ Same H H') ⟨none, none, none, none, [], rfl, hN2, NumsR.nil, But.refl _ _, s12⟩ (fun i σ H' _ ⟨_, _, _, _, _, _, _, _, c, _⟩ => SqL.of (c _ _ h_W nWN)) ?_ ?_
    · rintro i x σ H3 T' hx ⟨v3, v4, v5, v6, ns, rfl, hN3, hR3, c3, s3⟩ nT
      rw [List.getElem?_map, List.getElem?_map] at hx
      cases hn : (numsOf f)[i]? with
      | none => rw [hn] at hx; cases hx
      | some r =>
      rw [hn] at hx
      cases hx
      obtain ⟨hb, hsh⟩ := nums_at B hn
      have hi : i < f.ps.length + 2 := by rw [← hnl]; exact (List.getElem?_eq_some_iff.mp hn).1
      have hrn : r ≠ [] := by rcases hsh with ⟨_, z, rfl⟩ | ⟨_, z, y, rfl⟩ <;> exact List.cons_ne_nil _ _
      have hrl : r.length ≤ 2 := by rcases hsh with ⟨_, z, rfl⟩ | ⟨_, z, y, rfl⟩ <;> simp
      have hwl : (wordOf r).length ≤ 200 := by
        have h1 := len_joinL (sep := [58]) (r.map Tx.intL)
        have h2 := joinL_lt (sep := [58]) (ys := r.map Tx.intL) (m := 31) (fun y hy => by
          obtain ⟨z, hz, rfl⟩ := List.mem_map.mp hy
          exact intL_lt (k := 30) (by decide) (bd96 (hb z hz)))
        rw [List.length_map, List.length_singleton] at h1 h2
        show (TL.joinL [58] (r.map Tx.intL)).length ≤ 200
        omega
      have hws : (wordOf r).length + 2 ≤ sizeLine := le_size (by omega)
      have sT := Same.new (o := .tup [.int (i : Nat), .str (SX.S (wordOf r))]) nT
      have hT3 : (upd H3 T' (.tup [.int (i : Nat), .str (SX.S (wordOf r))])) N = some (.lst ns) := sT _ _ hN3
      refine g_pair upd_same ?_
      generalize e_H4 : upd H3 T' (.tup [.int (i : Nat), .str (SX.S (wordOf r))]) = H4 at *
      refine ⟨fun v H' => ∃ p, v = .ref p ∧ H' p = some (.lst ((r.map Tx.intL).map fun l => V.str (SX.S l))) ∧ Same H4 H', ?_, ?_⟩
      · decreasing_trivial
        rcases hsh with ⟨hi2, z, rfl⟩ | ⟨hi2, z, y, rfl⟩
        · refine iteDY (by omega) ?_
          decreasing_trivial
          intro p5 n_p5
          generalize e_H5 : upd _ p5 _ = H5
          have h_p5 := at_new e_H5
          have s_H5 := same_new e_H5 n_p5
          exact ⟨p5, rfl, h_p5, s_H5⟩
        · refine iteDN (by omega) ?_
          decreasing_trivial
          rw [word_split hrn]
          intro p5 n_p5
          generalize e_H5 : upd _ p5 _ = H5
          have h_p5 := at_new e_H5
          have s_H5 := same_new e_H5 n_p5
          exact ⟨p5, rfl, h_p5, s_H5⟩
      rintro _ H5 ⟨p5, rfl, h5, s5⟩
      have hS5 : SqL K H5 p5 ((r.map Tx.intL).map fun l => V.str (SX.S l)) := SqL.of h5
      have hm5 : ((r.map Tx.intL).map fun l => V.str (SX.S l)).length = r.length := by rw [List.length_map, List.length_map]
      decreasing_trivial
      refine ⟨fun v H' => v = .int (r.length : Nat) ∧ H5 = H', ?_, ?_⟩
      · decreasing_trivial
        rcases hsh with ⟨hi2, z, rfl⟩ | ⟨hi2, z, y, rfl⟩
        · refine iteDY (by omega) ?_
          exact ⟨rfl, rfl⟩
        · refine iteDN (by omega) ?_
          exact ⟨rfl, rfl⟩
      rintro _ _ ⟨rfl, rfl⟩
      decreasing_trivial
      refine iteNE (congrArg V.int (by rw [hm5])) ?_
      decreasing_trivial
      have hw5 : ∀ z ∈ r, Tx.isWr (Tx.intL z) = true ∧ Tx.wrV (Tx.intL z) = z := fun z hz => Tx.int_wr (bd96 (hb z hz))
      refine for_list (K := K) (a := p5) (xs := (r.map Tx.intL).map fun l => V.str (SX.S l)) (fun j σ H' => ∃ v6 : Option V, σ = [some (.str (SX.S (sTxt f))), some (.ref N), some (.ref W), some (.int (i : Nat)), some (.str (SX.S (wordOf r))), some (.ref p5), v6, none] ∧ H5 = H') ⟨_, rfl, rfl⟩ (fun j σ H' _ ⟨_, _, e⟩ => by rw [← e]; exact hS5) ?_ ?_
      · rintro j x σ _ hx ⟨v6, rfl, rfl⟩
        rw [List.getElem?_map, List.getElem?_map] at hx
        cases hz : r[j]? with
        | none => rw [hz] at hx; cases hx
        | some z =>
          rw [hz] at hx
          cases hx
          have hzb := hb z (List.mem_of_getElem? hz)
          have hzw := (hw5 z (List.mem_of_getElem? hz)).1
          have hzl : (Tx.intL z).length ≤ 100000 := Nat.le_trans (intL_lt (k := 30) (by decide) (bd96 hzb)) (by decide)
          decreasing_trivial
          rw [hzw]
          decreasing_trivial
          exact ⟨_, rfl, rfl⟩
      · rintro σ _ ⟨v6, rfl, rfl⟩
        have hN5 := s5 _ _ hT3
        decreasing_trivial
        intro D nD
        have nDN : D ≠ N := fun e => by rw [e, hN5] at nD; cases nD
        refine lc_list (K := K) (a := p5) (xs := (r.map Tx.intL).map fun l => V.str (SX.S l)) (fun j H' => H' D = some (.lst ((r.take j).map V.int)) ∧ Same H5 H') ⟨upd_same, Same.new nD⟩ (fun j H' _ ⟨_, s⟩ => SqL.of (s _ _ h5)) ?_ ?_
        · rintro j x H6 hx ⟨hD, s6⟩
          rw [List.getElem?_map, List.getElem?_map] at hx
          cases hz : r[j]? with
          | none => rw [hz] at hx; cases hx
          | some z =>
            rw [hz] at hx
            cases hx
            have hzb := hb z (List.mem_of_getElem? hz)
            obtain ⟨hzw, hzv⟩ := hw5 z (List.mem_of_getElem? hz)
            obtain ⟨xi, xl, xv⟩ := wr_parts hzw
            rw [hzv] at xi
            have x640 : (Tx.intL z).length ≤ 640 := by omega
            refine ⟨(by ((repeat (first | (with_reducible refine wipe_l (by decide) ?_) | (with_reducible refine wipe_lw (by decide) ?_) | (with_reducible refine wipe_r (by decide) ?_) | (with_reducible refine wipe_rw (by decide) ?_))); exact rfl)), ?_⟩
            refine iteT (A := _) (B := True) ?_
            have hsz : ((r.take j).map V.int).length < sizeLine := lt_size (by rw [List.length_map, List.length_take]; omega)
            decreasing_trivial
            refine ⟨?_, s6.put nD⟩
            rw [upd_same, List.take_add_one, List.map_append, hz]
            rfl
        · rintro H6 ⟨hD, s6⟩
          rw [hm5, List.take_of_length_le (Nat.le_refl _)] at hD
          have hN6 := s6 _ _ hN5
          have hR6 := ((hR3.same sT).same s5).same s6
          have s46 := s5.trans s6
          have hsz : ns.length < sizeLine := lt_size (by rw [hR3.1, List.length_take]; omega)
          decreasing_trivial
          refine ⟨_, _, _, _, _, rfl, upd_same, ?_, ?_, ?_⟩
          · rw [List.take_add_one, hn]
            exact (hR6.push nDN hD).but But.upd
          · exact (c3.trans ((sT.trans s46).but)).trans But.upd
          · exact (s3.trans (sT.trans s46)).put nN
    · rintro σ H3 ⟨v3, v4, v5, v6, ns, rfl, hN3, hR3, c3, s3⟩
      rw [hmap, List.take_of_length_le (by rw [hnl]; exact Nat.le_refl _)] at hR3
      have hW3 : SqL K H3 W (((numsOf f).map wordOf).map fun l => V.str (SX.S l)) := SqL.of (c3 _ _ h_W nWN)
      have hS3 : SqL K H3 N ns := SqL.of hN3
      obtain ⟨a0, e0, _, g0⟩ := hR3.2 0 [f.P] rfl
      obtain ⟨a1, e1, _, g1⟩ := hR3.2 1 [f.R] rfl
      have at0 : atI ns 0 = some (.ref a0) := atI_pos (by decide) e0
      have at1 : atI ns 1 = some (.ref a1) := atI_pos (by decide) e1
      have S0 : SqL K H3 a0 [V.int f.P] := SqL.of g0
      have S1 : SqL K H3 a1 [V.int f.R] := SqL.of g1
      decreasing_trivial
      refine iteDN (by rw [hmap]; omega) ?_
      decreasing_trivial
      have hnsl : ns.length = f.ps.length + 2 := by rw [hR3.1, hnl]
      intro p7 n_p7
      generalize e_H7 : upd _ p7 _ = H7
      have h_p7 := at_new e_H7
      have s_H7 := same_new e_H7 n_p7
      rw [show cutV ns (some 2) none = ns.drop 2 from cutV_from' ns 2] at h_p7
      have hR7 := hR3.same s_H7
      have hS7 : SqL K H7 p7 (ns.drop 2) := SqL.of h_p7
      have hdl : (ns.drop 2).length = f.ps.length := by rw [List.length_drop, hnsl]; omega
      refine ⟨_, rfl, ⟨_, hS7⟩, ?_⟩
      intro D nD
      refine lc_list (K := K) (a := p7) (xs := ns.drop 2) (fun i H' => ∃ acc, H' D = some (.lst acc) ∧ PairsX H' acc (f.ps.take i) ∧ Same H7 H') ⟨[], upd_same, PairsX.nil, Same.new nD⟩ (fun i H' _ ⟨_, _, _, s⟩ => SqL.of (s _ _ h_p7)) ?_ ?_
      · rintro i x H8 hx ⟨acc, hD, hP, s8⟩
        have hi : i < f.ps.length := by rw [← hdl]; exact (List.getElem?_eq_some_iff.mp hx).1
        rw [List.getElem?_drop] at hx
        obtain ⟨b, eb, nb, gb⟩ := (hR7.same s8).2 (2 + i) [(f.ps[i]).1, (f.ps[i]).2] (by
          show (numsOf f)[2 + i]? = _
          unfold numsOf
          rw [show 2 + i = i + 1 + 1 by omega, List.getElem?_cons_succ, List.getElem?_cons_succ, List.getElem?_map, List.getElem?_eq_getElem hi]
          rfl)
        rw [eb] at hx
        cases hx
        have Sb : SqL K H8 b [V.int (f.ps[i]).1, V.int (f.ps[i]).2] := SqL.of gb
        refine ⟨(by ((repeat (first | (with_reducible refine wipe_l (by decide) ?_) | (with_reducible refine wipe_lw (by decide) ?_) | (with_reducible refine wipe_r (by decide) ?_) | (with_reducible refine wipe_rw (by decide) ?_))); exact rfl)), ?_⟩
        refine iteT (A := _) (B := True) ?_
        have hsz : acc.length < sizeLine := lt_size (by rw [hP.1, List.length_take]; omega)
        decreasing_trivial
        refine .inl ⟨Sb, ?_⟩
        intro t' nt
        have nDt : D ≠ t' := ne_of_none hD nt
        refine ⟨acc, Same.new nt _ _ hD, hsz, acc ++ [.ref t'], upd_same, ?_, (s8.trans (Same.new nt)).put nD⟩
        rw [List.take_succ_eq_append_getElem hi]
        have k1 := fun o => (Same.new (o := o) nt).kp.trans (Kp.mut (Same.new nt _ _ hD) rfl (o := .lst (acc ++ [.ref t'])))
        exact (hP.kp (k1 _)).push (by rw [upd_ne (Ne.symm nDt), upd_same])
      · rintro H8 ⟨acc, hD, hP, s8⟩
        rw [hdl, List.take_of_length_le (Nat.le_refl _)] at hP
        decreasing_trivial
        exact step_new ⟨_, hD, hP⟩ R fun x g H9 s9 hg ev bd => q _ _ _ ((s3.trans (s_H7.trans s8)).trans s9) hg ev bd
theorem sc_Step_add : FnScope ["self", "other"] ["self", "other"] (defScope s_Step_add) := ⟨rfl, rfl, rfl, by decide +kernel, rfl, by decide +kernel, by decide +kernel⟩
set_option maxHeartbeats 4000000 in
theorem ok_Step_add (T : TX w K mg) : FnOk P w K mg base CX0 13 (He.fAd K ("Step", some "__add__")) T.fd_Step_add ["self", "other"] (sp_Step_add K) := by
  refine T.F_Step_add.ok (k := 12) sc_Step_add (fun vs H Q E h => ?_) (fun cdv A outer s H vs Q E hr h => ⟨_, PSs.nox (by exact (pss_cons (ps_if (pt_not (pt_val (pe_call (ok_is_integer T) (hr.mono (by decide)) rfl T.g_is_integer T.F_is_integer.kp T.b_is_integer .nil pass0 (pa_cons (pv 1) pa_nil)))) (pss_one ps_never) pss_nil)
      (pss_one (ps_ret (pe_call (ok_raised T) (hr.mono (by decide)) rfl T.g_raised T.F_raised.kp T.b_raised .nil pass0 (pa_cons (pv 0) (pa_cons (pv 1) pa_nil))))))), ?_⟩)
  · obtain ⟨v, f, n, z, rfl, _⟩ := h
    rfl
  · obtain ⟨v, f, n, z, rfl, hs, B, hn, hz, q⟩ := h
    refine ⟨_, rfl, z, rfl, true, rfl, iteF ?_⟩
    exact ⟨_, rfl, _, rfl, v, f, n, z, rfl, hs, B, hn, hz, q⟩
theorem sc_read_grain : FnScope ["text", "parts", "lengths", "start"] ["text"] (defScope s_read_grain) := ⟨rfl, rfl, rfl, by decide +kernel, rfl, by decide +kernel, by decide +kernel⟩
set_option maxHeartbeats 4000000 in
theorem ok_read_grain (T : TX w K mg) : FnOk P w K mg base CX0 13 (He.fAd K ("read_grain", none)) T.fd_read_grain ["text"] (sp_read_grain K) := by
  refine T.F_read_grain.ok (k := 12) sc_read_grain (fun vs H Q E h => ?_) (fun cdv A outer s H vs Q E hr h => ⟨_, PSs.nox (by exact (pss_cons (ps_expr (pe_call (ok_look_string T) (hr.mono (by decide)) rfl T.g_look_string T.F_look_string.kp T.b_look_string .nil passF (pa_cons (pv 0) pa_nil)))
      (pss_cons (ps_set (i := 1) sc_read_grain.nd rfl (Or.inl rfl) (pe_call (ok_grain_parts T) (hr.mono (by decide)) rfl T.g_grain_parts T.F_grain_parts.kp T.b_grain_parts .nil pass0 (pa_cons (pv 0) pa_nil)))
      (pss_cons (ps_if (pt_cmpR op_isN (pv 1) pe_non (nomark _)) (pss_one ps_never) pss_nil)
      (pss_cons (ps_asg (pv 1) (pg_tup rfl (pgs_cons (pg_name (i := 2) sc_read_grain.nd rfl (Or.inl rfl)) (pgs_cons (pg_name (i := 3) sc_read_grain.nd rfl (Or.inl rfl)) pgs_nil))))
      (pss_one (ps_ret (pe_makeSKS T.mk_Grain (ok_Grain_init T) (hr.mono (by decide)) rfl T.g_Grain (passAll pass0) (pv 2) (pv 3))))))))), ?_⟩)
  · obtain ⟨ls, st, rfl, _⟩ := h
    rfl
  · obtain ⟨ls, st, rfl, hr0, hst, q⟩ := h
    have hb := row_small hr0
    have hlen := gTxt_len hr0.len hb hst
    have hpt := parts_txt hr0.ne hb hst
    have hl9 : (gTxt ls st).length ≤ 90000 := by omega
    decreasing_trivial
    refine ⟨fun e => by (rw [hpt] at e; cases e), fun ls' st' e p1 p2 H1 s1 h1 h2 => ?_⟩
    rw [hpt] at e
    injection e with e
    injection e with e1 e2
    subst e1
    subst e2
    have hne : (ls.map V.int) ≠ [] := fun z => hr0.ne (by cases ls with | nil => rfl | cons _ _ => cases z)
    have hls : (ls.map V.int).length ≤ sizeLine := le_size (by rw [List.length_map]; have := hr0.len; omega)
    decreasing_trivial
    exact ⟨.inr (SqL.of h2), hne, hls, grain_new hr0 rfl fun x H2 s2 hg => q _ _ (s1.trans s2) hg⟩
end
end K81

namespace K81
open PySem PySem.Spec PyProof.Rows L2
set_option hygiene false in
local macro_rules | `(tactic| decreasing_trivial) => `(tactic| (repeat ((fail_if_success (with_reducible intro _)); first | (apply And.intro; case left => first | ((fail_if_success (with_reducible intro _)); first | (with_reducible refine le62 ?_; omega) | (with_reducible refine lt62 ?_; omega) | (with_reducible refine gs_eq ?_; first | (simp only [List.length_set, wipe_length, List.length_cons, List.length_nil]; decide) | decide) | ((first | (with_reducible refine gs_ne (by decide) ?_) | (with_reducible refine gs_wipe (by decide) ?_)); (repeat (first | (with_reducible refine gs_ne (by decide) ?_) | (with_reducible refine gs_wipe (by decide) ?_))); first | (with_reducible refine gs_eq ?_; simp only [List.length_set, wipe_length, List.length_cons, List.length_nil]; decide) | (with_reducible refine gs_eq ?_; decide) | exact rfl) | exact rfl | assumption | (rw [upd_same]) | exact SqL.of (by assumption) | exact SqT.of_ (by assumption) | exact (show Cls _ _ by first | exact T.cl_Grain | exact T.cl_Step) | exact (show NoAttr _ _ _ by first | exact T.n_Grain_lengths | exact T.n_Grain_start | exact T.n_Step_period | exact T.n_Step_rise | exact T.n_Step_steps) | exact (show PySem.W.kitOne _ _ _ = some _ by first | exact T.k_Step | exact T.k_Grain | exact T.k_int_int | exact T.k_int_bool | exact T.k_tup_tup | exact T.k_str_str) | exact (show PySem.W.kitAny _ _ _ = some _ by first | exact T.ka_list | exact T.ka_tuple) | exact BagAt.new (by assumption) (by assumption) | exact .own _ | exact .ty _ | exact (show TyX _ _ _ _ by first | exact .base (.int _) | exact .base (.bl _) | exact .base (.str _) | exact .base .non | exact tyx_own (by assumption) T.cl_Grain T.ty_Grain | exact tyx_own (by assumption) T.cl_Step T.ty_Step) | exact (show LenV _ _ _ _ by first | exact Or.inl ⟨_, SqL.of (by assumption), rfl⟩ | exact Or.inr ⟨_, SqT.of_ (by assumption), rfl⟩ | exact Or.inl ⟨_, (by assumption), rfl⟩ | exact Or.inr ⟨_, (by assumption), rfl⟩) | (with_reducible refine le_size ?_; first | omega | (simp only [List.length_append, List.length_map, List.length_range, List.length_take, List.length_drop, List.length_cons, List.length_nil, List.length_set, List.length_replicate] at *; omega)) | (with_reducible refine lt_size ?_; first | omega | (simp only [List.length_append, List.length_map, List.length_range, List.length_take, List.length_drop, List.length_cons, List.length_nil, List.length_set, List.length_replicate] at *; omega)) | exact (show SqL _ _ _ _ ∨ SqT _ _ _ _ by first | exact Or.inl (SqL.of (by assumption)) | exact Or.inr (SqT.of_ (by assumption))) | exact (show _ ≤ sizeLine by first | exact (show 0 ≤ sizeLine by decide) | exact (show 1 ≤ sizeLine by decide) | exact (show 2 ≤ sizeLine by decide) | exact (show 3 ≤ sizeLine by decide) | exact (show 4 ≤ sizeLine by decide) | exact (show 5 ≤ sizeLine by decide) | exact (show 6 ≤ sizeLine by decide) | exact (show 7 ≤ sizeLine by decide) | exact (show 8 ≤ sizeLine by decide) | exact (show 9 ≤ sizeLine by decide) | exact (show 10 ≤ sizeLine by decide) | exact (show 11 ≤ sizeLine by decide) | exact (show 12 ≤ sizeLine by decide)) | exact ⟨_, SqL.of (by assumption)⟩ | exact ⟨_, SqT.of_ (by assumption)⟩ | exact Or.inl ⟨rfl, _, SqL.of (by assumption)⟩ | exact Or.inr ⟨_, _, (by assumption)⟩ | (with_reducible refine idLtI ?_; omega) | (with_reducible refine idLeI ?_; omega) | (with_reducible refine idLtN ?_; omega) | (with_reducible refine idLeN ?_; omega) | (with_reducible refine idNeI ?_; omega) | (with_reducible refine idEqI ?_; omega) | (with_reducible refine idEqN ?_; omega) | (with_reducible refine idNot ?_; omega) | (with_reducible refine idR4 ?_; omega) | exact (show 0 < List.length (_ :: _) from Nat.zero_lt_succ _) | exact (show List.length (_ :: _) < 100 from (by simp only [List.length_cons, List.length_nil]; decide)) | (with_reducible refine lgi9 ?_ ?_ <;> omega) | (with_reducible refine lgi19 ?_ ?_ <;> omega) | exact (show CDivW _ _ from ⟨by omega, by decide⟩) | exact (show CPow _ _ from ⟨by decide, by decide, by decide⟩) | exact (show CMulW _ _ from mulW 64 64 (lt64 (by omega) (by omega)) (lt64 (by omega) (by omega))) | decide | exact (show ∃ a, V.str _ = V.str a from ⟨_, rfl⟩) | exact SqL.of (by rw [upd_same]) | exact SqT.of_ (by rw [upd_same]) | exact (show TyX _ _ _ _ by first | exact .base (.int _) | exact .base (.bl _) | exact .base (.str _) | exact .base .non | exact tyx_own (by rw [upd_same]) T.cl_Grain T.ty_Grain | exact tyx_own (by rw [upd_same]) T.cl_Step T.ty_Step) | exact (show LenV _ _ _ _ by first | exact Or.inl ⟨_, SqL.of (by rw [upd_same]), rfl⟩ | exact Or.inr ⟨_, SqT.of_ (by rw [upd_same]), rfl⟩ | exact Or.inl ⟨_, (by assumption), rfl⟩ | exact Or.inr ⟨_, (by assumption), rfl⟩) | exact (show SqL _ _ _ _ ∨ SqT _ _ _ _ by first | exact Or.inl (SqL.of (by rw [upd_same])) | exact Or.inr (SqT.of_ (by rw [upd_same]))) | exact ⟨_, SqL.of (by rw [upd_same])⟩ | exact ⟨_, SqT.of_ (by rw [upd_same])⟩ | exact Or.inl ⟨rfl, _, SqL.of (by rw [upd_same])⟩ | exact Or.inr ⟨_, _, (by rw [upd_same])⟩) | assumption) | apply @Exists.intro V | apply @Exists.intro Addr | apply @Exists.intro Int | apply @Exists.intro (List V) | apply @Exists.intro Bool | apply @Exists.intro (List (Str × V)) | apply @Exists.intro Nat | apply @Exists.intro Sx.F | apply @Exists.intro Value | apply @Exists.intro (List Int) | apply @Exists.intro (List (Int × Int)) | apply @Exists.intro Str | apply @Exists.intro (List Nat) | apply @Exists.intro (List (List Nat)) | (show @ite Prop _ _ _ _; with_reducible first | refine iteF ?_ | refine iteT ?_ | refine iteNF ?_ | refine iteNT ?_) | (apply Or.inl; apply Exists.intro; apply And.intro; case left => exact rfl) | (refine And.intro (a := CMulW _ _) ?_ ?_; rotate_left))))
def sp_law (K : PySem.W.Frag) : Sp := fun vs H Q _ => ∃ (a : Addr) (ns : List Int), vs = [.ref a] ∧ SqL K H a (ns.map V.int) ∧ ns.length ≤ 63 ∧ ∀ H', Q (.bl true) H'
def sp_Grain_eq (K : PySem.W.Frag) : Sp := fun vs H Q _ => ∃ u v ls st ms st2, vs = [u, v] ∧ GrainAt K H u ls st ∧ GrainAt K H v ms st2 ∧ ∀ b, (b = true ↔ ls = ms ∧ st = st2) → Q (.bl b) H
def sp_l_grain (K : PySem.W.Frag) : Sp := fun vs H Q _ => ∃ r ls st, vs = [.ref r, .int st] ∧ H r = some (.lst (ls.map V.int)) ∧ Gr.Row ls ∧ ls.length ≤ 4 ∧ ∀ v H', Same H H' → GrainAt K H' v (Gr.shortest ls) st → Q v H'
def sp_l_text (K : PySem.W.Frag) : Sp := fun vs H Q _ => ∃ r D f, vs = [.ref r] ∧ RowAt H r D f ∧ f.ps.length ≤ 240 ∧ Sx.Bd 96 f ∧ ∀ H', Same H H' → Q (.str (SX.S (sTxt f))) H'
def sp_l_row (K : PySem.W.Frag) : Sp := fun vs H Q _ => ∃ r ls st, vs = [.ref r, .int st] ∧ H r = some (.lst (ls.map V.int)) ∧ ls.length ≤ 12 ∧ (∀ z ∈ ls, z.natAbs < 10 ^ 30) ∧ st.natAbs < 10 ^ 30 ∧ ∀ H', Same H H' → Q (.str (SX.S (gTxt ls st))) H'
def sp_l_least (K : PySem.W.Frag) : Sp := fun vs H Q _ => ∃ (r : Addr) (ls : List Int), vs = [.ref r] ∧ H r = some (.lst (ls.map V.int)) ∧ ls ≠ [] ∧ ls.length ≤ 12 ∧ ∀ H', Same H H' → Q (.int (Ls.lsize ls : Nat)) H'
def sp_l_least_P (K : PySem.W.Frag) : Sp := fun vs H Q _ => ∃ (r : Addr) (ps : List (Int × Int)), vs = [.ref r] ∧ PairsL H r ps ∧ ps ≠ [] ∧ ps.length ≤ 12 ∧ ∀ H', Same H H' → Q (.int (Ls.lsize ps : Nat)) H'
theorem PairsX.rep {H : Hp} {xs : List V} {ps : List (Int × Int)} (h : PairsX H xs ps) : ∀ m : Nat, PairsX H (List.replicate m xs).flatten (List.replicate m ps).flatten
  | 0 => PairsX.nil
  | m + 1 => by
    rw [List.replicate_succ, List.flatten_cons, List.replicate_succ, List.flatten_cons]
    exact h.app (PairsX.rep h m)
/-- the differences of a row -/
def dl (f : Sx.F) : List (Int × Int) := (List.range f.ps.length).map fun k : Nat => (Sx.pl f ((k : Int) + 1) - Sx.pl f k, Sx.vl f ((k : Int) + 1) - Sx.vl f k)
theorem dl_len (f : Sx.F) : (dl f).length = f.ps.length := by
  unfold dl
  rw [List.length_map, List.length_range]
theorem dl_at {f : Sx.F} (hn : 0 < f.ps.length) (i : Nat) : (dl f)[i % (dl f).length]? = some (Sx.pl f ((i : Int) + 1) - Sx.pl f i, Sx.vl f ((i : Int) + 1) - Sx.vl f i) := by
  rw [dl_len]
  unfold dl
  rw [List.getElem?_map, List.getElem?_range (Nat.mod_lt _ hn)]
  have it := Sx.iter (f := f) (d := f.ps.length) (fun k => Sx.shift hn k) (i / f.ps.length)
  have e : ((i % f.ps.length : Nat) : Int) + ((i / f.ps.length : Nat) : Int) * (f.ps.length : Int) = (i : Int) := by
    rw [← Int.natCast_mul, ← Int.natCast_add, Nat.mul_comm, Nat.mod_add_div]
  have i0 := it ((i % f.ps.length : Nat) : Int)
  have i1 := it (((i % f.ps.length : Nat) : Int) + 1)
  rw [show ((i % f.ps.length : Nat) : Int) + 1 + ((i / f.ps.length : Nat) : Int) * (f.ps.length : Int) = (i : Int) + 1 by omega] at i1
  rw [e] at i0
  rw [i0.1, i0.2, i1.1, i1.2]
  show some (_, _) = some (_, _)
  congr 2 <;> omega
theorem pr_per {f : Sx.F} (hn : 0 < f.ps.length) (d : Nat) : Ls.Pr (dl f) d ↔ Sx.Per f d := by
  constructor
  · intro h
    have hd : ∀ i : Nat, Sx.pl f ((i : Int) + 1 + d) - Sx.pl f ((i : Int) + d) = Sx.pl f ((i : Int) + 1) - Sx.pl f i ∧ Sx.vl f ((i : Int) + 1 + d) - Sx.vl f ((i : Int) + d) = Sx.vl f ((i : Int) + 1) - Sx.vl f i := fun i => by
      have := h i
      rw [dl_at hn, dl_at hn] at this
      injection this with this
      injection this with a b
      rw [show (((i + d : Nat) : Int)) = (i : Int) + d by omega, show (i : Int) + d + 1 = (i : Int) + 1 + d by omega] at a b
      exact ⟨a.symm, b.symm⟩
    have nat : ∀ i : Nat, Sx.pl f ((i : Int) + d) = Sx.pl f i + (Sx.pl f d - Sx.pl f 0) ∧ Sx.vl f ((i : Int) + d) = Sx.vl f i + (Sx.vl f d - Sx.vl f 0) := fun i => by
      induction i with
      | zero =>
        rw [show ((0 : Nat) : Int) = 0 from rfl, Int.zero_add]
        omega
      | succ i ih =>
        have := hd i
        rw [show ((i + 1 : Nat) : Int) = (i : Int) + 1 by omega]
        omega
    refine ⟨Sx.pl f d - Sx.pl f 0, Sx.vl f d - Sx.vl f 0, fun k => ?_⟩
    have it := Sx.iter (f := f) (d := f.ps.length) (fun k => Sx.shift hn k) k.natAbs
    have hle : (k.natAbs : Int) ≤ (k.natAbs : Int) * (f.ps.length : Int) := by
      have := Int.mul_le_mul_of_nonneg_left (show (1 : Int) ≤ (f.ps.length : Int) by omega) (show 0 ≤ (k.natAbs : Int) by omega)
      omega
    obtain ⟨i, hi⟩ : ∃ i : Nat, k + (k.natAbs : Int) * (f.ps.length : Int) = i := ⟨(k + (k.natAbs : Int) * (f.ps.length : Int)).toNat, by omega⟩
    have a := it k
    have b := it (k + d)
    have c := nat i
    rw [show k + (d : Int) + (k.natAbs : Int) * (f.ps.length : Int) = (i : Int) + d by omega] at b
    rw [hi] at a
    omega
  · rintro ⟨w, g, h⟩ i
    rw [dl_at hn, dl_at hn]
    have a := h (i : Int)
    have b := h ((i : Int) + 1)
    rw [show (((i + d : Nat) : Int)) = (i : Int) + d by omega, show (i : Int) + d + 1 = (i : Int) + 1 + d by omega, a.1, a.2, b.1, b.2]
    show some (_, _) = some (_, _)
    congr 2 <;> omega
theorem dl_size {f f0 : Sx.F} (R : Sx.Raw f) (o : Sx.Ok f0) (h : ∀ x, Sx.ev f0 x = Sx.ev f x) : Ls.lsize (dl f) = f0.ps.length := by
  have hn := R.good.ne
  have rp := Sx.rep_row R o h
  have hne : dl f ≠ [] := fun e => by
    have := dl_len f
    rw [e] at this
    simp at this
    omega
  have per : ∀ d : Int, Sx.Per f d ↔ Sx.Per f0 d := fun d => by
    constructor <;> rintro ⟨w, g, hp⟩ <;> refine ⟨w, g, fun k => ?_⟩
    · rw [(rp (k + d)).1, (rp (k + d)).2, (rp k).1, (rp k).2]
      exact hp k
    · rw [← (rp (k + d)).1, ← (rp (k + d)).2, ← (rp k).1, ← (rp k).2]
      exact hp k
  have h1 := Ls.lsize_le hne o.g.ne ((pr_per hn _).mpr ((per _).mpr (Sx.Per.self o.g.ne)))
  obtain ⟨p0, _, _, p1⟩ := Ls.lsize_pr hne
  have h2 := o.l _ p0 ((per _).mp ((pr_per hn _).mp p1))
  omega
theorem take_form {f f0 : Sx.F} (R : Sx.Raw f) (o : Sx.Ok f0) (h : ∀ x, Sx.ev f0 x = Sx.ev f x) (hl : f0.ps.length ≤ f.ps.length) : f.ps.take f0.ps.length = f0.ps := by
  have rp := Sx.rep_row R o h
  refine List.ext_getElem? fun i => ?_
  by_cases hi : i < f0.ps.length
  · rw [List.getElem?_take_of_lt hi, Sx.at_get hi, Sx.at_get (show i < f.ps.length by omega)]
    have a := Sx.pl_at 0 hi
    have b := Sx.vl_at 0 hi
    have c := Sx.pl_at 0 (show i < f.ps.length by omega)
    have d := Sx.vl_at 0 (show i < f.ps.length by omega)
    rw [Int.zero_mul, Int.zero_add, Int.zero_mul, Int.add_zero] at a b c d
    have r := rp i
    rw [a, b, c, d] at r
    exact congrArg some (Prod.ext r.1.symm r.2.symm)
  · rw [List.getElem?_eq_none (by rw [List.length_take]; omega), List.getElem?_eq_none (by omega)]
theorem again_at {f : Sx.F} {m k : Nat} (h : k < m * f.ps.length) : Sx.at_ (Sx.again f m) k = (Sx.pl f k, Sx.vl f k) := by
  have h1 : k < (Sx.again f m).ps.length := by rw [Sx.again_len]; exact h
  have := Sx.at_get h1
  rw [show (Sx.again f m).ps = (List.range (m * f.ps.length)).map fun k : Nat => (Sx.pl f k, Sx.vl f k) from rfl, List.getElem?_map, List.getElem?_range h] at this
  exact (Option.some.inj this).symm

section
variable {P : Program} {w : World} {K : PySem.W.Frag} {mg : Str → Option Value} {base : Heap}
theorem sc_Grain_eq : FnScope ["self", "other"] ["self", "other"] (defScope s_Grain_eq) := ⟨rfl, rfl, rfl, by decide +kernel, rfl, by decide +kernel, by decide +kernel⟩
set_option maxHeartbeats 4000000 in
theorem ok_Grain_eq (T : TX w K mg) : FnOk P w K mg base CX0 1 (He.fAd K ("Grain", some "__eq__")) T.fd_Grain_eq ["self", "other"] (sp_Grain_eq K) := by
  refine T.F_Grain_eq.ok (k := 0) sc_Grain_eq (fun vs H Q E h => ?_) (fun cdv A outer s H vs Q E hr h => ⟨_, PSs.nox (by exact (pss_one (ps_ret (pe_and (pe_callB call_isi (by rfl) T.f_isinstance (by decide +kernel) (pa_cons (pv 1) (pa_cons (pe_glob (v := .ref _) rfl T.g_Grain rfl) pa_nil))) (pe_and (pe_cmpR (op_eqD hr.units) (pe_fld (pv 0) rfl) (pe_fld (pv 1) rfl) (nomark _)) (pe_one (pe_cmpR op_eq (pe_fld (pv 0) rfl) (pe_fld (pv 1) rfl) (nomark _)))))))), ?_⟩)
  · obtain ⟨u, v, ls, st, ms, st2, rfl, _⟩ := h
    rfl
  · obtain ⟨u, v, ls, st, ms, st2, rfl, ⟨a, dx, t, rfl, ha, ht⟩, ⟨b, dy, t2, rfl, hb, ht2⟩, q⟩ := h
    decreasing_trivial
    refine ⟨_, _, dp_ints (SqT.of_ ht), dp_ints (SqT.of_ ht2), shaped_ints _, shaped_ints _, ?_⟩
    rw [eqv_ints]
    by_cases e : ls = ms
    · rw [decide_eq_true e]
      decreasing_trivial
      refine q _ ?_
      rw [decide_eq_true_iff]
      exact ⟨fun z => ⟨e, V.int.inj z⟩, fun z => congrArg V.int z.2⟩
    · rw [decide_eq_false e]
      decreasing_trivial
      exact q false ⟨(fun z => by cases z), fun z => absurd z.1 e⟩
theorem sc_l_text : FnScope ["_law_row_here", "_law_words", "_law_place", "_law_value"] ["_law_row_here"] (defScope s_l_text) := ⟨rfl, rfl, rfl, by decide +kernel, rfl, by decide +kernel, by decide +kernel⟩
set_option maxHeartbeats 4000000 in
theorem ok_l_text (T : TX w K mg) : FnOk P w K mg base CX0 1 (He.fAd K ("_law_text", none)) T.fd_l_text ["_law_row_here"] (sp_l_text K) := by
  refine T.F_l_text.ok (k := 0) sc_l_text (fun vs H Q E h => ?_) (fun cdv A outer s H vs Q E hr h => ⟨_, PSs.nox (by exact (pss_cons (ps_set (i := 1) sc_l_text.nd rfl (Or.inl rfl) (pe_op op_cat (pe_lst (pa_cons (pe_callTy call_strS (by rfl) T.f_str (by decide +kernel) (pa_cons (pe_ix ix_list (pv 0) pe_int (fun _ _ => rfl)) pa_nil)) (pa_cons (pe_callTy call_strS (by rfl) T.f_str (by decide +kernel) (pa_cons (pe_ix ix_list (pv 0) pe_int (fun _ _ => rfl)) pa_nil)) pa_nil))) (pe_lc (own := [("_law_place", 2), ("_law_value", 3)]) (g := gTup K 2 (gCons (gName 2) (gCons (gName 3) gNil))) rfl sc_l_text.nd (pi_list (pe_ix ix_list (pv 0) pe_int (fun _ _ => rfl))) (blkOk_by (own := [("_law_place", 2), ("_law_value", 3)]) (N := ["_law_row_here", "_law_words", "_law_place", "_law_value"]) (sc := defScope s_l_text) (by decide +kernel)) (fun _ _ _ _ _ => (pg_tup rfl (pgs_cons (pg_name (i := 2) sc_l_text.nd rfl (Or.inl rfl)) (pgs_cons (pg_name (i := 3) sc_l_text.nd rfl (Or.inl rfl)) pgs_nil)))) (fun _ _ _ _ _ => pts_nil) (fun _ _ _ _ _ => (pe_op op_addS (pe_op op_addS (pe_callTy call_strS (by rfl) T.f_str (by decide +kernel) (pa_cons (pv 2) pa_nil)) (pe_strS (l := [58]) (by decide +kernel))) (pe_callTy call_strS (by rfl) T.f_str (by decide +kernel) (pa_cons (pv 3) pa_nil)))))))
      (pss_one (ps_ret (pe_m1 PySem.F.slot_str_join PySem.F.type_str_join mt_joinS (pe_strS (l := [32]) (by decide +kernel)) (pv 1)))))), ?_⟩)
  · obtain ⟨r, D, f, rfl, _⟩ := h
    rfl
  · obtain ⟨r, D, f, rfl, R, hl, B, q⟩ := h
    have hr1 := R.r
    obtain ⟨xs, hD, hx⟩ := R.d
    have lP : f.P.natAbs.log2 < 1920 := lg19 B.P
    have lR : f.R.natAbs.log2 < 1920 := lg19 B.R
    have hlx : xs.length = f.ps.length := hx.1
    have h240 := hl
    have hsum := sTxt_sum B h240
    decreasing_trivial
    intro p1 n_p1
    generalize e_H1 : upd _ p1 _ = H1
    have h_p1 := at_new e_H1
    have s_H1 := same_new e_H1 n_p1
    have ht1 := s_H1 _ _ hD
    have hT1 := SqL.of (K := K) ht1
    have ha1 := s_H1 _ _ hr1
    decreasing_trivial
    intro D2 nD
    refine lc_list (K := K) (a := D) (xs := xs) (fun i H' => H' D2 = some (.lst (((f.ps.take i).map pairL).map fun l => V.str (SX.S l))) ∧ Same H1 H') ⟨upd_same, Same.new nD⟩ (fun i H' _ ⟨_, s⟩ => SqL.of (s _ _ ht1)) ?_ ?_
    · rintro i x H2 hx2 ⟨hD, s2⟩
      obtain ⟨hi, r, rfl, hr1⟩ := (hx.same (s_H1.trans s2)).item hx2
      have hB := B.q _ (List.getElem_mem hi)
      have l1 : (f.ps[i]).1.natAbs.log2 < 1920 := lg19 hB.1
      have l2 : (f.ps[i]).2.natAbs.log2 < 1920 := lg19 hB.2
      have g1 := intL_lt (k := 30) (by decide) (bd96 hB.1)
      have g2 := intL_lt (k := 30) (by decide) (bd96 hB.2)
      refine g_pair hr1 ?_
      refine ⟨(by ((repeat (first | (with_reducible refine wipe_l (by decide) ?_) | (with_reducible refine wipe_lw (by decide) ?_) | (with_reducible refine wipe_r (by decide) ?_) | (with_reducible refine wipe_rw (by decide) ?_))); exact rfl)), ?_⟩
      refine iteT (A := _) (B := True) ?_
      have hsz : (((f.ps.take i).map pairL).map fun l => V.str (SX.S l)).length < sizeLine := lt_size (by rw [List.length_map, List.length_map, List.length_take]; omega)
      have z1 : (Tx.intL (f.ps[i]).1).length + [58].length ≤ sizeLine := szP (by rw [List.length_singleton]; omega)
      have z2 : (Tx.intL (f.ps[i]).1 ++ [58]).length + (Tx.intL (f.ps[i]).2).length ≤ sizeLine := szP (by rw [List.length_append, List.length_singleton]; omega)
      decreasing_trivial
      refine ⟨?_, s2.put nD⟩
      rw [upd_same, List.take_add_one, List.map_append, List.map_append, List.getElem?_eq_getElem hi]
      rfl
    · rintro H2 ⟨hD, s2⟩
      rw [hlx, List.take_of_length_le (Nat.le_refl _)] at hD
      have hp1 := s2 _ _ h_p1
      decreasing_trivial
      intro p3 n_p3
      generalize e_H3 : upd _ p3 _ = H3
      have h_p3 := at_new e_H3
      have s_H3 := same_new e_H3 n_p3
      have hS3 : SqL K H3 p3 ((Tx.intL f.P :: Tx.intL f.R :: f.ps.map pairL).map fun l => V.str (SX.S l)) := SqL.of h_p3
      decreasing_trivial
      exact q _ ((s_H1.trans s2).trans s_H3)
theorem sc_l_row : FnScope ["_law_row_here", "_law_begin", "_law_length"] ["_law_row_here", "_law_begin"] (defScope s_l_row) := ⟨rfl, rfl, rfl, by decide +kernel, rfl, by decide +kernel, by decide +kernel⟩
set_option maxHeartbeats 4000000 in
theorem ok_l_row (T : TX w K mg) : FnOk P w K mg base CX0 1 (He.fAd K ("_law_row", none)) T.fd_l_row ["_law_row_here", "_law_begin"] (sp_l_row K) := by
  refine T.F_l_row.ok (k := 0) sc_l_row (fun vs H Q E h => ?_) (fun cdv A outer s H vs Q E hr h => ⟨_, PSs.nox (by exact (pss_one (ps_ret (pe_op op_addS (pe_op op_addS (pe_m1 PySem.F.slot_str_join PySem.F.type_str_join mt_joinS (pe_strS (l := [43]) (by decide +kernel)) (pe_lc (own := [("_law_length", 2)]) rfl sc_l_row.nd (pi_list (pv 0)) (blkOk_by (own := [("_law_length", 2)]) (N := ["_law_row_here", "_law_begin", "_law_length"]) (sc := defScope s_l_row) (by decide +kernel)) (fun _ _ _ _ _ => (pg_name (i := 2) sc_l_row.nd rfl (Or.inl rfl))) (fun _ _ _ _ _ => pts_nil) (fun _ _ _ _ _ => (pe_callTy call_strS (by rfl) T.f_str (by decide +kernel) (pa_cons (pv 2) pa_nil))))) (pe_strS (l := [64]) (by decide +kernel))) (pe_callTy call_strS (by rfl) T.f_str (by decide +kernel) (pa_cons (pv 1) pa_nil)))))), ?_⟩)
  · obtain ⟨r, ls, st, rfl, _⟩ := h
    rfl
  · obtain ⟨r, ls, st, rfl, hr0, hl, hb, hst, q⟩ := h
    have hS := SqL.of (K := K) hr0
    have hlg : ∀ z ∈ ls, z.natAbs.log2 < 1920 := fun z hz => lg19 (n := 140) (by have := hb z hz; omega)
    have hsl : st.natAbs.log2 < 1920 := lg19 (n := 140) (by omega)
    have hmap : (ls.map V.int).length = ls.length := List.length_map _
    decreasing_trivial
    intro D nD
    refine lc_list (K := K) (a := r) (xs := ls.map V.int) (fun i H' => H' D = some (.lst ((ls.take i).map fun z => V.str (SX.S (Tx.intL z)))) ∧ Same H H') ⟨upd_same, Same.new nD⟩ (fun i H' _ ⟨_, s⟩ => SqL.of (s _ _ hr0)) ?_ ?_
    · rintro i x H2 hx ⟨hD, s2⟩
      rw [List.getElem?_map] at hx
      cases hn : ls[i]? with
      | none => rw [hn] at hx; cases hx
      | some n =>
        rw [hn] at hx
        cases hx
        have hi : i < ls.length := (List.getElem?_eq_some_iff.mp hn).1
        have hln := hlg n (List.mem_of_getElem? hn)
        refine ⟨(by ((repeat (first | (with_reducible refine wipe_l (by decide) ?_) | (with_reducible refine wipe_lw (by decide) ?_) | (with_reducible refine wipe_r (by decide) ?_) | (with_reducible refine wipe_rw (by decide) ?_))); exact rfl)), ?_⟩
        refine iteT (A := _) (B := True) ?_
        have hsz : ((ls.take i).map fun z => V.str (SX.S (Tx.intL z))).length < sizeLine := lt_size (by rw [List.length_map, List.length_take]; omega)
        decreasing_trivial
        refine ⟨?_, s2.put nD⟩
        rw [upd_same, List.take_add_one, List.map_append, hn]
        rfl
    · rintro H2 ⟨hD, s2⟩
      rw [hmap, List.take_of_length_le (Nat.le_refl _)] at hD
      have hD2 : SqL K H2 D ((ls.map Tx.intL).map fun l => V.str (SX.S l)) := by
        rw [List.map_map]
        exact SqL.of hD
      have hjm := joinL_lt (sep := [43]) (ys := ls.map Tx.intL) (m := 31) (fun y hy => by
        obtain ⟨z, hz, rfl⟩ := List.mem_map.mp hy
        exact intL_lt (by decide) (hb z hz))
      have hw : ((ls.map Tx.intL).map (·.length)).sum + (ls.map Tx.intL).length * [43].length ≤ 16777216 := by
        rw [List.length_map, List.length_singleton] at hjm ⊢
        omega
      have hj := Nat.le_trans (len_joinL (sep := [43]) (ls.map Tx.intL)) hjm
      rw [List.length_map, List.length_singleton] at hj
      have hi3 := intL_lt (k := 30) (by decide) hst
      have z1 : (TL.joinL [43] (ls.map Tx.intL)).length + [64].length ≤ sizeLine := szP (by rw [List.length_singleton]; omega)
      have z2 : (TL.joinL [43] (ls.map Tx.intL) ++ [64]).length + (Tx.intL st).length ≤ sizeLine := szP (by rw [List.length_append, List.length_singleton]; omega)
      decreasing_trivial
      exact q _ s2
theorem sc_l_least : FnScope ["_law_row_here", "_law_size"] ["_law_row_here"] (defScope s_l_least) := ⟨rfl, rfl, rfl, by decide +kernel, rfl, by decide +kernel, by decide +kernel⟩
set_option maxHeartbeats 4000000 in
theorem ok_l_least (T : TX w K mg) : FnOk P w K mg base CX0 1 (He.fAd K ("_law_least", none)) T.fd_l_least ["_law_row_here"] (sp_l_least K) := by
  refine T.F_l_least.ok (k := 0) sc_l_least (fun vs H Q E h => ?_) (fun cdv A outer s H vs Q E hr h => ⟨_, PSs.nox (by exact (pss_cons (ps_for PassesOwn.never rfl (pi_range2 (by rfl) T.f_range (pa_cons pe_int (pa_cons (pe_callB call_len (by rfl) T.f_len PySem.boot_len (pa_cons (pv 0) pa_nil)) pa_nil))) (pg_name (i := 1) sc_l_least.nd rfl (Or.inl rfl))
      (pss_one (ps_if (pt_cut (PW.pt (pw_and (pt_cmpR op_eq (pe_op op_mulW (pe_op op_fdivW (pe_callB call_len (by rfl) T.f_len PySem.boot_len (pa_cons (pv 0) pa_nil)) (pv 1)) (pv 1)) (pe_callB call_len (by rfl) T.f_len PySem.boot_len (pa_cons (pv 0) pa_nil)) (nomark _)) (pw_and1 (pt_cmpR (op_eqD hr.units) (pv 0) (pe_op op_rep (pe_slice sl_list (pv 0) po_none (po_some (pv 1))) (pe_op op_fdivW (pe_callB call_len (by rfl) T.f_len PySem.boot_len (pa_cons (pv 0) pa_nil)) (pv 1))) (nomark _)))))) (pss_one (ps_ret (pv 1))) pss_nil)))
      (pss_one (ps_ret (pe_callB call_len (by rfl) T.f_len PySem.boot_len (pa_cons (pv 0) pa_nil)))))), ?_⟩)
  · obtain ⟨r, ls, rfl, _⟩ := h
    rfl
  · obtain ⟨a, ls, rfl, ha, hne, hlen, q⟩ := h
    have hmap : (ls.map V.int).length = ls.length := List.length_map _
    have hft := ha
    have hSa : SqL K H a (ls.map V.int) := SqL.of ha
    have hl1 : 0 < ls.length := List.length_pos_iff.mpr hne
    have hb62 : ((ls.map V.int).length : Int) < 2 ^ 62 := by rw [hmap]; omega
    decreasing_trivial
    refine for_range (lo := 1) (fun i σ H' => ∃ v1 : Option V, σ = [some (.ref a), v1] ∧ Same H H' ∧ ∀ j, 1 ≤ j → j < 1 + i → Ls.fits ls j = false) ⟨none, rfl, Same.refl _, fun j h1 h2 => by omega⟩ ?_ ?_
    rotate_left
    · rintro σ H1 ⟨v1, rfl, s1, hf⟩
      rw [hmap] at hf
      have e := Ls.lsize_none hne (fun j h1 h2 => hf j h1 (by omega))
      rw [e, ← hmap] at q
      have hS1 : SqL K H1 a (ls.map V.int) := SqL.of (s1 _ _ hft)
      decreasing_trivial
      exact q _ s1
    rintro i σ H1 hi ⟨v1, rfl, s1, hf⟩
    rw [hmap] at hi
    have ha1 := s1 _ _ hft
    have e1i : 1 + (i : Int) = ((i + 1 : Nat) : Int) := by omega
    have hS1 : SqL K H1 a (ls.map V.int) := SqL.of ha1
    obtain ⟨m, hm⟩ : ∃ m, ls.length / (i + 1) = m := ⟨_, rfl⟩
    have ed : (((ls.map V.int).length : Nat) : Int) / (1 + (i : Int)) = (m : Int) := by
      rw [hmap, e1i, ← Int.natCast_ediv, hm]
    have hkd : m ≤ 12 := by rw [← hm]; exact Nat.le_trans (Nat.div_le_self _ _) hlen
    have cd : CDivW (((ls.map V.int).length : Nat) : Int) (1 + (i : Int)) := ⟨by omega, log2_lt (n := 64) (by decide) (lt64 (by omega) (by omega)) (by decide)⟩
    have cm : CMulW ((((ls.map V.int).length : Nat) : Int) / (1 + (i : Int))) (1 + (i : Int)) := by rw [ed]; exact mulW 64 64 (lt64 (by omega) (by omega)) (lt64 (by omega) (by omega))
    refine ⟨fun b H' => b = Ls.fits ls (i + 1) ∧ Same H1 H', ?_, ?_⟩
    · decreasing_trivial
      have em : ((((ls.map V.int).length : Nat) : Int) / (1 + (i : Int)) * (1 + (i : Int)) = (((ls.map V.int).length : Nat) : Int)) ↔ ls.length % (i + 1) = 0 := by
        rw [ed, hmap, e1i, ← Int.natCast_mul]
        have hdm := Nat.div_add_mod ls.length (i + 1)
        rw [hm, Nat.mul_comm] at hdm
        omega
      by_cases hz : ls.length % (i + 1) = 0
      · refine iteDY (congrArg V.int (em.mpr hz)) ?_
        have hdiv : m * (i + 1) = ls.length := by rw [← hm]; exact Nat.div_mul_cancel (Nat.dvd_of_mod_eq_zero hz)
        decreasing_trivial
        intro p n_p
        generalize e_H2 : upd _ p _ = H2
        have h_p := at_new e_H2
        have s_H2 := same_new e_H2 n_p
        rw [e1i, cutV_to'] at h_p
        have ha2 := s_H2 _ _ ha1
        have hS2 : SqL K H2 a (ls.map V.int) := SqL.of ha2
        clear hb62 cm
        decreasing_trivial
        rw [ed]
        have hz2 : ((ls.map V.int).take (i + 1)).length * ((m : Int)).toNat ≤ sizeLine := by
          refine le_size ?_
          rw [List.length_take, hmap, Nat.min_eq_left (by omega), Int.toNat_natCast, Nat.mul_comm]
          omega
        decreasing_trivial
        intro p2 n_p2
        generalize e_H3 : upd _ p2 _ = H3
        have h_p2 := at_new e_H3
        have s_H3 := same_new e_H3 n_p2
        have ha3 := s_H3 _ _ ha2
        have er : (List.replicate (m : Int).toNat ((ls.map V.int).take (i + 1))).flatten = ((List.replicate m (ls.take (i + 1))).flatten).map V.int := by
          rw [Int.toNat_natCast, List.map_flatten, List.map_replicate, List.map_take]
        rw [er] at h_p2
        refine ⟨_, _, dpl_ints (SqL.of ha3), dpl_ints (SqL.of h_p2), shapedl_ints _, shapedl_ints _, _, rfl, ?_, s_H2.trans s_H3⟩
        rw [eqvl_ints]
        unfold Ls.fits
        rw [decide_eq_true hz, Bool.true_and, hm]
      · refine iteDN (fun z => hz (em.mp (V.int.inj z))) ?_
        decreasing_trivial
        refine ⟨?_, Same.refl _⟩
        unfold Ls.fits
        rw [decide_eq_false hz, Bool.false_and]
    · rintro _ H2 ⟨rfl, s2⟩
      cases hfit : Ls.fits ls (i + 1) with
      | true =>
        have e := Ls.lsize_first hne (by omega) (by omega) hfit (fun j h1 h2 => hf j h1 (by omega))
        rw [e, ← e1i] at q
        decreasing_trivial
        exact q _ (s1.trans s2)
      | false =>
        decreasing_trivial
        refine ⟨_, rfl, s1.trans s2, fun j h1 h2 => ?_⟩
        by_cases hj : j = i + 1
        · rw [hj]; exact hfit
        · exact hf j h1 (by omega)
set_option maxHeartbeats 4000000 in
theorem ok_l_least_P (T : TX w K mg) : FnOk P w K mg base CX0 1 (He.fAd K ("_law_least", none)) T.fd_l_least ["_law_row_here"] (sp_l_least_P K) := by
  refine T.F_l_least.ok (k := 0) sc_l_least (fun vs H Q E h => ?_) (fun cdv A outer s H vs Q E hr h => ⟨_, PSs.nox (by exact (pss_cons (ps_for PassesOwn.never rfl (pi_range2 (by rfl) T.f_range (pa_cons pe_int (pa_cons (pe_callB call_len (by rfl) T.f_len PySem.boot_len (pa_cons (pv 0) pa_nil)) pa_nil))) (pg_name (i := 1) sc_l_least.nd rfl (Or.inl rfl))
      (pss_one (ps_if (pt_cut (PW.pt (pw_and (pt_cmpR op_eq (pe_op op_mulW (pe_op op_fdivW (pe_callB call_len (by rfl) T.f_len PySem.boot_len (pa_cons (pv 0) pa_nil)) (pv 1)) (pv 1)) (pe_callB call_len (by rfl) T.f_len PySem.boot_len (pa_cons (pv 0) pa_nil)) (nomark _)) (pw_and1 (pt_cmpR (op_eqD hr.units) (pv 0) (pe_op op_rep (pe_slice sl_list (pv 0) po_none (po_some (pv 1))) (pe_op op_fdivW (pe_callB call_len (by rfl) T.f_len PySem.boot_len (pa_cons (pv 0) pa_nil)) (pv 1))) (nomark _)))))) (pss_one (ps_ret (pv 1))) pss_nil)))
      (pss_one (ps_ret (pe_callB call_len (by rfl) T.f_len PySem.boot_len (pa_cons (pv 0) pa_nil)))))), ?_⟩)
  · obtain ⟨r, ps, rfl, _⟩ := h
    rfl
  · obtain ⟨a, ps, rfl, ha, hne, hlen, q⟩ := h
    obtain ⟨fxs, hft, hfx⟩ := ha
    have hmap : fxs.length = ps.length := hfx.1
    have hSa : SqL K H a fxs := SqL.of hft
    have hl1 : 0 < ps.length := List.length_pos_iff.mpr hne
    have hb62 : (fxs.length : Int) < 2 ^ 62 := by rw [hmap]; omega
    decreasing_trivial
    refine for_range (lo := 1) (fun i σ H' => ∃ v1 : Option V, σ = [some (.ref a), v1] ∧ Same H H' ∧ ∀ j, 1 ≤ j → j < 1 + i → Ls.fits ps j = false) ⟨none, rfl, Same.refl _, fun j h1 h2 => by omega⟩ ?_ ?_
    rotate_left
    · rintro σ H1 ⟨v1, rfl, s1, hf⟩
      rw [hmap] at hf
      have e := Ls.lsize_none hne (fun j h1 h2 => hf j h1 (by omega))
      rw [e, ← hmap] at q
      have hS1 : SqL K H1 a fxs := SqL.of (s1 _ _ hft)
      decreasing_trivial
      exact q _ s1
    rintro i σ H1 hi ⟨v1, rfl, s1, hf⟩
    rw [hmap] at hi
    have ha1 := s1 _ _ hft
    have e1i : 1 + (i : Int) = ((i + 1 : Nat) : Int) := by omega
    have hS1 : SqL K H1 a fxs := SqL.of ha1
    obtain ⟨m, hm⟩ : ∃ m, ps.length / (i + 1) = m := ⟨_, rfl⟩
    have ed : ((fxs.length : Nat) : Int) / (1 + (i : Int)) = (m : Int) := by
      rw [hmap, e1i, ← Int.natCast_ediv, hm]
    have hkd : m ≤ 12 := by rw [← hm]; exact Nat.le_trans (Nat.div_le_self _ _) hlen
    have cd : CDivW ((fxs.length : Nat) : Int) (1 + (i : Int)) := ⟨by omega, log2_lt (n := 64) (by decide) (lt64 (by omega) (by omega)) (by decide)⟩
    have cm : CMulW (((fxs.length : Nat) : Int) / (1 + (i : Int))) (1 + (i : Int)) := by rw [ed]; exact mulW 64 64 (lt64 (by omega) (by omega)) (lt64 (by omega) (by omega))
    refine ⟨fun b H' => b = Ls.fits ps (i + 1) ∧ Same H1 H', ?_, ?_⟩
    · decreasing_trivial
      have em : (((fxs.length : Nat) : Int) / (1 + (i : Int)) * (1 + (i : Int)) = ((fxs.length : Nat) : Int)) ↔ ps.length % (i + 1) = 0 := by
        rw [ed, hmap, e1i, ← Int.natCast_mul]
        have hdm := Nat.div_add_mod ps.length (i + 1)
        rw [hm, Nat.mul_comm] at hdm
        omega
      by_cases hz : ps.length % (i + 1) = 0
      · refine iteDY (congrArg V.int (em.mpr hz)) ?_
        have hdiv : m * (i + 1) = ps.length := by rw [← hm]; exact Nat.div_mul_cancel (Nat.dvd_of_mod_eq_zero hz)
        decreasing_trivial
        intro p n_p
        generalize e_H2 : upd _ p _ = H2
        have h_p := at_new e_H2
        have s_H2 := same_new e_H2 n_p
        rw [e1i, cutV_to'] at h_p
        have ha2 := s_H2 _ _ ha1
        have hS2 : SqL K H2 a fxs := SqL.of ha2
        clear hb62 cm
        decreasing_trivial
        rw [ed]
        have hz2 : (fxs.take (i + 1)).length * ((m : Int)).toNat ≤ sizeLine := by
          refine le_size ?_
          rw [List.length_take, hmap, Nat.min_eq_left (by omega), Int.toNat_natCast, Nat.mul_comm]
          omega
        decreasing_trivial
        intro p2 n_p2
        generalize e_H3 : upd _ p2 _ = H3
        have h_p2 := at_new e_H3
        have s_H3 := same_new e_H3 n_p2
        have ha3 := s_H3 _ _ ha2
        have hx3 := hfx.same ((s1.trans s_H2).trans s_H3)
        have hrp : PairsX H3 (List.replicate (m : Int).toNat (fxs.take (i + 1))).flatten (List.replicate m (ps.take (i + 1))).flatten := by
          rw [Int.toNat_natCast]
          exact PairsX.rep (hx3.take (i + 1)) m
        refine eqD_pairs (ps := ps) (qs := (List.replicate m (ps.take (i + 1))).flatten) ⟨_, ha3, hx3⟩ ⟨_, h_p2, hrp⟩ ?_
        decreasing_trivial
        refine ⟨?_, s_H2.trans s_H3⟩
        unfold Ls.fits
        rw [decide_eq_true hz, Bool.true_and, hm]
      · refine iteDN (fun z => hz (em.mp (V.int.inj z))) ?_
        decreasing_trivial
        refine ⟨?_, Same.refl _⟩
        unfold Ls.fits
        rw [decide_eq_false hz, Bool.false_and]
    · rintro _ H2 ⟨rfl, s2⟩
      cases hfit : Ls.fits ps (i + 1) with
      | true =>
        have e := Ls.lsize_first hne (by omega) (by omega) hfit (fun j h1 h2 => hf j h1 (by omega))
        rw [e, ← e1i] at q
        decreasing_trivial
        exact q _ (s1.trans s2)
      | false =>
        decreasing_trivial
        refine ⟨_, rfl, s1.trans s2, fun j h1 h2 => ?_⟩
        by_cases hj : j = i + 1
        · rw [hj]; exact hfit
        · exact hf j h1 (by omega)
theorem sc_l_grain : FnScope ["_law_row_here", "_law_begin"] ["_law_row_here", "_law_begin"] (defScope s_l_grain) := ⟨rfl, rfl, rfl, by decide +kernel, rfl, by decide +kernel, by decide +kernel⟩
set_option maxHeartbeats 4000000 in
theorem ok_l_grain (T : TX w K mg) : FnOk P w K mg base CX0 7 (He.fAd K ("_law_grain", none)) T.fd_l_grain ["_law_row_here", "_law_begin"] (sp_l_grain K) := by
  refine T.F_l_grain.ok (k := 6) sc_l_grain (fun vs H Q E h => ?_) (fun cdv A outer s H vs Q E hr h => ⟨_, PSs.nox (by exact (pss_cons (ps_if (pt_cmpR op_eq (pe_callB call_len (by rfl) T.f_len PySem.boot_len (pa_cons (pv 0) pa_nil)) pe_int (nomark _)) (pss_one (ps_ret (pe_makeSK T.mk_Grain (ok_Grain_init T) (hr.mono (by decide)) rfl T.g_Grain pass0 (pa_cons (pe_ix ix_list (pv 0) pe_int (fun _ _ => rfl)) pa_nil) (pv 1)))) pss_nil)
      (pss_cons (ps_if (pt_cmpR op_eq (pe_callB call_len (by rfl) T.f_len PySem.boot_len (pa_cons (pv 0) pa_nil)) pe_int (nomark _)) (pss_one (ps_ret (pe_makeSK T.mk_Grain (ok_Grain_init T) (hr.mono (by decide)) rfl T.g_Grain pass0 (pa_cons (pe_ix ix_list (pv 0) pe_int (fun _ _ => rfl)) (pa_cons (pe_ix ix_list (pv 0) pe_int (fun _ _ => rfl)) pa_nil)) (pv 1)))) pss_nil)
      (pss_cons (ps_if (pt_cmpR op_eq (pe_callB call_len (by rfl) T.f_len PySem.boot_len (pa_cons (pv 0) pa_nil)) pe_int (nomark _)) (pss_one (ps_ret (pe_makeSK T.mk_Grain (ok_Grain_init T) (hr.mono (by decide)) rfl T.g_Grain pass0 (pa_cons (pe_ix ix_list (pv 0) pe_int (fun _ _ => rfl)) (pa_cons (pe_ix ix_list (pv 0) pe_int (fun _ _ => rfl)) (pa_cons (pe_ix ix_list (pv 0) pe_int (fun _ _ => rfl)) pa_nil))) (pv 1)))) pss_nil)
      (pss_one (ps_ret (pe_makeSK T.mk_Grain (ok_Grain_init T) (hr.mono (by decide)) rfl T.g_Grain pass0 (pa_cons (pe_ix ix_list (pv 0) pe_int (fun _ _ => rfl)) (pa_cons (pe_ix ix_list (pv 0) pe_int (fun _ _ => rfl)) (pa_cons (pe_ix ix_list (pv 0) pe_int (fun _ _ => rfl)) (pa_cons (pe_ix ix_list (pv 0) pe_int (fun _ _ => rfl)) pa_nil)))) (pv 1)))))))), ?_⟩)
  · obtain ⟨r, ls, st, rfl, _⟩ := h
    rfl
  · obtain ⟨r, ls, st, rfl, hr0, hrow, h4, q⟩ := h
    have hS : SqL K H r (ls.map V.int) := SqL.of hr0
    have fin : ∀ (x dx pt : Addr), H x = none → H dx = none → dx ≠ x → H pt = none → pt ≠ x → pt ≠ dx → sp_Grain_init K [.ref x, .int st, .ref pt] (upd (upd (upd H dx (.own x)) x (.ins (He.ga K "Grain") dx [])) pt (.tup (ls.map V.int))) (fun v H3 => v = .non ∧ Q (.ref x) H3) E0 := fun x dx pt nx nd n1 np n2 n3 => by
      refine ⟨x, dx, pt, ls, st, rfl, by rw [upd_ne (Ne.symm n2), upd_same], upd_same, hrow, fun t' H1 s1 ht => ⟨rfl, ?_⟩⟩
      obtain ⟨H', e, s, hg⟩ := made_grain (st := st) nx nd np n1 n2 n3 s1 ht
      rw [e]
      exact q _ _ s hg
    have hl1 : 0 < ls.length := List.length_pos_iff.mpr hrow.ne
    rcases ls with _ | ⟨a, _ | ⟨b, _ | ⟨c, _ | ⟨d, _ | ⟨e, r⟩⟩⟩⟩⟩
    · exact absurd rfl hrow.ne
    · exact ⟨_, rfl, _, _, rfl, Or.inl ⟨_, hS, rfl⟩, rfl, true, rfl, iteT ⟨_, rfl, _, _, _, _, rfl, rfl, hS, rfl, _, rfl, (fun z => by cases z), (show 1 ≤ sizeLine by decide), fin⟩⟩
    · refine ⟨_, rfl, _, _, rfl, Or.inl ⟨_, hS, rfl⟩, rfl, false, rfl, iteF ?_⟩
      exact ⟨_, rfl, _, _, rfl, Or.inl ⟨_, hS, rfl⟩, rfl, true, rfl, iteT ⟨_, rfl, _, _, _, _, rfl, rfl, hS, rfl, _, rfl, _, _, _, _, rfl, rfl, hS, rfl, _, rfl, (fun z => by cases z), (show 2 ≤ sizeLine by decide), fin⟩⟩
    · refine ⟨_, rfl, _, _, rfl, Or.inl ⟨_, hS, rfl⟩, rfl, false, rfl, iteF ?_⟩
      refine ⟨_, rfl, _, _, rfl, Or.inl ⟨_, hS, rfl⟩, rfl, false, rfl, iteF ?_⟩
      exact ⟨_, rfl, _, _, rfl, Or.inl ⟨_, hS, rfl⟩, rfl, true, rfl, iteT ⟨_, rfl, _, _, _, _, rfl, rfl, hS, rfl, _, rfl, _, _, _, _, rfl, rfl, hS, rfl, _, rfl, _, _, _, _, rfl, rfl, hS, rfl, _, rfl, (fun z => by cases z), (show 3 ≤ sizeLine by decide), fin⟩⟩
    · refine ⟨_, rfl, _, _, rfl, Or.inl ⟨_, hS, rfl⟩, rfl, false, rfl, iteF ?_⟩
      refine ⟨_, rfl, _, _, rfl, Or.inl ⟨_, hS, rfl⟩, rfl, false, rfl, iteF ?_⟩
      refine ⟨_, rfl, _, _, rfl, Or.inl ⟨_, hS, rfl⟩, rfl, false, rfl, iteF ?_⟩
      exact ⟨_, rfl, _, _, _, _, rfl, rfl, hS, rfl, _, rfl, _, _, _, _, rfl, rfl, hS, rfl, _, rfl, _, _, _, _, rfl, rfl, hS, rfl, _, rfl, _, _, _, _, rfl, rfl, hS, rfl, _, rfl, (fun z => by cases z), (show 4 ≤ sizeLine by decide), fin⟩
    · simp at h4
theorem sc_law : FnScope ["_law_script", "_law_at", "_law_bag_here", "_law_row_here", "_law_back", "_law_one", "_law_more", "_law_deltas", "_law_size", "_law_share", "_law_due", "_law_begin", "_law_times", "_law_grain_here", "_law_brief", "_law_step", "_law_long", "_law_k"] ["_law_script"] (defScope s_law) := ⟨rfl, rfl, rfl, by decide +kernel, rfl, by decide +kernel, by decide +kernel⟩
set_option maxHeartbeats 4000000 in
theorem ok_law (T : TX w K mg) : FnOkG P w K mg base CX0 16 (He.fAd K ("law", none)) T.fd_law ["_law_script"] (sp_law K) := by
  refine T.F_law.okG (k := 15) sc_law (fun vs H Q E h => ?_) (fun cdv A outer s H vs Q E hr hgu h => ⟨_, PSs.nox (by exact (pss_cons (ps_for PassesOwn.never rfl (pi_range1 (by rfl) T.f_range (pa_cons (pe_callB (call_max2 rfl) (by rfl) T.f_max (by decide +kernel) (pa_cons pe_int (pa_cons (pe_callB (call_min2 rfl) (by rfl) T.f_min (by decide +kernel) (pa_cons pe_int (pa_cons (pe_callB call_len (by rfl) T.f_len PySem.boot_len (pa_cons (pv 0) pa_nil)) pa_nil))) pa_nil))) pa_nil)) (pg_name (i := 1) sc_law.nd rfl (Or.inl rfl))
      (pss_cons (ps_set (i := 2) sc_law.nd rfl (Or.inr rfl) (pe_call (ok_l_bag T) (hr.mono (by decide)) rfl T.g_l_bag T.F_l_bag.kp T.b_l_bag .nil pass0 (pa_cons (pv 0) (pa_cons (pv 1) pa_nil))))
      (pss_cons (ps_setLc (i := 3) (own := [("_law_k", 17)]) rfl sc_law.nd rfl rfl (sw_true rfl rfl rfl (by decide +kernel)) (pi_range1 (by rfl) T.f_range (pa_cons (pe_op op_add pe_int (pe_call (ok_l_take T) (hr.mono (by decide)) rfl T.g_l_take T.F_l_take.kp T.b_l_take .nil pass0 (pa_cons (pv 2) (pa_cons pe_int pa_nil)))) pa_nil)) (blkOk_by (own := [("_law_k", 17)]) (N := ["_law_script", "_law_at", "_law_bag_here", "_law_row_here", "_law_back", "_law_one", "_law_more", "_law_deltas", "_law_size", "_law_share", "_law_due", "_law_begin", "_law_times", "_law_grain_here", "_law_brief", "_law_step", "_law_long", "_law_k"]) (sc := defScope s_law) (by decide +kernel)) (fun _ _ _ _ _ => (pg_name (i := 17) sc_law.nd rfl (Or.inl rfl))) (fun _ _ _ _ _ => pts_nil) (fun _ _ _ _ _ => (pe_call (ok_l_gap T) (hr.mono (by decide)) rfl T.g_l_gap T.F_l_gap.kp T.b_l_gap .nil pass0 (pa_cons (pv 2) pa_nil))))
      (pss_cons (ps_par (i := 11) (j := 12) (by rfl) sc_law.nd rfl rfl (by decide) rfl rfl (pa_cons (pe_op op_sub (pe_call (ok_l_take T) (hr.mono (by decide)) rfl T.g_l_take T.F_l_take.kp T.b_l_take .nil pass0 (pa_cons (pv 2) (pa_cons (pe_op op_pow pe_int pe_int) pa_nil))) (pe_op op_mulW pe_int (pe_op op_pow pe_int pe_int))) (pa_cons (pe_op op_add pe_int (pe_call (ok_l_take T) (hr.mono (by decide)) rfl T.g_l_take T.F_l_take.kp T.b_l_take .nil pass0 (pa_cons (pv 2) (pa_cons pe_int pa_nil)))) pa_nil)) (by rfl))
      (pss_cons (ps_par (i := 13) (j := 14) (by rfl) sc_law.nd rfl rfl (by decide) rfl rfl (pa_cons (pe_call (ok_l_grain T) (hr.mono (by decide)) rfl T.g_l_grain T.F_l_grain.kp T.b_l_grain .nil pass0 (pa_cons (pv 3) (pa_cons (pv 11) pa_nil))) (pa_cons (pe_slice sl_list (pv 3) po_none (po_some (pe_call (ok_l_least T) (hr.mono (by decide)) rfl T.g_l_least T.F_l_least.kp T.b_l_least .nil pass0 (pa_cons (pv 3) pa_nil)))) pa_nil)) (by rfl))
      (pss_cons (ps_if (pt_cmpR op_neS (pe_callB call_reprT (by rfl) T.f_repr (by decide +kernel) (pa_cons (pe_call (ok_show_grain T) (hr.mono (by decide)) rfl T.g_show_grain T.F_show_grain.kp T.b_show_grain .nil pass0 (pa_cons (pv 13) pa_nil)) pa_nil)) (pe_callB call_reprT (by rfl) T.f_repr (by decide +kernel) (pa_cons (pe_call (ok_l_row T) (hr.mono (by decide)) rfl T.g_l_row T.F_l_row.kp T.b_l_row .nil pass0 (pa_cons (pv 14) (pa_cons (pv 11) pa_nil))) pa_nil)) (nomark _)) (pss_one (ps_ret pe_bl)) pss_nil)
      (pss_cons (ps_set (i := 4) sc_law.nd rfl (Or.inl rfl) (pe_call (ok_read_grain T) (hr.mono (by decide)) rfl T.g_read_grain T.F_read_grain.kp T.b_read_grain .nil pass0 (pa_cons (pe_call (ok_l_row T) (hr.mono (by decide)) rfl T.g_l_row T.F_l_row.kp T.b_l_row .nil pass0 (pa_cons (pe_op op_rep (pv 3) (pv 12)) (pa_cons (pv 11) pa_nil))) pa_nil)))
      (pss_cons (ps_if (pt_cut (PW.pt (pw_or (pt_not (pt_cmpR (op_ownCmp rfl T.m_Grain_eq (ok_Grain_eq T) (hr.mono (by decide)) T.b_Grain_eq pass0 T.nf_Grain) (pv 4) (pv 13) (nomark _))) (pw_or1 (pt_cmpR op_neS (pe_callB (call_reprD hgu hr) (by rfl) T.f_repr (by decide +kernel) (pa_cons (pe_lst (pa_cons (pe_fld (pv 4) rfl) (pa_cons (pe_fld (pv 4) rfl) pa_nil))) pa_nil)) (pe_callB (call_reprD hgu hr) (by rfl) T.f_repr (by decide +kernel) (pa_cons (pe_lst (pa_cons (pe_callTy call_tuple_of (by rfl) T.f_tuple (by decide +kernel) (pa_cons (pv 14) pa_nil)) (pa_cons (pv 11) pa_nil))) pa_nil)) (nomark _)))))) (pss_one (ps_ret pe_bl)) pss_nil)
      (pss_cons (ps_set (i := 5) sc_law.nd rfl (Or.inl rfl) (pe_call (ok_l_map T) (hr.mono (by decide)) rfl T.g_l_map T.F_l_map.kp T.b_l_map .nil pass0 (pa_cons (pv 2) (pa_cons pe_int pa_nil))))
      (pss_cons (ps_set (i := 6) sc_law.nd rfl (Or.inr rfl) (pe_ix ix_list (pe_call (ok_l_again T) (hr.mono (by decide)) rfl T.g_l_again T.F_l_again.kp T.b_l_again .nil pass0 (pa_cons (pv 5) (pa_cons pe_int pa_nil))) pe_int (fun _ _ => rfl)))
      (pss_cons (ps_setLc (i := 7) (own := [("_law_k", 17)]) rfl sc_law.nd rfl rfl (sw_true rfl rfl rfl (by decide +kernel)) (pi_range1 (by rfl) T.f_range (pa_cons (pe_callB call_len (by rfl) T.f_len PySem.boot_len (pa_cons (pe_ix ix_list (pv 5) pe_int (fun _ _ => rfl)) pa_nil)) pa_nil)) (blkOk_by (own := [("_law_k", 17)]) (N := ["_law_script", "_law_at", "_law_bag_here", "_law_row_here", "_law_back", "_law_one", "_law_more", "_law_deltas", "_law_size", "_law_share", "_law_due", "_law_begin", "_law_times", "_law_grain_here", "_law_brief", "_law_step", "_law_long", "_law_k"]) (sc := defScope s_law) (by decide +kernel)) (fun _ _ _ _ _ => (pg_name (i := 17) sc_law.nd rfl (Or.inl rfl))) (fun _ _ _ _ _ => pts_nil) (fun _ _ _ _ _ => (pe_tup (pa_cons (pe_op op_sub (pe_ix (show IxR _ (rIxT K) from ix_tup) (pe_ix (show IxR _ (rIxL K) from ix_list) (pv 6) (pe_op op_add (pv 17) pe_int) (fun _ _ => rfl)) pe_int (fun _ _ => rfl)) (pe_ix (show IxR _ (rIxT K) from ix_tup) (pe_ix (show IxR _ (rIxL K) from ix_list) (pv 6) (pv 17) (fun _ _ => rfl)) pe_int (fun _ _ => rfl))) (pa_cons (pe_op op_sub (pe_ix (show IxR _ (rIxT K) from ix_tup) (pe_ix (show IxR _ (rIxL K) from ix_list) (pv 6) (pe_op op_add (pv 17) pe_int) (fun _ _ => rfl)) pe_int (fun _ _ => rfl)) (pe_ix (show IxR _ (rIxT K) from ix_tup) (pe_ix (show IxR _ (rIxL K) from ix_list) (pv 6) (pv 17) (fun _ _ => rfl)) pe_int (fun _ _ => rfl))) pa_nil)))))
      (pss_cons (ps_set (i := 8) sc_law.nd rfl (Or.inl rfl) (pe_call (ok_l_least_P T) (hr.mono (by decide)) rfl T.g_l_least T.F_l_least.kp T.b_l_least .nil pass0 (pa_cons (pv 7) pa_nil)))
      (pss_cons (ps_set (i := 9) sc_law.nd rfl (Or.inl rfl) (pe_op op_fdivW (pe_callB call_len (by rfl) T.f_len PySem.boot_len (pa_cons (pv 7) pa_nil)) (pv 8)))
      (pss_cons (ps_set (i := 10) sc_law.nd rfl (Or.inl rfl) (pe_call (ok_l_text T) (hr.mono (by decide)) rfl T.g_l_text T.F_l_text.kp T.b_l_text .nil pass0 (pa_cons (pe_lst (pa_cons (pe_op op_fdivW (pe_ix ix_list (pv 5) pe_int (fun _ _ => rfl)) (pv 9)) (pa_cons (pe_op op_fdivW (pe_ix ix_list (pv 5) pe_int (fun _ _ => rfl)) (pv 9)) (pa_cons (pe_slice sl_list (pe_ix ix_list (pv 5) pe_int (fun _ _ => rfl)) po_none (po_some (pv 8))) pa_nil)))) pa_nil)))
      (pss_cons (ps_par (i := 15) (j := 16) (by rfl) sc_law.nd rfl rfl (by decide) rfl rfl (pa_cons (pe_make T.mk_Step (ok_Step_init T) (hr.mono (by decide)) rfl T.g_Step T.b_Step_init .nil pass0 (pa_cons (pe_ix ix_list (pv 5) pe_int (fun _ _ => rfl)) (pa_cons (pe_ix ix_list (pv 5) pe_int (fun _ _ => rfl)) (pa_cons (pe_ix ix_list (pv 5) pe_int (fun _ _ => rfl)) pa_nil)))) (pa_cons (pe_call (ok_l_again T) (hr.mono (by decide)) rfl T.g_l_again T.F_l_again.kp T.b_l_again .nil pass0 (pa_cons (pv 5) (pa_cons (pe_op op_add pe_int (pe_call (ok_l_take T) (hr.mono (by decide)) rfl T.g_l_take T.F_l_take.kp T.b_l_take .nil pass0 (pa_cons (pv 2) (pa_cons pe_int pa_nil)))) pa_nil))) pa_nil)) (by rfl))
      (pss_cons (ps_if (pt_cut (PW.pt (pw_or (pt_cmpR op_neS (pe_callB call_reprT (by rfl) T.f_repr (by decide +kernel) (pa_cons (pe_call (ok_show_step T) (hr.mono (by decide)) rfl T.g_show_step T.F_show_step.kp T.b_show_step .nil pass0 (pa_cons (pv 15) pa_nil)) pa_nil)) (pe_callB call_reprT (by rfl) T.f_repr (by decide +kernel) (pa_cons (pv 10) pa_nil)) (nomark _)) (pw_or1 (pt_cmpR op_neS (pe_callB call_reprT (by rfl) T.f_repr (by decide +kernel) (pa_cons (pe_call (ok_show_step T) (hr.mono (by decide)) rfl T.g_show_step T.F_show_step.kp T.b_show_step .nil pass0 (pa_cons (pe_call (ok_read_step T) (hr.mono (by decide)) rfl T.g_read_step T.F_read_step.kp T.b_read_step .nil pass0 (pa_cons (pe_call (ok_l_text T) (hr.mono (by decide)) rfl T.g_l_text T.F_l_text.kp T.b_l_text .nil pass0 (pa_cons (pv 16) pa_nil)) pa_nil)) pa_nil)) pa_nil)) (pe_callB call_reprT (by rfl) T.f_repr (by decide +kernel) (pa_cons (pv 10) pa_nil)) (nomark _)))))) (pss_one (ps_ret pe_bl)) pss_nil)
      (pss_one (ps_if (pt_cut (PW.pt (pw_or (pt_not (pt_cmpR (op_ownCmp rfl T.m_Step_eq (ok_Step_eq T) (hr.mono (by decide)) T.b_Step_eq pass0 T.nf_Step) (pe_call (ok_read_step T) (hr.mono (by decide)) rfl T.g_read_step T.F_read_step.kp T.b_read_step .nil pass0 (pa_cons (pe_call (ok_l_text T) (hr.mono (by decide)) rfl T.g_l_text T.F_l_text.kp T.b_l_text .nil pass0 (pa_cons (pv 16) pa_nil)) pa_nil)) (pv 15) (nomark _))) (pw_or (pt_not (pt_cmpR (op_ownCmp rfl T.m_Step_eq (ok_Step_eq T) (hr.mono (by decide)) T.b_Step_eq pass0 T.nf_Step) (pe_call (ok_read_step T) (hr.mono (by decide)) rfl T.g_read_step T.F_read_step.kp T.b_read_step .nil pass0 (pa_cons (pv 10) pa_nil)) (pv 15) (nomark _))) (pw_or1 (pt_cmpR (op_ownCmp rfl T.m_Step_eq (ok_Step_eq T) (hr.mono (by decide)) T.b_Step_eq pass0 T.nf_Step) (pe_call (ok_read_step T) (hr.mono (by decide)) rfl T.g_read_step T.F_read_step.kp T.b_read_step .nil pass0 (pa_cons (pv 10) pa_nil)) (pe_op (op_ownI T.m_Step_add T.mro_Step T.ni_Step_add (ok_Step_add T) (hr.mono (by decide)) T.b_Step_add pass0) (pv 15) pe_int) (nomark _))))))) (pss_one (ps_ret pe_bl)) pss_nil))))))))))))))))))
      (pss_one (ps_ret pe_bl)))), ?_⟩)
  · obtain ⟨a, ns, rfl, _⟩ := h
    rfl
  · obtain ⟨a, ns, rfl, hS, hlen, q⟩ := h
    decreasing_trivial
    refine for_range (lo := 0) (fun i σ H' => ∃ v1 v2 v3 v4 v5 v6 v7 v8 v9 v10 v11 v12 v13 v14 v15 v16 v17 : Option V, σ = [some (.ref a), v1, v2, v3, v4, v5, v6, v7, v8, v9, v10, v11, v12, v13, v14, v15, v16, v17] ∧ Same H H') ⟨none, none, none, none, none, none, none, none, none, none, none, none, none, none, none, none, none, rfl, Same.refl _⟩ ?_ ?_
    rotate_left
    · rintro σ H0 ⟨v1, v2, v3, v4, v5, v6, v7, v8, v9, v10, v11, v12, v13, v14, v15, v16, v17, rfl, s0⟩
      exact q _
    rintro i σ H0 hi ⟨v1, v2, v3, v4, v5, v6, v7, v8, v9, v10, v11, v12, v13, v14, v15, v16, v17, rfl, s0⟩
    have hi5 : i < 4 := by
      split at hi <;> split at hi <;> omega
    have hS0 := s0.seq hS
    decreasing_trivial
    intro l H1 nl s1 B1
    have t1 := s0.trans s1
    have nl0 := s0.free nl
    decreasing_trivial
    intro d2 H2 d20 d21 c2 B2
    decreasing_trivial
    intro R3 nR3
    have hne3 : R3 ≠ l := B2.ne0 nR3
    refine lc_range (lo := 0) (n := (1 + d2).toNat) (fun j H' => ∃ (_ : Unit) (ls : List Int), H' R3 = some (.lst (ls.map V.int)) ∧ ls.length = j ∧ (∀ z ∈ ls, 0 < z ∧ z ≤ 10 ^ 15) ∧ But l H1 H' ∧ BagAt H' l) ⟨(), [], upd_same, rfl, (fun z hz => by cases hz), c2.trans (Same.new nR3).but, B2.new nR3⟩ ?_ ?_
    · rintro j H3 hj ⟨_, ls, hR, hl, hb, c3, B3⟩
      refine ⟨(by ((repeat (first | (with_reducible refine wipe_l (by decide) ?_) | (with_reducible refine wipe_lw (by decide) ?_) | (with_reducible refine wipe_r (by decide) ?_) | (with_reducible refine wipe_rw (by decide) ?_))); exact rfl)), ?_⟩
      refine iteT (A := _) (B := True) ?_
      decreasing_trivial
      intro z H4 z0 z1 c4 B4
      have hR4 := c4 _ _ hR hne3
      have hsz : (ls.map V.int).length < sizeLine := lt_size (by rw [List.length_map]; omega)
      decreasing_trivial
      refine ⟨(), ls ++ [z], by rw [upd_same, List.map_append]; rfl, by rw [List.length_append, hl]; rfl, fun y hy => ?_, (c3.trans c4).put (c2.free_ B2 nR3), B4.off hne3⟩
      · rcases List.mem_append.mp hy with e | e
        · exact hb y e
        · rw [List.mem_singleton.mp e]; exact ⟨z0, z1⟩
    rintro H3 ⟨_, ls, hR, hl, hb, c3, B3⟩
    have e15 : (10 : Int) ^ 15 = 1000000000000000 := by decide
    have hl4 : ls.length ≤ 4 := by omega
    have hlne : ls ≠ [] := by intro e; rw [e] at hl; simp at hl; omega
    have hrow : Gr.Row ls := ⟨hlne, by omega, hb⟩
    decreasing_trivial
    intro d4 H4 d40 d41 c4 B4
    have cm17 : CMulW 5 ((10 : Int) ^ (17 : Int).toNat) := mulW 64 64 (by decide) (by decide)
    decreasing_trivial
    intro d5 H5 d50 d51 c5 B5
    have hR5 := c5 _ _ (c4 _ _ hR hne3) hne3
    have c15 := (c3.trans c4).trans c5
    have hsh := Gr.shortest_rep hlne
    have hst : (d4 - 5 * (10 : Int) ^ (17 : Int).toNat).natAbs < 10 ^ 30 := by
      have e17 : (10 : Int) ^ (17 : Int).toNat = 100000000000000000 := by decide
      have e18 : (10 : Int) ^ (18 : Int).toNat = 1000000000000000000 := by decide
      rw [e17]
      rw [e18] at d41
      omega
    have hbs := row_small hrow
    have hbs2 : ∀ z ∈ Gr.shortest ls, z.natAbs < 10 ^ 30 := fun z hz => hbs z (hsh.mem hz)
    have hls2 : (Gr.shortest ls).length ≤ 12 := Nat.le_trans hsh.len (by omega)
    decreasing_trivial
    intro gv H6 s6 hg6
    have hR6 := s6 _ _ hR5
    have hl12 : ls.length ≤ 12 := by omega
    decreasing_trivial
    intro H7 s7
    have hR7 := s7 _ _ hR6
    decreasing_trivial
    intro p8 n_p8
    generalize e_H8 : upd _ p8 _ = H8
    have h_p8 := at_new e_H8
    have s_H8 := same_new e_H8 n_p8
    rw [cutV_to', ← List.map_take, ← Gr.shortest_take] at h_p8
    have hR8 := s_H8 _ _ hR7
    have hg8 := (hg6.same s7).same s_H8
    decreasing_trivial
    intro H9 s9
    have hasc := gTxt_asc (Gr.shortest ls) (d4 - 5 * (10 : Int) ^ (17 : Int).toNat)
    have hgl : (gTxt (Gr.shortest ls) (d4 - 5 * (10 : Int) ^ (17 : Int).toNat)).length ≤ 1000000 := Nat.le_trans (gTxt_len hls2 hbs2 hst) (by decide)
    have hasc' : ∀ c ∈ gTxt (Gr.shortest ls) (d4 - 5 * (10 : Int) ^ (17 : Int).toNat), c < 128 := hasc
    have hp9 := s9 _ _ h_p8
    decreasing_trivial
    intro H10 s10
    decreasing_trivial
    rw [decide_eq_true rfl]
    decreasing_trivial
    have hR10 := s10 _ _ (s9 _ _ hR8)
    have hp10 := s10 _ _ hp9
    have hg10 := (hg8.same s9).same s10
    have hS10 : SqL K H10 R3 (ls.map V.int) := SqL.of hR10
    obtain ⟨M, hM, hM1, hM3⟩ : ∃ M : Nat, 1 + d5 = (M : Int) ∧ 1 ≤ M ∧ M ≤ 3 := ⟨(1 + d5).toNat, by omega, by omega, by omega⟩
    have eM : (1 + d5).toNat = M := by omega
    have hlm : (ls.map V.int).length * (1 + d5).toNat ≤ sizeLine := le_size (by rw [List.length_map, eM]; have := Nat.mul_le_mul hl4 hM3; omega)
    decreasing_trivial
    intro p11 n_p11
    generalize e_H11 : upd _ p11 _ = H11
    have h_p11 := at_new e_H11
    have s_H11 := same_new e_H11 n_p11
    have er : (List.replicate (1 + d5).toNat (ls.map V.int)).flatten = ((List.replicate M ls).flatten).map V.int := by
      rw [eM, List.map_flatten, List.map_replicate]
    rw [er] at h_p11
    have hml : ((List.replicate M ls).flatten).length ≤ 12 := by
      rw [Ls.len_rep]
      have := Nat.mul_le_mul hM3 hl4
      omega
    have hrowM : Gr.Row (List.replicate M ls).flatten := ⟨fun e => by
      have := Ls.len_rep ls M
      rw [e] at this
      have h0 : 0 < ls.length := List.length_pos_iff.mpr hlne
      have h1 : 0 < M * ls.length := Nat.mul_pos (by omega) h0
      simp at this
      omega, hml, fun x hx => by
      rw [List.mem_flatten] at hx
      obtain ⟨y, hy, hx⟩ := hx
      rw [List.mem_replicate] at hy
      rw [hy.2] at hx
      exact hb x hx⟩
    have hbM := row_small hrowM
    decreasing_trivial
    intro H12 s12
    decreasing_trivial
    intro bv H13 s13 hb13
    rw [Gr.shortest_again (by omega) hlne] at hb13
    have hg13 := ((hg10.same s_H11).same s12).same s13
    have hp13 := ((s_H11.trans s12).trans s13) _ _ hp10
    have B13 : BagAt H13 l := (((((((B5.same s6).same s7).same s_H8).same s9).same s10).same s_H11).same s12).same s13
    have s513 : Same H5 H13 := ((((((s6.trans s7).trans s_H8).trans s9).trans s10).trans s_H11).trans s12).trans s13
    have hlst : (d4 - 5 * (10 : Int) ^ (17 : Int).toNat).natAbs.log2 < 1920 := lg19 (n := 140) (by omega)
    decreasing_trivial
    refine ⟨fun b H' => b = false ∧ Same H13 H', ?_, ?_⟩
    · have hb' := hb13
      have hg' := hg13
      obtain ⟨ga, gdx, gt, rfl, gha, ght⟩ := hb'
      obtain ⟨ga2, gdx2, gt2, rfl, gha2, ght2⟩ := hg'
      decreasing_trivial
      intro b hbq
      obtain rfl : b = true := hbq.mpr ⟨rfl, rfl⟩
      decreasing_trivial
      intro p14 n_p14
      generalize e_H14 : upd _ p14 _ = H14
      have h_p14 := at_new e_H14
      have s_H14 := same_new e_H14 n_p14
      have ght4 := s_H14 _ _ ght
      have sh : Sh 64 sizeLine (.list [.tuple ((Gr.shortest ls).map PyData.int), .int (d4 - 5 * (10 : Int) ^ (17 : Int).toNat)]) := Sh.mono (k := 2) (m := 2 * ((12 * (1921 + 2) + 5) + 2) + 3) (Sh.list (ds := [.tuple ((Gr.shortest ls).map PyData.int), .int (d4 - 5 * (10 : Int) ^ (17 : Int).toNat)]) (k := 1) (m := 12 * (1921 + 2) + 5) (n := 2) (fun d hd => by
        simp only [List.mem_cons, List.not_mem_nil, or_false] at hd
        rcases hd with rfl | rfl
        · exact Sh.tuple (k := 0) (m := 1921) (n := 12) (fun d hd => by
            obtain ⟨i, hi, rfl⟩ := List.mem_map.mp hd
            exact Sh.int (lg19 (n := 140) (by have := hbs2 i hi; omega))) (by rw [List.length_map]; exact hls2)
        · exact (Sh.int hlst).mono) (Nat.le_refl 2)) (by decide) (by decide)
      have dp : ∀ {H' : Hp} {p t : Addr}, H' p = some (.lst [.ref t, .int (d4 - 5 * (10 : Int) ^ (17 : Int).toNat)]) → H' t = some (.tup ((Gr.shortest ls).map V.int)) → Dp K H' (.ref p) (.list [.tuple ((Gr.shortest ls).map PyData.int), .int (d4 - 5 * (10 : Int) ^ (17 : Int).toNat)]) := fun h1 h2 => .lst (SqL.of h1) (.cons (dp_ints (SqT.of_ h2)) (.cons (.int _) .nil))
      decreasing_trivial
      refine ⟨_, rfl, dp h_p14 ght4, sh, ?_⟩
      have hp14 := s_H14 _ _ hp13
      decreasing_trivial
      refine .inl ⟨SqL.of hp14, fun tt nt => ?_⟩
      generalize e_H15 : upd _ tt _ = H15
      have h_tt := at_new e_H15
      have s_H15 := same_new e_H15 nt
      decreasing_trivial
      intro p16 n_p16
      generalize e_H16 : upd _ p16 _ = H16
      have h_p16 := at_new e_H16
      have s_H16 := same_new e_H16 n_p16
      decreasing_trivial
      refine ⟨_, rfl, dp h_p16 (s_H16 _ _ h_tt), sh, ?_⟩
      decreasing_trivial
      rw [decide_eq_true rfl]
      decreasing_trivial
      exact (s_H14.trans s_H15).trans s_H16
    rintro _ H14 ⟨rfl, s14⟩
    have B14 := B13.same s14
    have c14 : But l H1 H14 := (c15.trans s513.but).trans s14.but
    decreasing_trivial
    intro f p1 D1 H15 raw Bd1 l1 c6 B6 R1 nr1 nD1
    have h24 : (2 : Int).toNat * f.ps.length ≤ 240 := by show 2 * f.ps.length ≤ 240; omega
    have hn := raw.good.ne
    decreasing_trivial
    intro p2 D2 H16 np2 nD2 s16 R2
    have hr2 := R2.r
    have hS2 : SqL K H16 p2 [V.int (Sx.again f (2 : Int).toNat).P, V.int (Sx.again f (2 : Int).toNat).R, V.ref D2] := SqL.of hr2
    have R1b := R1.same s16
    have hr1b := R1b.r
    have hS1 : SqL K H16 p1 [V.int f.P, V.int f.R, V.ref D1] := SqL.of hr1b
    obtain ⟨xs1, hD1, hx1⟩ := R1b.d
    have hSD1 : SqL K H16 D1 xs1 := SqL.of hD1
    have hx1l : xs1.length = f.ps.length := hx1.1
    have hb62 : (xs1.length : Int) < 2 ^ 62 := by rw [hx1l]; omega
    obtain ⟨xs2, hD2, hx2⟩ := R2.d
    obtain ⟨f0, o0, hev0, hbd0⟩ := raw.form
    have hsz0 := dl_size raw o0 hev0
    obtain ⟨mm, mm0, hmm, hmP, hmR, _⟩ := Sx.part_at raw o0 hev0
    have hfl0 : f0.ps.length ≤ f.ps.length := by rw [hmm]; exact Nat.le_mul_of_pos_right _ mm0
    have htk := take_form raw o0 hev0 hfl0
    have Bd0 : Sx.Bd 96 f0 := (hbd0 _ Bd1).mono (by decide)
    have hn0 := o0.g.ne
    have raw0 := o0.raw
    decreasing_trivial
    clear hb62
    intro D7 nD7
    refine lc_range (lo := 0) (n := xs1.length) (fun j H' => ∃ acc, H' D7 = some (.lst acc) ∧ PairsX H' acc ((dl f).take j) ∧ Same H16 H') ⟨[], upd_same, PairsX.nil, Same.new nD7⟩ ?_ ?_
    · rintro j H17 hj ⟨acc, hD, hP, s17⟩
      rw [hx1l] at hj
      have hal : (Sx.again f (2 : Int).toNat).ps.length = 2 * f.ps.length := Sx.again_len f _
      obtain ⟨ra, ea, ga⟩ := (hx2.same s17).at_ (i := j + 1) (by rw [hal]; omega)
      obtain ⟨rb, eb, gb⟩ := (hx2.same s17).at_ (i := j) (by rw [hal]; omega)
      rw [again_at (show j + 1 < (2 : Int).toNat * f.ps.length by show j + 1 < 2 * f.ps.length; omega)] at ga
      rw [again_at (show j < (2 : Int).toNat * f.ps.length by show j < 2 * f.ps.length; omega)] at gb
      have atA : atI xs2 (0 + (j : Int) + 1) = some (.ref ra) := by rw [show 0 + (j : Int) + 1 = ((j + 1 : Nat) : Int) by omega]; exact ea
      have atB : atI xs2 (0 + (j : Int)) = some (.ref rb) := by rw [Int.zero_add]; exact eb
      have SA : SqT K H17 ra [.int (Sx.pl f ((j + 1 : Nat) : Int)), .int (Sx.vl f ((j + 1 : Nat) : Int))] := SqT.of_ ga
      have SB : SqT K H17 rb [.int (Sx.pl f (j : Int)), .int (Sx.vl f (j : Int))] := SqT.of_ gb
      have SD2 : SqL K H17 D2 xs2 := SqL.of (s17 _ _ hD2)
      have hdl : (dl f)[j]? = some (Sx.pl f ((j : Int) + 1) - Sx.pl f j, Sx.vl f ((j : Int) + 1) - Sx.vl f j) := by
        have := dl_at (f := f) hn j
        rw [dl_len, Nat.mod_eq_of_lt hj] at this
        exact this
      refine ⟨(by ((repeat (first | (with_reducible refine wipe_l (by decide) ?_) | (with_reducible refine wipe_lw (by decide) ?_) | (with_reducible refine wipe_r (by decide) ?_) | (with_reducible refine wipe_rw (by decide) ?_))); exact rfl)), ?_⟩
      refine iteT (A := _) (B := True) ?_
      have hszc : acc.length < sizeLine := lt_size (by rw [hP.1, List.length_take, dl_len]; omega)
      decreasing_trivial
      intro t' nt
      have nDt : D7 ≠ t' := ne_of_none hD nt
      refine ⟨acc, Same.new nt _ _ hD, hszc, acc ++ [.ref t'], upd_same, ?_, (s17.trans (Same.new nt)).put nD7⟩
      rw [List.take_add_one, hdl]
      have k1 := fun o => (Same.new (o := o) nt).kp.trans (Kp.mut (Same.new nt _ _ hD) rfl (o := .lst (acc ++ [.ref t'])))
      exact (hP.kp (k1 _)).push (q := (Sx.pl f ((j : Int) + 1) - Sx.pl f j, Sx.vl f ((j : Int) + 1) - Sx.vl f j)) (by rw [upd_ne (Ne.symm nDt), upd_same]; rfl)
    rintro H17 ⟨acc, hD, hP, s17⟩
    rw [List.take_of_length_le (by rw [dl_len, hx1l]; exact Nat.le_refl _)] at hP
    have hdn : dl f ≠ [] := fun e => by
      have := dl_len f
      rw [e] at this
      simp at this
      omega
    have hdl12 : (dl f).length ≤ 12 := by rw [dl_len]; omega
    have hPL : PairsL H17 D7 (dl f) := ⟨_, hD, hP⟩
    have hacl : acc.length = f.ps.length := by rw [hP.1, dl_len]
    decreasing_trivial
    intro H18 s18
    rw [hsz0]
    have hSD7 : SqL K H18 D7 acc := SqL.of (s18 _ _ hD)
    have eS : (acc.length : Int) / (f0.ps.length : Int) = (mm : Int) := by
      rw [hacl, hmm, Int.natCast_mul, Int.mul_ediv_cancel_left _ (by omega)]
    have hmm12 : mm ≤ 12 := Nat.le_trans (Nat.le_mul_of_pos_left mm hn0) (by rw [← hmm]; omega)
    have cd1 : CDivW (acc.length : Int) (f0.ps.length : Int) := ⟨by omega, log2_lt (n := 64) (by decide) (lt64 (by omega) (by omega)) (by decide)⟩
    have cd2 : CDivW f.P ((acc.length : Int) / (f0.ps.length : Int)) := by rw [eS]; exact ⟨by omega, log2_lt (n := 64) (by decide) (lt64 (by omega) (by omega)) (by decide)⟩
    have cd3 : CDivW f.R ((acc.length : Int) / (f0.ps.length : Int)) := by rw [eS]; exact ⟨by omega, log2_lt (n := 64) (by decide) (lt64 (by omega) (by omega)) (by decide)⟩
    have s618 := s17.trans s18
    have R18 := R1b.same s618
    have hr18 := R18.r
    have hS18 : SqL K H18 p1 [V.int f.P, V.int f.R, V.ref D1] := SqL.of hr18
    have hD18 : SqL K H18 D1 xs1 := SqL.of (s618 _ _ hD1)
    decreasing_trivial
    intro p19 n_p19
    generalize e_H19 : upd _ p19 _ = H19
    have h_p19 := at_new e_H19
    have s_H19 := same_new e_H19 n_p19
    rw [cutV_to'] at h_p19
    have hx19 := (((hx1.same s618).take f0.ps.length)).same s_H19
    rw [htk] at hx19
    decreasing_trivial
    intro p20 n_p20
    generalize e_H20 : upd _ p20 _ = H20
    have h_p20 := at_new e_H20
    have s_H20 := same_new e_H20 n_p20
    have hp20 : H20 p20 = some (.lst [V.int (f.P / ((acc.length : Int) / (f0.ps.length : Int))), V.int (f.R / ((acc.length : Int) / (f0.ps.length : Int))), .ref p19]) := h_p20
    rw [eS, ← hmP, ← hmR, Int.mul_ediv_cancel _ (show (mm : Int) ≠ 0 by omega), Int.mul_ediv_cancel _ (show (mm : Int) ≠ 0 by omega)] at hp20
    have Rdue : RowAt H20 p20 p19 f0 := ⟨hp20, ⟨_, s_H20 _ _ h_p19, hx19.same s_H20⟩⟩
    have hl240 := o0.g.len
    decreasing_trivial
    intro H21 s21
    have R21 := ((R18.same s_H19).same s_H20).same s21
    have hr21 := R21.r
    have hS21 : SqL K H21 p1 [V.int f.P, V.int f.R, V.ref D1] := SqL.of hr21
    decreasing_trivial
    refine step_new R21.d raw fun ua u H22 s22 hu eu bu => ?_
    obtain rfl : u = f0 := hu.ok.ext o0 (fun x => by rw [eu, hev0])
    have s1622 : Same H15 H22 := ((((s16.trans s618).trans s_H19).trans s_H20).trans s21).trans s22
    have B22 := B6.same s1622
    have R22 := R21.same s22
    decreasing_trivial
    intro d6 H23 d60 d61 c23 B23
    have R23 := R22.but B22 c23 nr1 nD1
    have hu23 := hu.kp (B22.kp c23)
    obtain ⟨M2, hM2, h2a, h2b⟩ : ∃ M2 : Nat, (1 + d6).toNat = M2 ∧ 1 ≤ M2 ∧ M2 ≤ 20 := ⟨(1 + d6).toNat, rfl, by omega, by omega⟩
    have hl2 : (1 + d6).toNat * f.ps.length ≤ 240 := by rw [hM2]; have := Nat.mul_le_mul h2b (show f.ps.length ≤ 12 by omega); omega
    obtain ⟨rawL, evL, BdL⟩ := Sx.again_rawM raw (m := (1 + d6).toNat) (by omega) hl2 Bd1 (by decide)
    decreasing_trivial
    intro p3 D3 H24 np3 nD3 s24 R24
    generalize Sx.again f (1 + d6).toNat = fL at *
    have BdL96 : Sx.Bd 96 fL := BdL.mono (by decide)
    have hlL := rawL.good.len
    have hu24 := hu23.same s24
    have asc0 : ∀ c ∈ sTxt u, c < 128 := sTxt_asc u
    have len0 : (sTxt u).length ≤ 1000000 := Nat.le_trans (sTxt_len Bd0 hl240) (by decide)
    have c1524 : But l H15 H24 := (s1622.but.trans c23).trans s24.but
    decreasing_trivial
    refine ⟨fun b H' => b = false ∧ Same H24 H', ?_, ?_⟩
    · decreasing_trivial
      intro H25 s25
      decreasing_trivial
      rw [decide_eq_true rfl]
      have R25 := R24.same s25
      decreasing_trivial
      intro H26 s26
      decreasing_trivial
      intro xa g H27 s27 hg eg bg
      obtain rfl : g = u := hg.ok.ext o0 (fun x => by rw [eg, evL, hev0])
      decreasing_trivial
      intro H28 s28
      decreasing_trivial
      rw [decide_eq_true rfl]
      decreasing_trivial
      exact ((s25.trans s26).trans s27).trans s28
    rintro _ H25 ⟨rfl, s25⟩
    have R25 := R24.same s25
    have hu25 := hu24.same s25
    decreasing_trivial
    refine ⟨fun b H' => b = false ∧ Same H25 H', ?_, ?_⟩
    · decreasing_trivial
      intro H26 s26
      decreasing_trivial
      intro xa g H27 s27 hg eg bg
      obtain rfl : g = u := hg.ok.ext o0 (fun x => by rw [eg, evL, hev0])
      have hu27 := (hu25.same s26).same s27
      obtain ⟨dxa, fsa, ia⟩ := hg.ins
      obtain ⟨dxb, fsb, ib⟩ := hu27.ins
      decreasing_trivial
      intro b H28 hb28 s28
      obtain rfl : b = true := hb28.mpr rfl
      decreasing_trivial
      intro ya g2 H29 s29 hg2 eg2 bg2
      obtain rfl : g2 = g := hg2.ok.ext o0 (fun x => by rw [eg2])
      have hu29 := (hu27.same s28).same s29
      obtain ⟨dxc, fsc, ic⟩ := hg2.ins
      obtain ⟨dxd, fsd, id_⟩ := hu29.ins
      decreasing_trivial
      intro b2 H30 hb30 s30
      obtain rfl : b2 = true := hb30.mpr rfl
      have hu30 := hu29.same s30
      decreasing_trivial
      intro za g3 H31 s31 hg3 eg3 bg3
      obtain rfl : g3 = g2 := hg3.ok.ext o0 (fun x => by rw [eg3])
      have hu31 := hu30.same s31
      obtain ⟨dxe, fse, ie⟩ := hg3.ins
      obtain ⟨dxf, fsf, if_⟩ := hu31.ins
      decreasing_trivial
      intro w k H32 s32 hk ek bk
      have hg32 := hg3.same s32
      have hk2 := hk
      obtain ⟨kb, kdx, kt, rfl, kk1, kk2⟩ := hk2
      obtain ⟨dxg, fsg, ig⟩ := hg32.ins
      decreasing_trivial
      intro b3 H33 hb33 s33
      obtain rfl : b3 = false := by
        cases b3 with
        | false => rfl
        | true =>
          have e := hb33.mp rfl
          have h0 : Sx.ev k 0 = Sx.ev g3 0 + 1 := ek 0
          rw [← e] at h0
          omega
      decreasing_trivial
      exact ((((((s26.trans s27).trans s28).trans s29).trans s30).trans s31).trans s32).trans s33
    rintro _ H26 ⟨rfl, s26⟩
    decreasing_trivial
    iterate 17 (apply @Exists.intro (Option V))
    refine And.intro ?_ ((t1.but_ nl0 (((c14.trans c6).trans c1524))).trans (s25.trans s26))
    try simp only [List.set_cons_zero, List.set_cons_succ]
    exact rfl
end
end K81

open PySem PySem.W PySem.Calls PyProof.Rows
set_option maxRecDepth 100000 in
set_option maxHeartbeats 0 in
theorem PySem.Challenge.cw_rangeends_k81_written_grains_and_steps_holds : PySem.Challenge.rw_rangeends_k81_written_grains_and_steps.Holds := by
  w_on; o_law
  refine HandSHeadRun.head_any (r := OpenLaw.row PySem.Challenge.rw_rangeends_k81_written_grains_and_steps) (q := view (OpenLaw.row PySem.Challenge.rw_rangeends_k81_written_grains_and_steps).prog [58]) (H := K81.hk) (ob := K81.ob) (M := 12000) (loose := K81.loose) (d := HandSHeadRun.topDef (OpenLaw.row PySem.Challenge.rw_rangeends_k81_written_grains_and_steps).prog 58) (kwd := []) K81.ob_eq
    (by kernel_rfl) (fun s => by kernel_rfl) K81.run (by kernel_rfl) (by kernel_rfl) (by kernel_rfl) (by rfl) (by first | assumption | decide +kernel) (by decide +kernel) ⟨rfl, rfl, rfl, rfl, rfl, by decide +kernel⟩ ?hw ?hc
  case hw => w_witness2
  case hc =>
    refine L2.walk_ofG (l := PySem.Challenge.rw_rangeends_k81_written_grains_and_steps) (n := 63) (k := 16) (x := "_law_script") (CX := L2.CX0) rfl (by decide) (by kernel_rfl) ⟨rfl, by decide, by decide⟩ ?F (fun _ _ _ _ z => z)
    intro w mg fa h Y G hmg0
    obtain ⟨K, KX, c⟩ := Y
    have hmg : mg ("law" : PySem.Str) = some (.ref fa) := by
      have e : (HandSHeadRun.topDef (OpenLaw.row PySem.Challenge.rw_rangeends_k81_written_grains_and_steps).prog 58).name = ("law" : PySem.Str) := by kernel_rfl
      rw [← e]
      exact hmg0
    obtain ⟨T⟩ := K81.tx_mk KX G c
    have e := hmg.symm.trans T.g_law
    cases e
    have b := L2.FunD.bindsA (ps := ["_law_script"]) T.F_law fun _ _ _ _ _ _ us hl => match us, hl with | [_], _ => rfl
    exact ⟨K, T.fd_law, K81.sp_law K, KX, fun s v => b s [v] rfl, fun H a ns hl _ hS => ⟨a, ns, rfl, hS, hl, fun _ => rfl⟩, fun base _ _ => K81.ok_law (P := (PySem.Challenge.rw_rangeends_k81_written_grains_and_steps).prog) (w := w) (base := base) T⟩
