import PyProof.Rows.All
import HandS.ForMost
import HandS.Walk
import HandS.Property
import PySem.Syntax
import PyProof.ReprReads
import PyProof.Rows.TmSorted
import PyProof.Rows.StrMeet
import HandS.SortRule
import HandS.TupSets
import HandS.Wide
import HandS.IsInst
import HandS.HeadHook4
import HandS.Defaults
import HandS.HeadEnd
import PyProof.Rows.NestShow
import HandS.ClsMeth
import HandS.TupMul
import HandS.TupAny
import PyProof.Rows.SeqMore
import HandS.Deep
import HandS.List
import HandS.HeadWalk
import HandS.Zip
import HandS.SetFor
import HandS.Strs
import PyProof.Draws
import PyProof.EnumMake
import HandS.RaiseMore
import HandS.Conv
import HandS.Style
import HandS.Star
import HandS.NoneIn
import HandS.Flow
import HandS.More
import PyProof.RulesMatch
import HandS.HeadNt
import HandS.Head0
import HandS.Head1
import HandS.Head2
import KE.KStateDown
import Lean
import PySem.Challenge.RW_centbook_k06_states_and_parts
set_option Elab.async false
set_option linter.all false
set_option maxRecDepth 100000
set_option maxHeartbeats 0
/-! Operators of an own class, over the hand layer. -/
namespace Eng
open PySem PySem.Spec PyProof.Rows L2
open PySem.W (InstAt)

section
variable {X : Cx}
theorem inst_of {pins : List (Addr × Obj)} {σ : L2.St} {H : Hp} {s : Shared} {a C dx : Addr} {fs : List (PySem.Str × V)} (I : Inv X pins σ H s) (e : H a = some (.ins C dx fs)) :
    ∃ od, InstAt s.heap a (PySem.W.instObj C dx) C (some od) := by
  obtain ⟨mA, O, _⟩ := ins_get I.hok e
  obtain ⟨od, J, _⟩ := O.look
  exact ⟨od, J⟩
theorem relV_ni {v : V} {u : Value} (r : RelV v u) {Q : Value → Shared → Prop} {s : Shared} (q : Q u s) : PySem.W.CmpBack Q u s := by
  cases v with
  | non => cases r; exact q
  | bl b => cases r; exact q
  | int i => obtain ⟨t, rfl⟩ := r; exact q
  | str i => obtain ⟨t, rfl⟩ := r; exact q
  | byt i => obtain ⟨t, rfl⟩ := r; exact q
  | flt i => obtain ⟨t, rfl⟩ := r; exact q
  | ref a => cases r; exact q
  | ty n => cases r; exact q

/-- a special method of the class: a def of the text -/
structure Spc (K : PySem.W.Frag) (C : Addr) (m : PySem.Str) (f : Addr) : Prop where
  at_ : PySem.W.findIn K (.ref C) m = some (some (.ref f))
  fn : PySem.W.isFn K (.ref f) = true

variable {k : Nat} {f C : Addr} {fd : FuncData} {ps : List PySem.Str} {sp : Sp}
/-- x op y, both instances of C -/
theorem op_own2 {op : Operator} (hc : PySem.W.selfFirst X.K C = true) (hs : Spc X.K C (PySem.dunder op.info.2) f)
    (F : FnOk X.prog X.w X.K X.mg X.base CX0 k f fd ps sp) (hr : Room k X.A) (hb : Binds X.K fd ps []) :
    OpR X (binaryOp op) (fun x y H Q => ∃ a dx fs b dy gs, x = .ref a ∧ y = .ref b ∧ H a = some (.ins C dx fs) ∧ H b = some (.ins C dy gs) ∧ sp [.ref a, .ref b] H Q E0) := by
  intro pins s σ H x y v u Q I rx ry h
  obtain ⟨a, dx, fs, b, dy, gs, rfl, rfl, ha, hb', h⟩ := h
  cases rx; cases ry
  obtain ⟨m, hF⟩ := I.fr
  obtain ⟨od, J⟩ := inst_of I ha
  obtain ⟨od2, J2⟩ := inst_of I hb'
  refine PySem.W.binop_K hF I.ok.mod.kin J J2.type hc hs.at_ hs.fn (wpAny_mono (run_fn (us := [.ref a, .ref b]) (vs := [.ref a, .ref b]) F hr hb .nil pass0 I (.cons rfl (.cons rfl .nil)) h) (fun z s' hz => ?_) fun _ _ e => e)
  obtain ⟨v', H', I', r', q⟩ := id hz
  exact relV_ni r' hz
/-- x op n, x an instance of C, n an int -/
theorem op_ownI {op : Operator} {fo ro rc : Option Value} (hc : PySem.W.selfFirst X.K C = true) (hs : Spc X.K C (PySem.dunder op.info.2) f)
    (hrr : PySem.W.findIn X.K (.ref C) (dunderR op.info.2) = some rc) (hp : rc = none ∨ ∃ g : Addr, rc = some (.ref g))
    (h1 : PySem.W.findIn X.K (.type "int") (PySem.dunder op.info.2) = some fo) (h2 : PySem.W.findIn X.K (.type "int") (dunderR op.info.2) = some ro) (hsub : PySem.W.subIn X.K (.type "int") (.ref C) = some false)
    (F : FnOk X.prog X.w X.K X.mg X.base CX0 k f fd ps sp) (hr : Room k X.A) (hb : Binds X.K fd ps []) :
    OpR X (binaryOp op) (fun x y H Q => ∃ a dx fs i, x = .ref a ∧ y = .int i ∧ H a = some (.ins C dx fs) ∧ sp [.ref a, .int i] H Q E0) := by
  intro pins s σ H x y v u Q I rx ry h
  obtain ⟨a, dx, fs, i, rfl, rfl, ha, h⟩ := h
  cases rx
  obtain ⟨t, rfl⟩ := ry
  obtain ⟨m, hF⟩ := I.fr
  obtain ⟨od, J⟩ := inst_of I ha
  refine PySem.W.ksp_binT (T := "int") hF I.ok.mod.kin J rfl hc hs.at_ hs.fn hrr hp h1 h2 hsub (wpAny_mono (run_fn (us := [.ref a, .int i t]) (vs := [.ref a, .int i]) F hr hb .nil pass0 I (.cons rfl (.cons ⟨t, rfl⟩ .nil)) h) (fun z s' hz => ?_) fun _ _ e => e)
  obtain ⟨v', H', I', r', q⟩ := id hz
  exact relV_ni r' hz
/-- -x -/
theorem un_own (hs : Spc X.K C "__neg__" f) (F : FnOk X.prog X.w X.K X.mg X.base CX0 k f fd ps sp) (hr : Room k X.A) (hb : Binds X.K fd ps []) :
    UnR X (unaryOp .USub) (fun x H Q => ∃ a dx fs, x = .ref a ∧ H a = some (.ins C dx fs) ∧ sp [.ref a] H Q E0) := by
  intro pins s σ H x v Q I rx h
  obtain ⟨a, dx, fs, rfl, ha, h⟩ := h
  cases rx
  obtain ⟨m, hF⟩ := I.fr
  obtain ⟨od, J⟩ := inst_of I ha
  exact PySem.W.ksp_neg hF I.ok.mod.kin J hs.at_ hs.fn (run_fn (us := [.ref a]) (vs := [.ref a]) F hr hb .nil pass0 I (.cons rfl .nil) h)
/-- x == y, by its own __eq__ -/
theorem op_eqOwn (hs : Spc X.K C "__eq__" f) (F : FnOk X.prog X.w X.K X.mg X.base CX0 k f fd ps sp) (hr : Room k X.A) (hb : Binds X.K fd ps []) :
    OpR X (compareOp .Eq) (fun x y H Q => ∃ a dx fs, x = .ref a ∧ H a = some (.ins C dx fs) ∧ (∃ b dy gs, y = .ref b ∧ H b = some (.ins C dy gs)) ∧ sp [x, y] H Q E0) := by
  intro pins s σ H x y v u Q I rx ry h
  obtain ⟨a, dx, fs, rfl, ha, ⟨b, dy, gs, rfl, hb'⟩, h⟩ := h
  cases rx; cases ry
  obtain ⟨m, hF⟩ := I.fr
  obtain ⟨od, J⟩ := inst_of I ha
  obtain ⟨od2, J2⟩ := inst_of I hb'
  refine PySem.W.cmp_ofEq (PySem.W.cmp_K (tb := .ref C) hr.units0 hF I.ok.mod.kin J J2.type (by unfold PySem.W.notFirst; simp) hs.at_ hs.fn (wpAny_mono (run_fn (us := [.ref a, .ref b]) (vs := [.ref a, .ref b]) F hr hb .nil pass0 I (.cons rfl (.cons rfl .nil)) h) (fun z s' hz => ?_) fun _ _ e => e))
  obtain ⟨v', H', I', r', q⟩ := id hz
  exact relV_ni r' hz
end

/-! ### x != y where the class has __eq__ alone -/
section
variable {prog : Program} {w : World} {A : Around} {E : Value → Shared → Prop} {s : Shared} {K : PySem.W.Frag} {x C f : Addr} {ox : Obj} {od : Option Obj} {b : Value}
open PySem.W
theorem objNe_K (X : K.In s.heap) (I : InstAt s.heap x ox C od) (hu : A.units < cLine) (he : findIn K (.ref C) "__eq__" = some (some (.ref f))) (hf : isFn K (.ref f) = true) {Q : PySem.Fin → Shared → Prop}
    (hcall : wpAny (model prog w) A (call (.ref f) [.ref x, b]) (fun v s' => ∃ c, v = .bool c ∧ Q (.done (.ret (.bool (!c)))) s') E s) :
    wpAny (model prog w) A (Builtin.«object.__ne__» ⟨[.ref x, b], []⟩) Q E s := by
  unfold Builtin.«object.__ne__»
  refine wpAny_bind (m := PySem.slotArgs "__ne__" 1 ⟨[.ref x, b], []⟩) (wpAny_pure ?_)
  refine wpAny_bind (wpAny_cRoomFor hu ?_)
  refine wpAny_bind (m := callSpecialIfBound? (.ref x) (Str.ofString "__eq__") [b]) (ifBound_K X I he hf (wpAny_mono hcall (fun v s' hv => ?_) fun _ _ e => e))
  obtain ⟨c, rfl, hq⟩ := hv
  exact wpAny_bind (m := truthy (.bool c)) (wpAny_truthy_bool (wpAny_pure hq))
theorem ne_check {M : Model} {A : Around} {Q : Unit → Shared → Prop} (X : K.In s.heap) (I : InstAt s.heap x ox C od) (hsub : subIn K (.ref C) (.type "object") = some true) (hq : Q () s) :
    wpAny M A (checkBuiltinCall "object.__ne__" ⟨[.ref x, b], []⟩) Q E s := by
  have ha := PySem.F.cmpArgs_ne (.ref x) b
  simp only [checkBuiltinCall, PySem.F.cmpKind_ne, PySem.F.cmpSplit_ne]
  refine wpAny_bind ?_
  unfold isInstance
  refine wpAny_bind (I.type.here ((looks_subIn X hsub).here ?_))
  simp only [Bool.not_true, Bool.false_eq_true, if_false]
  cases hsig : Manifest.signature? "object.__ne__" with
  | none => first | exact wpAny_pure hq | exact wpAny_bind (wpAny_pure (wpAny_pure hq)) | exact wpAny_pure (wpAny_pure hq)
  | some sig =>
    simp only [argsOk, hsig] at ha
    have h2 : Bind.checkArgs "object.__ne__" sig ⟨.ref x :: [b], []⟩ = pure () := ha
    first
      | (show wpAny M A (Bind.checkArgs "object.__ne__" sig ⟨.ref x :: [b], []⟩) Q E _; rw [h2]; exact wpAny_pure hq)
      | (refine wpAny_bind (wpAny_pure ?_); show wpAny M A (Bind.checkArgs "object.__ne__" sig ⟨.ref x :: [b], []⟩) Q E _; rw [h2]; exact wpAny_pure hq)
theorem tryNe {A : Around} {Q : Option Value → Shared → Prop} (X : K.In s.heap) (I : InstAt s.heap x ox C od) (hu : A.units + 1 < cLine) (hn : findIn K (.ref C) "__ne__" = some (some (.builtin "object.__ne__"))) (hsub : subIn K (.ref C) (.type "object") = some true)
    (he : findIn K (.ref C) "__eq__" = some (some (.ref f))) (hf : isFn K (.ref f) = true)
    (hcall : wpAny (model prog w) A.in1 (call (.ref f) [.ref x, b]) (fun v s' => ∃ c, v = .bool c ∧ Q (some (.bool (!c))) s') E s) :
    wpAny (model prog w) A (tryCompare (.ref x) "__ne__" b) Q E s := by
  have bnd : bindSpecial (.builtin "object.__ne__") (.ref x) = pure (.builtin "object.__ne__", [.ref x]) := PySem.F.cmp_object.ne.bind (.ref x)
  have fin : wpAny (model prog w) A (call (.builtin "object.__ne__") [.ref x, b]) (fun v s' => ∃ c, v = .bool c ∧ Q (some (.bool c)) s') E s := by
    refine wpAny_call (codeAny_call_builtin PySem.F.cmp_object.ne.plain PySem.F.cmpEntry_ne (ne_check X I hsub (objNe_K (A := A.in1) X I hu he hf (wpAny_mono hcall (fun v s' hv => ?_) fun _ _ e => e))))
    obtain ⟨c, rfl, hq⟩ := hv
    exact ⟨c, rfl, ⟨!c, rfl, hq⟩⟩
  have fin2 : wpAny (model prog w) A (call (.builtin "object.__ne__") ([.ref x] ++ [b]) >>= fun v => pure (some v)) (fun r s' => ∃ c, r = some (.bool c) ∧ Q (some (.bool c)) s') E s :=
    wpAny_bind (wpAny_mono fin (fun v s' hv => wpAny_pure (by obtain ⟨c, rfl, q⟩ := hv; exact ⟨c, rfl, q⟩)) fun _ _ e => e)
  unfold tryCompare
  refine wpAny_bind (m := callSpecialIfBound? (.ref x) (Str.ofString "__ne__") [b]) ?_
  simp only [callSpecialIfBound?, bindSpecialIfBound?]
  refine wpAny_holding (wpAny_bind (wpAny_bind (wpAny_bind (I.type.here ((looks_findIn X hn).here ?_)))))
  simp only [bnd]
  have fin3 : wpAny (model prog w) A (call (.builtin "object.__ne__") ([.ref x] ++ [b]) >>= fun v => pure (some v)) (fun r s' => wpAny (model prog w) A (match r with
      | some .notImplemented => pure none
      | none => pure none
      | some v => pure (some v)) Q E s') E s := wpAny_mono fin2 (fun r s' hr => by obtain ⟨c, rfl, q⟩ := hr; exact wpAny_pure q) fun _ _ e => e
  refine wpAny_bind (wpAny_askSetting (wpAny_ite ?_))
  split
  · refine wpAny_bind (wpAny_pure (wpAny_pure ?_))
    first | exact fin3 | (refine wpAny_mono fin2 (fun r s' hr => ?_) fun _ _ e => e; obtain ⟨c, rfl, q⟩ := hr; exact wpAny_pure q)
  · refine wpAny_tryCatch (wpAny_bind (wpAny_pure (wpAny_pure ?_)))
    first | exact fin3 | (refine wpAny_mono fin2 (fun r s' hr => ?_) fun _ _ e => e; obtain ⟨c, rfl, q⟩ := hr; exact wpAny_pure q)
theorem rcNe {Q : Value → Shared → Prop} {tb : Value} (X : K.In s.heap) (I : InstAt s.heap x ox C od) (hu : A.units + 1 < cLine) (hb : Looks (model prog w) s.heap (typeOf b) tb) (hnf : notFirst K C tb = true)
    (hn : findIn K (.ref C) "__ne__" = some (some (.builtin "object.__ne__"))) (hsub : subIn K (.ref C) (.type "object") = some true) (he : findIn K (.ref C) "__eq__" = some (some (.ref f))) (hf : isFn K (.ref f) = true)
    (hcall : wpAny (model prog w) A.in1 (call (.ref f) [.ref x, b]) (fun v s' => ∃ c, v = .bool c ∧ Q (.bool (!c)) s') E s) : wpAny (model prog w) A (richCompare .NotEq (.ref x) b) Q E s := by
  have one : wpAny (model prog w) A (tryCompare (.ref x) (cmpInfo .NotEq).2.1 b) (fun r s' => ∃ v, r = some v ∧ Q v s') E s :=
    tryNe X I hu hn hsub he hf (wpAny_mono hcall (fun v s' hv => by obtain ⟨c, rfl, q⟩ := hv; exact ⟨c, rfl, _, rfl, q⟩) fun _ _ e => e)
  unfold richCompare
  simp only [oneThing_ref]
  refine wpAny_holding (wpAny_bind (wpAny_cRoomFor (Nat.lt_of_succ_lt hu) ?_))
  refine wpAny_bind (I.type.here (wpAny_bind (hb.here ?_)))
  split
  · rename_i q
    have e : subIn K tb (.ref C) = some false := by
      rcases Bool.or_eq_true_iff.mp hnf with e | e
      · rw [beq_iff_eq.mp e] at q; simp at q
      · exact beq_iff_eq.mp e
    refine wpAny_bind ((looks_subIn X e).here ?_)
    simp only [Bool.false_eq_true, if_false]
    refine wpAny_bind (wpAny_mono one (fun r s' z => ?_) fun _ _ e => e)
    obtain ⟨v, rfl, hq⟩ := z
    exact wpAny_pure hq
  · refine wpAny_bind (wpAny_pure ?_)
    simp only [Bool.false_eq_true, if_false]
    refine wpAny_bind (wpAny_mono one (fun r s' z => ?_) fun _ _ e => e)
    obtain ⟨v, rfl, hq⟩ := z
    exact wpAny_pure hq

/-! ### n op x: the int declines, the class's reflected method answers -/
theorem tryInt_none {nm nm' id : String} {g : Int → Int → Sem PySem.Fin} {i : Int} {t : Tok} {y : Addr} {oy : Obj} {Q : Option Value → Shared → Prop} (slot : Slot "int" (PySem.dunder nm) id)
    (entry : entryFor table id = some (PySem.Builtin.Int.intBinary nm' g)) (args : argsOk id ⟨[.int i t, .ref y], []⟩) (hy : s.heap.get? y = some oy) (hd : oy.data = .plain) (hq : Q none s) :
    wpAny (model prog w) A (tryMethod (.int i t) (PySem.dunder nm) (.ref y)) Q E s := by
  unfold tryMethod
  refine wpAny_bind (wpAny_callSpecial?_slot (typeIs_int s i t) slot (wpAny_call (codeAny_call_builtin slot.plain entry (slot.check _ _ _ _ _ _ _ _ (typeIs_int s i t) args ?_))))
  unfold PySem.Builtin.Int.intBinary
  refine wpAny_bind (m := PySem.slotArgs nm' 1 ⟨[.int i t, .ref y], []⟩) (wpAny_pure ?_)
  refine wpAny_bind (m := PySem.Builtin.Int.intOfSelf (.int i t)) (wpAny_pure ?_)
  refine wpAny_bind (m := asInt? (.ref y)) (wpAny_bind (wpAny_load hy ?_))
  rw [hd]
  refine wpAny_pure (wpAny_bind (wpAny_rule (wpAny_pure ?_)))
  exact wpAny_pure hq
end
end Eng

namespace Eng
open PySem PySem.Spec PyProof.Rows L2
open PySem.W (InstAt)
section
variable {X : Cx} {k : Nat} {f C : Addr} {fd : FuncData} {ps : List PySem.Str} {sp : Sp}
/-- a def run one C call deeper -/
theorem run_fn1 {pins : List (Addr × Obj)} {σ : L2.St} {H : Hp} {s : Shared} {Q : VK} {us : List Value} {vs : List V} {E' : Value → Shared → Prop} (F : FnOk X.prog X.w X.K X.mg X.base CX0 k f fd ps sp) (hr : Room (k + 1) X.A) (hb : Binds X.K fd ps [])
    (I : Inv X pins σ H s) (r : Vals vs us) (h : sp vs H Q E0) : wpAny (model X.prog X.w) X.A.in1 (call (.ref f) us) (EP X pins σ Q) E' s := by
  have hl : (us ++ []).length = ps.length := by
    rw [List.append_nil, ← r.length]
    exact F.len _ _ _ _ h
  refine wpAny_call (codeAny_mono (F.run X.A.in1 X.stack s H ⟨us, []⟩ (us ++ []) vs Q E0 hr.in1 I.env0.in1 (hb s us I.kIn hl) (by rw [List.append_nil]; exact r) h) fun r s' hq => ?_)
  cases r with
  | error e => exact False.elim hq
  | ok fl =>
    cases fl with
    | ret u => exact I.after hq
    | next => exact False.elim hq
    | brk => exact False.elim hq
    | cont => exact False.elim hq
theorem op_neOwn (hs : Spc X.K C "__eq__" f) (hn : PySem.W.findIn X.K (.ref C) "__ne__" = some (some (.builtin "object.__ne__"))) (hsub : PySem.W.subIn X.K (.ref C) (.type "object") = some true)
    (F : FnOk X.prog X.w X.K X.mg X.base CX0 k f fd ps sp) (hr : Room (k + 1) X.A) (hb : Binds X.K fd ps []) :
    OpR X (compareOp .NotEq) (fun x y H Q => ∃ a dx fs, x = .ref a ∧ H a = some (.ins C dx fs) ∧ (∃ b dy gs, y = .ref b ∧ H b = some (.ins C dy gs)) ∧ sp [x, y] H (fun v H' => ∃ c, v = .bl c ∧ Q (.bl (!c)) H') E0) := by
  intro pins s σ H x y v u Q I rx ry h
  obtain ⟨a, dx, fs, rfl, ha, ⟨b, dy, gs, rfl, hb'⟩, h⟩ := h
  cases rx; cases ry
  obtain ⟨od, J⟩ := inst_of I ha
  obtain ⟨od2, J2⟩ := inst_of I hb'
  have hu : X.A.units + 1 < cLine := hu_of hr
  show wpAny _ _ (richCompare .NotEq (.ref a) (.ref b)) _ _ _
  refine rcNe (tb := .ref C) I.kIn J hu J2.type (by unfold PySem.W.notFirst; simp) hn hsub hs.at_ hs.fn (wpAny_mono (run_fn1 (us := [.ref a, .ref b]) (vs := [.ref a, .ref b]) F hr hb I (.cons rfl (.cons rfl .nil)) h) (fun z s' hz => ?_) fun _ _ e => e)
  obtain ⟨v', H', I', r', c, rfl, q⟩ := hz
  cases r'
  exact ⟨c, rfl, .bl (!c), H', I', rfl, q⟩
/-- abs(x) -/
theorem call_absOwn (hs : Spc X.K C "__abs__" f) (F : FnOk X.prog X.w X.K X.mg X.base CX0 k f fd ps sp) (hr : Room (k + 1) X.A) (hb : Binds X.K fd ps []) :
    CallR X (.builtin "abs") (fun xs H Q => ∃ a dx fs, xs = [.ref a] ∧ H a = some (.ins C dx fs) ∧ sp [.ref a] H Q E0) := by
  intro pins s σ H xs us Q I r h
  obtain ⟨a, dx, fs, rfl, ha, h⟩ := h
  obtain ⟨u, rfl, ru⟩ := vals1 r
  cases ru
  obtain ⟨od, J⟩ := inst_of I ha
  refine Calls.call_function_entry kind_abs plain_abs entry_abs (args_abs _) ?_
  unfold Builtin.«abs»
  refine wpAny_bind (m := oneArg "abs" ⟨[.ref a], []⟩) (wpAny_pure ?_)
  refine wpAny_bind (m := callSpecial? (.ref a) (Str.ofString "__abs__")) (PySem.W.special_fn I.kIn J hs.at_ (beq_iff_eq.mp hs.fn) (wpAny_mono (run_fn1 (us := [.ref a]) (vs := [.ref a]) F hr hb I (.cons rfl .nil) h) (fun z s' hz => ?_) fun _ _ e => e))
  exact wpAny_pure ⟨_, rfl, hz⟩
/-- n op x -/
theorem op_reflI {op : Operator} {bid nm' : String} {g : Int → Int → Sem PySem.Fin} {fo ro : Option Value} {f0 : Addr} (slot : Slot "int" (PySem.dunder op.info.2) bid) (entry : entryFor table bid = some (PySem.Builtin.Int.intBinary nm' g)) (args : ∀ a b, argsOk bid ⟨[a, b], []⟩)
    (hc : PySem.W.selfFirst X.K C = true) (hs0 : Spc X.K C (PySem.dunder op.info.2) f0) (hs : Spc X.K C (dunderR op.info.2) f)
    (h1 : PySem.W.findIn X.K (.type "int") (PySem.dunder op.info.2) = some fo) (h2 : PySem.W.findIn X.K (.type "int") (dunderR op.info.2) = some ro) (hl : ((fo.isSome && !isSeqSlot fo) || (ro.isSome && !isSeqSlot ro)) = true)
    (hsub : PySem.W.subIn X.K (.ref C) (.type "int") = some false)
    (F : FnOk X.prog X.w X.K X.mg X.base CX0 k f fd ps sp) (hr : Room k X.A) (hb : Binds X.K fd ps []) :
    OpR X (binaryOp op) (fun x y H Q => ∃ i b dy gs, x = .int i ∧ y = .ref b ∧ H b = some (.ins C dy gs) ∧ sp [.ref b, .int i] H Q E0) := by
  intro pins s σ H x y v u Q I rx ry h
  obtain ⟨i, b, dy, gs, rfl, rfl, hb', h⟩ := h
  cases ry
  obtain ⟨t, rfl⟩ := rx
  obtain ⟨od, J⟩ := inst_of I hb'
  have Xk := I.kIn
  obtain ⟨cd, rest, hcd, hm⟩ := PySem.W.ksp_first hc
  have hy : s.heap.get? b = some (PySem.W.instObj C dy) := J.1
  have none_ : ∀ {Q' : Option Value → Shared → Prop}, Q' none s → wpAny (model X.prog X.w) X.A (tryMethod (.int i t) (PySem.dunder op.info.2) (.ref b)) Q' X.xe s := fun {Q'} hq => tryInt_none slot entry (args _ _) hy rfl hq
  have two : wpAny (model X.prog X.w) X.A (tryMethod (.ref b) (dunderR op.info.2) (.int i t)) (fun r s' => ∃ v, r = some v ∧ EP X pins σ Q v s') X.xe s := by
    refine PySem.W.ksp_try Xk J hs.at_ hs.fn (wpAny_mono (run_fn (us := [.ref b, .int i t]) (vs := [.ref b, .int i]) F hr hb .nil pass0 I (.cons rfl (.cons ⟨t, rfl⟩ .nil)) h) (fun z s' hz => ?_) fun _ _ e => e)
    obtain ⟨v', H', I', r', q⟩ := id hz
    exact relV_ni r' hz
  rcases hi : op.info with ⟨sym, nm⟩
  rw [hi] at hs hs0 h1 h2 none_ two
  have s0 := hs0.at_
  dsimp only at hs hs0 h1 h2 s0 none_ two
  obtain ⟨hh, g', d, tt, os⟩ := s
  have L1 : PySem.W.Looks (model X.prog X.w) hh (typeOf (.int i t)) (.type "int") := PySem.W.Looks.of_pure rfl
  have L2 : PySem.W.Looks (model X.prog X.w) hh (typeOf (.ref b)) (.ref C) := J.type
  have L3 : PySem.W.Looks (model X.prog X.w) hh (fillsNumberSlot (.ref C) nm) true := PySem.W.fills_K Xk hcd hm s0
  have L4 : PySem.W.Looks (model X.prog X.w) hh (fillsNumberSlot (.type "int") nm) true := by
    have q := PySem.W.ksp_fillsT (M := model X.prog X.w) Xk h1 h2
    rw [hl] at q
    exact q
  have L5 : PySem.W.Looks (model X.prog X.w) hh (isSubtype (.ref C) (.type "int")) false := PySem.W.looks_subIn Xk hsub
  have L6 : PySem.W.Looks (model X.prog X.w) hh (numberSlotInPython (.type "int") nm) false := PySem.W.Looks.of_pure rfl
  have hne : (Value.type "int" == Value.ref C) = false := Bool.eq_false_iff.mpr fun q => by cases beq_iff_eq.mp q
  simp only [binaryOp, hi]
  refine wpAny_holding (wpAny_bind ?_)
  unfold binaryOp1
  refine wpAny_bind (L1.at (wpAny_bind (L2.at (wpAny_bind (L4.at ?_)))))
  simp only [hne, Bool.false_eq_true, if_false]
  ksp_lk
  refine none_ ?_
  ksp_lk
  refine wpAny_mono two (fun r s' hr' => ?_) fun _ _ e => e
  obtain ⟨v, rfl, hq⟩ := hr'
  ksp_lk
  exact hq
/-- the truth of an instance -/
theorem tru_own (hs : Spc X.K C "__bool__" f) (F : FnOk X.prog X.w X.K X.mg X.base CX0 k f fd ps sp) (hr : Room k X.A) (hb : Binds X.K fd ps []) :
    TruR X (fun x H Q => ∃ a dx fs, x = .ref a ∧ H a = some (.ins C dx fs) ∧ sp [.ref a] H (fun v H' => ∃ c, v = .bl c ∧ Q c H') E0) := by
  intro pins s σ H x v Q I rx h
  obtain ⟨a, dx, fs, rfl, ha, h⟩ := h
  cases rx
  obtain ⟨m, hF⟩ := I.fr
  obtain ⟨od, J⟩ := inst_of I ha
  refine PySem.W.truthy_K hF I.ok.mod.kin J hs.at_ hs.fn (wpAny_mono (run_fn (us := [.ref a]) (vs := [.ref a]) F hr hb .nil pass0 I (.cons rfl .nil) h) (fun z s' hz => ?_) fun _ _ e => e)
  obtain ⟨v', H', I', r', c, rfl, q⟩ := hz
  cases r'
  exact ⟨H', I', q⟩
/-- the same two C calls deeper -/
theorem run_fn2 {pins : List (Addr × Obj)} {σ : L2.St} {H : Hp} {s : Shared} {Q : VK} {us : List Value} {vs : List V} {E' : Value → Shared → Prop} (F : FnOk X.prog X.w X.K X.mg X.base CX0 k f fd ps sp) (hr : Room (k + 2) X.A) (hb : Binds X.K fd ps [])
    (I : Inv X pins σ H s) (r : Vals vs us) (h : sp vs H Q E0) : wpAny (model X.prog X.w) X.A.in1.in1 (call (.ref f) us) (EP X pins σ Q) E' s := by
  have hl : (us ++ []).length = ps.length := by
    rw [List.append_nil, ← r.length]
    exact F.len _ _ _ _ h
  refine wpAny_call (codeAny_mono (F.run X.A.in1.in1 X.stack s H ⟨us, []⟩ (us ++ []) vs Q E0 hr.in1.in1 I.env0.in1.in1 (hb s us I.kIn hl) (by rw [List.append_nil]; exact r) h) fun r s' hq => ?_)
  cases r with
  | error e => exact False.elim hq
  | ok fl =>
    cases fl with
    | ret u => exact I.after hq
    | next => exact False.elim hq
    | brk => exact False.elim hq
    | cont => exact False.elim hq
theorem bool_made {prog : Program} {w : World} {A : Around} {E : Value → Shared → Prop} {s : Shared} {x : Value} {Q : Value → Shared → Prop}
    (h : wpAny (model prog w) A.in1.in1 (truthy x) (fun b s' => Q (.bool b) s') E s) : wpAny (model prog w) A (call (.type "bool") [x]) Q E s := by
  have ft := PySem.F.called_bool
  obtain ⟨c, tl, hmro⟩ := ft.mro
  have hmade := ft.made
  have hsub := ft.sub
  refine wpAny_call (codeAny_of_tree ?_)
  show wpAny _ _ (callAny (.type "bool") _) _ _ _
  refine wpAny_pure ⟨Code.quiet_builtin _ (by decide +kernel), codeAny_builtin PySem.F.entry_type_call ?_⟩
  rw [Around.under_plain (weight_type_call_type "bool" [x] []) (units_type_call_type "bool" [x] [])]
  have hct := PySem.F.typeCall_bool_1 x
  have h1 := ft.notType
  have h2 := ft.canCreate
  have new : wpAny (model prog w) A.in1.in1 (Builtin.«bool.__new__» ⟨[.type "bool", x], []⟩) (fun fin s' => match fin with
      | .done f => wants (fun obj s₁ => (∃ b, obj = .bool b) ∧ Q obj s₁) E (.ok f) s'
      | .again c' => c'.quiet = true ∧ codeAny (model prog w) A.in1 c' (wants (fun obj s₁ => (∃ b, obj = .bool b) ∧ Q obj s₁) E) s') (fun e s' => wants (fun obj s₁ => (∃ b, obj = .bool b) ∧ Q obj s₁) E (.error e) s') s := by
    unfold Builtin.«bool.__new__»
    refine wpAny_bind (m := isType (.type "bool")) (wpAny_pure ?_)
    simp only [Bool.not_true, Bool.false_eq_true, if_false]
    refine wpAny_bind (m := isSubtype (.type "bool") (.type "bool")) ?_
    rw [PySem.F.conv_sub_bool]
    refine wpAny_pure ?_
    simp only [Bool.not_true, Bool.false_eq_true, if_false]
    refine wpAny_bind (m := someArgs "bool" 0 1 ⟨[x], []⟩) (wpAny_pure ?_)
    exact wpAny_bind (m := truthy x) (wpAny_mono h (fun b s' hq => wpAny_pure ⟨⟨b, rfl⟩, hq⟩) fun _ _ e => e)
  repeat (any_goals (first | assumption | wp_step))
  refine codeAny_mono (codeAny_call_builtin ft.plain PySem.F.entry_bool_new (wpAny_of_eq (PySem.F.newCall_bool_1 x) new)) fun r s₁ hr => ?_
  cases r with
  | error e => exact hr
  | ok fl =>
    cases fl with
    | ret obj =>
      obtain ⟨⟨b, rfl⟩, hq⟩ := hr
      have hT : s₁.TypeIs (.bool b) "bool" := rfl
      have hli := ft.init.lookup
      have hbi := ft.init.bind (.bool b)
      repeat (any_goals (first | assumption | wp_step))
      refine codeAny_mono (codeAny_call_builtin ft.init.plain PySem.F.entry_object_init (ft.init.check _ _ _ _ _ _ _ _ hT (PySem.F.args_object_init_2 _ x) (object_init_meets ft.init.lookup ft.made PySem.F.newNe_bool prog w A.in1 (wants (fun r s₂ => r = .none ∧ Q (.bool b) s₂) E) s₁ ⟨hT, rfl, hq⟩))) fun r₂ s₂ hr₂ => ?_
      cases r₂ with
      | error e => exact hr₂
      | ok fl₂ =>
        cases fl₂ with
        | ret r =>
          obtain ⟨rfl, hq⟩ := hr₂
          repeat (any_goals (first | assumption | wp_step))
        | _ => exact hr₂.elim
    | _ => exact hr.elim
/-- bool(x) -/
theorem call_boolOwn (hs : Spc X.K C "__bool__" f) (F : FnOk X.prog X.w X.K X.mg X.base CX0 k f fd ps sp) (hr : Room (k + 2) X.A) (hb : Binds X.K fd ps []) :
    CallR X (.type "bool") (fun xs H Q => ∃ a dx fs, xs = [.ref a] ∧ H a = some (.ins C dx fs) ∧ sp [.ref a] H (fun v H' => ∃ c, v = .bl c ∧ Q (.bl c) H') E0) := by
  intro pins s σ H xs us Q I r h
  obtain ⟨a, dx, fs, rfl, ha, h⟩ := h
  obtain ⟨u, rfl, ru⟩ := vals1 r
  cases ru
  obtain ⟨m, hF⟩ := I.fr
  obtain ⟨od, J⟩ := inst_of I ha
  refine bool_made (PySem.W.truthy_K hF I.ok.mod.kin J hs.at_ hs.fn (wpAny_mono (run_fn2 (us := [.ref a]) (vs := [.ref a]) F hr hb I (.cons rfl .nil) h) (fun z s' hz => ?_) fun _ _ e => e))
  obtain ⟨v', H', I', r', c, rfl, q⟩ := hz
  cases r'
  exact ⟨.bl c, H', I', rfl, q⟩
end
end Eng

/-! A small definitional interpreter for the part of Python that the laws use. Values are trees; lists are values, or owned by one slot; what changes by reference lies in a store. -/
namespace Eng
open PySem

inductive D where
  | non | bl (b : Bool) | int (i : Int) | str (s : Str)
  | tup (xs : List D) | lst (xs : List D)
  | ins (c : Nat) (fs : List (Nat × D))
  | fn (j : Nat) | ref (k : Nat)
instance : Inhabited D := ⟨.non⟩

inductive Cell where
  | dk (kvs : List (Nat × D))
  | lk (xs : List D)
  | dead
abbrev Store := List Cell

inductive Res (α : Type) where
  | ok (a : α) (st : Store)
  | exc (k : Nat) (fs : List D) (st : Store)
  | bad

@[inline] def Res.bind {α β : Type} (r : Res α) (f : α → Store → Res β) : Res β := match r with
  | .ok a st => f a st
  | .exc k fs st => .exc k fs st
  | .bad => .bad
@[simp] theorem Res.bind_ok {α β : Type} (a : α) (st : Store) (f : α → Store → Res β) : (Res.ok a st).bind f = f a st := rfl
@[simp] theorem Res.bind_exc {α β : Type} (k : Nat) (fs : List D) (st : Store) (f : α → Store → Res β) : (Res.exc k fs st).bind f = .exc k fs st := rfl
@[simp] theorem Res.bind_bad {α β : Type} (f : α → Store → Res β) : (Res.bad : Res α).bind f = .bad := rfl
theorem Res.bind_is {α β : Type} {r : Res α} {f : α → Store → Res β} {b : β} {st : Store} (h : r.bind f = .ok b st) : ∃ a st1, r = .ok a st1 ∧ f a st1 = .ok b st := by
  cases r with
  | ok a st1 => exact ⟨a, st1, rfl, h⟩
  | exc k fs st1 => cases h
  | bad => cases h

inductive Bo where | add | sub | mul | fdiv | mod | pow deriving DecidableEq
inductive Co where | eq | ne | lt | le | gt | ge | isin | notin | isNone | isNotNone deriving DecidableEq
inductive Bl where | len | abs | int | bool | list | tuple | sum | all | any | sorted deriving DecidableEq
/-- isinstance's second: a built-in type or an own class -/
inductive Ty where | int | bool | str | tuple | list | cls (c : Nat) deriving DecidableEq

mutual
inductive C where
  | var (i : Nat)
  | bor (i : Nat)
  | non | bl (b : Bool) | int (i : Int) | str (s : Str)
  | gfn (j : Nat)
  | gco (k : Nat)
  | neg (a : C) | not (a : C)
  | bin (op : Bo) (a b : C)
  | cmp (op : Co) (a b : C)
  | chain (o1 o2 : Co) (a b c : C)
  | and (as : Cs) | or (as : Cs)
  | ite (t a b : C)
  | tup (as : Cs) | lst (as : Cs)
  | idx (a b : C)
  | sl (a : C) (lo hi : C)
  | call (j : Nat) (as : Cs) (ds : List D)
  | callV (i : Nat) (as : Cs)
  | make (c : Nat) (as : Cs) (ds : List D)
  | meth (m : Nat) (o : C) (as : Cs)
  | attr (f : Nat) (o : C)
  | blt (b : Bl) (a : C)
  | isi (a : C) (t : Ty)
  | lc (elt : C) (tg : List Nat) (it : It) (ifs : Cs)
  | dget (o : C) (k : Nat)
  | dict (ks : List Nat) (as : Cs)
  | newc (a : C)
  | popc (o i : C)
  | max2 (a b : C)
  | ssort (a : C)
  | kcall (j : Nat) (as : Cs)
  | repr (a : C)
  | catb (i : Nat) (b : C)
  | repl (as : Cs) (n : C)
  | lrng (a : C)
  | lc2 (elt : C) (tg : List Nat) (it : It) (tg2 : List Nat) (it2 : It)
  | callB (j : Nat) (as : Cs)
  | min2 (a b : C)
  | rev (a : C)
  | makeS (c : Nat) (a : C)
  | callT (j : Nat) (as : Cs)
inductive Cs where
  | nil | cons (c : C) (r : Cs)
inductive It where
  | seq (c : C)
  | rng1 (a : C) | rng2 (a b : C)
  | enum (a : C)
  | zip (a b : C)
end
instance : Inhabited C := ⟨.non⟩

mutual
inductive S where
  | set (i : Nat) (e : C)
  | own (i : Nat) (e : C)
  | frz (i : Nat)
  | unp (is : List Nat) (e : C)
  | par (i j : Nat) (a b : C)
  | fld (i : Nat) (f : Nat) (e : C)
  | dput (o : C) (k : Nat) (e : C)
  | app (i : Nat) (e : C)
  | ext (i : Nat) (e : C)
  | setc (o i e : C)
  | ins (i : Nat) (p e : C)
  | parN (ts : List (Nat × Bool)) (es : Cs)
  | parc (o i : C) (j : Nat) (a b : C)
  | popo (i : Nat) (p : C)
  | mtch (e : C) (ks : Ks)
  | ex (e : C)
  | ite (t : C) (a b : Ss)
  | for (tg : List Nat) (it : It) (body : Ss)
  | whl (t : C) (body : Ss)
  | forN (i : Nat) (is : List Nat) (it : It) (body : Ss)
  | ret (e : C)
  | never
  | pass | brk | cont
inductive Ss where
  | nil | cons (s : S) (r : Ss)
inductive Ks where
  | nil | cons (vs : List Str) (b : Ss) (r : Ks) | wild (b : Ss)
end

inductive Slot where
  | v (d : D)
  | own (xs : List D)
  | self (c : Nat) (fs : List (Nat × D))
abbrev Env := List (Option Slot)

inductive Fl where
  | nx (ρ : Env) (st : Store)
  | rt (d : D) (st : Store)
  | bk (ρ : Env) (st : Store)
  | ct (ρ : Env) (st : Store)
  | exc (k : Nat) (fs : List D) (st : Store)
  | bad

/-- a class: the index of its __init__, its methods and properties by name -/
structure Cls where
  init : Nat
  flds : List Nat
  meth : List (Nat × Nat)
  prop : List (Nat × Nat)

structure Tab where
  cls : List Cls
  con : List D

/-- the numbers of the special names -/
abbrev nAdd : Nat := 0
abbrev nRadd : Nat := 1
abbrev nSub : Nat := 2
abbrev nRsub : Nat := 3
abbrev nMul : Nat := 4
abbrev nRmul : Nat := 5
abbrev nNeg : Nat := 6
abbrev nAbs : Nat := 7
abbrev nBool : Nat := 8
abbrev nEq : Nat := 9
def opN : Bo → Option (Nat × Nat)
  | .add => some (nAdd, nRadd)
  | .sub => some (nSub, nRsub)
  | .mul => some (nMul, nRmul)
  | _ => none

section
variable (T : Tab) (call : Nat → List D → Store → Res D)

def methOf (c m : Nat) : Option Nat := match T.cls[c]? with
  | some k => k.meth.lookup m
  | none => none
def propOf (c m : Nat) : Option Nat := match T.cls[c]? with
  | some k => k.prop.lookup m
  | none => none

def fldOf (c f : Nat) : Bool := match T.cls[c]? with
  | some k => k.flds.contains f
  | none => false

def wide (i : Int) : Bool := decide (i.natAbs < 2 ^ 4096)
def intOp (op : Bo) (i j : Int) (st : Store) : Res D := match op with
  | .add => .ok (.int (i + j)) st
  | .sub => .ok (.int (i - j)) st
  | .mul => if wide i && wide j then .ok (.int (i * j)) st else .bad
  | .fdiv => if decide (0 < j) && (decide (j < 1073741824) || wide j) then .ok (.int (i / j)) st else .bad
  | .mod => if decide (j ≠ 0) then .ok (.int (i.fmod j)) st else .bad
  | .pow => if decide (0 ≤ j ∧ j ≤ 1000000 ∧ i.natAbs < 2 ^ 64) then .ok (.int (i ^ j.toNat)) st else .bad
def binD (op : Bo) (x y : D) (st : Store) : Res D := match x, y with
  | .int i, .int j => intOp op i j st
  | .tup xs, .tup ys => (match op with
    | .add => if xs.length + ys.length ≤ 1000000 then .ok (.tup (xs ++ ys)) st else .bad
    | _ => .bad)
  | .lst xs, .lst ys => (match op with
    | .add => if xs.length + ys.length ≤ 1000000 then .ok (.lst (xs ++ ys)) st else .bad
    | _ => .bad)
  | .tup xs, .int k => (match op with
    | .mul => if !xs.isEmpty && decide (1 ≤ k) && decide (k ≤ 1000) && decide (xs.length ≤ 1000) then .ok (.tup (List.replicate k.toNat xs).flatten) st else .bad
    | _ => .bad)
  | .ins c fs, y => match opN op with
    | some (m, _) => (match methOf T c m, y with
      | some j, .int _ => call j [x, y] st
      | some j, .ins c' _ => if c' = c then call j [x, y] st else .bad
      | _, _ => .bad)
    | none => .bad
  | .int i, .ins c fs => match opN op with
    | some (m0, m) => (match methOf T c m, methOf T c m0 with
      | some j, some _ => call j [y, x] st
      | _, _ => .bad)
    | none => .bad
  | _, _ => .bad
def negD (x : D) (st : Store) : Res D := match x with
  | .int i => .ok (.int (-i)) st
  | .ins c _ => (match methOf T c nNeg with
    | some j => call j [x] st
    | none => .bad)
  | _ => .bad

mutual
/-- plain data -/
def plain : D → Bool
  | .non | .bl _ | .int _ => true
  | .str s => s.cps.all (· < 0x110000)
  | .tup xs | .lst xs => plains xs
  | _ => false
def plains : List D → Bool
  | [] => true
  | d :: r => plain d && plains r
end
mutual
def eqD : D → D → Bool
  | .non, .non => true
  | .bl a, .bl b => a == b
  | .int a, .int b => a == b
  | .bl a, .int b => (if a then 1 else 0) == b
  | .int a, .bl b => a == (if b then 1 else 0)
  | .str a, .str b => a == b
  | .tup xs, .tup ys => eqDs xs ys
  | .lst xs, .lst ys => eqDs xs ys
  | _, _ => false
def eqDs : List D → List D → Bool
  | [], [] => true
  | x :: xs, y :: ys => eqD x y && eqDs xs ys
  | _, _ => false
end
mutual
def deep : D → Nat
  | .tup xs | .lst xs => deeps xs + 1
  | _ => 0
def deeps : List D → Nat
  | [] => 0
  | d :: r => max (deep d) (deeps r)
end
def flat : D → Bool
  | .non | .bl _ | .int _ | .str _ => true
  | _ => false
def eqR (x y : D) (st : Store) : Res Bool := match x with
  | .ins c _ => (match methOf T c nEq, y with
    | some j, .ins c' _ => if c' = c then (call j [x, y] st).bind fun d st1 => (match d with
      | .bl b => .ok b st1
      | _ => .bad) else .bad
    | _, _ => .bad)
  | _ => if plain x && plain y && decide (deep x ≤ 32) && decide (deep y ≤ 32) then .ok (eqD x y) st else .bad
/-- in a list, items of any depth -/
def inD (x : D) (ys : List D) (st : Store) : Res D := if plain x && plains ys && decide (deep x ≤ 32) && decide (deeps ys ≤ 31) then .ok (.bl (ys.any fun z => eqD z x)) st else .bad
def ninD (x : D) (ys : List D) (st : Store) : Res D := if plain x && plains ys && decide (deep x ≤ 32) && decide (deeps ys ≤ 31) then .ok (.bl (!(ys.any fun z => eqD z x))) st else .bad
def cmpD (op : Co) (x y : D) (st : Store) : Res D := match op with
  | .eq => (eqR T call x y st).bind fun b st1 => .ok (.bl b) st1
  | .ne => (eqR T call x y st).bind fun b st1 => .ok (.bl (!b)) st1
  | .lt => (match x, y with
    | .int i, .int j => .ok (.bl (decide (i < j))) st
    | _, _ => .bad)
  | .le => (match x, y with
    | .int i, .int j => .ok (.bl (decide (i ≤ j))) st
    | _, _ => .bad)
  | .gt => (match x, y with
    | .int i, .int j => .ok (.bl (decide (j < i))) st
    | _, _ => .bad)
  | .ge => (match x, y with
    | .int i, .int j => .ok (.bl (decide (j ≤ i))) st
    | _, _ => .bad)
  | .isin => (match y with
    | .tup ys => if flat x && ys.all flat then .ok (.bl (ys.any fun z => eqD x z)) st else .bad
    | .lst ys => if flat x && ys.all flat then .ok (.bl (ys.any fun z => eqD x z)) st else inD x ys st
    | _ => .bad)
  | .notin => (match y with
    | .tup ys => if flat x && ys.all flat then .ok (.bl (!(ys.any fun z => eqD x z))) st else .bad
    | .lst ys => if flat x && ys.all flat then .ok (.bl (!(ys.any fun z => eqD x z))) st else ninD x ys st
    | _ => .bad)
  | .isNone => (match y, x with
    | .non, .non => .ok (.bl true) st
    | .non, _ => .ok (.bl false) st
    | _, _ => .bad)
  | .isNotNone => (match y, x with
    | .non, .non => .ok (.bl false) st
    | .non, _ => .ok (.bl true) st
    | _, _ => .bad)
def truD (x : D) (st : Store) : Res Bool := match x with
  | .non => .ok false st
  | .bl b => .ok b st
  | .int i => .ok (i != 0) st
  | .ins c _ => (match methOf T c nBool with
    | some j => (call j [x] st).bind fun d st1 => (match d with
      | .bl b => .ok b st1
      | _ => .bad)
    | none => .bad)
  | _ => .bad
/-- a list of the store -/
def getL (st : Store) (k : Nat) : Option (List D) := match st[k]? with
  | some (.lk xs) => some xs
  | _ => none
def strsD : List D → Option (List Str)
  | [] => some []
  | .str s :: r => (strsD r).map (s :: ·)
  | _ => none
def intsD : List D → Option (List Int)
  | [] => some []
  | .int i :: r => (intsD r).map (i :: ·)
  | _ => none
def insS (x : Str) : List Str → List Str
  | [] => [x]
  | y :: r => if x.cps.toList ≤ y.cps.toList then x :: y :: r else y :: insS x r
def sortS : List Str → List Str
  | [] => []
  | x :: r => insS x (sortS r)
def insI (x : Int) : List Int → List Int
  | [] => [x]
  | y :: r => if x ≤ y then x :: y :: r else y :: insI x r
def sortI : List Int → List Int
  | [] => []
  | x :: r => insI x (sortI r)
/-- each one once -/
def putI (x : Int) : List Int → List Int
  | [] => [x]
  | y :: r => if x < y then x :: y :: r else if x = y then y :: r else y :: putI x r
def setI : List Int → List Int
  | [] => []
  | x :: r => putI x (setI r)
/-- tuples of ints and texts, for sorting -/
abbrev Ky := Sum Int Str
def kyD : D → Option Ky
  | .int i => some (.inl i)
  | .str s => some (.inr s)
  | _ => none
def kysD : List D → Option (List Ky)
  | [] => some []
  | d :: r => (kyD d).bind fun k => (kysD r).map (k :: ·)
def tkD : D → Option (List Ky)
  | .tup xs => kysD xs
  | _ => none
def tksD : List D → Option (List (List Ky))
  | [] => some []
  | d :: r => (tkD d).bind fun k => (tksD r).map (k :: ·)
def kyV : Ky → D
  | .inl i => .int i
  | .inr s => .str s
def tkV (l : List Ky) : D := .tup (l.map kyV)
def ltK : Ky → Ky → Bool
  | .inl i, .inl j => decide (i < j)
  | .inl _, .inr _ => true
  | .inr _, .inl _ => false
  | .inr s, .inr t => decide (s.cps.toList < t.cps.toList)
def sameK : Ky → Ky → Bool
  | .inl _, .inl _ => true
  | .inr _, .inr _ => true
  | _, _ => false
def lexK : List Ky → List Ky → Bool
  | [], [] => false
  | [], _ :: _ => true
  | _ :: _, [] => false
  | x :: xs, y :: ys => if x = y then lexK xs ys else ltK x y
def okK : List Ky → List Ky → Bool
  | x :: xs, y :: ys => if x = y then okK xs ys else sameK x y
  | _, _ => true
def headsK (b : Bool) : List Ky → Bool
  | .inl _ :: _ => b
  | .inr _ :: _ => !b
  | [] => false
def insK (x : List Ky) : List (List Ky) → List (List Ky)
  | [] => [x]
  | y :: r => if lexK y x then y :: insK x r else x :: y :: r
def sortK : List (List Ky) → List (List Ky)
  | [] => []
  | x :: r => insK x (sortK r)
def okKs (l : List (List Ky)) : Bool := (l.all (headsK true) || l.all (headsK false)) && l.all fun a => l.all fun b => okK a b
def sumD : List D → Int → Option Int
  | [], a => some a
  | .int i :: r, a => sumD r (a + i)
  | _, _ => none
def boolsD : List D → Option (List Bool)
  | [] => some []
  | .bl b :: r => (boolsD r).map (b :: ·)
  | _ => none
def bltD (b : Bl) (x : D) (st : Store) : Res D := match b with
  | .len => (match x with
    | .lst xs | .tup xs => .ok (.int xs.length) st
    | .ref k => (match getL st k with
      | some xs => .ok (.int xs.length) st
      | none => .bad)
    | _ => .bad)
  | .abs => (match x with
    | .int i => .ok (.int (if i < 0 then -i else i)) st
    | .ins c _ => (match methOf T c nAbs with
      | some j => call j [x] st
      | none => .bad)
    | _ => .bad)
  | .int => (match x with
    | .int i => .ok (.int i) st
    | .bl k => .ok (.int (if k then 1 else 0)) st
    | _ => .bad)
  | .bool => (match x with
    | .ins .. => (truD T call x st).bind fun k st1 => .ok (.bl k) st1
    | .int i => .ok (.bl (i != 0)) st
    | .bl k => .ok (.bl k) st
    | _ => .bad)
  | .list => (match x with
    | .lst xs | .tup xs => .ok (.lst xs) st
    | _ => .bad)
  | .tuple => (match x with
    | .lst xs | .tup xs => .ok (.tup xs) st
    | .ref k => (match getL st k with
      | some xs => .ok (.tup xs) st
      | none => .bad)
    | _ => .bad)
  | .sum => (match x with
    | .lst xs => (match sumD xs 0 with
      | some n => .ok (.int n) st
      | none => .bad)
    | _ => .bad)
  | .all => (match x with
    | .lst xs => (match boolsD xs with
      | some bs => .ok (.bl (bs.all id)) st
      | none => .bad)
    | _ => .bad)
  | .any => (match x with
    | .lst xs => (match boolsD xs with
      | some bs => .ok (.bl (bs.any id)) st
      | none => .bad)
    | _ => .bad)
  | .sorted => (match x with
    | .lst xs => (match strsD xs with
      | some ss => if ss.length < 64 then .ok (.lst ((sortS ss).map .str)) st else .bad
      | none => (match tksD xs with
        | some ks => if ks.length ≤ 1000000 && okKs ks then .ok (.lst ((sortK ks).map tkV)) st else .bad
        | none => .bad))
    | .tup xs => (match strsD xs with
      | some ss => if ss.length < 64 then .ok (.lst ((sortS ss).map .str)) st else .bad
      | none => .bad)
    | _ => .bad)
def isiD (x : D) (t : Ty) : Option Bool := match x, t with
  | .int _, .int => some true
  | .bl _, .int => some true
  | .bl _, .bool => some true
  | .str _, .str => some true
  | .tup _, .tuple => some true
  | .lst _, .list => some true
  | .ins c _, .cls c' => if c = c' then some true else none
  | .int _, _ => some false
  | .bl _, _ => some false
  | .str _, _ => some false
  | .tup _, _ => some false
  | .lst _, _ => some false
  | .ins c _, .int => if (T.cls[c]?).isSome then some false else none
  | .ins c _, .bool => if (T.cls[c]?).isSome then some false else none
  | .ins c _, .str => if (T.cls[c]?).isSome then some false else none
  | .ins c _, .tuple => if (T.cls[c]?).isSome then some false else none
  | .ins c _, .list => if (T.cls[c]?).isSome then some false else none
  | .non, _ => some false
  | _, _ => none
def atD (xs : List D) (i : Int) : Option D := if 0 ≤ i then xs[i.toNat]? else if 0 ≤ i + xs.length then xs[(i + xs.length).toNat]? else none
def idxD (x y : D) (st : Store) : Res D := match x, y with
  | .lst xs, .int i | .tup xs, .int i => (match atD xs i with
    | some d => .ok d st
    | none => .bad)
  | .ref k, .int i => (match getL st k with
    | some xs => (match atD xs i with
      | some d => .ok d st
      | none => .bad)
    | none => .bad)
  | _, _ => .bad
/-- where a bound of a slice lies in a thing of length n -/
def cutAt (n d : Nat) : Option Int → Nat
  | none => d
  | some i => if i < 0 then (i + (n : Int)).toNat else min i.toNat n
def cutD (xs : List D) (lo hi : Option Int) : List D := (xs.drop (cutAt xs.length 0 lo)).take (cutAt xs.length xs.length hi - cutAt xs.length 0 lo)
def C.isNon : C → Bool
  | .non => true
  | _ => false
def bndD (n : Bool) (d : D) : Option (Option Int) := if n then some none else match d with
  | .int i => some (some i)
  | _ => none
def slD (m n : Bool) (x lo hi : D) (st : Store) : Res D := match x, bndD m lo, bndD n hi with
  | .lst xs, some l, some h => .ok (.lst (cutD xs l h)) st
  | .tup xs, some l, some h => .ok (.tup (cutD xs l h)) st
  | _, _, _ => .bad
def attrD (f : Nat) (x : D) (st : Store) : Res D := match x with
  | .ins c fs => (match propOf T c f with
    | some j => call j [x] st
    | none => (match fs.lookup f, fldOf T c f with
      | some d, true => .ok d st
      | _, _ => .bad))
  | _ => .bad
def methD (m : Nat) (x : D) (as : List D) (st : Store) : Res D := match x with
  | .ins c fs => (match methOf T c m, fs.lookup m with
    | some j, none => call j (x :: as) st
    | _, _ => .bad)
  | _ => .bad
def getCell (st : Store) (k : Nat) : Option (List (Nat × D)) := match st[k]? with
  | some (.dk kvs) => some kvs
  | _ => none
def dgetD (x : D) (k : Nat) (st : Store) : Res D := match x with
  | .ref r => (match getCell st r with
    | some kvs => (match kvs.lookup k with
      | some d => .ok d st
      | none => .bad)
    | none => .bad)
  | _ => .bad
def putL (k : Nat) (d : D) : List (Nat × D) → List (Nat × D)
  | [] => [(k, d)]
  | p :: r => if p.1 = k then (k, d) :: r else p :: putL k d r
/-- in its place, or at the end -/
def putM (k : Nat) (d : D) (kvs : List (Nat × D)) : List (Nat × D) := if (kvs.any fun p => decide (p.1 = k)) = true then kvs.map (fun p => if p.1 = k then (p.1, d) else p) else kvs ++ [(k, d)]
def dputD (x : D) (k : Nat) (d : D) (st : Store) : Option Store := match x with
  | .ref r => (match getCell st r with
    | some kvs => if kvs.length < 1000 then some (st.set r (.dk (putM k d kvs))) else none
    | none => none)
  | _ => none
def dictD (ks : List Nat) (as : List D) (st : Store) : Res D := if ks.length = as.length && ks.length ≤ 15 && decide ks.Nodup then .ok (.ref st.length) (st ++ [.dk (ks.zip as)]) else .bad

/-- where an item lies -/
def itIx (n : Nat) (i : Int) : Option Nat := if 0 ≤ i then (if i < n then some i.toNat else none) else if -(n : Int) ≤ i then some (i + n).toNat else none
def isLk (x : D) (st : Store) : Bool := match x with
  | .ref k => (getL st k).isSome
  | _ => false
def popD (x y : D) (st : Store) : Res D := match x, y with
  | .ref k, .int i => (match getL st k with
    | some xs => (match itIx xs.length i with
      | some j => (match xs[j]? with
        | some d => if xs.length ≤ 1000000 then .ok d (st.set k (.lk (xs.eraseIdx j))) else .bad
        | none => .bad)
      | none => .bad)
    | none => .bad)
  | _, _ => .bad
def setD (x y d : D) (st : Store) : Option Store := match x, y with
  | .ref k, .int i => (match getL st k with
    | some xs => (match itIx xs.length i with
      | some j => some (st.set k (.lk (xs.set j d)))
      | none => none)
    | none => none)
  | _, _ => none
def newcD (x : D) (st : Store) : Res D := match x with
  | .lst xs => .ok (.ref st.length) (st ++ [.lk xs])
  | _ => .bad
def ssortD (x : D) (st : Store) : Res D := match x with
  | .lst xs => (match intsD xs with
    | some ns => if ns.length < 64 then .ok (.lst ((setI ns).map .int)) st else .bad
    | none => .bad)
  | _ => .bad
def max2D (x y : D) (st : Store) : Res D := match x, y with
  | .int i, .int j => .ok (.int (if j > i then j else i)) st
  | _, _ => .bad
def min2D (x y : D) (st : Store) : Res D := match x, y with
  | .int i, .int j => .ok (.int (if j < i then j else i)) st
  | _, _ => .bad
def revD (x : D) (st : Store) : Res D := match x with
  | .lst xs => .ok (.lst xs.reverse) st
  | _ => .bad
mutual
def toP : D → PyData
  | .non => .none
  | .bl b => .bool b
  | .int i => .int i
  | .str s => .str s
  | .tup xs => .tuple (toPs xs)
  | .lst xs => .list (toPs xs)
  | _ => .none
def toPs : List D → List PyData
  | [] => []
  | d :: r => toP d :: toPs r
end
mutual
/-- at least as long as the value's repr -/
def wtD : D → Nat
  | .int i => i.natAbs.log2 + 3
  | .str s => 10 * s.cps.size + 2
  | .tup xs | .lst xs => wtsD xs + 3
  | _ => 5
def wtsD : List D → Nat
  | [] => 0
  | d :: r => wtD d + 2 + wtsD r
end
mutual
/-- ints that str takes -/
def shortD : D → Bool
  | .int i => decide (i.natAbs.log2 < 1920)
  | .tup xs | .lst xs => shortsD xs
  | _ => true
def shortsD : List D → Bool
  | [] => true
  | d :: r => shortD d && shortsD r
end
def dispD : D → Bool
  | .tup _ | .lst _ => true
  | _ => false
def reprD (x : D) (st : Store) : Res D := match x with
  | .int i => if i.natAbs.log2 < 1920 then .ok (.str (toString i : String)) st else .bad
  | _ => if dispD x && plain x && decide (deep x ≤ 32) && shortD x && decide (wtD x ≤ 1000000) then .ok (.str (toP x).shown) st else .bad
def replD (xs : List D) (y : D) (st : Store) : Res D := match y with
  | .int k => if -1000 ≤ k ∧ k ≤ 1000 ∧ xs.length ≤ 1000 then .ok (.lst (List.replicate k.toNat xs).flatten) st else .bad
  | _ => .bad
def lrngD (y : D) (st : Store) : Res D := match y with
  | .int k => if -1000000 ≤ k ∧ k ≤ 1000000 then .ok (.lst ((List.range k.toNat).map fun i => .int ((0 : Int) + (i : Nat)))) st else .bad
  | _ => .bad
def zipD : List D → List D → List D
  | a :: r, b :: s => .tup [a, b] :: zipD r s
  | _, _ => []
def slotV (ρ : Env) (i : Nat) : Option D := match ρ[i]? with
  | some (some (.v d)) => some d
  | _ => none
def slotO (ρ : Env) (i : Nat) : Option (List D) := match ρ[i]? with
  | some (some (.own xs)) => some xs
  | _ => none
/-- one name: the value itself; several: a tuple unpacked -/
def setAll : List Nat → List D → Env → Option Env
  | [], [], ρ => some ρ
  | i :: is, d :: ds, ρ => if i < ρ.length then setAll is ds (ρ.set i (some (.v d))) else none
  | _, _, _ => none
def bindT (tg : List Nat) (d : D) (ρ : Env) : Option Env := match tg with
  | [i] => if i < ρ.length then some (ρ.set i (some (.v d))) else none
  | is => (match d with
    | .tup ds => setAll is ds ρ
    | _ => none)
/-- several targets at once; true: the slot owns the list -/
def setPar : List (Nat × Bool) → List D → Env → Option Env
  | [], [], ρ => some ρ
  | (i, false) :: r, d :: ds, ρ => if i < ρ.length then setPar r ds (ρ.set i (some (.v d))) else none
  | (i, true) :: r, .lst xs :: ds, ρ => if i < ρ.length then setPar r ds (ρ.set i (some (.own xs))) else none
  | _, _, _ => none
/-- the slots of a comprehension's own names are forgotten -/
def wipeE (ρ : Env) : List Nat → Env
  | [] => ρ
  | i :: r => (wipeE ρ r).set i none

def mapR (f : D → Store → Res (Option D)) : List D → Store → Res (List D)
  | [], st => .ok [] st
  | d :: r, st => (f d st).bind fun o st1 => (mapR f r st1).bind fun ds st2 => .ok (match o with
    | some x => x :: ds
    | none => ds) st2
def flatR (f : D → Store → Res (List D)) : List D → Store → Res (List D)
  | [], st => .ok [] st
  | d :: r, st => (f d st).bind fun xs st1 => (flatR f r st1).bind fun ds st2 => .ok (xs ++ ds) st2
def enumD (xs : List D) : List D := xs.zipIdx.map fun p => .tup [.int p.2, p.1]
def rngD (lo : Int) (n : Nat) : List D := (List.range n).map fun i => .int (lo + (i : Nat))

mutual
def ev : C → Env → Store → Res D
  | .var i, ρ, st => (match slotV ρ i with
    | some d => .ok d st
    | none => .bad)
  | .bor i, ρ, st => (match slotO ρ i with
    | some xs => .ok (.lst xs) st
    | none => .bad)
  | .non, _, st => .ok .non st
  | .bl b, _, st => .ok (.bl b) st
  | .int i, _, st => .ok (.int i) st
  | .str s, _, st => .ok (.str s) st
  | .gfn j, _, st => .ok (.fn j) st
  | .gco k, _, st => (match T.con[k]? with
    | some d => .ok d st
    | none => .bad)
  | .neg a, ρ, st => (ev a ρ st).bind fun x st1 => negD T call x st1
  | .not a, ρ, st => (ev a ρ st).bind fun x st1 => (match x with
    | .bl b => .ok (.bl (!b)) st1
    | _ => .bad)
  | .bin op a b, ρ, st => (ev a ρ st).bind fun x st1 => (ev b ρ st1).bind fun y st2 => binD T call op x y st2
  | .cmp op a b, ρ, st => (ev a ρ st).bind fun x st1 => (ev b ρ st1).bind fun y st2 => cmpD T call op x y st2
  | .chain o1 o2 a b c, ρ, st => (ev a ρ st).bind fun x st1 => (ev b ρ st1).bind fun y st2 => (cmpD T call o1 x y st2).bind fun r st3 => (match r with
    | .bl true => (ev c ρ st3).bind fun z st4 => cmpD T call o2 y z st4
    | .bl false => .ok (.bl false) st3
    | _ => .bad)
  | .and as, ρ, st => evAnd as ρ st
  | .or as, ρ, st => evOr as ρ st
  | .ite t a b, ρ, st => (ev t ρ st).bind fun x st1 => (truD T call x st1).bind fun k st2 => if k then ev a ρ st2 else ev b ρ st2
  | .tup as, ρ, st => (evs as ρ st).bind fun xs st1 => .ok (.tup xs) st1
  | .lst as, ρ, st => (evs as ρ st).bind fun xs st1 => .ok (.lst xs) st1
  | .idx a b, ρ, st => (ev a ρ st).bind fun x st1 => (ev b ρ st1).bind fun y st2 => idxD x y st2
  | .sl a lo hi, ρ, st => (ev a ρ st).bind fun x st1 => (ev lo ρ st1).bind fun l st2 => (ev hi ρ st2).bind fun h st3 => slD lo.isNon hi.isNon x l h st3
  | .call j as ds, ρ, st => (evs as ρ st).bind fun xs st1 => call j (xs ++ ds) st1
  | .callV i as, ρ, st => (evs as ρ st).bind fun xs st1 => (match slotV ρ i with
    | some (.fn j) => call j xs st1
    | _ => .bad)
  | .make c as ds, ρ, st => (evs as ρ st).bind fun xs st1 => (match T.cls[c]? with
    | some k => call k.init (xs ++ ds) st1
    | none => .bad)
  | .meth m o as, ρ, st => (ev o ρ st).bind fun x st1 => (evs as ρ st1).bind fun xs st2 => methD T call m x xs st2
  | .attr f o, ρ, st => (ev o ρ st).bind fun x st1 => attrD T call f x st1
  | .blt b a, ρ, st => (ev a ρ st).bind fun x st1 => bltD T call b x st1
  | .isi a t, ρ, st => (ev a ρ st).bind fun x st1 => (match isiD T x t with
    | some b => .ok (.bl b) st1
    | none => .bad)
  | .lc elt tg it ifs, ρ, st => (evIt it ρ st).bind fun xs st1 => if 1000000 < xs.length then .bad else (mapR (fun d st2 => match bindT tg d (wipeE ρ tg) with
      | some ρ1 => (evIfs ifs ρ1 st2).bind fun k st3 => if k then (ev elt ρ1 st3).bind fun y st4 => .ok (some y) st4 else .ok none st3
      | none => .bad) xs st1).bind fun ys st2 => .ok (.lst ys) st2
  | .dget o k, ρ, st => (ev o ρ st).bind fun x st1 => dgetD x k st1
  | .dict ks as, ρ, st => (evs as ρ st).bind fun xs st1 => dictD ks xs st1
  | .newc a, ρ, st => (ev a ρ st).bind fun x st1 => newcD x st1
  | .popc o i, ρ, st => (ev o ρ st).bind fun x st1 => if isLk x st1 then (ev i ρ st1).bind fun y st2 => popD x y st2 else .bad
  | .max2 a b, ρ, st => (ev a ρ st).bind fun x st1 => (ev b ρ st1).bind fun y st2 => max2D x y st2
  | .ssort a, ρ, st => (ev a ρ st).bind fun x st1 => ssortD x st1
  | .kcall j as, ρ, st => (evs as ρ st).bind fun xs st1 => call j xs st1
  | .repr a, ρ, st => (ev a ρ st).bind fun x st1 => reprD x st1
  | .catb i b, ρ, st => (ev b ρ st).bind fun y st1 => (match slotO ρ i, y with
    | some xs, .lst ys => if xs.length + ys.length ≤ 1000000 then .ok (.lst (xs ++ ys)) st1 else .bad
    | _, _ => .bad)
  | .lrng a, ρ, st => (ev a ρ st).bind fun y st1 => lrngD y st1
  | .callB j as, ρ, st => (evs as ρ st).bind fun xs st1 => if plains xs then (match call j xs [] with
    | .ok d [] => if flat d then .ok d st1 else .bad
    | _ => .bad) else .bad
  | .lc2 elt tg it tg2 it2, ρ, st => (evIt it ρ st).bind fun xs st1 => if 1000 < xs.length then .bad else (flatR (fun d st2 => match bindT tg d (wipeE ρ (tg ++ tg2)) with
      | some ρ1 => (evIt it2 ρ1 st2).bind fun ys st3 => if 1000 < ys.length then .bad else mapR (fun e st4 => match bindT tg2 e (wipeE ρ1 tg2) with
          | some ρ2 => (ev elt ρ2 st4).bind fun y st5 => .ok (some y) st5
          | none => .bad) ys st3
      | none => .bad) xs st1).bind fun ys st2 => .ok (.lst ys) st2
  | .repl as n, ρ, st => (evs as ρ st).bind fun xs st1 => (ev n ρ st1).bind fun y st2 => replD xs y st2
  | .min2 a b, ρ, st => (ev a ρ st).bind fun x st1 => (ev b ρ st1).bind fun y st2 => min2D x y st2
  | .rev a, ρ, st => (ev a ρ st).bind fun x st1 => revD x st1
  | .makeS c a, ρ, st => (ev a ρ st).bind fun x st1 => (match x, T.cls[c]? with
    | .tup xs, some k => call k.init xs st1
    | _, _ => .bad)
  | .callT j as, ρ, st => (evs as ρ st).bind fun xs st1 => if xs.length ≤ 1000 then call j [.tup xs] st1 else .bad
def evs : Cs → Env → Store → Res (List D)
  | .nil, _, st => .ok [] st
  | .cons c r, ρ, st => (ev c ρ st).bind fun x st1 => (evs r ρ st1).bind fun xs st2 => .ok (x :: xs) st2
def evAnd : Cs → Env → Store → Res D
  | .nil, _, _ => .bad
  | .cons c .nil, ρ, st => ev c ρ st
  | .cons c (.cons c2 r), ρ, st => (ev c ρ st).bind fun x st1 => (match x with
    | .bl true => evAnd (.cons c2 r) ρ st1
    | .bl false => .ok (.bl false) st1
    | _ => .bad)
def evOr : Cs → Env → Store → Res D
  | .nil, _, _ => .bad
  | .cons c .nil, ρ, st => ev c ρ st
  | .cons c (.cons c2 r), ρ, st => (ev c ρ st).bind fun x st1 => (match x with
    | .bl true => .ok (.bl true) st1
    | .bl false => evOr (.cons c2 r) ρ st1
    | _ => .bad)
def evIt : It → Env → Store → Res (List D)
  | .seq c, ρ, st => (ev c ρ st).bind fun x st1 => (match x with
    | .lst xs | .tup xs => .ok xs st1
    | _ => .bad)
  | .rng1 a, ρ, st => (ev a ρ st).bind fun x st1 => (match x with
    | .int n => if decide (-(2 ^ 62) ≤ n) && decide (n < 2 ^ 62) then .ok (rngD 0 n.toNat) st1 else .bad
    | _ => .bad)
  | .rng2 a b, ρ, st => (ev a ρ st).bind fun x st1 => (ev b ρ st1).bind fun y st2 => (match x, y with
    | .int i, .int j => if decide (-(2 ^ 62) ≤ i) && decide (i < 2 ^ 62) && decide (-(2 ^ 62) ≤ j) && decide (j < 2 ^ 62) then .ok (rngD i (j - i).toNat) st2 else .bad
    | _, _ => .bad)
  | .enum a, ρ, st => (ev a ρ st).bind fun x st1 => (match x with
    | .lst xs | .tup xs => .ok (enumD xs) st1
    | _ => .bad)
  | .zip a b, ρ, st => (ev a ρ st).bind fun x st1 => (ev b ρ st1).bind fun y st2 => (match x, y with
    | .lst xs, .lst ys | .lst xs, .tup ys | .tup xs, .lst ys | .tup xs, .tup ys => .ok (zipD xs ys) st2
    | _, _ => .bad)
def evIfs : Cs → Env → Store → Res Bool
  | .nil, _, st => .ok true st
  | .cons c .nil, ρ, st => (ev c ρ st).bind fun x st1 => truD T call x st1
  | _, _, _ => .bad
end
def evT (c : C) (ρ : Env) (st : Store) : Res Bool := (ev T call c ρ st).bind fun x st1 => truD T call x st1

def forR (tg : List Nat) (body : Env → Store → Fl) : List D → Env → Store → Fl
  | [], ρ, st => .nx ρ st
  | d :: r, ρ, st => match bindT tg d ρ with
    | some ρ1 => (match body ρ1 st with
      | .nx ρ2 st2 => forR tg body r ρ2 st2
      | .ct ρ2 st2 => forR tg body r ρ2 st2
      | .bk ρ2 st2 => .nx ρ2 st2
      | f => f)
    | none => .bad
/-- items (a, (b, ..)) as (a, b, ..) -/
def flat2s : List D → Option (List D)
  | [] => some []
  | .tup [a, .tup ds] :: r => (flat2s r).map (.tup (a :: ds) :: ·)
  | _ => none
def whlR (test : Env → Store → Res Bool) (body : Env → Store → Fl) : Nat → Env → Store → Fl
  | 0, _, _ => .bad
  | n + 1, ρ, st => match test ρ st with
    | .ok true st1 => (match body ρ st1 with
      | .nx ρ2 st2 => whlR test body n ρ2 st2
      | .ct ρ2 st2 => whlR test body n ρ2 st2
      | .bk ρ2 st2 => .nx ρ2 st2
      | f => f)
    | .ok false st1 => .nx ρ st1
    | .exc k fs st1 => .exc k fs st1
    | .bad => .bad
def Res.fl {α : Type} (r : Res α) (f : α → Store → Fl) : Fl := match r with
  | .ok a st => f a st
  | .exc k fs st => .exc k fs st
  | .bad => .bad
@[simp] theorem Res.fl_ok {α : Type} (a : α) (st : Store) (f : α → Store → Fl) : (Res.ok a st).fl f = f a st := rfl
@[simp] theorem Res.fl_bad {α : Type} (f : α → Store → Fl) : (Res.bad : Res α).fl f = .bad := rfl

variable (wf : Nat)
mutual
def evS : S → Env → Store → Fl
  | .set i e, ρ, st => (ev T call e ρ st).fl fun x st1 => if i < ρ.length then .nx (ρ.set i (some (.v x))) st1 else .bad
  | .own i e, ρ, st => (ev T call e ρ st).fl fun x st1 => (match x with
    | .lst xs => if i < ρ.length then .nx (ρ.set i (some (.own xs))) st1 else .bad
    | _ => .bad)
  | .frz i, ρ, st => (match slotO ρ i with
    | some xs => .nx (ρ.set i (some (.v (.lst xs)))) st
    | none => .bad)
  | .unp is e, ρ, st => (ev T call e ρ st).fl fun x st1 => (match x with
    | .tup ds => (match setAll is ds ρ with
      | some ρ1 => .nx ρ1 st1
      | none => .bad)
    | .lst ds => (match setAll is ds ρ with
      | some ρ1 => .nx ρ1 st1
      | none => .bad)
    | _ => .bad)
  | .par i j a b, ρ, st => (ev T call a ρ st).fl fun x st1 => (ev T call b ρ st1).fl fun y st2 => if i < ρ.length ∧ j < ρ.length ∧ i ≠ j then .nx ((ρ.set i (some (.v x))).set j (some (.v y))) st2 else .bad
  | .fld i f e, ρ, st => (ev T call e ρ st).fl fun x st1 => (match ρ[i]? with
    | some (some (.self c fs)) => if fs.length < 100 ∧ fldOf T c f = true then .nx (ρ.set i (some (.self c (putL f x fs)))) st1 else .bad
    | _ => .bad)
  | .dput o k e, ρ, st => (ev T call e ρ st).fl fun x st1 => (ev T call o ρ st1).fl fun y st2 => (match dputD y k x st2 with
    | some st3 => .nx ρ st3
    | none => .bad)
  | .app i e, ρ, st => (ev T call e ρ st).fl fun x st1 => (match slotO ρ i with
    | some xs => if xs.length < 1000000 then .nx (ρ.set i (some (.own (xs ++ [x])))) st1 else .bad
    | none => .bad)
  | .ext i e, ρ, st => (ev T call e ρ st).fl fun x st1 => (match x, slotO ρ i with
    | .lst ys, some xs => if xs.length + ys.length ≤ 1000000 then .nx (ρ.set i (some (.own (xs ++ ys)))) st1 else .bad
    | _, _ => .bad)
  | .setc o i e, ρ, st => (ev T call e ρ st).fl fun x st1 => (ev T call o ρ st1).fl fun y st2 => (ev T call i ρ st2).fl fun z st3 => (match setD y z x st3 with
    | some st4 => .nx ρ st4
    | none => .bad)
  | .ins i p e, ρ, st => (ev T call p ρ st).fl fun x st1 => (ev T call e ρ st1).fl fun y st2 => (match slotO ρ i, x with
    | some xs, .int k => if 0 ≤ k ∧ k < 1000000 ∧ xs.length < 1000000 then .nx (ρ.set i (some (.own (xs.take k.toNat ++ [y] ++ xs.drop k.toNat)))) st2 else .bad
    | _, _ => .bad)
  | .parN ts es, ρ, st => (evs T call es ρ st).fl fun xs st1 => (match setPar ts xs ρ with
    | some ρ1 => .nx ρ1 st1
    | none => .bad)
  | .parc o i j a b, ρ, st => (ev T call a ρ st).fl fun x st1 => (ev T call b ρ st1).fl fun y st2 => (ev T call o ρ st2).fl fun u st3 => (ev T call i ρ st3).fl fun z st4 => (match setD u z x st4 with
    | some st5 => if j < ρ.length then .nx (ρ.set j (some (.v y))) st5 else .bad
    | none => .bad)
  | .popo i p, ρ, st => (ev T call p ρ st).fl fun x st1 => (match slotO ρ i, x with
    | some xs, .int k => if 0 ≤ k ∧ k < xs.length ∧ k < 1000000 then .nx (ρ.set i (some (.own (xs.eraseIdx k.toNat)))) st1 else .bad
    | _, _ => .bad)
  | .mtch e ks, ρ, st => (ev T call e ρ st).fl fun x st1 => (match x with
    | .str s => evKs ks s ρ st1
    | _ => .bad)
  | .ex e, ρ, st => (ev T call e ρ st).fl fun _ st1 => .nx ρ st1
  | .ite t a b, ρ, st => (evT T call t ρ st).fl fun k st1 => if k then evSs a ρ st1 else evSs b ρ st1
  | .for tg it body, ρ, st => (evIt T call it ρ st).fl fun xs st1 => forR tg (evSs body) xs ρ st1
  | .whl t body, ρ, st => whlR (evT T call t) (evSs body) wf ρ st
  | .forN i is it body, ρ, st => (evIt T call it ρ st).fl fun xs st1 => (match flat2s xs with
    | some ys => forR (i :: is) (evSs body) ys ρ st1
    | none => .bad)
  | .ret e, ρ, st => (ev T call e ρ st).fl fun x st1 => .rt x st1
  | .never, _, _ => .bad
  | .pass, ρ, st => .nx ρ st
  | .brk, ρ, st => .bk ρ st
  | .cont, ρ, st => .ct ρ st
def evSs : Ss → Env → Store → Fl
  | .nil, ρ, st => .nx ρ st
  | .cons s r, ρ, st => match evS s ρ st with
    | .nx ρ1 st1 => evSs r ρ1 st1
    | f => f
def evKs : Ks → Str → Env → Store → Fl
  | .nil, _, ρ, st => .nx ρ st
  | .cons vs b r, s, ρ, st => if vs.contains s then evSs b ρ st else evKs r s ρ st
  | .wild b, _, ρ, st => evSs b ρ st
end
end

/-- a def: the number of its slots, of its parameters, its body; an __init__: its class -/
structure Fn where
  slots : Nat
  pars : Nat
  body : Ss
  init : Option Nat
  fresh : Bool

def startE (n : Nat) (ds : List D) : Env := ds.map (fun d => some (.v d)) ++ List.replicate (n - ds.length) none
def endF (fr : Bool) (f : Fl) : Res D := match f with
  | .nx _ st => if fr then .bad else .ok .non st
  | .rt d st => .ok d st
  | .exc k fs st => .exc k fs st
  | _ => .bad
def endI (c : Nat) (f : Fl) : Res D := match f with
  | .nx ρ st => (match (ρ[0]? : Option (Option Slot)) with
    | some (some (.self c' fs)) => if c' = c then .ok (.ins c fs) st else .bad
    | _ => .bad)
  | .exc k fs st => .exc k fs st
  | _ => .bad
def run (T : Tab) (fns : List Fn) (wf : Nat) : Nat → Nat → List D → Store → Res D
  | 0, _, _, _ => .bad
  | n + 1, j, as, st => match fns[j]? with
    | none => .bad
    | some f => match f.init with
      | none => if as.length = f.pars then endF f.fresh (evSs T (run T fns wf n) wf f.body (startE f.slots as) st) else .bad
      | some c => if as.length + 1 = f.pars then endI c (evSs T (run T fns wf n) wf f.body (some (.self c []) :: startE (f.slots - 1) as) st) else .bad
/-! ### the program's tables -/
structure ClsI where
  name : PySem.Str
  init : Nat
  flds : List Nat
  meth : List (Nat × Nat)
  prop : List (Nat × Nat)
structure FnI where
  glob : Option PySem.Str
  N : List PySem.Str
  ps : List PySem.Str
  dfl : List D
  body : Ss
  init : Option Nat
  fresh : Bool
  kw : Bool := false
  star : Bool := false
structure Prg where
  nm : List PySem.Str
  fns : List FnI
  cls : List ClsI
  con : List (PySem.Str × D)
  blt : List PySem.Str
  ccs : List (Nat × PySem.Str × D) := []
def Prg.tab (P : Prg) : Tab := ⟨P.cls.map fun k => ⟨k.init, k.flds, k.meth, k.prop⟩, P.con.map (·.2) ++ P.ccs.map (·.2.2)⟩
def Prg.fn (P : Prg) : List Fn := P.fns.map fun f => ⟨f.N.length, f.ps.length, f.body, f.init, f.fresh⟩
end Eng

/-! What sorted gives is what the interpreter sorts. -/
namespace Eng
open PySem PyProof.Rows
def leS (x y : PySem.Str) : Prop := x.cps.toList ≤ y.cps.toList
instance (x y : PySem.Str) : Decidable (leS x y) := inferInstanceAs (Decidable (_ ≤ _))
theorem leS_tot (x y : PySem.Str) : leS x y ∨ leS y x := List.le_total _ _
theorem leS_tr {x y z : PySem.Str} (a : leS x y) (b : leS y z) : leS x z := List.le_trans a b
theorem leS_as {x y : PySem.Str} (a : leS x y) (b : leS y x) : x = y := by
  have e : x.cps.toList = y.cps.toList := List.le_antisymm a b
  cases x; cases y
  congr 1
  exact Array.toList_inj.mp e
theorem insS_perm (x : PySem.Str) : ∀ l : List PySem.Str, (insS x l).Perm (x :: l)
  | [] => .refl _
  | y :: r => by
    unfold insS
    split
    · exact .refl _
    · exact ((insS_perm x r).cons y).trans (.swap x y r)
theorem sortS_perm : ∀ l : List PySem.Str, (sortS l).Perm l
  | [] => .refl _
  | x :: r => (insS_perm x (sortS r)).trans ((sortS_perm r).cons x)
theorem insS_pw (x : PySem.Str) : ∀ l : List PySem.Str, l.Pairwise leS → (insS x l).Pairwise leS
  | [], _ => List.pairwise_singleton _ _
  | y :: r, h => by
    rw [List.pairwise_cons] at h
    unfold insS
    split
    · rename_i q
      rw [List.pairwise_cons, List.pairwise_cons]
      refine ⟨fun z hz => ?_, h⟩
      rcases List.mem_cons.mp hz with rfl | hz
      · exact q
      · exact leS_tr q (h.1 z hz)
    · rename_i q
      rw [List.pairwise_cons]
      refine ⟨fun z hz => ?_, insS_pw x r h.2⟩
      rcases List.mem_cons.mp ((insS_perm x r).mem_iff.mp hz) with rfl | hz
      · exact (leS_tot y z).resolve_right q
      · exact h.1 z hz
theorem sortS_pw : ∀ l : List PySem.Str, (sortS l).Pairwise leS
  | [] => .nil
  | x :: r => insS_pw x _ (sortS_pw r)
theorem rising_pw : ∀ (l : List PySem.Str) (p : PySem.Str), risingS p l = true → (p :: l).Pairwise leS
  | [], p, _ => List.pairwise_singleton _ _
  | x :: r, p, h => by
    unfold risingS at h
    rw [Bool.and_eq_true] at h
    have q := rising_pw r x h.2
    have e : leS p x := by
      have z := h.1
      rw [ltCps_eq] at z
      have z : ¬ x.cps.toList < p.cps.toList := by simpa using z
      exact z
    rw [List.pairwise_cons] at q ⊢
    refine ⟨fun z hz => ?_, List.pairwise_cons.mpr q⟩
    rcases List.mem_cons.mp hz with rfl | hz
    · exact e
    · exact leS_tr e (q.1 z hz)
theorem sortS_is {xs ys : List PySem.Str} (hp : ys.Perm xs) (hs : sortedS ys = true) : ys = sortS xs := by
  have h1 : ys.Pairwise leS := by
    cases ys with
    | nil => exact .nil
    | cons x r => exact rising_pw r x hs
  exact List.Perm.eq_of_pairwise (fun a b _ _ h1 h2 => leS_as h1 h2) h1 (sortS_pw xs) (hp.trans (sortS_perm xs).symm)
theorem putI_mem (x k : Int) : ∀ l : List Int, k ∈ putI x l ↔ k = x ∨ k ∈ l
  | [] => by simp [putI]
  | y :: r => by
    unfold putI
    split
    · simp
    · split
      · rename_i e; subst e; simp
      · simp only [List.mem_cons, putI_mem x k r]
        constructor
        · rintro (h | h | h)
          · exact .inr (.inl h)
          · exact .inl h
          · exact .inr (.inr h)
        · rintro (h | h | h)
          · exact .inr (.inl h)
          · exact .inl h
          · exact .inr (.inr h)
theorem putI_pw (x : Int) : ∀ l : List Int, l.Pairwise (· < ·) → (putI x l).Pairwise (· < ·)
  | [], _ => List.pairwise_singleton _ _
  | y :: r, h => by
    have h0 := h
    rw [List.pairwise_cons] at h
    unfold putI
    split
    · rename_i q
      rw [List.pairwise_cons]
      refine ⟨fun z hz => ?_, h0⟩
      rcases List.mem_cons.mp hz with rfl | hz
      · exact q
      · exact Int.lt_trans q (h.1 z hz)
    · split
      · exact h0
      · rw [List.pairwise_cons]
        refine ⟨fun z hz => ?_, putI_pw x r h.2⟩
        rcases (putI_mem x z r).mp hz with rfl | hz
        · omega
        · exact h.1 z hz
theorem setI_mem (k : Int) : ∀ l : List Int, k ∈ setI l ↔ k ∈ l
  | [] => by simp [setI]
  | x :: r => by simp [setI, putI_mem, setI_mem k r]
theorem setI_pw : ∀ l : List Int, (setI l).Pairwise (· < ·)
  | [] => .nil
  | x :: r => putI_pw x _ (setI_pw r)
theorem pw_nodup {l : List Int} (h : l.Pairwise (· < ·)) : l.Nodup := h.imp fun z => by omega
theorem setI_is {ns out : List Int} (hp : out.Pairwise (· < ·)) (hm : ∀ k, k ∈ out ↔ k ∈ ns) : out = setI ns := by
  have p : out.Perm (setI ns) := (List.perm_ext_iff_of_nodup (pw_nodup hp) (pw_nodup (setI_pw ns))).mpr fun a => by rw [hm, setI_mem]
  exact List.Perm.eq_of_pairwise (le := (· ≤ ·)) (fun a b _ _ h1 h2 => by omega) (hp.imp fun h => by omega) ((setI_pw ns).imp fun h => by omega) p
theorem strsD_map : ∀ {xs : List D} {ss : List PySem.Str}, strsD xs = some ss → xs = ss.map .str
  | [], ss, h => by cases h; rfl
  | .str s :: r, ss, h => by
    unfold strsD at h
    cases q : strsD r with
    | none => rw [q] at h; cases h
    | some t => rw [q] at h; cases h; rw [strsD_map q]; rfl
  | .non :: _, _, h => by cases h
  | .bl _ :: _, _, h => by cases h
  | .int _ :: _, _, h => by cases h
  | .tup _ :: _, _, h => by cases h
  | .lst _ :: _, _, h => by cases h
  | .ins _ _ :: _, _, h => by cases h
  | .fn _ :: _, _, h => by cases h
  | .ref _ :: _, _, h => by cases h
theorem intsD_map : ∀ {xs : List D} {ss : List Int}, intsD xs = some ss → xs = ss.map .int
  | [], ss, h => by cases h; rfl
  | .int s :: r, ss, h => by
    unfold intsD at h
    cases q : intsD r with
    | none => rw [q] at h; cases h
    | some t => rw [q] at h; cases h; rw [intsD_map q]; rfl
  | .non :: _, _, h => by cases h
  | .bl _ :: _, _, h => by cases h
  | .str _ :: _, _, h => by cases h
  | .tup _ :: _, _, h => by cases h
  | .lst _ :: _, _, h => by cases h
  | .ins _ _ :: _, _, h => by cases h
  | .fn _ :: _, _, h => by cases h
  | .ref _ :: _, _, h => by cases h
end Eng

/-! sorted of a list of tuples of ints and texts. -/
namespace Eng
open PySem PySem.Spec PyProof.Rows L2
/-! ### the order -/
theorem ltK_irr (x : Ky) : ltK x x = false := by
  cases x <;> simp [ltK, List.lt_irrefl]
theorem ltK_asym {x y : Ky} (h : ltK x y = true) : ltK y x = false := by
  cases x <;> cases y <;> simp [ltK] at h ⊢
  · omega
  · exact List.le_of_lt h
theorem ltK_tri {x y : Ky} (h : x ≠ y) (h2 : ltK x y = false) : ltK y x = true := by
  cases x <;> cases y <;> simp [ltK] at h2 ⊢
  · rename_i i j
    have : i ≠ j := fun e => h (by rw [e])
    omega
  · rename_i a b
    rcases leS_tot a b with q | q
    · exact absurd (leS_as q h2) (fun e => h (by rw [e]))
    · have hn : ¬ leS a b := fun z => h (by rw [leS_as z h2])
      exact List.not_le.mp hn
theorem ltK_tr {x y z : Ky} (h1 : ltK x y = true) (h2 : ltK y z = true) : ltK x z = true := by
  cases x <;> cases y <;> cases z <;> simp [ltK] at h1 h2 ⊢
  · omega
  · exact List.lt_trans h1 h2
theorem lexK_irr : ∀ l : List Ky, lexK l l = false
  | [] => rfl
  | x :: l => by simp [lexK, lexK_irr l]
theorem lexK_asym : ∀ {a b : List Ky}, lexK a b = true → lexK b a = false
  | [], [], h => by cases h
  | [], _ :: _, _ => rfl
  | _ :: _, [], h => by cases h
  | x :: a, y :: b, h => by
    unfold lexK at h ⊢
    by_cases e : x = y
    · subst e
      simp only [if_true] at h ⊢
      exact lexK_asym h
    · rw [if_neg e] at h
      rw [if_neg (Ne.symm e)]
      exact ltK_asym h
theorem lexK_tri : ∀ {a b : List Ky}, lexK a b = false → lexK b a = false → a = b
  | [], [], _, _ => rfl
  | [], _ :: _, h, _ => by cases h
  | _ :: _, [], _, h => by cases h
  | x :: a, y :: b, h, h2 => by
    unfold lexK at h h2
    by_cases e : x = y
    · subst e
      simp only [if_true] at h h2
      rw [lexK_tri h h2]
    · rw [if_neg e] at h
      rw [if_neg (Ne.symm e)] at h2
      rw [ltK_tri e h] at h2
      cases h2
theorem lexK_tr : ∀ {a b c : List Ky}, lexK a b = true → lexK b c = true → lexK a c = true
  | [], [], [], h1, _ => by cases h1
  | [], _ :: _, [], _, h2 => by cases h2
  | [], _, _ :: _, _, _ => rfl
  | _ :: _, [], _, h1, _ => by cases h1
  | _ :: _, _ :: _, [], _, h2 => by cases h2
  | x :: a, y :: b, z :: c, h1, h2 => by
    unfold lexK at h1 h2 ⊢
    by_cases e : x = y
    · subst e
      simp only [if_true] at h1
      by_cases e2 : x = z
      · subst e2
        simp only [if_true] at h2 ⊢
        exact lexK_tr h1 h2
      · rw [if_neg e2] at h2 ⊢
        exact h2
    · rw [if_neg e] at h1
      by_cases e2 : y = z
      · subst e2
        rw [if_neg e]
        exact h1
      · rw [if_neg e2] at h2
        have h3 := ltK_tr h1 h2
        have e3 : x ≠ z := fun q => by
          subst q
          rw [ltK_asym h1] at h2
          cases h2
        rw [if_neg e3]
        exact h3
theorem lexK_ntr {x y z : List Ky} (h1 : lexK y x = false) (h2 : lexK z y = false) : lexK z x = false := by
  cases h : lexK z x with
  | false => rfl
  | true =>
    cases h3 : lexK x y with
    | true => rw [lexK_tr h h3] at h2; cases h2
    | false =>
      have e := lexK_tri h3 h1
      subst e
      rw [h2] at h
      cases h
theorem swoK {α : Type} (k : α → List Ky) : SrtO.Swo fun v u => lexK (k v) (k u) := ⟨fun x y h => lexK_asym h, fun x y z h1 h2 => lexK_ntr h1 h2⟩
def leK (x y : List Ky) : Prop := lexK y x = false
theorem insK_perm (x : List Ky) : ∀ l : List (List Ky), (insK x l).Perm (x :: l)
  | [] => .refl _
  | y :: r => by
    unfold insK
    split
    · exact ((insK_perm x r).cons y).trans (.swap x y r)
    · exact .refl _
theorem sortK_perm : ∀ l : List (List Ky), (sortK l).Perm l
  | [] => .refl _
  | x :: r => (insK_perm x (sortK r)).trans ((sortK_perm r).cons x)
theorem insK_pw (x : List Ky) : ∀ l : List (List Ky), l.Pairwise leK → (insK x l).Pairwise leK
  | [], _ => List.pairwise_singleton _ _
  | y :: r, h => by
    rw [List.pairwise_cons] at h
    unfold insK
    split
    · rename_i q
      rw [List.pairwise_cons]
      refine ⟨fun z hz => ?_, insK_pw x r h.2⟩
      rcases List.mem_cons.mp ((insK_perm x r).mem_iff.mp hz) with rfl | hz
      · exact lexK_asym q
      · exact h.1 z hz
    · rename_i q
      rw [List.pairwise_cons, List.pairwise_cons]
      refine ⟨fun z hz => ?_, h⟩
      have q : lexK y x = false := by simpa using q
      rcases List.mem_cons.mp hz with rfl | hz
      · exact q
      · exact lexK_ntr q (h.1 z hz)
theorem sortK_pw : ∀ l : List (List Ky), (sortK l).Pairwise leK
  | [] => .nil
  | x :: r => insK_pw x _ (sortK_pw r)
theorem sortK_is {xs ys : List (List Ky)} (hp : ys.Perm xs) (hs : ys.Pairwise leK) : ys = sortK xs :=
  List.Perm.eq_of_pairwise (fun a b _ _ h1 h2 => lexK_tri h2 h1) hs (sortK_pw xs) (hp.trans (sortK_perm xs).symm)
/-! ### the values -/
def keyV' : Value → Ky
  | .int i _ => .inl i
  | .str x _ => .inr x
  | _ => .inl 0
/-- the keys that a tuple holds -/
def readK (h : Heap) : Value → List Ky
  | .ref a => (match h.get? a with
    | some o => (match o.data with
      | .seq its _ => its.toList.map keyV'
      | _ => [])
    | none => [])
  | _ => []
def IsKy (u : Value) : Prop := (∃ i t, u = .int i t) ∨ ∃ x t, u = .str x t
structure IsKt (h : Heap) (v : Value) (ks : List Ky) : Prop where
  ex : ∃ a o its n, v = .ref a ∧ h.get? a = some o ∧ o.cls = .type "tuple" ∧ o.data = .seq (its : List Value).toArray n ∧ (∀ u ∈ its, IsKy u) ∧ its.map keyV' = ks
theorem IsKt.read {h : Heap} {v : Value} {ks : List Ky} (x : IsKt h v ks) : readK h v = ks := by
  obtain ⟨a, o, its, n, rfl, ho, hc, hd, hk, rfl⟩ := x.ex
  simp [readK, ho, hd]
theorem IsKt.keeps {h h' : Heap} {v : Value} {ks : List Ky} (x : IsKt h v ks) (k : ∀ b o, h.get? b = some o → o.cls = .type "tuple" → h'.get? b = some o) : IsKt h' v ks := by
  obtain ⟨a, o, its, n, rfl, ho, hc, hd, hk, rfl⟩ := x.ex
  exact ⟨a, o, its, n, rfl, k a o ho hc, hc, hd, hk, rfl⟩
section
variable {prog : Program} {w : World} {A : Around} {E : Value → Shared → Prop} {s : Shared} {Q : Bool → Shared → Prop}
theorem oneLt_strs (c : Bool) {p q : PySem.Str} {t u : Tok} (h : Q (decide (p.cps.toList < q.cps.toList)) s) : wpAny (model prog w) A (oneLt' c (.str p t) (.str q u)) Q E s := by
  cases c with
  | true =>
    refine oneLt_str ?_
    first | exact h | (rw [ltCps_eq]; exact h)
  | false => exact PySem.W.kat_one _ _ (PyProof.Rows.lt_str (Q := PySem.W.BoolBack Q) h)
theorem lex_keys {fin : Bool} : ∀ (xs ys : List Value) (i : Nat), (∀ u ∈ xs, IsKy u) → (∀ u ∈ ys, IsKy u) → okK (xs.map keyV') (ys.map keyV') = true → fin = decide (xs.length < ys.length) →
    Q (lexK (xs.map keyV') (ys.map keyV')) s → PySem.W.KatLex prog w A true fin Q (xs.zip ys) i s
  | [], [], i, _, _, _, hf, h => by subst hf; exact PySem.W.kat_nil h
  | [], y :: ys, i, _, _, _, hf, h => by
    subst hf
    rw [List.zip_nil_left]
    exact PySem.W.kat_nil (by simpa [lexK] using h)
  | x :: xs, [], i, _, _, _, hf, h => by
    subst hf
    rw [List.zip_nil_right]
    exact PySem.W.kat_nil (by simpa [lexK] using h)
  | x :: xs, y :: ys, i, hx, hy, ho, hf, h => by
    rw [List.zip_cons_cons]
    have hf' : fin = decide (xs.length < ys.length) := by rw [hf]; simp
    have hx1 := hx x List.mem_cons_self
    have hy1 := hy y List.mem_cons_self
    have rec_ := lex_keys (fin := fin) xs ys (i + 1) (fun u m => hx u (List.mem_cons_of_mem _ m)) (fun u m => hy u (List.mem_cons_of_mem _ m))
    rcases hx1 with ⟨a, t, rfl⟩ | ⟨a, t, rfl⟩ <;> rcases hy1 with ⟨b, u, rfl⟩ | ⟨b, u, rfl⟩
    · have ho : okK (Sum.inl a :: xs.map keyV') (Sum.inl b :: ys.map keyV') = true := ho
      have h : Q (lexK (Sum.inl a :: xs.map keyV') (Sum.inl b :: ys.map keyV')) s := h
      simp only [okK, lexK] at ho h
      refine PySem.W.kat_cons (SeqAt.EqAt.int_int a t b u prog w _ _ ?_)
      refine PySem.W.kat_go (fun e1 => ?_) (fun e1 => ?_)
      · have e : a = b := by simpa using e1
        subst e
        simp only [if_true] at ho h
        exact PySem.W.kat_yes (rec_ ho hf' h)
      · have e : ¬ (Sum.inl a : Ky) = Sum.inl b := by simpa using e1
        rw [if_neg e] at h
        exact PySem.W.kat_no (TS.oneLt_ints _ h)
    · exfalso
      simp [okK, keyV', sameK] at ho
    · exfalso
      simp [okK, keyV', sameK] at ho
    · have ho : okK (Sum.inr a :: xs.map keyV') (Sum.inr b :: ys.map keyV') = true := ho
      have h : Q (lexK (Sum.inr a :: xs.map keyV') (Sum.inr b :: ys.map keyV')) s := h
      simp only [okK, lexK] at ho h
      refine PySem.W.kat_cons (wpAny_eqBool_str ?_)
      refine PySem.W.kat_go (fun e1 => ?_) (fun e1 => ?_)
      · have e : a = b := by simpa using e1
        subst e
        simp only [if_true] at ho h
        exact PySem.W.kat_yes (rec_ ho hf' h)
      · have e : ¬ (Sum.inr a : Ky) = Sum.inr b := by simpa using e1
        rw [if_neg e] at h
        exact PySem.W.kat_no (oneLt_strs _ h)
end
section
variable {prog : Program} {w : World} {A : Around} {E : Value → Shared → Prop} {s : Shared}
theorem key_cmp {vs : List Value} {k : Value → List Ky} (hp : ∀ v ∈ vs, IsKt s.heap v (k v)) (ho : ∀ v ∈ vs, ∀ u ∈ vs, okK (k v) (k u) = true) : SrtO.Cmp prog w A s (tuples' true) (fun p => p.1 ∈ vs) (SrtO.lt2 fun v u => lexK (k v) (k u)) := by
  intro p q hm hm'
  obtain ⟨a, o, its, n, e1, h1, h2, h3, h4, h5⟩ := (hp _ hm).ex
  obtain ⟨a', o', its', n', e1', h1', h2', h3', h4', h5'⟩ := (hp _ hm').ex
  have oo := ho _ hm _ hm'
  show wpAny (model prog w) A (keyLt' (tuples' true) p.1 q.1) (fun r s' => s' = s ∧ r = lexK (k p.1) (k q.1)) (fun _ _ => False) s
  rw [← h5, ← h5'] at oo ⊢
  rw [e1, e1']
  refine PySem.W.kat_lt h1 h3 h1' h3' (lex_keys its its' 0 h4 h4' oo (by simp) ⟨rfl, rfl⟩)
theorem firsts_k {h : Heap} {b : Bool} : ∀ {vs : List Value} {k : Value → List Ky}, (∀ v ∈ vs, IsKt h v (k v)) → (∀ v ∈ vs, headsK b (k v) = true) →
    ∃ fs, PySem.W.KatTups h vs fs ∧ fs.length = vs.length ∧ ∀ f ∈ fs, if b = true then ∃ i t, f = Value.int i t else ∃ x t, f = Value.str x t
  | [], _, _, _ => ⟨[], .nil, rfl, fun _ z => nomatch z⟩
  | v :: vs, k, h1, h2 => by
    obtain ⟨fs, q1, q2, q3⟩ := firsts_k (vs := vs) (fun u m => h1 u (List.mem_cons_of_mem _ m)) (fun u m => h2 u (List.mem_cons_of_mem _ m))
    obtain ⟨a, o, its, n, rfl, ho, hc, hd, hk, hkk⟩ := (h1 v List.mem_cons_self).ex
    have hh := h2 _ List.mem_cons_self
    rw [← hkk] at hh
    cases its with
    | nil => simp [headsK] at hh
    | cons f its =>
      refine ⟨f :: fs, .cons ho hc hd (by simp) q1, by simp [q2], fun g hg => ?_⟩
      rcases List.mem_cons.mp hg with rfl | hg
      · rcases hk g List.mem_cons_self with ⟨i, t, rfl⟩ | ⟨x, t, rfl⟩
        · have : b = true := by simpa [keyV', headsK] using hh
          subst this
          exact ⟨i, t, rfl⟩
        · have : b = false := by simpa [keyV', headsK] using hh
          subst this
          exact ⟨x, t, rfl⟩
      · exact q3 g hg
theorem keys_sortable {a : Addr} {vs : List Value} {k : Value → List Ky} {b : Bool} (h0 : 0 < vs.length) (hp : ∀ v ∈ vs, IsKt s.heap v (k v)) (hb : ∀ v ∈ vs, headsK b (k v) = true) (hok : ∀ v ∈ vs, ∀ u ∈ vs, okK (k v) (k u) = true) (ha : ∀ o, s.heap.get? a = some o → o.cls ≠ .type "tuple") :
    SrtO.SortableO prog w A s a vs fun v u => lexK (k v) (k u) := by
  intro h' keep
  have hp' : ∀ v ∈ vs, IsKt h' v (k v) := fun v hm => (hp v hm).keeps fun b o e c => keep b o (fun z => by subst z; exact ha o e c) e
  obtain ⟨fs, h1, h2, h3⟩ := firsts_k hp' hb
  refine ⟨tuples' true, fun Q E hq => ?_, key_cmp hp' hok⟩
  cases b with
  | true =>
    refine PySem.W.kat_kind (T := .type "int") h1 (by omega) (fun f hm => ?_) (by rfl) ?_
    · obtain ⟨x, t, rfl⟩ := h3 f hm
      exact PySem.W.Looks.now
    · have e : (Value.type "int" != Value.type "tuple") = true := by first | decide +kernel | rfl | decide
      rw [e]
      exact hq
  | false =>
    refine PySem.W.kat_kind (T := .type "str") h1 (by omega) (fun f hm => ?_) (by rfl) ?_
    · obtain ⟨x, t, rfl⟩ := h3 f hm
      exact PySem.W.Looks.now
    · have e : (Value.type "str" != Value.type "tuple") = true := by first | decide +kernel | rfl | decide
      rw [e]
      exact hq
theorem sorted_keys {l : Addr} {vs : List Value} {k : Value → List Ky} {b : Bool} {Q : Value → Shared → Prop} (hl : s.heap.IsList l vs.toArray) (hz : vs.length ≤ sizeLine) (hp : ∀ v ∈ vs, IsKt s.heap v (k v)) (hb : ∀ v ∈ vs, headsK b (k v) = true) (hok : ∀ v ∈ vs, ∀ u ∈ vs, okK (k v) (k u) = true)
    (h : ∀ (h' : Heap) (d : Addr) (out : List Value), SrtO.Srtd (fun v u => lexK (k v) (k u)) out → SrtO.Stb (fun v u => lexK (k v) (k u)) out vs → (∀ b o, s.heap.get? b = some o → h'.get? b = some o) → s.heap.objs.size ≤ d → (∃ n, h'.get? d = some (seqObj "list" out.toArray n)) → Q (.ref d) { s with heap := h' }) :
    wpAny (model prog w) A (call (.builtin "sorted") [.ref l]) Q E s := by
  refine SrtO.sorted_ord (swoK k) hl hz (fun h2 h₁ a ha kk => ?_) fun out hs hb => ?_
  · refine keys_sortable (s := { s with heap := h₁ }) (by omega) (fun v hm => (hp v hm).keeps fun b o e _ => (kk b o e).2) hb hok fun o e => ?_
    have e' : some o = some (seqObj "list" vs.toArray 0) := e.symm.trans ha
    cases e'
    intro c
    exact absurd (Value.type.inj c) (by decide)
  · exact h _ _ out hs hb (fun b o e => sortedAll_old e) (Nat.le_succ _) (sortedAll_at s.heap vs out.toArray)
end
/-! ### as a rule of the layer -/
/-- the tuple at x holds the keys ks -/
def TupK (K : PySem.W.Frag) (H : Hp) (x : V) (ks : List Ky) : Prop := ∃ t, x = V.ref t ∧ SqT K H t (ks.map kV)
def rSortedK (K : PySem.W.Frag) : List V → Hp → VK → Prop := fun vs H Q => ∃ (a : Addr) (xs : List V) (ks : List (List Ky)) (R : V → List Ky → Prop), vs = [V.ref a] ∧ SqL K H a xs ∧ (∀ x k, R x k → TupK K H x k) ∧ Paired R xs ks ∧ okKs ks = true ∧
  ∀ ys p, Paired R ys (sortK ks) → H p = none → Q (.ref p) (upd H p (.lst ys))
section
variable {X : Cx}
theorem vals_keys : ∀ {ks : List Ky} {us : List Value}, Vals (ks.map kV) us → (∀ u ∈ us, IsKy u) ∧ us.map keyV' = ks
  | [], _, .nil => ⟨(fun _ z => nomatch z), rfl⟩
  | k :: ks, u :: us, .cons r t => by
    obtain ⟨h1, h2⟩ := vals_keys t
    cases k with
    | inl i =>
      obtain ⟨t, rfl⟩ := r
      refine ⟨fun v hv => ?_, by rw [List.map_cons, h2]; rfl⟩
      rcases List.mem_cons.mp hv with rfl | hv
      · exact .inl ⟨_, _, rfl⟩
      · exact h1 v hv
    | inr i =>
      obtain ⟨t, rfl⟩ := r
      refine ⟨fun v hv => ?_, by rw [List.map_cons, h2]; rfl⟩
      rcases List.mem_cons.mp hv with rfl | hv
      · exact .inr ⟨_, _, rfl⟩
      · exact h1 v hv
theorem tupk_is {pins : List (Addr × Obj)} {σ : L2.St} {H : Hp} {s : Shared} (I : Inv X pins σ H s) {x : V} {ks : List Ky} {u : Value} (h : TupK X.K H x ks) (r : RelV x u) : IsKt s.heap u ks := by
  obtain ⟨t, rfl, h⟩ := h
  obtain ⟨its, rv, ⟨o, ho, hc, n, hd⟩, _⟩ := I.tuple h
  obtain rfl : u = Value.ref t := r
  obtain ⟨h1, h2⟩ := vals_keys rv
  exact ⟨t, o, its, n, rfl, ho, hc, hd, h1, h2⟩
theorem paired_is {pins : List (Addr × Obj)} {σ : L2.St} {H : Hp} {s : Shared} (I : Inv X pins σ H s) : ∀ {xs : List V} {ks : List (List Ky)} {us : List Value}, Paired (TupK X.K H) xs ks → Vals xs us → (∀ u ∈ us, IsKt s.heap u (readK s.heap u)) ∧ us.map (readK s.heap) = ks ∧ ∀ x ∈ xs, ∃ a, x = V.ref a
  | _, _, _, .nil, .nil => ⟨(fun _ z => nomatch z), rfl, (fun _ z => nomatch z)⟩
  | _, _, _, .cons h t, .cons r q => by
    obtain ⟨h1, h2, h3⟩ := paired_is I t q
    have z := tupk_is I h r
    have e := z.read
    refine ⟨fun v hv => ?_, by rw [List.map_cons, h2, e], fun v hv => ?_⟩
    · rcases List.mem_cons.mp hv with rfl | hv
      · rw [e]; exact z
      · exact h1 v hv
    · rcases List.mem_cons.mp hv with rfl | hv
      · obtain ⟨a, rfl, _⟩ := h
        exact ⟨a, rfl⟩
      · exact h3 v hv
theorem paired_mem {α β : Type} {F : α → β → Prop} : ∀ {xs : List α} {ys : List β} {x : α}, Paired F xs ys → x ∈ xs → ∃ y, y ∈ ys ∧ F x y
  | _, _, _, .nil, h => nomatch h
  | _, _, x, .cons (b := b) r t, h => by
    rcases List.mem_cons.mp h with rfl | h
    · exact ⟨_, List.mem_cons_self, r⟩
    · obtain ⟨y, h1, h2⟩ := paired_mem t h
      exact ⟨y, List.mem_cons_of_mem _ h1, h2⟩
theorem paired_map {α β γ : Type} {F : α → β → Prop} {f : γ → α} {g : γ → β} : ∀ {l : List γ}, (∀ x ∈ l, F (f x) (g x)) → Paired F (l.map f) (l.map g)
  | [], _ => .nil
  | x :: l, h => .cons (h x List.mem_cons_self) (paired_map fun y hy => h y (List.mem_cons_of_mem _ hy))
theorem paired_get {α β : Type} {F : α → β → Prop} {γ : Type} {G : α → γ → Prop} : ∀ {xs : List α} {ys : List β} {us : List γ} {u : γ}, Paired F xs ys → Paired G xs us → u ∈ us → ∃ x y, x ∈ xs ∧ F x y ∧ G x u
  | _, _, _, _, .nil, .nil, h => nomatch h
  | _, _, _, u, .cons r t, .cons q z, h => by
    rcases List.mem_cons.mp h with rfl | h
    · exact ⟨_, _, List.mem_cons_self, r, q⟩
    · obtain ⟨x, y, h1, h2, h3⟩ := paired_get t z h
      exact ⟨x, y, List.mem_cons_of_mem _ h1, h2, h3⟩
theorem cr_sortedK : CallR X (.builtin "sorted") (rSortedK X.K) := by
  intro pins s σ H vs us Q I r h
  obtain ⟨a, xs, ks, R, rfl, hs, hR, hx0, hok, q⟩ := h
  have hx : Paired (TupK X.K H) xs ks := Paired.mapP hx0 hR
  obtain ⟨its, rv, hl, hz⟩ := I.list hs
  obtain ⟨u, rfl, ru⟩ := vals1 r
  obtain rfl : u = Value.ref a := ru
  obtain ⟨p1, p2, p3⟩ := paired_is I hx rv
  obtain ⟨e1, e2⟩ := refs_back rv p3
  unfold okKs at hok
  simp only [Bool.and_eq_true, Bool.or_eq_true, List.all_eq_true] at hok
  have mk : ∀ v ∈ its, readK s.heap v ∈ ks := fun v hv => by rw [← p2]; exact List.mem_map.mpr ⟨v, hv, rfl⟩
  obtain ⟨b, hb⟩ : ∃ b, ∀ v ∈ its, headsK b (readK s.heap v) = true := by
    rcases hok.1 with z | z
    · exact ⟨true, fun v hv => z _ (mk v hv)⟩
    · exact ⟨false, fun v hv => z _ (mk v hv)⟩
  refine sorted_keys (k := readK s.heap) hl.isList (by rw [← rv.length]; exact hz) p1 hb (fun v hv u hu => hok.2 _ (mk v hv) _ (mk u hu)) fun h' d out h1 h2 kp hd hn => ?_
  have h3 : ∀ u ∈ out, ∃ a, u = Value.ref a := fun u hu => e2 u (h2.perm.mem_iff.mp hu)
  obtain ⟨n, hn⟩ := hn
  have pm : (out.map (readK s.heap)).Perm ks := by
    have z := h2.perm.map (readK s.heap)
    rw [p2] at z
    exact z
  have ek : out.map (readK s.heap) = sortK ks := sortK_is pm (List.pairwise_map.mpr h1)
  refine ⟨.ref d, upd H d (.lst (out.map backV)), I.laid (t' := s.toks) kp hd ⟨?_, out, n, vals_back h3, hn⟩, rfl, q _ d ?_ (I.hok.fresh hd)⟩
  · rw [List.length_map, h2.perm.length_eq, ← rv.length]
    exact hz
  · rw [← ek]
    refine paired_map fun v hv => ?_
    have hv' := h2.perm.mem_iff.mp hv
    obtain ⟨x, kk, hm, ht, hr⟩ := paired_get hx0 rv hv'
    have z := (tupk_is I (hR _ _ ht) hr).read
    rw [z]
    obtain ⟨t, rfl, _⟩ := hR _ _ ht
    obtain rfl : v = Value.ref t := hr
    exact ht
end
end Eng

/-! How the interpreter's values lie in the abstract heap. -/
namespace Eng
open PySem PySem.Spec PyProof.Rows L2

/-- where the text's things stand: classes, defs; the names by number -/
structure Ad where
  cls : Nat → Addr
  fn : Nat → Addr
  nm : Nat → PySem.Str

/-- what is frozen, where the store's cells lie -/
structure Wd where
  G : Hp
  μ : Nat → Addr
  n : Nat

mutual
inductive RD (A : Ad) (K : PySem.W.Frag) (w : Wd) : D → V → Prop where
  | non : RD A K w .non .non
  | bl (b : Bool) : RD A K w (.bl b) (.bl b)
  | int (i : Int) : RD A K w (.int i) (.int i)
  | str (s : PySem.Str) : RD A K w (.str s) (.str s)
  | tup {a : Addr} {xs : List D} {vs : List V} (h : SqT K w.G a vs) (r : RDs A K w xs vs) : RD A K w (.tup xs) (.ref a)
  | lst {a : Addr} {xs : List D} {vs : List V} (h : SqL K w.G a vs) (r : RDs A K w xs vs) : RD A K w (.lst xs) (.ref a)
  | ins {a dx : Addr} {c : Nat} {fs : List (Nat × D)} {gs : List (PySem.Str × V)} (h : w.G a = some (.ins (A.cls c) dx gs)) (r : RDf A K w fs gs) : RD A K w (.ins c fs) (.ref a)
  | fn (j : Nat) : RD A K w (.fn j) (.ref (A.fn j))
  | ref {k : Nat} (h : k < w.n) : RD A K w (.ref k) (.ref (w.μ k))
inductive RDs (A : Ad) (K : PySem.W.Frag) (w : Wd) : List D → List V → Prop where
  | nil : RDs A K w [] []
  | cons {d : D} {v : V} {ds : List D} {vs : List V} (h : RD A K w d v) (r : RDs A K w ds vs) : RDs A K w (d :: ds) (v :: vs)
inductive RDf (A : Ad) (K : PySem.W.Frag) (w : Wd) : List (Nat × D) → List (PySem.Str × V) → Prop where
  | nil : RDf A K w [] []
  | cons {k : Nat} {d : D} {v : V} {ds : List (Nat × D)} {vs : List (PySem.Str × V)} (h : RD A K w d v) (r : RDf A K w ds vs) : RDf A K w ((k, d) :: ds) ((A.nm k, v) :: vs)
end

section
variable {A : Ad} {K : PySem.W.Frag} {w w' : Wd} {H H' : Hp}
structure Wd.le (w w' : Wd) : Prop where
  g : ∀ a o, w.G a = some o → w'.G a = some o
  n : w.n ≤ w'.n
  m : ∀ k, k < w.n → w'.μ k = w.μ k
theorem Wd.le.refl (w : Wd) : w.le w := ⟨fun _ _ h => h, Nat.le_refl _, fun _ _ => rfl⟩
theorem Wd.le.trans {w1 w2 w3 : Wd} (a : w1.le w2) (b : w2.le w3) : w1.le w3 := ⟨fun x o h => b.g x o (a.g x o h), Nat.le_trans a.n b.n, fun k h => (b.m k (Nat.lt_of_lt_of_le h a.n)).trans (a.m k h)⟩
theorem sqL_mono {G G' : Hp} {a : Addr} {xs : List V} (g : ∀ a o, G a = some o → G' a = some o) (h : SqL K G a xs) : SqL K G' a xs := by
  rcases h with (h | ⟨o, h⟩) | h
  · exact .inl (.inl (g _ _ h))
  · exact .inl (.inr ⟨o, g _ _ h⟩)
  · exact .inr h
theorem sqT_mono {G G' : Hp} {a : Addr} {xs : List V} (g : ∀ a o, G a = some o → G' a = some o) (h : SqT K G a xs) : SqT K G' a xs := by
  rcases h with (h | ⟨o, h⟩) | h
  · exact .inl (.inl (g _ _ h))
  · exact .inl (.inr ⟨o, g _ _ h⟩)
  · exact .inr h
mutual
theorem RD.mono (l : w.le w') : ∀ {d : D} {v : V}, RD A K w d v → RD A K w' d v
  | _, _, .non => .non
  | _, _, .bl b => .bl b
  | _, _, .int i => .int i
  | _, _, .str s => .str s
  | _, _, .tup h r => .tup (sqT_mono l.g h) (RDs.mono l r)
  | _, _, .lst h r => .lst (sqL_mono l.g h) (RDs.mono l r)
  | _, _, .ins h r => .ins (l.g _ _ h) (RDf.mono l r)
  | _, _, .fn j => .fn j
  | _, _, .ref (k := k) h => by
    have e := l.m k h
    rw [← e]
    exact .ref (Nat.lt_of_lt_of_le h l.n)
theorem RDs.mono (l : w.le w') : ∀ {d : List D} {v : List V}, RDs A K w d v → RDs A K w' d v
  | _, _, .nil => .nil
  | _, _, .cons h r => .cons (RD.mono l h) (RDs.mono l r)
theorem RDf.mono (l : w.le w') : ∀ {d : List (Nat × D)} {v : List (PySem.Str × V)}, RDf A K w d v → RDf A K w' d v
  | _, _, .nil => .nil
  | _, _, .cons h r => .cons (RD.mono l h) (RDf.mono l r)
end
theorem RDs.length : ∀ {d : List D} {v : List V}, RDs A K w d v → d.length = v.length
  | _, _, .nil => rfl
  | _, _, .cons _ r => congrArg Nat.succ r.length
theorem RDs.get : ∀ {ds : List D} {vs : List V} {i : Nat} {d : D}, RDs A K w ds vs → ds[i]? = some d → ∃ v, vs[i]? = some v ∧ RD A K w d v
  | _, _, _, _, .nil, e => by simp at e
  | _, _, 0, _, .cons h _, e => by simp at e; subst e; exact ⟨_, rfl, h⟩
  | _, _, i + 1, _, .cons _ r, e => by
    obtain ⟨v, h1, h2⟩ := RDs.get (i := i) r (by simpa using e)
    exact ⟨v, by simpa using h1, h2⟩
theorem RDs.getV : ∀ {ds : List D} {vs : List V} {i : Nat} {v : V}, RDs A K w ds vs → vs[i]? = some v → ∃ d, ds[i]? = some d ∧ RD A K w d v
  | _, _, _, _, .nil, e => by simp at e
  | _, _, 0, _, .cons h _, e => by simp at e; subst e; exact ⟨_, rfl, h⟩
  | _, _, i + 1, _, .cons _ r, e => by
    obtain ⟨v, h1, h2⟩ := RDs.getV (i := i) r (by simpa using e)
    exact ⟨v, by simpa using h1, h2⟩
theorem RDs.append : ∀ {a b : List D} {u v : List V}, RDs A K w a u → RDs A K w b v → RDs A K w (a ++ b) (u ++ v)
  | _, _, _, _, .nil, r => r
  | _, _, _, _, .cons h t, r => .cons h (RDs.append t r)
theorem RDs.take : ∀ (n : Nat) {a : List D} {u : List V}, RDs A K w a u → RDs A K w (a.take n) (u.take n)
  | 0, _, _, _ => by simp; exact .nil
  | n + 1, _, _, .nil => .nil
  | n + 1, _, _, .cons h t => .cons h (RDs.take n t)
theorem RDs.drop : ∀ (n : Nat) {a : List D} {u : List V}, RDs A K w a u → RDs A K w (a.drop n) (u.drop n)
  | 0, _, _, r => r
  | n + 1, _, _, .nil => .nil
  | n + 1, _, _, .cons h t => RDs.drop n t
/-- names are told apart by their numbers -/
def Inj (A : Ad) : Prop := ∀ i j, A.nm i = A.nm j → i = j
theorem RDf.lookup (hA : Inj A) {k : Nat} {d : D} : ∀ {fs : List (Nat × D)} {gs : List (PySem.Str × V)}, RDf A K w fs gs → fs.lookup k = some d → ∃ v, gs.lookup (A.nm k) = some v ∧ RD A K w d v
  | _, _, .nil, e => by simp at e
  | _, _, .cons (k := j) h r, e => by
    by_cases hj : k = j
    · subst hj
      simp [List.lookup] at e
      subst e
      exact ⟨_, by simp [List.lookup], h⟩
    · have hb : (k == j) = false := by simpa using hj
      have hn : (A.nm k == A.nm j) = false := by simpa using fun q => hj (hA _ _ q)
      simp only [List.lookup, hb] at e
      obtain ⟨v, h1, h2⟩ := RDf.lookup hA r e
      exact ⟨v, by simp only [List.lookup, hn]; exact h1, h2⟩
theorem RDf.lookup_none (hA : Inj A) {k : Nat} : ∀ {fs : List (Nat × D)} {gs : List (PySem.Str × V)}, RDf A K w fs gs → fs.lookup k = none → gs.lookup (A.nm k) = none
  | _, _, .nil, e => by simp
  | _, _, .cons (k := j) h r, e => by
    by_cases hj : k = j
    · subst hj
      simp [List.lookup] at e
    · have hb : (k == j) = false := by simpa using hj
      have hn : (A.nm k == A.nm j) = false := by simpa using fun q => hj (hA _ _ q)
      simp only [List.lookup, hb] at e
      simp only [List.lookup, hn]
      exact RDf.lookup_none hA r e
theorem RDf.length : ∀ {fs : List (Nat × D)} {gs : List (PySem.Str × V)}, RDf A K w fs gs → fs.length = gs.length
  | _, _, .nil => rfl
  | _, _, .cons _ r => congrArg Nat.succ r.length
theorem RDf.put (hA : Inj A) {k : Nat} {d : D} {v : V} (h : RD A K w d v) : ∀ {fs : List (Nat × D)} {gs : List (PySem.Str × V)}, RDf A K w fs gs → RDf A K w (putL k d fs) (putF (A.nm k) v gs)
  | _, _, .nil => .cons h .nil
  | _, _, .cons (k := j) h' r => by
    by_cases hj : j = k
    · subst hj
      simp only [putL, putF, if_true]
      exact .cons h r
    · have hn : ¬ A.nm j = A.nm k := fun q => hj (hA _ _ q)
      simp only [putL, putF, if_neg hj, if_neg hn]
      exact .cons h' (RDf.put hA h r)

/-- what the evaluation of an expression (ex: nothing; of an __init__'s body: its instance) may have done -/
structure Ext (ex : Addr → Prop) (w : Wd) (H : Hp) (w' : Wd) (H' : Hp) : Prop where
  le : w.le w'
  fr : ∀ a o, H a = some o → (∀ k, k < w.n → w.μ k ≠ a) → ¬ ex a → H' a = some o
  th : ∀ a o, H a = some o → ∃ o', H' a = some o'
  nw : ∀ a o, w'.G a = some o → w.G a = some o ∨ H a = none
  mn : ∀ k, w.n ≤ k → k < w'.n → H (w'.μ k) = none
abbrev no : Addr → Prop := fun _ => False
theorem Ext.refl (ex : Addr → Prop) (w : Wd) (H : Hp) : Ext ex w H w H := ⟨.refl w, fun _ _ h _ _ => h, fun _ o h => ⟨o, h⟩, fun _ _ h => .inl h, fun k h1 h2 => absurd h1 (by omega)⟩
theorem Ext.none_of {ex : Addr → Prop} (e : Ext ex w H w' H') {a : Addr} (h : H' a = none) : H a = none := by
  cases q : H a with
  | none => rfl
  | some o =>
    obtain ⟨o', q'⟩ := e.th a o q
    rw [h] at q'
    cases q'
theorem Ext.trans {ex : Addr → Prop} {w1 w2 w3 : Wd} {H1 H2 H3 : Hp} (a : Ext ex w1 H1 w2 H2) (b : Ext ex w2 H2 w3 H3) : Ext ex w1 H1 w3 H3 where
  le := a.le.trans b.le
  fr := fun x o h n hx => by
    refine b.fr x o (a.fr x o h n hx) (fun k hk => ?_) hx
    by_cases hk1 : k < w1.n
    · rw [a.le.m k hk1]
      exact n k hk1
    · intro e
      have q := a.mn k (Nat.le_of_not_lt hk1) hk
      rw [e, h] at q
      cases q
  th := fun x o h => by
    obtain ⟨o', h'⟩ := a.th x o h
    exact b.th x o' h'
  nw := fun x o h => by
    rcases b.nw x o h with h | h
    · exact a.nw x o h
    · exact .inr (a.none_of h)
  mn := fun k h1 h3 => by
    by_cases hk : k < w2.n
    · rw [b.le.m k hk]
      exact a.mn k h1 hk
    · exact a.none_of (b.mn k (Nat.le_of_not_lt hk) h3)
theorem Ext.weak {ex : Addr → Prop} (e : Ext no w H w' H') : Ext ex w H w' H' := ⟨e.le, fun a o h n _ => e.fr a o h n (fun z => z), e.th, e.nw, e.mn⟩

/-- a cell of the store -/
def CellR (A : Ad) (K : PySem.W.Frag) (w : Wd) : Cell → Option HO → Prop
  | .dk kvs, o => ∃ gs : List (PySem.Str × V), RDf A K w kvs gs ∧ o = some (.dK (gs.map fun p => ((Sum.inr p.1 : Key), p.2)))
  | .lk xs, o => ∃ vs : List V, RDs A K w xs vs ∧ o = some (.lst vs)
  | .dead, o => o ≠ none
theorem CellR.mono {c : Cell} {o : Option HO} (l : w.le w') (h : CellR A K w c o) : CellR A K w' c o := by
  cases c with
  | dk kvs =>
    obtain ⟨gs, r, e⟩ := h
    exact ⟨gs, r.mono l, e⟩
  | lk xs =>
    obtain ⟨vs, r, e⟩ := h
    exact ⟨vs, r.mono l, e⟩
  | dead => exact h
/-- the store, the frozen part -/
structure SR (A : Ad) (K : PySem.W.Frag) (w : Wd) (st : Store) (H : Hp) : Prop where
  sub : ∀ a o, w.G a = some o → H a = some o
  len : w.n = st.length
  cell : ∀ (k : Nat) (c : Cell), st[k]? = some c → CellR A K w c (H (w.μ k))
  inj : ∀ i j, i < w.n → j < w.n → w.μ i = w.μ j → i = j
  nog : ∀ k, k < w.n → w.G (w.μ k) = none
def Priv (w : Wd) (a : Addr) : Prop := w.G a = none ∧ ∀ k, k < w.n → w.μ k ≠ a
theorem Priv.ext {ex : Addr → Prop} {a : Addr} {o : HO} (p : Priv w a) (h : H a = some o) (e : Ext ex w H w' H') : Priv w' a := by
  refine ⟨?_, fun k hk => ?_⟩
  · cases q : w'.G a with
    | none => rfl
    | some u =>
      rcases e.nw a u q with z | z
      · rw [p.1] at z
        cases z
      · rw [h] at z
        cases z
  · by_cases hk1 : k < w.n
    · rw [e.le.m k hk1]
      exact p.2 k hk1
    · intro q
      have z := e.mn k (Nat.le_of_not_lt hk1) hk
      rw [q, h] at z
      cases z
/-- a slot of the frame. H0: the heap at the def's entry; ex: the instance that is being made -/
def SlotR (A : Ad) (K : PySem.W.Frag) (H0 : Hp) (ex : Addr → Prop) (w : Wd) (H : Hp) : Slot → V → Prop
  | .v d, v => RD A K w d v
  | .own xs, v => ∃ a vs, v = .ref a ∧ H a = some (.lst vs) ∧ RDs A K w xs vs ∧ Priv w a ∧ H0 a = none
  | .self c fs, v => ∃ a dx gs, v = .ref a ∧ H a = some (.ins (A.cls c) dx gs) ∧ RDf A K w fs gs ∧ Priv w a ∧ ex a
def Slot.mine : Slot → Bool
  | .v _ => false
  | _ => true
structure RS (A : Ad) (K : PySem.W.Frag) (H0 : Hp) (ex : Addr → Prop) (w : Wd) (ρ : Env) (σ : L2.St) (H : Hp) : Prop where
  len : σ.length = ρ.length
  sl : ∀ (i : Nat) (s : Slot), ρ[i]? = some (some s) → ∃ v, σ[i]? = some (some v) ∧ SlotR A K H0 ex w H s v
  ds : ∀ (i j : Nat) (s t : Slot) (a : Addr), i ≠ j → ρ[i]? = some (some s) → s.mine = true → ρ[j]? = some (some t) → t.mine = true → σ[i]? = some (some (.ref a)) → σ[j]? = some (some (.ref a)) → False
theorem SlotR.ext {H0 : Hp} {ex : Addr → Prop} {s : Slot} {v : V} (h : SlotR A K H0 ex w H s v) (e : Ext no w H w' H') : SlotR A K H0 ex w' H' s v := by
  cases s with
  | v d => exact RD.mono e.le h
  | own xs =>
    obtain ⟨a, vs, rfl, h1, r, p, n⟩ := h
    exact ⟨a, vs, rfl, e.fr a _ h1 p.2 (fun z => z), r.mono e.le, p.ext h1 e, n⟩
  | self c fs =>
    obtain ⟨a, dx, gs, rfl, h1, r, p, n⟩ := h
    exact ⟨a, dx, gs, rfl, e.fr a _ h1 p.2 (fun z => z), r.mono e.le, p.ext h1 e, n⟩
theorem RS.ext {H0 : Hp} {ex : Addr → Prop} {ρ : Env} {σ : L2.St} (h : RS A K H0 ex w ρ σ H) (e : Ext no w H w' H') : RS A K H0 ex w' ρ σ H' :=
  ⟨h.len, fun i s q => by
    obtain ⟨v, h1, h2⟩ := h.sl i s q
    exact ⟨v, h1, h2.ext e⟩, h.ds⟩
/-- a new frozen object -/
def Wd.add (w : Wd) (p : Addr) (o : HO) : Wd := ⟨upd w.G p o, w.μ, w.n⟩
theorem add_le {p : Addr} {o : HO} (hg : w.G p = none) : w.le (w.add p o) := ⟨fun a u h => by
    show upd w.G p o a = some u
    rw [upd_ne (ne_of_none h hg)]
    exact h, Nat.le_refl _, fun _ _ => rfl⟩
theorem SR.g_none {st : Store} (S : SR A K w st H) {p : Addr} (h : H p = none) : w.G p = none := by
  cases q : w.G p with
  | none => rfl
  | some o =>
    have z := S.sub p o q
    rw [h] at z
    cases z
theorem SR.mu_ne {st : Store} (S : SR A K w st H) {p : Addr} (h : H p = none) : ∀ k, k < w.n → w.μ k ≠ p := fun k hk e => by
  have hk' : k < st.length := by rw [← S.len]; exact hk
  have c := S.cell k st[k] (by simp [hk'])
  rw [e, h] at c
  cases q : st[k] with
  | dk kvs =>
    rw [q] at c
    obtain ⟨gs, _, z⟩ := c
    cases z
  | lk xs =>
    rw [q] at c
    obtain ⟨vs, _, z⟩ := c
    cases z
  | dead =>
    rw [q] at c
    exact c rfl
/-- the heap grows by an object that is frozen at once -/
theorem ext_add {st : Store} (S : SR A K w st H) {p : Addr} {o : HO} (h : H p = none) : Ext no w H (w.add p o) (upd H p o) where
  le := add_le (S.g_none h)
  fr := fun a u q _ _ => by rw [upd_ne (ne_of_none q h)]; exact q
  th := fun a u q => ⟨u, by rw [upd_ne (ne_of_none q h)]; exact q⟩
  nw := fun a u q => by
    by_cases e : a = p
    · subst e
      exact .inr h
    · refine .inl ?_
      have q : upd w.G p o a = some u := q
      rw [upd_ne e] at q
      exact q
  mn := fun k h1 h2 => absurd (show k < w.n from h2) (Nat.not_lt.mpr h1)
theorem sr_add {st : Store} (S : SR A K w st H) {p : Addr} {o : HO} (h : H p = none) : SR A K (w.add p o) st (upd H p o) where
  sub := fun a u q => by
    have q : upd w.G p o a = some u := q
    by_cases e : a = p
    · subst e
      rw [upd_same] at q ⊢
      exact q
    · rw [upd_ne e] at q ⊢
      exact S.sub a u q
  len := S.len
  cell := fun k c q => by
    have hk : k < w.n := by
      rw [S.len]
      exact (List.getElem?_eq_some_iff.mp q).1
    have z := (S.cell k c q).mono (add_le (o := o) (S.g_none h))
    show CellR A K (w.add p o) c (upd H p o (w.μ k))
    rw [upd_ne (S.mu_ne h k hk)]
    exact z
  inj := S.inj
  nog := fun k hk => by
    show upd w.G p o (w.μ k) = none
    rw [upd_ne (S.mu_ne h k hk)]
    exact S.nog k hk
/-- .. that is not frozen (an owned list, an instance being made) -/
theorem ext_new {st : Store} {p : Addr} {o : HO} (h : H p = none) : Ext no w H w (upd H p o) where
  le := .refl w
  fr := fun a u q _ _ => by rw [upd_ne (ne_of_none q h)]; exact q
  th := fun a u q => ⟨u, by rw [upd_ne (ne_of_none q h)]; exact q⟩
  nw := fun _ _ q => .inl q
  mn := fun k h1 h2 => absurd h2 (Nat.not_lt.mpr h1)
theorem sr_new {st : Store} (S : SR A K w st H) {p : Addr} {o : HO} (h : H p = none) : SR A K w st (upd H p o) where
  sub := fun a u q => by
    have z := S.sub a u q
    rw [upd_ne (ne_of_none z h)]
    exact z
  len := S.len
  cell := fun k c q => by
    have hk : k < w.n := by
      rw [S.len]
      exact (List.getElem?_eq_some_iff.mp q).1
    rw [upd_ne (S.mu_ne h k hk)]
    exact S.cell k c q
  inj := S.inj
  nog := S.nog
theorem priv_new {st : Store} (S : SR A K w st H) {p : Addr} (h : H p = none) : Priv w p := ⟨S.g_none h, S.mu_ne h⟩
/-- a private object is written -/
theorem sr_write {st : Store} (S : SR A K w st H) {p : Addr} {o : HO} (q : Priv w p) : SR A K w st (upd H p o) where
  sub := fun a u z => by
    have ne : a ≠ p := fun e => by
      subst e
      rw [q.1] at z
      cases z
    rw [upd_ne ne]
    exact S.sub a u z
  len := S.len
  cell := fun k c z => by
    have hk : k < w.n := by
      rw [S.len]
      exact (List.getElem?_eq_some_iff.mp z).1
    rw [upd_ne (q.2 k hk)]
    exact S.cell k c z
  inj := S.inj
  nog := S.nog
end
section
variable {A : Ad} {K : PySem.W.Frag} {w w' : Wd} {H H' : Hp} {st : Store}
/-- a private object becomes frozen -/
theorem sr_frz {x : Addr} {o : HO} (S : SR A K w st H) (p : Priv w x) (h : H x = some o) : SR A K (w.add x o) st H where
  sub := fun a u q => by
    have q : upd w.G x o a = some u := q
    by_cases e : a = x
    · subst e
      rw [upd_same] at q
      rw [h]
      exact q
    · rw [upd_ne e] at q
      exact S.sub a u q
  len := S.len
  cell := fun k c q => (S.cell k c q).mono (add_le p.1)
  inj := S.inj
  nog := fun k hk => by
    show upd w.G x o (w.μ k) = none
    rw [upd_ne (p.2 k hk)]
    exact S.nog k hk
end
section
theorem ext_wr {ex : Addr → Prop} {w w' : Wd} {H H' : Hp} {a : Addr} {o : HO} (E : Ext ex w H w' H') (h : H a = none) : Ext ex w H w' (upd H' a o) where
  le := E.le
  fr := fun b u q n x => by rw [upd_ne (ne_of_none q h)]; exact E.fr b u q n x
  th := fun b u q => by rw [upd_ne (ne_of_none q h)]; exact E.th b u q
  nw := E.nw
  mn := E.mn
theorem ext_fz {ex : Addr → Prop} {w w' : Wd} {H H' : Hp} {a : Addr} {o : HO} (E : Ext ex w H w' H') (h : H a = none) (hp : w'.G a = none) : Ext ex w H (w'.add a o) H' where
  le := E.le.trans (add_le hp)
  fr := E.fr
  th := E.th
  nw := fun b u q => by
    by_cases e : b = a
    · subst e
      exact .inr h
    · have q : upd w'.G a o b = some u := q
      rw [upd_ne e] at q
      exact E.nw b u q
  mn := E.mn
/-- a list made anew since H -/
def FR (A : Ad) (K : PySem.W.Frag) (w' : Wd) (H H' : Hp) (d : D) (v : V) : Prop := ∃ xs a vs, d = .lst xs ∧ v = .ref a ∧ H' a = some (.lst vs) ∧ RDs A K w' xs vs ∧ Priv w' a ∧ H a = none
theorem FR.frz {A : Ad} {K : PySem.W.Frag} {ex : Addr → Prop} {w w' : Wd} {H H' : Hp} {st' : Store} {d : D} {v : V} (h : FR A K w' H H' d v) (S : SR A K w' st' H') (E : Ext ex w H w' H') : ∃ w'', Ext ex w H w'' H' ∧ SR A K w'' st' H' ∧ RD A K w'' d v := by
  obtain ⟨xs, a, vs, rfl, rfl, h1, r, p, n⟩ := h
  exact ⟨w'.add a (.lst vs), ext_fz E n p.1, sr_frz S p h1, .lst (SqL.of (show upd w'.G a _ a = _ from upd_same)) (r.mono (add_le p.1))⟩
end
end Eng

/-! What the forms of the text's expressions are good for. -/
namespace Eng
open PySem PySem.Spec PyProof.Rows L2

def shape : Expr → Bool
  | .Set .. | .Starred .. | .Slice .. | .Lambda .. | .Yield .. | .NamedExpr .. | .SetComp .. | .DictComp .. | .GeneratorExp .. | .Await .. | .YieldFrom .. => false
  | _ => true
def isLc : Expr → Bool
  | .ListComp .. => true
  | _ => false
theorem star_of {e : Expr} (es : List Expr) (env : PySem.Env) (h : shape e = true) : starEach (e :: es) env = (false, eval e env) :: starEach es env := by
  cases e <;> first | rfl | exact absurd h Bool.false_ne_true
theorem plain_of (pos : Pos) (env : PySem.Env) : ∀ (es : List Expr), es.all shape = true → (backTo pos (starEach es env)).any (·.1) = false
  | [], _ => rfl
  | e :: es, h => by
    rw [List.all_cons, Bool.and_eq_true] at h
    rw [star_of es env h.1]
    show (false || (backTo pos (starEach es env)).any (·.1)) = false
    rw [plain_of pos env es h.2]
    rfl
theorem allno_of (pos : Pos) (env : PySem.Env) : ∀ (es : List Expr), es.all shape = true → (backTo pos (starEach es env)).all (fun x => !x.1) = true
  | [], _ => rfl
  | e :: es, h => by
    rw [List.all_cons, Bool.and_eq_true] at h
    rw [star_of es env h.1]
    show (true && (backTo pos (starEach es env)).all (fun x => !x.1)) = true
    rw [allno_of pos env es h.2]
    rfl
theorem mark_of {e : Expr} (op : CmpOp) (h : shape e = true) : behindInMarks op e = false := by
  cases e <;> first | rfl | exact absurd h Bool.false_ne_true
theorem ix_of {e : Expr} (h : shape e = true) : PlainIx e := by
  intro o i
  cases e <;> first | rfl | exact absurd h Bool.false_ne_true
theorem swap_of {e : Expr} (t : Option Expr) (l : Nat) (env : PySem.Env) (h : shape e = true) (h2 : isLc e = false) : swapsWith e t l env = pure false := by
  cases e <;> first | rfl | exact absurd h Bool.false_ne_true | exact Bool.noConfusion h2
theorem fold_of {e : Expr} (env : PySem.Env) (h : shape e = true) (x : Value) : foldedSetIterable e env x = pure x := by
  cases e <;> first | rfl | exact absurd h Bool.false_ne_true
/-- the receiver of an attribute is no super() -/
def notSuper : Expr → Bool
  | .Call (.Name x _) [] [] _ => !(decide (x = ("super" : PySem.Str)))
  | _ => true
theorem base_of {e : Expr} (f : PySem.Str) (env : PySem.Env) (whole : Sem Value) (h : notSuper e = true) : attributeBase e f env whole = whole := by
  unfold attributeBase
  split
  · rename_i x p pos
    have hx : ¬ x = ("super" : PySem.Str) := by simpa [notSuper] using h
    have hb : (x != ("super" : PySem.Str)) = true := by simpa using hx
    rw [hb]
    simp only [Bool.true_or, if_true]
    first | done | exact bind_pure whole
  · rfl
/-- a test that is asked by its value's truth -/
def plainTest : Expr → Bool
  | .UnaryOp .Not .. | .BoolOp .. | .IfExp .. | .Compare .. => false
  | _ => true
theorem test_of {e : Expr} (env : PySem.Env) (h : plainTest e = true) (whole : Sem Value) : isTrue e env whole = (do let v ← whole; standAt e.pos; holding [v] (truthy v)) := by
  cases e with
  | UnaryOp op x p => cases op <;> first | rfl | exact Bool.noConfusion h
  | _ => first | rfl | exact Bool.noConfusion h

theorem PE.mono {X : Cx} {e : Expr} {t t' : TE} (h : PE X e t) (m : ∀ σ H Q, t' σ H Q → t σ H Q) : PE X e t' := ⟨fun pins s σ H Q I q => h.run pins s σ H Q I (m σ H Q q)⟩
theorem PT.mono {X : Cx} {e : Expr} {t t' : TT} (h : PT X e t) (m : ∀ σ H Q, t' σ H Q → t σ H Q) : PT X e t' := ⟨fun pins s σ H Q I q => h.run pins s σ H Q I (m σ H Q q)⟩
theorem PW.mono {X : Cx} {e : Expr} {t t' : TT} (h : PW X e t) (m : ∀ σ H Q, t' σ H Q → t σ H Q) : PW X e t' := ⟨fun wh pins s σ H Q I q => h.run wh pins s σ H Q I (m σ H Q q)⟩
theorem PA.mono {X : Cx} {e : List Expr} {t t' : TA} (h : PA X e t) (m : ∀ σ H Q, t' σ H Q → t σ H Q) : PA X e t' := ⟨fun pos pins s σ H Q I q => h.run pos pins s σ H Q I (m σ H Q q)⟩
theorem PS.mono {X : Cx} {e : Stmt} {t t' : TS} (h : PS X e t) (m : ∀ D σ H, t' D σ H → t D σ H) : PS X e t' := ⟨fun pins s σ H D I q => h.run pins s σ H D I (m D σ H q)⟩
theorem PSs.mono {X : Cx} {e : List Stmt} {t t' : TS} (h : PSs X e t) (m : ∀ D σ H, t' D σ H → t D σ H) : PSs X e t' := ⟨fun pins s σ H D I q => h.run pins s σ H D I (m D σ H q)⟩
theorem PG.mono {X : Cx} {e : Expr} {t t' : TG} (h : PG X e t) (m : ∀ v σ H Q, t' v σ H Q → t v σ H Q) : PG X e t' := ⟨fun pins s σ H v u Q I r q => h.run pins s σ H v u Q I r (m v σ H Q q)⟩
theorem PI.mono {X : Cx} {tg e : Expr} {t t' : TI} (h : PI X tg e t) (m : ∀ σ H Q, t' σ H Q → t σ H Q) : PI X tg e t' := by
  constructor
  intros
  apply h.run <;> first | assumption | (apply m; assumption)

/-! ### names by number -/
def nmOf (l : List PySem.Str) (i : Nat) : PySem.Str := match l[i]? with
  | some s => s
  | none => ⟨#[0, i]⟩
def nmOk (l : List PySem.Str) : Bool := decide l.Nodup && l.all fun s => decide (s.cps[0]? ≠ some 0)
theorem nmOf_inj {l : List PySem.Str} (h : nmOk l = true) : ∀ i j, nmOf l i = nmOf l j → i = j := by
  unfold nmOk at h
  rw [Bool.and_eq_true] at h
  have h1 : l.Nodup := of_decide_eq_true h.1
  have h2 : ∀ s ∈ l, s.cps[0]? ≠ some 0 := fun s hs => of_decide_eq_true (List.all_eq_true.mp h.2 s hs)
  intro i j e
  unfold nmOf at e
  cases hi : l[i]? with
  | none =>
    rw [hi] at e
    cases hj : l[j]? with
    | none =>
      rw [hj] at e
      have e : (#[0, i] : Array Nat) = #[0, j] := congrArg PySem.Str.cps e
      simpa using e
    | some t =>
      rw [hj] at e
      have e : (⟨#[0, i]⟩ : PySem.Str) = t := e
      exact absurd (by rw [← e]; rfl) (h2 t (List.mem_of_getElem? hj))
  | some s =>
    rw [hi] at e
    cases hj : l[j]? with
    | none =>
      rw [hj] at e
      have e : s = (⟨#[0, j]⟩ : PySem.Str) := e
      exact absurd (by rw [e]; rfl) (h2 s (List.mem_of_getElem? hi))
    | some t =>
      rw [hj] at e
      have e : s = t := e
      subst e
      exact nodup_ix h1 hi hj
end Eng

/-! The check of a text against the interpreter's terms, and that the terms tell what expressions do. -/
namespace Eng
open PySem PySem.Spec PyProof.Rows L2

theorem tab_cls (P : Prg) (c : Nat) : P.tab.cls[c]? = (P.cls[c]?).map fun k => ⟨k.init, k.flds, k.meth, k.prop⟩ := by
  unfold Prg.tab
  rw [List.getElem?_map]

/-- the same flat value -/
def fEq : D → D → Bool
  | .non, .non => true
  | .bl a, .bl b => a == b
  | .int a, .int b => decide (a = b)
  | .str a, .str b => decide (a = b)
  | _, _ => false
def fEqs : List D → List D → Bool
  | [], [] => true
  | a :: r, b :: s => fEq a b && fEqs r s
  | _, _ => false
theorem fEq_eq {a b : D} (h : fEq a b = true) : a = b := by
  cases a <;> cases b <;> simp [fEq] at h <;> first | rfl | (rw [h])
theorem fEqs_eq : ∀ {a b : List D}, fEqs a b = true → a = b
  | [], [], _ => rfl
  | [], _ :: _, h => by cases h
  | _ :: _, [], h => by cases h
  | a :: r, b :: s, h => by
    rw [fEqs, Bool.and_eq_true] at h
    rw [fEq_eq h.1, fEqs_eq h.2]
def C.isBor : C → Bool
  | .bor _ => true
  | _ => false

def Cs.noBor : Cs → Bool
  | .nil => true
  | .cons c r => !c.isBor && r.noBor

/-! ### the check -/
mutual
/-- a test that the rules for tests serve -/
def tokE : Expr → Bool
  | .UnaryOp .Not e _ => tokE e
  | .BoolOp _ es _ => tokEs es
  | .IfExp .. => false
  | _ => true
def tokEs : List Expr → Bool
  | [] => true
  | e :: es => tokE e && tokEs es
end
def boIs : Bo → Operator → Bool
  | .add, .Add => true
  | .sub, .Sub => true
  | .mul, .Mult => true
  | .fdiv, .FloorDiv => true
  | .mod, .Mod => true
  | .pow, .Pow => true
  | _, _ => false
def coIs : Co → CmpOp → Bool
  | .eq, .Eq => true
  | .ne, .NotEq => true
  | .lt, .Lt => true
  | .le, .LtE => true
  | .gt, .Gt => true
  | .ge, .GtE => true
  | .isin, .In => true
  | .notin, .NotIn => true
  | .isNone, .Is => true
  | .isNotNone, .IsNot => true
  | _, _ => false
def blName : Bl → PySem.Str
  | .len => "len"
  | .abs => "abs"
  | .int => "int"
  | .bool => "bool"
  | .list => "list"
  | .tuple => "tuple"
  | .sum => "sum"
  | .all => "all"
  | .any => "any"
  | .sorted => "sorted"
def visB (sc : Scope) (x : PySem.Str) : Bool := match sc.names.lookup x with
  | some .local | some .cell | some .free => true
  | _ => false
def glB (sc : Scope) (x : PySem.Str) : Bool := decide (sc.names.lookup x = some .globalImplicit) && !(x == ("__debug__" : PySem.Str)) && decide (x ≠ ("__name__" : PySem.Str))
def nameB (N : List PySem.Str) (sc : Scope) (i : Nat) (x : PySem.Str) : Bool := decide (N[i]? = some x) && visB sc x && !(x == ("__debug__" : PySem.Str)) && !(x == ("__classdict__" : PySem.Str))
def tyName (P : Prg) : Ty → PySem.Str
  | .int => "int"
  | .bool => "bool"
  | .str => "str"
  | .tuple => "tuple"
  | .list => "list"
  | .cls c => match P.cls[c]? with
    | some k => k.name
    | none => "None"
def tyOk (P : Prg) : Ty → Bool
  | .cls c => (P.cls[c]?).isSome
  | _ => true
def ownTy : Ty → Bool
  | .cls _ => true
  | _ => false
def targetsB (N : List PySem.Str) (ok : PySem.Str → Bool) : List Nat → List Expr → Bool
  | [], [] => true
  | i :: is, .Name x _ :: es => decide (N[i]? = some x) && ok x && targetsB N ok is es
  | _, _ => false
def targetB (N : List PySem.Str) (ok : PySem.Str → Bool) (tg : List Nat) : Expr → Bool
  | .Name x _ => (match tg with
    | [i] => decide (N[i]? = some x) && ok x
    | _ => false)
  | .Tuple es _ _ => decide (2 ≤ tg.length) && targetsB N ok tg es
  | _ => false
/-- a name of a comprehension's own -/
def ownB (scope : Scope) (x : PySem.Str) : Bool := match scope.names.lookup x with
  | some .local | some .cell => true
  | _ => false
/-- a def that needs to know that no repr runs around bears this name among its slots -/
def hotB (N : List PySem.Str) : Bool := N.contains "0"
section
variable (P : Prg) (N : List PySem.Str)
def hotOk (j : Nat) : Bool := match P.fns[j]? with
  | some f => !hotB f.N || hotB N
  | none => false
def kwB (j : Nat) : Bool := match P.fns[j]? with
  | some f => f.kw
  | none => false
def chkW : List PySem.Str → List Keyword → Bool
  | [], [] => true
  | x :: r, ⟨some y, _, _⟩ :: ks => decide (x = y) && chkW r ks
  | _, _ => false
def psOf (j : Nat) : List PySem.Str := match P.fns[j]? with
  | some f => f.ps
  | none => []
def dflB' : List D → List D → Bool
  | _, [] => true
  | fs, ds => decide (ds.length ≤ fs.length)
def fnB (j : Nat) (x : PySem.Str) (n : Nat) (ds : List D) : Bool := match P.fns[j]? with
  | some f => !f.star && decide (f.glob = some x) && decide (f.init = none) && decide (n + ds.length = f.ps.length) && (ds.isEmpty || (decide (f.dfl.length = ds.length) && fEqs f.dfl ds && ds.all flat))
  | none => false
def clB (c : Nat) (x : PySem.Str) (n : Nat) (ds : List D) : Bool := match P.cls[c]? with
  | some k => decide (k.name = x) && (match P.fns[k.init]? with
    | some f => decide (f.init = some c) && decide (n + ds.length + 1 = f.ps.length) && (ds.isEmpty || (decide (f.dfl.length = ds.length) && plains f.dfl && plains ds && fEqs f.dfl ds && ds.all flat))
    | none => false)
  | none => false
def freB (j : Nat) : Bool := match P.fns[j]? with
  | some f => f.fresh
  | none => false
/-- a class, whatever the number of arguments -/
def clS (c : Nat) (x : PySem.Str) : Bool := match P.cls[c]? with
  | some k => decide (k.name = x) && (match P.fns[k.init]? with
    | some f => decide (f.init = some c)
    | none => false)
  | none => false
/-- a def of one starred parameter -/
def stB (j : Nat) (x : PySem.Str) : Bool := match P.fns[j]? with
  | some f => f.star && decide (f.glob = some x) && decide (f.init = none) && decide (f.ps.length = 1) && hotB N
  | none => false
/-- a constant of a class -/
def ccB (k : Nat) (c f : PySem.Str) : Bool := decide (P.con.length ≤ k) && (match P.ccs[k - P.con.length]? with
  | some p => decide (p.2.1 = f) && (match P.cls[p.1]? with
    | some kl => decide (kl.name = c)
    | none => false)
  | none => false)
/-- a comprehension over a list that a slot owns -/
def borI (sc : Scope) : It → Expr → Bool
  | .seq (.bor k), .Name x _ => nameB N sc k x
  | _, _ => false
def chkK : List Nat → List (Option Expr) → Bool
  | [], [] => true
  | k :: ks, some (.Constant (.str s) _ _) :: es => decide (nmOf P.nm k = s) && chkK ks es
  | _, _ => false
/-- a bound of a slice -/
def chkO (c : C) (f : Expr → Bool) : Option Expr → Bool
  | none => c.isNon
  | some e => !c.isNon && !c.isBor && shape e && f e
/-- the parts of a comprehension with two clauses and no test -/
def gen2 : List Comprehension → Option (Expr × Expr × Expr × Expr)
  | [⟨t, i, [], 0⟩, ⟨t2, i2, [], 0⟩] => some (t, i, t2, i2)
  | _ => none
theorem gen2_is {gs : List Comprehension} {g : Expr × Expr × Expr × Expr} (h : gen2 gs = some g) : gs = [⟨g.1, g.2.1, [], 0⟩, ⟨g.2.2.1, g.2.2.2, [], 0⟩] := by
  unfold gen2 at h
  split at h
  · cases h; rfl
  · cases h
mutual
def chkE (sc : Scope) : C → Expr → Bool
  | .var i, .Name x _ => nameB N sc i x
  | .bor i, .Name x _ => nameB N sc i x
  | .non, .Constant .none _ _ => true
  | .bl b, .Constant (.bool c) _ _ => b == c
  | .int i, .Constant (.int j) _ _ => decide (i = j)
  | .str s, .Constant (.str t) _ _ => decide (s = t)
  | .neg a, .UnaryOp .USub e _ => !a.isBor && shape e && chkE sc a e
  | .not a, .UnaryOp .Not e _ => !a.isBor && shape e && chkE sc a e
  | .bin op a b, .BinOp ea o eb _ => boIs op o && (!a.isBor && shape ea && chkE sc a ea) && (!b.isBor && shape eb && chkE sc b eb)
  | .cmp op a b, .Compare ea [o] [eb] _ => coIs op o && (shape ea && chkE sc a ea) && (shape eb && chkE sc b eb)
  | .chain o1 o2 a b c, .Compare ea [p1, p2] [eb, ec] _ => coIs o1 p1 && coIs o2 p2 && (!a.isBor && shape ea && chkE sc a ea) && (!b.isBor && shape eb && chkE sc b eb) && (!c.isBor && shape ec && chkE sc c ec)
  | .and as, .BoolOp .And es _ => chkEs sc as es && !es.isEmpty
  | .or as, .BoolOp .Or es _ => chkEs sc as es && !es.isEmpty
  | .ite t a b, .IfExp et ea eb _ => (tokE et && !t.isBor && shape et && chkE sc t et) && (!a.isBor && shape ea && chkE sc a ea) && (!b.isBor && shape eb && chkE sc b eb)
  | .tup as, .Tuple es _ _ => chkEs sc as es && decide (es.length ≤ 1000)
  | .lst as, .List es _ => chkEs sc as es && decide (es.length ≤ 1000)
  | .idx a b, .Subscript ea eb _ => (shape ea && chkE sc a ea) && (!b.isBor && shape eb && chkE sc b eb)
  | .sl a lo hi, .Subscript ea (.Slice l h none _) _ => (shape ea && chkE sc a ea) && chkO lo (fun e => chkE sc lo e) l && chkO hi (fun e => chkE sc hi e) h
  | .call j as ds, .Call (.Name x _) es [] _ => hotOk P N j && glB sc x && fnB P j x es.length ds && chkEs sc as es
  | .kcall j as, .Call (.Name x _) [] kws _ => hotOk P N j && glB sc x && fnB P j x kws.length [] && kwB P j && chkW (psOf P j) kws && !kws.isEmpty && chkKs sc as kws
  | .make c as ds, .Call (.Name x _) es [] _ => glB sc x && clB P c x es.length ds && chkEs sc as es
  | .meth m o as, .Call (.Attribute eo x apos) es [] pos => decide (nmOf P.nm m = x) && notSuper eo && (!o.isBor && shape eo && chkE sc o eo) && chkEs sc as es && decide (es.length < 29) && (apos.endLine == pos.line)
  | .attr f o, .Attribute eo x _ => decide (nmOf P.nm f = x) && notSuper eo && (!o.isBor && shape eo && chkE sc o eo)
  | .blt b a, .Call (.Name x _) [e] [] _ => decide (blName b = x) && glB sc x && P.blt.contains x && (shape e && chkE sc a e)
  | .isi a t, .Call (.Name x _) [e, .Name y _] [] _ => decide (x = ("isinstance" : PySem.Str)) && glB sc x && P.blt.contains x && decide (tyName P t = y) && tyOk P t && glB sc y && (ownTy t || P.blt.contains y) && (!a.isBor && shape e && chkE sc a e)
  | .lc elt tg it ifs, .ListComp e [⟨t, i, fs, n⟩] scope _ =>
      decide (n = 0) && blkC N sc scope ((tg.map fun k => N.getD k "").zip tg) && targetB N (ownB scope) tg t && decide tg.Nodup && decide (∀ k ∈ tg, k < N.length) && (chkI sc it i t || borI N sc it i) && shape i && chkIfs (relS scope sc) ifs fs && (!elt.isBor && shape e && chkE (relS scope sc) elt e)
  | .dict ks as, .Dict keys vals _ => chkK P ks keys && chkEs sc as vals && !keys.isEmpty && decide (keys.length ≤ 15) && decide (keys.length = vals.length)
  | .dget o k, .Subscript eo (.Constant (.str s) _ _) _ => decide (nmOf P.nm k = s) && (!o.isBor && shape eo && chkE sc o eo)
  | .catb i (.lst as), .BinOp (.Name x _) .Add (.List es _) _ => nameB N sc i x && chkEs sc as es && decide (es.length ≤ 1000)
  | .gco k, .Name x _ => glB sc x && (match P.con[k]? with
    | some p => decide (p.1 = x)
    | none => false)
  | .gco k, .Attribute (.Name c _) f _ => glB sc c && ccB P k c f
  | .lrng a, .Call (.Name x _) [.Call (.Name y _) [e] [] _] [] _ => decide (x = ("list" : PySem.Str)) && decide (y = ("range" : PySem.Str)) && glB sc x && glB sc y && P.blt.contains x && P.blt.contains y && (!a.isBor && shape e && chkE sc a e)
  | .repl as n, .BinOp (.List es _) .Mult en _ => chkEs sc as es && decide (es.length ≤ 1000) && (!n.isBor && shape en && chkE sc n en)
  | .newc (.repl as n), .BinOp (.List es _) .Mult en _ => chkEs sc as es && decide (es.length ≤ 1000) && (!n.isBor && shape en && chkE sc n en)
  | .newc (.lst as), .List es _ => chkEs sc as es && decide (es.length ≤ 1000)
  | .newc (.blt .list a), .Call (.Name x _) [e] [] _ => decide (x = ("list" : PySem.Str)) && glB sc x && P.blt.contains x && (shape e && chkE sc a e)
  | .popc o i, .Call (.Attribute eo x apos) [e] [] pos => decide (x = ("pop" : PySem.Str)) && notSuper eo && (!o.isBor && shape eo && chkE sc o eo) && (!i.isBor && shape e && chkE sc i e) && (apos.endLine == pos.line)
  | .max2 a b, .Call (.Name x _) [ea, eb] [] _ => decide (x = ("max" : PySem.Str)) && glB sc x && P.blt.contains x && (!a.isBor && shape ea && chkE sc a ea) && (!b.isBor && shape eb && chkE sc b eb)
  | .ssort a, .Call (.Name x _) [.Call (.Name y _) [e] [] _] [] _ => decide (x = ("sorted" : PySem.Str)) && decide (y = ("set" : PySem.Str)) && glB sc x && glB sc y && P.blt.contains x && P.blt.contains y && (!a.isBor && shape e && chkE sc a e)
  | .repr a, .Call (.Name x _) [e] [] _ => decide (x = ("repr" : PySem.Str)) && hotB N && glB sc x && P.blt.contains x && (!a.isBor && shape e && chkE sc a e)
  | .callB j as, .Call (.Name x _) es [] _ => hotOk P N j && glB sc x && fnB P j x es.length [] && !es.isEmpty && chkBs sc as es
  | .min2 a b, .Call (.Name x _) [ea, eb] [] _ => decide (x = ("min" : PySem.Str)) && glB sc x && P.blt.contains x && (!a.isBor && shape ea && chkE sc a ea) && (!b.isBor && shape eb && chkE sc b eb)
  | .rev a, .Subscript ea (.Slice none none (some (.UnaryOp .USub (.Constant (.int i) _ _) _)) _) _ => decide (i = 1) && (!a.isBor && shape ea && chkE sc a ea)
  | .makeS c a, .Call (.Name x _) [.Starred e _] [] _ => glB sc x && clS P c x && (!a.isBor && shape e && chkE sc a e)
  | .callT j as, .Call (.Name x _) es [] _ => glB sc x && stB P N j x && !es.isEmpty && chkEs sc as es
  | .newc (.call j as ds), .Call (.Name x _) es [] _ => hotOk P N j && glB sc x && fnB P j x es.length ds && freB P j && chkEs sc as es
  | .lc2 elt tg it tg2 it2, .ListComp e gs scope _ => (match gen2 gs with
    | some g => blkC N sc scope (((tg ++ tg2).map fun k => N.getD k "").zip (tg ++ tg2)) && targetB N (ownB scope) tg g.1 && targetB N (ownB scope) tg2 g.2.2.1 && chkI sc it g.2.1 g.1 && shape g.2.1 && chkI (relS scope sc) it2 g.2.2.2 g.2.2.1 && shape g.2.2.2 && (!elt.isBor && shape e && chkE (relS scope sc) elt e)
    | none => false)
  | _, _ => false
def chkEs (sc : Scope) : Cs → List Expr → Bool
  | .nil, [] => true
  | .cons c r, e :: es => (!c.isBor && shape e && chkE sc c e) && chkEs sc r es
  | _, _ => false
def chkBs (sc : Scope) : Cs → List Expr → Bool
  | .nil, [] => true
  | .cons c r, e :: es => (shape e && chkE sc c e) && chkBs sc r es
  | _, _ => false
def chkKs (sc : Scope) : Cs → List Keyword → Bool
  | .nil, [] => true
  | .cons c r, ⟨_, e, _⟩ :: ks => (!c.isBor && shape e && chkE sc c e) && chkKs sc r ks
  | _, _ => false
def chkIfs (sc : Scope) : Cs → List Expr → Bool
  | .nil, [] => true
  | .cons c .nil, [e] => tokE e && !c.isBor && shape e && chkE sc c e
  | _, _ => false
def chkI (sc : Scope) : It → Expr → Expr → Bool
  | .seq c, e, _ => shape e && !c.isBor && chkE sc c e
  | .rng1 a, .Call (.Name x _) [e] [] _, _ => decide (x = ("range" : PySem.Str)) && glB sc x && P.blt.contains x && (!a.isBor && shape e && chkE sc a e)
  | .rng2 a b, .Call (.Name x _) [e, e2] [] _, _ => decide (x = ("range" : PySem.Str)) && glB sc x && P.blt.contains x && (!a.isBor && shape e && chkE sc a e) && (!b.isBor && shape e2 && chkE sc b e2)
  | .zip a b, .Call (.Name x _) [e, e2] [] _, .Tuple .. => decide (x = ("zip" : PySem.Str)) && glB sc x && P.blt.contains x && (!a.isBor && shape e && chkE sc a e) && (!b.isBor && shape e2 && chkE sc b e2)
  | .enum a, .Call (.Name x _) [e] [] _, .Tuple .. => decide (x = ("enumerate" : PySem.Str)) && glB sc x && P.blt.contains x && (!a.isBor && shape e && chkE sc a e)
  | _, _, _ => false
end
end
end Eng

/-! repr of data, where it is known that no repr runs around. -/
namespace Eng
open PySem PySem.Spec PyProof.Rows L2
theorem call_reprD {X : Cx} (hg : X.A.guards = some []) (hu : X.A.units + 64 < cLine) : CallR X (.builtin "repr") (fun xs H Q => ∃ x d, xs = [x] ∧ Dp X.K H x d ∧ isDisplay d = true ∧ d.showable = true ∧ d.hasDict = false ∧ d.depth ≤ 32 ∧ d.shown.length ≤ sizeLine ∧ Q (.str d.shown) H) := by
  intro pins s σ H xs us Q I r h
  obtain ⟨x, d, rfl, hd, h1, h2, h3, h4, h5, q⟩ := h
  cases r with
  | cons rx rr =>
    cases rr
    obtain ⟨as, r1⟩ := Dp.reads I d x _ hd rx
    obtain ⟨a, rfl⟩ := isRef_of_reads r1 h1
    exact repr_of_reads' r1 h2 (PyData.noDict_hsm h3) hg (by omega) (fun _ _ e => e) (fun h' u tk hk => ⟨.str _, H, I.kept hk, ⟨_, rfl⟩, q⟩) h5

/-! ### what a def promises where no repr runs around -/
structure FnG (P : Program) (w : World) (K : PySem.W.Frag) (mg : PySem.Str → Option Value) (base : Heap) (CX : CXT) (k : Nat) (f : Addr) (fd : FuncData) (ps : List PySem.Str) (sp : Sp) : Prop where
  len : ∀ vs H Q E, sp vs H Q E → vs.length = ps.length
  run : ∀ (A : Around) (outer : List PySem.Env) (s : Shared) (H : Hp) (args : Args) (us : List Value) (vs : List V) (Q : VK) (E : XK), A.guards = some [] → Room k A → Env0 P w K mg base A outer s H → BindsTo s fd args (ps.zip us) → Vals vs us → sp vs H Q E →
    codeAny (model P w) A (.call (.ref f) args) (CR CX outer P w H s Q E) s
theorem FnG.of {P : Program} {w : World} {K : PySem.W.Frag} {mg : PySem.Str → Option Value} {base : Heap} {CX : CXT} {k : Nat} {f : Addr} {fd : FuncData} {ps : List PySem.Str} {sp : Sp} (F : FnOk P w K mg base CX k f fd ps sp) : FnG P w K mg base CX k f fd ps sp :=
  ⟨F.len, fun A outer s H args us vs Q E _ hr e0 hb hv hs => F.run A outer s H args us vs Q E hr e0 hb hv hs⟩
section
variable {P : Program} {w : World} {K : PySem.W.Frag} {mg : PySem.Str → Option Value} {base : Heap} {x qual : PySem.Str} {params : Arguments} {body : List Stmt} {scope : Scope} {dvs : List V} {kws : List (PySem.Str × V)} {f : Addr} {fd : FuncData}
theorem FunD.okG {CX : CXT} {N ps : List PySem.Str} {k : Nat} {sp : Sp} (F : FunD K x qual params body scope dvs kws f fd) (S : FnScope N ps scope) (len : ∀ vs H Q E, sp vs H Q E → vs.length = ps.length)
    (hbody : ∀ (cdv : Value) (A : Around) (outer : List PySem.Env) (s : Shared) (H : Hp) (vs : List V) (Q : VK) (E : XK), A.guards = some [] → Room k (A.deeper (envOfC qual scope s.heap.objs.size f cdv)) → sp vs H Q E →
      ∃ t, PSs (cxOf CX P w K mg base N qual scope f cdv A outer s H E) body t ∧ t { nx := fun _ H' => Q .non H', rt := Q } (start N vs) H) : FnG P w K mg base CX (k + 1) f fd ps sp := by
  obtain ⟨oc, od, dV, kV, doc, pm, an, cdv, ct, osl, rfl, lk, hcd, _, _⟩ := F.ex
  refine ⟨len, fun A outer sh H args us vs Q E hga hro en hbi rv hsp => ?_⟩
  have hlen := len _ _ _ _ hsp
  have inK : K.In sh.heap := en.mod.kin.keeps fun b o z => (en.bs b o z).1
  have noL : sh.heap.NoLimit := en.mod.nolimit.keeps fun b o z => (en.bs b o z).1
  have kinds : ∀ y ∈ ps.zip us, scope.names.lookup y.1 = some .local ∨ (scope.names.lookup y.1 = some .cell ∧ ((cellsFrom (sh.heap.objs.size + 1) scope.names []).lookup y.1).isSome = true) := by
    rintro ⟨m, u⟩ hmem
    rcases S.par m (List.of_mem_zip hmem).1 with z | z
    · exact .inl z
    · exact .inr ⟨z, PySem.W.cellsFrom_some _ _ _ (.inl z)⟩
  refine codeAny_call_function hro.depth (inK _ _ lk) rfl S.co S.gen rfl (PySem.W.codeRec_of inK hcd) (hbi _ _ _ _ ?_)
  refine wpAny_newFunctionEnv_cells S.kind kinds fun env eenv sh1 ic => ?_
  subst eenv
  refine ⟨noL.keeps ic.toInCall.keep, codeAny_func ?_⟩
  obtain ⟨t, tps, tq⟩ := hbody cdv A outer sh H vs Q E hga (hro.deeper _) hsp
  have inv0 := inv_start (CX := CX) (E := E) S hro.hd en hlen rv ic
  refine wpAny_mono (tps.run [] sh1 (start N vs) H _ inv0 tq) (fun fl sh' post => ?_) fun _ _ post => post
  cases fl with
  | ret u =>
    obtain ⟨v, σ1, H1, inv1, rel, hq⟩ := post
    exact ⟨v, H1, inv1.os, inv1.bare, inv1.base, inv1.hok, rel, hq⟩
  | next =>
    obtain ⟨σ1, H1, inv1, hq⟩ := post
    exact ⟨V.non, H1, inv1.os, inv1.bare, inv1.base, inv1.hok, (rfl : RelV V.non Value.none), hq⟩
  | brk =>
    obtain ⟨_, _, _, hq⟩ := post
    exact hq.elim
  | cont =>
    obtain ⟨_, _, _, hq⟩ := post
    exact hq.elim
end
section
variable {X : Cx} {CX : CXT} {k : Nat} {f : Addr} {fd : FuncData} {ps : List PySem.Str} {sp : Sp} {dvs : List V} {ds : List Value} {E : XK} {x : PySem.Str} {p pos : Pos} {e : Expr} {es : List Expr} {t : TA}
theorem runG {pins : List (Addr × Obj)} {σ : L2.St} {H : Hp} {s : Shared} {Q : VK} {us : List Value} {vs : List V} (F : FnG X.prog X.w X.K X.mg X.base CX k f fd ps sp) (hga : X.A.guards = some []) (hro : Room k X.A) (hbi : Binds X.K fd ps ds) (hdv : Vals dvs ds) (hpa : Passes CX X E)
    (I : Inv X pins σ H s) (rv : Vals vs us) (hs : sp (vs ++ dvs) H Q E) : wpAny (model X.prog X.w) X.A (call (.ref f) us) (EP X pins σ Q) X.xe s := by
  have rv2 : Vals (vs ++ dvs) (us ++ ds) := rv.append hdv
  have hlen : (us ++ ds).length = ps.length := by rw [← rv2.length]; exact F.len _ _ _ _ hs
  refine wpAny_call (codeAny_mono (F.run X.A X.stack s H ⟨us, []⟩ (us ++ ds) (vs ++ dvs) Q E hga hro I.env0 (hbi s us I.kIn hlen) rv2 hs) fun out sh' post => ?_)
  match out, post with
  | .error ev, post => exact hpa pins σ H s ev sh' I post
  | .ok (.ret u), post => exact I.after post
  | .ok .next, post => exact post.elim
  | .ok .brk, post => exact post.elim
  | .ok .cont, post => exact post.elim
theorem pe_callG (F : FnG X.prog X.w X.K X.mg X.base CX k f fd ps sp) (hga : X.A.guards = some []) (hro : Room k X.A) (hgl : Gl X x) (hmg : X.mg x = some (.ref f)) (hkp : PySem.W.keepIn X.K (.ref f) = true) (hbi : Binds X.K fd ps ds) (hdv : Vals dvs ds) (hpa : Passes CX X E)
    (hpe : PA X (e :: es) t) (hdb : (x == ("__debug__" : PySem.Str)) = false) (hst : starEach (e :: es) X.env = (false, eval e X.env) :: starEach es X.env) (hpl : (backTo pos (starEach es X.env)).any (·.1) = false) :
    PE X (.Call (.Name x p) (e :: es) [] pos) (tCall sp dvs E t) := by
  refine ⟨fun pins s σ H Q I h => wpAny_Call_Name_kw (ld_glob I hgl hmg ?_ hdb)⟩
  refine PySem.W.callWith_K (h₀ := X.base) I.ok.mod.kin hkp (thn (hpe.run pos pins s σ H _ I h) fun us s1 ⟨vs, H1, I1, rv, q⟩ => ⟨I1.kIn, ?_⟩) hst hpl
  exact runG F hga hro hbi hdv hpa I1 rv q
theorem pe_callG0 (F : FnG X.prog X.w X.K X.mg X.base CX k f fd ps sp) (hga : X.A.guards = some []) (hro : Room k X.A) (hgl : Gl X x) (hmg : X.mg x = some (.ref f)) (hkp : PySem.W.keepIn X.K (.ref f) = true) (hbi : Binds X.K fd ps ds) (hdv : Vals dvs ds) (hpa : Passes CX X E)
    (hdb : (x == ("__debug__" : PySem.Str)) = false) : PE X (.Call (.Name x p) [] [] pos) (tCall sp dvs E tNil) := by
  refine ⟨fun pins s σ H Q I h => wpAny_Call_Name_kw (ld_glob I hgl hmg ?_ hdb)⟩
  exact PySem.W.callWith_K0 I.kIn hkp (runG (us := []) F hga hro hbi hdv hpa I .nil h)
end
end Eng

/-! The interpreter's terms tell what expressions do. -/
namespace Eng
open PySem PySem.Spec PyProof.Rows L2

def tyStr : List String := ["int", "bool", "str", "tuple", "list"]
structure ClsOK (P : Prg) (A : Ad) (K : PySem.W.Frag) (mg : PySem.Str → Option Value) (c : Nat) (k : ClsI) : Prop where
  gl : mg k.name = some (.ref (A.cls c))
  cl : L2.Cls K (A.cls c)
  mkr : Mk K (A.cls c) (A.fn k.init)
  sf : PySem.W.selfFirst K (A.cls c) = true
  me : ∀ m j, k.meth.lookup m = some j → Meth K (A.cls c) (A.nm m) (A.fn j)
  pr : ∀ m j, k.prop.lookup m = some j → ∃ p, PropOf K (A.cls c) (A.nm m) p (A.fn j)
  na : ∀ f, k.flds.contains f = true → NoAttr K (A.cls c) (A.nm f)
  mi : ∀ m j f, k.meth.lookup m = some j → P.fns[j]? = some f → f.init = none ∧ hotB f.N = false
  qi : ∀ m j f, k.prop.lookup m = some j → P.fns[j]? = some f → f.init = none ∧ hotB f.N = false
  rr : ∀ op : Operator, op = .Add ∨ op = .Sub ∨ op = .Mult → ∃ rc, PySem.W.findIn K (.ref (A.cls c)) (dunderR op.info.2) = some rc ∧ (rc = none ∨ ∃ g : Addr, rc = some (.ref g))
  si : PySem.W.subIn K (.type "int") (.ref (A.cls c)) = some false
  is : PySem.W.subIn K (.ref (A.cls c)) (.type "int") = some false
  so : PySem.W.subIn K (.ref (A.cls c)) (.type "object") = some true
  ne : PySem.W.findIn K (.ref (A.cls c)) "__ne__" = some (some (.builtin "object.__ne__"))
  ty : ∀ (H : Hp) (a dx : Addr) (fs : List (PySem.Str × V)), H a = some (.ins (A.cls c) dx fs) → TyOf K H (.ref a) (.ref (A.cls c))
  k1 : ∀ n ∈ tyStr, PySem.W.kitOne K (.ref (A.cls c)) (.type n) = some false
  k2 : ∀ n ∈ "NoneType" :: tyStr, PySem.W.kitOne K (.type n) (.ref (A.cls c)) = some false
/-- the names of the special methods -/
structure NmOK (A : Ad) : Prop where
  inj : Inj A
  add : A.nm nAdd = "__add__"
  radd : A.nm nRadd = "__radd__"
  sub : A.nm nSub = "__sub__"
  rsub : A.nm nRsub = "__rsub__"
  mul : A.nm nMul = "__mul__"
  rmul : A.nm nRmul = "__rmul__"
  neg : A.nm nNeg = "__neg__"
  abs : A.nm nAbs = "__abs__"
  bool : A.nm nBool = "__bool__"
  eq : A.nm nEq = "__eq__"
structure GOK (P : Prg) (A : Ad) (K : PySem.W.Frag) (mg : PySem.Str → Option Value) : Prop where
  nm : NmOK A
  nmE : ∀ i, A.nm i = nmOf P.nm i
  free : ∀ x, P.blt.contains x = true → mg x = none
  gfn : ∀ j f x, P.fns[j]? = some f → f.glob = some x → mg x = some (.ref (A.fn j))
  keep : ∀ j f, P.fns[j]? = some f → PySem.W.keepIn K (.ref (A.fn j)) = true
  cls : ∀ c k, P.cls[c]? = some k → ClsOK P A K mg c k
  con : ∀ (k : Nat) (p : PySem.Str × D), P.con[k]? = some p → ∃ u v, mg p.1 = some u ∧ RelV v u ∧ ∀ w, RD A K w p.2 v
  ccs : ∀ (k : Nat) (q : Nat × PySem.Str × D), P.ccs[k]? = some q → ∃ mc u v, ClX.CRead K (A.cls q.1) mc ∧ ClX.CVal K (A.cls q.1) mc q.2.1 v u ∧ ∀ w, RD A K w q.2.2 v
  iops : ∀ op : Operator, op = .Add ∨ op = .Sub ∨ op = .Mult → ∃ fo ro : Option Value, PySem.W.findIn K (.type "int") (PySem.dunder op.info.2) = some fo ∧ PySem.W.findIn K (.type "int") (dunderR op.info.2) = some ro ∧ ((fo.isSome && !isSeqSlot fo) || (ro.isSome && !isSeqSlot ro)) = true

/-- the promise of a def -/
def spF (A : Ad) (K : PySem.W.Frag) (call : Nat → List D → Store → Res D) (j : Nat) (f : FnI) : Sp := match f.init with
  | none => fun vs H Q _ => vs.length = f.ps.length ∧ ∃ w ds st d st', RDs A K w ds vs ∧ SR A K w st H ∧ call j ds st = .ok d st' ∧ ∀ v H' w', Ext no w H w' H' → SR A K w' st' H' → (if f.fresh = true then FR A K w' H H' d v else RD A K w' d v) → Q v H'
  | some c => fun vs H Q _ => vs.length = f.ps.length ∧ ∃ x dx vs' w ds st fs st', vs = .ref x :: vs' ∧ H x = some (.ins (A.cls c) dx []) ∧ Priv w x ∧ RDs A K w ds vs' ∧ SR A K w st H ∧ call j ds st = .ok (.ins c fs) st' ∧
      ∀ H' w' gs dx', Ext (fun a => a = x) w H w' H' → SR A K w' st' H' → H' x = some (.ins (A.cls c) dx' gs) → RDf A K w' fs gs → Priv w' x → Q .non H'
/-- what a def of one starred parameter promises (CX0), where no repr runs around -/
def FnSt (P : Program) (w : World) (K : PySem.W.Frag) (mg : PySem.Str → Option Value) (base : Heap) (k : Nat) (f : Addr) (sp : Sp) : Prop :=
  ∀ (A : Around) (outer : List PySem.Env) (s : Shared) (H : Hp) (us : List Value) (vs : List V) (Q : VK) (E : XK), A.guards = some [] → Room k A → Env0 P w K mg base A outer s H → Vals vs us → (vs.length ≤ 1000 ∧ ∀ p, H p = none → sp [V.ref p] (upd H p (.tup vs)) Q E) →
    codeAny (model P w) A (.call (.ref f) ⟨us, []⟩) (CR CX0 outer P w H s Q E) s
structure Cxt (P : Prg) (A : Ad) (call : Nat → List D → Store → Res D) (fd : Nat → FuncData) (lv : Nat) (N : List PySem.Str) (sc : Scope) (X : Cx) : Prop where
  sc : X.env.scope = sc
  N : X.N = N
  nd : X.N.Nodup
  calm : X.calm = true
  room : Room (lv + 3) X.A
  gok : GOK P A X.K X.mg
  fok : ∀ j f, P.fns[j]? = some f → hotB f.N = false → FnOk X.prog X.w X.K X.mg X.base CX0 lv (A.fn j) (fd j) f.ps (spF A X.K call j f)
  fog : ∀ j f, P.fns[j]? = some f → FnG X.prog X.w X.K X.mg X.base CX0 lv (A.fn j) (fd j) f.ps (spF A X.K call j f)
  gd : hotB X.N = true → X.A.guards = some []
  ini : ∀ (j : Nat) (f : FnI), P.fns[j]? = some f → f.init.isSome = true → hotB f.N = false
  bnk : ∀ (j : Nat) (f : FnI), P.fns[j]? = some f → f.kw = true → ∀ (s : Shared) (us : List Value), us.length = f.ps.length → BindsTo s (fd j) ⟨[], f.ps.zip us⟩ (f.ps.zip us)
  cok : ∀ j ds st d st', call j ds st = .ok d st' → ∃ f, P.fns[j]? = some f ∧ ((f.init = none ∧ ds.length = f.ps.length) ∨ (∃ c fs, f.init = some c ∧ d = .ins c fs ∧ ds.length + 1 = f.ps.length))
  fos : ∀ (j : Nat) (f : FnI), P.fns[j]? = some f → f.star = true → FnSt X.prog X.w X.K X.mg X.base lv (A.fn j) (spF A X.K call j f)
  cold : ∀ (j : Nat) (f : FnI), P.fns[j]? = some f → hotB f.N = false → f.star = false
  bnd : ∀ j f, P.fns[j]? = some f → f.star = false → Binds X.K (fd j) f.ps []
  bnF : ∀ j f ds, P.fns[j]? = some f → f.star = false → fEqs f.dfl ds = true → ds.all flat = true → f.dfl.length = ds.length → ∃ us vs, (∀ w, RDs A X.K w ds vs) ∧ Vals vs us ∧ Binds X.K (fd j) f.ps us

section
variable {P : Prg} {A : Ad} {call : Nat → List D → Store → Res D} {fd : Nat → FuncData} {lv : Nat} {N : List PySem.Str} {sc : Scope} {X : Cx}

/-- a value, or a list that a slot owns -/
def RX (A : Ad) (K : PySem.W.Frag) (w : Wd) (H : Hp) (d : D) (v : V) : Prop :=
  RD A K w d v ∨ ∃ xs a vs, d = .lst xs ∧ v = .ref a ∧ H a = some (.lst vs) ∧ RDs A K w xs vs ∧ Priv w a
def PV (A : Ad) (K : PySem.W.Frag) (c : C) (w : Wd) (H : Hp) (d : D) (v : V) : Prop := if c.isBor = true then RX A K w H d v else RD A K w d v
theorem PV.rx {K : PySem.W.Frag} {c : C} {w : Wd} {H : Hp} {d : D} {v : V} (h : PV A K c w H d v) : RX A K w H d v := by
  unfold PV at h
  split at h
  · exact h
  · exact .inl h
theorem PV.rd {K : PySem.W.Frag} {c : C} {w : Wd} {H : Hp} {d : D} {v : V} (h : PV A K c w H d v) (hc : (!c.isBor) = true) : RD A K w d v := by
  unfold PV at h
  rw [if_neg (by intro q; rw [q] at hc; cases hc)] at h
  exact h
theorem RX.ext {K : PySem.W.Frag} {w w' : Wd} {H H' : Hp} {d : D} {v : V} (h : RX A K w H d v) (e : Ext no w H w' H') : RX A K w' H' d v := by
  rcases h with h | ⟨xs, a, vs, h1, h2, h3, h4, h5⟩
  · exact .inl (h.mono e.le)
  · exact .inr ⟨xs, a, vs, h1, h2, e.fr a _ h3 h5.2 (fun z => z), h4.mono e.le, h5.ext h3 e⟩
/-- a list that may be read -/
theorem RX.list {K : PySem.W.Frag} {w : Wd} {H : Hp} {st : Store} {xs : List D} {v : V} (h : RX A K w H (.lst xs) v) (S : SR A K w st H) : ∃ a vs, v = .ref a ∧ SqL K H a vs ∧ RDs A K w xs vs := by
  rcases h with h | ⟨ys, a, vs, h1, h2, h3, h4, h5⟩
  · cases h with
    | lst h r => exact ⟨_, _, rfl, sqL_mono S.sub h, r⟩
  · cases h1
    exact ⟨a, vs, h2, SqL.of h3, h4⟩
theorem RD.tupl {K : PySem.W.Frag} {w : Wd} {H : Hp} {st : Store} {xs : List D} {v : V} (h : RD A K w (.tup xs) v) (S : SR A K w st H) : ∃ a vs, v = .ref a ∧ SqT K H a vs ∧ RDs A K w xs vs := by
  cases h with
  | tup h r => exact ⟨_, _, rfl, sqT_mono S.sub h, r⟩
theorem RX.tupl {K : PySem.W.Frag} {w : Wd} {H : Hp} {st : Store} {xs : List D} {v : V} (h : RX A K w H (.tup xs) v) (S : SR A K w st H) : ∃ a vs, v = .ref a ∧ SqT K H a vs ∧ RDs A K w xs vs := by
  rcases h with h | ⟨ys, a, vs, h1, _⟩
  · exact h.tupl S
  · cases h1

variable (P A call X)
def tE (c : C) : TE := fun σ H Q => ∃ w ρ st H0 ex d st', SR A X.K w st H ∧ RS A X.K H0 ex w ρ σ H ∧ ev P.tab call c ρ st = .ok d st' ∧ ∀ v H' w', Ext no w H w' H' → SR A X.K w' st' H' → PV A X.K c w' H' d v → Q v H'
def tAs (as : Cs) : TA := fun σ H Q => ∃ w ρ st H0 ex ds st', SR A X.K w st H ∧ RS A X.K H0 ex w ρ σ H ∧ evs P.tab call as ρ st = .ok ds st' ∧ ∀ vs H' w', Ext no w H w' H' → SR A X.K w' st' H' → RDs A X.K w' ds vs → Q vs H'
def tTst (c : C) : TT := fun σ H Q => ∃ w ρ st H0 ex k st', SR A X.K w st H ∧ RS A X.K H0 ex w ρ σ H ∧ evT P.tab call c ρ st = .ok k st' ∧ ∀ H' w', Ext no w H w' H' → SR A X.K w' st' H' → Q k H'
/-- a rule by the interpreter's own function of two values -/
def rSem (f : D → D → Store → Res D) : R2 := fun x y H Q => ∃ w d1 d2 st d st', SR A X.K w st H ∧ RX A X.K w H d1 x ∧ RX A X.K w H d2 y ∧ f d1 d2 st = .ok d st' ∧ ∀ v H' w', Ext no w H w' H' → SR A X.K w' st' H' → RD A X.K w' d v → Q v H'
def rSem1 (f : D → Store → Res D) : V → Hp → VK → Prop := fun x H Q => ∃ w d1 st d st', SR A X.K w st H ∧ RX A X.K w H d1 x ∧ f d1 st = .ok d st' ∧ ∀ v H' w', Ext no w H w' H' → SR A X.K w' st' H' → RD A X.K w' d v → Q v H'
def rSemT (f : D → Store → Res Bool) : V → Hp → (Bool → Hp → Prop) → Prop := fun x H Q => ∃ w d1 st k st', SR A X.K w st H ∧ RX A X.K w H d1 x ∧ f d1 st = .ok k st' ∧ ∀ H' w', Ext no w H w' H' → SR A X.K w' st' H' → Q k H'
variable {P A call X}

/-- two expressions, then a rule -/
theorem two_step {a b : C} {f : D → D → Store → Res D} {c : C} (hc : c.isBor = false) (he : ∀ ρ st, ev P.tab call c ρ st = (ev P.tab call a ρ st).bind fun x st1 => (ev P.tab call b ρ st1).bind fun y st2 => f x y st2) :
    ∀ σ H Q, tE P A call X c σ H Q → tOp (rSem A X f) (tE P A call X a) (tE P A call X b) σ H Q := by
  rintro σ H Q ⟨w, ρ, st, H0, ex, d, st', S, R, e, k⟩
  rw [he] at e
  obtain ⟨x, st1, e1, e⟩ := Res.bind_is e
  obtain ⟨y, st2, e2, e⟩ := Res.bind_is e
  refine ⟨w, ρ, st, H0, ex, x, st1, S, R, e1, fun v H1 w1 E1 S1 p1 => ⟨w1, ρ, st1, H0, ex, y, st2, S1, R.ext E1, e2, fun u H2 w2 E2 S2 p2 => ?_⟩⟩
  refine ⟨w2, x, y, st2, d, st', S2, p1.rx.ext E2, p2.rx, e, fun v' H3 w3 E3 S3 p3 => k v' H3 w3 (E1.trans (E2.trans E3)) S3 ?_⟩
  unfold PV
  rw [if_neg (by rw [hc]; exact Bool.false_ne_true)]
  exact p3
theorem one_step {a : C} {f : D → Store → Res D} {c : C} (hc : c.isBor = false) (he : ∀ ρ st, ev P.tab call c ρ st = (ev P.tab call a ρ st).bind fun x st1 => f x st1) :
    ∀ σ H Q, tE P A call X c σ H Q → tUn (rSem1 A X f) (tE P A call X a) σ H Q := by
  rintro σ H Q ⟨w, ρ, st, H0, ex, d, st', S, R, e, k⟩
  rw [he] at e
  obtain ⟨x, st1, e1, e⟩ := Res.bind_is e
  refine ⟨w, ρ, st, H0, ex, x, st1, S, R, e1, fun v H1 w1 E1 S1 p1 => ⟨w1, x, st1, d, st', S1, p1.rx, e, fun v' H3 w3 E3 S3 p3 => k v' H3 w3 (E1.trans E3) S3 ?_⟩⟩
  unfold PV
  rw [if_neg (by rw [hc]; exact Bool.false_ne_true)]
  exact p3
/-- an answer that changes nothing -/
theorem fin0 {w : Wd} {H : Hp} {st : Store} {d : D} {v : V} {Q : VK} (S : SR A X.K w st H) (r : RD A X.K w d v) (k : ∀ v H' w', Ext no w H w' H' → SR A X.K w' st H' → RD A X.K w' d v → Q v H') : Q v H := k v H w (.refl _ _ _) S r

/-! ### arithmetic -/
def opOf : Bo → Operator
  | .add => .Add
  | .sub => .Sub
  | .mul => .Mult
  | .fdiv => .FloorDiv
  | .mod => .Mod
  | .pow => .Pow
theorem boIs_eq {op : Bo} {o : Operator} (h : boIs op o = true) : o = opOf op := by
  cases op <;> cases o <;> first | rfl | exact Bool.noConfusion h
theorem rx_int {K : PySem.W.Frag} {w : Wd} {H : Hp} {i : Int} {v : V} (h : RX A K w H (.int i) v) : v = .int i := by
  rcases h with h | ⟨_, _, _, e, _⟩
  · cases h; rfl
  · cases e
theorem rx_bl {K : PySem.W.Frag} {w : Wd} {H : Hp} {i : Bool} {v : V} (h : RX A K w H (.bl i) v) : v = .bl i := by
  rcases h with h | ⟨_, _, _, e, _⟩
  · cases h; rfl
  · cases e
theorem rx_ins {K : PySem.W.Frag} {w : Wd} {H : Hp} {st : Store} {c : Nat} {fs : List (Nat × D)} {v : V} (h : RX A K w H (.ins c fs) v) (S : SR A K w st H) : ∃ a dx gs, v = .ref a ∧ H a = some (.ins (A.cls c) dx gs) ∧ RDf A K w fs gs ∧ RD A K w (.ins c fs) (.ref a) := by
  rcases h with h | ⟨_, _, _, e, _⟩
  · cases h with
    | ins h r => exact ⟨_, _, _, rfl, S.sub _ _ h, r, .ins h r⟩
  · cases e
theorem meth_of {c m j : Nat} (h : methOf P.tab c m = some j) : ∃ k, P.cls[c]? = some k ∧ k.meth.lookup m = some j := by
  unfold methOf at h
  rw [tab_cls] at h
  cases q : P.cls[c]? with
  | none => rw [q] at h; cases h
  | some k => rw [q] at h; exact ⟨k, rfl, h⟩
/-- a def's promise from the interpreter's call -/
theorem sp_of {j : Nat} {f : FnI} {w : Wd} {ds : List D} {vs : List V} {st st' : Store} {d : D} {H : Hp} {Q : VK} (hi : f.init = none) (hl : vs.length = f.ps.length) (r : RDs A X.K w ds vs) (S : SR A X.K w st H) (e : call j ds st = .ok d st')
    (k : ∀ v H' w', Ext no w H w' H' → SR A X.K w' st' H' → RD A X.K w' d v → Q v H') : spF A X.K call j f vs H Q E0 := by
  unfold spF
  rw [hi]
  refine ⟨hl, w, ds, st, d, st', r, S, e, fun v H' w' E' S' q => ?_⟩
  split at q
  · obtain ⟨w2, E2, S2, q2⟩ := q.frz S' E'
    exact k v H' w2 E2 S2 q2
  · exact k v H' w' E' S' q

/-- a method's def, called by the interpreter -/
theorem meth_sp (cx : Cxt P A call fd lv N sc X) {c m j : Nat} {ds : List D} {vs : List V} {st st' : Store} {d : D} {H : Hp} {Q : VK} {w : Wd} (hm : methOf P.tab c m = some j) (r : RDs A X.K w ds vs) (S : SR A X.K w st H) (e : call j ds st = .ok d st')
    (k : ∀ v H' w', Ext no w H w' H' → SR A X.K w' st' H' → RD A X.K w' d v → Q v H') : ∃ kl f, P.cls[c]? = some kl ∧ kl.meth.lookup m = some j ∧ P.fns[j]? = some f ∧ hotB f.N = false ∧ spF A X.K call j f vs H Q E0 := by
  obtain ⟨kl, hk, hl⟩ := meth_of hm
  obtain ⟨f, hf, hc⟩ := cx.cok j ds st d st' e
  obtain ⟨hi, hcd⟩ := (cx.gok.cls c kl hk).mi m j f hl hf
  rcases hc with ⟨_, hlen⟩ | ⟨c', fs, h', _⟩
  · exact ⟨kl, f, hk, hl, hf, hcd, sp_of hi (by rw [← r.length, hlen]) r S e k⟩
  · rw [hi] at h'
    cases h'
theorem spc_of (cx : Cxt P A call fd lv N sc X) {c m j : Nat} {kl : ClsI} (hk : P.cls[c]? = some kl) (hl : kl.meth.lookup m = some j) : Spc X.K (A.cls c) (A.nm m) (A.fn j) := by
  have h := (cx.gok.cls c kl hk).me m j hl
  exact ⟨h.1, h.2⟩

theorem wide_lt' {i : Int} (h : wide i = true) : i.natAbs < 2 ^ 4096 := of_decide_eq_true h
theorem opr_int (op : Bo) : OpR X (binaryOp (opOf op)) (fun x y H Q => ∃ i j d st, x = .int i ∧ y = .int j ∧ intOp op i j st = .ok d st ∧ ∃ n, d = .int n ∧ Q (.int n) H) := by
  intro pins s σ H x y v u Q I rx ry h
  obtain ⟨i, j, d, st, rfl, rfl, e, n, rfl, q⟩ := h
  cases op with
  | add =>
    unfold intOp at e
    cases e
    exact op_add pins s σ H _ _ v u Q I rx ry ⟨i, j, rfl, rfl, q⟩
  | sub =>
    unfold intOp at e
    cases e
    exact op_sub pins s σ H _ _ v u Q I rx ry ⟨i, j, rfl, rfl, q⟩
  | mul =>
    unfold intOp at e
    dsimp only at e
    split at e
    · rename_i hw
      rw [Bool.and_eq_true] at hw
      cases e
      exact op_mulW pins s σ H _ _ v u Q I rx ry ⟨i, j, rfl, rfl, wide_mul (wide_lt' hw.1) (wide_lt' hw.2) (by decide) (by decide) (by decide), q⟩
    · cases e
  | fdiv =>
    unfold intOp at e
    dsimp only at e
    split at e
    · rename_i hw
      rw [Bool.and_eq_true, Bool.or_eq_true] at hw
      cases e
      have h0 : 0 < j := of_decide_eq_true hw.1
      rcases hw.2 with h1 | h1
      · exact op_fdiv pins s σ H _ _ v u Q I rx ry ⟨i, j, rfl, rfl, ⟨h0, of_decide_eq_true h1⟩, q⟩
      · exact op_fdivW pins s σ H _ _ v u Q I rx ry ⟨i, j, rfl, rfl, wide_div h0 (wide_lt' h1) (by decide) (by decide), q⟩
    · cases e
  | mod =>
    unfold intOp at e
    dsimp only at e
    split at e
    · rename_i hw
      cases e
      exact op_modN pins s σ H _ _ v u Q I rx ry ⟨i, j, rfl, rfl, of_decide_eq_true hw, q⟩
    · cases e
  | pow =>
    unfold intOp at e
    dsimp only at e
    split at e
    · rename_i hw
      cases e
      exact op_pow pins s σ H _ _ v u Q I rx ry ⟨i, j, rfl, rfl, (show 0 ≤ j ∧ j ≤ 1000000 ∧ i.natAbs < 2 ^ 64 from of_decide_eq_true hw), q⟩
    · cases e
theorem intOp_st {op : Bo} {i j : Int} {st st' : Store} {d : D} (e : intOp op i j st = .ok d st') : st' = st ∧ ∃ n, d = .int n := by
  cases op <;> unfold intOp at e <;> dsimp only at e <;> (try split at e) <;> cases e <;> exact ⟨rfl, _, rfl⟩
end
end Eng

/-! t * 1 of a tuple: the tuple itself. -/
namespace Eng
open PySem PySem.Spec PyProof.Rows L2
theorem tuple_mul1 (l : Addr) (items : Array Value) (n : Nat) (dd : Option Addr) (sl : Array (Option Value)) (u : Tok) :
    Meets (Builtin.«tuple.__mul__» ⟨[.ref l, .int 1 u], []⟩) (fun _ R s => s.heap.get? l = some { cls := .type "tuple", dict := dd, data := .seq items n, slots := sl } ∧ R (.ok (.ret (.ref l))) s) :=
  .of_wp fun prog w A R s h => by
    obtain ⟨hp, g, d, tk, os⟩ := s
    obtain ⟨hl, h⟩ := h
    have f1 := AutoSeq1.idx_int
    have c1 : (items.isEmpty || (1 : Int) == 1) = true := by simp
    wp_walk using wpAny_loadPart' hl
    repeat (first
      | (refine wpAny_ite_false (decide_eq_false (by decide)) ?_; wp_walk using wpAny_loadPart' hl)
      | (refine wpAny_ite_true (decide_eq_true c1) ?_; wp_walk using wpAny_loadPart' hl))
    all_goals first | exact ⟨_, rfl, h⟩ | exact h
section
variable {X : Cx}
def rRep1 (K : PySem.W.Frag) : R2 := fun x y H Q => ∃ l xs, x = .ref l ∧ y = .int 1 ∧ SqT K H l xs ∧ Q (.ref l) H
theorem op_rep1 : OpR X (binaryOp .Mult) (rRep1 X.K) := by
  intro pins s σ H x y v u Q I rx ry h
  obtain ⟨l, xs, rfl, rfl, hT, q⟩ := h
  cases rx
  obtain ⟨t, rfl⟩ := ry
  obtain ⟨its, r, ⟨⟨cls, dd, data, sl⟩, ho, hc, n, hd⟩, hs⟩ := I.tuple hT
  simp only at hc hd
  subst hc hd
  refine wpAny_binaryOp_repeat_ref (T := "tuple") (U := "int") (by decide) ⟨_, ho, rfl⟩ (fun s' => typeIs_int s' 1 t) noFill_tuple_mul F.fills_int_mul F.slot_int_rmul repeat_tuple F.slot_int_index.lookup
    (call_meets F.slot_int_rmul (typeIs_int s 1 t) F.entry_int_rmul (F.args_int_rmul_2 _ _) (int_rmul_tuple 1 t l its.toArray n dd sl)
      ⟨ho, rfl, ⟨_, ho, rfl⟩, call_meets F.slot_tuple_mul ⟨_, ho, rfl⟩ F.entry_tuple_mul (F.args_tuple_mul_2 _ _) (tuple_mul1 l its.toArray n dd sl t) ⟨ho, ?_⟩⟩)
  exact ⟨.ref l, H, I, rfl, q⟩
end
end Eng

namespace Eng
open PySem PySem.Spec PyProof.Rows L2
section
variable {P : Prg} {A : Ad} {call : Nat → List D → Store → Res D} {fd : Nat → FuncData} {lv : Nat} {N : List PySem.Str} {sc : Scope} {X : Cx}

theorem room0 (cx : Cxt P A call fd lv N sc X) : Room lv X.A := cx.room.mono (by omega)
theorem room1 (cx : Cxt P A call fd lv N sc X) : Room (lv + 1) X.A := cx.room.mono (by omega)
theorem room2 (cx : Cxt P A call fd lv N sc X) : Room (lv + 2) X.A := cx.room.mono (by omega)
theorem rd_of {w : Wd} {H : Hp} {d : D} {v : V} (h : RX A X.K w H d v) (hd : ∀ xs, d ≠ .lst xs) : RD A X.K w d v := by
  rcases h with h | ⟨xs, _, _, e, _⟩
  · exact h
  · exact absurd e (hd xs)
/-- how the three operators go over -/
structure Op3 (op : Bo) (m r : Nat) : Prop where
  n : opN op = some (m, r)
  o : opOf op = .Add ∨ opOf op = .Sub ∨ opOf op = .Mult
theorem op3_of {op : Bo} {m r : Nat} (h : opN op = some (m, r)) : Op3 op m r := by
  refine ⟨h, ?_⟩
  cases op <;> first | exact .inl rfl | exact .inr (.inl rfl) | exact .inr (.inr rfl) | cases h
theorem nm_op (cx : Cxt P A call fd lv N sc X) {op : Bo} {m r : Nat} (h : opN op = some (m, r)) : A.nm m = PySem.dunder (opOf op).info.2 ∧ A.nm r = dunderR (opOf op).info.2 := by
  have n := cx.gok.nm
  cases op <;> first | (cases h; exact ⟨n.add, n.radd⟩) | (cases h; exact ⟨n.sub, n.rsub⟩) | (cases h; exact ⟨n.mul, n.rmul⟩) | cases h
theorem opr_own2 (cx : Cxt P A call fd lv N sc X) (op : Bo) {m r : Nat} (h3 : opN op = some (m, r)) {pins : List (Addr × Obj)} {s : Shared} {σ : L2.St} {H : Hp} {x y : V} {v u : Value} {Q : VK} (I : Inv X pins σ H s) (rx : RelV x v) (ry : RelV y u)
    {w : Wd} {c j : Nat} {fs gs : List (Nat × D)} {st st' : Store} {d : D} (S : SR A X.K w st H) (r1 : RX A X.K w H (.ins c fs) x) (r2 : RX A X.K w H (.ins c gs) y) (hm : methOf P.tab c m = some j) (e : call j [.ins c fs, .ins c gs] st = .ok d st')
    (k : ∀ v H' w', Ext no w H w' H' → SR A X.K w' st' H' → RD A X.K w' d v → Q v H') : wpAny (model X.prog X.w) X.A (binaryOp (opOf op) v u) (EP X pins σ Q) X.xe s := by
  obtain ⟨a, dx, ga, rfl, ha, _, ra⟩ := rx_ins r1 S
  obtain ⟨b, dy, gb, rfl, hb, _, rb⟩ := rx_ins r2 S
  obtain ⟨kl, f, hk, hl, hf, hcd, sp⟩ := meth_sp cx hm (.cons ra (.cons rb .nil)) S e k
  have hs := spc_of cx hk hl
  rw [(nm_op cx h3).1] at hs
  exact op_own2 (cx.gok.cls c kl hk).sf hs (cx.fok j f hf hcd) (room0 cx) (cx.bnd j f hf (cx.cold j f hf hcd)) pins s σ H _ _ v u Q I rx ry ⟨a, dx, ga, b, dy, gb, rfl, rfl, ha, hb, sp⟩
theorem opr_ownI (cx : Cxt P A call fd lv N sc X) (op : Bo) {m r : Nat} (h3 : opN op = some (m, r)) {pins : List (Addr × Obj)} {s : Shared} {σ : L2.St} {H : Hp} {x y : V} {v u : Value} {Q : VK} (I : Inv X pins σ H s) (rx : RelV x v) (ry : RelV y u)
    {w : Wd} {c j : Nat} {fs : List (Nat × D)} {i : Int} {st st' : Store} {d : D} (S : SR A X.K w st H) (r1 : RX A X.K w H (.ins c fs) x) (r2 : RX A X.K w H (.int i) y) (hm : methOf P.tab c m = some j) (e : call j [.ins c fs, .int i] st = .ok d st')
    (k : ∀ v H' w', Ext no w H w' H' → SR A X.K w' st' H' → RD A X.K w' d v → Q v H') : wpAny (model X.prog X.w) X.A (binaryOp (opOf op) v u) (EP X pins σ Q) X.xe s := by
  obtain ⟨a, dx, ga, rfl, ha, _, ra⟩ := rx_ins r1 S
  obtain rfl := rx_int r2
  obtain ⟨kl, f, hk, hl, hf, hcd, sp⟩ := meth_sp cx hm (.cons ra (.cons (.int i) .nil)) S e k
  have hs := spc_of cx hk hl
  rw [(nm_op cx h3).1] at hs
  have hc := cx.gok.cls c kl hk
  obtain ⟨rc, h1, h2⟩ := hc.rr _ (op3_of h3).o
  obtain ⟨fo, ro, h4, h5, _⟩ := cx.gok.iops _ (op3_of h3).o
  exact op_ownI hc.sf hs h1 h2 h4 h5 hc.si (cx.fok j f hf hcd) (room0 cx) (cx.bnd j f hf (cx.cold j f hf hcd)) pins s σ H _ _ v u Q I rx ry ⟨a, dx, ga, i, rfl, rfl, ha, sp⟩
theorem opr_reflI (cx : Cxt P A call fd lv N sc X) (op : Bo) {m r : Nat} (h3 : opN op = some (m, r)) {pins : List (Addr × Obj)} {s : Shared} {σ : L2.St} {H : Hp} {x y : V} {v u : Value} {Q : VK} (I : Inv X pins σ H s) (rx : RelV x v) (ry : RelV y u)
    {w : Wd} {c j j0 : Nat} {fs : List (Nat × D)} {i : Int} {st st' : Store} {d : D} (S : SR A X.K w st H) (r1 : RX A X.K w H (.int i) x) (r2 : RX A X.K w H (.ins c fs) y) (hm : methOf P.tab c r = some j) (hm0 : methOf P.tab c m = some j0) (e : call j [.ins c fs, .int i] st = .ok d st')
    (k : ∀ v H' w', Ext no w H w' H' → SR A X.K w' st' H' → RD A X.K w' d v → Q v H') : wpAny (model X.prog X.w) X.A (binaryOp (opOf op) v u) (EP X pins σ Q) X.xe s := by
  obtain ⟨a, dx, ga, rfl, ha, _, ra⟩ := rx_ins r2 S
  obtain rfl := rx_int r1
  obtain ⟨kl, f, hk, hl, hf, hcd, sp⟩ := meth_sp cx hm (.cons ra (.cons (.int i) .nil)) S e k
  obtain ⟨kl0, hk0, hl0⟩ := meth_of hm0
  have hs := spc_of cx hk hl
  have hs0 := spc_of cx hk0 hl0
  rw [(nm_op cx h3).2] at hs
  rw [(nm_op cx h3).1] at hs0
  have hc := cx.gok.cls c kl hk
  obtain ⟨fo, ro, h4, h5, h6⟩ := cx.gok.iops _ (op3_of h3).o
  cases op with
  | add => exact op_reflI (op := .Add) PySem.F.slot_int_add PySem.F.entry_int_add PySem.F.args_int_add_2 hc.sf hs0 hs h4 h5 h6 hc.is (cx.fok j f hf hcd) (room0 cx) (cx.bnd j f hf (cx.cold j f hf hcd)) pins s σ H _ _ v u Q I rx ry ⟨i, a, dx, ga, rfl, rfl, ha, sp⟩
  | sub => exact op_reflI (op := .Sub) PySem.F.slot_int_sub PySem.F.entry_int_sub PySem.F.args_int_sub_2 hc.sf hs0 hs h4 h5 h6 hc.is (cx.fok j f hf hcd) (room0 cx) (cx.bnd j f hf (cx.cold j f hf hcd)) pins s σ H _ _ v u Q I rx ry ⟨i, a, dx, ga, rfl, rfl, ha, sp⟩
  | mul => exact op_reflI (op := .Mult) PySem.F.slot_int_mul PySem.F.entry_int_mul PySem.F.args_int_mul_2 hc.sf hs0 hs h4 h5 h6 hc.is (cx.fok j f hf hcd) (room0 cx) (cx.bnd j f hf (cx.cold j f hf hcd)) pins s σ H _ _ v u Q I rx ry ⟨i, a, dx, ga, rfl, rfl, ha, sp⟩
  | fdiv => cases h3
  | mod => cases h3
  | pow => cases h3
/-- two lists, wherever they lie -/
def rCatS (K : PySem.W.Frag) : R2 := fun x y H Q => ∃ a b xs ys, x = .ref a ∧ y = .ref b ∧ SqL K H a xs ∧ SqL K H b ys ∧ xs.length + ys.length ≤ sizeLine ∧ ∀ p, H p = none → Q (.ref p) (upd H p (.lst (xs ++ ys)))
theorem op_catS : OpR X (binaryOp .Add) (rCatS X.K) := by
  intro pins s σ H x y v u Q I rx ry h
  obtain ⟨a, b, xs, ys, rfl, rfl, ha, hb, hz, q⟩ := h
  obtain rfl : v = Value.ref a := rx
  obtain rfl : u = Value.ref b := ry
  obtain ⟨is1, v1, ⟨⟨c1, d1, t1, s1⟩, n1, g1, e1, f1, k1⟩, z1⟩ := I.list ha
  obtain ⟨is2, v2, ⟨⟨c2, d2, t2, s2⟩, n2, g2, e2, f2, k2⟩, z2⟩ := I.list hb
  dsimp only at e1 f1 k1 e2 f2 k2
  subst e1 f1 k1 e2 f2 k2
  have l1 := v1.length
  have l2 := v2.length
  refine concat_meets ⟨_, g1, rfl⟩ ⟨_, g2, rfl⟩ noFill_list_add seq_list_add PySem.F.slot_list_add PySem.F.entry_list_add (PySem.F.args_list_add_2 _ _) (PyProof.Rows.list_addW a b is1.toArray is2.toArray n1 n2 _ _ s1 s2 (by rw [List.size_toArray, List.size_toArray]; omega)) ⟨g1, g2, ?_⟩
  rw [show is1.toArray ++ is2.toArray = (is1 ++ is2).toArray by simp]
  exact ⟨.ref _, _, I.lnew (t' := s.toks) (v1.append v2) (by rw [List.length_append]; omega), rfl, q _ I.fresh⟩
theorem RDs.rep {K : PySem.W.Frag} {w : Wd} {xs : List D} {vs : List V} (r : RDs A K w xs vs) : ∀ n : Nat, RDs A K w (List.replicate n xs).flatten (List.replicate n vs).flatten
  | 0 => .nil
  | n + 1 => by
    rw [List.replicate_succ, List.replicate_succ, List.flatten_cons, List.flatten_cons]
    exact r.append (RDs.rep r n)
theorem opr_bin (cx : Cxt P A call fd lv N sc X) (op : Bo) : OpR X (binaryOp (opOf op)) (rSem A X (binD P.tab call op)) := by
  intro pins s σ H x y v u Q I rx ry h
  obtain ⟨w, d1, d2, st, d, st', S, r1, r2, e, k⟩ := h
  cases d1 with
  | int i =>
    cases d2 with
    | int j =>
      have e : intOp op i j st = .ok d st' := e
      obtain ⟨rfl, n, rfl⟩ := intOp_st e
      refine opr_int op pins s σ H x y v u Q I rx ry ⟨i, j, _, _, rx_int r1, rx_int r2, e, n, rfl, ?_⟩
      exact k _ H w (.refl _ _ _) S (.int n)
    | ins c fs =>
      unfold binD at e
      dsimp only at e
      cases h3 : opN op with
      | none => rw [h3] at e; cases e
      | some mr =>
        obtain ⟨m, r⟩ := mr
        rw [h3] at e
        dsimp only at e
        cases hm : methOf P.tab c r with
        | none => rw [hm] at e; cases e
        | some j =>
          cases hm0 : methOf P.tab c m with
          | none => rw [hm, hm0] at e; cases e
          | some j0 =>
            rw [hm, hm0] at e
            exact opr_reflI cx op h3 I rx ry S r1 r2 hm hm0 e k
    | _ => cases e
  | ins c fs =>
    unfold binD at e
    dsimp only at e
    cases h3 : opN op with
    | none => rw [h3] at e; cases e
    | some mr =>
      obtain ⟨m, r⟩ := mr
      rw [h3] at e
      dsimp only at e
      cases hm : methOf P.tab c m with
      | none => rw [hm] at e; cases e
      | some j =>
        rw [hm] at e
        cases d2 with
        | int i => exact opr_ownI cx op h3 I rx ry S r1 r2 hm e k
        | ins c' gs =>
          dsimp only at e
          split at e
          · rename_i hc
            subst hc
            exact opr_own2 cx op h3 I rx ry S r1 r2 hm e k
          · cases e
        | _ => cases e
  | tup xs =>
    cases d2 with
    | tup ys =>
      cases op with
      | add =>
        unfold binD at e
        dsimp only at e
        split at e
        · rename_i hl
          cases e
          obtain ⟨a, vs, rfl, qa, ra⟩ := (rd_of r1 (fun _ z => nomatch z)).tupl S
          obtain ⟨b, us, rfl, qb, rb⟩ := (rd_of r2 (fun _ z => nomatch z)).tupl S
          have hz : vs.length + us.length ≤ sizeLine := by
            rw [← ra.length, ← rb.length, sizeLine_eq]
            omega
          refine op_catA pins s σ H _ _ v u Q I rx ry ⟨a, b, vs, us, rfl, rfl, qa, qb, hz, fun z => ?_, fun z1 z2 => ?_, fun z1 z2 p hp => ?_⟩
          · subst z
            cases ra
            exact k _ H w (.refl _ _ _) S (rd_of r2 (fun _ z => nomatch z))
          · subst z2
            cases rb
            rw [List.append_nil] at k
            exact k _ H w (.refl _ _ _) S (rd_of r1 (fun _ z => nomatch z))
          · have rr := ra.append rb
            exact k (.ref p) (upd H p (.tup (vs ++ us))) (w.add p (.tup (vs ++ us))) (ext_add S hp) (sr_add S hp) (.tup (SqT.of (show upd w.G p _ p = _ from upd_same)) (rr.mono (add_le (S.g_none hp))))
        · cases e
      | _ => cases e
    | int m =>
      cases op with
      | mul =>
        unfold binD at e
        dsimp only at e
        split at e
        · rename_i hl
          simp only [Bool.and_eq_true, decide_eq_true_eq, Bool.not_eq_true', List.isEmpty_eq_false_iff] at hl
          obtain ⟨⟨⟨hne, h1⟩, h2⟩, h3⟩ := hl
          cases e
          obtain ⟨a, vs, rfl, qa, ra⟩ := (rd_of r1 (fun _ z => nomatch z)).tupl S
          obtain rfl := rx_int r2
          by_cases hm : m = 1
          · subst hm
            have e1 : (List.replicate (Int.toNat 1) xs).flatten = xs := by simp
            rw [e1] at k
            exact op_rep1 pins s σ H _ _ v u Q I rx ry ⟨a, vs, rfl, rfl, qa, k _ H w (.refl _ _ _) S (rd_of r1 (fun _ z => nomatch z))⟩
          · refine op_repT pins s σ H _ _ v u Q I rx ry ⟨a, m, vs, rfl, rfl, qa, fun z => hne ?_, by omega, h2, by rw [← ra.length]; exact h3, fun p hp => ?_⟩
            · subst z
              cases ra
              rfl
            · exact k (.ref p) (upd H p (.tup (List.replicate m.toNat vs).flatten)) (w.add p (.tup (List.replicate m.toNat vs).flatten)) (ext_add S hp) (sr_add S hp) (.tup (SqT.of (show upd w.G p _ p = _ from upd_same)) ((ra.rep m.toNat).mono (add_le (S.g_none hp))))
        · cases e
      | _ => cases e
    | _ => cases e
  | lst xs =>
    cases d2 with
    | lst ys =>
      cases op with
      | add =>
        unfold binD at e
        dsimp only at e
        split at e
        · rename_i hl
          cases e
          obtain ⟨a, vs, rfl, qa, ra⟩ := r1.list S
          obtain ⟨b, us, rfl, qb, rb⟩ := r2.list S
          refine op_catS pins s σ H _ _ v u Q I rx ry ⟨a, b, vs, us, rfl, rfl, qa, qb, by rw [← ra.length, ← rb.length, sizeLine_eq]; omega, fun p hp => ?_⟩
          exact k (.ref p) (upd H p (.lst (vs ++ us))) (w.add p (.lst (vs ++ us))) (ext_add S hp) (sr_add S hp) (.lst (SqL.of (show upd w.G p _ p = _ from upd_same)) ((ra.append rb).mono (add_le (S.g_none hp))))
        · cases e
      | _ => cases e
    | _ => cases e
  | _ => cases e
end
end Eng

namespace Eng
open PySem PySem.Spec PyProof.Rows L2
/-! ### data and the library's data -/
mutual
theorem can_of : ∀ d : D, plain d = true → (toP d).canLay0 = true
  | .non, _ => by simp only [toP, PyData.canLay0]
  | .bl _, _ => by simp only [toP, PyData.canLay0]
  | .int _, _ => by simp only [toP, PyData.canLay0]
  | .str s, h => by simpa only [toP, PyData.canLay0, PyData.strOk, plain] using h
  | .tup xs, h => by
    simp only [toP, PyData.canLay0]
    exact cans_of xs (by simpa only [plain] using h)
  | .lst xs, h => by
    simp only [toP, PyData.canLay0]
    exact cans_of xs (by simpa only [plain] using h)
  | .ins _ _, h => by simp [plain] at h
  | .fn _, h => by simp [plain] at h
  | .ref _, h => by simp [plain] at h
theorem cans_of : ∀ ds : List D, plains ds = true → PyData.canLayAll0 (toPs ds) = true
  | [], _ => by simp only [toPs, PyData.canLayAll0]
  | d :: r, h => by
    simp only [plains, Bool.and_eq_true] at h
    simp only [toPs, PyData.canLayAll0, Bool.and_eq_true]
    exact ⟨can_of d h.1, cans_of r h.2⟩
end
mutual
theorem depth_of : ∀ d : D, plain d = true → (toP d).depth = deep d
  | .non, _ => by simp only [toP, PyData.depth, deep]
  | .bl _, _ => by simp only [toP, PyData.depth, deep]
  | .int _, _ => by simp only [toP, PyData.depth, deep]
  | .str s, h => by simp only [toP, PyData.depth, deep]
  | .tup xs, h => by
    simp only [toP, PyData.depth, deep]
    rw [depths_of xs (by simpa only [plain] using h)]
  | .lst xs, h => by
    simp only [toP, PyData.depth, deep]
    rw [depths_of xs (by simpa only [plain] using h)]
  | .ins _ _, h => by simp [plain] at h
  | .fn _, h => by simp [plain] at h
  | .ref _, h => by simp [plain] at h
theorem depths_of : ∀ ds : List D, plains ds = true → PyData.depthAll (toPs ds) = deeps ds
  | [], _ => by simp only [toPs, PyData.depthAll, deeps]
  | d :: r, h => by
    simp only [plains, Bool.and_eq_true] at h
    simp only [toPs, PyData.depthAll, deeps]
    rw [depth_of d h.1, depths_of r h.2]
end
mutual
theorem eqv_of : ∀ a b : D, plain a = true → plain b = true → PyData.eqv (toP a) (toP b) = eqD a b
  | a, b, ha, hb => by
    cases a <;> cases b <;> first
      | (simp [plain] at ha; done)
      | (simp [plain] at hb; done)
      | (simp only [toP, PyData.eqv, eqD]; done)
      | (rename_i xs ys
         simp only [toP, PyData.eqv, eqD]
         exact eqvs_of xs ys (by simpa only [plain] using ha) (by simpa only [plain] using hb))
theorem eqvs_of : ∀ a b : List D, plains a = true → plains b = true → PyData.eqvAll (toPs a) (toPs b) = eqDs a b
  | [], [], _, _ => by simp only [toPs, PyData.eqvAll, eqDs]
  | [], _ :: _, _, _ => by simp only [toPs, PyData.eqvAll, eqDs]
  | _ :: _, [], _, _ => by simp only [toPs, PyData.eqvAll, eqDs]
  | a :: as, b :: bs, ha, hb => by
    simp only [plains, Bool.and_eq_true] at ha hb
    simp only [toPs, PyData.eqvAll, eqDs]
    rw [eqv_of a b ha.1 hb.1, eqvs_of as bs ha.2 hb.2]
end
section
variable {A : Ad} {K : PySem.W.Frag} {w : Wd} {H : Hp} {st : Store}
mutual
theorem dp_of (S : SR A K w st H) : ∀ {d : D} {v : V}, plain d = true → RD A K w d v → Dp K H v (toP d)
  | _, _, _, .non => by simp only [toP]; exact .non
  | _, _, _, .bl b => by simp only [toP]; exact .bl b
  | _, _, _, .int i => by simp only [toP]; exact .int i
  | _, _, _, .str s => by simp only [toP]; exact .str s
  | _, _, h, .tup q r => by
    simp only [toP]
    exact .tup (sqT_mono S.sub q) (dps_of S (by simpa only [plain] using h) r)
  | _, _, h, .lst q r => by
    simp only [toP]
    exact .lst (sqL_mono S.sub q) (dps_of S (by simpa only [plain] using h) r)
  | _, _, h, .ins _ _ => by simp [plain] at h
  | _, _, h, .fn _ => by simp [plain] at h
  | _, _, h, .ref _ => by simp [plain] at h
theorem dps_of (S : SR A K w st H) : ∀ {ds : List D} {vs : List V}, plains ds = true → RDs A K w ds vs → DpAll K H vs (toPs ds)
  | _, _, _, .nil => by simp only [toPs]; exact .nil
  | _, _, h, .cons q r => by
    simp only [plains, Bool.and_eq_true] at h
    simp only [toPs]
    exact .cons (dp_of S h.1 q) (dps_of S h.2 r)
end
theorem dpx_of (S : SR A K w st H) {d : D} {v : V} (h : plain d = true) (r : RX A K w H d v) : Dp K H v (toP d) := by
  rcases r with r | ⟨xs, a, vs, rfl, rfl, h3, h4, _⟩
  · exact dp_of S h r
  · simp only [toP]
    exact .lst (SqL.of h3) (dps_of S (by simpa only [plain] using h) h4)
theorem shaped_of {d : D} (h : plain d = true) (hd : deep d ≤ 32) : SeqAt.shaped (toP d) = true := by
  unfold SeqAt.shaped
  rw [can_of d h, depth_of d h]
  simp
  omega
theorem flat_rel {d : D} {v : V} (h : flat d = true) (r : RD A K w d v) : flatV v = true := by
  cases r <;> first | rfl | (simp [flat] at h)
theorem flats_rel : ∀ {ds : List D} {vs : List V}, ds.all flat = true → RDs A K w ds vs → vs.all flatV = true
  | _, _, _, .nil => rfl
  | _, _, h, .cons q r => by
    rw [List.all_cons, Bool.and_eq_true] at h ⊢
    exact ⟨flat_rel h.1 q, flats_rel h.2 r⟩
theorem eqV_of {a b : D} {x y : V} (ha : flat a = true) (hb : flat b = true) (r : RD A K w a x) (q : RD A K w b y) : eqV y x = eqD a b := by
  cases r <;> cases q <;> first
    | (simp [flat] at ha; done)
    | (simp [flat] at hb; done)
    | (simp only [eqV, eqD]; done)
    | (simp only [eqV, eqD]; exact Bool.beq_comm)
    | (simp only [eqV, eqD]; rw [Bool.beq_comm]; done)
    | (simp only [eqV, eqD, beq_comm]; done)
theorem inV_of {a : D} {x : V} (ha : flat a = true) (r : RD A K w a x) : ∀ {ds : List D} {vs : List V}, ds.all flat = true → RDs A K w ds vs → inV x vs = ds.any fun z => eqD a z
  | _, _, _, .nil => rfl
  | _, _, h, .cons q t => by
    rw [List.all_cons, Bool.and_eq_true] at h
    unfold inV
    rw [List.any_cons, List.any_cons, eqV_of ha h.1 r q]
    congr 1
    exact inV_of ha r h.2 t
end
section
variable {P : Prg} {A : Ad} {call : Nat → List D → Store → Res D} {fd : Nat → FuncData} {lv : Nat} {N : List PySem.Str} {sc : Scope} {X : Cx}

theorem unr_neg (cx : Cxt P A call fd lv N sc X) : UnR X (unaryOp .USub) (rSem1 A X (negD P.tab call)) := by
  intro pins s σ H x v Q I rx h
  obtain ⟨w, d1, st, d, st', S, r1, e, k⟩ := h
  cases d1 with
  | int i =>
    cases e
    obtain rfl := rx_int r1
    exact un_neg pins s σ H _ v Q I rx ⟨i, rfl, k _ H w (.refl _ _ _) S (.int _)⟩
  | ins c fs =>
    unfold negD at e
    dsimp only at e
    cases hm : methOf P.tab c nNeg with
    | none => rw [hm] at e; cases e
    | some j =>
      rw [hm] at e
      obtain ⟨a, dx, ga, rfl, ha, _, ra⟩ := rx_ins r1 S
      obtain ⟨kl, f, hk, hl, hf, hcd, sp⟩ := meth_sp cx hm (.cons ra .nil) S e k
      have hs := spc_of cx hk hl
      rw [cx.gok.nm.neg] at hs
      exact un_own hs (cx.fok j f hf hcd) (room0 cx) (cx.bnd j f hf (cx.cold j f hf hcd)) pins s σ H _ v Q I rx ⟨a, dx, ga, rfl, ha, sp⟩
  | _ => cases e
theorem tru_sem (cx : Cxt P A call fd lv N sc X) : TruR X (rSemT A X (truD P.tab call)) := by
  intro pins s σ H x v Q I rx h
  obtain ⟨w, d1, st, b, st', S, r1, e, k⟩ := h
  cases d1 with
  | non =>
    cases e
    have r1 := rd_of r1 (by intro _ z; cases z)
    cases r1
    exact tru_ok pins s σ H _ v Q I rx ⟨false, rfl, k H w (.refl _ _ _) S⟩
  | bl c =>
    cases e
    obtain rfl := rx_bl r1
    exact tru_ok pins s σ H _ v Q I rx ⟨_, rfl, k H w (.refl _ _ _) S⟩
  | int i =>
    cases e
    obtain rfl := rx_int r1
    exact tru_ok pins s σ H _ v Q I rx ⟨_, rfl, k H w (.refl _ _ _) S⟩
  | ins c fs =>
    unfold truD at e
    dsimp only at e
    cases hm : methOf P.tab c nBool with
    | none => rw [hm] at e; cases e
    | some j =>
      rw [hm] at e
      obtain ⟨d2, st1, e1, e2⟩ := Res.bind_is e
      cases d2 with
      | bl c2 =>
        cases e2
        obtain ⟨a, dx, ga, rfl, ha, _, ra⟩ := rx_ins r1 S
        obtain ⟨kl, f, hk, hl, hf, hcd, sp⟩ := meth_sp cx (Q := fun v H' => ∃ c, v = .bl c ∧ Q c H') hm (.cons ra .nil) S e1 (fun v' H' w' E' S' r' => by
          cases r'
          exact ⟨_, rfl, k H' w' E' S'⟩)
        have hs := spc_of cx hk hl
        rw [cx.gok.nm.bool] at hs
        exact tru_own hs (cx.fok j f hf hcd) (room0 cx) (cx.bnd j f hf (cx.cold j f hf hcd)) pins s σ H _ v Q I rx ⟨a, dx, ga, rfl, ha, sp⟩
      | _ => cases e2
  | _ => cases e
end
end Eng

namespace Eng
open PySem PySem.Spec PyProof.Rows L2
section
variable {P : Prg} {A : Ad} {call : Nat → List D → Store → Res D} {fd : Nat → FuncData} {lv : Nat} {N : List PySem.Str} {sc : Scope} {X : Cx}

theorem rsem_mono {f : Value → Value → Sem Value} {r r' : R2} (h : OpR X f r) (m : ∀ x y H Q, r' x y H Q → r x y H Q) : OpR X f r' := fun pins s σ H x y v u Q I rx ry q => h pins s σ H x y v u Q I rx ry (m x y H Q q)
/-- the plain arm of == -/
theorem eqR_plain {x y : D} {st st' : Store} {b : Bool} (hx : ∀ c fs, x ≠ .ins c fs) (e : eqR P.tab call x y st = .ok b st') : plain x = true ∧ plain y = true ∧ deep x ≤ 32 ∧ deep y ≤ 32 ∧ b = eqD x y ∧ st' = st := by
  unfold eqR at e
  split at e
  · rename_i c fs
    exact absurd rfl (hx c fs)
  · split at e
    · rename_i h
      simp only [Bool.and_eq_true, decide_eq_true_eq] at h
      cases e
      exact ⟨h.1.1.1, h.1.1.2, h.1.2, h.2, rfl, rfl⟩
    · cases e
theorem eqR_own {c : Nat} {fs : List (Nat × D)} {y : D} {st st' : Store} {b : Bool} (e : eqR P.tab call (.ins c fs) y st = .ok b st') : ∃ j c' gs, methOf P.tab c nEq = some j ∧ y = .ins c' gs ∧ c' = c ∧ call j [.ins c fs, y] st = .ok (.bl b) st' := by
  unfold eqR at e
  dsimp only at e
  cases hm : methOf P.tab c nEq with
  | none => rw [hm] at e; cases e
  | some j =>
    rw [hm] at e
    cases y with
    | ins c' gs =>
      dsimp only at e
      split at e
      · rename_i hc
        obtain ⟨d2, st1, e1, e2⟩ := Res.bind_is e
        cases d2 with
        | bl c2 =>
          cases e2
          exact ⟨j, c', gs, rfl, rfl, hc, e1⟩
        | _ => cases e2
      · cases e
    | _ => cases e
theorem opr_eq (cx : Cxt P A call fd lv N sc X) : OpR X (compareOp .Eq) (rSem A X (cmpD P.tab call .eq)) := by
  intro pins s σ H x y v u Q I rx ry h
  obtain ⟨w, d1, d2, st, d, st', S, r1, r2, e, k⟩ := h
  have e : (eqR P.tab call d1 d2 st).bind (fun b st1 => .ok (.bl b) st1) = .ok d st' := e
  obtain ⟨b, st1, e1, e2⟩ := Res.bind_is e
  cases e2
  by_cases hi : ∃ c fs, d1 = .ins c fs
  · obtain ⟨c, fs, rfl⟩ := hi
    obtain ⟨j, c', gs, hm, rfl, rfl, e3⟩ := eqR_own e1
    obtain ⟨a, dx, ga, rfl, ha, _, ra⟩ := rx_ins r1 S
    obtain ⟨b', dy, gb, rfl, hb, _, rb⟩ := rx_ins r2 S
    obtain ⟨kl, f, hk, hl, hf, hcd, sp⟩ := meth_sp cx hm (.cons ra (.cons rb .nil)) S e3 k
    have hs := spc_of cx hk hl
    rw [cx.gok.nm.eq] at hs
    exact op_eqOwn hs (cx.fok j f hf hcd) (room0 cx) (cx.bnd j f hf (cx.cold j f hf hcd)) pins s σ H _ _ v u Q I rx ry ⟨a, dx, ga, rfl, ha, ⟨b', dy, gb, rfl, hb⟩, sp⟩
  · obtain ⟨p1, p2, q1, q2, rfl, rfl⟩ := eqR_plain (fun c fs z => hi ⟨c, fs, z⟩) e1
    refine op_eqD cx.room.units pins s σ H x y v u Q I rx ry ⟨toP d1, toP d2, dpx_of S p1 r1, dpx_of S p2 r2, shaped_of p1 q1, shaped_of p2 q2, ?_⟩
    rw [eqv_of d1 d2 p1 p2]
    exact k _ H w (.refl _ _ _) S (.bl _)
theorem opr_ne (cx : Cxt P A call fd lv N sc X) : OpR X (compareOp .NotEq) (rSem A X (cmpD P.tab call .ne)) := by
  intro pins s σ H x y v u Q I rx ry h
  obtain ⟨w, d1, d2, st, d, st', S, r1, r2, e, k⟩ := h
  have e : (eqR P.tab call d1 d2 st).bind (fun b st1 => .ok (.bl (!b)) st1) = .ok d st' := e
  obtain ⟨b, st1, e1, e2⟩ := Res.bind_is e
  cases e2
  by_cases hi : ∃ c fs, d1 = .ins c fs
  · obtain ⟨c, fs, rfl⟩ := hi
    obtain ⟨j, c', gs, hm, rfl, rfl, e3⟩ := eqR_own e1
    obtain ⟨a, dx, ga, rfl, ha, _, ra⟩ := rx_ins r1 S
    obtain ⟨b', dy, gb, rfl, hb, _, rb⟩ := rx_ins r2 S
    obtain ⟨kl, f, hk, hl, hf, hcd, sp⟩ := meth_sp cx (Q := fun v H' => ∃ c, v = .bl c ∧ Q (.bl (!c)) H') hm (.cons ra (.cons rb .nil)) S e3 (fun v' H' w' E' S' r' => by
      cases r'
      exact ⟨_, rfl, k _ H' w' E' S' (.bl _)⟩)
    have hs := spc_of cx hk hl
    rw [cx.gok.nm.eq] at hs
    have hc := cx.gok.cls _ kl hk
    exact op_neOwn hs hc.ne hc.so (cx.fok j f hf hcd) (room1 cx) (cx.bnd j f hf (cx.cold j f hf hcd)) pins s σ H _ _ v u Q I rx ry ⟨a, dx, ga, rfl, ha, ⟨b', dy, gb, rfl, hb⟩, sp⟩
  · obtain ⟨p1, p2, q1, q2, rfl, rfl⟩ := eqR_plain (fun c fs z => hi ⟨c, fs, z⟩) e1
    refine op_neD cx.room.units pins s σ H x y v u Q I rx ry ⟨toP d1, toP d2, dpx_of S p1 r1, dpx_of S p2 r2, shaped_of p1 q1, shaped_of p2 q2, ?_⟩
    rw [eqv_of d1 d2 p1 p2]
    exact k _ H w (.refl _ _ _) S (.bl _)
theorem any_eqv : ∀ {ys : List D} {x : D}, plains ys = true → plain x = true → ((toPs ys).any fun z => PyData.eqv z (toP x)) = ys.any fun z => eqD z x
  | [], _, _, _ => rfl
  | y :: ys, x, h, p => by
    simp only [plains, Bool.and_eq_true] at h
    show (PyData.eqv (toP y) (toP x) || _) = (eqD y x || _)
    rw [eqv_of y x h.1 p, any_eqv h.2 p]
theorem opr_in (cx : Cxt P A call fd lv N sc X) : OpR X (compareOp .In) (rSem A X (cmpD P.tab call .isin)) := by
  intro pins s σ H x y v u Q I rx ry h
  obtain ⟨w, d1, d2, st, d, st', S, r1, r2, e, k⟩ := h
  cases d2 with
  | tup ys =>
    unfold cmpD at e
    dsimp only at e
    split at e
    · rename_i hf
      rw [Bool.and_eq_true] at hf
      cases e
      obtain ⟨a, vs, rfl, hq, rr⟩ := r2.tupl S
      have r1 := rd_of r1 (by intro xs z; subst z; cases hf.1)
      refine op_in_seq pins s σ H x _ v u Q I rx ry ⟨a, vs, rfl, .inr hq, flat_rel hf.1 r1, flats_rel hf.2 rr, ?_⟩
      show Q (.bl (inV x vs)) H
      rw [inV_of hf.1 r1 hf.2 rr]
      exact k _ H w (.refl _ _ _) S (.bl _)
    · cases e
  | lst ys =>
    unfold cmpD at e
    dsimp only at e
    split at e
    · rename_i hf
      rw [Bool.and_eq_true] at hf
      cases e
      obtain ⟨a, vs, rfl, hq, rr⟩ := r2.list S
      have r1 := rd_of r1 (by intro xs z; subst z; cases hf.1)
      refine op_in_seq pins s σ H x _ v u Q I rx ry ⟨a, vs, rfl, .inl hq, flat_rel hf.1 r1, flats_rel hf.2 rr, ?_⟩
      show Q (.bl (inV x vs)) H
      rw [inV_of hf.1 r1 hf.2 rr]
      exact k _ H w (.refl _ _ _) S (.bl _)
    · unfold inD at e
      split at e
      · rename_i hc
        simp only [Bool.and_eq_true, decide_eq_true_eq] at hc
        cases e
        have pl : plain (.lst ys) = true := by simp only [plain]; exact hc.1.1.2
        refine op_inD (by have := cx.room.un; omega) pins s σ H x y v u Q I rx ry ⟨toP d1, toPs ys, dpx_of S hc.1.1.1 r1, by have z := dpx_of S pl r2; rw [toP] at z; exact z, shaped_of hc.1.1.1 hc.1.2, by have z := shaped_of pl (by simp only [deep]; omega); rw [toP] at z; exact z, ?_⟩
        rw [any_eqv hc.1.1.2 hc.1.1.1]
        exact k _ H w (.refl _ _ _) S (.bl _)
      · cases e
  | _ => cases e
theorem opr_notin (cx : Cxt P A call fd lv N sc X) : OpR X (compareOp .NotIn) (rSem A X (cmpD P.tab call .notin)) := by
  intro pins s σ H x y v u Q I rx ry h
  obtain ⟨w, d1, d2, st, d, st', S, r1, r2, e, k⟩ := h
  cases d2 with
  | tup ys =>
    unfold cmpD at e
    dsimp only at e
    split at e
    · rename_i hf
      rw [Bool.and_eq_true] at hf
      cases e
      obtain ⟨a, vs, rfl, hq, rr⟩ := r2.tupl S
      have r1 := rd_of r1 (by intro xs z; subst z; cases hf.1)
      refine op_notIn_seq pins s σ H x _ v u Q I rx ry ⟨a, vs, rfl, .inr hq, flat_rel hf.1 r1, flats_rel hf.2 rr, ?_⟩
      show Q (.bl (!inV x vs)) H
      rw [inV_of hf.1 r1 hf.2 rr]
      exact k _ H w (.refl _ _ _) S (.bl _)
    · cases e
  | lst ys =>
    unfold cmpD at e
    dsimp only at e
    split at e
    · rename_i hf
      rw [Bool.and_eq_true] at hf
      cases e
      obtain ⟨a, vs, rfl, hq, rr⟩ := r2.list S
      have r1 := rd_of r1 (by intro xs z; subst z; cases hf.1)
      refine op_notIn_seq pins s σ H x _ v u Q I rx ry ⟨a, vs, rfl, .inl hq, flat_rel hf.1 r1, flats_rel hf.2 rr, ?_⟩
      show Q (.bl (!inV x vs)) H
      rw [inV_of hf.1 r1 hf.2 rr]
      exact k _ H w (.refl _ _ _) S (.bl _)
    · unfold ninD at e
      split at e
      · rename_i hc
        simp only [Bool.and_eq_true, decide_eq_true_eq] at hc
        cases e
        have pl : plain (.lst ys) = true := by simp only [plain]; exact hc.1.1.2
        refine op_notInD (by have := cx.room.un; omega) pins s σ H x y v u Q I rx ry ⟨toP d1, toPs ys, dpx_of S hc.1.1.1 r1, by have z := dpx_of S pl r2; rw [toP] at z; exact z, shaped_of hc.1.1.1 hc.1.2, by have z := shaped_of pl (by simp only [deep]; omega); rw [toP] at z; exact z, ?_⟩
        rw [any_eqv hc.1.1.2 hc.1.1.1]
        exact k _ H w (.refl _ _ _) S (.bl _)
      · cases e
  | _ => cases e
theorem opr_ord {op : CmpOp} {g : Int → Int → Bool} {c : Co} (ho : OpR X (compareOp op) (rI0 fun i j => .bl (g i j))) (he : ∀ x y st d st', cmpD P.tab call c x y st = .ok d st' → ∃ i j, x = .int i ∧ y = .int j ∧ d = .bl (g i j) ∧ st' = st) :
    OpR X (compareOp op) (rSem A X (cmpD P.tab call c)) := by
  refine rsem_mono ho fun x y H Q h => ?_
  obtain ⟨w, d1, d2, st, d, st', S, r1, r2, e, k⟩ := h
  obtain ⟨i, j, rfl, rfl, rfl, rfl⟩ := he _ _ _ _ _ e
  exact ⟨i, j, rx_int r1, rx_int r2, k _ H w (.refl _ _ _) S (.bl _)⟩
theorem opr_lt : OpR X (compareOp .Lt) (rSem A X (cmpD P.tab call .lt)) := opr_ord op_lt fun x y st d st' e => by
  unfold cmpD at e
  cases x <;> cases y <;> cases e
  exact ⟨_, _, rfl, rfl, rfl, rfl⟩
theorem opr_le : OpR X (compareOp .LtE) (rSem A X (cmpD P.tab call .le)) := opr_ord op_le fun x y st d st' e => by
  unfold cmpD at e
  cases x <;> cases y <;> cases e
  exact ⟨_, _, rfl, rfl, rfl, rfl⟩
theorem opr_gt : OpR X (compareOp .Gt) (rSem A X (cmpD P.tab call .gt)) := opr_ord (g := fun i j => decide (j < i)) op_gt fun x y st d st' e => by
  unfold cmpD at e
  cases x <;> cases y <;> cases e
  exact ⟨_, _, rfl, rfl, rfl, rfl⟩
theorem opr_ge : OpR X (compareOp .GtE) (rSem A X (cmpD P.tab call .ge)) := opr_ord (g := fun i j => decide (j ≤ i)) op_ge fun x y st d st' e => by
  unfold cmpD at e
  cases x <;> cases y <;> cases e
  exact ⟨_, _, rfl, rfl, rfl, rfl⟩
def isNonD : D → Bool
  | .non => true
  | _ => false
theorem rd_non {K : PySem.W.Frag} {w : Wd} {d : D} {v : V} (r : RD A K w d v) : decide (v = V.non) = isNonD d := by
  cases r <;> rfl
theorem rx_non {K : PySem.W.Frag} {w : Wd} {H : Hp} {d : D} {v : V} (r : RX A K w H d v) : decide (v = V.non) = isNonD d := by
  rcases r with r | ⟨xs, a, vs, rfl, rfl, _⟩
  · exact rd_non r
  · rfl
theorem opr_isN : OpR X (compareOp .Is) (rSem A X (cmpD P.tab call .isNone)) := by
  refine rsem_mono op_isN fun x y H Q h => ?_
  obtain ⟨w, d1, d2, st, d, st', S, r1, r2, e, k⟩ := h
  cases d2 with
  | non =>
    have r2 := rd_of r2 (by intro _ z; cases z)
    cases r2
    refine ⟨rfl, ?_⟩
    rw [rx_non r1]
    cases d1 <;> cases e <;> exact k _ H w (.refl _ _ _) S (.bl _)
  | _ => cases d1 <;> cases e
theorem opr_notN : OpR X (compareOp .IsNot) (rSem A X (cmpD P.tab call .isNotNone)) := by
  refine rsem_mono op_notN fun x y H Q h => ?_
  obtain ⟨w, d1, d2, st, d, st', S, r1, r2, e, k⟩ := h
  cases d2 with
  | non =>
    have r2 := rd_of r2 (by intro _ z; cases z)
    cases r2
    refine ⟨rfl, ?_⟩
    rw [rx_non r1]
    cases d1 <;> cases e <;> exact k _ H w (.refl _ _ _) S (.bl _)
  | _ => cases d1 <;> cases e
def coOf : Co → CmpOp
  | .eq => .Eq
  | .ne => .NotEq
  | .lt => .Lt
  | .le => .LtE
  | .gt => .Gt
  | .ge => .GtE
  | .isin => .In
  | .notin => .NotIn
  | .isNone => .Is
  | .isNotNone => .IsNot
theorem coIs_eq {op : Co} {o : CmpOp} (h : coIs op o = true) : o = coOf op := by
  cases op <;> cases o <;> first | rfl | exact Bool.noConfusion h
theorem opr_cmp (cx : Cxt P A call fd lv N sc X) (op : Co) : OpR X (compareOp (coOf op)) (rSem A X (cmpD P.tab call op)) := by
  cases op with
  | eq => exact opr_eq cx
  | ne => exact opr_ne cx
  | lt => exact opr_lt
  | le => exact opr_le
  | gt => exact opr_gt
  | ge => exact opr_ge
  | isin => exact opr_in cx
  | notin => exact opr_notin cx
  | isNone => exact opr_isN
  | isNotNone => exact opr_notN
end
end Eng

/-! sorted(t) of a tuple of texts. -/
namespace Eng
open PySem PySem.Spec PyProof.Rows L2
section
variable {X : Cx}
def rSortedT (K : PySem.W.Frag) : List V → Hp → VK → Prop := fun vs H Q => ∃ (a : Addr) (xs : List Str), vs = [V.ref a] ∧ SqT K H a (xs.map V.str) ∧ xs.length < 64 ∧
  ∀ (ys : List Str) (p : Addr), ys.Perm xs → sortedS ys = true → H p = none → Q (.ref p) (upd H p (.lst (ys.map V.str)))
theorem cr_sortedT : CallR X (.builtin "sorted") (rSortedT X.K) := by
  intro pins s σ H vs us Q I r h
  obtain ⟨a, xs, rfl, hs, h64, q⟩ := h
  obtain ⟨its, rv, ⟨o, ho, hc, n, hd⟩, hz⟩ := I.tuple hs
  rw [Vals.ref1 r]
  have hlen0 := rv.length
  rw [List.length_map] at hlen0
  have hS := rv.strs
  have h64' : its.length < 64 := by omega
  refine Calls.call_function_entry kind_sorted plain_sorted entry_sorted (args_sorted1 _) ?_
  unfold Builtin.«sorted»
  refine wpAny_bind (m := checkCount "sorted" 1 1 _) (wpAny_pure ?_)
  refine wpAny_bind (wpAny_collect_seq a (.inr rfl) ho hc hd (fun h' hk => ?_) (by rw [List.size_toArray]; exact small64 h64'))
  have I1 : Inv X pins σ H { s with heap := h' } := I.kept (t' := s.toks) hk
  have e0 : its.toArray.toList = its := by simp
  rw [e0]
  refine wpAny_bind (wpAny_newList ?_ (small64 h64'))
  have hoL : (h'.push (seqObj "list" its.toArray 0)).get? h'.objs.size = some (seqObj "list" its.toArray 0) := Heap.get?_push_size _ rfl
  refine wpAny_bind (wpAny_holding (wpAny_call_entry slot_list_sort ⟨_, hoL, rfl⟩ entry_list_sort (list_sort_treeK (s := { s with heap := h'.push (seqObj "list" its.toArray 0) }) strKind_oneLt hoL hS.keysOf (fun v₁ v₂ rest e => keyKind_strs (by rw [← e]; exact hS)) h64' fun st' a1 a2 => ⟨_, rfl, ?_⟩) (args_list_sort _)))
  obtain ⟨ss', h1, h2, h3⟩ := sorted_out_str hS a1 a2
  refine wpAny_pure ⟨_, rfl, ?_⟩
  obtain ⟨ep, he'⟩ := PyProof.Rows.sortedHeap_at (vs := its) (out := (arrOf st').map (·.2)) hoL
  have hlen : (ss'.map V.str).length ≤ sizeLine := by rw [List.length_map, h2.length_eq]; exact small64 h64
  refine ⟨.ref _, upd H h'.objs.size (.lst (ss'.map V.str)), I1.laid (t' := s.toks) (fun b u e => ?_) (Nat.le_refl _) ⟨hlen, _, ep, vals_of_strs h1, he'⟩, rfl, q ss' _ h2 h3 (I1.hok.fresh (Nat.le_refl _))⟩
  have hne : b ≠ h'.objs.size := fun z => by
    have := Heap.lt_size e
    rw [z] at this
    exact Nat.lt_irrefl _ this
  have e2 := Heap.get?_push_of_some (seqObj "list" its.toArray 0) e
  rw [PyProof.Rows.sortedHeap_old hne (Heap.lt_size e2)]
  exact e2
end
end Eng

namespace Eng
open PySem PySem.Spec PyProof.Rows L2
section
variable {P : Prg} {A : Ad} {call : Nat → List D → Store → Res D} {fd : Nat → FuncData} {lv : Nat} {N : List PySem.Str} {sc : Scope} {X : Cx}

/-! ### new frozen objects -/
theorem new_lst {w : Wd} {H : Hp} {st : Store} {xs : List D} {vs : List V} {Q : VK} {l : Addr} (S : SR A X.K w st H) (r : RDs A X.K w xs vs) (hl : H l = none) (k : ∀ v H' w', Ext no w H w' H' → SR A X.K w' st H' → RD A X.K w' (.lst xs) v → Q v H') : Q (.ref l) (upd H l (.lst vs)) :=
  k (.ref l) _ (w.add l (.lst vs)) (ext_add S hl) (sr_add S hl) (.lst (SqL.of upd_same) (r.mono (add_le (S.g_none hl))))
theorem new_tup {w : Wd} {H : Hp} {st : Store} {xs : List D} {vs : List V} {Q : VK} {l : Addr} (S : SR A X.K w st H) (r : RDs A X.K w xs vs) (hl : H l = none) (k : ∀ v H' w', Ext no w H w' H' → SR A X.K w' st H' → RD A X.K w' (.tup xs) v → Q v H') : Q (.ref l) (upd H l (.tup vs)) :=
  k (.ref l) _ (w.add l (.tup vs)) (ext_add S hl) (sr_add S hl) (.tup (SqT.of upd_same) (r.mono (add_le (S.g_none hl))))

/-- a list of the store -/
theorem cellL {K : PySem.W.Frag} {w : Wd} {H : Hp} {st : Store} {n : Nat} {xs : List D} {v : V} (S : SR A K w st H) (h : getL st n = some xs) (r : RX A K w H (.ref n) v) : ∃ vs, v = .ref (w.μ n) ∧ n < w.n ∧ H (w.μ n) = some (.lst vs) ∧ RDs A K w xs vs := by
  have hr : v = .ref (w.μ n) ∧ n < w.n := by
    rcases r with r | ⟨ys, a, vs, z, _⟩
    · cases r with
      | ref h => exact ⟨rfl, h⟩
    · cases z
  unfold getL at h
  cases q : st[n]? with
  | none => rw [q] at h; cases h
  | some c =>
    rw [q] at h
    cases c with
    | lk ys =>
      cases h
      obtain ⟨vs, r1, e⟩ := S.cell n _ q
      exact ⟨vs, hr.1, hr.2, e, r1⟩
    | dk _ => cases h
    | dead => cases h
/-! ### built-in functions of one argument -/
def rC (f : D → Store → Res D) (A : Ad) (X : Cx) : List V → Hp → VK → Prop := fun xs H Q => ∃ x, xs = [x] ∧ rSem1 A X f x H Q
theorem callr_mono {f : Value} {r r' : List V → Hp → VK → Prop} (h : CallR X f r) (m : ∀ xs H Q, r' xs H Q → r xs H Q) : CallR X f r' := fun pins s σ H xs us Q I rx q => h pins s σ H xs us Q I rx (m xs H Q q)
theorem bl_len : CallR X (.builtin "len") (rC (bltD P.tab call .len) A X) := by
  refine callr_mono call_len_seq fun xs H Q h => ?_
  obtain ⟨x, rfl, w, d1, st, d, st', S, r1, e, k⟩ := h
  cases d1 with
  | lst ys =>
    cases e
    obtain ⟨a, vs, rfl, hq, rr⟩ := r1.list S
    refine ⟨a, vs, rfl, .inl hq, ?_⟩
    rw [← rr.length]
    exact k _ H w (.refl _ _ _) S (.int _)
  | tup ys =>
    cases e
    obtain ⟨a, vs, rfl, hq, rr⟩ := r1.tupl S
    refine ⟨a, vs, rfl, .inr hq, ?_⟩
    rw [← rr.length]
    exact k _ H w (.refl _ _ _) S (.int _)
  | ref n =>
    unfold bltD at e
    dsimp only at e
    cases hg : getL st n with
    | none => rw [hg] at e; cases e
    | some ys =>
      rw [hg] at e
      cases e
      obtain ⟨vs, rfl, _, hq, rr⟩ := cellL S hg r1
      refine ⟨_, vs, rfl, .inl (SqL.of hq), ?_⟩
      rw [← rr.length]
      exact k _ H w (.refl _ _ _) S (.int _)
  | _ => cases e
theorem bl_abs (cx : Cxt P A call fd lv N sc X) : CallR X (.builtin "abs") (rC (bltD P.tab call .abs) A X) := by
  intro pins s σ H xs us Q I rx h
  obtain ⟨x, rfl, w, d1, st, d, st', S, r1, e, k⟩ := h
  cases d1 with
  | int i =>
    cases e
    obtain rfl := rx_int r1
    exact call_abs pins s σ H _ us Q I rx ⟨i, rfl, k _ H w (.refl _ _ _) S (.int _)⟩
  | ins c fs =>
    unfold bltD at e
    dsimp only at e
    cases hm : methOf P.tab c nAbs with
    | none => rw [hm] at e; cases e
    | some j =>
      rw [hm] at e
      obtain ⟨a, dx, ga, rfl, ha, _, ra⟩ := rx_ins r1 S
      obtain ⟨kl, f, hk, hl, hf, hcd, sp⟩ := meth_sp cx hm (.cons ra .nil) S e k
      have hs := spc_of cx hk hl
      rw [cx.gok.nm.abs] at hs
      exact call_absOwn hs (cx.fok j f hf hcd) (room1 cx) (cx.bnd j f hf (cx.cold j f hf hcd)) pins s σ H _ us Q I rx ⟨a, dx, ga, rfl, ha, sp⟩
  | _ => cases e
theorem bl_int : CallR X (.type "int") (rC (bltD P.tab call .int) A X) := by
  refine callr_mono call_int1 fun xs H Q h => ?_
  obtain ⟨x, rfl, w, d1, st, d, st', S, r1, e, k⟩ := h
  cases d1 with
  | int i =>
    cases e
    obtain rfl := rx_int r1
    exact .inl ⟨i, rfl, k _ H w (.refl _ _ _) S (.int _)⟩
  | bl b =>
    cases e
    obtain rfl := rx_bl r1
    exact .inr ⟨b, rfl, k _ H w (.refl _ _ _) S (.int _)⟩
  | _ => cases e
theorem bl_bool (cx : Cxt P A call fd lv N sc X) : CallR X (.type "bool") (rC (bltD P.tab call .bool) A X) := by
  intro pins s σ H xs us Q I rx h
  obtain ⟨x, rfl, w, d1, st, d, st', S, r1, e, k⟩ := h
  cases d1 with
  | int i =>
    cases e
    obtain rfl := rx_int r1
    exact call_bool1 pins s σ H _ us Q I rx (.inl ⟨i, rfl, k _ H w (.refl _ _ _) S (.bl _)⟩)
  | bl b =>
    cases e
    obtain rfl := rx_bl r1
    exact call_bool1 pins s σ H _ us Q I rx (.inr ⟨b, rfl, k _ H w (.refl _ _ _) S (.bl _)⟩)
  | ins c fs =>
    have e : (truD P.tab call (.ins c fs) st).bind (fun b st1 => .ok (.bl b) st1) = .ok d st' := e
    obtain ⟨b, st1, e1, e2⟩ := Res.bind_is e
    cases e2
    unfold truD at e1
    dsimp only at e1
    cases hm : methOf P.tab c nBool with
    | none => rw [hm] at e1; cases e1
    | some j =>
      rw [hm] at e1
      obtain ⟨d2, st2, e3, e4⟩ := Res.bind_is e1
      cases d2 with
      | bl c2 =>
        cases e4
        obtain ⟨a, dx, ga, rfl, ha, _, ra⟩ := rx_ins r1 S
        obtain ⟨kl, f, hk, hl, hf, hcd, sp⟩ := meth_sp cx (Q := fun v H' => ∃ c, v = .bl c ∧ Q (.bl c) H') hm (.cons ra .nil) S e3 (fun v' H' w' E' S' r' => by
          cases r'
          exact ⟨_, rfl, k _ H' w' E' S' (.bl _)⟩)
        have hs := spc_of cx hk hl
        rw [cx.gok.nm.bool] at hs
        exact call_boolOwn hs (cx.fok j f hf hcd) (room2 cx) (cx.bnd j f hf (cx.cold j f hf hcd)) pins s σ H _ us Q I rx ⟨a, dx, ga, rfl, ha, sp⟩
      | _ => cases e4
  | _ => cases e
theorem bl_list : CallR X (.type "list") (rC (bltD P.tab call .list) A X) := by
  refine callr_mono call_list_of fun xs H Q h => ?_
  obtain ⟨x, rfl, w, d1, st, d, st', S, r1, e, k⟩ := h
  cases d1 with
  | lst ys =>
    cases e
    obtain ⟨a, vs, rfl, hq, rr⟩ := r1.list S
    exact ⟨a, vs, rfl, .inl hq, fun l hl => new_lst S rr hl k⟩
  | tup ys =>
    cases e
    obtain ⟨a, vs, rfl, hq, rr⟩ := r1.tupl S
    exact ⟨a, vs, rfl, .inr hq, fun l hl => new_lst S rr hl k⟩
  | _ => cases e
theorem bl_tuple : CallR X (.type "tuple") (rC (bltD P.tab call .tuple) A X) := by
  refine callr_mono call_tuple_of fun xs H Q h => ?_
  obtain ⟨x, rfl, w, d1, st, d, st', S, r1, e, k⟩ := h
  cases d1 with
  | lst ys =>
    cases e
    obtain ⟨a, vs, rfl, hq, rr⟩ := r1.list S
    exact ⟨a, vs, rfl, .inl ⟨hq, fun l hl => new_tup S rr hl k⟩⟩
  | tup ys =>
    cases e
    have r2 := rd_of r1 (by intro _ z; cases z)
    obtain ⟨a, vs, rfl, hq, rr⟩ := r1.tupl S
    exact ⟨a, vs, rfl, .inr ⟨hq, k _ H w (.refl _ _ _) S r2⟩⟩
  | ref n =>
    unfold bltD at e
    dsimp only at e
    cases hg : getL st n with
    | none => rw [hg] at e; cases e
    | some ys =>
      rw [hg] at e
      cases e
      obtain ⟨vs, rfl, _, hq, rr⟩ := cellL S hg r1
      exact ⟨_, vs, rfl, .inl ⟨SqL.of hq, fun l hl => new_tup S rr hl k⟩⟩
  | _ => cases e
theorem sum_of {K : PySem.W.Frag} {w : Wd} : ∀ {xs : List D} {vs : List V} {a n : Int}, RDs A K w xs vs → sumD xs a = some n → ∃ ns : List Int, vs = ns.map V.int ∧ a + ns.sum = n
  | _, _, a, n, .nil, e => ⟨[], rfl, by cases e; simp⟩
  | _, _, a, n, .cons (d := d) h r, e => by
    cases d with
    | int i =>
      cases h
      obtain ⟨ns, rfl, h2⟩ := sum_of r (show sumD _ (a + i) = some n from e)
      exact ⟨i :: ns, rfl, by rw [List.sum_cons]; omega⟩
    | _ => cases e
theorem bl_sum (cx : Cxt P A call fd lv N sc X) : CallR X (.builtin "sum") (rC (bltD P.tab call .sum) A X) := by
  refine callr_mono (cr_sum cx.calm) fun xs H Q h => ?_
  obtain ⟨x, rfl, w, d1, st, d, st', S, r1, e, k⟩ := h
  cases d1 with
  | lst ys =>
    unfold bltD at e
    dsimp only at e
    obtain ⟨a, vs, rfl, hq, rr⟩ := r1.list S
    cases hs : sumD ys 0 with
    | none => rw [hs] at e; cases e
    | some n =>
      rw [hs] at e
      cases e
      obtain ⟨ns, rfl, h2⟩ := sum_of rr hs
      refine ⟨a, ns, rfl, hq, ?_⟩
      have : ns.sum = n := by omega
      rw [this]
      exact k _ H w (.refl _ _ _) S (.int _)
  | _ => cases e
theorem bools_of {K : PySem.W.Frag} {w : Wd} : ∀ {xs : List D} {vs : List V} {bs : List Bool}, RDs A K w xs vs → boolsD xs = some bs → vs = bs.map V.bl
  | _, _, _, .nil, e => by cases e; rfl
  | _, _, bs, .cons (d := d) (ds := ds) h r, e => by
    cases d with
    | bl b =>
      cases h
      cases q : boolsD ds with
      | none => simp [boolsD, q] at e
      | some cs =>
        simp [boolsD, q] at e
        subst e
        rw [bools_of r q]
        rfl
    | _ => cases e
theorem bl_all (cx : Cxt P A call fd lv N sc X) : CallR X (.builtin "all") (rC (bltD P.tab call .all) A X) := by
  refine callr_mono (cr_all cx.calm) fun xs H Q h => ?_
  obtain ⟨x, rfl, w, d1, st, d, st', S, r1, e, k⟩ := h
  cases d1 with
  | lst ys =>
    unfold bltD at e
    dsimp only at e
    obtain ⟨a, vs, rfl, hq, rr⟩ := r1.list S
    cases hs : boolsD ys with
    | none => rw [hs] at e; cases e
    | some bs =>
      rw [hs] at e
      cases e
      rw [bools_of rr hs] at hq
      exact ⟨a, bs, rfl, hq, k _ H w (.refl _ _ _) S (.bl _)⟩
  | _ => cases e
theorem bl_any (cx : Cxt P A call fd lv N sc X) : CallR X (.builtin "any") (rC (bltD P.tab call .any) A X) := by
  refine callr_mono (cr_any cx.calm) fun xs H Q h => ?_
  obtain ⟨x, rfl, w, d1, st, d, st', S, r1, e, k⟩ := h
  cases d1 with
  | lst ys =>
    unfold bltD at e
    dsimp only at e
    obtain ⟨a, vs, rfl, hq, rr⟩ := r1.list S
    cases hs : boolsD ys with
    | none => rw [hs] at e; cases e
    | some bs =>
      rw [hs] at e
      cases e
      rw [bools_of rr hs] at hq
      exact ⟨a, bs, rfl, hq, k _ H w (.refl _ _ _) S (.bl _)⟩
  | _ => cases e

theorem rds_strs {K : PySem.W.Frag} {w : Wd} : ∀ {ss : List PySem.Str} {vs : List V}, RDs A K w (ss.map .str) vs → vs = ss.map V.str
  | [], _, .nil => rfl
  | s :: r, _, .cons (.str _) q => by rw [rds_strs q]; rfl
theorem rds_str {K : PySem.W.Frag} {w : Wd} : ∀ ss : List PySem.Str, RDs A K w (ss.map .str) (ss.map V.str)
  | [] => .nil
  | s :: r => .cons (.str s) (rds_str r)
theorem rds_ints {K : PySem.W.Frag} {w : Wd} : ∀ {ss : List Int} {vs : List V}, RDs A K w (ss.map .int) vs → vs = ss.map V.int
  | [], _, .nil => rfl
  | s :: r, _, .cons (.int _) q => by rw [rds_ints q]; rfl
theorem rds_int {K : PySem.W.Frag} {w : Wd} : ∀ ss : List Int, RDs A K w (ss.map .int) (ss.map V.int)
  | [] => .nil
  | s :: r => .cons (.int s) (rds_int r)
theorem kys_map : ∀ {xs : List D} {ks : List Ky}, kysD xs = some ks → xs = ks.map kyV
  | [], _, h => by cases h; rfl
  | d :: r, ks, h => by
    unfold kysD at h
    cases hk : kyD d with
    | none => rw [hk] at h; cases h
    | some k =>
      cases hr : kysD r with
      | none => rw [hk, hr] at h; cases h
      | some l =>
        rw [hk, hr] at h
        cases h
        rw [List.map_cons, ← kys_map hr]
        congr 1
        cases d <;> simp [kyD] at hk <;> subst hk <;> rfl
theorem tks_map : ∀ {xs : List D} {ks : List (List Ky)}, tksD xs = some ks → xs = ks.map tkV
  | [], _, h => by cases h; rfl
  | d :: r, ks, h => by
    unfold tksD at h
    cases hk : tkD d with
    | none => rw [hk] at h; cases h
    | some k =>
      cases hr : tksD r with
      | none => rw [hk, hr] at h; cases h
      | some l =>
        rw [hk, hr] at h
        cases h
        rw [List.map_cons, ← tks_map hr]
        congr 1
        cases d <;> simp [tkD] at hk
        rw [tkV, ← kys_map hk]
theorem rds_kys {K : PySem.W.Frag} {w : Wd} : ∀ {ks : List Ky} {vs : List V}, RDs A K w (ks.map kyV) vs → vs = ks.map kV
  | [], _, .nil => rfl
  | .inl i :: r, _, .cons (.int _) q => by rw [rds_kys q]; rfl
  | .inr i :: r, _, .cons (.str _) q => by rw [rds_kys q]; rfl
theorem rds_tks {K : PySem.W.Frag} {w : Wd} : ∀ {ks : List (List Ky)} {vs : List V}, RDs A K w (ks.map tkV) vs → Paired (fun x k => RD A K w (tkV k) x) vs ks
  | [], _, .nil => .nil
  | k :: r, _, .cons h q => .cons h (rds_tks q)
theorem tks_rds {K : PySem.W.Frag} {w : Wd} : ∀ {ks : List (List Ky)} {vs : List V}, Paired (fun x k => RD A K w (tkV k) x) vs ks → RDs A K w (ks.map tkV) vs
  | [], _, .nil => .nil
  | k :: r, _, .cons h q => .cons h (tks_rds q)
theorem bl_sorted : CallR X (.builtin "sorted") (rC (bltD P.tab call .sorted) A X) := by
  intro pins s σ H xs us Q I rr0 h
  obtain ⟨x, rfl, w, d1, st, d, st', S, r1, e, k⟩ := h
  cases d1 with
  | lst ys =>
    unfold bltD at e
    dsimp only at e
    cases hs : strsD ys with
    | none =>
      rw [hs] at e
      dsimp only at e
      cases ht : tksD ys with
      | none => rw [ht] at e; cases e
      | some ks =>
        rw [ht] at e
        dsimp only at e
        split at e
        · rename_i hc
          rw [Bool.and_eq_true] at hc
          cases e
          obtain ⟨a, vs, rfl, hq, rr⟩ := r1.list S
          obtain rfl := tks_map ht
          refine cr_sortedK pins s σ H _ us Q I rr0 ⟨a, vs, ks, fun x k => RD A X.K w (tkV k) x, rfl, hq, fun x k hk => ?_, rds_tks rr, hc.2, fun zs p hp hn => new_lst S (tks_rds hp) hn k⟩
          unfold tkV at hk
          obtain ⟨t, us', rfl, hq', rr'⟩ := hk.tupl S
          rw [rds_kys rr'] at hq'
          exact ⟨t, rfl, hq'⟩
        · cases e
    | some ss =>
      rw [hs] at e
      dsimp only at e
      split at e
      · rename_i h64
        cases e
        obtain ⟨a, vs, rfl, hq, rr⟩ := r1.list S
        obtain rfl := strsD_map hs
        obtain rfl := rds_strs rr
        refine cr_sortedS pins s σ H _ us Q I rr0 ⟨a, ss, rfl, hq, h64, fun zs p hp hso hn => ?_⟩
        obtain rfl := sortS_is hp hso
        exact new_lst S (rds_str _) hn k
      · cases e
  | tup ys =>
    unfold bltD at e
    dsimp only at e
    cases hs : strsD ys with
    | none => rw [hs] at e; cases e
    | some ss =>
      rw [hs] at e
      dsimp only at e
      split at e
      · rename_i h64
        cases e
        obtain ⟨a, vs, rfl, hq, rr⟩ := r1.tupl S
        obtain rfl := strsD_map hs
        obtain rfl := rds_strs rr
        refine cr_sortedT pins s σ H _ us Q I rr0 ⟨a, ss, rfl, hq, h64, fun zs p hp hso hn => ?_⟩
        obtain rfl := sortS_is hp hso
        exact new_lst S (rds_str _) hn k
      · cases e
  | _ => cases e
/-! ### items, slices -/
theorem at_of' {K : PySem.W.Frag} {w : Wd} {xs : List D} {vs : List V} {i : Int} {d : D} (r : RDs A K w xs vs) (h : atD xs i = some d) : ∃ v, atI vs i = some v ∧ RD A K w d v := by
  have hl := r.length
  unfold atD at h
  unfold atI ixN
  split at h
  · rename_i h0
    obtain ⟨v, e, q⟩ := r.get h
    have hlt := (List.getElem?_eq_some_iff.mp h).1
    refine ⟨v, ?_, q⟩
    rw [if_pos h0, if_pos (by omega)]
    exact e
  · rename_i h0
    split at h
    · rename_i h1
      obtain ⟨v, e, q⟩ := r.get h
      refine ⟨v, ?_, q⟩
      rw [if_neg h0, if_pos (by omega)]
      rw [hl] at e
      exact e
    · cases h
theorem ixr_sem : IxR X (rSem A X (fun x y st => idxD x y st)) := by
  intro value slice pins s σ H x y v u Q I rx ry h hs
  obtain ⟨w, d1, d2, st, d, st', S, r1, r2, e, k⟩ := h
  cases d1 with
  | lst xs =>
    cases d2 with
    | int i =>
      obtain rfl := rx_int r2
      obtain ⟨a, vs, rfl, hq, rr⟩ := r1.list S
      unfold idxD at e
      dsimp only at e
      cases ha : atD xs i with
      | none => rw [ha] at e; cases e
      | some d' =>
        rw [ha] at e
        cases e
        obtain ⟨z, h1, h2⟩ := at_of' rr ha
        exact ix_list value slice pins s σ H _ _ v u Q I rx ry ⟨a, vs, i, z, rfl, rfl, hq, h1, k _ H w (.refl _ _ _) S h2⟩ hs
    | _ => cases e
  | tup xs =>
    cases d2 with
    | int i =>
      obtain rfl := rx_int r2
      obtain ⟨a, vs, rfl, hq, rr⟩ := r1.tupl S
      unfold idxD at e
      dsimp only at e
      cases ha : atD xs i with
      | none => rw [ha] at e; cases e
      | some d' =>
        rw [ha] at e
        cases e
        obtain ⟨z, h1, h2⟩ := at_of' rr ha
        exact ix_tup value slice pins s σ H _ _ v u Q I rx ry ⟨a, vs, i, z, rfl, rfl, hq, h1, k _ H w (.refl _ _ _) S h2⟩ hs
    | _ => cases e
  | ref n =>
    cases d2 with
    | int i =>
      obtain rfl := rx_int r2
      unfold idxD at e
      dsimp only at e
      cases hg : getL st n with
      | none => rw [hg] at e; cases e
      | some ys =>
        rw [hg] at e
        dsimp only at e
        obtain ⟨vs, rfl, _, hq, rr⟩ := cellL S hg r1
        cases ha : atD ys i with
        | none => rw [ha] at e; cases e
        | some d' =>
          rw [ha] at e
          cases e
          obtain ⟨z, h1, h2⟩ := at_of' rr ha
          exact ix_list value slice pins s σ H _ _ v u Q I rx ry ⟨_, vs, i, z, rfl, rfl, SqL.of hq, h1, k _ H w (.refl _ _ _) S h2⟩ hs
    | _ => cases e
  | _ => cases d2 <;> cases e
theorem cutAt_eq (n d : Nat) (o : Option Int) : cutAt n d o = HT.sIx n d o := by
  cases o <;> rfl
theorem cut_of {K : PySem.W.Frag} {w : Wd} {xs : List D} {vs : List V} (lo hi : Option Int) (r : RDs A K w xs vs) : RDs A K w (cutD xs lo hi) (cutV vs lo hi) := by
  unfold cutD cutV
  rw [cutAt_eq, cutAt_eq, r.length]
  exact (r.drop _).take _
end
end Eng

namespace Eng
open PySem PySem.Spec PyProof.Rows L2
section
variable {P : Prg} {A : Ad} {call : Nat → List D → Store → Res D} {fd : Nat → FuncData} {lv : Nat} {N : List PySem.Str} {sc : Scope} {X : Cx}

theorem pv_rd {c : C} {w : Wd} {H : Hp} {d : D} {v : V} (hc : c.isBor = false) (r : RD A X.K w d v) : PV A X.K c w H d v := by
  unfold PV
  rw [if_neg (by rw [hc]; exact Bool.false_ne_true)]
  exact r
/-! ### names, constants -/
theorem name_of {i : Nat} {x : PySem.Str} (h : nameB N sc i x = true) : N[i]? = some x ∧ Vis sc x ∧ (x == ("__debug__" : PySem.Str)) = false ∧ (x == ("__classdict__" : PySem.Str)) = false := by
  unfold nameB at h
  simp only [Bool.and_eq_true, decide_eq_true_eq, Bool.not_eq_true'] at h
  refine ⟨h.1.1.1, ?_, h.1.2, h.2⟩
  have q := h.1.1.2
  unfold visB at q
  unfold Vis
  split at q <;> first | exact .inl (by assumption) | exact .inr (.inl (by assumption)) | exact .inr (.inr (by assumption)) | cases q
theorem gl_of (cx : Cxt P A call fd lv N sc X) {x : PySem.Str} (h : glB sc x = true) : Gl X x ∧ (x == ("__debug__" : PySem.Str)) = false ∧ x ≠ ("__name__" : PySem.Str) := by
  unfold glB at h
  simp only [Bool.and_eq_true, decide_eq_true_eq, Bool.not_eq_true'] at h
  refine ⟨?_, h.1.2, h.2⟩
  unfold Gl
  show X.env.scope.names.lookup x = some .globalImplicit
  rw [cx.sc]
  exact h.1.1
theorem snd_var (cx : Cxt P A call fd lv N sc X) {i : Nat} {x : PySem.Str} {pos : Pos} (h : nameB N sc i x = true) : PE X (.Name x pos) (tE P A call X (.var i)) := by
  obtain ⟨h1, h2, h3, h4⟩ := name_of h
  refine PE.mono (pe_var (by rw [cx.N]; exact h1) (by rw [cx.sc]; exact h2) h3 h4) fun σ H Q t => ?_
  obtain ⟨w, ρ, st, H0, ex, d, st', S, R, e, k⟩ := t
  simp only [ev] at e
  cases q : slotV ρ i with
  | none => rw [q] at e; cases e
  | some d' =>
    rw [q] at e
    cases e
    unfold slotV at q
    split at q
    · rename_i d2 hs
      cases q
      obtain ⟨v, hv, hr⟩ := R.sl i _ hs
      exact ⟨v, hv, k v H w (.refl _ _ _) S (pv_rd rfl hr)⟩
    · cases q
theorem snd_bor (cx : Cxt P A call fd lv N sc X) {i : Nat} {x : PySem.Str} {pos : Pos} (h : nameB N sc i x = true) : PE X (.Name x pos) (tE P A call X (.bor i)) := by
  obtain ⟨h1, h2, h3, h4⟩ := name_of h
  refine PE.mono (pe_var (by rw [cx.N]; exact h1) (by rw [cx.sc]; exact h2) h3 h4) fun σ H Q t => ?_
  obtain ⟨w, ρ, st, H0, ex, d, st', S, R, e, k⟩ := t
  simp only [ev] at e
  cases q : slotO ρ i with
  | none => rw [q] at e; cases e
  | some d' =>
    rw [q] at e
    cases e
    unfold slotO at q
    split at q
    · rename_i d2 hs
      cases q
      obtain ⟨v, hv, a, vs, rfl, h5, h6, h7, _⟩ := R.sl i _ hs
      refine ⟨_, hv, k _ H w (.refl _ _ _) S ?_⟩
      unfold PV
      rw [if_pos (show C.isBor (.bor i) = true from rfl)]
      exact .inr ⟨_, a, vs, rfl, rfl, h5, h6, h7⟩
    · cases q
theorem snd_const {c : C} {v : V} {d : D} {e : Expr} (hc : c.isBor = false) (he : ∀ ρ st, ev P.tab call c ρ st = .ok d st) (r : ∀ w, RD A X.K w d v) (h : PE X e (tC v)) : PE X e (tE P A call X c) := by
  refine PE.mono h fun σ H Q t => ?_
  obtain ⟨w, ρ, st, H0, ex, d', st', S, R, e, k⟩ := t
  rw [he] at e
  cases e
  exact k v H w (.refl _ _ _) S (pv_rd hc (r w))
/-! ### displays -/
theorem snd_nil : PA X [] (tAs P A call X .nil) := by
  refine PA.mono pa_nil fun σ H Q t => ?_
  obtain ⟨w, ρ, st, H0, ex, ds, st', S, R, e, k⟩ := t
  simp only [evs] at e
  cases e
  exact k [] H w (.refl _ _ _) S .nil
theorem snd_cons {c : C} {r : Cs} {e : Expr} {es : List Expr} (hb : (!c.isBor) = true) (hs : shape e = true) (h1 : PE X e (tE P A call X c)) (h2 : PA X es (tAs P A call X r)) : PA X (e :: es) (tAs P A call X (.cons c r)) := by
  refine PA.mono (pa_cons h1 h2 (star_of es X.env hs)) fun σ H Q t => ?_
  obtain ⟨w, ρ, st, H0, ex, ds, st', S, R, e, k⟩ := t
  simp only [evs] at e
  obtain ⟨x, st1, e1, e⟩ := Res.bind_is e
  obtain ⟨xs, st2, e2, e⟩ := Res.bind_is e
  cases e
  refine ⟨w, ρ, st, H0, ex, x, st1, S, R, e1, fun v H1 w1 E1 S1 p1 => ⟨w1, ρ, st1, H0, ex, xs, st', S1, R.ext E1, e2, fun vs H2 w2 E2 S2 p2 => k (v :: vs) H2 w2 (E1.trans E2) S2 (.cons ((p1.rd hb).mono E2.le) p2)⟩⟩
theorem small_of {w : Wd} {H : Hp} {xs : List D} {vs : List V} (r : RDs A X.K w xs vs) (h : xs.length ≤ 1000000) : vs.length ≤ sizeLine := by
  rw [← r.length, sizeLine_eq]
  omega
def csLen : Cs → Nat
  | .nil => 0
  | .cons _ r => csLen r + 1
theorem evs_len : ∀ {as : Cs} {ρ : Env} {st st' : Store} {ds : List D}, evs P.tab call as ρ st = .ok ds st' → ds.length = csLen as
  | .nil, _, _, _, _, e => by simp only [evs] at e; cases e; rfl
  | .cons c r, _, _, _, _, e => by
    simp only [evs] at e
    obtain ⟨x, st1, e1, e⟩ := Res.bind_is e
    obtain ⟨xs, st2, e2, e⟩ := Res.bind_is e
    cases e
    simp only [csLen, List.length_cons, evs_len e2]
theorem chk_len {N' : List PySem.Str} : ∀ {as : Cs} {es : List Expr}, chkEs P N' sc as es = true → es.length = csLen as
  | .nil, [], _ => rfl
  | .nil, _ :: _, h => by simp [chkEs] at h
  | .cons _ _, [], h => by simp [chkEs] at h
  | .cons c r, e :: es, h => by
    simp only [chkEs, Bool.and_eq_true] at h
    simp only [csLen, List.length_cons, chk_len h.2]
theorem snd_tup {as : Cs} {es : List Expr} {kk : Nat} {pos : Pos} (hl : csLen as ≤ 1000000) (h : PA X es (tAs P A call X as)) : PE X (.Tuple es kk pos) (tE P A call X (.tup as)) := by
  refine PE.mono (pe_tup h) fun σ H Q t => ?_
  obtain ⟨w, ρ, st, H0, ex, d, st', S, R, e, k⟩ := t
  simp only [ev] at e
  obtain ⟨xs, st1, e1, e⟩ := Res.bind_is e
  cases e
  refine ⟨w, ρ, st, H0, ex, xs, st', S, R, e1, fun vs H1 w1 E1 S1 p1 => ⟨small_of (H := H1) p1 (by rw [evs_len e1]; exact hl), fun p hp => ?_⟩⟩
  exact new_tup S1 p1 hp fun v H2 w2 E2 S2 r2 => k v H2 w2 (E1.trans E2) S2 (pv_rd rfl r2)
theorem snd_lst {as : Cs} {es : List Expr} {pos : Pos} (hl : csLen as ≤ 1000000) (h : PA X es (tAs P A call X as)) : PE X (.List es pos) (tE P A call X (.lst as)) := by
  refine PE.mono (pe_lst h) fun σ H Q t => ?_
  obtain ⟨w, ρ, st, H0, ex, d, st', S, R, e, k⟩ := t
  simp only [ev] at e
  obtain ⟨xs, st1, e1, e⟩ := Res.bind_is e
  cases e
  refine ⟨w, ρ, st, H0, ex, xs, st', S, R, e1, fun vs H1 w1 E1 S1 p1 => ⟨small_of (H := H1) p1 (by rw [evs_len e1]; exact hl), fun p hp => ?_⟩⟩
  exact new_lst S1 p1 hp fun v H2 w2 E2 S2 r2 => k v H2 w2 (E1.trans E2) S2 (pv_rd rfl r2)
/-! ### operators, items -/
theorem snd_bin (cx : Cxt P A call fd lv N sc X) {op : Bo} {a b : C} {o : Operator} {ea eb : Expr} {pos : Pos} (ho : boIs op o = true) (ha : PE X ea (tE P A call X a)) (hb : PE X eb (tE P A call X b)) : PE X (.BinOp ea o eb pos) (tE P A call X (.bin op a b)) := by
  rw [boIs_eq ho]
  exact PE.mono (pe_op (opr_bin cx op) ha hb) (two_step rfl fun ρ st => by simp only [ev])
theorem snd_neg (cx : Cxt P A call fd lv N sc X) {a : C} {ea : Expr} {pos : Pos} (ha : PE X ea (tE P A call X a)) : PE X (.UnaryOp .USub ea pos) (tE P A call X (.neg a)) :=
  PE.mono (pe_un (unr_neg cx) ha) (one_step rfl fun ρ st => by simp only [ev])
theorem snd_cmp (cx : Cxt P A call fd lv N sc X) {op : Co} {a b : C} {o : CmpOp} {ea eb : Expr} {pos : Pos} (ho : coIs op o = true) (hs : shape eb = true) (ha : PE X ea (tE P A call X a)) (hb : PE X eb (tE P A call X b)) : PE X (.Compare ea [o] [eb] pos) (tE P A call X (.cmp op a b)) := by
  rw [coIs_eq ho]
  exact PE.mono (pe_cmpR (opr_cmp cx op) ha hb (mark_of _ hs)) (two_step rfl fun ρ st => by simp only [ev])
theorem snd_idx {a b : C} {ea eb : Expr} {pos : Pos} (hs : shape eb = true) (ha : PE X ea (tE P A call X a)) (hb : PE X eb (tE P A call X b)) : PE X (.Subscript ea eb pos) (tE P A call X (.idx a b)) :=
  PE.mono (pe_ix ixr_sem ha hb (ix_of hs)) (two_step rfl fun ρ st => by simp only [ev])
theorem cmp_bl {op : Co} {x y d : D} {st st' : Store} (e : cmpD P.tab call op x y st = .ok d st') : ∃ b, d = .bl b := by
  unfold cmpD at e
  cases op <;> dsimp only at e
  · obtain ⟨b, st1, e1, e2⟩ := Res.bind_is e
    cases e2
    exact ⟨_, rfl⟩
  · obtain ⟨b, st1, e1, e2⟩ := Res.bind_is e
    cases e2
    exact ⟨_, rfl⟩
  all_goals (try unfold inD at e) <;> (try unfold ninD at e)
  all_goals
    repeat' (split at e)
    all_goals first | cases e; exact ⟨_, rfl⟩ | cases e
theorem snd_chain (cx : Cxt P A call fd lv N sc X) {o1 o2 : Co} {a b c : C} {p1 p2 : CmpOp} {ea eb ec : Expr} {pos : Pos} (h1 : coIs o1 p1 = true) (h2 : coIs o2 p2 = true) (hs : shape ec = true)
    (ha : PE X ea (tE P A call X a)) (hb : PE X eb (tE P A call X b)) (hc : PE X ec (tE P A call X c)) : PE X (.Compare ea [p1, p2] [eb, ec] pos) (tE P A call X (.chain o1 o2 a b c)) := by
  rw [coIs_eq h1, coIs_eq h2]
  refine PE.mono (pe_chain (opr_cmp cx o1) (opr_cmp cx o2) ha hb hc (mark_of _ hs)) fun σ H Q t => ?_
  obtain ⟨w, ρ, st, H0, ex, d, st', S, R, e, k⟩ := t
  simp only [ev] at e
  obtain ⟨x, st1, e1, e⟩ := Res.bind_is e
  obtain ⟨y, st2, e2, e⟩ := Res.bind_is e
  obtain ⟨r, st3, e3, e⟩ := Res.bind_is e
  refine ⟨w, ρ, st, H0, ex, x, st1, S, R, e1, fun v H1 w1 E1 S1 q1 => ⟨w1, ρ, st1, H0, ex, y, st2, S1, R.ext E1, e2, fun u H2 w2 E2 S2 q2 => ?_⟩⟩
  refine ⟨w2, x, y, st2, r, st3, S2, q1.rx.ext E2, q2.rx, e3, fun z H3 w3 E3 S3 q3 => ?_⟩
  obtain ⟨b, rfl⟩ := cmp_bl e3
  cases q3
  refine ⟨b, rfl, ?_⟩
  cases b with
  | true =>
    refine iteT ?_
    dsimp only at e
    obtain ⟨z, st4, e4, e⟩ := Res.bind_is e
    refine ⟨w3, ρ, st3, H0, ex, z, st4, S3, (R.ext E1).ext (E2.trans E3), e4, fun v4 H4 w4 E4 S4 q4 => ⟨w4, y, z, st4, d, st', S4, (q2.rx.ext E3).ext E4, q4.rx, e, fun v5 H5 w5 E5 S5 q5 => ?_⟩⟩
    exact k v5 H5 w5 (E1.trans (E2.trans (E3.trans (E4.trans E5)))) S5 (pv_rd rfl q5)
  | false =>
    refine iteF ?_
    cases e
    exact k _ H3 w3 (E1.trans (E2.trans E3)) S3 (pv_rd rfl (.bl _))
theorem snd_not {a : C} {ea : Expr} {pos : Pos} (ha : PE X ea (tE P A call X a)) (hb : (!a.isBor) = true) : PE X (.UnaryOp .Not ea pos) (tE P A call X (.not a)) := by
  refine PE.mono (pe_not ha) fun σ H Q t => ?_
  obtain ⟨w, ρ, st, H0, ex, d, st', S, R, e, k⟩ := t
  simp only [ev] at e
  obtain ⟨x, st1, e1, e⟩ := Res.bind_is e
  refine ⟨w, ρ, st, H0, ex, x, st1, S, R, e1, fun v H1 w1 E1 S1 q1 => ?_⟩
  cases x with
  | bl b =>
    cases e
    have q := q1.rd hb
    cases q
    exact ⟨b, rfl, k _ H1 w1 E1 S1 (pv_rd rfl (.bl _))⟩
  | _ => cases e
/-! ### slices -/
def tOpt (P : Prg) (A : Ad) (call : Nat → List D → Store → Res D) (X : Cx) (c : C) : TO := fun σ H Q => ∃ w ρ st H0 ex d st' o, SR A X.K w st H ∧ RS A X.K H0 ex w ρ σ H ∧ ev P.tab call c ρ st = .ok d st' ∧ bndD c.isNon d = some o ∧ ∀ H' w', Ext no w H w' H' → SR A X.K w' st' H' → Q o H'
theorem PO.mono {e : Option Expr} {t t' : TO} (h : PO X e t) (m : ∀ σ H Q, t' σ H Q → t σ H Q) : PO X e t' := ⟨fun pins s σ H Q I q => h.run pins s σ H Q I (m σ H Q q)⟩
theorem snd_none : PO X none (tOpt P A call X .non) := by
  refine PO.mono po_none fun σ H Q t => ?_
  obtain ⟨w, ρ, st, H0, ex, d, st', o, S, R, e, ho, k⟩ := t
  simp only [ev] at e
  cases e
  cases ho
  exact k H w (.refl _ _ _) S
theorem snd_some {c : C} {e : Expr} (hb : (!c.isBor) = true) (hn : c.isNon = false) (h : PE X e (tE P A call X c)) : PO X (some e) (tOpt P A call X c) := by
  refine PO.mono (po_some h) fun σ H Q t => ?_
  obtain ⟨w, ρ, st, H0, ex, d, st', o, S, R, e, ho, k⟩ := t
  refine ⟨w, ρ, st, H0, ex, d, st', S, R, e, fun v H1 w1 E1 S1 q1 => ?_⟩
  have q := q1.rd hb
  unfold bndD at ho
  rw [hn, if_neg Bool.false_ne_true] at ho
  cases d with
  | int i =>
    cases q
    cases ho
    exact ⟨i, rfl, k H1 w1 E1 S1⟩
  | _ => cases ho
theorem sl_both : SlR X (fun x lo hi H Q => rSlL X.K x lo hi H Q ∨ rSlA X.K x lo hi H Q) := SlR.or sl_list sl_tupA
theorem snd_sl {a lo hi : C} {ea : Expr} {l h : Option Expr} {p2 pos : Pos} (ha : PE X ea (tE P A call X a)) (hl : PO X l (tOpt P A call X lo)) (hh : PO X h (tOpt P A call X hi)) : PE X (.Subscript ea (.Slice l h none p2) pos) (tE P A call X (.sl a lo hi)) := by
  refine PE.mono (pe_slice sl_both ha hl hh) fun σ H Q t => ?_
  obtain ⟨w, ρ, st, H0, ex, d, st', S, R, e, k⟩ := t
  simp only [ev] at e
  obtain ⟨x, st1, e1, e⟩ := Res.bind_is e
  obtain ⟨y, st2, e2, e⟩ := Res.bind_is e
  obtain ⟨z, st3, e3, e⟩ := Res.bind_is e
  unfold slD at e
  cases x with
  | lst xs =>
    cases h1 : bndD lo.isNon y with
    | none => rw [h1] at e; cases e
    | some o1 =>
      cases h2 : bndD hi.isNon z with
      | none => rw [h1, h2] at e; cases e
      | some o2 =>
        rw [h1, h2] at e
        cases e
        refine ⟨w, ρ, st, H0, ex, _, st1, S, R, e1, fun v H1 w1 E1 S1 q1 => ⟨w1, ρ, st1, H0, ex, y, st2, o1, S1, R.ext E1, e2, h1, fun H2 w2 E2 S2 => ⟨w2, ρ, st2, H0, ex, z, st', o2, S2, (R.ext E1).ext E2, e3, h2, fun H3 w3 E3 S3 => ?_⟩⟩⟩
        obtain ⟨b, vs, rfl, hq, rr⟩ := ((q1.rx.ext E2).ext E3).list S3
        refine .inl ⟨b, vs, rfl, hq, fun p hp => ?_⟩
        exact new_lst S3 (cut_of o1 o2 rr) hp fun v H4 w4 E4 S4 r4 => k v H4 w4 (E1.trans (E2.trans (E3.trans E4))) S4 (pv_rd rfl r4)
  | tup xs =>
    cases h1 : bndD lo.isNon y with
    | none => rw [h1] at e; cases e
    | some o1 =>
      cases h2 : bndD hi.isNon z with
      | none => rw [h1, h2] at e; cases e
      | some o2 =>
        rw [h1, h2] at e
        cases e
        refine ⟨w, ρ, st, H0, ex, _, st1, S, R, e1, fun v H1 w1 E1 S1 q1 => ⟨w1, ρ, st1, H0, ex, y, st2, o1, S1, R.ext E1, e2, h1, fun H2 w2 E2 S2 => ⟨w2, ρ, st2, H0, ex, z, st', o2, S2, (R.ext E1).ext E2, e3, h2, fun H3 w3 E3 S3 => ?_⟩⟩⟩
        have rx := (q1.rx.ext E2).ext E3
        obtain ⟨b, vs, rfl, hq, rr⟩ := rx.tupl S3
        refine .inr ⟨b, vs, rfl, hq, fun hz => ?_, fun hz p hp => ?_⟩
        · have ec : cutD xs o1 o2 = xs := by
            unfold cutD
            rw [cutAt_eq, cutAt_eq, rr.length, hz.1, hz.2, List.drop_zero, Nat.sub_zero, ← rr.length, List.take_length]
          refine k _ H3 w3 (E1.trans (E2.trans E3)) S3 (pv_rd rfl ?_)
          rw [ec]
          exact rd_of rx (fun _ z => nomatch z)
        · exact new_tup S3 (cut_of o1 o2 rr) hp fun v H4 w4 E4 S4 r4 => k v H4 w4 (E1.trans (E2.trans (E3.trans E4))) S4 (pv_rd rfl r4)
  | _ => cases e
end
end Eng

namespace Eng
open PySem PySem.Spec PyProof.Rows L2
section
variable {P : Prg} {A : Ad} {call : Nat → List D → Store → Res D} {fd : Nat → FuncData} {lv : Nat} {N : List PySem.Str} {sc : Scope} {X : Cx}

/-! ### calls -/
theorem call_step {j : Nat} {f : FnI} {as : Cs} {ds : List D} {dvs : List V} (cx : Cxt P A call fd lv N sc X) (hf : P.fns[j]? = some f) (hi : f.init = none) (hd : ∀ w, RDs A X.K w ds dvs) :
    ∀ σ H Q, tE P A call X (.call j as ds) σ H Q → tCall (spF A X.K call j f) dvs E0 (tAs P A call X as) σ H Q := by
  rintro σ H Q ⟨w, ρ, st, H0, ex, d, st', S, R, e, k⟩
  simp only [ev] at e
  obtain ⟨xs, st1, e1, e⟩ := Res.bind_is e
  refine ⟨w, ρ, st, H0, ex, xs, st1, S, R, e1, fun vs H1 w1 E1 S1 p1 => ?_⟩
  show spF A X.K call j f (vs ++ dvs) H1 Q E0
  have p2 : RDs A X.K w1 (xs ++ ds) (vs ++ dvs) := p1.append (hd w1)
  obtain ⟨f', hf', hc⟩ := cx.cok j (xs ++ ds) st1 d st' e
  rw [hf] at hf'
  cases hf'
  rcases hc with ⟨_, hlen⟩ | ⟨c', fs, h', _⟩
  · exact sp_of hi (by rw [← p2.length, hlen]) p2 S1 e fun v H2 w2 E2 S2 r2 => k v H2 w2 (E1.trans E2) S2 (pv_rd rfl r2)
  · rw [hi] at h'
    cases h'
theorem fn_of' {j : Nat} {x : PySem.Str} {n : Nat} {ds : List D} (h : fnB P j x n ds = true) : ∃ f, P.fns[j]? = some f ∧ f.star = false ∧ f.glob = some x ∧ f.init = none ∧ (ds = [] ∨ (f.dfl.length = ds.length ∧ fEqs f.dfl ds = true ∧ ds.all flat = true)) := by
  unfold fnB at h
  cases q : P.fns[j]? with
  | none => rw [q] at h; cases h
  | some f =>
    rw [q] at h
    simp only [Bool.and_eq_true, Bool.or_eq_true, decide_eq_true_eq, Bool.not_eq_true'] at h
    refine ⟨f, rfl, h.1.1.1.1, h.1.1.1.2, h.1.1.2, ?_⟩
    rcases h.2 with z | z
    · exact .inl (List.isEmpty_iff.mp z)
    · exact .inr ⟨z.1.1, z.1.2, z.2⟩
/-- what the call leaves to the defaults -/
theorem dfl_of (cx : Cxt P A call fd lv N sc X) {j : Nat} {f : FnI} {ds : List D} (hf : P.fns[j]? = some f) (hst : f.star = false) (h : ds = [] ∨ (f.dfl.length = ds.length ∧ fEqs f.dfl ds = true ∧ ds.all flat = true)) : ∃ us vs, (∀ w, RDs A X.K w ds vs) ∧ Vals vs us ∧ Binds X.K (fd j) f.ps us := by
  rcases h with rfl | ⟨h1, h2, h3⟩
  · exact ⟨[], [], fun _ => .nil, .nil, cx.bnd j f hf hst⟩
  · exact cx.bnF j f ds hf hst h2 h3 h1
theorem hot_of (cx : Cxt P A call fd lv N sc X) {j : Nat} {f : FnI} (hf : P.fns[j]? = some f) (h : hotOk P N j = true) : hotB f.N = false ∨ X.A.guards = some [] := by
  unfold hotOk at h
  rw [hf] at h
  dsimp only at h
  cases q : hotB f.N with
  | false => exact .inl rfl
  | true =>
    rw [q] at h
    exact .inr (cx.gd (by rw [cx.N]; exact h))
/-- a call of a plain def -/
theorem call_pos (cx : Cxt P A call fd lv N sc X) {j : Nat} {f : FnI} {x : PySem.Str} {p pos : Pos} {e : Expr} {es : List Expr} {t : TA} {us : List Value} {dvs : List V} (hf : P.fns[j]? = some f) (hh : hotOk P N j = true) (hdv : Vals dvs us) (hbi : Binds X.K (fd j) f.ps us) (g1 : Gl X x) (hm : X.mg x = some (.ref (A.fn j))) (g2 : (x == ("__debug__" : PySem.Str)) = false) (ha : PA X (e :: es) t)
    (h1 : starEach (e :: es) X.env = (false, eval e X.env) :: starEach es X.env) (h2 : (backTo pos (starEach es X.env)).any (·.1) = false) : PE X (.Call (.Name x p) (e :: es) [] pos) (tCall (spF A X.K call j f) dvs E0 t) := by
  rcases hot_of cx hf hh with q | q
  · exact pe_call (cx.fok j f hf q) (room0 cx) g1 hm (cx.gok.keep j f hf) hbi hdv pass0 ha g2 h1 h2
  · exact pe_callG (cx.fog j f hf) q (room0 cx) g1 hm (cx.gok.keep j f hf) hbi hdv pass0 ha g2 h1 h2
theorem call_zero (cx : Cxt P A call fd lv N sc X) {j : Nat} {f : FnI} {x : PySem.Str} {p pos : Pos} {us : List Value} {dvs : List V} (hf : P.fns[j]? = some f) (hh : hotOk P N j = true) (hdv : Vals dvs us) (hbi : Binds X.K (fd j) f.ps us) (g1 : Gl X x) (hm : X.mg x = some (.ref (A.fn j))) (g2 : (x == ("__debug__" : PySem.Str)) = false) : PE X (.Call (.Name x p) [] [] pos) (tCall (spF A X.K call j f) dvs E0 tNil) := by
  rcases hot_of cx hf hh with q | q
  · exact pe_call0 (cx.fok j f hf q) (room0 cx) g1 hm (cx.gok.keep j f hf) hbi hdv pass0 g2
  · exact pe_callG0 (cx.fog j f hf) q (room0 cx) g1 hm (cx.gok.keep j f hf) hbi hdv pass0 g2
theorem snd_call (cx : Cxt P A call fd lv N sc X) {j : Nat} {as : Cs} {ds : List D} {x : PySem.Str} {p pos : Pos} {es : List Expr} (hhot : hotOk P N j = true) (hg : glB sc x = true) (hfb : fnB P j x es.length ds = true) (hs : es.all shape = true) (ha : PA X es (tAs P A call X as)) (hc : chkEs P N sc as es = true) :
    PE X (.Call (.Name x p) es [] pos) (tE P A call X (.call j as ds)) := by
  obtain ⟨f, hf, hst, hgl, hi, hds⟩ := fn_of' hfb
  obtain ⟨us, dvs, hd, hdv, hbi⟩ := dfl_of cx hf hst hds
  obtain ⟨g1, g2, g3⟩ := gl_of cx hg
  have hm := cx.gok.gfn j f x hf hgl
  cases es with
  | nil =>
    cases as with
    | nil =>
      refine PE.mono (call_zero cx hf hhot hdv hbi g1 hm g2) fun σ H Q t => ?_
      obtain ⟨w, ρ, st, H0, ex, xs, st', S, R, e, k⟩ := call_step cx hf hi hd σ H Q t
      simp only [evs] at e
      cases e
      exact k [] H w (.refl _ _ _) S .nil
    | cons c r => simp [chkEs] at hc
  | cons e es =>
    rw [List.all_cons, Bool.and_eq_true] at hs
    exact PE.mono (call_pos cx hf hhot hdv hbi g1 hm g2 ha (star_of es X.env hs.1) (plain_of pos X.env es hs.2)) (call_step cx hf hi hd)
theorem snd_gco (cx : Cxt P A call fd lv N sc X) {k : Nat} {x : PySem.Str} {pos : Pos} {p : PySem.Str × D} (hg : glB sc x = true) (hk : P.con[k]? = some p) (hx : p.1 = x) : PE X (.Name x pos) (tE P A call X (.gco k)) := by
  obtain ⟨g1, g2, g3⟩ := gl_of cx hg
  obtain ⟨u, v, hm, rv, hr⟩ := cx.gok.con k p hk
  rw [hx] at hm
  refine snd_const (v := v) (d := p.2) rfl (fun ρ st => ?_) hr (pe_glob g1 hm rv (hd := g2))
  show (match P.tab.con[k]? with
    | some d => Res.ok d st
    | none => .bad) = _
  have e : P.tab.con[k]? = some p.2 := by
    show (P.con.map (·.2) ++ P.ccs.map (·.2.2))[k]? = _
    have hlt := (List.getElem?_eq_some_iff.mp hk).1
    rw [List.getElem?_append_left (by rw [List.length_map]; exact hlt), List.getElem?_map, hk]
    rfl
  rw [e]
/-- a constant of a class -/
theorem snd_cco (cx : Cxt P A call fd lv N sc X) {k : Nat} {x f : PySem.Str} {pos pos2 : Pos} (hg : glB sc x = true) (hk : ccB P k x f = true) : PE X (.Attribute (.Name x pos) f pos2) (tE P A call X (.gco k)) := by
  obtain ⟨g1, g2, g3⟩ := gl_of cx hg
  unfold ccB at hk
  rw [Bool.and_eq_true] at hk
  obtain ⟨h1, h2⟩ := hk
  have h1 : P.con.length ≤ k := of_decide_eq_true h1
  cases q : P.ccs[k - P.con.length]? with
  | none => rw [q] at h2; cases h2
  | some p =>
    rw [q] at h2
    dsimp only at h2
    rw [Bool.and_eq_true] at h2
    obtain ⟨h2, h3⟩ := h2
    cases q2 : P.cls[p.1]? with
    | none => rw [q2] at h3; cases h3
    | some kl =>
      rw [q2] at h3
      have hn : kl.name = x := of_decide_eq_true h3
      have hf : p.2.1 = f := of_decide_eq_true h2
      have hm := (cx.gok.cls p.1 kl q2).gl
      rw [hn] at hm
      obtain ⟨mc, u, v, r1, r2, hr⟩ := cx.gok.ccs _ p q
      rw [hf] at r2
      refine snd_const (v := v) (d := p.2.2) rfl (fun ρ st => ?_) hr ?_
      · show (match P.tab.con[k]? with
          | some d => Res.ok d st
          | none => .bad) = _
        have e : P.tab.con[k]? = some p.2.2 := by
          show (P.con.map (·.2) ++ P.ccs.map (·.2.2))[k]? = _
          rw [List.getElem?_append_right (by rw [List.length_map]; exact h1), List.length_map, List.getElem?_map, q]
          rfl
        rw [e]
      · refine PE.mono (ClX.pe_cval (pe_glob (v := .ref (A.cls p.1)) g1 hm rfl (hd := g2))) fun σ H Q h => ?_
        exact ⟨_, mc, v, u, rfl, r1, r2, h⟩
/-! ### new instances -/
theorem cl_of {c : Nat} {x : PySem.Str} {n : Nat} {ds : List D} (h : clB P c x n ds = true) : ∃ k f, P.cls[c]? = some k ∧ k.name = x ∧ P.fns[k.init]? = some f ∧ f.init = some c ∧ (ds = [] ∨ (f.dfl.length = ds.length ∧ fEqs f.dfl ds = true ∧ ds.all flat = true)) := by
  unfold clB at h
  cases q : P.cls[c]? with
  | none => rw [q] at h; cases h
  | some k =>
    rw [q] at h
    dsimp only at h
    rw [Bool.and_eq_true] at h
    cases q2 : P.fns[k.init]? with
    | none =>
      have h2 := h.2
      rw [q2] at h2
      cases h2
    | some f =>
      have h2 := h.2
      rw [q2] at h2
      simp only [Bool.and_eq_true, Bool.or_eq_true, decide_eq_true_eq] at h2
      refine ⟨k, f, rfl, of_decide_eq_true h.1, q2, h2.1.1, ?_⟩
      rcases h2.2 with z | z
      · exact .inl (List.isEmpty_iff.mp z)
      · exact .inr ⟨z.1.1.1.1, z.1.2, z.2⟩
theorem ext_made {w w' : Wd} {H1 H' : Hp} {st : Store} {x dx : Addr} {C : Addr} {o : HO} (S : SR A X.K w st H1) (hx : H1 x = none) (hd : H1 dx = none) (p : Priv w' x) (hx' : H' x = some o) (E : Ext (fun a => a = x) w (upd (upd H1 dx (.own x)) x (.ins C dx [])) w' H') : Ext no w H1 (w'.add x o) H' where
  le := E.le.trans (add_le p.1)
  fr := fun a u q n _ => by
    have n1 : a ≠ x := ne_of_none q hx
    have n2 : a ≠ dx := ne_of_none q hd
    exact E.fr a u (by rw [upd_ne n1, upd_ne n2]; exact q) n n1
  th := fun a u q => by
    have n1 : a ≠ x := ne_of_none q hx
    have n2 : a ≠ dx := ne_of_none q hd
    exact E.th a u (by rw [upd_ne n1, upd_ne n2]; exact q)
  nw := fun a u q => by
    have q : upd w'.G x o a = some u := q
    by_cases e : a = x
    · subst e
      exact .inr hx
    · rw [upd_ne e] at q
      rcases E.nw a u q with z | z
      · exact .inl z
      · rw [upd_ne e] at z
        by_cases e2 : a = dx
        · subst e2
          exact .inr hd
        · rw [upd_ne e2] at z
          exact .inr z
  mn := fun k h1 h2 => by
    have z := E.mn k h1 h2
    show H1 (w'.μ k) = none
    by_cases e : w'.μ k = x
    · rw [e]; exact hx
    · by_cases e2 : w'.μ k = dx
      · rw [e2]; exact hd
      · rw [upd_ne e, upd_ne e2] at z
        exact z
theorem make_step {c : Nat} {kl : ClsI} {f : FnI} {as : Cs} {ds : List D} {dvs : List V} (cx : Cxt P A call fd lv N sc X) (hk : P.cls[c]? = some kl) (hf : P.fns[kl.init]? = some f) (hi : f.init = some c) (hd : ∀ w, RDs A X.K w ds dvs) :
    ∀ σ H Q, tE P A call X (.make c as ds) σ H Q → tMake (A.cls c) (spF A X.K call kl.init f) dvs E0 (tAs P A call X as) σ H Q := by
  rintro σ H Q ⟨w, ρ, st, H0, ex, d, st', S, R, e, k⟩
  simp only [ev] at e
  obtain ⟨xs, st1, e1, e⟩ := Res.bind_is e
  rw [tab_cls, hk] at e
  have e : call kl.init (xs ++ ds) st1 = .ok d st' := e
  refine ⟨w, ρ, st, H0, ex, xs, st1, S, R, e1, fun vs H1 w1 E1 S1 p1 x dx hx hdx ne => ?_⟩
  obtain ⟨f', hf', hc⟩ := cx.cok kl.init (xs ++ ds) st1 d st' e
  rw [hf] at hf'
  cases hf'
  rcases hc with ⟨z, _⟩ | ⟨c', fs, h', rfl, hlen⟩
  · rw [hi] at z
    cases z
  · rw [hi] at h'
    cases h'
    unfold spF
    rw [hi]
    have rr := p1.append (hd w1)
    have hxd : upd H1 dx (.own x) x = none := by rw [upd_ne (Ne.symm ne)]; exact hx
    refine ⟨by rw [List.length_cons, ← rr.length, hlen], x, dx, vs ++ dvs, w1, xs ++ ds, st1, fs, st', rfl, upd_same, ⟨S1.g_none hx, S1.mu_ne hx⟩, rr, sr_new (sr_new S1 hdx) hxd, e, fun H2 w2 gs dx' E2 S2 hx2 r2 pr => ⟨rfl, ?_⟩⟩
    refine k (.ref x) H2 (w2.add x (.ins (A.cls c) dx' gs)) (E1.trans (ext_made S1 hx hdx pr hx2 E2)) (sr_frz S2 pr hx2) (pv_rd rfl ?_)
    exact .ins (show upd w2.G x _ x = _ from upd_same) (r2.mono (add_le pr.1))
theorem snd_make (cx : Cxt P A call fd lv N sc X) {c : Nat} {as : Cs} {ds : List D} {x : PySem.Str} {p pos : Pos} {es : List Expr} (hg : glB sc x = true) (hfb : clB P c x es.length ds = true) (hs : es.all shape = true) (ha : PA X es (tAs P A call X as)) (hc : chkEs P N sc as es = true) :
    PE X (.Call (.Name x p) es [] pos) (tE P A call X (.make c as ds)) := by
  obtain ⟨kl, f, hk, hn, hf, hi, hd⟩ := cl_of hfb
  obtain ⟨g1, g2, g3⟩ := gl_of cx hg
  have co := cx.gok.cls c kl hk
  have hm := co.gl
  rw [hn] at hm
  obtain ⟨us, dvs, hr, hv, hb⟩ : ∃ us dvs, (∀ w, RDs A X.K w ds dvs) ∧ Vals dvs us ∧ Binds X.K (fd kl.init) f.ps us := by
    rcases hd with rfl | ⟨h1, h2, h3⟩
    · exact ⟨[], [], fun _ => .nil, .nil, cx.bnd _ f hf (cx.cold _ f hf (cx.ini _ f hf (by rw [hi]; rfl)))⟩
    · exact cx.bnF kl.init f ds hf (cx.cold _ f hf (cx.ini _ f hf (by rw [hi]; rfl))) h2 h3 h1
  cases es with
  | nil =>
    cases as with
    | nil =>
      refine PE.mono (pe_make0 co.mkr (cx.fok _ f hf (cx.ini _ f hf (by rw [hi]; rfl))) (room1 cx) g1 hm hb hv pass0 g2) fun σ H Q t => ?_
      obtain ⟨w, ρ, st, H0, ex, ds, st', S, R, e, k⟩ := make_step cx hk hf hi hr σ H Q t
      simp only [evs] at e
      cases e
      exact k [] H w (.refl _ _ _) S .nil
    | cons c r => simp [chkEs] at hc
  | cons e es =>
    rw [List.all_cons, Bool.and_eq_true] at hs
    exact PE.mono (pe_make co.mkr (cx.fok _ f hf (cx.ini _ f hf (by rw [hi]; rfl))) (room1 cx) g1 hm hb hv pass0 ha g2 (star_of es X.env hs.1) (plain_of pos X.env es hs.2)) (make_step cx hk hf hi hr)
/-! ### attributes -/
theorem prop_of {c m j : Nat} (h : propOf P.tab c m = some j) : ∃ k, P.cls[c]? = some k ∧ k.prop.lookup m = some j := by
  unfold propOf at h
  rw [tab_cls] at h
  cases q : P.cls[c]? with
  | none => rw [q] at h; cases h
  | some k => rw [q] at h; exact ⟨k, rfl, h⟩
theorem fld_of {c m : Nat} (h : fldOf P.tab c m = true) : ∃ k, P.cls[c]? = some k ∧ k.flds.contains m = true := by
  unfold fldOf at h
  rw [tab_cls] at h
  cases q : P.cls[c]? with
  | none => rw [q] at h; cases h
  | some k => rw [q] at h; exact ⟨k, rfl, h⟩
theorem snd_attr (cx : Cxt P A call fd lv N sc X) {f : Nat} {o : C} {eo : Expr} {x : PySem.Str} {pos : Pos} (hx : nmOf P.nm f = x) (hn : notSuper eo = true) (ho : PE X eo (tE P A call X o)) : PE X (.Attribute eo x pos) (tE P A call X (.attr f o)) := by
  refine ⟨fun pins s σ H Q I t => ?_⟩
  obtain ⟨w, ρ, st, H0, ex, d, st', S, R, e, k⟩ := t
  simp only [ev] at e
  obtain ⟨y, st1, e1, e⟩ := Res.bind_is e
  refine attr_of (base_of x X.env _ hn) (thn (ho.run pins s σ H (fun v H1 => ∃ w1, Ext no w H w1 H1 ∧ SR A X.K w1 st1 H1 ∧ RX A X.K w1 H1 y v) I ⟨w, ρ, st, H0, ex, y, st1, S, R, e1, fun v H1 w1 E1 S1 q1 => ⟨w1, E1, S1, q1.rx⟩⟩) fun u s1 hh => ?_)
  obtain ⟨v, H1, I1, rv, w1, E1, S1, q1⟩ := hh
  have hnm : A.nm f = x := (cx.gok.nmE f).trans hx
  cases y with
  | ins c fs =>
    obtain ⟨a, dx, ga, rfl, ha, rf, ra⟩ := rx_ins q1 S1
    obtain rfl : u = Value.ref a := rv
    unfold attrD at e
    dsimp only at e
    cases hp : propOf P.tab c f with
    | some j =>
      rw [hp] at e
      obtain ⟨kl, hk, hl⟩ := prop_of hp
      have co := cx.gok.cls c kl hk
      obtain ⟨p, hpr⟩ := co.pr f j hl
      rw [hnm] at hpr
      obtain ⟨f', hf', hc⟩ := cx.cok j [.ins c fs] st1 d st' e
      obtain ⟨hi, hcd⟩ := co.qi f j f' hl hf'
      have hlen : [V.ref a].length = f'.ps.length := by
        rcases hc with ⟨_, hlen⟩ | ⟨c', fs', h', _⟩
        · exact hlen
        · rw [hi] at h'
          cases h'
      exact getprop_ok (E := E0) I1 ha co.cl hpr (cx.fok j f' hf' hcd) (room1 cx) (cx.bnd j f' hf' (cx.cold j f' hf' hcd)) .nil pass0 (sp_of hi hlen (.cons ra .nil) S1 e fun v H2 w2 E2 S2 r2 => k v H2 w2 (E1.trans E2) S2 (pv_rd rfl r2))
    | none =>
      rw [hp] at e
      dsimp only at e
      cases hl : fs.lookup f with
      | none => rw [hl] at e; cases e
      | some d' =>
        cases hfl : fldOf P.tab c f with
        | false => rw [hl, hfl] at e; cases e
        | true =>
          rw [hl, hfl] at e
          cases e
          obtain ⟨kl, hk, hct⟩ := fld_of hfl
          have co := cx.gok.cls c kl hk
          have na := co.na f hct
          obtain ⟨v', hv', rv'⟩ := rf.lookup cx.gok.nm.inj hl
          rw [hnm] at na hv'
          exact getattr_ok I1 ha co.cl na hv' fun u s' I' ru => ⟨v', H1, I', ru, k v' H1 w1 E1 S1 (pv_rd rfl rv')⟩
  | _ => cases e
/-! ### methods -/
theorem meth_eq {o : Expr} {m : PySem.Str} {apos pos : Pos} {es : List Expr} {env : PySem.Env} (hn : notSuper o = true) (hs : es.all shape = true) (hl : es.length < 29) (hline : (apos.endLine == pos.line) = true) :
    eval (.Call (.Attribute o m apos) es [] pos) env = (do
      let ov ← eval o env
      standAt apos.atName
      let (f, first) ← holding [ov] (getMethod ov m (plainOf o env))
      callWith pos f first (backTo pos (starEach es env)) (backToKw pos (keywordEach [] env))) := by
  have e1 : eval (.Call (.Attribute o m apos) es [] pos) env = (do
      let ov ← attributeBase o m env (eval o env)
      standAt apos.atName
      methodCall o m apos pos env ov (es.length + ([] : List Keyword).length) (backTo pos (starEach es env)) (backToKw pos (keywordEach [] env))) := by rfl
  rw [e1, base_of m env _ hn]
  congr 1
  funext ov
  congr 1
  funext _
  refine mcall_line ?_ hline
  unfold methodCallForm
  rw [allno_of pos env es hs]
  have e2 : (backToKw pos (keywordEach [] env)) = [] := rfl
  rw [e2]
  simp
  omega
theorem snd_meth (cx : Cxt P A call fd lv N sc X) {m : Nat} {o : C} {as : Cs} {eo : Expr} {x : PySem.Str} {apos pos : Pos} {es : List Expr} (hx : nmOf P.nm m = x) (hn : notSuper eo = true) (ho : PE X eo (tE P A call X o)) (hs : es.all shape = true) (hl : es.length < 29) (hline : (apos.endLine == pos.line) = true)
    (ha : PA X es (tAs P A call X as)) (hc : chkEs P N sc as es = true) : PE X (.Call (.Attribute eo x apos) es [] pos) (tE P A call X (.meth m o as)) := by
  refine ⟨fun pins s σ H Q I t => ?_⟩
  obtain ⟨w, ρ, st, H0, ex, d, st', S, R, e, k⟩ := t
  simp only [ev] at e
  obtain ⟨y, st1, e1, e⟩ := Res.bind_is e
  obtain ⟨xs, st2, e2, e⟩ := Res.bind_is e
  refine PySem.W.methodCall_KW (pl := plainOf eo X.env) (thn (ho.run pins s σ H (fun v H1 => ∃ w1, Ext no w H w1 H1 ∧ SR A X.K w1 st1 H1 ∧ RX A X.K w1 H1 y v) I ⟨w, ρ, st, H0, ex, y, st1, S, R, e1, fun v H1 w1 E1 S1 q1 => ⟨w1, E1, S1, q1.rx⟩⟩) fun u s1 hh => ?_) (meth_eq hn hs hl hline)
  obtain ⟨v, H1, I1, rv, w1, E1, S1, q1⟩ := hh
  have hnm : A.nm m = x := (cx.gok.nmE m).trans hx
  cases y with
  | ins c fs =>
    obtain ⟨a, dx, ga, rfl, ha', rf, ra⟩ := rx_ins q1 S1
    obtain rfl : u = Value.ref a := rv
    unfold methD at e
    dsimp only at e
    cases hm : methOf P.tab c m with
    | none => rw [hm] at e; cases e
    | some j =>
      cases hlk : fs.lookup m with
      | some z => rw [hm, hlk] at e; cases e
      | none =>
        rw [hm, hlk] at e
        have e : call j (.ins c fs :: xs) st2 = .ok d st' := e
        obtain ⟨kl, hk, hml⟩ := meth_of hm
        have co := cx.gok.cls c kl hk
        have me := co.me m j hml
        have hno := rf.lookup_none cx.gok.nm.inj hlk
        rw [hnm] at me hno
        obtain ⟨f', hf', hcc⟩ := cx.cok j (.ins c fs :: xs) st2 d st' e
        obtain ⟨hi, hcd⟩ := co.mi m j f' hml hf'
        have hlen : (D.ins c fs :: xs).length = f'.ps.length := by
          rcases hcc with ⟨_, hlen⟩ | ⟨c', fs', h', _⟩
          · exact hlen
          · rw [hi] at h'
            cases h'
        refine getmeth_ok I1 ha' co.cl me hno ?_
        have R1 := R.ext E1
        cases es with
        | nil =>
          cases as with
          | nil =>
            simp only [evs] at e2
            cases e2
            exact PySem.W.callWith_K0 (first := [.ref a]) I1.kIn me.kp (run_fn (us := [.ref a]) (vs := [.ref a]) (cx.fok j f' hf' hcd) (room0 cx) (cx.bnd j f' hf' (cx.cold j f' hf' hcd)) .nil pass0 I1 (.cons rfl .nil)
              (sp_of hi hlen (.cons ra .nil) S1 e fun v H2 w2 E2 S2 r2 => k v H2 w2 (E1.trans E2) S2 (pv_rd rfl r2)))
          | cons c r => simp [chkEs] at hc
        | cons e0 es =>
          rw [List.all_cons, Bool.and_eq_true] at hs
          refine PySem.W.callWith_K (first := [.ref a]) (h₀ := X.base) I.ok.mod.kin me.kp (thn (ha.run pos pins s1 σ H1 (fun vs H2 => ∃ w2, Ext no w1 H1 w2 H2 ∧ SR A X.K w2 st2 H2 ∧ RDs A X.K w2 xs vs) I1 ⟨w1, ρ, st1, H0, ex, xs, st2, S1, R1, e2, fun vs H2 w2 E2 S2 p2 => ⟨w2, E2, S2, p2⟩⟩) fun us s2 hh => ?_) (star_of es X.env hs.1) (plain_of pos X.env es hs.2)
          obtain ⟨vs, H2, I2, r, w2, E2, S2, p2⟩ := hh
          refine ⟨I2.kIn, ?_⟩
          refine run_fn (us := .ref a :: us) (vs := .ref a :: vs) (cx.fok j f' hf' hcd) (room0 cx) (cx.bnd j f' hf' (cx.cold j f' hf' hcd)) .nil pass0 I2 (.cons rfl r) ?_
          rw [List.append_nil]
          exact sp_of hi (by rw [← hlen, List.length_cons, List.length_cons, p2.length]) (.cons (ra.mono E2.le) p2) S2 e fun v H3 w3 E3 S3 r3 => k v H3 w3 (E1.trans (E2.trans E3)) S3 (pv_rd rfl r3)
  | _ => cases e
end
end Eng

namespace Eng
open PySem PySem.Spec PyProof.Rows L2
section
variable {P : Prg} {A : Ad} {call : Nat → List D → Store → Res D} {fd : Nat → FuncData} {lv : Nat} {N : List PySem.Str} {sc : Scope} {X : Cx}

/-! ### built-in functions -/
theorem blt_step {b : Bl} {a : C} : ∀ σ H Q, tE P A call X (.blt b a) σ H Q → tCB (rC (bltD P.tab call b) A X) (tCons (tE P A call X a) tNil) σ H Q := by
  rintro σ H Q ⟨w, ρ, st, H0, ex, d, st', S, R, e, k⟩
  simp only [ev] at e
  obtain ⟨x, st1, e1, e⟩ := Res.bind_is e
  refine ⟨w, ρ, st, H0, ex, x, st1, S, R, e1, fun v H1 w1 E1 S1 p1 => ⟨v, rfl, w1, x, st1, d, st', S1, p1.rx, e, fun v' H2 w2 E2 S2 r2 => k v' H2 w2 (E1.trans E2) S2 (pv_rd rfl r2)⟩⟩
theorem snd_blt (cx : Cxt P A call fd lv N sc X) {b : Bl} {a : C} {e : Expr} {x : PySem.Str} {p pos : Pos} (hx : blName b = x) (hg : glB sc x = true) (hf : P.blt.contains x = true) (hs : shape e = true) (ha : PE X e (tE P A call X a)) : PE X (.Call (.Name x p) [e] [] pos) (tE P A call X (.blt b a)) := by
  obtain ⟨g1, g2, g3⟩ := gl_of cx hg
  have hm := cx.gok.free x hf
  have ha' : PA X [e] (tCons (tE P A call X a) tNil) := pa_cons ha pa_nil (star_of [] X.env hs)
  subst hx
  cases b with
  | len => exact PE.mono (pe_callB bl_len g1 hm (by decide +kernel) ha' g3 g2 (star_of [] X.env hs) rfl) blt_step
  | abs => exact PE.mono (pe_callB (bl_abs cx) g1 hm (by decide +kernel) ha' g3 g2 (star_of [] X.env hs) rfl) blt_step
  | int => exact PE.mono (pe_callTy bl_int g1 hm (by decide +kernel) ha' g3 g2 (star_of [] X.env hs) rfl) blt_step
  | bool => exact PE.mono (pe_callTy (bl_bool cx) g1 hm (by decide +kernel) ha' g3 g2 (star_of [] X.env hs) rfl) blt_step
  | list => exact PE.mono (pe_callTy bl_list g1 hm (by decide +kernel) ha' g3 g2 (star_of [] X.env hs) rfl) blt_step
  | tuple => exact PE.mono (pe_callTy bl_tuple g1 hm (by decide +kernel) ha' g3 g2 (star_of [] X.env hs) rfl) blt_step
  | sum => exact PE.mono (pe_callB (bl_sum cx) g1 hm (by decide +kernel) ha' g3 g2 (star_of [] X.env hs) rfl) blt_step
  | all => exact PE.mono (pe_callB (bl_all cx) g1 hm (by decide +kernel) ha' g3 g2 (star_of [] X.env hs) rfl) blt_step
  | sorted => exact PE.mono (pe_callB bl_sorted g1 hm (by decide +kernel) ha' g3 g2 (star_of [] X.env hs) rfl) blt_step
  | any => exact PE.mono (pe_callB (bl_any cx) g1 hm (by decide +kernel) ha' g3 g2 (star_of [] X.env hs) rfl) blt_step
/-! ### isinstance -/
def tyVal (A : Ad) : Ty → V
  | .int => .ty "int"
  | .bool => .ty "bool"
  | .str => .ty "str"
  | .tuple => .ty "tuple"
  | .list => .ty "list"
  | .cls c => .ref (A.cls c)
def dTy : D → Option String
  | .non => some "NoneType"
  | .bl _ => some "bool"
  | .int _ => some "int"
  | .str _ => some "str"
  | .tup _ => some "tuple"
  | .lst _ => some "list"
  | _ => none
theorem tyx_of {K : PySem.W.Frag} {w : Wd} {H : Hp} {st : Store} {d : D} {v : V} {n : String} (S : SR A K w st H) (r : RD A K w d v) (h : dTy d = some n) : TyX K H v (.type n) := by
  cases r with
  | non => cases h; exact .base .non
  | bl b => cases h; exact .base (.bl b)
  | int i => cases h; exact .base (.int i)
  | str s => cases h; exact .base (.str s)
  | tup q _ =>
    cases h
    rcases q with (q | ⟨o, q⟩) | ⟨o, its, m, q1, q2, _⟩
    · exact .base (.tup (S.sub _ _ q))
    · exact .fTuple (S.sub _ _ q)
    · exact .kTuple q1 q2
  | lst q _ =>
    cases h
    rcases q with (q | ⟨o, q⟩) | ⟨o, its, m, q1, q2, _⟩
    · exact .base (.lst (S.sub _ _ q))
    · exact .base (.frz (S.sub _ _ q))
    · exact .kList q1 q2
  | ins _ _ => cases h
  | fn _ => cases h
  | ref _ => cases h
def tyN : Ty → Option String
  | .int => some "int"
  | .bool => some "bool"
  | .str => some "str"
  | .tuple => some "tuple"
  | .list => some "list"
  | .cls _ => none
theorem kit_plain {K : PySem.W.Frag} {d : D} {t : Ty} {n m : String} {b : Bool} (hn : dTy d = some n) (hm : tyN t = some m) (h : isiD P.tab d t = some b) : PySem.W.kitOne K (.type n) (.type m) = some b := by
  cases d <;> cases hn <;> cases t <;> cases hm <;> (unfold isiD at h; cases h) <;> exact kit_ty (by decide +kernel)
theorem isi_ok (cx : Cxt P A call fd lv N sc X) {w : Wd} {H : Hp} {st : Store} {d : D} {v : V} {t : Ty} {b : Bool} (S : SR A X.K w st H) (r : RD A X.K w d v) (h : isiD P.tab d t = some b) (ht : ∀ c, t = .cls c → (P.cls[c]?).isSome = true) :
    ∃ tv u, ClsV (tyVal A t) u ∧ TyX X.K H v tv ∧ PySem.W.kitOne X.K tv u = some b := by
  cases hd : dTy d with
  | some n =>
    cases htn : tyN t with
    | some m =>
      refine ⟨.type n, .type m, ?_, tyx_of S r hd, kit_plain hd htn h⟩
      cases t <;> cases htn <;> exact .ty _
    | none =>
      cases t with
      | cls c =>
        obtain ⟨k, hk⟩ := Option.isSome_iff_exists.mp (ht c rfl)
        have co := cx.gok.cls c k hk
        refine ⟨.type n, .ref (A.cls c), .own _, tyx_of S r hd, ?_⟩
        have hb : b = false := by cases d <;> cases hd <;> (unfold isiD at h; cases h) <;> rfl
        subst hb
        refine co.k2 n ?_
        cases d <;> cases hd <;> simp [tyStr]
      | _ => cases htn
  | none =>
    cases d with
    | ins c fs =>
      cases r with
      | ins q rf =>
        have hH := S.sub _ _ q
        cases t with
        | cls c' =>
          unfold isiD at h
          dsimp only at h
          split at h
          · rename_i hc
            subst hc
            cases h
            obtain ⟨k, hk⟩ := Option.isSome_iff_exists.mp (ht c rfl)
            have co := cx.gok.cls c k hk
            refine ⟨.ref (A.cls c), .ref (A.cls c), .own _, .base (co.ty H _ _ _ hH), ?_⟩
            unfold PySem.W.kitOne
            simp
          · cases h
        | _ =>
          cases hk : P.cls[c]? with
          | none => simp [isiD, tab_cls, hk] at h
          | some k =>
            have co := cx.gok.cls c k hk
            simp only [isiD, tab_cls, hk] at h
            cases h
            exact ⟨_, _, .ty _, .base (co.ty H _ _ _ hH), co.k1 _ (by simp [tyStr])⟩
    | _ => cases hd <;> cases t <;> (unfold isiD at h; cases h)
end
end Eng

namespace Eng
open PySem PySem.Spec PyProof.Rows L2
section
variable {P : Prg} {A : Ad} {call : Nat → List D → Store → Res D} {fd : Nat → FuncData} {lv : Nat} {N : List PySem.Str} {sc : Scope} {X : Cx}

theorem snd_isi (cx : Cxt P A call fd lv N sc X) {a : C} {t : Ty} {e : Expr} {x y : PySem.Str} {p p2 pos : Pos} (hx : x = ("isinstance" : PySem.Str)) (hg : glB sc x = true) (hf : P.blt.contains x = true) (hy : tyName P t = y) (hto : tyOk P t = true) (hgy : glB sc y = true) (hfy : (ownTy t || P.blt.contains y) = true)
    (hb : (!a.isBor) = true) (hs : shape e = true) (ha : PE X e (tE P A call X a)) : PE X (.Call (.Name x p) [e, .Name y p2] [] pos) (tE P A call X (.isi a t)) := by
  obtain ⟨g1, g2, g3⟩ := gl_of cx hg
  obtain ⟨y1, y2, y3⟩ := gl_of cx hgy
  have hm := cx.gok.free x hf
  subst hx
  have hc : ∀ c, t = .cls c → (P.cls[c]?).isSome = true := fun c e => by subst e; exact hto
  · have hY : PE X (.Name y p2) (tC (tyVal A t)) := by
      cases t with
      | cls c =>
        obtain ⟨k, hk⟩ := Option.isSome_iff_exists.mp (hc c rfl)
        have co := cx.gok.cls c k hk
        have : k.name = y := by
          rw [← hy]
          show k.name = (match P.cls[c]? with | some k => k.name | none => ("None" : PySem.Str))
          rw [hk]
        have hg := co.gl
        rw [this] at hg
        exact pe_glob y1 hg rfl y2
      | int =>
        subst hy
        exact pe_bltn y1 (cx.gok.free _ (by simpa [ownTy] using hfy)) (show bootBuiltins (Str.ofString "int") = some (.type "int") by decide +kernel) rfl y3 y2
      | bool =>
        subst hy
        exact pe_bltn y1 (cx.gok.free _ (by simpa [ownTy] using hfy)) (show bootBuiltins (Str.ofString "bool") = some (.type "bool") by decide +kernel) rfl y3 y2
      | str =>
        subst hy
        exact pe_bltn y1 (cx.gok.free _ (by simpa [ownTy] using hfy)) (show bootBuiltins (Str.ofString "str") = some (.type "str") by decide +kernel) rfl y3 y2
      | tuple =>
        subst hy
        exact pe_bltn y1 (cx.gok.free _ (by simpa [ownTy] using hfy)) (show bootBuiltins (Str.ofString "tuple") = some (.type "tuple") by decide +kernel) rfl y3 y2
      | list =>
        subst hy
        exact pe_bltn y1 (cx.gok.free _ (by simpa [ownTy] using hfy)) (show bootBuiltins (Str.ofString "list") = some (.type "list") by decide +kernel) rfl y3 y2
    refine PE.mono (pe_callB call_isi g1 hm (by decide +kernel) (pa_cons ha (pa_cons hY pa_nil rfl) (star_of _ X.env hs)) g3 g2 (star_of _ X.env hs) rfl) fun σ H Q tt => ?_
    obtain ⟨w, ρ, st, H0, ex, d, st', S, R, e, k⟩ := tt
    simp only [ev] at e
    obtain ⟨z, st1, e1, e⟩ := Res.bind_is e
    cases hi : isiD P.tab z t with
    | none => rw [hi] at e; cases e
    | some b =>
      rw [hi] at e
      cases e
      refine ⟨w, ρ, st, H0, ex, z, st', S, R, e1, fun v H1 w1 E1 S1 q1 => ?_⟩
      obtain ⟨tv, u, h1, h2, h3⟩ := isi_ok cx S1 (q1.rd hb) hi hc
      exact ⟨v, tyVal A t, tv, u, b, rfl, h1, h2, h3, k _ H1 w1 E1 S1 (pv_rd rfl (.bl _))⟩

/-! ### dicts -/
theorem rd_ref {K : PySem.W.Frag} {w : Wd} {k : Nat} {v : V} (r : RD A K w (.ref k) v) : v = .ref (w.μ k) ∧ k < w.n := by
  cases r with
  | ref h => exact ⟨rfl, h⟩
theorem valV_of {K : PySem.W.Frag} {w : Wd} (hA : Inj A) {k : Nat} {d : D} : ∀ {fs : List (Nat × D)} {gs : List (PySem.Str × V)}, RDf A K w fs gs → fs.lookup k = some d → ∃ v, valV (gs.map fun p => ((Sum.inr p.1 : Key), p.2)) (Sum.inr (A.nm k)) = some v ∧ RD A K w d v
  | _, _, .nil, e => by simp at e
  | _, _, .cons (k := j) h r, e => by
    by_cases hj : k = j
    · subst hj
      simp [List.lookup] at e
      subst e
      exact ⟨_, valV_pos rfl, h⟩
    · have hb : (k == j) = false := by simpa using hj
      simp only [List.lookup, hb] at e
      obtain ⟨v, h1, h2⟩ := valV_of hA r e
      refine ⟨v, ?_, h2⟩
      rw [List.map_cons]
      have hne : ¬ ((Sum.inr (A.nm j) : Key) = Sum.inr (A.nm k)) := fun q => hj (hA _ _ (Sum.inr.inj q)).symm
      unfold valV
      rw [List.find?_cons]
      simp only [decide_eq_false hne]
      exact h1
theorem cell_of {K : PySem.W.Frag} {w : Wd} {H : Hp} {st : Store} {r : Nat} {kvs : List (Nat × D)} (S : SR A K w st H) (h : getCell st r = some kvs) : ∃ gs : List (PySem.Str × V), RDf A K w kvs gs ∧ H (w.μ r) = some (.dK (gs.map fun p => ((Sum.inr p.1 : Key), p.2))) ∧ r < st.length := by
  unfold getCell at h
  cases q : st[r]? with
  | none => rw [q] at h; cases h
  | some c =>
    rw [q] at h
    cases c with
    | dk kvs' =>
      cases h
      obtain ⟨gs, r1, e⟩ := S.cell r _ q
      exact ⟨gs, r1, e, (List.getElem?_eq_some_iff.mp q).1⟩
    | lk _ => cases h
    | dead => cases h
theorem snd_dget (cx : Cxt P A call fd lv N sc X) {o : C} {k : Nat} {eo : Expr} {s : PySem.Str} {kk : Nat} {p2 pos : Pos} (hk : nmOf P.nm k = s) (hb : (!o.isBor) = true) (ho : PE X eo (tE P A call X o)) : PE X (.Subscript eo (.Constant (.str s) kk p2) pos) (tE P A call X (.dget o k)) := by
  refine PE.mono (pe_dget (hu_of cx.room) ho pe_str (fun _ _ => rfl)) fun σ H Q t => ?_
  obtain ⟨w, ρ, st, H0, ex, d, st', S, R, e, kq⟩ := t
  simp only [ev] at e
  obtain ⟨x, st1, e1, e⟩ := Res.bind_is e
  refine ⟨w, ρ, st, H0, ex, x, st1, S, R, e1, fun v H1 w1 E1 S1 q1 => ?_⟩
  cases x with
  | ref r =>
    unfold dgetD at e
    dsimp only at e
    cases hc : getCell st1 r with
    | none => rw [hc] at e; cases e
    | some kvs =>
      rw [hc] at e
      dsimp only at e
      cases hl : kvs.lookup k with
      | none => rw [hl] at e; cases e
      | some d' =>
        rw [hl] at e
        cases e
        obtain ⟨rfl, hr⟩ := rd_ref (q1.rd hb)
        obtain ⟨gs, rf, hH, _⟩ := cell_of S1 hc
        obtain ⟨v', h1, h2⟩ := valV_of cx.gok.nm.inj rf hl
        rw [cx.gok.nmE k, hk] at h1
        refine ⟨w1.μ r, v', rfl, ?_, kq v' H1 w1 E1 S1 (pv_rd rfl h2)⟩
        rw [← h1]
        exact DGet.k (k := Sum.inr s) hH
  | _ => cases e
/-- a new cell of the store -/
def Wd.cell (w : Wd) (p : Addr) : Wd := ⟨w.G, fun k => if k = w.n then p else w.μ k, w.n + 1⟩
theorem cell_le {w : Wd} (p : Addr) : w.le (w.cell p) := ⟨fun _ _ h => h, Nat.le_succ _, fun k h => by
  show (if k = w.n then p else w.μ k) = w.μ k
  rw [if_neg (by omega)]⟩
theorem merge_new : ∀ (more acc : List (Key × V)), (∀ p ∈ more, ∀ q ∈ acc, q.1 ≠ p.1) → (more.map (·.1)).Nodup → mergeK acc more = acc ++ more
  | [], acc, _, _ => by simp [mergeK]
  | p :: r, acc, h, nd => by
    have hn : putK acc p.1 p.2 = acc ++ [(p.1, p.2)] := by
      unfold putK
      rw [if_neg]
      intro q
      obtain ⟨z, hz, hz2⟩ := List.any_eq_true.mp q
      exact h p List.mem_cons_self z hz (of_decide_eq_true hz2)
    rw [List.map_cons, List.nodup_cons] at nd
    show mergeK (putK acc p.1 p.2) r = _
    rw [hn, merge_new r (acc ++ [(p.1, p.2)]) (fun a ha b hb => ?_) nd.2]
    · simp
    · rcases List.mem_append.mp hb with hb | hb
      · exact h a (List.mem_cons_of_mem _ ha) b hb
      · have : b = (p.1, p.2) := by simpa using hb
        subst this
        intro z
        exact nd.1 (List.mem_map.mpr ⟨a, ha, z.symm⟩)
def trsOf (P : Prg) (A : Ad) (call : Nat → List D → Store → Res D) (X : Cx) : List Nat → Cs → List (TE × TE)
  | k :: ks, .cons c r => (tC (.str (nmOf P.nm k)), tE P A call X c) :: trsOf P A call X ks r
  | _, _ => []
theorem pairs_step {σ : L2.St} : ∀ {ks : List Nat} {as : Cs} {w : Wd} {ρ : Env} {st st' : Store} {H0 : Hp} {ex : Addr → Prop} {ds : List D} {H : Hp} {Q : List (V × V) → Hp → Prop}, csLen as = ks.length → (∀ c r, as = .cons c r → True) → (asNB : as.noBor = true) → SR A X.K w st H → RS A X.K H0 ex w ρ σ H → evs P.tab call as ρ st = .ok ds st' →
    (∀ vs H' w', Ext no w H w' H' → SR A X.K w' st' H' → RDs A X.K w' ds vs → Q ((ks.map fun k => V.str (nmOf P.nm k)).zip vs) H') → tPairs (trsOf P A call X ks as) σ H Q
  | [], .nil, w, ρ, st, st', H0, ex, ds, H, Q, _, _, _, S, R, e, k => by
    simp only [evs] at e
    cases e
    exact k [] H w (.refl _ _ _) S .nil
  | [], .cons _ _, _, _, _, _, _, _, _, _, _, h, _, _, _, _, _, _ => by simp [csLen] at h
  | _ :: _, .nil, _, _, _, _, _, _, _, _, _, h, _, _, _, _, _, _ => by simp [csLen] at h
  | k :: ks, .cons c r, w, ρ, st, st', H0, ex, ds, H, Q, h, _, nb, S, R, e, kq => by
    simp only [evs] at e
    obtain ⟨x, st1, e1, e⟩ := Res.bind_is e
    obtain ⟨xs, st2, e2, e⟩ := Res.bind_is e
    cases e
    simp only [Cs.noBor, Bool.and_eq_true] at nb
    show tPairs ((tC (.str (nmOf P.nm k)), tE P A call X c) :: trsOf P A call X ks r) σ H Q
    refine ⟨w, ρ, st, H0, ex, x, st1, S, R, e1, fun v H1 w1 E1 S1 q1 => ?_⟩
    refine pairs_step (by simpa [csLen] using h) (fun _ _ _ => trivial) nb.2 S1 (R.ext E1) e2 fun vs H2 w2 E2 S2 q2 => ?_
    exact kq (v :: vs) H2 w2 (E1.trans E2) S2 (.cons ((q1.rd nb.1).mono E2.le) q2)
end
end Eng

namespace Eng
open PySem PySem.Spec PyProof.Rows L2
section
variable {P : Prg} {A : Ad} {call : Nat → List D → Store → Res D} {fd : Nat → FuncData} {lv : Nat} {N : List PySem.Str} {sc : Scope} {X : Cx}

theorem chk_nb {N' : List PySem.Str} : ∀ {as : Cs} {es : List Expr}, chkEs P N' sc as es = true → as.noBor = true
  | .nil, [], _ => rfl
  | .nil, _ :: _, h => by simp [chkEs] at h
  | .cons _ _, [], h => by simp [chkEs] at h
  | .cons c r, e :: es, h => by
    simp only [chkEs, Bool.and_eq_true] at h
    simp only [Cs.noBor, Bool.and_eq_true]
    exact ⟨h.1.1.1, chk_nb h.2⟩
theorem chk_sh {N' : List PySem.Str} : ∀ {as : Cs} {es : List Expr}, chkEs P N' sc as es = true → es.all shape = true
  | .nil, [], _ => rfl
  | .nil, _ :: _, h => by simp [chkEs] at h
  | .cons _ _, [], h => by simp [chkEs] at h
  | .cons c r, e :: es, h => by
    simp only [chkEs, Bool.and_eq_true] at h
    rw [List.all_cons, Bool.and_eq_true]
    exact ⟨h.1.1.2, chk_sh h.2⟩
/-! ### a dict display -/
theorem rdf_zip {K : PySem.W.Frag} {w : Wd} (hE : ∀ i, A.nm i = nmOf P.nm i) : ∀ {ks : List Nat} {ds : List D} {vs : List V}, ks.length = ds.length → RDs A K w ds vs → RDf A K w (ks.zip ds) ((ks.map (nmOf P.nm)).zip vs)
  | [], _, _, _, .nil => .nil
  | [], _, _, h, .cons _ _ => by simp at h
  | _ :: _, _, _, h, .nil => by simp at h
  | k :: ks, _, _, h, .cons q r => by
    simp only [List.zip_cons_cons, List.map_cons]
    rw [← hE k]
    exact .cons q (rdf_zip hE (by simpa using h) r)
theorem cell_new {w1 : Wd} {st1 : Store} {H1 : Hp} {p : Addr} {kvs : List (Nat × D)} {gs : List (PySem.Str × V)} (S1 : SR A X.K w1 st1 H1) (pr1 : Priv w1 p) (rf : RDf A X.K w1 kvs gs) :
    SR A X.K (w1.cell p) (st1 ++ [.dk kvs]) (upd H1 p (.dK (gs.map fun q => ((Sum.inr q.1 : Key), q.2)))) where
  sub := fun a o q => by
    have ne : a ≠ p := fun z => by
      subst z
      have q : w1.G a = some o := q
      rw [pr1.1] at q
      cases q
    rw [upd_ne ne]
    exact S1.sub a o q
  len := by
    show w1.n + 1 = (st1 ++ [_]).length
    rw [S1.len, List.length_append]
    rfl
  cell := fun k' c q => by
    have hn := S1.len
    show CellR A X.K (w1.cell p) c (upd H1 p _ (if k' = w1.n then p else w1.μ k'))
    by_cases hk' : k' = w1.n
    · rw [if_pos hk', upd_same]
      rw [hk', hn, List.getElem?_append_right (Nat.le_refl _), Nat.sub_self] at q
      cases q
      exact ⟨gs, rf.mono (cell_le p), rfl⟩
    · rw [if_neg hk']
      have hlt : k' < st1.length := by
        have := (List.getElem?_eq_some_iff.mp q).1
        rw [List.length_append] at this
        have : k' < st1.length + 1 := this
        omega
      rw [List.getElem?_append_left hlt] at q
      rw [upd_ne (pr1.2 k' (by omega))]
      exact (S1.cell k' c q).mono (cell_le p)
  inj := fun i j hi hj e => by
    have hi : i < w1.n + 1 := hi
    have hj : j < w1.n + 1 := hj
    have e : (if i = w1.n then p else w1.μ i) = (if j = w1.n then p else w1.μ j) := e
    by_cases h1 : i = w1.n
    · by_cases h2 : j = w1.n
      · omega
      · rw [if_pos h1, if_neg h2] at e
        exact absurd e.symm (pr1.2 j (by omega))
    · by_cases h2 : j = w1.n
      · rw [if_neg h1, if_pos h2] at e
        exact absurd e (pr1.2 i (by omega))
      · rw [if_neg h1, if_neg h2] at e
        exact S1.inj i j (by omega) (by omega) e
  nog := fun k' hk' => by
    have hk' : k' < w1.n + 1 := hk'
    show w1.G (if k' = w1.n then p else w1.μ k') = none
    split
    · exact pr1.1
    · exact S1.nog k' (by omega)
theorem snd_dict (cx : Cxt P A call fd lv N sc X) {ks : List Nat} {as : Cs} {keys : List (Option Expr)} {vals : List Expr} {pos : Pos} (h : PPs X pos keys vals (trsOf P A call X ks as)) (hall : keys.all (·.isSome) = true) (hl : keys.length = vals.length) (h0 : keys ≠ []) (h15 : keys.length ≤ 15)
    (hlen : csLen as = ks.length) (hk : ks.length = keys.length) (nb : as.noBor = true) : PE X (.Dict keys vals pos) (tE P A call X (.dict ks as)) := by
  refine PE.mono (pe_disp h hall hl h0 h15) fun σ H Q t => ?_
  obtain ⟨w, ρ, st, H0, ex, d, st', S, R, e, k⟩ := t
  simp only [ev] at e
  obtain ⟨xs, st1, e1, e⟩ := Res.bind_is e
  unfold dictD at e
  split at e
  · rename_i hc
    simp only [Bool.and_eq_true, decide_eq_true_eq] at hc
    cases e
    intro p hp
    have E0' : Ext no w H w (upd H p (.dK [])) := ext_new (st := st) hp
    have S0 := sr_new S (o := .dK []) hp
    refine pairs_step hlen (fun _ _ _ => trivial) nb S0 (R.ext E0') e1 fun vs H1 w1 E1 S1 q1 => ?_
    have pr : Priv w p := priv_new S hp
    have hp1 : H1 p = some (.dK []) := E1.fr p _ upd_same pr.2 (fun z => z)
    have pr1 : Priv w1 p := pr.ext (H := upd H p (.dK [])) upd_same E1
    have hvl : vs.length = ks.length := by rw [← q1.length]; exact hc.1.1.symm
    have rf := rdf_zip cx.gok.nmE (by rw [q1.length, hvl]) q1 (ks := ks)
    refine ⟨hp1, ((ks.map (nmOf P.nm)).zip vs).map (fun q => ((Sum.inr q.1 : Key), q.2)), ?_, ?_, ?_⟩
    · rw [List.map_map]
      have : ∀ (ks : List Nat) (vs : List V), (ks.map fun k => V.str (nmOf P.nm k)).zip vs = ((ks.map (nmOf P.nm)).zip vs).map ((fun kv : Key × V => (kV kv.1, kv.2)) ∘ fun q => ((Sum.inr q.1 : Key), q.2)) := by
        intro ks
        induction ks with
        | nil => intro vs; rfl
        | cons a r ih =>
          intro vs
          cases vs with
          | nil => rfl
          | cons v vs =>
            simp only [List.map_cons, List.zip_cons_cons]
            rw [ih]
            rfl
      exact this ks vs
    · simp only [List.length_map, List.length_zip]
      omega
    · have nd : (((ks.map (nmOf P.nm)).zip vs).map fun q => ((Sum.inr q.1 : Key), q.2)).map (·.1) = ks.map fun k => (Sum.inr (nmOf P.nm k) : Key) := by
        rw [List.map_map]
        have : ∀ (ks : List Nat) (vs : List V), vs.length = ks.length → ((ks.map (nmOf P.nm)).zip vs).map ((fun x : Key × V => x.1) ∘ fun q => ((Sum.inr q.1 : Key), q.2)) = ks.map fun k => (Sum.inr (nmOf P.nm k) : Key) := by
          intro ks
          induction ks with
          | nil => intro vs _; rfl
          | cons a r ih =>
            intro vs hv
            cases vs with
            | nil => simp at hv
            | cons v vs =>
              simp only [List.map_cons, List.zip_cons_cons]
              rw [ih vs (by simpa using hv)]
              rfl
        exact this ks vs hvl
      have nd2 : (ks.map fun k => (Sum.inr (nmOf P.nm k) : Key)).Nodup := by
        refine List.pairwise_map.mpr (List.Pairwise.imp ?_ hc.2)
        intro a b hab hq
        have := Sum.inr.inj hq
        rw [← cx.gok.nmE, ← cx.gok.nmE] at this
        exact hab (cx.gok.nm.inj _ _ this)
      rw [merge_new _ [] (fun _ _ _ h => nomatch h) (by rw [nd]; exact nd2), List.nil_append]
      have hn : w1.n = st1.length := S1.len
      have E01 := E0'.trans E1
      refine k (.ref p) _ (w1.cell p) ?_ ?_ (pv_rd rfl ?_)
      · exact ⟨E01.le.trans (cell_le p), fun a o q n _ => by rw [upd_ne (ne_of_none q hp)]; exact E01.fr a o q n (fun z => z), fun a o q => by rw [upd_ne (ne_of_none q hp)]; exact E01.th a o q, E01.nw, fun k' h1 h2 => by
          show H (if k' = w1.n then p else w1.μ k') = none
          split
          · exact hp
          · exact E01.mn k' h1 (by have : k' < w1.n + 1 := h2; omega)⟩
      · exact cell_new S1 pr1 rf
      · rw [← hn]
        have : (w1.cell p).μ w1.n = p := by
          show (if w1.n = w1.n then p else _) = p
          rw [if_pos rfl]
        have r : RD A X.K (w1.cell p) (.ref w1.n) (.ref ((w1.cell p).μ w1.n)) := .ref (Nat.lt_succ_self _)
        rw [this] at r
        exact r
  · cases e
end
end Eng

namespace Eng
open PySem PySem.Spec PyProof.Rows L2
section
variable {P : Prg} {A : Ad} {call : Nat → List D → Store → Res D} {fd : Nat → FuncData} {lv : Nat} {N : List PySem.Str} {sc : Scope} {X : Cx}

/-! ### and, or as values -/
theorem snd_and1 {c : C} {e : Expr} {pos : Pos} (hb : (!c.isBor) = true) (h : PE X e (tE P A call X c)) : PE X (.BoolOp .And [e] pos) (tE P A call X (.and (.cons c .nil))) := by
  refine PE.mono (pe_one h) fun σ H Q t => ?_
  obtain ⟨w, ρ, st, H0, ex, d, st', S, R, e, k⟩ := t
  simp only [ev, evAnd] at e
  exact ⟨w, ρ, st, H0, ex, d, st', S, R, e, fun v H1 w1 E1 S1 q1 => k v H1 w1 E1 S1 (pv_rd rfl (q1.rd hb))⟩
theorem snd_or1 {c : C} {e : Expr} {pos : Pos} (hb : (!c.isBor) = true) (h : PE X e (tE P A call X c)) : PE X (.BoolOp .Or [e] pos) (tE P A call X (.or (.cons c .nil))) := by
  refine PE.mono (pe_one h) fun σ H Q t => ?_
  obtain ⟨w, ρ, st, H0, ex, d, st', S, R, e, k⟩ := t
  simp only [ev, evOr] at e
  exact ⟨w, ρ, st, H0, ex, d, st', S, R, e, fun v H1 w1 E1 S1 q1 => k v H1 w1 E1 S1 (pv_rd rfl (q1.rd hb))⟩
theorem snd_and {c c2 : C} {r : Cs} {e e2 : Expr} {es : List Expr} {pos : Pos} (hb : (!c.isBor) = true) (h : PE X e (tE P A call X c)) (h2 : PE X (.BoolOp .And (e2 :: es) pos) (tE P A call X (.and (.cons c2 r)))) : PE X (.BoolOp .And (e :: e2 :: es) pos) (tE P A call X (.and (.cons c (.cons c2 r)))) := by
  refine PE.mono (pe_and h h2) fun σ H Q t => ?_
  obtain ⟨w, ρ, st, H0, ex, d, st', S, R, e, k⟩ := t
  simp only [ev, evAnd] at e
  obtain ⟨x, st1, e1, e⟩ := Res.bind_is e
  refine ⟨w, ρ, st, H0, ex, x, st1, S, R, e1, fun v H1 w1 E1 S1 q1 => ?_⟩
  cases x with
  | bl b =>
    have q := q1.rd hb
    cases q
    refine ⟨b, rfl, ?_⟩
    cases b with
    | true =>
      refine iteT ⟨w1, ρ, st1, H0, ex, d, st', S1, R.ext E1, by simp only [ev]; exact e, fun v2 H2 w2 E2 S2 q2 => k v2 H2 w2 (E1.trans E2) S2 (pv_rd rfl (q2.rd rfl))⟩
    | false =>
      cases e
      exact iteF (k _ H1 w1 E1 S1 (pv_rd rfl (.bl _)))
  | _ => cases e
theorem snd_or {c c2 : C} {r : Cs} {e e2 : Expr} {es : List Expr} {pos : Pos} (hb : (!c.isBor) = true) (h : PE X e (tE P A call X c)) (h2 : PE X (.BoolOp .Or (e2 :: es) pos) (tE P A call X (.or (.cons c2 r)))) : PE X (.BoolOp .Or (e :: e2 :: es) pos) (tE P A call X (.or (.cons c (.cons c2 r)))) := by
  refine PE.mono (pe_or h h2) fun σ H Q t => ?_
  obtain ⟨w, ρ, st, H0, ex, d, st', S, R, e, k⟩ := t
  simp only [ev, evOr] at e
  obtain ⟨x, st1, e1, e⟩ := Res.bind_is e
  refine ⟨w, ρ, st, H0, ex, x, st1, S, R, e1, fun v H1 w1 E1 S1 q1 => ?_⟩
  cases x with
  | bl b =>
    have q := q1.rd hb
    cases q
    refine ⟨b, rfl, ?_⟩
    cases b with
    | false =>
      refine iteF ⟨w1, ρ, st1, H0, ex, d, st', S1, R.ext E1, by simp only [ev]; exact e, fun v2 H2 w2 E2 S2 q2 => k v2 H2 w2 (E1.trans E2) S2 (pv_rd rfl (q2.rd rfl))⟩
    | true =>
      cases e
      exact iteT (k _ H1 w1 E1 S1 (pv_rd rfl (.bl _)))
  | _ => cases e
/-! ### tests -/
theorem tst_val (cx : Cxt P A call fd lv N sc X) {c : C} {e : Expr} (ht : plainTest e = true) (h : PE X e (tE P A call X c)) : PT X e (tTst P A call X c) := by
  refine ⟨fun pins s σ H Q I t => ?_⟩
  obtain ⟨w, ρ, st, H0, ex, b, st', S, R, e, k⟩ := t
  unfold evT at e
  obtain ⟨x, st1, e1, e⟩ := Res.bind_is e
  refine isTrue_plain (thn (h.run pins s σ H (fun v H1 => rSemT A X (truD P.tab call) v H1 Q) I ⟨w, ρ, st, H0, ex, x, st1, S, R, e1, fun v H1 w1 E1 S1 q1 => ?_⟩) fun v s1 hh => ?_) (test_of X.env ht _)
  · exact ⟨w1, x, st1, b, st', S1, q1.rx, e, fun H2 w2 E2 S2 => k H2 w2 (E1.trans E2) S2⟩
  · obtain ⟨x', H1, I1, r1, q1⟩ := hh
    exact tru_sem cx pins s1 σ H1 x' v Q I1 r1 q1
/-- a test whose value is a truth value -/
theorem tst_tt {c : C} {t : TE} (h : ∀ σ H Q, tE P A call X c σ H Q → t σ H Q) (hb : (!c.isBor) = true) (hc : ∀ ρ st d st', ev P.tab call c ρ st = .ok d st' → ∃ b, d = .bl b) : ∀ σ H Q, tTst P A call X c σ H Q → tTest t σ H Q := by
  rintro σ H Q ⟨w, ρ, st, H0, ex, b, st', S, R, e, k⟩
  unfold evT at e
  obtain ⟨x, st1, e1, e⟩ := Res.bind_is e
  obtain ⟨b', rfl⟩ := hc ρ st x st1 e1
  cases e
  refine h σ H _ ⟨w, ρ, st, H0, ex, _, st', S, R, e1, fun v H1 w1 E1 S1 q1 => ?_⟩
  have q := q1.rd hb
  cases q
  exact ⟨_, rfl, k H1 w1 E1 S1⟩
theorem tst_cmp (cx : Cxt P A call fd lv N sc X) {op : Co} {a b : C} {o : CmpOp} {ea eb : Expr} {pos : Pos} (ho : coIs op o = true) (hs : shape eb = true) (ha : PE X ea (tE P A call X a)) (hb : PE X eb (tE P A call X b)) : PT X (.Compare ea [o] [eb] pos) (tTst P A call X (.cmp op a b)) := by
  rw [coIs_eq ho]
  refine PT.mono (pt_cmpR (opr_cmp cx op) ha hb (mark_of _ hs)) (tst_tt (two_step rfl fun ρ st => by simp only [ev]) rfl fun ρ st d st' e => ?_)
  simp only [ev] at e
  obtain ⟨x, st1, e1, e⟩ := Res.bind_is e
  obtain ⟨y, st2, e2, e⟩ := Res.bind_is e
  exact cmp_bl e
theorem chain_step (cx : Cxt P A call fd lv N sc X) {o1 o2 : Co} {a b c : C} : ∀ σ H Q, tE P A call X (.chain o1 o2 a b c) σ H Q → tChain (rSem A X (cmpD P.tab call o1)) (rSem A X (cmpD P.tab call o2)) (tE P A call X a) (tE P A call X b) (tE P A call X c) σ H Q := by
  intro σ H Q t
  obtain ⟨w, ρ, st, H0, ex, d, st', S, R, e, k⟩ := t
  simp only [ev] at e
  obtain ⟨x, st1, e1, e⟩ := Res.bind_is e
  obtain ⟨y, st2, e2, e⟩ := Res.bind_is e
  obtain ⟨r, st3, e3, e⟩ := Res.bind_is e
  refine ⟨w, ρ, st, H0, ex, x, st1, S, R, e1, fun v H1 w1 E1 S1 q1 => ⟨w1, ρ, st1, H0, ex, y, st2, S1, R.ext E1, e2, fun u H2 w2 E2 S2 q2 => ?_⟩⟩
  refine ⟨w2, x, y, st2, r, st3, S2, q1.rx.ext E2, q2.rx, e3, fun z H3 w3 E3 S3 q3 => ?_⟩
  obtain ⟨b, rfl⟩ := cmp_bl e3
  cases q3
  refine ⟨b, rfl, ?_⟩
  cases b with
  | true =>
    refine iteT ?_
    dsimp only at e
    obtain ⟨z, st4, e4, e⟩ := Res.bind_is e
    refine ⟨w3, ρ, st3, H0, ex, z, st4, S3, (R.ext E1).ext (E2.trans E3), e4, fun v4 H4 w4 E4 S4 q4 => ⟨w4, y, z, st4, d, st', S4, (q2.rx.ext E3).ext E4, q4.rx, e, fun v5 H5 w5 E5 S5 q5 => ?_⟩⟩
    exact k v5 H5 w5 (E1.trans (E2.trans (E3.trans (E4.trans E5)))) S5 (pv_rd rfl q5)
  | false =>
    refine iteF ?_
    cases e
    exact k _ H3 w3 (E1.trans (E2.trans E3)) S3 (pv_rd rfl (.bl _))
theorem tst_chain (cx : Cxt P A call fd lv N sc X) {o1 o2 : Co} {a b c : C} {p1 p2 : CmpOp} {ea eb ec : Expr} {pos : Pos} (h1 : coIs o1 p1 = true) (h2 : coIs o2 p2 = true) (hs : shape ec = true)
    (ha : PE X ea (tE P A call X a)) (hb : PE X eb (tE P A call X b)) (hc : PE X ec (tE P A call X c)) : PT X (.Compare ea [p1, p2] [eb, ec] pos) (tTst P A call X (.chain o1 o2 a b c)) := by
  rw [coIs_eq h1, coIs_eq h2]
  refine PT.mono (pt_chain (opr_cmp cx o1) (opr_cmp cx o2) ha hb hc (mark_of _ hs)) (tst_tt (chain_step cx) rfl fun ρ st d st' e => ?_)
  simp only [ev] at e
  obtain ⟨x, st1, e1, e⟩ := Res.bind_is e
  obtain ⟨y, st2, e2, e⟩ := Res.bind_is e
  obtain ⟨r, st3, e3, e⟩ := Res.bind_is e
  obtain ⟨b, rfl⟩ := cmp_bl e3
  cases b with
  | true =>
    dsimp only at e
    obtain ⟨z, st4, e4, e⟩ := Res.bind_is e
    exact cmp_bl e
  | false =>
    cases e
    exact ⟨_, rfl⟩
theorem tst_not {a : C} {e : Expr} {pos : Pos} (h : PT X e (tTst P A call X a)) : PT X (.UnaryOp .Not e pos) (tTst P A call X (.not a)) := by
  refine PT.mono (pt_not h) fun σ H Q t => ?_
  obtain ⟨w, ρ, st, H0, ex, b, st', S, R, e, k⟩ := t
  unfold evT at e
  simp only [ev] at e
  obtain ⟨x, st1, e1, e⟩ := Res.bind_is e
  obtain ⟨y, st2, e2, e1⟩ := Res.bind_is e1
  cases y with
  | bl c =>
    cases e1
    cases e
    exact ⟨w, ρ, st, H0, ex, c, st', S, R, by unfold evT; rw [e2]; rfl, fun H1 w1 E1 S1 => k H1 w1 E1 S1⟩
  | _ => cases e1
theorem tst_and1 {c : C} {e : Expr} {pos : Pos} (h : PT X e (tTst P A call X c)) : PW X (.BoolOp .And [e] pos) (tTst P A call X (.and (.cons c .nil))) := by
  refine PW.mono (pw_and1 h) fun σ H Q t => ?_
  obtain ⟨w, ρ, st, H0, ex, b, st', S, R, e, k⟩ := t
  unfold evT at e
  simp only [ev, evAnd] at e
  exact ⟨w, ρ, st, H0, ex, b, st', S, R, e, k⟩
theorem tst_or1 {c : C} {e : Expr} {pos : Pos} (h : PT X e (tTst P A call X c)) : PW X (.BoolOp .Or [e] pos) (tTst P A call X (.or (.cons c .nil))) := by
  refine PW.mono (pw_or1 h) fun σ H Q t => ?_
  obtain ⟨w, ρ, st, H0, ex, b, st', S, R, e, k⟩ := t
  unfold evT at e
  simp only [ev, evOr] at e
  exact ⟨w, ρ, st, H0, ex, b, st', S, R, e, k⟩
theorem tst_and {c c2 : C} {r : Cs} {e e2 : Expr} {es : List Expr} {pos : Pos} (h : PT X e (tTst P A call X c)) (h2 : PW X (.BoolOp .And (e2 :: es) pos) (tTst P A call X (.and (.cons c2 r)))) : PW X (.BoolOp .And (e :: e2 :: es) pos) (tTst P A call X (.and (.cons c (.cons c2 r)))) := by
  refine PW.mono (pw_and h h2) fun σ H Q t => ?_
  obtain ⟨w, ρ, st, H0, ex, b, st', S, R, e, k⟩ := t
  unfold evT at e
  simp only [ev, evAnd] at e
  obtain ⟨y, st2, e0, e⟩ := Res.bind_is e
  obtain ⟨x, st1, e1, e0⟩ := Res.bind_is e0
  cases x with
  | bl a =>
    refine ⟨w, ρ, st, H0, ex, a, st1, S, R, by unfold evT; rw [e1]; rfl, fun H1 w1 E1 S1 => ?_⟩
    cases a with
    | true => exact iteT ⟨w1, ρ, st1, H0, ex, b, st', S1, R.ext E1, by unfold evT; simp only [ev]; rw [show evAnd P.tab call (.cons c2 r) ρ st1 = _ from e0]; exact e, fun H2 w2 E2 S2 => k H2 w2 (E1.trans E2) S2⟩
    | false =>
      cases e0
      cases e
      exact iteF (k H1 w1 E1 S1)
  | _ => cases e0
theorem tst_or {c c2 : C} {r : Cs} {e e2 : Expr} {es : List Expr} {pos : Pos} (h : PT X e (tTst P A call X c)) (h2 : PW X (.BoolOp .Or (e2 :: es) pos) (tTst P A call X (.or (.cons c2 r)))) : PW X (.BoolOp .Or (e :: e2 :: es) pos) (tTst P A call X (.or (.cons c (.cons c2 r)))) := by
  refine PW.mono (pw_or h h2) fun σ H Q t => ?_
  obtain ⟨w, ρ, st, H0, ex, b, st', S, R, e, k⟩ := t
  unfold evT at e
  simp only [ev, evOr] at e
  obtain ⟨y, st2, e0, e⟩ := Res.bind_is e
  obtain ⟨x, st1, e1, e0⟩ := Res.bind_is e0
  cases x with
  | bl a =>
    refine ⟨w, ρ, st, H0, ex, a, st1, S, R, by unfold evT; rw [e1]; rfl, fun H1 w1 E1 S1 => ?_⟩
    cases a with
    | false => exact iteF ⟨w1, ρ, st1, H0, ex, b, st', S1, R.ext E1, by unfold evT; simp only [ev]; rw [show evOr P.tab call (.cons c2 r) ρ st1 = _ from e0]; exact e, fun H2 w2 E2 S2 => k H2 w2 (E1.trans E2) S2⟩
    | true =>
      cases e0
      cases e
      exact iteT (k H1 w1 E1 S1)
  | _ => cases e0
theorem snd_ite {t a b : C} {et ea eb : Expr} {pos : Pos} (hba : (!a.isBor) = true) (hbb : (!b.isBor) = true) (ht : PT X et (tTst P A call X t)) (ha : PE X ea (tE P A call X a)) (hb : PE X eb (tE P A call X b)) : PE X (.IfExp et ea eb pos) (tE P A call X (.ite t a b)) := by
  refine PE.mono (pe_ifExp ht ha hb) fun σ H Q tt => ?_
  obtain ⟨w, ρ, st, H0, ex, d, st', S, R, e, k⟩ := tt
  simp only [ev] at e
  obtain ⟨x, st1, e1, e⟩ := Res.bind_is e
  obtain ⟨b', st2, e2, e⟩ := Res.bind_is e
  refine ⟨w, ρ, st, H0, ex, b', st2, S, R, by unfold evT; rw [e1]; exact e2, fun H1 w1 E1 S1 => ?_⟩
  cases b' with
  | true => exact iteT ⟨w1, ρ, st2, H0, ex, d, st', S1, R.ext E1, e, fun v H2 w2 E2 S2 q2 => k v H2 w2 (E1.trans E2) S2 (pv_rd rfl (q2.rd hba))⟩
  | false => exact iteF ⟨w1, ρ, st2, H0, ex, d, st', S1, R.ext E1, e, fun v H2 w2 E2 S2 q2 => k v H2 w2 (E1.trans E2) S2 (pv_rd rfl (q2.rd hbb))⟩
end
end Eng

namespace Eng
open PySem PySem.Spec PyProof.Rows L2
/-! ### slots stored -/
def setV : List Nat → List V → L2.St → L2.St
  | i :: is, v :: vs, σ => setV is vs (σ.set i (some v))
  | _, _, σ => σ
section
variable {A : Ad} {K : PySem.W.Frag} {H0 : Hp} {ex : Addr → Prop} {w : Wd} {ρ ρ' : Env} {σ : L2.St} {H : Hp}
theorem RS.set (R : RS A K H0 ex w ρ σ H) {i : Nat} {s : Slot} {v : V} (hi : i < ρ.length) (hs : SlotR A K H0 ex w H s v) (hm : s.mine = true → ∀ (j : Nat) (t : Slot) (a : Addr), j ≠ i → ρ[j]? = some (some t) → t.mine = true → v = .ref a → σ[j]? ≠ some (some (.ref a))) :
    RS A K H0 ex w (ρ.set i (some s)) (σ.set i (some v)) H where
  len := by rw [List.length_set, List.length_set]; exact R.len
  sl := fun j t q => by
    by_cases e : j = i
    · subst e
      rw [List.getElem?_set_self hi] at q
      cases q
      refine ⟨v, ?_, hs⟩
      rw [List.getElem?_set_self (by rw [R.len]; exact hi)]
    · rw [List.getElem?_set_ne (Ne.symm e)] at q
      obtain ⟨v', h1, h2⟩ := R.sl j t q
      exact ⟨v', by rw [List.getElem?_set_ne (Ne.symm e)]; exact h1, h2⟩
  ds := fun j k s1 t1 a hjk q1 m1 q2 m2 v1 v2 => by
    by_cases e : j = i
    · subst e
      rw [List.getElem?_set_self hi] at q1
      rw [List.getElem?_set_self (by rw [R.len]; exact hi)] at v1
      cases q1
      have hv : v = .ref a := Option.some.inj (Option.some.inj v1)
      rw [List.getElem?_set_ne hjk] at q2 v2
      exact hm m1 k t1 a (Ne.symm hjk) q2 m2 hv v2
    · by_cases e2 : k = i
      · subst e2
        rw [List.getElem?_set_self hi] at q2
        rw [List.getElem?_set_self (by rw [R.len]; exact hi)] at v2
        cases q2
        have hv : v = .ref a := Option.some.inj (Option.some.inj v2)
        rw [List.getElem?_set_ne (Ne.symm hjk)] at q1 v1
        exact hm m2 j s1 a hjk q1 m1 hv v1
      · rw [List.getElem?_set_ne (Ne.symm e)] at q1 v1
        rw [List.getElem?_set_ne (Ne.symm e2)] at q2 v2
        exact R.ds j k s1 t1 a hjk q1 m1 q2 m2 v1 v2
theorem RS.setv (R : RS A K H0 ex w ρ σ H) {i : Nat} {d : D} {v : V} (hi : i < ρ.length) (r : RD A K w d v) : RS A K H0 ex w (ρ.set i (some (.v d))) (σ.set i (some v)) H :=
  R.set hi r (fun z => nomatch z)
theorem rs_sets : ∀ {is : List Nat} {ds : List D} {vs : List V} {ρ ρ' : Env} {σ : L2.St}, RS A K H0 ex w ρ σ H → Eng.setAll is ds ρ = some ρ' → RDs A K w ds vs → RS A K H0 ex w ρ' (setV is vs σ) H
  | [], [], _, _, _, _, R, e, .nil => by cases e; exact R
  | [], _ :: _, _, _, _, _, _, e, _ => by simp [Eng.setAll] at e
  | _ :: _, [], _, _, _, _, _, e, _ => by simp [Eng.setAll] at e
  | i :: is, d :: ds, _, ρ, ρ', σ, R, e, .cons q r => by
    unfold Eng.setAll at e
    split at e
    · rename_i hi
      have z := rs_sets (R.setv hi q) e r
      exact z
    · cases e
theorem RS.wipe1 (R : RS A K H0 ex w ρ σ H) (i : Nat) : RS A K H0 ex w (ρ.set i none) (σ.set i none) H where
  len := by rw [List.length_set, List.length_set]; exact R.len
  sl := fun j t q => by
    by_cases e : j = i
    · subst e
      by_cases hi : j < ρ.length
      · rw [List.getElem?_set_self hi] at q
        cases q
      · rw [List.getElem?_eq_none (by rw [List.length_set]; omega)] at q
        cases q
    · rw [List.getElem?_set_ne (Ne.symm e)] at q
      obtain ⟨v', h1, h2⟩ := R.sl j t q
      exact ⟨v', by rw [List.getElem?_set_ne (Ne.symm e)]; exact h1, h2⟩
  ds := fun j k s1 t1 a hjk q1 m1 q2 m2 v1 v2 => by
    have h1 : j ≠ i := fun e => by
      subst e
      by_cases hi : j < ρ.length
      · rw [List.getElem?_set_self hi] at q1
        cases q1
      · rw [List.getElem?_eq_none (by rw [List.length_set]; omega)] at q1
        cases q1
    have h2 : k ≠ i := fun e => by
      subst e
      by_cases hi : k < ρ.length
      · rw [List.getElem?_set_self hi] at q2
        cases q2
      · rw [List.getElem?_eq_none (by rw [List.length_set]; omega)] at q2
        cases q2
    rw [List.getElem?_set_ne (Ne.symm h1)] at q1 v1
    rw [List.getElem?_set_ne (Ne.symm h2)] at q2 v2
    exact R.ds j k s1 t1 a hjk q1 m1 q2 m2 v1 v2
theorem RS.wipe (R : RS A K H0 ex w ρ σ H) : ∀ is : List Nat, RS A K H0 ex w (wipeE ρ is) (L2.wipe σ is) H
  | [] => R
  | i :: is => (RS.wipe R is).wipe1 i
end
theorem wipe_comm {σ : L2.St} {i : Nat} {x : Option V} : ∀ {vs : List Nat}, i ∉ vs → wipe (σ.set i x) vs = (wipe σ vs).set i x
  | [], _ => rfl
  | v :: vs, h => by
    have h1 : i ≠ v := fun e => h (by rw [e]; exact List.mem_cons_self)
    have h2 : i ∉ vs := fun e => h (List.mem_cons_of_mem _ e)
    show (wipe (σ.set i x) vs).set v none = ((wipe σ vs).set v none).set i x
    rw [wipe_comm h2, List.set_comm _ _ h1]
theorem wipe_set {σ : L2.St} {i : Nat} {x : Option V} : ∀ {vs : List Nat}, i ∈ vs → wipe (σ.set i x) vs = wipe σ vs
  | [], h => nomatch h
  | v :: vs, h => by
    show (wipe (σ.set i x) vs).set v none = (wipe σ vs).set v none
    by_cases h2 : i ∈ vs
    · rw [wipe_set h2]
    · have e : i = v := by
        rcases List.mem_cons.mp h with e | e
        · exact e
        · exact absurd e h2
      subst e
      rw [wipe_comm h2, List.set_set]
theorem wipe_sets {tg : List Nat} : ∀ {is : List Nat} {vs : List V} {σ : L2.St}, (∀ i ∈ is, i ∈ tg) → wipe (setV is vs σ) tg = wipe σ tg
  | [], _, _, _ => rfl
  | _ :: _, [], _, _ => rfl
  | i :: is, v :: vs, σ, h => by
    show wipe (setV is vs (σ.set i (some v))) tg = wipe σ tg
    rw [wipe_sets fun j hj => h j (List.mem_cons_of_mem _ hj), wipe_set (h i List.mem_cons_self)]
section
variable {P : Prg} {A : Ad} {call : Nat → List D → Store → Res D} {fd : Nat → FuncData} {lv : Nat} {N : List PySem.Str} {sc : Scope} {X : Cx}
/-! ### targets -/
def gSets (is : List Nat) : TGs := fun vs σ H Q => vs.length = is.length ∧ Q (setV is vs σ) H
def gTg (K : PySem.W.Frag) (tg : List Nat) : TG := match tg with
  | [i] => gName i
  | is => gTup K is.length (gSets is)
theorem PGs.mono {es : List Expr} {t t' : TGs} (h : PGs X es t) (m : ∀ v σ H Q, t' v σ H Q → t v σ H Q) : PGs X es t' := ⟨fun pins s σ H v u Q I r q => h.run pins s σ H v u Q I r (m v σ H Q q)⟩
theorem assign_name (es : List Expr) (x : PySem.Str) (p : Pos) (env : PySem.Env) : assignEach (.Name x p :: es) env = (false, assign (.Name x p) env) :: assignEach es env := rfl
theorem pgs_sets {ok : PySem.Str → Bool} (nd : X.N.Nodup) (hN : X.N = N) (hL : ∀ x, ok x = true → Loc X.env.scope x ∧ (X.fn x = true ∨ X.env.scope.names.lookup x = some .local)) : ∀ {is : List Nat} {es : List Expr}, targetsB N ok is es = true → PGs X es (gSets is) ∧ (assignEach es X.env).length = is.length ∧ (assignEach es X.env).findIdx? (·.1) = none
  | [], [], _ => ⟨PGs.mono pgs_nil fun v σ H Q h => ⟨List.length_eq_zero_iff.mp h.1, by
      have : v = [] := List.length_eq_zero_iff.mp h.1
      subst this
      exact h.2⟩, rfl, rfl⟩
  | [], _ :: _, h => by simp [targetsB] at h
  | _ :: _, [], h => by simp [targetsB] at h
  | i :: is, e :: es, h => by
    cases e with
    | Name x p =>
      simp only [targetsB, Bool.and_eq_true, decide_eq_true_eq] at h
      obtain ⟨h1, h2, h3⟩ := pgs_sets nd hN hL h.2
      obtain ⟨hl, hf⟩ := hL x h.1.2
      refine ⟨PGs.mono (pgs_cons (pg_name nd (by rw [hN]; exact h.1.1) hl hf) h1 (by rw [assign_name]; rfl)) fun v σ H Q hq => ?_, by rw [assign_name]; simp [h2], by rw [assign_name, List.findIdx?_cons]; simp [h3]⟩
      obtain ⟨hq1, hq2⟩ := hq
      cases v with
      | nil => simp at hq1
      | cons a r => exact ⟨a, r, rfl, by simpa using hq1, hq2⟩
    | _ => simp [targetsB] at h
theorem pg_tg {ok : PySem.Str → Bool} (calm : X.calm = true) (nd : X.N.Nodup) (hN : X.N = N) (hL : ∀ x, ok x = true → Loc X.env.scope x ∧ (X.fn x = true ∨ X.env.scope.names.lookup x = some .local)) {tg : List Nat} {t : Expr} (h : targetB N ok tg t = true) : PG X t (gTg X.K tg) := by
  cases t with
  | Name x p =>
    unfold targetB at h
    cases tg with
    | nil => cases h
    | cons i r =>
      cases r with
      | nil =>
        simp only [Bool.and_eq_true, decide_eq_true_eq] at h
        obtain ⟨hl, hf⟩ := hL x h.2
        exact pg_name nd (by rw [hN]; exact h.1) hl hf
      | cons _ _ => cases h
  | Tuple es k p =>
    simp only [targetB, Bool.and_eq_true, decide_eq_true_eq] at h
    obtain ⟨h1, h2, h3⟩ := pgs_sets nd hN hL h.2
    have hp := pg_tup (pos := p) (k := k) calm h1 h2 h3
    cases tg with
    | nil => simp at h
    | cons i r =>
      cases r with
      | nil => simp at h
      | cons j r => exact hp
  | _ => simp [targetB] at h
theorem setAll_len : ∀ {is : List Nat} {ds : List D} {ρ ρ' : Env}, setAll is ds ρ = some ρ' → ds.length = is.length
  | [], [], _, _, _ => rfl
  | [], _ :: _, _, _, e => by simp [setAll] at e
  | _ :: _, [], _, _, e => by simp [setAll] at e
  | i :: is, d :: ds, ρ, ρ', e => by
    unfold setAll at e
    split at e
    · simp [setAll_len e]
    · cases e
/-- a target bound as the interpreter binds it -/
theorem bind_step {tg : List Nat} {d : D} {v : V} {w : Wd} {st : Store} {H0 : Hp} {ex : Addr → Prop} {ρ ρ' : Env} {σ : L2.St} {H : Hp} {Q : L2.St → Hp → Prop} (S : SR A X.K w st H) (R : RS A X.K H0 ex w ρ σ H) (r : RD A X.K w d v) (e : bindT tg d ρ = some ρ')
    (k : ∀ σ', RS A X.K H0 ex w ρ' σ' H → (∀ vs, (∀ i ∈ tg, i ∈ vs) → wipe σ' vs = wipe σ vs) → Q σ' H) : gTg X.K tg v σ H Q := by
  unfold bindT at e
  split at e
  · rename_i i
    split at e
    · rename_i hi
      cases e
      exact k _ (R.setv hi r) fun vs hv => wipe_set (hv i List.mem_cons_self)
    · cases e
  · rename_i hne
    cases d with
    | tup ds =>
      obtain ⟨a, vs, rfl, hq, rr⟩ := r.tupl S
      have hlen : ds.length = tg.length := by
        exact setAll_len e
      have fin : gTup X.K tg.length (gSets tg) (.ref a) σ H Q := ⟨a, vs, rfl, hq, by rw [← rr.length, hlen], by rw [← rr.length, hlen], k _ (rs_sets R e rr) fun vs' hv => wipe_sets hv⟩
      unfold gTg
      split
      · rename_i i
        exact absurd rfl (hne i)
      · exact fin
    | _ => cases e
end
end Eng

namespace Eng
open PySem PySem.Spec PyProof.Rows L2
/-! ### what is walked -/
def WkD (A : Ad) (K : PySem.W.Frag) (w1 : Wd) (J : L2.It) (xs : List D) : Prop := ∃ (G : Hp → Prop) (Y : Nat → Hp → V → Hp → Prop), Walk J xs.length G Y ∧ (∀ w2 st2 H2, w1.le w2 → SR A K w2 st2 H2 → G H2) ∧
  ∀ i H x H' w2 st2, i < xs.length → w1.le w2 → SR A K w2 st2 H → Y i H x H' → ∃ w3 d, xs[i]? = some d ∧ Ext no w2 H w3 H' ∧ SR A K w3 st2 H' ∧ RD A K w3 d x
/-- the same where nothing that stands is changed meanwhile -/
def WkC (A : Ad) (K : PySem.W.Frag) (w1 : Wd) (H1 : Hp) (J : L2.It) (xs : List D) : Prop := ∃ (G : Hp → Prop) (Y : Nat → Hp → V → Hp → Prop), Walk J xs.length G Y ∧ (∀ w2 st2 H2, Ext no w1 H1 w2 H2 → SR A K w2 st2 H2 → G H2) ∧
  ∀ i H x H' w2 st2, i < xs.length → Ext no w1 H1 w2 H → SR A K w2 st2 H → Y i H x H' → ∃ w3 d, xs[i]? = some d ∧ Ext no w2 H w3 H' ∧ SR A K w3 st2 H' ∧ RD A K w3 d x
theorem WkD.c {A : Ad} {K : PySem.W.Frag} {w1 : Wd} {H1 : Hp} {J : L2.It} {xs : List D} (h : WkD A K w1 J xs) : WkC A K w1 H1 J xs := by
  obtain ⟨G, Y, h1, h2, h3⟩ := h
  exact ⟨G, Y, h1, fun w2 st2 H2 E S => h2 w2 st2 H2 E.le S, fun i H x H' w2 st2 hi E S y => h3 i H x H' w2 st2 hi E.le S y⟩
section
variable {P : Prg} {A : Ad} {call : Nat → List D → Store → Res D} {fd : Nat → FuncData} {lv : Nat} {N : List PySem.Str} {sc : Scope} {X : Cx}
theorem wk_priv {K : PySem.W.Frag} {w1 : Wd} {H1 : Hp} {a : Addr} {xs : List D} {vs : List V} (h : H1 a = some (.lst vs)) (p : Priv w1 a) (r : RDs A K w1 xs vs) : WkC A K w1 H1 (Itl K a) xs := by
  refine ⟨fun H => SqL K H a vs, YAt vs, by rw [r.length]; exact walk_list, fun w2 st2 H2 E S => SqL.of (E.fr a _ h p.2 (fun z => z)), ?_⟩
  rintro i H x H' w2 st2 hi E S ⟨rfl, y⟩
  obtain ⟨d, h1, h2⟩ := r.getV y
  exact ⟨w2, d, h1, .refl _ _ _, S, h2.mono E.le⟩
theorem wk_list {K : PySem.W.Frag} {w1 : Wd} {a : Addr} {xs : List D} {vs : List V} (h : SqL K w1.G a vs) (r : RDs A K w1 xs vs) : WkD A K w1 (Itl K a) xs := by
  refine ⟨fun H => SqL K H a vs, YAt vs, by rw [r.length]; exact walk_list, fun w2 st2 H2 l S => sqL_mono (fun b o q => S.sub b o (l.g b o q)) h, ?_⟩
  rintro i H x H' w2 st2 hi l S ⟨rfl, y⟩
  obtain ⟨d, h1, h2⟩ := r.getV y
  exact ⟨w2, d, h1, .refl _ _ _, S, h2.mono l⟩
theorem wk_tup {K : PySem.W.Frag} {w1 : Wd} {a : Addr} {xs : List D} {vs : List V} (h : SqT K w1.G a vs) (r : RDs A K w1 xs vs) : WkD A K w1 (Itt K a) xs := by
  refine ⟨fun H => SqT K H a vs, YAt vs, by rw [r.length]; exact walk_tup, fun w2 st2 H2 l S => sqT_mono (fun b o q => S.sub b o (l.g b o q)) h, ?_⟩
  rintro i H x H' w2 st2 hi l S ⟨rfl, y⟩
  obtain ⟨d, h1, h2⟩ := r.getV y
  exact ⟨w2, d, h1, .refl _ _ _, S, h2.mono l⟩
theorem rng_len (lo : Int) (n : Nat) : (rngD lo n).length = n := by simp [rngD]
theorem rng_get (lo : Int) (n i : Nat) (h : i < n) : (rngD lo n)[i]? = some (.int (lo + (i : Nat))) := by simp [rngD, h]
theorem wk_range {K : PySem.W.Frag} {w1 : Wd} {lo : Int} {n : Nat} : WkD A K w1 (Itr lo n) (rngD lo n) := by
  refine ⟨fun _ => True, YFn fun i => .int (lo + i), by rw [rng_len]; exact walk_range, fun _ _ _ _ _ => trivial, ?_⟩
  rintro i H x H' w2 st2 hi l S ⟨rfl, rfl⟩
  rw [rng_len] at hi
  exact ⟨w2, _, rng_get lo n i hi, .refl _ _ _, S, .int _⟩
theorem enum_len (xs : List D) : (enumD xs).length = xs.length := by simp [enumD]
theorem enum_get {xs : List D} {i : Nat} {d : D} (h : xs[i]? = some d) : (enumD xs)[i]? = some (.tup [.int (i : Nat), d]) := by
  unfold enumD
  rw [List.getElem?_map, List.getElem?_zipIdx, h]
  simp
theorem wk_enum {K : PySem.W.Frag} {w1 : Wd} {a : Addr} {xs : List D} {vs : List V} (h : SqL K w1.G a vs) (r : RDs A K w1 xs vs) : WkD A K w1 (Ite K a) (enumD xs) := by
  refine ⟨fun H => SqL K H a vs, YPair (fun i => some (.int (i : Nat))) (fun i => vs[i]?), by rw [enum_len, r.length]; exact walk_enum, fun w2 st2 H2 l S => sqL_mono (fun b o q => S.sub b o (l.g b o q)) h, ?_⟩
  rintro i H x H' w2 st2 hi l S ⟨T, x1, y1, rfl, hT, rfl, q1, q2⟩
  cases q1
  obtain ⟨d, h1, h2⟩ := r.getV q2
  have E := ext_add (o := .tup [.int (i : Nat), y1]) S hT
  refine ⟨w2.add T (.tup [.int (i : Nat), y1]), _, enum_get h1, E, sr_add S hT, .tup (SqT.of (show upd w2.G T _ T = _ from upd_same)) (.cons (.int _) (.cons ((h2.mono l).mono E.le) .nil))⟩
variable (P A call X)
def tI (it : Eng.It) : TI := fun σ H R => ∃ w ρ st H0 ex xs st', SR A X.K w st H ∧ RS A X.K H0 ex w ρ σ H ∧ evIt P.tab call it ρ st = .ok xs st' ∧ ∀ J H1 w1, Ext no w H w1 H1 → SR A X.K w1 st' H1 → WkD A X.K w1 J xs → R J H1
def tIC (it : Eng.It) : TI := fun σ H R => ∃ w ρ st H0 ex xs st', SR A X.K w st H ∧ RS A X.K H0 ex w ρ σ H ∧ evIt P.tab call it ρ st = .ok xs st' ∧ ∀ J H1 w1, Ext no w H w1 H1 → SR A X.K w1 st' H1 → WkC A X.K w1 H1 J xs → R J H1
def tIfs (cs : Cs) : TT := fun σ H Q => ∃ w ρ st H0 ex k st', SR A X.K w st H ∧ RS A X.K H0 ex w ρ σ H ∧ evIfs P.tab call cs ρ st = .ok k st' ∧ ∀ H' w', Ext no w H w' H' → SR A X.K w' st' H' → Q k H'
variable {P A call X}
theorem pi_c {it : Eng.It} {tg e : Expr} (h : PI X tg e (tI P A call X it)) : PI X tg e (tIC P A call X it) := by
  constructor
  rintro pins s σ H R I ⟨w, ρ, st, H0, ex, xs, st', S, RR, e1, k⟩
  exact h.run pins s σ H R I ⟨w, ρ, st, H0, ex, xs, st', S, RR, e1, fun J H1 w1 E1 S1 W => k J H1 w1 E1 S1 W.c⟩
theorem pi_bor (cx : Cxt P A call fd lv N sc X) {i : Nat} {x : PySem.Str} {tg : Expr} {p : Pos} (h : nameB N sc i x = true) : PI X tg (.Name x p) (tIC P A call X (.seq (.bor i))) := by
  constructor
  rintro pins s σ H R I ⟨w, ρ, st, H0, ex, xs, st', S, RR, e1, k⟩
  simp only [evIt] at e1
  obtain ⟨y, st1, e2, e3⟩ := Res.bind_is e1
  have e4 := e2
  simp only [ev] at e2
  split at e2
  · rename_i ys hs
    cases e2
    cases e3
    refine (pi_list (snd_bor cx h)).run pins s σ H R I ⟨w, ρ, st, H0, ex, _, st, S, RR, e4, fun v H1 w1 E1 S1 q => ?_⟩
    have q := q.rx
    rcases q with z | ⟨zs, a, vs, z1, rfl, z3, z4, z5⟩
    · cases z with
      | lst hz rz => exact ⟨_, rfl, ⟨_, sqL_mono S1.sub hz⟩, k _ _ _ E1 S1 (wk_list hz rz).c⟩
    · cases z1
      exact ⟨_, rfl, ⟨_, SqL.of z3⟩, k _ _ _ E1 S1 (wk_priv z3 z5 z4)⟩
  · cases e2
theorem bor_i (cx : Cxt P A call fd lv N sc X) {it : Eng.It} {tg e : Expr} (h : borI N sc it e = true) : PI X tg e (tIC P A call X it) := by
  unfold borI at h
  split at h
  · exact pi_bor cx h
  · cases h
theorem pi_seq {c : C} {tg e : Expr} (hb : (!c.isBor) = true) (h : PE X e (tE P A call X c)) : PI X tg e (tI P A call X (.seq c)) := by
  constructor
  intro pins s σ H R I q
  obtain ⟨w, ρ, st, H0, ex, xs, st', S, RR, e1, k⟩ := q
  simp only [evIt] at e1
  obtain ⟨x, st1, e2, e3⟩ := Res.bind_is e1
  cases x with
  | lst ys =>
    cases e3
    refine (pi_list h).run pins s σ H R I ⟨w, ρ, st, H0, ex, _, st', S, RR, e2, fun v H1 w1 E1 S1 p => ?_⟩
    have r := p.rd hb
    cases r with
    | lst q r => exact ⟨_, rfl, ⟨_, sqL_mono S1.sub q⟩, k _ _ _ E1 S1 (wk_list q r)⟩
  | tup ys =>
    cases e3
    refine (pi_tup h).run pins s σ H R I ⟨w, ρ, st, H0, ex, _, st', S, RR, e2, fun v H1 w1 E1 S1 p => ?_⟩
    have r := p.rd hb
    cases r with
    | tup q r => exact ⟨_, rfl, ⟨_, sqT_mono S1.sub q⟩, k _ _ _ E1 S1 (wk_tup q r)⟩
  | _ => cases e3
theorem gl_rng (cx : Cxt P A call fd lv N sc X) {x : PySem.Str} (hg : glB sc x = true) (hf : P.blt.contains x = true) : Gl X x ∧ X.mg x = none := ⟨(gl_of cx hg).1, cx.gok.free x hf⟩
theorem pi_r1 (cx : Cxt P A call fd lv N sc X) {a : C} {tg e : Expr} {x : PySem.Str} {p pos : Pos} (hx : x = ("range" : PySem.Str)) (hg : glB sc x = true) (hf : P.blt.contains x = true) (hb : (!a.isBor) = true) (hs : shape e = true) (h : PE X e (tE P A call X a)) : PI X tg (.Call (.Name x p) [e] [] pos) (tI P A call X (.rng1 a)) := by
  subst hx
  obtain ⟨g1, g2⟩ := gl_rng cx hg hf
  refine PI.mono (pi_range1 g1 g2 (pa_cons h pa_nil (star_of [] _ hs)) (by rw [star_of [] _ hs]; rfl)) ?_
  rintro σ H R ⟨w, ρ, st, H0, ex, xs, st', S, RR, e1, k⟩
  simp only [evIt] at e1
  obtain ⟨y, st1, e2, e3⟩ := Res.bind_is e1
  refine ⟨w, ρ, st, H0, ex, y, st1, S, RR, e2, fun v H1 w1 E1 S1 pv => ?_⟩
  have r := pv.rd hb
  cases y with
  | int n =>
    dsimp only at e3
    split at e3
    · rename_i hw
      rw [Bool.and_eq_true] at hw
      cases e3
      cases r
      refine ⟨n, rfl, of_decide_eq_true hw.1, of_decide_eq_true hw.2, k _ _ _ E1 S1 wk_range⟩
    · cases e3
  | _ => cases e3
theorem pi_r2 (cx : Cxt P A call fd lv N sc X) {a b : C} {tg e e2 : Expr} {x : PySem.Str} {p pos : Pos} (hx : x = ("range" : PySem.Str)) (hg : glB sc x = true) (hf : P.blt.contains x = true) (hb : (!a.isBor) = true) (hs : shape e = true) (h : PE X e (tE P A call X a)) (hb2 : (!b.isBor) = true) (hs2 : shape e2 = true) (h2 : PE X e2 (tE P A call X b)) :
    PI X tg (.Call (.Name x p) [e, e2] [] pos) (tI P A call X (.rng2 a b)) := by
  subst hx
  obtain ⟨g1, g2⟩ := gl_rng cx hg hf
  refine PI.mono (pi_range2 g1 g2 (pa_cons h (pa_cons h2 pa_nil (star_of [] _ hs2)) (star_of [e2] _ hs)) (by rw [star_of [e2] _ hs, star_of [] _ hs2]; rfl) (by rw [star_of [] _ hs2]; rfl)) ?_
  rintro σ H R ⟨w, ρ, st, H0, ex, xs, st', S, RR, e1, k⟩
  simp only [evIt] at e1
  obtain ⟨y, st1, q2, e3⟩ := Res.bind_is e1
  obtain ⟨z, st2, q3, e3⟩ := Res.bind_is e3
  refine ⟨w, ρ, st, H0, ex, y, st1, S, RR, q2, fun v H1 w1 E1 S1 pv => ⟨w1, ρ, st1, H0, ex, z, st2, S1, RR.ext E1, q3, fun u H2 w2 E2 S2 pu => ?_⟩⟩
  have r := pv.rd hb
  have r2 := pu.rd hb2
  cases y with
  | int i =>
    cases z with
    | int j =>
      dsimp only at e3
      split at e3
      · rename_i hw
        simp only [Bool.and_eq_true, decide_eq_true_eq] at hw
        cases e3
        cases r
        cases r2
        exact ⟨i, j, rfl, ⟨hw.1.1.1, hw.1.1.2, hw.1.2, hw.2⟩, k _ _ _ (E1.trans E2) S2 wk_range⟩
      · cases e3
    | _ => cases e3
  | _ => cases e3
/-! ### a private list is written, is frozen -/
theorem zip_snd (f : Nat → PySem.Str) : ∀ tg : List Nat, ((tg.map f).zip tg).map (·.2) = tg
  | [] => rfl
  | i :: r => by simp [zip_snd f r]
theorem cxt_blk (cx : Cxt P A call fd lv N sc X) {scope : Scope} (s : Shared) (H : Hp) (Cc : Addr) (cl : List (PySem.Str × Addr)) (fp : List Addr) : Cxt P A call fd lv N (relS scope sc) (X.blk s H scope (compEnvC scope cl Cc X.env) fp) where
  sc := by
    show relS scope X.env.scope = _
    rw [cx.sc]
  N := cx.N
  nd := cx.nd
  calm := cx.calm
  room := cx.room
  gok := cx.gok
  fok := cx.fok
  fog := cx.fog
  gd := cx.gd
  ini := cx.ini
  bnk := cx.bnk
  cok := cx.cok
  fos := cx.fos
  cold := cx.cold
  bnd := cx.bnd
  bnF := cx.bnF
theorem own_loc {scope : Scope} {x : PySem.Str} (h : ownB scope x = true) : Loc (relS scope sc) x ∧ ((scope.names.lookup x == some .cell) = true ∨ (relS scope sc).names.lookup x = some .local) := by
  unfold ownB at h
  split at h
  · rename_i e
    have z := lookup_relS_keep (sc := sc) (by decide) e
    exact ⟨.inl z, .inr z⟩
  · rename_i e
    have z := lookup_relS_keep (sc := sc) (by decide) e
    exact ⟨.inr z, .inl (by rw [e]; rfl)⟩
  · cases h
theorem wipe_wipe' (σ : L2.St) (tg : List Nat) : ∀ vs : List Nat, (∀ i ∈ vs, i ∈ tg) → wipe (wipe σ vs) tg = wipe σ tg
  | [], _ => rfl
  | v :: vs, h => by
    show wipe ((wipe σ vs).set v none) tg = wipe σ tg
    rw [wipe_set (h v List.mem_cons_self), wipe_wipe' σ tg vs fun i hi => h i (List.mem_cons_of_mem _ hi)]
theorem wipe_wipe (σ : L2.St) (tg : List Nat) : wipe (wipe σ tg) tg = wipe σ tg := wipe_wipe' σ tg tg fun _ h => h
variable (P A call X) in
/-- an expression that makes a list anew -/
def tF (c : C) : TE := fun σ H Q => ∃ w ρ st H0 ex d st', SR A X.K w st H ∧ RS A X.K H0 ex w ρ σ H ∧ ev P.tab call c ρ st = .ok d st' ∧ ∀ v H' w', Ext no w H w' H' → SR A X.K w' st' H' → FR A X.K w' H H' d v → Q v H'
theorem te_tf {c : C} (hc : c.isBor = false) : ∀ σ H Q, tE P A call X c σ H Q → tF P A call X c σ H Q := by
  rintro σ H Q ⟨w, ρ, st, H0, ex, d, st', S, R, e, k⟩
  refine ⟨w, ρ, st, H0, ex, d, st', S, R, e, fun v H' w' E' S' f => ?_⟩
  obtain ⟨w2, E2, S2, q2⟩ := f.frz S' E'
  exact k v H' w2 E2 S2 (pv_rd hc q2)
/-- the comprehension's turns -/
theorem lc_stepF (elt : C) (tg : List Nat) (it : Eng.It) (ifs : Cs) (hbe : (!elt.isBor) = true) : ∀ σ H Q, tF P A call X (.lc elt tg it ifs) σ H Q → tLc (tIC P A call X it) (gTg X.K tg) (tIfs P A call X ifs) (tE P A call X elt) tg σ H Q := by
  rintro σ H Q ⟨w, ρ, st, H0, ex, d, st', S, R, e, k⟩
  simp only [ev] at e
  obtain ⟨xs, st1, e1, e⟩ := Res.bind_is e
  split at e
  · cases e
  rename_i hlen
  obtain ⟨ys, st2, e2, e3⟩ := Res.bind_is e
  cases e3
  refine ⟨w, ρ, st, H0, ex, xs, st1, S, R, e1, fun J H1 w1 E1 S1 W => fun L hL => ?_⟩
  obtain ⟨G, Y, wk, hG, hY⟩ := W
  generalize hf : (fun d st2 => match bindT tg d (wipeE ρ tg) with
      | some ρ1 => (evIfs P.tab call ifs ρ1 st2).bind fun k st3 => if k then (ev P.tab call elt ρ1 st3).bind fun y st4 => .ok (some y) st4 else .ok none st3
      | none => (.bad : Res (Option D))) = f at e2
  refine lc_it wk (fun i H => ∃ w2 sti acc vs rest, Ext no w1 H1 w2 H ∧ SR A X.K w2 sti H ∧ Priv w2 L ∧ H L = some (.lst vs) ∧ RDs A X.K w2 acc vs ∧ acc.length ≤ i ∧ mapR f (xs.drop i) sti = .ok rest st' ∧ ys = acc ++ rest) ?_ ?_ ?_ ?_
  · exact ⟨w1, st1, [], [], ys, ext_new (st := st1) hL, sr_new S1 hL, priv_new S1 hL, upd_same, .nil, Nat.le_refl _, by simpa using e2, rfl⟩
  · rintro i H2 _ ⟨w2, sti, acc, vs, rest, E2, S2, _⟩
    exact hG w2 sti H2 E2 S2
  · rintro i x H2 H3 hi ⟨w2, sti, acc, vs, rest, E2, S2, pr, hq, ra, hacc, em, hys⟩ y
    obtain ⟨w3, d, hd, E3, S3, rd⟩ := hY i H2 x H3 w2 sti hi E2 S2 y
    have hdrop : xs.drop i = d :: xs.drop (i + 1) := by
      have hi' := (List.getElem?_eq_some_iff.mp hd)
      obtain ⟨h1, h2⟩ := hi'
      rw [List.drop_eq_getElem_cons h1, h2]
    rw [hdrop] at em
    simp only [mapR] at em
    obtain ⟨o, st3, f1, em⟩ := Res.bind_is em
    obtain ⟨rest', st4, f2, em⟩ := Res.bind_is em
    have R3 : RS A X.K H0 ex w3 (wipeE ρ tg) (wipe σ tg) H3 := (R.ext (E1.trans (E2.trans E3))).wipe tg
    rw [← hf] at f1
    dsimp only at f1
    cases hb : bindT tg d (wipeE ρ tg) with
    | none => rw [hb] at f1; cases f1
    | some ρ1 =>
      rw [hb] at f1
      dsimp only at f1
      obtain ⟨kb, st5, f3, f1⟩ := Res.bind_is f1
      refine bind_step S3 R3 rd hb fun σ2 R4 hw => ⟨?_, w3, ρ1, sti, H0, ex, kb, st5, S3, R4, f3, fun H5 w5 E5 S5 => ?_⟩
      · rw [hw tg fun i hi => hi]
        exact wipe_wipe _ _
      have q5 := E5.fr L _ (E3.fr L _ hq pr.2 (fun z => z)) (pr.ext hq E3).2 (fun z => z)
      have p5 := (pr.ext hq E3).ext (E3.fr L _ hq pr.2 (fun z => z)) E5
      have r5 := (ra.mono E3.le).mono E5.le
      cases kb with
      | false =>
        simp only [Bool.false_eq_true, if_false] at f1 ⊢
        cases f1
        cases em
        exact ⟨w5, _, acc, vs, _, E2.trans (E3.trans E5), S5, p5, q5, r5, Nat.le_succ_of_le hacc, f2, hys⟩
      | true =>
        simp only [if_true] at f1 ⊢
        obtain ⟨y1, st6, f4, f1⟩ := Res.bind_is f1
        cases f1
        cases em
        refine ⟨w5, ρ1, st5, H0, ex, y1, _, S5, R4.ext E5, f4, fun v H6 w6 E6 S6 pv => ?_⟩
        have rv := pv.rd hbe
        have q6 := E6.fr L _ q5 p5.2 (fun z => z)
        have p6 := p5.ext q5 E6
        refine ⟨vs, q6, ?_, w6, _, acc ++ [y1], vs ++ [v], rest', ext_wr (E2.trans (E3.trans (E5.trans E6))) hL, sr_write S6 p6, p6, upd_same, (r5.mono E6.le).append (.cons rv .nil), by simp; omega, f2, by rw [hys]; simp⟩
        rw [← ra.length, sizeLine_eq]
        omega
  · rintro H2 ⟨w2, sti, acc, vs, rest, E2, S2, pr, hq, ra, hacc, em, hys⟩
    rw [List.drop_length] at em
    cases em
    rw [List.append_nil] at hys
    subst hys
    exact k _ _ w2 (E1.trans E2) S2 ⟨_, L, vs, rfl, rfl, hq, ra, pr, E1.none_of hL⟩
theorem lc_step (elt : C) (tg : List Nat) (it : Eng.It) (ifs : Cs) (hbe : (!elt.isBor) = true) : ∀ σ H Q, tE P A call X (.lc elt tg it ifs) σ H Q → tLc (tIC P A call X it) (gTg X.K tg) (tIfs P A call X ifs) (tE P A call X elt) tg σ H Q :=
  fun σ H Q h => lc_stepF elt tg it ifs hbe σ H Q (te_tf rfl σ H Q h)
end
end Eng

/-! zip of two things, each a list or a tuple. -/
namespace Eng
open PySem
/-- true: a list; false: a tuple -/
def SqB (g : Bool) (h : Heap) (l : Addr) (xs : Array Value) : Prop := if g = true then h.IsList l xs else h.IsTuple l xs
def ItB (g : Bool) (h : Heap) (a l : Addr) (i : Nat) : Prop := if g = true then h.IsListIter a l i else h.IsTupleIter a l i
theorem SqB.but {g : Bool} {h h' : Heap} {c l : Addr} {xs : Array Value} (q : SqB g h l xs) (e : Heap.ExtBut c h h') (ne : l ≠ c) : SqB g h' l xs := by
  cases g
  · exact Heap.IsTuple.extBut (show h.IsTuple l xs from q) e ne
  · exact Heap.IsList.extBut (show h.IsList l xs from q) e ne
theorem ItB.but {g : Bool} {h h' : Heap} {c a l : Addr} {i : Nat} (q : ItB g h a l i) (e : Heap.ExtBut c h h') (ne : a ≠ c) : ItB g h' a l i := by
  cases g
  · exact Heap.IsTupleIter.extBut (show h.IsTupleIter a l i from q) e ne
  · exact Heap.IsListIter.extBut (show h.IsListIter a l i from q) e ne
theorem ItB.to {g : Bool} {h h' : Heap} {a l : Addr} {i : Nat} (q : ItB g h a l i) (e : ∀ o, h.get? a = some o → h'.get? a = some o) : ItB g h' a l i := by
  cases g
  · exact Heap.IsTupleIter.at (show h.IsTupleIter a l i from q) e
  · exact Heap.IsListIter.at (show h.IsListIter a l i from q) e
theorem ItB.obj {g : Bool} {h : Heap} {a l : Addr} {i : Nat} (q : ItB g h a l i) : ∃ o, h.get? a = some o ∧ ∀ v, o.data ≠ .cell v := by
  cases g
  · obtain ⟨o, e, _, d⟩ := (show h.IsTupleIter a l i from q)
    exact ⟨o, e, fun v z => by rw [d] at z; cases z⟩
  · obtain ⟨o, e, _, d⟩ := (show h.IsListIter a l i from q)
    exact ⟨o, e, fun v z => by rw [d] at z; cases z⟩
section
variable {prog : Program} {w : World} {A : Around} {E : Value → Shared → Prop} {s : Shared}
theorem nextB_item {g : Bool} {a l : Addr} {i : Nat} {items : Array Value} {x : Value} {Q : Value → Shared → Prop} (hi : ItB g s.heap a l i) (hs : SqB g s.heap l items) (hx : items[i]? = some x)
    (post : ∀ h', ItB g h' a l (i + 1) → Heap.SameBut a s.heap h' → Q x { s with heap := h' }) : wpAny (model prog w) A (Builtin.SmallTypes.nextOf (.ref a)) Q E s := by
  cases g
  · exact RZ.nextOf_tuple_item hi hs hx post
  · exact wpAny_nextOf_list_item hi hs hx post
theorem nextB_end {g : Bool} {a l : Addr} {i : Nat} {items : Array Value} {Q : Value → Shared → Prop} (hh : A.handled = none) (hi : ItB g s.heap a l i) (hs : SqB g s.heap l items) (hx : items[i]? = none)
    (post : ∀ h' e, Heap.ExtBut a s.heap h' → (∃ o, h'.get? e = some o ∧ o.cls = .type "StopIteration") → E (.ref e) { s with heap := h' }) : wpAny (model prog w) A (Builtin.SmallTypes.nextOf (.ref a)) Q E s := by
  cases g
  · exact RZ.nextOf_tuple_end hh hi hs hx post
  · exact wpAny_nextOf_list_end hh hi hs hx post
theorem zipB_item {g1 g2 : Bool} {zp ti to j1 j2 m1 m2 : Addr} {k1 k2 : Nat} {xs ys : Array Value} {x y p q : Value} {Q : Value → Shared → Prop} (ap : ZipApart zp ti to j1 j2 m1 m2)
    (z0 : IsZip s.heap zp ti to .none) (t0 : IsPair s.heap ti (.ref j1) (.ref j2)) (u0 : IsPair s.heap to p q)
    (a1 : ItB g1 s.heap j1 m1 k1) (a2 : ItB g2 s.heap j2 m2 k2) (b1 : SqB g1 s.heap m1 xs) (b2 : SqB g2 s.heap m2 ys) (hx : xs[k1]? = some x) (hy : ys[k2]? = some y)
    (post : ∀ h', IsZip h' zp ti to (rawInt s.heap.objs.size) → IsPair h' to x y → ItB g1 h' j1 m1 (k1 + 1) → ItB g2 h' j2 m2 (k2 + 1) → IsPair h' s.heap.objs.size x y → h'.objs.size = s.heap.objs.size + 1 →
      (∀ c o, c ≠ zp → c ≠ to → c ≠ j1 → c ≠ j2 → s.heap.get? c = some o → h'.get? c = some o) → Q (.ref s.heap.objs.size) { s with heap := h' }) :
    wpAny (model prog w) A (Builtin.«zip.__next__» ⟨[.ref zp], []⟩) (fun fin s' => ∃ v, fin = .done (.ret v) ∧ Q v s') E s := by
  show wpAny _ _ (field (.ref zp) 2 >>= _) _ _ _
  refine wpAny_bind (wpAny_field z0 rfl (x := .bool false) rfl ?_)
  show wpAny _ _ (field (.ref zp) 3 >>= _) _ _ _
  refine wpAny_bind (wpAny_field z0 rfl (x := .ref ti) rfl ?_)
  refine wpAny_bind (wpAny_seqItems t0 rfl ?_)
  show wpAny _ _ (Builtin.SmallTypes.ownedTupleIsFree (.ref zp) >>= _) _ _ _
  refine wpAny_bind ?_
  simp only [Builtin.SmallTypes.ownedTupleIsFree]
  refine wpAny_bind (wpAny_field z0 rfl (x := .none) rfl (wpAny_pure ?_))
  simp only [if_true]
  refine wpAny_bind (wpAny_rule ?_)
  refine wpAny_bind (wpAny_field z0 rfl (x := .ref to) rfl ?_)
  refine wpAny_bind (wpAny_setField_rec z0 (by simp) fun f1 z1 e1 => ?_)
  replace z1 : IsZip f1 zp ti to .ellipsis := z1
  refine wpAny_bind ?_
  simp only [List.zipIdx_cons, List.forIn_cons, List.zipIdx_nil, List.forIn_nil]
  refine wpAny_bind (wpAny_bind (wpAny_onRaise ?_))
  show wpAny _ _ (Builtin.SmallTypes.nextOf (.ref j1) >>= _) _ _ _
  refine wpAny_bind (nextB_item (a1.but e1.extBut ap.i1z) (b1.but e1.extBut ap.l1z) hx fun f2 a1' e2 => wpAny_pure ?_)
  have u2 : IsPair f2 to p q := e2.extBut _ _ ap.TOi1 (e1.extBut _ _ ap.TOz u0)
  refine wpAny_bind (wpAny_seqItems u2 rfl ?_)
  refine wpAny_bind (wpAny_updateSeq_pair u2 fun f3 u3 e3 => ?_)
  replace u3 : IsPair f3 to x q := u3
  refine wpAny_bind (wpAny_letGo (wpAny_pure ?_))
  refine wpAny_bind (wpAny_bind (wpAny_onRaise ?_))
  show wpAny _ _ (Builtin.SmallTypes.nextOf (.ref j2) >>= _) _ _ _
  refine wpAny_bind (nextB_item (((a2.but e1.extBut ap.i2z).but e2.extBut ap.i12.symm).but e3.extBut ap.TOi2.symm) (((b2.but e1.extBut ap.l2z).but e2.extBut ap.l2i1).but e3.extBut ap.l2TO) hy fun f4 a2' e4 => wpAny_pure ?_)
  have u4 : IsPair f4 to x q := e4.extBut _ _ ap.TOi2 u3
  refine wpAny_bind (wpAny_seqItems u4 rfl ?_)
  refine wpAny_bind (wpAny_updateSeq_pair u4 fun f5 u5 e5 => ?_)
  replace u5 : IsPair f5 to x y := u5
  refine wpAny_bind (wpAny_letGo (wpAny_pure (wpAny_pure ?_)))
  refine wpAny_bind (wpAny_seqItems u5 rfl ?_)
  refine wpAny_bind (wpAny_newTuple ?_)
  have size5 : f5.objs.size = s.heap.objs.size := by rw [e5.1, e4.1, e3.1, e2.1, e1.1]
  have z5 : IsZip f5 zp ti to .ellipsis := e5.extBut _ _ ap.TOz.symm (e4.extBut _ _ ap.i2z.symm (e3.extBut _ _ ap.TOz.symm (e2.extBut _ _ ap.i1z.symm z1)))
  have kept5 : ∀ c o, c ≠ zp → c ≠ to → c ≠ j1 → c ≠ j2 → s.heap.get? c = some o → f5.get? c = some o := fun c o n1 n2 n3 n4 e =>
    e5.extBut _ _ n2 (e4.extBut _ _ n4 (e3.extBut _ _ n2 (e2.extBut _ _ n3 (e1.extBut _ _ n1 e))))
  have c1 : ItB g1 f5 j1 m1 (k1 + 1) := ((a1'.but e3.extBut ap.TOi1.symm).but e4.extBut ap.i12).but e5.extBut ap.TOi1.symm
  have c2 : ItB g2 f5 j2 m2 (k2 + 1) := a2'.but e5.extBut ap.TOi2.symm
  have ltz : zp < f5.objs.size := Heap.lt_size z5
  show wpAny _ _ (Builtin.SmallTypes.ownedTupleHandOut (.ref zp) (.ref f5.objs.size) >>= _) _ _ _
  refine wpAny_bind ?_
  simp only [Builtin.SmallTypes.ownedTupleHandOut]
  have z6 : IsZip (f5.push { cls := .type "tuple", data := .seq #[x, y] }) zp ti to .ellipsis := Heap.get?_push_of_some _ z5
  refine wpAny_bind (wpAny_setField_rec z6 (by simp) fun f7 z7 e7 => ?_)
  replace z7 : IsZip f7 zp ti to (rawInt f5.objs.size) := z7
  refine wpAny_setField_rec z7 (by simp) fun f8 z8 e8 => ?_
  replace z8 : IsZip f8 zp ti to (rawInt f5.objs.size) := z8
  have up : ∀ c o, c ≠ zp → f5.get? c = some o → f8.get? c = some o := fun c o n1 e => e8.extBut _ _ n1 (e7.extBut _ _ n1 (Heap.get?_push_of_some _ e))
  have t8 : IsPair f8 f5.objs.size x y := e8.extBut _ _ (Nat.ne_of_gt ltz) (e7.extBut _ _ (Nat.ne_of_gt ltz) (Heap.get?_push_size _ rfl))
  have size8 : f8.objs.size = f5.objs.size + 1 := by rw [e8.1, e7.1, Heap.size_push]
  rw [size5] at z8 t8 size8
  refine wpAny_pure ⟨_, rfl, ?_⟩
  show Q (.ref f5.objs.size) _
  rw [size5]
  exact post f8 z8 (up _ _ ap.TOz u5) (c1.to fun o e => up _ o ap.i1z e) (c2.to fun o e => up _ o ap.i2z e) t8 size8 fun c o n1 n2 n3 n4 e => up c o n1 (kept5 c o n1 n2 n3 n4 e)
theorem zipB_end {g1 g2 : Bool} {zp ti to j1 j2 m1 m2 : Addr} {k1 k2 : Nat} {xs ys : Array Value} {p q : Value} {Q : PySem.Fin → Shared → Prop} (hh : A.handled = none) (ap : ZipApart zp ti to j1 j2 m1 m2)
    (z0 : IsZip s.heap zp ti to .none) (t0 : IsPair s.heap ti (.ref j1) (.ref j2)) (u0 : IsPair s.heap to p q)
    (a1 : ItB g1 s.heap j1 m1 k1) (a2 : ItB g2 s.heap j2 m2 k2) (b1 : SqB g1 s.heap m1 xs) (b2 : SqB g2 s.heap m2 ys) (fin : xs[k1]? = none ∨ ys[k2]? = none)
    (post : ∀ h' e, (∀ c o, c ≠ zp → c ≠ to → c ≠ j1 → c ≠ j2 → s.heap.get? c = some o → h'.get? c = some o) → (∃ o, h'.get? e = some o ∧ o.cls = .type "StopIteration") → E (.ref e) { s with heap := h' }) :
    wpAny (model prog w) A (Builtin.«zip.__next__» ⟨[.ref zp], []⟩) Q E s := by
  show wpAny _ _ (field (.ref zp) 2 >>= _) _ _ _
  refine wpAny_bind (wpAny_field z0 rfl (x := .bool false) rfl ?_)
  show wpAny _ _ (field (.ref zp) 3 >>= _) _ _ _
  refine wpAny_bind (wpAny_field z0 rfl (x := .ref ti) rfl ?_)
  refine wpAny_bind (wpAny_seqItems t0 rfl ?_)
  show wpAny _ _ (Builtin.SmallTypes.ownedTupleIsFree (.ref zp) >>= _) _ _ _
  refine wpAny_bind ?_
  simp only [Builtin.SmallTypes.ownedTupleIsFree]
  refine wpAny_bind (wpAny_field z0 rfl (x := .none) rfl (wpAny_pure ?_))
  simp only [if_true]
  refine wpAny_bind (wpAny_rule ?_)
  refine wpAny_bind (wpAny_field z0 rfl (x := .ref to) rfl ?_)
  refine wpAny_bind (wpAny_setField_rec z0 (by simp) fun f1 z1 e1 => ?_)
  replace z1 : IsZip f1 zp ti to .ellipsis := z1
  refine wpAny_bind ?_
  simp only [List.zipIdx_cons, List.forIn_cons, List.zipIdx_nil, List.forIn_nil]
  refine wpAny_bind (wpAny_bind (wpAny_onRaise ?_))
  show wpAny _ _ (Builtin.SmallTypes.nextOf (.ref j1) >>= _) _ _ _
  cases hx : xs[k1]? with
  | none =>
    refine wpAny_bind (nextB_end hh (a1.but e1.extBut ap.i1z) (b1.but e1.extBut ap.l1z) hx fun f2 e e2 he => ?_)
    obtain ⟨oe, hoe, hce⟩ := he
    have z2 : IsZip f2 zp ti to .ellipsis := e2 _ _ ap.i1z.symm z1
    have nez : e ≠ zp := fun eq => by subst eq; rw [z2] at hoe; cases hoe; simp at hce
    exact wpAny_setField_rec z2 (by simp) fun f3 _ e3 => post f3 e (fun c o n1 _ n3 _ eq => e3.extBut _ _ n1 (e2 _ _ n3 (e1.extBut _ _ n1 eq))) ⟨oe, e3.extBut _ _ nez hoe, hce⟩
  | some x =>
    have hy : ys[k2]? = none := by
      rcases fin with r | r
      · rw [hx] at r; cases r
      · exact r
    refine wpAny_bind (nextB_item (a1.but e1.extBut ap.i1z) (b1.but e1.extBut ap.l1z) hx fun f2 a1' e2 => wpAny_pure ?_)
    have u2 : IsPair f2 to p q := e2.extBut _ _ ap.TOi1 (e1.extBut _ _ ap.TOz u0)
    refine wpAny_bind (wpAny_seqItems u2 rfl ?_)
    refine wpAny_bind (wpAny_updateSeq_pair u2 fun f3 u3 e3 => ?_)
    refine wpAny_bind (wpAny_letGo (wpAny_pure ?_))
    refine wpAny_bind (wpAny_bind (wpAny_onRaise ?_))
    show wpAny _ _ (Builtin.SmallTypes.nextOf (.ref j2) >>= _) _ _ _
    refine wpAny_bind (nextB_end hh (((a2.but e1.extBut ap.i2z).but e2.extBut ap.i12.symm).but e3.extBut ap.TOi2.symm) (((b2.but e1.extBut ap.l2z).but e2.extBut ap.l2i1).but e3.extBut ap.l2TO) hy fun f4 e e4 he => ?_)
    obtain ⟨oe, hoe, hce⟩ := he
    have z4 : IsZip f4 zp ti to .ellipsis := e4 _ _ ap.i2z.symm (e3.extBut _ _ ap.TOz.symm (e2.extBut _ _ ap.i1z.symm z1))
    have nez : e ≠ zp := fun eq => by subst eq; rw [z4] at hoe; cases hoe; simp at hce
    exact wpAny_setField_rec z4 (by simp) fun f5 _ e5 => post f5 e (fun c o n1 n2 n3 n4 eq => e5.extBut _ _ n1 (e4 _ _ n4 (e3.extBut _ _ n2 (e2.extBut _ _ n3 (e1.extBut _ _ n1 eq))))) ⟨oe, e5.extBut _ _ nez hoe, hce⟩
theorem nextZ_item {g1 g2 : Bool} {zp ti to j1 j2 m1 m2 : Addr} {k1 k2 : Nat} {xs ys : Array Value} {x y p q : Value} {Q : Option Value → Shared → Prop} (ap : ZipApart zp ti to j1 j2 m1 m2)
    (z0 : IsZip s.heap zp ti to .none) (t0 : IsPair s.heap ti (.ref j1) (.ref j2)) (u0 : IsPair s.heap to p q)
    (a1 : ItB g1 s.heap j1 m1 k1) (a2 : ItB g2 s.heap j2 m2 k2) (b1 : SqB g1 s.heap m1 xs) (b2 : SqB g2 s.heap m2 ys) (hx : xs[k1]? = some x) (hy : ys[k2]? = some y)
    (post : ∀ h', IsZip h' zp ti to (rawInt s.heap.objs.size) → IsPair h' to x y → ItB g1 h' j1 m1 (k1 + 1) → ItB g2 h' j2 m2 (k2 + 1) → IsPair h' s.heap.objs.size x y → h'.objs.size = s.heap.objs.size + 1 →
      (∀ c o, c ≠ zp → c ≠ to → c ≠ j1 → c ≠ j2 → s.heap.get? c = some o → h'.get? c = some o) → Q (some (.ref s.heap.objs.size)) { s with heap := h' }) :
    wpAny (model prog w) A (pyNext (.ref zp)) Q E s := by
  have ty : s.TypeIs (.ref zp) "zip" := ⟨_, z0, rfl⟩
  unfold pyNext
  refine wpAny_bind (wpAny_attempt (wpAny_callSpecial?_slot (name := Str.ofString "__next__") ty F.slot_zip_next (wpAny_call_entry F.slot_zip_next ty F.entry_zip_next ?_ (F.args_zip_next_1 _))))
  exact zipB_item ap z0 t0 u0 a1 a2 b1 b2 hx hy fun h' r1 r2 r3 r4 r5 r6 r7 => wpAny_pure (post h' r1 r2 r3 r4 r5 r6 r7)
theorem nextZ_end {g1 g2 : Bool} {zp ti to j1 j2 m1 m2 : Addr} {k1 k2 : Nat} {xs ys : Array Value} {p q : Value} {Q : Option Value → Shared → Prop} (hh : A.handled = none) (ap : ZipApart zp ti to j1 j2 m1 m2)
    (z0 : IsZip s.heap zp ti to .none) (t0 : IsPair s.heap ti (.ref j1) (.ref j2)) (u0 : IsPair s.heap to p q)
    (a1 : ItB g1 s.heap j1 m1 k1) (a2 : ItB g2 s.heap j2 m2 k2) (b1 : SqB g1 s.heap m1 xs) (b2 : SqB g2 s.heap m2 ys) (fin : xs[k1]? = none ∨ ys[k2]? = none)
    (post : ∀ h', (∀ c o, c ≠ zp → c ≠ to → c ≠ j1 → c ≠ j2 → s.heap.get? c = some o → h'.get? c = some o) → Q none { s with heap := h' }) : wpAny (model prog w) A (pyNext (.ref zp)) Q E s := by
  have ty : s.TypeIs (.ref zp) "zip" := ⟨_, z0, rfl⟩
  unfold pyNext
  refine wpAny_bind (wpAny_attempt (wpAny_callSpecial?_slot (name := Str.ofString "__next__") ty F.slot_zip_next (wpAny_call_entry F.slot_zip_next ty F.entry_zip_next ?_ (F.args_zip_next_1 _))))
  refine zipB_end hh ap z0 t0 u0 a1 a2 b1 b2 fin fun h' e kept he => ?_
  obtain ⟨o, ho, hc⟩ := he
  exact wpAny_bind (wpAny_isInstance (T := "StopIteration") (b := true) ⟨o, ho, hc⟩ isSubtype_stop (wpAny_pure (post _ kept)))
end
def itName (g : Bool) : String := if g = true then "list_iterator" else "tuple_iterator"
abbrev zH1 (g1 : Bool) (h : Heap) (m1 : Addr) : Heap := h.push { cls := .type (itName g1), data := .fields #[.ref m1, .int 0 0] }
abbrev zH2 (g1 g2 : Bool) (h : Heap) (m1 m2 : Addr) : Heap := (zH1 g1 h m1).push { cls := .type (itName g2), data := .fields #[.ref m2, .int 0 0] }
abbrev zH3 (g1 g2 : Bool) (h : Heap) (m1 m2 : Addr) : Heap := (zH2 g1 g2 h m1 m2).push { cls := .type "tuple", data := .seq #[.ref h.objs.size, .ref (zH1 g1 h m1).objs.size] }
abbrev zH4 (g1 g2 : Bool) (h : Heap) (m1 m2 : Addr) : Heap := (zH3 g1 g2 h m1 m2).push { cls := .type "tuple", data := .seq #[.none, .none] }
abbrev zH5 (g1 g2 : Bool) (h : Heap) (m1 m2 : Addr) : Heap := (zH4 g1 g2 h m1 m2).push { cls := .type "zip", data := .fields #[.none, .bool false, .bool false, .ref (zH2 g1 g2 h m1 m2).objs.size, .ref (zH3 g1 g2 h m1 m2).objs.size] }
theorem zipNew_lt (m1 m2 : Addr) (xs ys : Array Value) :
    Meets (Builtin.«zip.__new__» ⟨[.type "zip", .ref m1, .ref m2], []⟩) (fun _ R s => s.heap.IsList m1 xs ∧ s.heap.IsTuple m2 ys ∧ R (.ok (.ret (.ref (zH4 true false s.heap m1 m2).objs.size))) { s with heap := zH5 true false s.heap m1 m2 }) :=
  .of_wp fun prog w A R s h => by
    obtain ⟨hp, g, d, tk, os⟩ := s; obtain ⟨hl1, hl2, h⟩ := h
    have hsub := sub_zip
    have q1 : Heap.IsList (Shared.heap ⟨hp, g, d, tk, os⟩) m1 xs := hl1
    have q2 : Heap.IsTuple (Shared.heap ⟨hp.push { cls := .type "list_iterator", data := .fields #[.ref m1, .int 0 0] }, g, d, tk, os⟩) m2 ys := Heap.IsTuple.push hl2 _
    wp_walk using wpAny_pyIter_list q1, wpAny_pyIter_tuple q2
    exact ⟨_, rfl, h⟩
theorem zipNew_tl (m1 m2 : Addr) (xs ys : Array Value) :
    Meets (Builtin.«zip.__new__» ⟨[.type "zip", .ref m1, .ref m2], []⟩) (fun _ R s => s.heap.IsTuple m1 xs ∧ s.heap.IsList m2 ys ∧ R (.ok (.ret (.ref (zH4 false true s.heap m1 m2).objs.size))) { s with heap := zH5 false true s.heap m1 m2 }) :=
  .of_wp fun prog w A R s h => by
    obtain ⟨hp, g, d, tk, os⟩ := s; obtain ⟨hl1, hl2, h⟩ := h
    have hsub := sub_zip
    have q1 : Heap.IsTuple (Shared.heap ⟨hp, g, d, tk, os⟩) m1 xs := hl1
    have q2 : Heap.IsList (Shared.heap ⟨hp.push { cls := .type "tuple_iterator", data := .fields #[.ref m1, .int 0 0] }, g, d, tk, os⟩) m2 ys := Heap.IsList.push hl2 _
    wp_walk using wpAny_pyIter_tuple q1, wpAny_pyIter_list q2
    exact ⟨_, rfl, h⟩
section
variable {prog : Program} {w : World} {A : Around} {E : Value → Shared → Prop} {s : Shared}
theorem callZ {g1 g2 : Bool} {m1 m2 : Addr} {xs ys : Array Value} {Q : Value → Shared → Prop} (b1 : SqB g1 s.heap m1 xs) (b2 : SqB g2 s.heap m2 ys)
    (post : ∀ h', IsZip h' (s.heap.objs.size + 4) (s.heap.objs.size + 2) (s.heap.objs.size + 3) .none → IsPair h' (s.heap.objs.size + 2) (.ref s.heap.objs.size) (.ref (s.heap.objs.size + 1)) →
      IsPair h' (s.heap.objs.size + 3) .none .none → ItB g1 h' s.heap.objs.size m1 0 → ItB g2 h' (s.heap.objs.size + 1) m2 0 →
      (∀ c o, s.heap.get? c = some o → h'.get? c = some o) → Q (.ref (s.heap.objs.size + 4)) { s with heap := h' }) :
    wpAny (model prog w) A (call (.type "zip") [.ref m1, .ref m2]) Q E s := by
  have fin : Q (.ref (zH4 g1 g2 s.heap m1 m2).objs.size) { s with heap := zH5 g1 g2 s.heap m1 m2 } ∧ (zH5 g1 g2 s.heap m1 m2).get? (zH4 g1 g2 s.heap m1 m2).objs.size = some { cls := .type "zip", data := .fields #[.none, .bool false, .bool false, .ref (zH2 g1 g2 s.heap m1 m2).objs.size, .ref (zH3 g1 g2 s.heap m1 m2).objs.size] } := by
    have n1 : (zH1 g1 s.heap m1).objs.size = s.heap.objs.size + 1 := Heap.size_push ..
    have n2 : (zH2 g1 g2 s.heap m1 m2).objs.size = s.heap.objs.size + 2 := by rw [Heap.size_push, n1]
    have n3 : (zH3 g1 g2 s.heap m1 m2).objs.size = s.heap.objs.size + 3 := by rw [Heap.size_push, n2]
    have n4 : (zH4 g1 g2 s.heap m1 m2).objs.size = s.heap.objs.size + 4 := by rw [Heap.size_push, n3]
    have o5 : (zH5 g1 g2 s.heap m1 m2).get? (zH4 g1 g2 s.heap m1 m2).objs.size = some _ := Heap.get?_push_size _ rfl
    have o4 : (zH5 g1 g2 s.heap m1 m2).get? (zH3 g1 g2 s.heap m1 m2).objs.size = some _ := Heap.get?_push_of_some _ (Heap.get?_push_size _ rfl)
    have o3 : (zH5 g1 g2 s.heap m1 m2).get? (zH2 g1 g2 s.heap m1 m2).objs.size = some _ := Heap.get?_push_of_some _ (Heap.get?_push_of_some _ (Heap.get?_push_size _ rfl))
    have o2 : (zH5 g1 g2 s.heap m1 m2).get? (zH1 g1 s.heap m1).objs.size = some { cls := .type (itName g2), data := .fields #[.ref m2, .int 0 0] } := Heap.get?_push_of_some _ (Heap.get?_push_of_some _ (Heap.get?_push_of_some _ (Heap.get?_push_size _ rfl)))
    have o1 : (zH5 g1 g2 s.heap m1 m2).get? s.heap.objs.size = some { cls := .type (itName g1), data := .fields #[.ref m1, .int 0 0] } := Heap.get?_push_of_some _ (Heap.get?_push_of_some _ (Heap.get?_push_of_some _ (Heap.get?_push_of_some _ (Heap.get?_push_size _ rfl))))
    refine ⟨?_, o5⟩
    rw [n2, n3, n4] at o5
    rw [n1, n2] at o3
    rw [n3] at o4
    rw [n1] at o2
    rw [n4]
    refine post _ o5 o3 o4 ?_ ?_ fun c o eq => Heap.get?_push_of_some _ (Heap.get?_push_of_some _ (Heap.get?_push_of_some _ (Heap.get?_push_of_some _ (Heap.get?_push_of_some _ eq))))
    · cases g1
      · exact ⟨_, o1, rfl, rfl⟩
      · exact ⟨_, o1, rfl, rfl⟩
    · cases g2
      · exact ⟨_, o2, rfl, rfl⟩
      · exact ⟨_, o2, rfl, rfl⟩
  cases g1 <;> cases g2
  · exact RZ.call_zipT b1 b2 fun h' r1 r2 r3 r4 r5 _ r6 => post h' r1 r2 r3 r4 r5 r6
  · exact callType_new F.called_zip (by decide) (F.typeCall_zip_2 _ _) (F.newCall_zip_2 _ _) (fun obj => F.args_object_init_3 obj _ _) F.entry_zip_new (zipNew_tl m1 m2 xs ys) ⟨b1, b2, ⟨⟨_, fin.2, rfl⟩, fin.1⟩⟩
  · exact callType_new F.called_zip (by decide) (F.typeCall_zip_2 _ _) (F.newCall_zip_2 _ _) (fun obj => F.args_object_init_3 obj _ _) F.entry_zip_new (zipNew_lt m1 m2 xs ys) ⟨b1, b2, ⟨⟨_, fin.2, rfl⟩, fin.1⟩⟩
  · exact call_zip_2 b1 b2 fun h' r1 r2 r3 r4 r5 _ r6 => post h' r1 r2 r3 r4 r5 r6
end
end Eng

/-! A walk over zip(a, b), each a list or a tuple. -/
namespace Eng
open PySem PySem.Spec PyProof.Rows L2
def SqG (g : Bool) (K : PySem.W.Frag) (H : Hp) (a : Addr) (xs : List V) : Prop := if g = true then SqL K H a xs else SqT K H a xs
theorem SqG.inj {X : Cx} {pins : List (Addr × Obj)} {σ : L2.St} {H : Hp} {s : Shared} (I : Inv X pins σ H s) {g : Bool} {a : Addr} {xs ys : List V} (p : SqG g X.K H a xs) (q : SqG g X.K H a ys) : xs = ys := by
  cases g
  · exact I.tuple_inj p q
  · exact I.list_inj p q
theorem SqG.here {X : Cx} {pins : List (Addr × Obj)} {σ : L2.St} {H : Hp} {s : Shared} (I : Inv X pins σ H s) {g : Bool} {a : Addr} {xs : List V} (p : SqG g X.K H a xs) : ∃ its : List Value, Vals xs its ∧ SqB g s.heap a its.toArray := by
  cases g
  · obtain ⟨its, rv, q, _⟩ := I.tuple p
    exact ⟨its, rv, q⟩
  · obtain ⟨its, rv, q, _⟩ := I.list p
    exact ⟨its, rv, q.isList⟩
theorem SqB.lt {g : Bool} {h : Heap} {a : Addr} {xs : Array Value} (q : SqB g h a xs) : a < h.objs.size := by
  cases g
  · obtain ⟨o, e, _⟩ := (show h.IsTuple a xs from q)
    exact Heap.lt_size e
  · obtain ⟨o, e, _⟩ := (show h.IsList a xs from q)
    exact Heap.lt_size e
def ItZ (g1 g2 : Bool) (K : PySem.W.Frag) (a b : Addr) : L2.It :=
  ⟨fun i H => ∃ (xs ys : List V) (x y : V), SqG g1 K H a xs ∧ SqG g2 K H b ys ∧ xs[i]? = some x ∧ ys[i]? = some y,
    fun i H v H' => ∃ t x y, v = .ref t ∧ H t = none ∧ H' = upd H t (.tup [x, y]) ∧ (∀ xs, SqG g1 K H a xs → xs[i]? = some x) ∧ ∀ ys, SqG g2 K H b ys → ys[i]? = some y,
    fun i H => ∃ xs ys : List V, SqG g1 K H a xs ∧ SqG g2 K H b ys ∧ (xs.length ≤ i ∨ ys.length ≤ i)⟩
theorem five {c zp ti to j1 j2 : Addr} (h : c ∈ [zp, ti, to, j1, j2]) : c = zp ∨ c = ti ∨ c = to ∨ c = j1 ∨ c = j2 := by simpa using h
theorem turnZ {P : Program} {w : World} {K : PySem.W.Frag} {elts : List Expr} {kk : Nat} {tpos : Pos} {g1 g2 : Bool} {a b zp ti to j1 j2 : Addr} (ap : ZipApart zp ti to j1 j2 a b) :
    Turn P w K (.Tuple elts kk tpos) (ItZ g1 g2 K a b) [zp, ti, to, j1, j2] zp (fun i h => IsZip h zp ti to .none ∧ IsPair h ti (.ref j1) (.ref j2) ∧ (∃ x y, IsPair h to x y) ∧ ItB g1 h j1 a i ∧ ItB g2 h j2 b i) where
  mem := List.mem_cons_self
  obj := fun i h st c hc => by
    obtain ⟨z0, t0, ⟨x, y, u0⟩, a1, a2⟩ := st
    rcases five hc with q | q | q | q | q <;> subst q
    · exact ⟨_, z0, fun v q => nomatch q⟩
    · exact ⟨_, t0, fun v q => nomatch q⟩
    · exact ⟨_, u0, fun v q => nomatch q⟩
    · exact a1.obj
    · exact a2.obj
  keep := fun i h h' st k => by
    obtain ⟨z0, t0, ⟨x, y, u0⟩, a1, a2⟩ := st
    refine ⟨k zp ?_ _ z0, k ti ?_ _ t0, ⟨x, y, k to ?_ _ u0⟩, a1.to fun o q => k j1 ?_ o q, a2.to fun o q => k j2 ?_ o q⟩ <;> simp
  item := by
    intro X hP hw hK hc i pins s σ H E I hf st hg
    subst hP hw hK
    obtain ⟨z0, t0, ⟨x0, y0, u0⟩, a1, a2⟩ := st
    obtain ⟨xs, ys, x, y, hqx, hqy, hx, hy⟩ := hg
    obtain ⟨its, rv, b1⟩ := hqx.here I
    obtain ⟨its2, rv2, b2⟩ := hqy.here I
    obtain ⟨v1, hv1, rel1⟩ := rv.get hx
    obtain ⟨v2, hv2, rel2⟩ := rv2.get hy
    have ltz : zp < s.heap.objs.size := Heap.lt_size z0
    refine nextZ_item ap z0 t0 u0 a1 a2 b1 b2 (x := v1) (y := v2) (by simpa using hv1) (by simpa using hv2) fun f1 z1 u1 c1 c2 pr hsz kept => ?_
    refine ⟨_, rfl, wpAny_letOwnedTupleGo_zip (s := { s with heap := f1 }) z1 fun f2 z2 sb => ?_⟩
    have pr2 : f2.get? s.heap.objs.size = some { cls := .type "tuple", data := .seq #[v1, v2] } := (sb.2 _ (Nat.ne_of_gt ltz)).trans pr
    have new : ObjOk X.prog X.w (upd H s.heap.objs.size (.tup [x, y])) f2 s.heap.objs.size (.tup [x, y]) := ⟨by show 2 ≤ sizeLine; decide, [v1, v2], .cons rel1 (.cons rel2 .nil), ⟨_, pr2, rfl, _, rfl⟩⟩
    have I1 : Inv X pins σ (upd H s.heap.objs.size (.tup [x, y])) { s with heap := f2 } := by
      refine I.turnedNew (t' := s.toks) (ch := [zp, ti, to, j1, j2]) (fun c o hb q => ?_) hf (Nat.le_refl _) new
      refine (sb.2 c (fun e => hb (by simp [e]))).trans (kept c o ?_ ?_ ?_ ?_ q) <;> exact fun e => hb (by simp [e])
    refine ⟨.ref s.heap.objs.size, _, I1, rfl, ⟨_, x, y, rfl, I.hok.fresh (Nat.le_refl _), rfl, fun l hl => by rw [hl.inj I hqx]; exact hx, fun l hl => by rw [hl.inj I hqy]; exact hy⟩, ⟨z2, ?_, ⟨v1, v2, ?_⟩, ?_, ?_⟩, fun c hcm => ?_⟩
    · exact (sb.2 _ ap.TIz).trans (kept _ _ ap.TIz ap.TITO ap.TIi1 ap.TIi2 t0)
    · exact (sb.2 _ ap.TOz).trans u1
    · exact c1.to fun o q => (sb.2 _ ap.i1z).trans q
    · exact c2.to fun o q => (sb.2 _ ap.i2z).trans q
    · have lt : c < s.heap.objs.size := by
        rcases five hcm with q | q | q | q | q <;> subst q
        · exact ltz
        · exact Heap.lt_size t0
        · exact Heap.lt_size u0
        · obtain ⟨o, e, _⟩ := a1.obj; exact Heap.lt_size e
        · obtain ⟨o, e, _⟩ := a2.obj; exact Heap.lt_size e
      rw [upd_ne (Nat.ne_of_lt lt)]
      exact (hf c hcm).1
  done := by
    intro X hP hw hK hc i pins s σ H E I hf st hg
    subst hP hw hK
    obtain ⟨z0, t0, ⟨x0, y0, u0⟩, a1, a2⟩ := st
    obtain ⟨xs, ys, hqx, hqy, hend⟩ := hg
    obtain ⟨its, rv, b1⟩ := hqx.here I
    obtain ⟨its2, rv2, b2⟩ := hqy.here I
    have len1 := rv.length
    have len2 := rv2.length
    have fin : its.toArray[i]? = none ∨ its2.toArray[i]? = none := by
      rcases hend with q | q
      · left; simp; omega
      · right; simp; omega
    refine nextZ_end (I.ok.hd hc) ap z0 t0 u0 a1 a2 b1 b2 fin fun f1 kept => ⟨rfl, I.turnedL (t' := s.toks) (ch := [zp, ti, to, j1, j2]) (fun c o hb q => kept c o ?_ ?_ ?_ ?_ q) hf⟩ <;> exact fun e => hb (by simp [e])
  self := fun A i s Q E st h => wpAny_pyIter_zip st.1 h
def iZipG (K : PySem.W.Frag) (ta : TA) : TI := fun σ H R => ta σ H fun vs H1 => ∃ g1 g2 a b xs ys, vs = [.ref a, .ref b] ∧ SqG g1 K H1 a xs ∧ SqG g2 K H1 b ys ∧ R (ItZ g1 g2 K a b) H1
theorem pi_zipG {X : Cx} {e e2 : Expr} {ta : TA} {p pos tpos : Pos} {elts : List Expr} {kk : Nat} (hgl : Gl X "zip") (hmg : X.mg "zip" = none) (hpa : PA X [e, e2] ta)
    (hst : starEach [e, e2] X.env = (false, eval e X.env) :: starEach [e2] X.env) (hpl : (backTo pos (starEach [e2] X.env)).any (·.1) = false) :
    PI X (.Tuple elts kk tpos) (.Call (.Name "zip" p) [e, e2] [] pos) (iZipG X.K ta) := by
  refine ⟨fun pins s σ H R I h => ?_⟩
  refine Call_ (ld_blt I hgl hmg PyProof.Rows.boot_zip (PyProof.Rows.callWith_type1 (thn (hpa.run pos pins s σ H _ I h) fun us s1 ⟨vs, H1, I1, r1, q1⟩ => ?_) hst hpl))
  obtain ⟨g1, g2, a, b, xs, ys, ex, q1, q2, q⟩ := q1
  subst ex
  cases r1 with
  | cons r rr =>
   cases rr with
   | cons r' rr =>
    cases rr
    cases r
    cases r'
    have fresh : ∀ c, c ∈ [s1.heap.objs.size + 4, s1.heap.objs.size + 2, s1.heap.objs.size + 3, s1.heap.objs.size, s1.heap.objs.size + 1] → FpOk X pins H1 c := fun c hcm => by
      have le : s1.heap.objs.size ≤ c := by
        rcases five hcm with z | z | z | z | z <;> rw [z] <;> first | exact Nat.le_add_right _ _ | exact Nat.le_refl _
      exact I1.fpOk le (I1.hok.fresh le)
    obtain ⟨its, rv, b1⟩ := q1.here I1
    obtain ⟨its2, rv2, b2⟩ := q2.here I1
    refine callZ b1 b2 fun f1 z1 t1 u1 c1 c2 kept => wpAny_pyIter_zip z1 ?_
    have I2 : Inv X pins σ H1 { s1 with heap := f1 } := I1.kept (t' := s1.toks) kept
    exact ⟨s1.heap.objs.size + 4, [s1.heap.objs.size + 4, s1.heap.objs.size + 2, s1.heap.objs.size + 3, s1.heap.objs.size, s1.heap.objs.size + 1], _, _, H1, rfl, I2, turnZ (PySem.W.ktu_apart s1.heap.objs.size a b b1.lt b2.lt), ⟨z1, t1, ⟨_, _, u1⟩, c1, c2⟩, fresh, q⟩
end Eng

/-! set([..]) of ints: the kit has it for tuples. -/
namespace Eng
open PySem PySem.Spec PyProof.Rows L2
abbrev fset (w : World) : Obj := { cls := .type "set", dict := none, data := .set #[] 0 (.fresh 0 0 (!w.params.followText "set-order")) }
section
variable {P : Program} {w : World} {A : Around} {E : Value → Shared → Prop} {s : Shared}
theorem callSetL {l : Addr} {items : Array Value} (ns : List Int) {Q : Value → Shared → Prop} (hh : A.handled = none) (hli0 : s.heap.IsList l items) (hints : IntsAre items.toList ns) (hbnd : ns.length + 1 < scanBound)
    (post : ∀ (h' : Heap) (tk c : Nat), SetR w h' s.heap.objs.size (fun j => decide (j ∈ ns)) c → c ≤ ns.length → (∀ b o, s.heap.get? b = some o → h'.get? b = some o) → Q (.ref s.heap.objs.size) { s with heap := h', toks := tk }) :
    wpAny (model P w) A (call (.type "set") [.ref l]) Q E s := by
  have hcount : items.size = ns.length := by
    have z := IntsAre.length hints
    rwa [Array.length_toList] at z
  obtain ⟨c0, tl0, hmro⟩ := F.called_set.mro
  have hmade := F.called_set.made
  have hsub := F.called_set.sub
  refine wpAny_call (codeAny_of_tree ?_)
  show wpAny _ _ (callAny (.type "set") _) _ _ _
  refine wpAny_pure ⟨Code.quiet_builtin _ (by decide +kernel), codeAny_builtin F.entry_type_call ?_⟩
  rw [Around.under_plain (weight_type_call_type "set" [.ref l] []) rfl]
  have h1 := F.called_set.notType
  have h2 := F.called_set.canCreate
  have hct := F.typeCall_set_1 (.ref l)
  repeat (any_goals (first | assumption | wp_step))
  refine codeAny_mono (code_set_led1 (.ref l) (E := E) (Q₁ := fun obj s1 => obj = .ref s.heap.objs.size ∧ s1 = { s with heap := s.heap.push (fset w) }) ⟨rfl, rfl⟩) fun out s1 hout => ?_
  match out, hout with
  | .error e, hout => exact hout
  | .ok .next, hout => exact hout.elim
  | .ok .brk, hout => exact hout.elim
  | .ok .cont, hout => exact hout.elim
  | .ok (.ret obj), hout =>
    obtain ⟨rfl, rfl⟩ := hout
    have gS : (s.heap.push (fset w)).get? s.heap.objs.size = some (fset w) := Heap.get?_push_size _ rfl
    have tyS : Shared.TypeIs { s with heap := s.heap.push (fset w) } (.ref s.heap.objs.size) "set" := ⟨_, gS, rfl⟩
    have hli := F.called_set.init.lookup
    have hbi := F.called_set.init.bind (.ref s.heap.objs.size)
    repeat (any_goals (first | assumption | wp_step))
    refine codeAny_mono (codeAny_call_builtin (R := wants (fun r s2 => r = .none ∧ ∃ h' tk c, s2 = { s with heap := h', toks := tk } ∧ SetR w h' s.heap.objs.size (fun j => decide (j ∈ ns)) c ∧ c ≤ ns.length ∧ (∀ b o, s.heap.get? b = some o → h'.get? b = some o)) E) F.called_set.init.plain F.entry_set_init (check_set_init_1 tyS ?_)) fun out2 s2 hout2 => ?_
    · obtain ⟨ol, gl, ecl, nl, edl⟩ := hli0
      obtain ⟨ocls, odict, odata, oslots⟩ := ol
      simp only at ecl edl
      subst ecl
      subst edl
      have gl' : (s.heap.push (fset w)).get? l = some { cls := .type "list", dict := odict, data := .seq items nl, slots := oslots } := Heap.get?_push_of_some _ gl
      have hsls := F.sub_list_set
      have hslf := F.sub_list_frozenset
      have hne : (Value.type "list" == Value.type "dict") = false := by decide
      have il : (s.heap.push (fset w)).IsList l items := ⟨_, gl', rfl, nl, rfl⟩
      unfold Builtin.«set.__init__» noKeywords Builtin.Frozenset.updateFrom
      generalize hPI : pyIter = PI
      wp_walk
      subst hPI
      refine wpAny_pyIter_list il ?_
      refine wpAny_bind (wpAny_runValue ?_)
      have ltl : l < s.heap.objs.size := Heap.lt_size gl
      have hh3 : A.in1.in1.in1.handled = none := by simp [hh]
      have sz1 : (s.heap.push (fset w)).objs.size = s.heap.objs.size + 1 := Heap.size_push ..
      have neI : l ≠ (s.heap.push (fset w)).objs.size := by
        rw [sz1]
        exact Nat.ne_of_lt (Nat.lt_succ_of_lt ltl)
      have out_fp : s.heap.objs.size ∉ [(s.heap.push (fset w)).objs.size, l] := by
        rw [sz1]
        simp only [List.mem_cons, List.mem_singleton, List.not_mem_nil, or_false, not_or]
        exact ⟨Nat.ne_of_lt (Nat.lt_succ_self _), Nat.ne_of_gt ltl⟩
      have vals : ∀ (i : Nat) (v : Value), items[i]? = some v → ∃ k t, ns[i]? = some k ∧ v = .int k t := fun i v hv => by
        have hi : i < ns.length := by rw [← hcount]; exact (Array.getElem?_eq_some_iff.mp hv).1
        obtain ⟨t, e⟩ := PyProof.Rows.IntsAre.int_at hints i v (by rw [Array.getElem?_toList]; exact hv)
        refine ⟨ns[i], t, List.getElem?_eq_getElem hi, ?_⟩
        rw [e, List.getD_eq_getElem?_getD, List.getElem?_eq_getElem hi] <;> rfl
      refine set_update_ints ((Walks.list hh3 _ l neI items).toS) s.heap.objs.size out_fp ns hcount hbnd vals (items.size - 0) 0 _ (by omega) (Nat.zero_le _) ⟨⟨_, Heap.get?_push_size _ rfl, rfl, rfl⟩, (il.push _)⟩ ?start ?fin
      case start => exact ⟨0, Nat.le_refl 0, setR_new_at (Heap.get?_push_of_some _ gS)⟩
      case fin =>
        intro s3 c3 hm le3 set3
        obtain ⟨h', g2, d2, tk2, os2⟩ := s3
        obtain rfl : g2 = s.gens := hm.gens
        obtain rfl : d2 = s.drawn := hm.drawn
        obtain rfl : os2 = s.os := hm.os
        show wpAny _ _ _ _ _ _
        refine wpAny_pure ?_
        show wpAny _ _ (ret Value.none) _ _ _
        rw [hcount] at le3
        refine wpAny_pure ⟨rfl, h', tk2, c3, rfl, set3, le3, fun b o e => ?_⟩
        have lt0 : b < s.heap.objs.size := Heap.lt_size e
        refine hm.heap b o ?_ (Heap.get?_push_of_some _ (Heap.get?_push_of_some _ e))
        rw [sz1]
        simp only [List.mem_cons, List.mem_singleton, List.not_mem_nil, or_false, not_or]
        exact ⟨Nat.ne_of_lt lt0, Nat.ne_of_lt (Nat.lt_succ_of_lt lt0)⟩
    · match out2, hout2 with
      | .error e, hout2 => exact hout2
      | .ok .next, hout2 => exact hout2.elim
      | .ok .brk, hout2 => exact hout2.elim
      | .ok .cont, hout2 => exact hout2.elim
      | .ok (.ret r), hout2 =>
        obtain ⟨rfl, h', tk, c3, rfl, set3, le3, kept⟩ := hout2
        repeat (any_goals (first | assumption | wp_step))
        exact post _ _ _ set3 le3 kept
end
/-- set(e) of a list of ints -/
def rSetI (K : PySem.W.Frag) (w : World) : List V → Hp → VK → Prop := fun xs H Q => ∃ (l : Addr) (ns : List Int), xs = [.ref l] ∧ SqL K H l (ns.map V.int) ∧ ns.length < 64 ∧
  ∀ p c, H p = none → c ≤ ns.length → Q (.ref p) (upd H p (SetO w p (fun j => decide (j ∈ ns)) c))
theorem cr_setI {X : Cx} (hc : X.calm = true) : CallR X (.type "set") (rSetI X.K X.w) := by
  intro pins s σ H xs us Q I r h
  obtain ⟨l, ns, rfl, hq, hl, q⟩ := h
  cases r with
  | cons r rr =>
    cases rr
    cases r
    obtain ⟨its, rv, pl, hz⟩ := I.list hq
    refine callSetL ns (I.ok.hd hc) pl.isList (by simpa using RZ.intsAre_vals rv) (by unfold scanBound; omega) fun h' tk c hS hcl hk => ?_
    exact ⟨.ref _, upd H s.heap.objs.size (SetO X.w s.heap.objs.size (fun j => decide (j ∈ ns)) c), I.laid (t' := tk) hk (Nat.le_refl _) (setO_new hS), rfl, q _ c (I.hok.fresh (Nat.le_refl _)) hcl⟩
end Eng

/-! enumerate(t) of a tuple. -/
namespace Eng
open PySem PySem.Spec PyProof.Rows L2
open PySem.AutoSeq1 (wpAny_loadPart')
abbrev tupIt (l : Addr) : Obj := { cls := .type "tuple_iterator", data := .fields #[.ref l, .int 0 0] }
abbrev enumOb (i : Addr) : Obj := { cls := .type "enumerate", data := .fields #[.none, .bool false, .ref i, rawInt 0, .none, .none] }
theorem enumNewT (l : Addr) (items : Array Value) (n : Nat) (dct : Option Addr) (sl : Array (Option Value)) :
    Meets (Builtin.«enumerate.__new__» ⟨[.type "enumerate", .ref l], []⟩) (fun _ R s => s.heap.get? l = some { cls := .type "tuple", dict := dct, data := .seq items n, slots := sl } ∧
      R (.ok (.ret (.ref (s.heap.push (tupIt l)).objs.size))) { s with heap := (s.heap.push (tupIt l)).push (enumOb s.heap.objs.size) }) :=
  .of_wp fun prog w A R s h => by
    obtain ⟨hp, g, d, tk, os⟩ := s; obtain ⟨hl, h⟩ := h
    have hsub := sub_enumerate
    have q : Heap.IsTuple (Shared.heap ⟨hp, g, d, tk, os⟩) l items := ⟨_, hl, rfl, n, rfl⟩
    wp_walk using wpAny_loadPart' hl
    refine wpAny_stack_any fun st => wpAny_pure ?_
    split
    · rename_i c _ _ _ _ _
      cases (c == Value.type "enumerate")
      · wp_walk using wpAny_loadPart' hl, wpAny_pyIter_tuple q
        exact ⟨_, rfl, h⟩
      · wp_walk using wpAny_loadPart' hl, wpAny_pyIter_tuple q
        exact ⟨_, rfl, h⟩
    · wp_walk using wpAny_loadPart' hl, wpAny_pyIter_tuple q
      exact ⟨_, rfl, h⟩
section
variable {prog : Program} {w : World} {A : Around} {E : Value → Shared → Prop} {s : Shared}
theorem callEnumT {l : Addr} {items : Array Value} {Q : Value → Shared → Prop} (hT : s.heap.IsTuple l items)
    (post : ∀ h', IsEnum h' (s.heap.objs.size + 1) s.heap.objs.size 0 .none → h'.IsTupleIter s.heap.objs.size l 0 → (∀ b o, s.heap.get? b = some o → h'.get? b = some o) → Q (.ref (s.heap.objs.size + 1)) { s with heap := h' }) :
    wpAny (model prog w) A (call (.type "enumerate") [.ref l]) Q E s := by
  obtain ⟨⟨c, dct, dt, sl⟩, gl, ec, n, ed⟩ := hT
  obtain rfl : c = .type "tuple" := ec
  obtain rfl : dt = .seq items n := ed
  refine callType_new F.called_enumerate (by decide) (F.typeCall_enumerate_1 _) (F.newCall_enumerate_1 _) (fun obj => F.args_object_init_2 obj _) F.entry_enumerate_new (enumNewT l items n dct sl) ⟨gl, ?_⟩
  have sz : (s.heap.push (tupIt l)).objs.size = s.heap.objs.size + 1 := Heap.size_push ..
  have ge : ((s.heap.push (tupIt l)).push (enumOb s.heap.objs.size)).get? (s.heap.push (tupIt l)).objs.size = some (enumOb s.heap.objs.size) := Heap.get?_push_size _ rfl
  show _ ∧ _
  rw [sz] at ge ⊢
  exact ⟨⟨_, ge, rfl⟩, post _ ge ⟨_, Heap.get?_push_of_some _ (Heap.get?_push_size _ rfl), rfl, rfl⟩ fun b o x => Heap.get?_push_of_some _ (Heap.get?_push_of_some _ x)⟩
end
theorem drawsT {prog : Program} {w : World} {A : Around} (hh : A.handled = none) (it l : Addr) (hne : l ≠ it) (items : Array Value) :
    Draws prog w A it [it, l] items.size (fun i v => items[i]? = some v) (fun i h => h.IsTupleIter it l i ∧ h.IsTuple l items) where
  live := fun _ _ st => by obtain ⟨o, ho, _⟩ := st.1; exact ⟨o, ho⟩
  frame := fun _ _ _ st hk => ⟨st.1.at fun o e => hk it (by simp) o e, by
    obtain ⟨o, ho, r⟩ := st.2
    exact ⟨o, hk l (by simp) o ho, r⟩⟩
  item := fun i s Q E hi st hQ => by
    refine RZ.nextOf_tuple_item st.1 st.2 (x := items[i]) (by simp [hi]) fun h' hit' hs' => ?_
    exact hQ _ h' s.toks (by simp [hi]) ⟨hit', st.2.extBut hs'.extBut hne⟩ hs'
  done := fun s Q E st hE => RZ.nextOf_tuple_end hh st.1 st.2 (by simp) hE
def ItE (K : PySem.W.Frag) (a : Addr) : L2.It :=
  ⟨fun i H => ∃ (xs : List V) (x : V), SqT K H a xs ∧ xs[i]? = some x, fun i H v H' => ∃ t x, v = .ref t ∧ H t = none ∧ H' = upd H t (.tup [.int (i : Nat), x]) ∧ ∀ xs, SqT K H a xs → xs[i]? = some x, fun i H => ∃ xs : List V, SqT K H a xs ∧ xs.length = i⟩
theorem turnE {P : Program} {w : World} {K : PySem.W.Frag} {elts : List Expr} {kk : Nat} {tpos : Pos} (a e it : Addr) (hea : e ≠ a) (hai : a ≠ it) :
    Turn P w K (.Tuple elts kk tpos) (ItE K a) [e, it] e (fun i h => (∃ old, IsEnum h e it ((i : Nat) : Int) old) ∧ h.IsTupleIter it a i ∧ e ≠ it) where
  mem := List.mem_cons_self
  obj := fun i h st b hb => by
    obtain ⟨⟨old, he⟩, ⟨o, ho, hc, hd⟩, _⟩ := st
    rcases (by simpa using hb : b = e ∨ b = it) with z | z <;> subst z
    · exact ⟨_, he, fun v q => nomatch q⟩
    · exact ⟨o, ho, fun v q => by rw [hd] at q; cases q⟩
  keep := fun i h h' st k => by
    obtain ⟨⟨old, he⟩, hi, hne⟩ := st
    exact ⟨⟨old, k e (by simp) _ he⟩, hi.at fun o q => k it (by simp) o q, hne⟩
  item := by
    intro X hP hw hK hc i pins s σ H E I hf st hg
    subst hP hw hK
    obtain ⟨⟨old, he⟩, hit, hne⟩ := st
    obtain ⟨xs, x, hq, hx⟩ := hg
    obtain ⟨its, rv, pt, hz⟩ := I.tuple hq
    obtain ⟨u, hu, ru⟩ := rv.get hx
    have lte : e < s.heap.objs.size := Heap.lt_size he
    have lti : it < s.heap.objs.size := by obtain ⟨_, q, _⟩ := hit; exact Heap.lt_size q
    have hlt : i < its.toArray.size := by
      rw [List.size_toArray]
      exact (List.getElem?_eq_some_iff.mp hu).1
    refine wpAny_pyNext_enum_itemD (drawsT (A := X.A.in1) (show X.A.in1.handled = none from I.ok.hd hc) it a hai its.toArray) he ⟨hit, pt⟩ hlt hne (by simp [hne, hea]) fun y f1 tk py oe st' gT hsz kept => ?_
    obtain rfl : y = u := by
      have z : its.toArray[i]? = some y := py
      rw [List.getElem?_toArray, hu] at z
      exact (Option.some.inj z).symm
    refine ⟨_, rfl, wpAny_letOwnedTupleGo_enum (s := { s with heap := f1, toks := tk + 1 }) oe fun f2 he2 sb => ?_⟩
    have gT2 : f2.get? s.heap.objs.size = some { cls := .type "tuple", data := .seq #[.int i tk, y] } := (sb.2 _ (Nat.ne_of_gt lte)).trans gT
    have new : ObjOk X.prog X.w (upd H s.heap.objs.size (.tup [.int (i : Nat), x])) f2 s.heap.objs.size (.tup [.int (i : Nat), x]) := ⟨by show 2 ≤ sizeLine; decide, [.int i tk, y], .cons ⟨_, rfl⟩ (.cons ru .nil), ⟨_, gT2, rfl, _, rfl⟩⟩
    have I1 : Inv X pins σ (upd H s.heap.objs.size (.tup [.int (i : Nat), x])) { s with heap := f2, toks := tk + 1 } := by
      refine I.turnedNew (ch := [e, it]) (fun b ob hb q => ?_) hf (Nat.le_refl _) new
      refine (sb.2 b (fun z => hb (by simp [z]))).trans (kept b ob ?_ ?_ q) <;> exact fun z => hb (by simp [z])
    refine ⟨.ref s.heap.objs.size, _, I1, rfl, ⟨_, x, rfl, I.hok.fresh (Nat.le_refl _), rfl, fun ys hy => by rw [I.tuple_inj hy hq]; exact hx⟩, ⟨⟨y, ?_⟩, st'.1.at fun o q => (sb.2 it (Ne.symm hne)).trans q, hne⟩, fun b hb => ?_⟩
    · have e1 : ((i + 1 : Nat) : Int) = (i : Int) + 1 := by omega
      rw [e1]
      exact he2
    · have lt : b < s.heap.objs.size := by
        rcases (by simpa using hb : b = e ∨ b = it) with z | z <;> rw [z] <;> assumption
      rw [upd_ne (Nat.ne_of_lt lt)]
      exact (hf b hb).1
  done := by
    intro X hP hw hK hc i pins s σ H E I hf st hg
    subst hP hw hK
    obtain ⟨⟨old, he⟩, hit, hne⟩ := st
    obtain ⟨xs, hq, hx⟩ := hg
    obtain ⟨its, rv, pt, hz⟩ := I.tuple hq
    obtain ⟨f0, f1, f2, f3, f4, f5⟩ := hf it (by simp)
    have hl := rv.length
    have hn : its.toArray.size = i := by rw [List.size_toArray]; omega
    refine wpAny_pyNext_enum_endD (drawsT (A := X.A.in1) (show X.A.in1.handled = none from I.ok.hd hc) it a hai its.toArray) he ⟨by rw [hn]; exact hit, pt⟩ fun f1 eb => ?_
    exact ⟨rfl, I.turned (t' := s.toks) (fun b o hb q => eb b o hb q) f0 ‹_› f3 f4 f5⟩
  self := fun A i s Q E st h => by
    obtain ⟨⟨_, he⟩, _⟩ := st
    exact wpAny_pyIter_enum he h
def iEnumT (K : PySem.W.Frag) (ta : TA) : TI := fun σ H R => ta σ H fun vs H1 => ∃ a xs, vs = [.ref a] ∧ SqT K H1 a xs ∧ R (ItE K a) H1
theorem pi_enumT {X : Cx} {e : Expr} {ta : TA} {p pos tpos : Pos} {elts : List Expr} {kk : Nat} (hgl : Gl X "enumerate") (hmg : X.mg "enumerate" = none) (hpa : PA X [e] ta) (hst : starEach [e] X.env = [(false, eval e X.env)]) :
    PI X (.Tuple elts kk tpos) (.Call (.Name "enumerate" p) [e] [] pos) (iEnumT X.K ta) := by
  refine ⟨fun pins s σ H R I h => ?_⟩
  refine Call_ (ld_blt I hgl hmg boot_enumerate (PyProof.Rows.callWith_type1 (thn (hpa.run pos pins s σ H _ I h) fun us s1 ⟨vs, H1, I1, r1, q1⟩ => ?_) hst rfl))
  obtain ⟨a, xs, ex, hq, q⟩ := q1
  subst ex
  cases r1 with
  | cons r rr =>
    cases rr
    cases r
    obtain ⟨its, rv, pt, hz⟩ := I1.tuple hq
    have lta : a < s1.heap.objs.size := by
      obtain ⟨o, ho, _⟩ := (show s1.heap.IsTuple a its.toArray from pt)
      exact Heap.lt_size ho
    refine callEnumT (show s1.heap.IsTuple a its.toArray from pt) fun f1 he hit kept => wpAny_pyIter_enum he ?_
    have I2 : Inv X pins σ H1 { s1 with heap := f1 } := I1.kept (t' := s1.toks) kept
    refine ⟨s1.heap.objs.size + 1, [s1.heap.objs.size + 1, s1.heap.objs.size], _, _, H1, rfl, I2, turnE a (s1.heap.objs.size + 1) s1.heap.objs.size (Nat.ne_of_gt (Nat.lt_succ_of_lt lta)) (Nat.ne_of_lt lta), ⟨⟨.none, he⟩, hit, Nat.succ_ne_self _⟩, fun b hb => ?_, q⟩
    have le : s1.heap.objs.size ≤ b := by
      rcases (by simpa using hb : b = s1.heap.objs.size + 1 ∨ b = s1.heap.objs.size) with z | z <;> rw [z] <;> first | exact Nat.le_add_right _ _ | exact Nat.le_refl _
    exact I1.fpOk le (I1.hok.fresh le)
end Eng

namespace Eng
open PySem PySem.Spec PyProof.Rows L2
/-! ### lists of the store -/
section
variable {A : Ad} {K : PySem.W.Frag} {w : Wd} {H : Hp} {st : Store}
theorem ext_at {r : Nat} {o : HO} (S : SR A K w st H) (hr : r < w.n) : Ext no w H w (upd H (w.μ r) o) where
  le := .refl _
  fr := fun a u q n _ => by rw [upd_ne (fun e => n r hr e.symm)]; exact q
  th := fun a u q => by
    by_cases e : a = w.μ r
    · exact ⟨o, by rw [e]; exact upd_same⟩
    · exact ⟨u, by rw [upd_ne e]; exact q⟩
  nw := fun _ _ q => .inl q
  mn := fun k h1 h2 => absurd h2 (Nat.not_lt.mpr h1)
theorem sr_at {r : Nat} {c : Cell} {o : HO} (S : SR A K w st H) (hr : r < w.n) (hc : CellR A K w c (some o)) : SR A K w (st.set r c) (upd H (w.μ r) o) where
  sub := fun a u q => by
    have ne : a ≠ w.μ r := fun e => by
      rw [e, S.nog r hr] at q
      cases q
    rw [upd_ne ne]
    exact S.sub a u q
  len := by rw [List.length_set]; exact S.len
  cell := fun k c' q => by
    by_cases e : k = r
    · rw [e, List.getElem?_set_self (by rw [← S.len]; exact hr)] at q
      cases q
      rw [e, upd_same]
      exact hc
    · rw [List.getElem?_set_ne (Ne.symm e)] at q
      have hk : k < w.n := by rw [S.len]; exact (List.getElem?_eq_some_iff.mp q).1
      rw [upd_ne (fun z => e (S.inj k r hk hr z))]
      exact S.cell k c' q
  inj := S.inj
  nog := S.nog
/-- a new list of the store -/
theorem cell_lst {p : Addr} {xs : List D} {vs : List V} (S : SR A K w st H) (hp : H p = none) (r : RDs A K w xs vs) : SR A K (w.cell p) (st ++ [.lk xs]) (upd H p (.lst vs)) ∧ Ext no w H (w.cell p) (upd H p (.lst vs)) ∧ RD A K (w.cell p) (.ref st.length) (.ref p) := by
  have pr : Priv w p := priv_new S hp
  have hn := S.len
  refine ⟨⟨fun a o q => ?_, ?_, fun k' c q => ?_, fun i j hi hj e => ?_, fun k' hk' => ?_⟩, ⟨cell_le p, fun a o q _ _ => by rw [upd_ne (ne_of_none q hp)]; exact q, fun a o q => ⟨o, by rw [upd_ne (ne_of_none q hp)]; exact q⟩, fun _ _ q => .inl q, fun k' h1 h2 => ?_⟩, ?_⟩
  · have ne : a ≠ p := fun z => by
      rw [z] at q
      have q : w.G p = some o := q
      rw [pr.1] at q
      cases q
    rw [upd_ne ne]
    exact S.sub a o q
  · show w.n + 1 = (st ++ [_]).length
    rw [hn, List.length_append]
    rfl
  · show CellR A K (w.cell p) c (upd H p _ (if k' = w.n then p else w.μ k'))
    by_cases hk' : k' = w.n
    · rw [if_pos hk', upd_same]
      rw [hk', hn, List.getElem?_append_right (Nat.le_refl _), Nat.sub_self] at q
      cases q
      exact ⟨vs, r.mono (cell_le p), rfl⟩
    · rw [if_neg hk']
      have hlt : k' < st.length := by
        have := (List.getElem?_eq_some_iff.mp q).1
        rw [List.length_append] at this
        have : k' < st.length + 1 := this
        omega
      rw [List.getElem?_append_left hlt] at q
      rw [upd_ne (pr.2 k' (by omega))]
      exact (S.cell k' c q).mono (cell_le p)
  · have hi : i < w.n + 1 := hi
    have hj : j < w.n + 1 := hj
    have e : (if i = w.n then p else w.μ i) = (if j = w.n then p else w.μ j) := e
    by_cases h1 : i = w.n
    · by_cases h2 : j = w.n
      · omega
      · rw [if_pos h1, if_neg h2] at e
        exact absurd e.symm (pr.2 j (by omega))
    · by_cases h2 : j = w.n
      · rw [if_neg h1, if_pos h2] at e
        exact absurd e (pr.2 i (by omega))
      · rw [if_neg h1, if_neg h2] at e
        exact S.inj i j (by omega) (by omega) e
  · have hk' : k' < w.n + 1 := hk'
    show w.G (if k' = w.n then p else w.μ k') = none
    split
    · exact pr.1
    · exact S.nog k' (by omega)
  · show H (if k' = w.n then p else w.μ k') = none
    have h2 : k' < w.n + 1 := h2
    rw [if_pos (by omega)]
    exact hp
  · rw [← hn]
    have z : (w.cell p).μ w.n = p := if_pos rfl
    have q : RD A K (w.cell p) (.ref w.n) (.ref ((w.cell p).μ w.n)) := .ref (Nat.lt_succ_self _)
    rw [z] at q
    exact q
theorem RDs.erase : ∀ (n : Nat) {a : List D} {u : List V}, RDs A K w a u → RDs A K w (a.eraseIdx n) (u.eraseIdx n)
  | _, _, _, .nil => .nil
  | 0, _, _, .cons _ t => t
  | n + 1, _, _, .cons h t => .cons h (RDs.erase n t)
theorem RDs.put {d : D} {v : V} (q : RD A K w d v) : ∀ (n : Nat) {a : List D} {u : List V}, RDs A K w a u → RDs A K w (a.set n d) (u.set n v)
  | _, _, _, .nil => .nil
  | 0, _, _, .cons _ t => .cons q t
  | n + 1, _, _, .cons h t => .cons h (RDs.put q n t)
end
/-! ### how long a repr is -/
theorem disp_of {d : D} (h : dispD d = true) : isDisplay (toP d) = true := by
  cases d <;> first | rfl | cases h
mutual
theorem show_of : ∀ d : D, shortD d = true → plain d = true → (toP d).showable = true
  | .non, _, _ => by simp [toP, PyData.showable]
  | .bl _, _, _ => by simp [toP, PyData.showable]
  | .int _, h, _ => by simpa [toP, PyData.showable, shortD] using h
  | .str _, _, _ => by simp [toP, PyData.showable]
  | .tup xs, h, p => by
    simp only [toP, PyData.showable]
    exact shows_of xs (by simpa [shortD] using h) (by simpa [plain] using p)
  | .lst xs, h, p => by
    simp only [toP, PyData.showable]
    exact shows_of xs (by simpa [shortD] using h) (by simpa [plain] using p)
  | .ins _ _, _, h => by simp [plain] at h
  | .fn _, _, h => by simp [plain] at h
  | .ref _, _, h => by simp [plain] at h
theorem shows_of : ∀ ds : List D, shortsD ds = true → plains ds = true → PyData.showableAll (toPs ds) = true
  | [], _, _ => rfl
  | d :: r, h, p => by
    simp only [shortsD, Bool.and_eq_true] at h
    simp only [plains, Bool.and_eq_true] at p
    simp only [toPs, PyData.showableAll, Bool.and_eq_true]
    exact ⟨show_of d h.1 p.1, shows_of r h.2 p.2⟩
end
mutual
theorem wt_of : ∀ d : D, plain d = true → ((toP d).shown).length ≤ wtD d
  | .non, _ => by
    simp only [toP, PyData.shown, wtD]
    decide
  | .bl b, _ => by
    simp only [toP, PyData.shown, wtD]
    cases b <;> decide
  | .int i, _ => by
    simp only [toP, PyData.shown, wtD]
    have e := int_text_length_le (a := i) (k := i.natAbs.log2 + 1) (Nat.succ_pos _) (Nat.lt_succ_self _)
    show (PySem.Str.ofString (toString i)).length ≤ _
    rw [PySem.ofString_length]
    omega
  | .str s, h => by
    simp only [toP, PyData.shown, wtD]
    have hp : s.cps.all (fun c => decide (c < 0x110000)) = true := by simpa [plain] using h
    exact StrLaws.reprText_len s fun c hc => by
      have z := Array.all_eq_true_iff_forall_mem.mp hp c (Array.mem_toList_iff.mp hc)
      have z := of_decide_eq_true z
      have e : (16 : Nat) ^ 8 = 4294967296 := by decide
      omega
  | .tup xs, h => by
    simp only [toP, PyData.shown, wtD]
    have e := tupleText_len_le (PyData.shownAll (toPs xs))
    have q := wts_of xs (by simpa [plain] using h)
    omega
  | .lst xs, h => by
    simp only [toP, PyData.shown, wtD]
    have e := listText_len_le (PyData.shownAll (toPs xs))
    have q := wts_of xs (by simpa [plain] using h)
    omega
  | .ins _ _, h => by simp [plain] at h
  | .fn _, h => by simp [plain] at h
  | .ref _, h => by simp [plain] at h
theorem wts_of : ∀ ds : List D, plains ds = true → ((PyData.shownAll (toPs ds)).map (·.length)).sum + 2 * (PyData.shownAll (toPs ds)).length ≤ wtsD ds
  | [], _ => Nat.le_refl _
  | d :: r, h => by
    simp only [plains, Bool.and_eq_true] at h
    have h1 := wt_of d h.1
    have h2 := wts_of r h.2
    simp only [toPs, PyData.shownAll, List.map_cons, List.sum_cons, List.length_cons, wtsD]
    omega
end
section
variable {P : Prg} {A : Ad} {call : Nat → List D → Store → Res D} {fd : Nat → FuncData} {lv : Nat} {N : List PySem.Str} {sc : Scope} {X : Cx}
theorem snd_newL {as : Cs} {es : List Expr} {pos : Pos} (hl : csLen as ≤ 1000000) (h : PA X es (tAs P A call X as)) : PE X (.List es pos) (tE P A call X (.newc (.lst as))) := by
  refine PE.mono (pe_lst h) fun σ H Q t => ?_
  obtain ⟨w, ρ, st, H0, ex, d, st', S, R, e, k⟩ := t
  simp only [ev] at e
  obtain ⟨x, st1, e1, e⟩ := Res.bind_is e
  obtain ⟨xs, st2, e2, e3⟩ := Res.bind_is e1
  cases e3
  cases e
  refine ⟨w, ρ, st, H0, ex, xs, _, S, R, e2, fun vs H1 w1 E1 S1 p1 => ⟨small_of (H := H1) p1 (by rw [evs_len e2]; exact hl), fun p hp => ?_⟩⟩
  obtain ⟨c1, c2, c3⟩ := cell_lst S1 hp p1
  exact k _ _ _ (E1.trans c2) c1 (pv_rd rfl c3)
theorem snd_newT (cx : Cxt P A call fd lv N sc X) {a : C} {e : Expr} {x : PySem.Str} {p pos : Pos} (hx : x = ("list" : PySem.Str)) (hg : glB sc x = true) (hf : P.blt.contains x = true) (hs : shape e = true) (ha : PE X e (tE P A call X a)) : PE X (.Call (.Name x p) [e] [] pos) (tE P A call X (.newc (.blt .list a))) := by
  subst hx
  obtain ⟨g1, g2, g3⟩ := gl_of cx hg
  have hm := cx.gok.free _ hf
  have ha' : PA X [e] (tCons (tE P A call X a) tNil) := pa_cons ha pa_nil (star_of [] X.env hs)
  refine PE.mono (pe_callTy call_list_of g1 hm (by decide +kernel) ha' g3 g2 (star_of [] X.env hs) rfl) fun σ H Q t => ?_
  obtain ⟨w, ρ, st, H0, ex, d, st', S, R, e, k⟩ := t
  simp only [ev] at e
  obtain ⟨x, st1, e1, e⟩ := Res.bind_is e
  obtain ⟨y, st2, e2, e3⟩ := Res.bind_is e1
  refine ⟨w, ρ, st, H0, ex, y, st2, S, R, e2, fun v H1 w1 E1 S1 p1 => ?_⟩
  cases y with
  | lst ys =>
    cases e3
    cases e
    obtain ⟨b, vs, rfl, hq, rr⟩ := p1.rx.list S1
    refine ⟨b, vs, rfl, .inl hq, fun l hl => ?_⟩
    obtain ⟨c1, c2, c3⟩ := cell_lst S1 hl rr
    exact k _ _ _ (E1.trans c2) c1 (pv_rd rfl c3)
  | tup ys =>
    cases e3
    cases e
    obtain ⟨b, vs, rfl, hq, rr⟩ := p1.rx.tupl S1
    refine ⟨b, vs, rfl, .inr hq, fun l hl => ?_⟩
    obtain ⟨c1, c2, c3⟩ := cell_lst S1 hl rr
    exact k _ _ _ (E1.trans c2) c1 (pv_rd rfl c3)
  | _ => cases e3
theorem snd_popc (cx : Cxt P A call fd lv N sc X) {o i : C} {eo e : Expr} {x : PySem.Str} {apos pos : Pos} (hx : x = ("pop" : PySem.Str)) (hsup : notSuper eo = true) (hbo : (!o.isBor) = true) (ho : PE X eo (tE P A call X o)) (hbi : (!i.isBor) = true) (hs : shape e = true) (hi : PE X e (tE P A call X i)) (hline : (apos.endLine == pos.line) = true) :
    PE X (.Call (.Attribute eo x apos) [e] [] pos) (tE P A call X (.popc o i)) := by
  subst hx
  have hall : [e].all shape = true := by simp [hs]
  refine PE.mono (pe_bm PySem.F.plainAttrs_list PySem.F.slot_list_pop PySem.F.type_list_pop mt_popAt ho (pa_cons hi pa_nil (star_of [] _ hs)) (base_of _ _ _ hsup) (by rw [allno_of pos X.env [e] hall]; rfl) hline (star_of [] _ hs) rfl) fun σ H Q t => ?_
  obtain ⟨w, ρ, st, H0, ex, d, st', S, R, e, k⟩ := t
  simp only [ev] at e
  obtain ⟨y, st1, e1, e⟩ := Res.bind_is e
  split at e
  rotate_left
  · cases e
  rename_i hlk
  obtain ⟨z, st2, e2, e⟩ := Res.bind_is e
  refine ⟨w, ρ, st, H0, ex, y, st1, S, R, e1, fun v H1 w1 E1 S1 p1 => ?_⟩
  unfold popD at e
  cases y with
  | ref n =>
    cases z with
    | int m =>
      dsimp only at e
      cases hg : getL st2 n with
      | none => rw [hg] at e; cases e
      | some xs =>
        rw [hg] at e
        dsimp only at e
        cases hj : itIx xs.length m with
        | none => rw [hj] at e; cases e
        | some j =>
          rw [hj] at e
          dsimp only at e
          cases hx : xs[j]? with
          | none => rw [hx] at e; cases e
          | some d' =>
            rw [hx] at e
            dsimp only at e
            split at e
            · rename_i hlen
              cases e
              unfold isLk at hlk
              dsimp only at hlk
              obtain ⟨ys, hys⟩ := Option.isSome_iff_exists.mp hlk
              obtain ⟨vs0, rfl, hn, hq0, _⟩ := cellL S1 hys p1.rx
              refine ⟨.inl ⟨rfl, vs0, SqL.of hq0⟩, w1, ρ, st1, H0, ex, _, st2, S1, R.ext E1, e2, fun u H2 w2 E2 S2 p2 => ?_⟩
              have rr := (p1.rd hbo).mono E2.le
              obtain ⟨vs, hv, hn2, hq, rs⟩ := cellL S2 hg (.inl rr)
              obtain ⟨ix1, ix2, ix3, ix4⟩ := ixN_seq (show ixN xs.length m = some j from hj)
              have hu : u = .int m := rx_int p2.rx
              subst hu
              obtain ⟨vj, hvj, rj⟩ := rs.get hx
              have hw : V.ref (w1.μ n) = V.ref (w2.μ n) := hv
              refine ⟨w2.μ n, vs, m, j, vj, hw, rfl, hq, by omega, by omega, by rw [← rs.length]; exact ix1, hvj, ?_⟩
              exact k _ _ w2 (E1.trans (E2.trans (ext_at S2 hn2))) (sr_at S2 hn2 ⟨_, rs.erase j, rfl⟩) (pv_rd rfl rj)
            · cases e
    | _ => cases e
  | _ => cases z <;> cases e
theorem pa2 {a b : C} {ea eb : Expr} (h1 : shape ea = true) (h2 : shape eb = true) (ha : PE X ea (tE P A call X a)) (hb : PE X eb (tE P A call X b)) : PA X [ea, eb] (tCons (tE P A call X a) (tCons (tE P A call X b) tNil)) :=
  pa_cons ha (pa_cons hb pa_nil (star_of [] _ h2)) (star_of [eb] _ h1)
theorem snd_max2 (cx : Cxt P A call fd lv N sc X) {a b : C} {ea eb : Expr} {x : PySem.Str} {p pos : Pos} (hx : x = ("max" : PySem.Str)) (hg : glB sc x = true) (hf : P.blt.contains x = true) (h1 : shape ea = true) (h2 : shape eb = true) (ha : PE X ea (tE P A call X a)) (hb : PE X eb (tE P A call X b)) :
    PE X (.Call (.Name x p) [ea, eb] [] pos) (tE P A call X (.max2 a b)) := by
  subst hx
  obtain ⟨g1, g2, g3⟩ := gl_of cx hg
  have hm := cx.gok.free _ hf
  refine PE.mono (pe_callB (call_max2 cx.calm) g1 hm (by decide +kernel) (pa2 h1 h2 ha hb) g3 g2 (star_of [eb] _ h1) (by rw [star_of [] _ h2]; rfl)) fun σ H Q t => ?_
  obtain ⟨w, ρ, st, H0, ex, d, st', S, R, e, k⟩ := t
  simp only [ev] at e
  obtain ⟨y, st1, e1, e⟩ := Res.bind_is e
  obtain ⟨z, st2, e2, e⟩ := Res.bind_is e
  refine ⟨w, ρ, st, H0, ex, y, st1, S, R, e1, fun v H1 w1 E1 S1 p1 => ⟨w1, ρ, st1, H0, ex, z, st2, S1, R.ext E1, e2, fun u H2 w2 E2 S2 p2 => ?_⟩⟩
  unfold max2D at e
  cases y with
  | int i =>
    cases z with
    | int j =>
      cases e
      obtain rfl := rx_int p1.rx
      obtain rfl := rx_int p2.rx
      exact ⟨i, j, rfl, k _ H2 w2 (E1.trans E2) S2 (pv_rd rfl (.int _))⟩
    | _ => cases e
  | _ => cases z <;> cases e
theorem snd_repr (cx : Cxt P A call fd lv N sc X) {a : C} {ea : Expr} {x : PySem.Str} {p pos : Pos} (hx : x = ("repr" : PySem.Str)) (hhot : hotB N = true) (hg : glB sc x = true) (hf : P.blt.contains x = true) (hb : (!a.isBor) = true) (h1 : shape ea = true) (ha : PE X ea (tE P A call X a)) :
    PE X (.Call (.Name x p) [ea] [] pos) (tE P A call X (.repr a)) := by
  subst hx
  obtain ⟨g1, g2, g3⟩ := gl_of cx hg
  have hm := cx.gok.free _ hf
  have hga : X.A.guards = some [] := cx.gd (by rw [cx.N]; exact hhot)
  have hu : X.A.units + 64 < cLine := by have := cx.room.un; omega
  have two : CallR X (.builtin "repr") (fun xs H Q => (∃ x d, xs = [x] ∧ Dp X.K H x d ∧ isDisplay d = true ∧ d.showable = true ∧ d.hasDict = false ∧ d.depth ≤ 32 ∧ d.shown.length ≤ sizeLine ∧ Q (.str d.shown) H) ∨ ∃ i, xs = [.int i] ∧ i.natAbs.log2 < 1920 ∧ Q (.str (toString i)) H) := by
    intro pins s σ H xs us Q I r h
    rcases h with h | h
    · exact call_reprD hga hu pins s σ H xs us Q I r h
    · exact SkE.call_repr_int pins s σ H xs us Q I r h
  refine PE.mono (pe_callB two g1 hm (by decide +kernel) (pa_cons ha pa_nil (star_of [] X.env h1)) g3 g2 (star_of [] _ h1) rfl) fun σ H Q t => ?_
  obtain ⟨w, ρ, st, H0, ex, d, st', S, R, e, k⟩ := t
  simp only [ev] at e
  obtain ⟨y, st1, e1, e⟩ := Res.bind_is e
  refine ⟨w, ρ, st, H0, ex, y, st1, S, R, e1, fun v H1 w1 E1 S1 p1 => ?_⟩
  unfold reprD at e
  split at e
  · rename_i i
    split at e
    · rename_i hi
      cases e
      have q := p1.rd hb
      cases q
      exact .inr ⟨i, rfl, hi, k _ H1 w1 E1 S1 (pv_rd rfl (.str _))⟩
    · cases e
  · split at e
    · rename_i hc
      simp only [Bool.and_eq_true, decide_eq_true_eq] at hc
      cases e
      refine .inl ⟨v, toP y, rfl, dpx_of S1 hc.1.1.1.2 p1.rx, disp_of hc.1.1.1.1, show_of y hc.1.2 hc.1.1.1.2, PyData.hasDict_of_canLay _ (can_of y hc.1.1.1.2), ?_, ?_, k _ H1 w1 E1 S1 (pv_rd rfl (.str _))⟩
      · rw [depth_of y hc.1.1.1.2]; exact hc.1.1.2
      · have := wt_of y hc.1.1.1.2
        rw [sizeLine_eq]
        omega
    · cases e
theorem snd_ssort (cx : Cxt P A call fd lv N sc X) {a : C} {ea : Expr} {x y : PySem.Str} {p p2 q pos : Pos} (hx : x = ("sorted" : PySem.Str)) (hy : y = ("set" : PySem.Str)) (hg : glB sc x = true) (hgy : glB sc y = true) (hf : P.blt.contains x = true) (hfy : P.blt.contains y = true) (h1 : shape ea = true) (ha : PE X ea (tE P A call X a)) :
    PE X (.Call (.Name x p) [.Call (.Name y p2) [ea] [] q] [] pos) (tE P A call X (.ssort a)) := by
  subst hx
  subst hy
  obtain ⟨g1, g2, g3⟩ := gl_of cx hg
  obtain ⟨k1, k2, k3⟩ := gl_of cx hgy
  have hm := cx.gok.free _ hf
  have hmy := cx.gok.free _ hfy
  have hin := pe_callTy (p := p2) (pos := q) (cr_setI cx.calm) k1 hmy (by decide +kernel) (pa_cons ha pa_nil (star_of [] X.env h1)) k3 k2 (star_of [] _ h1) rfl
  refine PE.mono (pe_callB (cr_sortedSet cx.calm) g1 hm (by decide +kernel) (pa_cons hin pa_nil rfl) g3 g2 rfl rfl) fun σ H Q t => ?_
  obtain ⟨w, ρ, st, H0, ex, d, st', S, R, e, k⟩ := t
  simp only [ev] at e
  obtain ⟨z, st1, e1, e⟩ := Res.bind_is e
  refine ⟨w, ρ, st, H0, ex, z, st1, S, R, e1, fun v H1 w1 E1 S1 p1 => ?_⟩
  unfold ssortD at e
  cases z with
  | lst xs =>
    dsimp only at e
    cases hs : intsD xs with
    | none => rw [hs] at e; cases e
    | some ns =>
      rw [hs] at e
      dsimp only at e
      split at e
      · rename_i h64
        cases e
        obtain ⟨b, vs, rfl, hq, rr⟩ := p1.rx.list S1
        obtain rfl := intsD_map hs
        obtain rfl := rds_ints rr
        refine ⟨b, ns, rfl, hq, h64, fun p c hp hc => ?_⟩
        refine ⟨p, _, c, rfl, upd_same, by omega, fun out p' ho hm hl hn => ?_⟩
        have : out = setI ns := setI_is ho fun k => by rw [hm k]; simp
        subst this
        have S2 := sr_new S1 (o := SetO X.w p (fun j => decide (j ∈ ns)) c) hp
        have E2 : Ext no w1 H1 w1 (upd H1 p (SetO X.w p (fun j => decide (j ∈ ns)) c)) := ext_new (st := st') hp
        exact new_lst S2 (rds_int _) hn fun v3 H3 w3 E3 S3 r3 => k v3 H3 w3 (E1.trans (E2.trans E3)) S3 (pv_rd rfl r3)
      · cases e
  | _ => cases e
/-! ### calls by keywords alone, in the parameters' order -/
theorem PK.mono {ks : List Keyword} {t t' : TA} (h : PK X ks t) (m : ∀ σ H Q, t' σ H Q → t σ H Q) : PK X ks t' := ⟨fun pos pins s σ H Q I q => h.run pos pins s σ H Q I (m σ H Q q)⟩
theorem snd_knil : PK X [] (tAs P A call X .nil) := by
  refine PK.mono pk_nil fun σ H Q t => ?_
  obtain ⟨w, ρ, st, H0, ex, ds, st', S, R, e, k⟩ := t
  simp only [evs] at e
  cases e
  exact k [] H w (.refl _ _ _) S .nil
theorem snd_kcons {c : C} {r : Cs} {nm : Option PySem.Str} {e : Expr} {kp : Pos} {ks : List Keyword} (hb : (!c.isBor) = true) (h1 : PE X e (tE P A call X c)) (h2 : PK X ks (tAs P A call X r)) : PK X (⟨nm, e, kp⟩ :: ks) (tAs P A call X (.cons c r)) := by
  refine PK.mono (pk_cons h1 h2) fun σ H Q t => ?_
  obtain ⟨w, ρ, st, H0, ex, ds, st', S, R, e, k⟩ := t
  simp only [evs] at e
  obtain ⟨x, st1, e1, e⟩ := Res.bind_is e
  obtain ⟨xs, st2, e2, e⟩ := Res.bind_is e
  cases e
  refine ⟨w, ρ, st, H0, ex, x, st1, S, R, e1, fun v H1 w1 E1 S1 p1 => ⟨w1, ρ, st1, H0, ex, xs, st', S1, R.ext E1, e2, fun vs H2 w2 E2 S2 p2 => k (v :: vs) H2 w2 (E1.trans E2) S2 (.cons ((p1.rd hb).mono E2.le) p2)⟩⟩
theorem kw_all (pos : Pos) (env : PySem.Env) : ∀ {ps : List PySem.Str} {ks : List Keyword}, chkW ps ks = true → (backToKw pos (keywordEach ks env)).all (·.1.isSome) = true ∧ (backToKw pos (keywordEach ks env)).any (·.1.isNone) = false ∧ (backToKw pos (keywordEach ks env)).filterMap (·.1) = ps
  | [], [], _ => ⟨rfl, rfl, rfl⟩
  | [], _ :: _, h => by cases h
  | _ :: _, [], h => by cases h
  | x :: r, ⟨some y, e, kp⟩ :: ks, h => by
    simp only [chkW, Bool.and_eq_true, decide_eq_true_eq] at h
    obtain ⟨h1, h2, h3⟩ := kw_all pos env h.2
    obtain rfl := h.1
    refine ⟨?_, ?_, ?_⟩
    · show (true && (backToKw pos (keywordEach ks env)).all (·.1.isSome)) = true
      rw [h1]; rfl
    · show (false || (backToKw pos (keywordEach ks env)).any (·.1.isNone)) = false
      rw [h2]; rfl
    · show x :: (backToKw pos (keywordEach ks env)).filterMap (·.1) = x :: r
      rw [h3]
  | _ :: _, ⟨none, _, _⟩ :: _, h => by simp [chkW] at h
theorem snd_kcall (cx : Cxt P A call fd lv N sc X) {j : Nat} {as : Cs} {x : PySem.Str} {p pos : Pos} {ks : List Keyword} (hhot : hotOk P N j = true) (hg : glB sc x = true) (hfb : fnB P j x ks.length [] = true) (hkw : kwB P j = true) (hw : chkW (psOf P j) ks = true) (ha : PK X ks (tAs P A call X as)) :
    PE X (.Call (.Name x p) [] ks pos) (tE P A call X (.kcall j as)) := by
  obtain ⟨f, hf, _, hgl, hi, _⟩ := fn_of' hfb
  obtain ⟨g1, g2, g3⟩ := gl_of cx hg
  have hm := cx.gok.gfn j f x hf hgl
  have hps : psOf P j = f.ps := by unfold psOf; rw [hf]
  have hk : f.kw = true := by unfold kwB at hkw; rw [hf] at hkw; exact hkw
  rw [hps] at hw
  obtain ⟨w1, w2, w3⟩ := kw_all pos X.env hw
  constructor
  intro pins s σ H Q I t
  obtain ⟨w, ρ, st, H0, ex, d, st', S, R, e, k⟩ := t
  simp only [ev] at e
  obtain ⟨xs, st1, e1, e⟩ := Res.bind_is e
  refine wpAny_Call_Name_kw (ld_glob I g1 hm ?_ g2)
  refine PySem.W.callWith_KW0 (h₀ := X.base) I.ok.mod.kin (cx.gok.keep j f hf) w1 (thn (ha.run pos pins s σ H (fun vs H1 => spF A X.K call j f vs H1 Q E0) I ⟨w, ρ, st, H0, ex, xs, st1, S, R, e1, fun vs H1 w1 E1 S1 p1 => ?_⟩) fun us s2 ⟨vs, H2, I2, rv, q⟩ => ⟨I2.kIn, ?_⟩) (by rw [w2]; rfl)
  · obtain ⟨f', hf', hc⟩ := cx.cok j xs st1 d st' e
    rw [hf] at hf'
    cases hf'
    rcases hc with ⟨_, hlen⟩ | ⟨c', fs, h', _⟩
    · exact sp_of hi (by rw [← p1.length, hlen]) p1 S1 e fun v H2 w2 E2 S2 r2 => k v H2 w2 (E1.trans E2) S2 (pv_rd rfl r2)
    · rw [hi] at h'
      cases h'
  · rw [w3]
    have hlen : us.length = f.ps.length := by rw [← rv.length]; exact (cx.fog j f hf).len _ _ _ _ q
    have hb := cx.bnk j f hf hk s2 us hlen
    have main : codeAny (model X.prog X.w) X.A (.call (.ref (A.fn j)) ⟨[], f.ps.zip us⟩) (CR CX0 X.stack X.prog X.w H2 s2 Q E0) s2 := by
      rcases hot_of cx hf hhot with z | z
      · exact (cx.fok j f hf z).run X.A X.stack s2 H2 ⟨[], f.ps.zip us⟩ us vs Q E0 (room0 cx) I2.env0 hb rv q
      · exact (cx.fog j f hf).run X.A X.stack s2 H2 ⟨[], f.ps.zip us⟩ us vs Q E0 z (room0 cx) I2.env0 hb rv q
    refine wpAny_call (codeAny_mono main fun out sh' post => ?_)
    match out, post with
    | .error ev, post => exact pass0 pins σ H2 s2 ev sh' I2 post
    | .ok (.ret u), post => exact I2.after post
    | .ok .next, post => exact post.elim
    | .ok .brk, post => exact post.elim
    | .ok .cont, post => exact post.elim
/-! ### zip -/
theorem zip_len : ∀ (xs ys : List D), (zipD xs ys).length = min xs.length ys.length
  | [], _ => by simp [zipD]
  | _ :: _, [] => by simp [zipD]
  | x :: r, y :: s => by simp [zipD, zip_len r s]
theorem zip_get : ∀ {xs ys : List D} {i : Nat} {a b : D}, xs[i]? = some a → ys[i]? = some b → (zipD xs ys)[i]? = some (.tup [a, b])
  | [], _, _, _, _, h, _ => by simp at h
  | _ :: _, [], _, _, _, _, h => by simp at h
  | x :: r, y :: s, 0, a, b, h1, h2 => by
    simp at h1 h2
    subst h1
    subst h2
    rfl
  | x :: r, y :: s, i + 1, a, b, h1, h2 => by
    simp only [zipD, List.getElem?_cons_succ] at h1 h2 ⊢
    exact zip_get h1 h2
theorem walkZ {K : PySem.W.Frag} {g1 g2 : Bool} {a b : Addr} {xs ys : List V} {n : Nat} (hn : n = min xs.length ys.length) : Walk (ItZ g1 g2 K a b) n (fun H => SqG g1 K H a xs ∧ SqG g2 K H b ys) (YPair (fun i => xs[i]?) (fun i => ys[i]?)) := by
  subst hn
  refine ⟨fun i _ hi q => ?_, fun _ q => ⟨xs, ys, q.1, q.2, by omega⟩, fun i H v H' _ q y => ?_⟩
  · have l1 : i < xs.length := by omega
    have l2 : i < ys.length := by omega
    exact ⟨xs, ys, xs[i], ys[i], q.1, q.2, List.getElem?_eq_getElem l1, List.getElem?_eq_getElem l2⟩
  · obtain ⟨t, x, z, q1, q2, q3, q4, q5⟩ := y
    exact ⟨t, x, z, q1, q2, q3, q4 xs q.1, q5 ys q.2⟩
theorem sqG_mono {K : PySem.W.Frag} {G G' : Hp} {g : Bool} {a : Addr} {xs : List V} (h : ∀ a o, G a = some o → G' a = some o) (q : SqG g K G a xs) : SqG g K G' a xs := by
  cases g
  · exact sqT_mono h q
  · exact sqL_mono h q
theorem wk_zip {K : PySem.W.Frag} {w1 : Wd} {g1 g2 : Bool} {a b : Addr} {xs ys : List D} {us vs : List V} (h1 : SqG g1 K w1.G a us) (h2 : SqG g2 K w1.G b vs) (r1 : RDs A K w1 xs us) (r2 : RDs A K w1 ys vs) : WkD A K w1 (ItZ g1 g2 K a b) (zipD xs ys) := by
  refine ⟨fun H => SqG g1 K H a us ∧ SqG g2 K H b vs, YPair (fun i => us[i]?) (fun i => vs[i]?), walkZ (by rw [zip_len, r1.length, r2.length]), fun w2 st2 H2 l S => ⟨sqG_mono (fun b o q => S.sub b o (l.g b o q)) h1, sqG_mono (fun b o q => S.sub b o (l.g b o q)) h2⟩, ?_⟩
  rintro i H x H' w2 st2 hi l S ⟨T, x1, y1, rfl, hT, rfl, q1, q2⟩
  obtain ⟨d1, e1, f1⟩ := r1.getV q1
  obtain ⟨d2, e2, f2⟩ := r2.getV q2
  have E := ext_add (o := .tup [x1, y1]) S hT
  exact ⟨w2.add T (.tup [x1, y1]), _, zip_get e1 e2, E, sr_add S hT, .tup (SqT.of (show upd w2.G T _ T = _ from upd_same)) (.cons ((f1.mono l).mono E.le) (.cons ((f2.mono l).mono E.le) .nil))⟩
theorem pi_zp (cx : Cxt P A call fd lv N sc X) {a b : C} {e e2 : Expr} {x : PySem.Str} {p pos tpos : Pos} {elts : List Expr} {kk : Nat} (hx : x = ("zip" : PySem.Str)) (hg : glB sc x = true) (hf : P.blt.contains x = true) (hb : (!a.isBor) = true) (hs : shape e = true) (h : PE X e (tE P A call X a)) (hb2 : (!b.isBor) = true) (hs2 : shape e2 = true) (h2 : PE X e2 (tE P A call X b)) :
    PI X (.Tuple elts kk tpos) (.Call (.Name x p) [e, e2] [] pos) (tI P A call X (.zip a b)) := by
  subst hx
  obtain ⟨g1, g2⟩ := gl_rng cx hg hf
  refine PI.mono (pi_zipG g1 g2 (pa2 hs hs2 h h2) (star_of [e2] _ hs) (by rw [star_of [] _ hs2]; rfl)) ?_
  rintro σ H R ⟨w, ρ, st, H0, ex, zs, st', S, RR, e1, k⟩
  simp only [evIt] at e1
  obtain ⟨y, st1, q1, e3⟩ := Res.bind_is e1
  obtain ⟨z, st2, q2, e3⟩ := Res.bind_is e3
  refine ⟨w, ρ, st, H0, ex, y, st1, S, RR, q1, fun v H1 w1 E1 S1 pv => ⟨w1, ρ, st1, H0, ex, z, st2, S1, RR.ext E1, q2, fun u H2 w2 E2 S2 pu => ?_⟩⟩
  have ry := (pv.rd hb).mono E2.le
  have rz := pu.rd hb2
  cases y with
  | lst ys =>
    cases ry with
    | lst s1 r1 =>
      cases z with
      | lst us =>
        cases e3
        cases rz with
        | lst s2 r2 => exact ⟨true, true, _, _, _, _, rfl, sqL_mono S2.sub s1, sqL_mono S2.sub s2, k _ _ _ (E1.trans E2) S2 (wk_zip (g1 := true) (g2 := true) s1 s2 r1 r2)⟩
      | tup us =>
        cases e3
        cases rz with
        | tup s2 r2 => exact ⟨true, false, _, _, _, _, rfl, sqL_mono S2.sub s1, sqT_mono S2.sub s2, k _ _ _ (E1.trans E2) S2 (wk_zip (g1 := true) (g2 := false) s1 s2 r1 r2)⟩
      | _ => cases e3
  | tup ys =>
    cases ry with
    | tup s1 r1 =>
      cases z with
      | lst us =>
        cases e3
        cases rz with
        | lst s2 r2 => exact ⟨false, true, _, _, _, _, rfl, sqT_mono S2.sub s1, sqL_mono S2.sub s2, k _ _ _ (E1.trans E2) S2 (wk_zip (g1 := false) (g2 := true) s1 s2 r1 r2)⟩
      | tup us =>
        cases e3
        cases rz with
        | tup s2 r2 => exact ⟨false, false, _, _, _, _, rfl, sqT_mono S2.sub s1, sqT_mono S2.sub s2, k _ _ _ (E1.trans E2) S2 (wk_zip (g1 := false) (g2 := false) s1 s2 r1 r2)⟩
      | _ => cases e3
  | _ => cases z <;> cases e3
/-! ### enumerate -/
theorem walkE {K : PySem.W.Frag} {a : Addr} {xs : List V} : Walk (ItE K a) xs.length (fun H => SqT K H a xs) (YPair (fun i => some (.int (i : Nat))) (fun i => xs[i]?)) := by
  refine ⟨fun i _ hi q => ⟨xs, xs[i], q, List.getElem?_eq_getElem hi⟩, fun _ q => ⟨xs, q, rfl⟩, fun i H v H' _ q y => ?_⟩
  obtain ⟨t, x, q1, q2, q3, q4⟩ := y
  exact ⟨t, .int (i : Nat), x, q1, q2, q3, rfl, q4 xs q⟩
theorem wk_enumT {K : PySem.W.Frag} {w1 : Wd} {a : Addr} {xs : List D} {vs : List V} (h : SqT K w1.G a vs) (r : RDs A K w1 xs vs) : WkD A K w1 (ItE K a) (enumD xs) := by
  refine ⟨fun H => SqT K H a vs, YPair (fun i => some (.int (i : Nat))) (fun i => vs[i]?), by rw [enum_len, r.length]; exact walkE, fun w2 st2 H2 l S => sqT_mono (fun b o q => S.sub b o (l.g b o q)) h, ?_⟩
  rintro i H x H' w2 st2 hi l S ⟨T, x1, y1, rfl, hT, rfl, q1, q2⟩
  cases q1
  obtain ⟨d, h1, h2⟩ := r.getV q2
  have E := ext_add (o := .tup [.int (i : Nat), y1]) S hT
  exact ⟨w2.add T (.tup [.int (i : Nat), y1]), _, enum_get h1, E, sr_add S hT, .tup (SqT.of (show upd w2.G T _ T = _ from upd_same)) (.cons (.int _) (.cons ((h2.mono l).mono E.le) .nil))⟩
theorem pi_en (cx : Cxt P A call fd lv N sc X) {a : C} {e : Expr} {x : PySem.Str} {p pos tpos : Pos} {elts : List Expr} {kk : Nat} (hx : x = ("enumerate" : PySem.Str)) (hg : glB sc x = true) (hf : P.blt.contains x = true) (hb : (!a.isBor) = true) (hs : shape e = true) (h : PE X e (tE P A call X a)) : PI X (.Tuple elts kk tpos) (.Call (.Name x p) [e] [] pos) (tI P A call X (.enum a)) := by
  subst hx
  obtain ⟨g1, g2⟩ := gl_rng cx hg hf
  constructor
  intro pins s σ H R I q
  obtain ⟨w, ρ, st, H0, ex, xs, st', S, RR, e1, k⟩ := q
  simp only [evIt] at e1
  obtain ⟨y, st1, e2, e3⟩ := Res.bind_is e1
  cases y with
  | lst ys =>
    cases e3
    refine (pi_enum g1 g2 (pa_cons h pa_nil (star_of [] _ hs)) (by rw [star_of [] _ hs]; rfl)).run pins s σ H R I ⟨w, ρ, st, H0, ex, _, st', S, RR, e2, fun v H1 w1 E1 S1 pv => ?_⟩
    have r := pv.rd hb
    cases r with
    | lst q r => exact ⟨_, _, rfl, sqL_mono S1.sub q, k _ _ _ E1 S1 (wk_enum q r)⟩
  | tup ys =>
    cases e3
    refine (pi_enumT g1 g2 (pa_cons h pa_nil (star_of [] _ hs)) (by rw [star_of [] _ hs]; rfl)).run pins s σ H R I ⟨w, ρ, st, H0, ex, _, st', S, RR, e2, fun v H1 w1 E1 S1 pv => ?_⟩
    have r := pv.rd hb
    cases r with
    | tup q r => exact ⟨_, _, rfl, sqT_mono S1.sub q, k _ _ _ E1 S1 (wk_enumT q r)⟩
  | _ => cases e3
/-! ### a list that a slot owns, and a new one behind it -/
theorem RS.own {K : PySem.W.Frag} {H0 : Hp} {ex : Addr → Prop} {w : Wd} {ρ : Env} {σ : L2.St} {H : Hp} {i : Nat} {xs : List D} (R : RS A K H0 ex w ρ σ H) (h : slotO ρ i = some xs) : ∃ a vs, σ[i]? = some (some (.ref a)) ∧ H a = some (.lst vs) ∧ RDs A K w xs vs := by
  unfold slotO at h
  split at h
  · rename_i ys q
    cases h
    obtain ⟨v, h1, a, vs, rfl, h2, h3, _⟩ := R.sl i _ q
    exact ⟨a, vs, h1, h2, h3⟩
  · cases h
theorem snd_catb (cx : Cxt P A call fd lv N sc X) {i : Nat} {as : Cs} {x : PySem.Str} {px p2 pos : Pos} {es : List Expr} (hn : nameB N sc i x = true) (hl : csLen as ≤ 1000000) (h : PA X es (tAs P A call X as)) : PE X (.BinOp (.Name x px) .Add (.List es p2) pos) (tE P A call X (.catb i (.lst as))) := by
  obtain ⟨h1, h2, h3, h4⟩ := name_of hn
  refine PE.mono (pe_op op_cat (pe_var (by rw [cx.N]; exact h1) (by rw [cx.sc]; exact h2) h3 h4) (pe_lst h)) fun σ H Q t => ?_
  obtain ⟨w, ρ, st, H0, ex, d, st', S, R, e, k⟩ := t
  simp only [ev] at e
  obtain ⟨y, st1, e1, e⟩ := Res.bind_is e
  obtain ⟨ys, st2, e2, e3⟩ := Res.bind_is e1
  cases e3
  cases ho : slotO ρ i with
  | none => rw [ho] at e; cases e
  | some xs =>
    rw [ho] at e
    dsimp only at e
    split at e
    · rename_i hlen
      cases e
      obtain ⟨a, vs, f1, f2, f3⟩ := R.own ho
      refine ⟨_, f1, w, ρ, st, H0, ex, ys, _, S, R, e2, fun us H1 w1 E1 S1 p1 => ⟨small_of (H := H1) p1 (by rw [evs_len e2]; exact hl), fun p hp => ?_⟩⟩
      obtain ⟨a', vs', k1, k2, k3⟩ := (R.ext E1).own ho
      rw [f1] at k1
      cases k1
      have S2 := sr_new S1 (o := .lst us) hp
      have E2 : Ext no w1 H1 w1 (upd H1 p (.lst us)) := ext_new (st := st') hp
      have ne : a ≠ p := fun z => by rw [z, hp] at k2; cases k2
      refine ⟨a, p, vs', us, rfl, rfl, by rw [upd_ne ne]; exact k2, upd_same, by rw [← k3.length, ← p1.length, sizeLine_eq]; omega, fun r hr => ?_⟩
      exact new_lst S2 (k3.append p1) hr fun v3 H3 w3 E3 S3 r3 => k v3 H3 w3 (E1.trans (E2.trans E3)) S3 (pv_rd rfl r3)
    · cases e
end
end Eng

namespace Eng
open PySem PySem.Spec PyProof.Rows L2
/-! ### a display, many times -/
section
variable {P : Prg} {A : Ad} {call : Nat → List D → Store → Res D} {fd : Nat → FuncData} {lv : Nat} {N : List PySem.Str} {sc : Scope} {X : Cx}
theorem replD_is {xs : List D} {y d : D} {st st' : Store} (e : replD xs y st = .ok d st') : ∃ k : Int, y = .int k ∧ -1000 ≤ k ∧ k ≤ 1000 ∧ xs.length ≤ 1000 ∧ d = .lst (List.replicate k.toNat xs).flatten ∧ st' = st := by
  unfold replD at e
  split at e
  · rename_i k
    split at e
    · rename_i h
      cases e
      exact ⟨k, rfl, h.1, h.2.1, h.2.2, rfl, rfl⟩
    · cases e
  · cases e
theorem repl_step {as : Cs} {n : C} {σ : L2.St} {H H0 : Hp} {ex : Addr → Prop} {w : Wd} {ρ : Env} {st st' : Store} {d : D} {Q : VK} (hb : (!n.isBor) = true) (S : SR A X.K w st H) (R : RS A X.K H0 ex w ρ σ H) (e : ev P.tab call (.repl as n) ρ st = .ok d st')
    (k : ∀ xs vs H2 w2 p, d = .lst xs → Ext no w H w2 H2 → SR A X.K w2 st' H2 → RDs A X.K w2 xs vs → H2 p = none → Q (.ref p) (upd H2 p (.lst vs))) : tOp rRep (tLst (tAs P A call X as)) (tE P A call X n) σ H Q := by
  simp only [ev] at e
  obtain ⟨xs, st1, e1, e⟩ := Res.bind_is e
  obtain ⟨y, st2, e2, e⟩ := Res.bind_is e
  obtain ⟨i, rfl, b1, b2, b3, rfl, rfl⟩ := replD_is e
  refine ⟨w, ρ, st, H0, ex, xs, st1, S, R, e1, fun vs H1 w1 E1 S1 p1 => ⟨small_of (H := H1) p1 (by omega), fun p hp => ?_⟩⟩
  have E2 : Ext no w H w1 (upd H1 p (.lst vs)) := E1.trans (ext_new (st := st1) hp)
  have pr : Priv w1 p := priv_new S1 hp
  refine ⟨w1, ρ, st1, H0, ex, _, _, sr_new S1 hp, R.ext E2, e2, fun u H2 w2 E3 S2 p2 => ?_⟩
  have hu := p2.rd hb
  cases hu
  have hq : H2 p = some (.lst vs) := E3.fr p _ upd_same pr.2 (fun z => z)
  have lv := p1.length
  refine ⟨p, i, vs, rfl, rfl, hq, by omega, by omega, ?_, fun q hn => k _ _ H2 w2 q rfl (E2.trans E3) S2 ((p1.mono E3.le).rep i.toNat) hn⟩
  rw [sizeLine_eq]
  have h1 : vs.length ≤ 1000 := by omega
  have h2 : i.toNat ≤ 1000 := by omega
  have := Nat.mul_le_mul h1 h2
  omega
theorem snd_repl {as : Cs} {n : C} {es : List Expr} {en : Expr} {p pos : Pos} (hb : (!n.isBor) = true) (h : PA X es (tAs P A call X as)) (hn : PE X en (tE P A call X n)) : PE X (.BinOp (.List es p) .Mult en pos) (tE P A call X (.repl as n)) := by
  refine PE.mono (pe_op op_rep (pe_lst h) hn) fun σ H Q t => ?_
  obtain ⟨w, ρ, st, H0, ex, d, st', S, R, e, k⟩ := t
  refine repl_step hb S R e fun xs vs H2 w2 q hd E2 S2 r hq => ?_
  subst hd
  exact new_lst S2 r hq fun v H3 w3 E3 S3 r3 => k v H3 w3 (E2.trans E3) S3 (pv_rd rfl r3)
theorem snd_newR {as : Cs} {n : C} {es : List Expr} {en : Expr} {p pos : Pos} (hb : (!n.isBor) = true) (h : PA X es (tAs P A call X as)) (hn : PE X en (tE P A call X n)) : PE X (.BinOp (.List es p) .Mult en pos) (tE P A call X (.newc (.repl as n))) := by
  refine PE.mono (pe_op op_rep (pe_lst h) hn) fun σ H Q t => ?_
  obtain ⟨w, ρ, st, H0, ex, d, st', S, R, e, k⟩ := t
  rw [ev] at e
  obtain ⟨x, st1, e1, e⟩ := Res.bind_is e
  refine repl_step hb S R e1 fun xs vs H2 w2 q hd E2 S2 r hq => ?_
  subst hd
  cases e
  obtain ⟨c1, c2, c3⟩ := cell_lst S2 hq r
  exact k _ _ _ (E2.trans c2) c1 (pv_rd rfl c3)
theorem rds_rg {K : PySem.W.Frag} {w : Wd} (n : Int) : RDs A K w ((List.range n.toNat).map fun i => D.int ((0 : Int) + (i : Nat))) (rgV 0 n) := by
  have h : ∀ l : List Nat, RDs A K w (l.map fun i => D.int ((0 : Int) + (i : Nat))) (l.map fun i => V.int ((0 : Int) + (i : Nat))) := fun l => by
    induction l with
    | nil => exact .nil
    | cons a r ih => exact .cons (.int _) ih
  have e : rgV 0 n = (List.range n.toNat).map fun i => V.int ((0 : Int) + (i : Nat)) := by
    unfold rgV
    simp
  rw [e]
  exact h _
theorem snd_lrng (cx : Cxt P A call fd lv N sc X) {a : C} {e : Expr} {x y : PySem.Str} {p p2 pos pos2 : Pos} (hx : x = ("list" : PySem.Str)) (hy : y = ("range" : PySem.Str)) (hg : glB sc x = true) (hg2 : glB sc y = true) (hf : P.blt.contains x = true) (hf2 : P.blt.contains y = true) (hb : (!a.isBor) = true) (hs : shape e = true) (ha : PE X e (tE P A call X a)) :
    PE X (.Call (.Name x p) [.Call (.Name y p2) [e] [] pos2] [] pos) (tE P A call X (.lrng a)) := by
  subst hx
  subst hy
  obtain ⟨g1, g2, g3⟩ := gl_of cx hg
  obtain ⟨k1, k2, k3⟩ := gl_of cx hg2
  refine PE.mono (pe_listRg cx.calm g1 (cx.gok.free _ hf) (prg_1 k1 (cx.gok.free _ hf2) ha (star_of [] X.env hs)) rfl) fun σ H Q t => ?_
  obtain ⟨w, ρ, st, H0, ex, d, st', S, R, e, k⟩ := t
  simp only [ev] at e
  obtain ⟨z, st1, e1, e⟩ := Res.bind_is e
  unfold lrngD at e
  split at e
  · rename_i i
    split at e
    · rename_i hc
      cases e
      refine ⟨w, ρ, st, H0, ex, _, _, S, R, e1, fun v H1 w1 E1 S1 p1 => ?_⟩
      have hv := p1.rd hb
      cases hv
      refine ⟨i, rfl, ⟨by omega, by omega, by omega, by omega, by omega⟩, fun q hq => ?_⟩
      exact new_lst S1 (rds_rg i) hq fun u H2 w2 E2 S2 r2 => k u H2 w2 (E1.trans E2) S2 (pv_rd rfl r2)
    · cases e
  · cases e
end
end Eng

namespace Eng
open PySem PySem.Spec PyProof.Rows L2
theorem it_gen {J : L2.It} {n : Nat} {G : Hp → Prop} {Y : Nat → Hp → V → Hp → Prop} (w : Walk J n G Y) {Body : V → Hp → (Hp → Prop) → Prop} {H1 : Hp} {Qd : Hp → Prop} (Pv : Nat → Hp → Prop) (h0 : Pv 0 H1) (hG : ∀ i H, i ≤ n → Pv i H → G H)
    (hs : ∀ i x H H', i < n → Pv i H → Y i H x H' → Body x H' (Pv (i + 1))) (hd : ∀ H, Pv n H → Qd H) :
    ∃ W : Nat → Nat → Hp → Prop, (∃ m, W 0 m H1) ∧ ∀ i m H, W i m H → (J.stop i H ∧ Qd H) ∨ (J.go i H ∧ ∃ Nx : Hp → Prop, (∀ H', Nx H' → ∃ m', m' < m ∧ W (i + 1) m' H') ∧ ∀ x H', J.yld i H x H' → Body x H' Nx) := by
  refine ⟨fun i m H => m = n - i ∧ i ≤ n ∧ Pv i H, ⟨n, by simp, Nat.zero_le _, h0⟩, ?_⟩
  rintro i m H ⟨rfl, hi, p⟩
  have q := hG i H hi p
  by_cases hlt : i < n
  · exact .inr ⟨w.goes i H hlt q, Pv (i + 1), fun H' p' => ⟨n - (i + 1), by omega, rfl, hlt, p'⟩, fun x H' y => hs i x H H' hlt p (w.yields i H x H' hlt q y)⟩
  · have e : i = n := by omega
    subst e
    exact .inl ⟨w.stops H q, hd H p⟩
theorem wipe_sub (σ : L2.St) : ∀ (a b : List Nat), wipe (wipe σ b) a = wipe (wipe σ a) b
  | [], b => rfl
  | x :: a, b => by
    have h : ∀ (b : List Nat) (τ : L2.St), wipe (τ.set x none) b = (wipe τ b).set x none := by
      intro b
      induction b with
      | nil => intro τ; rfl
      | cons y b ih =>
        intro τ
        show (wipe (τ.set x none) b).set y none = ((wipe τ b).set y none).set x none
        rw [ih]
        by_cases e : x = y
        · subst e; simp
        · rw [List.set_comm _ _ e]
    show (wipe (wipe σ b) a).set x none = wipe ((wipe σ a).set x none) b
    rw [h, wipe_sub σ a b]
section
variable {P : Prg} {A : Ad} {call : Nat → List D → Store → Res D} {fd : Nat → FuncData} {lv : Nat} {N : List PySem.Str} {sc : Scope} {X : Cx}
theorem ifs_nil {w : Wd} {ρ : Env} {st : Store} {H0 : Hp} {ex : Addr → Prop} {σ : L2.St} {H : Hp} {Q : Bool → Hp → Prop} (S : SR A X.K w st H) (R : RS A X.K H0 ex w ρ σ H) (k : Q true H) (q : ∀ H' w', Ext no w H w' H' → SR A X.K w' st H' → Q true H') : tIfs P A call X .nil σ H Q :=
  ⟨w, ρ, st, H0, ex, true, st, S, R, by simp only [evIfs], q⟩
theorem drop_at' {xs : List D} {i : Nat} {d : D} (hd : xs[i]? = some d) : xs.drop i = d :: xs.drop (i + 1) := by
  obtain ⟨h1, h2⟩ := List.getElem?_eq_some_iff.mp hd
  rw [List.drop_eq_getElem_cons h1, h2]
theorem bind_step2 {tg : List Nat} {d : D} {v : V} {w : Wd} {st : Store} {H0 : Hp} {ex : Addr → Prop} {ρ ρ' : Env} {σ : L2.St} {H : Hp} {Q : L2.St → Hp → Prop} (S : SR A X.K w st H) (R : RS A X.K H0 ex w ρ σ H) (r : RD A X.K w d v) (e : bindT tg d ρ = some ρ')
    (k : ∀ σ', (∀ w' H', w.le w' → RS A X.K H0 ex w' ρ σ H' → RS A X.K H0 ex w' ρ' σ' H') → (∀ vs, (∀ i ∈ tg, i ∈ vs) → wipe σ' vs = wipe σ vs) → Q σ' H) : gTg X.K tg v σ H Q := by
  unfold bindT at e
  split at e
  · rename_i i
    split at e
    · rename_i hi
      cases e
      exact k _ (fun w' H' l R' => R'.setv hi (r.mono l)) fun vs hv => wipe_set (hv i List.mem_cons_self)
    · cases e
  · rename_i hne
    cases d with
    | tup ds =>
      obtain ⟨a, vs, rfl, hq, rr⟩ := r.tupl S
      have hlen : ds.length = tg.length := setAll_len e
      have fin : gTup X.K tg.length (gSets tg) (.ref a) σ H Q := ⟨a, vs, rfl, hq, by rw [← rr.length, hlen], by rw [← rr.length, hlen], k _ (fun w' H' l R' => rs_sets R' e (rr.mono l)) fun vs' hv => wipe_sets hv⟩
      unfold gTg
      split
      · rename_i i
        exact absurd rfl (hne i)
      · exact fin
    | _ => cases e
theorem lc2_step (elt : C) (tg : List Nat) (it : Eng.It) (tg2 : List Nat) (it2 : Eng.It) (hbe : (!elt.isBor) = true) : ∀ σ H Q, tE P A call X (.lc2 elt tg it tg2 it2) σ H Q →
    tLc2 (tI P A call X it) (gTg X.K tg) (tIfs P A call X .nil) (tI P A call X it2) (gTg X.K tg2) (tIfs P A call X .nil) (tE P A call X elt) (tg ++ tg2) tg2 σ H Q := by
  intro σ H Q h
  obtain ⟨w, ρ, st, H0, ex, d, st', S, R, e, k⟩ := te_tf (c := .lc2 elt tg it tg2 it2) rfl σ H Q h
  simp only [ev] at e
  obtain ⟨xs, st1, e1, e⟩ := Res.bind_is e
  split at e
  · cases e
  rename_i hlen
  obtain ⟨ys, st2, e2, e3⟩ := Res.bind_is e
  cases e3
  refine ⟨w, ρ, st, H0, ex, xs, st1, S, R, e1, fun J H1 w1 E1 S1 W => fun L hL => ?_⟩
  obtain ⟨G, Y, wk, hG, hY⟩ := W
  generalize hf : (fun d st2 => match bindT tg d (wipeE ρ (tg ++ tg2)) with
      | some ρ1 => (evIt P.tab call it2 ρ1 st2).bind fun ys st3 => if 1000 < ys.length then (.bad : Res (List D)) else mapR (fun e st4 => match bindT tg2 e (wipeE ρ1 tg2) with
          | some ρ2 => (ev P.tab call elt ρ2 st4).bind fun y st5 => .ok (some y) st5
          | none => .bad) ys st3
      | none => .bad) = f at e2
  refine it_gen wk (Body := fun x H' Nx => gTg X.K tg x (wipe σ (tg ++ tg2)) H' fun σ2 H2 => wipe σ2 (tg ++ tg2) = wipe σ (tg ++ tg2) ∧ tIfs P A call X .nil σ2 H2 fun b H3 =>
    if b = true then tI P A call X it2 σ2 H3 fun J1 H4 => ∃ W1 : Nat → Nat → Hp → Prop, (∃ m, W1 0 m H4) ∧ ∀ j k H, W1 j k H →
      (J1.stop j H ∧ Nx H) ∨ (J1.go j H ∧ ∃ Nx1 : Hp → Prop, (∀ H', Nx1 H' → ∃ k', k' < k ∧ W1 (j + 1) k' H') ∧ ∀ x H', J1.yld j H x H' → gTg X.K tg2 x (wipe σ2 tg2) H' fun σ3 H5 => wipe σ3 tg2 = wipe σ2 tg2 ∧ tIfs P A call X .nil σ3 H5 fun b H6 =>
        if b = true then tE P A call X elt σ3 H6 fun y H7 => ∃ acc, H7 L = some (.lst acc) ∧ acc.length < sizeLine ∧ Nx1 (upd H7 L (.lst (acc ++ [y]))) else Nx1 H6)
    else Nx H3)
    (fun i H => ∃ w2 sti acc vs rest, Ext no w1 H1 w2 H ∧ SR A X.K w2 sti H ∧ Priv w2 L ∧ H L = some (.lst vs) ∧ RDs A X.K w2 acc vs ∧ acc.length ≤ 1000 * i ∧ flatR f (xs.drop i) sti = .ok rest st' ∧ ys = acc ++ rest) ?_ ?_ ?_ ?_
  · exact ⟨w1, st1, [], [], ys, ext_new (st := st1) hL, sr_new S1 hL, priv_new S1 hL, upd_same, .nil, Nat.zero_le _, by simpa using e2, rfl⟩
  · rintro i H2 _ ⟨w2, sti, acc, vs, rest, E2, S2, _⟩
    exact hG w2 sti H2 E2.le S2
  · rintro i x H2 H3 hi ⟨w2, sti, acc, vs, rest, E2, S2, pr, hq, ra, hacc, em, hys⟩ y
    obtain ⟨w3, d, hd, E3, S3, rd⟩ := hY i H2 x H3 w2 sti hi E2.le S2 y
    rw [drop_at' hd] at em
    simp only [flatR] at em
    obtain ⟨zs, st3, f1, em⟩ := Res.bind_is em
    obtain ⟨rest', st4, f2, em⟩ := Res.bind_is em
    cases em
    have R3 : RS A X.K H0 ex w3 (wipeE ρ (tg ++ tg2)) (wipe σ (tg ++ tg2)) H3 := (R.ext (E1.trans (E2.trans E3))).wipe (tg ++ tg2)
    rw [← hf] at f1
    dsimp only at f1
    cases hb : bindT tg d (wipeE ρ (tg ++ tg2)) with
    | none => rw [hb] at f1; cases f1
    | some ρ1 =>
      rw [hb] at f1
      dsimp only at f1
      obtain ⟨us, st5, f3, f1⟩ := Res.bind_is f1
      split at f1
      · cases f1
      rename_i hlen2
      refine bind_step2 S3 R3 rd hb fun σ2 HR hw => ?_
      have R4 := HR w3 H3 (.refl _) R3
      refine ⟨?_, w3, ρ1, sti, H0, ex, true, sti, S3, R4, by simp only [evIfs], fun H5 w5 E5 S5 => ?_⟩
      · rw [hw (tg ++ tg2) fun i hi => List.mem_append_left _ hi]
        exact wipe_wipe _ _
      dsimp only
      rw [if_pos rfl]
      have q5 := E5.fr L _ (E3.fr L _ hq pr.2 (fun z => z)) (pr.ext hq E3).2 (fun z => z)
      have p5 := (pr.ext hq E3).ext (E3.fr L _ hq pr.2 (fun z => z)) E5
      have r5 := (ra.mono E3.le).mono E5.le
      refine ⟨w5, ρ1, sti, H0, ex, us, st5, S5, R4.ext E5, f3, fun J1 H6 w6 E6 S6 W1 => ?_⟩
      obtain ⟨G1, Y1, wk1, hG1, hY1⟩ := W1
      have q6 := E6.fr L _ q5 p5.2 (fun z => z)
      have p6 := p5.ext q5 E6
      have r6 := r5.mono E6.le
      have E06 := E2.trans (E3.trans (E5.trans E6))
      generalize hg : (fun e st4 => match bindT tg2 e (wipeE ρ1 tg2) with
          | some ρ2 => (ev P.tab call elt ρ2 st4).bind fun y st5 => .ok (some y) st5
          | none => (.bad : Res (Option D))) = g at f1
      refine it_gen wk1 (Body := fun x H' Nx1 => gTg X.K tg2 x (wipe σ2 tg2) H' fun σ3 H5 => wipe σ3 tg2 = wipe σ2 tg2 ∧ tIfs P A call X .nil σ3 H5 fun b H6 =>
        if b = true then tE P A call X elt σ3 H6 fun y H7 => ∃ acc, H7 L = some (.lst acc) ∧ acc.length < sizeLine ∧ Nx1 (upd H7 L (.lst (acc ++ [y]))) else Nx1 H6)
        (fun j H => ∃ w7 stj don vs7 rest7, Ext no w1 H1 w7 H ∧ w6.le w7 ∧ SR A X.K w7 stj H ∧ Priv w7 L ∧ H L = some (.lst vs7) ∧ RDs A X.K w7 (acc ++ don) vs7 ∧ don.length ≤ j ∧ mapR g (us.drop j) stj = .ok rest7 st3 ∧ zs = don ++ rest7) ?_ ?_ ?_ ?_
      · exact ⟨w6, st5, [], vs, zs, E06, .refl _, S6, p6, q6, by simpa using r6, Nat.le_refl _, by simpa using f1, rfl⟩
      · rintro j H7 _ ⟨w7, stj, don, vs7, rest7, E7, l7, S7, _⟩
        exact hG1 w7 stj H7 l7 S7
      · rintro j x2 H7 H8 hj ⟨w7, stj, don, vs7, rest7, E7, l7, S7, p7, q7, r7, hdon, em7, hz⟩ y2
        obtain ⟨w8, d2, hd2, E8, S8, rd2⟩ := hY1 j H7 x2 H8 w7 stj hj l7 S7 y2
        rw [drop_at' hd2] at em7
        simp only [mapR] at em7
        obtain ⟨o, st6, g1, em7⟩ := Res.bind_is em7
        obtain ⟨rest8, st7, g2, em7⟩ := Res.bind_is em7
        have R8 : RS A X.K H0 ex w8 (wipeE ρ1 tg2) (wipe σ2 tg2) H8 := (HR w8 H8 (E5.le.trans (E6.le.trans (l7.trans E8.le))) ((R.ext (E1.trans (E7.trans E8))).wipe (tg ++ tg2))).wipe tg2
        rw [← hg] at g1
        dsimp only at g1
        cases hb2 : bindT tg2 d2 (wipeE ρ1 tg2) with
        | none => rw [hb2] at g1; cases g1
        | some ρ2 =>
          rw [hb2] at g1
          dsimp only at g1
          obtain ⟨y1, st8, g3, g1⟩ := Res.bind_is g1
          cases g1
          cases em7
          refine bind_step S8 R8 rd2 hb2 fun σ3 R9 hw2 => ⟨?_, w8, ρ2, stj, H0, ex, true, stj, S8, R9, by simp only [evIfs], fun H9 w9 E9 S9 => ?_⟩
          · rw [hw2 tg2 fun i hi => hi]
            exact wipe_wipe _ _
          dsimp only
          rw [if_pos rfl]
          have q8 := E8.fr L _ q7 p7.2 (fun z => z)
          have p8 := p7.ext q7 E8
          have q9 := E9.fr L _ q8 p8.2 (fun z => z)
          have p9 := p8.ext q8 E9
          refine ⟨w9, ρ2, stj, H0, ex, y1, _, S9, R9.ext E9, g3, fun v H10 w10 E10 S10 pv => ?_⟩
          have rv := pv.rd hbe
          have q10 := E10.fr L _ q9 p9.2 (fun z => z)
          have p10 := p9.ext q9 E10
          have r10 := ((r7.mono E8.le).mono E9.le).mono E10.le
          have hlu : us.length ≤ 1000 := by omega
          have hlx : xs.length ≤ 1000 := by omega
          refine ⟨vs7, q10, ?_, w10, _, don ++ [y1], vs7 ++ [v], rest8, ext_wr (E7.trans (E8.trans (E9.trans E10))) hL, l7.trans (E8.le.trans (E9.le.trans E10.le)), sr_write S10 p10, p10, upd_same, by rw [← List.append_assoc]; exact r10.append (.cons rv .nil), by simp; omega, g2, by rw [hz]; simp⟩
          · have := r7.length
            rw [List.length_append] at this
            rw [← this, sizeLine_eq]
            have : 1000 * i ≤ 1000 * 1000 := Nat.mul_le_mul_left _ (by omega)
            omega
      · rintro H7 ⟨w7, stj, don, vs7, rest7, E7, l7, S7, p7, q7, r7, hdon, em7, hz⟩
        rw [List.drop_length] at em7
        cases em7
        rw [List.append_nil] at hz
        subst hz
        exact ⟨w7, _, acc ++ zs, vs7, rest', E7, S7, p7, q7, r7, by rw [List.length_append]; omega, f2, by rw [hys]; simp⟩
  · rintro H2 ⟨w2, sti, acc, vs, rest, E2, S2, pr, hq, ra, hacc, em, hys⟩
    rw [List.drop_length] at em
    cases em
    rw [List.append_nil] at hys
    subst hys
    exact k _ _ w2 (E1.trans E2) S2 ⟨_, L, vs, rfl, rfl, hq, ra, pr, E1.none_of hL⟩
end
/-! ### a call that only reads, with owned lists among its arguments -/
section
variable {A : Ad} {K : PySem.W.Frag} {w : Wd}
mutual
theorem rd_pl {w0 : Wd} (g : ∀ a o, w.G a = some o → w0.G a = some o) : ∀ {d : D} {v : V}, RD A K w d v → plain d = true → RD A K w0 d v
  | _, _, .non, _ => .non
  | _, _, .bl b, _ => .bl b
  | _, _, .int i, _ => .int i
  | _, _, .str s, _ => .str s
  | _, _, .tup h r, p => .tup (sqT_mono g h) (rds_pl g r (by simpa only [plain] using p))
  | _, _, .lst h r, p => .lst (sqL_mono g h) (rds_pl g r (by simpa only [plain] using p))
  | _, _, .ins h r, p => by simp [plain] at p
  | _, _, .fn j, p => by simp [plain] at p
  | _, _, .ref h, p => by simp [plain] at p
theorem rds_pl {w0 : Wd} (g : ∀ a o, w.G a = some o → w0.G a = some o) : ∀ {d : List D} {v : List V}, RDs A K w d v → plains d = true → RDs A K w0 d v
  | _, _, .nil, _ => .nil
  | _, _, .cons h r, p => by
    simp only [plains, Bool.and_eq_true] at p
    exact .cons (rd_pl g h p.1) (rds_pl g r p.2)
end
theorem flat_any {w0 : Wd} {d : D} {v : V} (h : RD A K w d v) (p : flat d = true) : RD A K w0 d v := by
  cases h <;> first | (simp [flat] at p; done) | constructor
inductive RXs (A : Ad) (K : PySem.W.Frag) (w : Wd) (H : Hp) : List D → List V → Prop where
  | nil : RXs A K w H [] []
  | cons {d : D} {v : V} {ds : List D} {vs : List V} (h : RX A K w H d v) (r : RXs A K w H ds vs) : RXs A K w H (d :: ds) (v :: vs)
theorem RXs.ext {w' : Wd} {H H' : Hp} (e : Ext no w H w' H') : ∀ {ds : List D} {vs : List V}, RXs A K w H ds vs → RXs A K w' H' ds vs
  | _, _, .nil => .nil
  | _, _, .cons h r => .cons (h.ext e) (RXs.ext e r)
theorem RXs.length {H : Hp} : ∀ {ds : List D} {vs : List V}, RXs A K w H ds vs → ds.length = vs.length
  | _, _, .nil => rfl
  | _, _, .cons _ r => congrArg Nat.succ r.length
theorem rxs_frz {st : Store} {H : Hp} (S : SR A K w st H) : ∀ {ds : List D} {vs : List V}, RXs A K w H ds vs → plains ds = true → RDs A K ⟨H, fun _ => 0, 0⟩ ds vs
  | _, _, .nil, _ => .nil
  | _, _, .cons h r, p => by
    simp only [plains, Bool.and_eq_true] at p
    refine .cons ?_ (rxs_frz S r p.2)
    rcases h with h | ⟨xs, a, vs, rfl, rfl, h3, h4, h5⟩
    · exact rd_pl (w0 := ⟨H, fun _ => 0, 0⟩) S.sub h p.1
    · exact .lst (SqL.of h3) (rds_pl (w0 := ⟨H, fun _ => 0, 0⟩) S.sub h4 (by simpa only [plain] using p.1))
end
section
variable {P : Prg} {A : Ad} {call : Nat → List D → Store → Res D} {fd : Nat → FuncData} {lv : Nat} {N : List PySem.Str} {sc : Scope} {X : Cx}
variable (P A call X) in
def tBs (as : Cs) : TA := fun σ H Q => ∃ w ρ st H0 ex ds st', SR A X.K w st H ∧ RS A X.K H0 ex w ρ σ H ∧ evs P.tab call as ρ st = .ok ds st' ∧ ∀ vs H' w', Ext no w H w' H' → SR A X.K w' st' H' → RXs A X.K w' H' ds vs → Q vs H'
theorem snd_bnil : PA X [] (tBs P A call X .nil) := by
  refine PA.mono pa_nil fun σ H Q t => ?_
  obtain ⟨w, ρ, st, H0, ex, ds, st', S, R, e, k⟩ := t
  simp only [evs] at e
  cases e
  exact k [] H w (.refl _ _ _) S .nil
theorem snd_bcons {c : C} {r : Cs} {e : Expr} {es : List Expr} (hs : shape e = true) (h : PE X e (tE P A call X c)) (hr : PA X es (tBs P A call X r)) : PA X (e :: es) (tBs P A call X (.cons c r)) := by
  refine PA.mono (pa_cons h hr (star_of es X.env hs)) fun σ H Q t => ?_
  obtain ⟨w, ρ, st, H0, ex, ds, st', S, R, e, k⟩ := t
  simp only [evs] at e
  obtain ⟨x, st1, e1, e⟩ := Res.bind_is e
  obtain ⟨xs, st2, e2, e⟩ := Res.bind_is e
  cases e
  exact ⟨w, ρ, st, H0, ex, x, st1, S, R, e1, fun v H1 w1 E1 S1 p1 => ⟨w1, ρ, st1, H0, ex, xs, st', S1, R.ext E1, e2, fun vs H2 w2 E2 S2 p2 => k (v :: vs) H2 w2 (E1.trans E2) S2 (.cons (p1.rx.ext E2) p2)⟩⟩
theorem callB_step {j : Nat} {f : FnI} {as : Cs} (cx : Cxt P A call fd lv N sc X) (hf : P.fns[j]? = some f) (hi : f.init = none) :
    ∀ σ H Q, tE P A call X (.callB j as) σ H Q → tCall (spF A X.K call j f) [] E0 (tBs P A call X as) σ H Q := by
  rintro σ H Q ⟨w, ρ, st, H0, ex, d, st', S, R, e, k⟩
  simp only [ev] at e
  obtain ⟨xs, st1, e1, e⟩ := Res.bind_is e
  split at e
  rotate_left
  · cases e
  rename_i hp
  split at e
  rotate_left
  · cases e
  rename_i d' hcall
  split at e
  rotate_left
  · cases e
  rename_i hfl
  cases e
  refine ⟨w, ρ, st, H0, ex, xs, st', S, R, e1, fun vs H1 w1 E1 S1 p1 => ?_⟩
  show spF A X.K call j f (vs ++ []) H1 Q E0
  rw [List.append_nil]
  obtain ⟨f', hf', hc⟩ := cx.cok j xs [] d [] hcall
  rw [hf] at hf'
  cases hf'
  rcases hc with ⟨_, hlen⟩ | ⟨c', fs, h', _⟩
  · have S0 : SR A X.K ⟨H1, fun _ => 0, 0⟩ [] H1 := ⟨fun _ _ h => h, rfl, fun k c q => by simp at q, fun i j hi => absurd hi (Nat.not_lt_zero _), fun k hk => absurd hk (Nat.not_lt_zero _)⟩
    refine sp_of hi (by rw [← p1.length, hlen]) (rxs_frz S1 p1 hp) S0 hcall fun v H2 w2 E2 S2 r2 => ?_
    have keep : ∀ a o, H1 a = some o → H2 a = some o := fun a o q => E2.fr a o q (fun k hk => absurd hk (Nat.not_lt_zero _)) (fun z => z)
    have S3 : SR A X.K w1 st' H2 := by
      refine ⟨fun a o q => keep a o (S1.sub a o q), S1.len, fun k c q => ?_, S1.inj, S1.nog⟩
      have z := S1.cell k c q
      cases c with
      | dk kvs =>
        obtain ⟨gs, z1, z2⟩ := z
        exact ⟨gs, z1, keep _ _ z2⟩
      | lk ys =>
        obtain ⟨gs, z1, z2⟩ := z
        exact ⟨gs, z1, keep _ _ z2⟩
      | dead =>
        have z : H1 (w1.μ k) ≠ none := z
        obtain ⟨o, ho⟩ := Option.ne_none_iff_exists'.mp z
        show H2 (w1.μ k) ≠ none
        rw [keep _ _ ho]
        exact fun q => nomatch q
    have E3 : Ext no w1 H1 w1 H2 := ⟨.refl _, fun a o q _ _ => keep a o q, fun a o q => ⟨o, keep a o q⟩, fun _ _ q => .inl q, fun k h1 h2 => absurd h2 (Nat.not_lt.mpr h1)⟩
    exact k v H2 w1 (E1.trans E3) S3 (pv_rd rfl (flat_any r2 hfl))
  · rw [hi] at h'
    cases h'
theorem snd_callB (cx : Cxt P A call fd lv N sc X) {j : Nat} {as : Cs} {x : PySem.Str} {p pos : Pos} {e : Expr} {es : List Expr} (hhot : hotOk P N j = true) (hg : glB sc x = true) (hfb : fnB P j x (e :: es).length [] = true) (hs : (e :: es).all shape = true) (ha : PA X (e :: es) (tBs P A call X as)) :
    PE X (.Call (.Name x p) (e :: es) [] pos) (tE P A call X (.callB j as)) := by
  obtain ⟨f, hf, hst, hgl, hi, hds⟩ := fn_of' hfb
  obtain ⟨g1, g2, g3⟩ := gl_of cx hg
  have hm := cx.gok.gfn j f x hf hgl
  rw [List.all_cons, Bool.and_eq_true] at hs
  exact PE.mono (call_pos cx hf hhot (dvs := []) .nil (cx.bnd j f hf hst) g1 hm g2 ha (star_of es X.env hs.1) (plain_of pos X.env es hs.2)) (callB_step cx hf hi)
end
end Eng

namespace Eng
open PySem PySem.Spec PyProof.Rows L2
section
variable {P : Prg} {A : Ad} {call : Nat → List D → Store → Res D} {fd : Nat → FuncData} {lv : Nat} {N : List PySem.Str} {sc : Scope} {X : Cx}
theorem call_stepF {j : Nat} {f : FnI} {as : Cs} {ds : List D} {dvs : List V} (cx : Cxt P A call fd lv N sc X) (hf : P.fns[j]? = some f) (hi : f.init = none) (hfr : f.fresh = true) (hd : ∀ w, RDs A X.K w ds dvs) :
    ∀ σ H Q, tF P A call X (.call j as ds) σ H Q → tCall (spF A X.K call j f) dvs E0 (tAs P A call X as) σ H Q := by
  rintro σ H Q ⟨w, ρ, st, H0, ex, d, st', S, R, e, k⟩
  simp only [ev] at e
  obtain ⟨xs, st1, e1, e⟩ := Res.bind_is e
  refine ⟨w, ρ, st, H0, ex, xs, st1, S, R, e1, fun vs H1 w1 E1 S1 p1 => ?_⟩
  show spF A X.K call j f (vs ++ dvs) H1 Q E0
  have p2 : RDs A X.K w1 (xs ++ ds) (vs ++ dvs) := p1.append (hd w1)
  obtain ⟨f', hf', hc⟩ := cx.cok j (xs ++ ds) st1 d st' e
  rw [hf] at hf'
  cases hf'
  rcases hc with ⟨_, hlen⟩ | ⟨c', fs, h', _⟩
  · unfold spF
    rw [hi]
    refine ⟨by rw [← p2.length, hlen], w1, xs ++ ds, st1, d, st', p2, S1, e, fun v H2 w2 E2 S2 r2 => k v H2 w2 (E1.trans E2) S2 ?_⟩
    rw [if_pos hfr] at r2
    obtain ⟨ys, a, us, q1, q2, q3, q4, q5, q6⟩ := r2
    exact ⟨ys, a, us, q1, q2, q3, q4, q5, E1.none_of q6⟩
  · rw [hi] at h'
    cases h'
theorem snd_callF (cx : Cxt P A call fd lv N sc X) {j : Nat} {as : Cs} {ds : List D} {x : PySem.Str} {p pos : Pos} {es : List Expr} {f : FnI} (hf : P.fns[j]? = some f) (hfr : f.fresh = true) (hhot : hotOk P N j = true) (hg : glB sc x = true) (hfb : fnB P j x es.length ds = true) (hs : es.all shape = true) (ha : PA X es (tAs P A call X as)) (hc : chkEs P N sc as es = true) :
    PE X (.Call (.Name x p) es [] pos) (tF P A call X (.call j as ds)) := by
  obtain ⟨f', hf', hst, hgl, hi, hds⟩ := fn_of' hfb
  rw [hf] at hf'
  cases hf'
  obtain ⟨us, dvs, hd, hdv, hbi⟩ := dfl_of cx hf hst hds
  obtain ⟨g1, g2, g3⟩ := gl_of cx hg
  have hm := cx.gok.gfn j f x hf hgl
  cases es with
  | nil =>
    cases as with
    | nil =>
      refine PE.mono (call_zero cx hf hhot hdv hbi g1 hm g2) fun σ H Q t => ?_
      obtain ⟨w, ρ, st, H0, ex, xs, st', S, R, e, k⟩ := call_stepF cx hf hi hfr hd σ H Q t
      simp only [evs] at e
      cases e
      exact k [] H w (.refl _ _ _) S .nil
    | cons c r => simp [chkEs] at hc
  | cons e es =>
    rw [List.all_cons, Bool.and_eq_true] at hs
    exact PE.mono (call_pos cx hf hhot hdv hbi g1 hm g2 ha (star_of es X.env hs.1) (plain_of pos X.env es hs.2)) (call_stepF cx hf hi hfr hd)
theorem snd_min2 (cx : Cxt P A call fd lv N sc X) {a b : C} {ea eb : Expr} {x : PySem.Str} {p pos : Pos} (hx : x = ("min" : PySem.Str)) (hg : glB sc x = true) (hf : P.blt.contains x = true) (h1 : shape ea = true) (h2 : shape eb = true) (ha : PE X ea (tE P A call X a)) (hb : PE X eb (tE P A call X b)) :
    PE X (.Call (.Name x p) [ea, eb] [] pos) (tE P A call X (.min2 a b)) := by
  subst hx
  obtain ⟨g1, g2, g3⟩ := gl_of cx hg
  have hm := cx.gok.free _ hf
  refine PE.mono (pe_callB (call_min2 cx.calm) g1 hm (by decide +kernel) (pa2 h1 h2 ha hb) g3 g2 (star_of [eb] _ h1) (by rw [star_of [] _ h2]; rfl)) fun σ H Q t => ?_
  obtain ⟨w, ρ, st, H0, ex, d, st', S, R, e, k⟩ := t
  simp only [ev] at e
  obtain ⟨y, st1, e1, e⟩ := Res.bind_is e
  obtain ⟨z, st2, e2, e⟩ := Res.bind_is e
  refine ⟨w, ρ, st, H0, ex, y, st1, S, R, e1, fun v H1 w1 E1 S1 p1 => ⟨w1, ρ, st1, H0, ex, z, st2, S1, R.ext E1, e2, fun u H2 w2 E2 S2 p2 => ?_⟩⟩
  unfold min2D at e
  cases y with
  | int i =>
    cases z with
    | int j =>
      cases e
      obtain rfl := rx_int p1.rx
      obtain rfl := rx_int p2.rx
      exact ⟨i, j, rfl, k _ H2 w2 (E1.trans E2) S2 (pv_rd rfl (.int _))⟩
    | _ => cases e
  | _ => cases z <;> cases e
theorem RDs.rev {K : PySem.W.Frag} {w : Wd} : ∀ {xs : List D} {vs : List V}, RDs A K w xs vs → RDs A K w xs.reverse vs.reverse
  | _, _, .nil => .nil
  | _, _, .cons h t => by
    rw [List.reverse_cons, List.reverse_cons]
    exact (RDs.rev t).append (.cons h .nil)
theorem snd_rev {a : C} {ea : Expr} {kk : Nat} {p1 p2 p3 pos : Pos} (ha : PE X ea (tE P A call X a)) :
    PE X (.Subscript ea (.Slice none none (some (.UnaryOp .USub (.Constant (.int 1) kk p1) p2)) p3) pos) (tE P A call X (.rev a)) := by
  refine PE.mono (pe_revL ha) fun σ H Q t => ?_
  obtain ⟨w, ρ, st, H0, ex, d, st', S, R, e, k⟩ := t
  simp only [ev] at e
  obtain ⟨y, st1, e1, e⟩ := Res.bind_is e
  refine ⟨w, ρ, st, H0, ex, y, st1, S, R, e1, fun v H1 w1 E1 S1 p1 => ?_⟩
  unfold revD at e
  cases y with
  | lst ys =>
    cases e
    obtain ⟨b, vs, rfl, hq, rr⟩ := p1.rx.list S1
    exact ⟨b, vs, rfl, hq, fun p hp => new_lst S1 rr.rev hp fun v' H' w' E' S' r' => k v' H' w' (E1.trans E') S' (pv_rd rfl r')⟩
  | _ => cases e
/-- x(*y), x a class -/
theorem pe_makeS {CX : CXT} {k : Nat} {f C : Addr} {fdd : FuncData} {ps : List PySem.Str} {sp : Sp} {E : XK} {x : PySem.Str} {e : Expr} {te : TE} {p sp_ pos : Pos} (M : Mk X.K C f) (F : FnOk X.prog X.w X.K X.mg X.base CX k f fdd ps sp) (hr : Room (k + 1) X.A) (hg : Gl X x) (hm : X.mg x = some (.ref C)) (hb : Binds X.K fdd ps []) (hx : Passes CX X E) (he : PE X e te) (hdb : (x == ("__debug__" : PySem.Str)) = false)
    (hst : starEach [.Starred e sp_] X.env = [(true, eval e X.env)] := by rfl) :
    PE X (.Call (.Name x p) [.Starred e sp_] [] pos) (fun σ H Q => te σ H fun y H1 => ∃ a xs, y = V.ref a ∧ (SqT X.K H1 a xs ∨ SqL X.K H1 a xs) ∧ ∀ x dx, H1 x = none → H1 dx = none → dx ≠ x → sp (.ref x :: (xs ++ [])) (upd (upd H1 dx (.own x)) x (.ins C dx [])) (fun v H2 => v = .non ∧ Q (.ref x) H2) E) := by
  refine ⟨fun pins s σ H Q I h => ?_⟩
  refine wpAny_Call_Name_kw (ld_glob I hg hm ?_ hdb)
  refine PySem.W.callWith_S (h₀ := X.base) I.ok.mod.kin M.kp (thn (he.run pins s σ H _ I h) fun v s1 ⟨y, H1, I1, ry, a, xs, ey, hxs, q⟩ => ?_) hst
  subst ey
  obtain rfl : v = Value.ref a := ry
  exact StX.star_any I1 hxs fun us s2 I2 rv => ⟨I2.kIn, run_make M F hr hb .nil hx I2 rv q⟩
theorem cls_of {c : Nat} {x : PySem.Str} (h : clS P c x = true) : ∃ kl f, P.cls[c]? = some kl ∧ kl.name = x ∧ P.fns[kl.init]? = some f ∧ f.init = some c := by
  unfold clS at h
  cases q : P.cls[c]? with
  | none => rw [q] at h; cases h
  | some kl =>
    rw [q] at h
    simp only [Bool.and_eq_true, decide_eq_true_eq] at h
    cases q2 : P.fns[kl.init]? with
    | none => rw [q2] at h; cases h.2
    | some f =>
      rw [q2] at h
      exact ⟨kl, f, rfl, h.1, q2, of_decide_eq_true h.2⟩
theorem snd_makeS (cx : Cxt P A call fd lv N sc X) {c : Nat} {a : C} {x : PySem.Str} {p sp_ pos : Pos} {e : Expr} (hg : glB sc x = true) (hfb : clS P c x = true) (hba : (!a.isBor) = true) (ha : PE X e (tE P A call X a)) :
    PE X (.Call (.Name x p) [.Starred e sp_] [] pos) (tE P A call X (.makeS c a)) := by
  obtain ⟨kl, f, hk, hn, hf, hi⟩ := cls_of hfb
  obtain ⟨g1, g2, g3⟩ := gl_of cx hg
  have co := cx.gok.cls c kl hk
  have hm := co.gl
  rw [hn] at hm
  have hcd := cx.ini _ f hf (by rw [hi]; rfl)
  refine PE.mono (pe_makeS co.mkr (cx.fok _ f hf hcd) (room1 cx) g1 hm (cx.bnd _ f hf (cx.cold _ f hf hcd)) pass0 ha g2) fun σ H Q t => ?_
  obtain ⟨w, ρ, st, H0, ex, d, st', S, R, e, k⟩ := t
  simp only [ev] at e
  obtain ⟨y, st1, e1, e⟩ := Res.bind_is e
  refine ⟨w, ρ, st, H0, ex, y, st1, S, R, e1, fun v H1 w1 E1 S1 p1 => ?_⟩
  rw [tab_cls, hk] at e
  cases y with
  | tup xs =>
    dsimp only [Option.map] at e
    obtain ⟨b, vs, rfl, hq, rr⟩ := p1.rx.tupl S1
    refine ⟨b, vs, rfl, .inl hq, fun x dx hx hdx ne => ?_⟩
    obtain ⟨f', hf', hc⟩ := cx.cok _ _ _ _ _ e
    rw [hf] at hf'
    cases hf'
    rcases hc with ⟨z, _⟩ | ⟨c', fs, h', rfl, hlen⟩
    · rw [hi] at z
      cases z
    · rw [hi] at h'
      cases h'
      unfold spF
      rw [hi]
      have hxd : upd H1 dx (.own x) x = none := by rw [upd_ne (Ne.symm ne)]; exact hx
      rw [List.append_nil]
      refine ⟨by rw [List.length_cons, ← rr.length, hlen], x, dx, vs, w1, xs, st1, fs, st', rfl, upd_same, ⟨S1.g_none hx, S1.mu_ne hx⟩, rr, sr_new (sr_new S1 hdx) hxd, e, fun H2 w2 gs dx' E2 S2 hx2 r2 pr => ⟨rfl, ?_⟩⟩
      refine k (.ref x) H2 (w2.add x (.ins (A.cls c) dx' gs)) (E1.trans (ext_made S1 hx hdx pr hx2 E2)) (sr_frz S2 pr hx2) (pv_rd rfl ?_)
      exact .ins (show upd w2.G x _ x = _ from upd_same) (r2.mono (add_le pr.1))
  | _ => cases e
/-- a list made anew becomes a list of the store -/
theorem cell_own {K : PySem.W.Frag} {w w1 : Wd} {H H1 : Hp} {st1 : Store} {p : Addr} {xs : List D} {vs : List V} (S1 : SR A K w1 st1 H1) (E1 : Ext no w H w1 H1) (hp : H1 p = some (.lst vs)) (r : RDs A K w1 xs vs) (pr : Priv w1 p) (h0 : H p = none) :
    SR A K (w1.cell p) (st1 ++ [.lk xs]) H1 ∧ Ext no w H (w1.cell p) H1 ∧ RD A K (w1.cell p) (.ref st1.length) (.ref p) := by
  have hn := S1.len
  refine ⟨⟨fun a o q => S1.sub a o q, ?_, fun k' c q => ?_, fun i j hi hj e => ?_, fun k' hk' => ?_⟩, ⟨E1.le.trans (cell_le p), E1.fr, E1.th, E1.nw, fun k' h1 h2 => ?_⟩, ?_⟩
  · show w1.n + 1 = (st1 ++ [_]).length
    rw [hn, List.length_append]
    rfl
  · show CellR A K (w1.cell p) c (H1 (if k' = w1.n then p else w1.μ k'))
    by_cases hk' : k' = w1.n
    · rw [if_pos hk', hp]
      rw [hk', hn, List.getElem?_append_right (Nat.le_refl _), Nat.sub_self] at q
      cases q
      exact ⟨vs, r.mono (cell_le p), rfl⟩
    · rw [if_neg hk']
      have hlt : k' < st1.length := by
        have := (List.getElem?_eq_some_iff.mp q).1
        rw [List.length_append] at this
        have : k' < st1.length + 1 := this
        omega
      rw [List.getElem?_append_left hlt] at q
      exact (S1.cell k' c q).mono (cell_le p)
  · have hi : i < w1.n + 1 := hi
    have hj : j < w1.n + 1 := hj
    have e : (if i = w1.n then p else w1.μ i) = (if j = w1.n then p else w1.μ j) := e
    by_cases h1 : i = w1.n
    · by_cases h2 : j = w1.n
      · omega
      · rw [if_pos h1, if_neg h2] at e
        exact absurd e.symm (pr.2 j (by omega))
    · by_cases h2 : j = w1.n
      · rw [if_neg h1, if_pos h2] at e
        exact absurd e (pr.2 i (by omega))
      · rw [if_neg h1, if_neg h2] at e
        exact S1.inj i j (by omega) (by omega) e
  · have hk' : k' < w1.n + 1 := hk'
    show w1.G (if k' = w1.n then p else w1.μ k') = none
    split
    · exact pr.1
    · exact S1.nog k' (by omega)
  · show H (if k' = w1.n then p else w1.μ k') = none
    have h2 : k' < w1.n + 1 := h2
    by_cases hk : k' = w1.n
    · rw [if_pos hk]; exact h0
    · rw [if_neg hk]; exact E1.mn k' h1 (by omega)
  · rw [← hn]
    have z : (w1.cell p).μ w1.n = p := if_pos rfl
    have q : RD A K (w1.cell p) (.ref w1.n) (.ref ((w1.cell p).μ w1.n)) := .ref (Nat.lt_succ_self _)
    rw [z] at q
    exact q
theorem snd_newF {c : C} {e : Expr} (h : PE X e (tF P A call X c)) : PE X e (tE P A call X (.newc c)) := by
  refine PE.mono h fun σ H Q t => ?_
  obtain ⟨w, ρ, st, H0, ex, d, st', S, R, e, k⟩ := t
  simp only [ev] at e
  obtain ⟨x, st1, e1, e⟩ := Res.bind_is e
  refine ⟨w, ρ, st, H0, ex, x, st1, S, R, e1, fun v H1 w1 E1 S1 f => ?_⟩
  obtain ⟨ys, a, us, rfl, rfl, q3, q4, q5, q6⟩ := f
  cases e
  obtain ⟨c1, c2, c3⟩ := cell_own S1 E1 q3 q4 q5 q6
  exact k _ _ _ c2 c1 (pv_rd rfl c3)
theorem snd_newCall (cx : Cxt P A call fd lv N sc X) {j : Nat} {as : Cs} {ds : List D} {x : PySem.Str} {p pos : Pos} {es : List Expr} (hfr : freB P j = true) (hhot : hotOk P N j = true) (hg : glB sc x = true) (hfb : fnB P j x es.length ds = true) (hs : es.all shape = true) (ha : PA X es (tAs P A call X as)) (hc : chkEs P N sc as es = true) :
    PE X (.Call (.Name x p) es [] pos) (tE P A call X (.newc (.call j as ds))) := by
  obtain ⟨f, hf, _⟩ := fn_of' hfb
  unfold freB at hfr
  rw [hf] at hfr
  exact snd_newF (snd_callF cx hf hfr hhot hg hfb hs ha hc)
theorem pe_callSt {k : Nat} {f : Addr} {sp : Sp} {x : PySem.Str} {p pos : Pos} {e : Expr} {es : List Expr} {t : TA} (F : FnSt X.prog X.w X.K X.mg X.base k f sp) (hga : X.A.guards = some []) (hro : Room k X.A) (hgl : Gl X x) (hmg : X.mg x = some (.ref f)) (hkp : PySem.W.keepIn X.K (.ref f) = true)
    (hpe : PA X (e :: es) t) (hdb : (x == ("__debug__" : PySem.Str)) = false) (hst : starEach (e :: es) X.env = (false, eval e X.env) :: starEach es X.env) (hpl : (backTo pos (starEach es X.env)).any (·.1) = false) :
    PE X (.Call (.Name x p) (e :: es) [] pos) (fun σ H Q => t σ H fun vs H1 => vs.length ≤ 1000 ∧ ∀ p, H1 p = none → sp [V.ref p] (upd H1 p (.tup vs)) Q E0) := by
  refine ⟨fun pins s σ H Q I h => wpAny_Call_Name_kw (ld_glob I hgl hmg ?_ hdb)⟩
  refine PySem.W.callWith_K (h₀ := X.base) I.ok.mod.kin hkp (thn (hpe.run pos pins s σ H _ I h) fun us s1 ⟨vs, H1, I1, rv, q⟩ => ⟨I1.kIn, ?_⟩) hst hpl
  refine wpAny_call (codeAny_mono (F X.A X.stack s1 H1 us vs Q E0 hga hro I1.env0 rv q) fun out sh' post => ?_)
  match out, post with
  | .error ev, post => exact pass0 pins σ H1 s1 ev sh' I1 post
  | .ok (.ret u), post => exact I1.after post
  | .ok .next, post => exact post.elim
  | .ok .brk, post => exact post.elim
  | .ok .cont, post => exact post.elim
theorem snd_callT (cx : Cxt P A call fd lv N sc X) {j : Nat} {as : Cs} {x : PySem.Str} {p pos : Pos} {es : List Expr} (hg : glB sc x = true) (hfb : stB P N j x = true) (hne : (!es.isEmpty) = true) (hs : es.all shape = true) (ha : PA X es (tAs P A call X as)) :
    PE X (.Call (.Name x p) es [] pos) (tE P A call X (.callT j as)) := by
  obtain ⟨g1, g2, g3⟩ := gl_of cx hg
  unfold stB at hfb
  cases hf : P.fns[j]? with
  | none => rw [hf] at hfb; cases hfb
  | some f =>
    rw [hf] at hfb
    simp only [Bool.and_eq_true, decide_eq_true_eq] at hfb
    obtain ⟨⟨⟨⟨hst, hgl⟩, hi⟩, hps⟩, hhot⟩ := hfb
    have hm := cx.gok.gfn j f x hf hgl
    have hga : X.A.guards = some [] := cx.gd (by rw [cx.N]; exact hhot)
    cases es with
    | nil => cases hne
    | cons e es =>
      rw [List.all_cons, Bool.and_eq_true] at hs
      refine PE.mono (pe_callSt (cx.fos j f hf hst) hga (room0 cx) g1 hm (cx.gok.keep j f hf) ha g2 (star_of es X.env hs.1) (plain_of pos X.env es hs.2)) fun σ H Q t => ?_
      obtain ⟨w, ρ, st, H0, ex, d, st', S, R, e, k⟩ := t
      simp only [ev] at e
      obtain ⟨xs, st1, e1, e⟩ := Res.bind_is e
      split at e
      rotate_left
      · cases e
      rename_i hlen
      refine ⟨w, ρ, st, H0, ex, xs, st1, S, R, e1, fun vs H1 w1 E1 S1 p1 => ⟨by rw [← p1.length]; exact hlen, fun q hq => ?_⟩⟩
      have r2 : RDs A X.K (w1.add q (.tup vs)) [.tup xs] [.ref q] := .cons (.tup (SqT.of (show upd w1.G q _ q = _ from upd_same)) (p1.mono (add_le (S1.g_none hq)))) .nil
      exact sp_of hi (by rw [hps]; rfl) r2 (sr_add S1 hq) e fun v H2 w2 E2 S2 r2 => k v H2 w2 (E1.trans ((ext_add S1 hq).trans E2)) S2 (pv_rd rfl r2)
end
end Eng

namespace Eng
open PySem PySem.Spec PyProof.Rows L2
section
variable {P : Prg} {A : Ad} {call : Nat → List D → Store → Res D} {fd : Nat → FuncData} {lv : Nat} {N : List PySem.Str}
def BE (P : Prg) (A : Ad) (call : Nat → List D → Store → Res D) (X : Cx) (c : C) (e : Expr) : Prop := PE X e (tE P A call X c) ∧ (tokE e = true → PT X e (tTst P A call X c))
theorem be_val {sc : Scope} {X : Cx} {c : C} {e : Expr} (cx : Cxt P A call fd lv N sc X) (ht : plainTest e = true) (h : PE X e (tE P A call X c)) : BE P A call X c e := ⟨h, fun _ => tst_val cx ht h⟩
theorem be_nt {X : Cx} {c : C} {e : Expr} (ht : tokE e = false) (h : PE X e (tE P A call X c)) : BE P A call X c e := ⟨h, fun z => by rw [ht] at z; cases z⟩
theorem o_of {sc : Scope} {X : Cx} {c : C} {o : Option Expr} (hs : ∀ e, chkE P N sc c e = true → PE X e (tE P A call X c)) (h : chkO c (fun e => chkE P N sc c e) o = true) : PO X o (tOpt P A call X c) := by
  cases o with
  | none =>
    cases c with
    | non => exact snd_none
    | _ => exact absurd h Bool.false_ne_true
  | some e =>
    simp only [chkO, Bool.and_eq_true] at h
    exact snd_some h.1.1.2 (by simpa using h.1.1.1) (hs _ h.2)
theorem lc2_inv {sc : Scope} {elt : C} {tg tg2 : List Nat} {it it2 : Eng.It} {e : Expr} (h : chkE P N sc (.lc2 elt tg it tg2 it2) e = true) : ∃ ee t i t2 i2 scope pos, e = .ListComp ee [⟨t, i, [], 0⟩, ⟨t2, i2, [], 0⟩] scope pos ∧ blkC N sc scope (((tg ++ tg2).map fun k => N.getD k "").zip (tg ++ tg2)) = true ∧ targetB N (ownB scope) tg t = true ∧ targetB N (ownB scope) tg2 t2 = true ∧ chkI P N sc it i t = true ∧ shape i = true ∧ chkI P N (relS scope sc) it2 i2 t2 = true ∧ shape i2 = true ∧ (!elt.isBor) = true ∧ chkE P N (relS scope sc) elt ee = true := by
  cases e with
  | ListComp ee gs scope pos =>
    simp only [chkE] at h
    split at h
    · rename_i g hg
      obtain rfl := gen2_is hg
      simp only [Bool.and_eq_true] at h
      obtain ⟨⟨⟨⟨⟨⟨⟨h1, h2⟩, h3⟩, h4⟩, h5⟩, h6⟩, h7⟩, ⟨h8, h9⟩, h10⟩ := h
      exact ⟨ee, _, _, _, _, scope, pos, rfl, h1, h2, h3, h4, h5, h6, h7, h8, h10⟩
    · cases h
  | _ => simp [chkE] at h
theorem ifs_nil' {X : Cx} : PTs X [] (tIfs P A call X .nil) := by
  refine ⟨fun pins s σ H Q I q => pts_nil.run pins s σ H Q I ?_⟩
  obtain ⟨w, ρ, st, H0, ex, k, st', S, R, e, kk⟩ := q
  simp only [evIfs] at e
  cases e
  exact kk _ _ (.refl _ _ _) S
theorem snd_lc2 {sc : Scope} {X : Cx} (cx : Cxt P A call fd lv N sc X) {elt : C} {tg tg2 : List Nat} {it it2 : Eng.It} {ee t i t2 i2 : Expr} {scope : Scope} {pos : Pos} (h1 : blkC N sc scope (((tg ++ tg2).map fun k => N.getD k "").zip (tg ++ tg2)) = true) (h2 : targetB N (ownB scope) tg t = true) (h3 : targetB N (ownB scope) tg2 t2 = true) (h5 : shape i = true) (h7 : shape i2 = true) (h8 : (!elt.isBor) = true)
    (hi : PI X t i (tI P A call X it)) (hi2 : ∀ (s : Shared) (H : Hp) (C : Addr) (cl : List (PySem.Str × Addr)) (fp : List Addr), PI (X.blk s H scope (compEnvC scope cl C X.env) fp) t2 i2 (tI P A call X it2)) (he : ∀ (s : Shared) (H : Hp) (C : Addr) (cl : List (PySem.Str × Addr)) (fp : List Addr), PE (X.blk s H scope (compEnvC scope cl C X.env) fp) ee (tE P A call X elt)) :
    PE X (.ListComp ee [⟨t, i, [], 0⟩, ⟨t2, i2, [], 0⟩] scope pos) (tE P A call X (.lc2 elt tg it tg2 it2)) := by
  have hpe := pe_lc2 (pos := pos) (g := gTg X.K tg) (g1 := gTg X.K tg2) (tt := tIfs P A call X .nil) (tt1 := tIfs P A call X .nil) (te := tE P A call X elt) (vs1 := tg2) (wi1 := tI P A call X it2) cx.calm cx.nd hi (own := ((tg ++ tg2).map fun k => N.getD k "").zip (tg ++ tg2)) (blkOk_by (by rw [cx.N, cx.sc]; exact h1))
    (fun i hi => by rw [zip_snd]; exact List.mem_append_right _ hi)
    (fun s H Cc cl fp => pg_tg (N := N) (cxt_blk cx s H Cc cl fp).calm (cxt_blk cx s H Cc cl fp).nd (cxt_blk cx s H Cc cl fp).N (fun x hx => by
      rw [(cxt_blk (scope := scope) cx s H Cc cl fp).sc]
      exact own_loc hx) h2)
    (fun s H Cc cl fp => ifs_nil') hi2
    (fun s H Cc cl fp => pg_tg (N := N) (cxt_blk cx s H Cc cl fp).calm (cxt_blk cx s H Cc cl fp).nd (cxt_blk cx s H Cc cl fp).N (fun x hx => by
      rw [(cxt_blk (scope := scope) cx s H Cc cl fp).sc]
      exact own_loc hx) h3)
    (fun s H Cc cl fp => ifs_nil') he (fun x => fold_of _ h5 x) (fun env x => fold_of env h7 x)
  rw [zip_snd] at hpe
  exact PE.mono hpe (lc2_step elt tg it tg2 it2 h8)
/-- what is known of smaller terms -/
structure IHE (P : Prg) (A : Ad) (call : Nat → List D → Store → Res D) (fd : Nat → FuncData) (lv : Nat) (N : List PySem.Str) (n : Nat) : Prop where
  run : ∀ (c : C) {sc : Scope} {X : Cx} {e : Expr}, sizeOf c < n → Cxt P A call fd lv N sc X → chkE P N sc c e = true → BE P A call X c e
theorem sndKs0 {n : Nat} (ih : IHE P A call fd lv N n) : ∀ (as : Cs) {sc : Scope} {X : Cx} {ks : List Keyword}, sizeOf as ≤ n → Cxt P A call fd lv N sc X → chkKs P N sc as ks = true → PK X ks (tAs P A call X as)
  | .nil, sc, X, ks, hn, cx, h => by
    cases ks with
    | nil => exact snd_knil
    | cons _ _ => simp [chkKs] at h
  | .cons c r, sc, X, ks, hn, cx, h => by
    cases ks with
    | nil => simp [chkKs] at h
    | cons k ks =>
      obtain ⟨nm, e, kp⟩ := k
      simp only [chkKs, Bool.and_eq_true] at h
      exact snd_kcons h.1.1.1 (ih.run c (by simp at hn; omega) cx h.1.2).1 (sndKs0 ih r (by simp at hn; omega) cx h.2)
theorem sndEs0 {n : Nat} (ih : IHE P A call fd lv N n) : ∀ (as : Cs) {sc : Scope} {X : Cx} {es : List Expr}, sizeOf as ≤ n → Cxt P A call fd lv N sc X → chkEs P N sc as es = true → PA X es (tAs P A call X as)
  | .nil, sc, X, es, hn, cx, h => by
    cases es with
    | nil => exact snd_nil
    | cons _ _ => simp [chkEs] at h
  | .cons c r, sc, X, es, hn, cx, h => by
    cases es with
    | nil => simp [chkEs] at h
    | cons e es =>
      simp only [chkEs, Bool.and_eq_true] at h
      exact snd_cons h.1.1.1 h.1.1.2 (ih.run c (by simp at hn; omega) cx h.1.2).1 (sndEs0 ih r (by simp at hn; omega) cx h.2)
theorem sndPs0 {n : Nat} (ih : IHE P A call fd lv N n) : ∀ (as : Cs) (ks : List Nat) (pos : Pos) {sc : Scope} {X : Cx} {keys : List (Option Expr)} {vals : List Expr}, sizeOf as ≤ n → Cxt P A call fd lv N sc X → chkK P ks keys = true → chkEs P N sc as vals = true → keys.length = vals.length → PPs X pos keys vals (trsOf P A call X ks as) ∧ keys.all (·.isSome) = true ∧ keys.length = ks.length
  | .nil, ks, pos, sc, X, keys, vals, hn, cx, h1, h2, hl => by
    cases vals with
    | cons _ _ => simp [chkEs] at h2
    | nil =>
      match ks, keys, h1, hl with
      | [], [], _, _ => exact ⟨pps_nil, rfl, rfl⟩
      | [], _ :: _, h1, _ => simp [chkK] at h1
      | _ :: _, [], h1, _ => simp [chkK] at h1
      | k :: ks, ke :: keys, _, hl => simp at hl
  | .cons c r, ks, pos, sc, X, keys, vals, hn, cx, h1, h2, hl => by
    cases vals with
    | nil => simp [chkEs] at h2
    | cons e es =>
      simp only [chkEs, Bool.and_eq_true] at h2
      match ks, keys, h1, hl with
      | [], [], _, hl => simp at hl
      | [], _ :: _, h1, _ => simp [chkK] at h1
      | _ :: _, [], h1, _ => simp [chkK] at h1
      | k :: ks, none :: keys, h1, _ => simp [chkK] at h1
      | k :: ks, some ek :: keys, h1, hl =>
        cases ek with
        | Constant kc kk p2 =>
          cases kc with
          | str s =>
            simp only [chkK, Bool.and_eq_true, decide_eq_true_eq] at h1
            obtain ⟨z1, z2, z3⟩ := sndPs0 ih r ks pos (by simp at hn; omega) cx h1.2 h2.2 (by simpa using hl)
            refine ⟨?_, by simp [z2], by simp [z3]⟩
            have q := pps_cons (pos := pos) (pe_str (X := X) (x := s) (j := kk) (pos := p2)) (ih.run c (by simp at hn; omega) cx h2.1.2).1 z1
            have hk := h1.1
            subst hk
            exact q
          | _ => simp [chkK] at h1
        | _ => simp [chkK] at h1
theorem sndAnd0 {n : Nat} (ih : IHE P A call fd lv N n) : ∀ (as : Cs) (pos : Pos) {sc : Scope} {X : Cx} {es : List Expr}, sizeOf as ≤ n → Cxt P A call fd lv N sc X → chkEs P N sc as es = true → es ≠ [] → PE X (.BoolOp .And es pos) (tE P A call X (.and as)) ∧ (tokEs es = true → PW X (.BoolOp .And es pos) (tTst P A call X (.and as)))
  | .nil, pos, sc, X, es, hz, cx, h, hn => by
    cases es with
    | nil => exact absurd rfl hn
    | cons _ _ => simp [chkEs] at h
  | .cons c .nil, pos, sc, X, es, hz, cx, h, hn => by
    match es, h with
    | [e], h =>
      simp only [chkEs, Bool.and_eq_true] at h
      obtain ⟨z1, z2⟩ := ih.run c (by simp at hz; omega) cx h.1.2
      exact ⟨snd_and1 h.1.1.1 z1, fun t => tst_and1 (z2 (by simp only [tokEs, Bool.and_eq_true] at t; exact t.1))⟩
    | [], h => exact absurd rfl hn
    | _ :: _ :: _, h => simp [chkEs] at h
  | .cons c (.cons c2 r), pos, sc, X, es, hz, cx, h, hn => by
    match es, h with
    | e :: e2 :: es, h =>
      simp only [chkEs, Bool.and_eq_true] at h
      obtain ⟨z1, z2⟩ := ih.run c (by simp at hz; omega) cx h.1.2
      obtain ⟨y1, y2⟩ := sndAnd0 ih (.cons c2 r) pos (by simp at hz ⊢; omega) cx (es := e2 :: es) (by simp only [chkEs, Bool.and_eq_true]; exact h.2) (by simp)
      exact ⟨snd_and h.1.1.1 z1 y1, fun t => by
        rw [tokEs, Bool.and_eq_true] at t
        exact tst_and (z2 t.1) (y2 t.2)⟩
    | [], h => exact absurd rfl hn
    | [_], h => simp [chkEs] at h
theorem sndOr0 {n : Nat} (ih : IHE P A call fd lv N n) : ∀ (as : Cs) (pos : Pos) {sc : Scope} {X : Cx} {es : List Expr}, sizeOf as ≤ n → Cxt P A call fd lv N sc X → chkEs P N sc as es = true → es ≠ [] → PE X (.BoolOp .Or es pos) (tE P A call X (.or as)) ∧ (tokEs es = true → PW X (.BoolOp .Or es pos) (tTst P A call X (.or as)))
  | .nil, pos, sc, X, es, hz, cx, h, hn => by
    cases es with
    | nil => exact absurd rfl hn
    | cons _ _ => simp [chkEs] at h
  | .cons c .nil, pos, sc, X, es, hz, cx, h, hn => by
    match es, h with
    | [e], h =>
      simp only [chkEs, Bool.and_eq_true] at h
      obtain ⟨z1, z2⟩ := ih.run c (by simp at hz; omega) cx h.1.2
      exact ⟨snd_or1 h.1.1.1 z1, fun t => tst_or1 (z2 (by simp only [tokEs, Bool.and_eq_true] at t; exact t.1))⟩
    | [], h => exact absurd rfl hn
    | _ :: _ :: _, h => simp [chkEs] at h
  | .cons c (.cons c2 r), pos, sc, X, es, hz, cx, h, hn => by
    match es, h with
    | e :: e2 :: es, h =>
      simp only [chkEs, Bool.and_eq_true] at h
      obtain ⟨z1, z2⟩ := ih.run c (by simp at hz; omega) cx h.1.2
      obtain ⟨y1, y2⟩ := sndOr0 ih (.cons c2 r) pos (by simp at hz ⊢; omega) cx (es := e2 :: es) (by simp only [chkEs, Bool.and_eq_true]; exact h.2) (by simp)
      exact ⟨snd_or h.1.1.1 z1 y1, fun t => by
        rw [tokEs, Bool.and_eq_true] at t
        exact tst_or (z2 t.1) (y2 t.2)⟩
    | [], h => exact absurd rfl hn
    | [_], h => simp [chkEs] at h
theorem sndIfs0 {n : Nat} (ih : IHE P A call fd lv N n) : ∀ (cs : Cs) {sc : Scope} {X : Cx} {fs : List Expr}, sizeOf cs ≤ n → Cxt P A call fd lv N sc X → chkIfs P N sc cs fs = true → PTs X fs (tIfs P A call X cs)
  | .nil, sc, X, fs, hn, cx, h => by
    cases fs with
    | nil =>
      refine ⟨fun pins s σ H Q I q => pts_nil.run pins s σ H Q I ?_⟩
      obtain ⟨w, ρ, st, H0, ex, k, st', S, R, e, kk⟩ := q
      simp only [evIfs] at e
      cases e
      exact kk _ _ (.refl _ _ _) S
    | cons _ _ => simp [chkIfs] at h
  | .cons c .nil, sc, X, fs, hn, cx, h => by
    match fs, h with
    | [e], h =>
      simp only [chkIfs, Bool.and_eq_true] at h
      refine ⟨fun pins s σ H Q I q => (pts_one ((ih.run c (by simp at hn; omega) cx h.2).2 h.1.1.1)).run pins s σ H Q I ?_⟩
      obtain ⟨w, ρ, st, H0, ex, k, st', S, R, e, kk⟩ := q
      simp only [evIfs] at e
      exact ⟨w, ρ, st, H0, ex, k, st', S, R, e, kk⟩
    | [], h => simp [chkIfs] at h
    | _ :: _ :: _, h => simp [chkIfs] at h
  | .cons c (.cons _ _), sc, X, fs, hn, cx, h => by simp [chkIfs] at h
theorem sndI0 {n : Nat} (ih : IHE P A call fd lv N n) : ∀ (it : Eng.It) {sc : Scope} {X : Cx} {e t : Expr}, sizeOf it ≤ n → Cxt P A call fd lv N sc X → chkI P N sc it e t = true → PI X t e (tI P A call X it)
  | .seq c, sc, X, e, t, hn, cx, h => by
    simp only [chkI, Bool.and_eq_true] at h
    exact pi_seq h.1.2 (ih.run c (by simp at hn; omega) cx h.2).1
  | .rng1 a, sc, X, e, t, hn, cx, h => by
    cases e with
    | Call f es ks pos =>
      cases f with
      | Name x p =>
        match es, ks, h with
        | [ea], [], h =>
          simp only [chkI, Bool.and_eq_true, decide_eq_true_eq] at h
          exact pi_r1 cx h.1.1.1 h.1.1.2 h.1.2 h.2.1.1 h.2.1.2 (ih.run a (by simp at hn; omega) cx h.2.2).1
        | [], _, h => simp [chkI] at h
        | _ :: _ :: _, _, h => simp [chkI] at h
        | [_], _ :: _, h => simp [chkI] at h
      | _ => simp [chkI] at h
    | _ => simp [chkI] at h
  | .rng2 a b, sc, X, e, t, hn, cx, h => by
    cases e with
    | Call f es ks pos =>
      cases f with
      | Name x p =>
        match es, ks, h with
        | [ea, eb], [], h =>
          simp only [chkI, Bool.and_eq_true, decide_eq_true_eq] at h
          exact pi_r2 cx h.1.1.1.1 h.1.1.1.2 h.1.1.2 h.1.2.1.1 h.1.2.1.2 (ih.run a (by simp at hn; omega) cx h.1.2.2).1 h.2.1.1 h.2.1.2 (ih.run b (by simp at hn; omega) cx h.2.2).1
        | [], _, h => simp [chkI] at h
        | [_], _, h => simp [chkI] at h
        | _ :: _ :: _ :: _, _, h => simp [chkI] at h
        | [_, _], _ :: _, h => simp [chkI] at h
      | _ => simp [chkI] at h
    | _ => simp [chkI] at h
  | .zip a b, sc, X, e, t, hn, cx, h => by
    cases e with
    | Call f es ks pos =>
      cases f with
      | Name x p =>
        match es, ks, h with
        | [ea, eb], [], h =>
          cases t with
          | Tuple elts kk tpos =>
            simp only [chkI, Bool.and_eq_true, decide_eq_true_eq] at h
            exact pi_zp cx h.1.1.1.1 h.1.1.1.2 h.1.1.2 h.1.2.1.1 h.1.2.1.2 (ih.run a (by simp at hn; omega) cx h.1.2.2).1 h.2.1.1 h.2.1.2 (ih.run b (by simp at hn; omega) cx h.2.2).1
          | _ => exact absurd h Bool.false_ne_true
        | [], _, h => cases t <;> exact absurd h Bool.false_ne_true
        | [_], _, h => cases t <;> exact absurd h Bool.false_ne_true
        | _ :: _ :: _ :: _, _, h => cases t <;> exact absurd h Bool.false_ne_true
        | [_, _], _ :: _, h => cases t <;> exact absurd h Bool.false_ne_true
      | _ => cases t <;> exact absurd h Bool.false_ne_true
    | _ => cases t <;> exact absurd h Bool.false_ne_true
  | .enum a, sc, X, e, t, hn, cx, h => by
    cases e with
    | Call f es ks pos =>
      cases f with
      | Name x p =>
        match es, ks, h with
        | [ea], [], h =>
          cases t with
          | Tuple elts kk tpos =>
            simp only [chkI, Bool.and_eq_true, decide_eq_true_eq] at h
            exact pi_en cx h.1.1.1 h.1.1.2 h.1.2 h.2.1.1 h.2.1.2 (ih.run a (by simp at hn; omega) cx h.2.2).1
          | _ => exact absurd h Bool.false_ne_true
        | [], _, h => cases t <;> exact absurd h Bool.false_ne_true
        | _ :: _ :: _, _, h => cases t <;> exact absurd h Bool.false_ne_true
        | [_], _ :: _, h => cases t <;> exact absurd h Bool.false_ne_true
      | _ => cases t <;> exact absurd h Bool.false_ne_true
    | _ => cases t <;> exact absurd h Bool.false_ne_true
theorem chkB_sh {sc : Scope} : ∀ {as : Cs} {es : List Expr}, chkBs P N sc as es = true → es.all shape = true
  | .nil, [], _ => rfl
  | .nil, _ :: _, h => by simp [chkBs] at h
  | .cons _ _, [], h => by simp [chkBs] at h
  | .cons c r, e :: es, h => by
    simp only [chkBs, Bool.and_eq_true] at h
    rw [List.all_cons, Bool.and_eq_true]
    exact ⟨h.1.1, chkB_sh h.2⟩
theorem sndBs0 {n : Nat} (ih : IHE P A call fd lv N n) : ∀ (as : Cs) {sc : Scope} {X : Cx} {es : List Expr}, sizeOf as ≤ n → Cxt P A call fd lv N sc X → chkBs P N sc as es = true → PA X es (tBs P A call X as)
  | .nil, sc, X, es, hn, cx, h => by
    cases es with
    | nil => exact snd_bnil
    | cons _ _ => simp [chkBs] at h
  | .cons c r, sc, X, es, hn, cx, h => by
    cases es with
    | nil => simp [chkBs] at h
    | cons e es =>
      simp only [chkBs, Bool.and_eq_true] at h
      exact snd_bcons h.1.1 (ih.run c (by simp at hn; omega) cx h.1.2).1 (sndBs0 ih r (by simp at hn; omega) cx h.2)
theorem sndE0 (c : C) {sc : Scope} {X : Cx} {e : Expr} (ih : IHE P A call fd lv N (sizeOf c)) (cx : Cxt P A call fd lv N sc X) (h : chkE P N sc c e = true) : BE P A call X c e := by
  cases c with
  | var i =>
    cases e with
    | Name x p => exact be_val cx rfl (snd_var cx (by simpa only [chkE] using h))
    | _ => simp [chkE] at h
  | bor i =>
    cases e with
    | Name x p => exact be_val cx rfl (snd_bor cx (by simpa only [chkE] using h))
    | _ => simp [chkE] at h
  | non =>
    cases e with
    | Constant k n p =>
      cases k with
      | none => exact be_val cx rfl (snd_const rfl (fun _ _ => by simp only [ev]) (fun _ => .non) pe_non)
      | _ => simp [chkE] at h
    | _ => simp [chkE] at h
  | bl b =>
    cases e with
    | Constant k n p =>
      cases k with
      | bool c =>
        have hb : b = c := by simpa [chkE] using h
        subst hb
        exact be_val cx rfl (snd_const rfl (fun _ _ => by simp only [ev]) (fun _ => .bl b) pe_bl)
      | _ => simp [chkE] at h
    | _ => simp [chkE] at h
  | int i =>
    cases e with
    | Constant k n p =>
      cases k with
      | int c =>
        have hb : i = c := by simpa [chkE] using h
        subst hb
        exact be_val cx rfl (snd_const rfl (fun _ _ => by simp only [ev]) (fun _ => .int i) pe_int)
      | _ => simp [chkE] at h
    | _ => simp [chkE] at h
  | str s =>
    cases e with
    | Constant k n p =>
      cases k with
      | str c =>
        have hb : s = c := by simpa [chkE] using h
        subst hb
        exact be_val cx rfl (snd_const rfl (fun _ _ => by simp only [ev]) (fun _ => .str s) pe_str)
      | _ => simp [chkE] at h
    | _ => simp [chkE] at h
  | gfn j =>
    simp [chkE] at h
  | gco k =>
    cases e with
    | Name x p =>
      simp only [chkE, Bool.and_eq_true] at h
      cases q : P.con[k]? with
      | none => rw [q] at h; cases h.2
      | some r =>
        rw [q] at h
        exact be_val cx rfl (snd_gco cx h.1 q (of_decide_eq_true h.2))
    | Attribute eo f p =>
      cases eo with
      | Name x p2 =>
        simp only [chkE, Bool.and_eq_true] at h
        exact be_val cx rfl (snd_cco cx h.1 h.2)
      | _ => simp [chkE] at h
    | _ => simp [chkE] at h
  | callV j as =>
    simp [chkE] at h
  | neg a =>
    cases e with
    | UnaryOp op ea p =>
      cases op with
      | USub =>
        simp only [chkE, Bool.and_eq_true] at h
        exact be_val cx rfl (snd_neg cx (ih.run a (by simp <;> omega) cx h.2).1)
      | _ => simp [chkE] at h
    | _ => simp [chkE] at h
  | not a =>
    cases e with
    | UnaryOp op ea p =>
      cases op with
      | Not =>
        simp only [chkE, Bool.and_eq_true] at h
        exact ⟨snd_not (ih.run a (by simp <;> omega) cx h.2).1 h.1.1, fun t => tst_not ((ih.run a (by simp <;> omega) cx h.2).2 (by simpa only [tokE] using t))⟩
      | _ => simp [chkE] at h
    | _ => simp [chkE] at h
  | bin op a b =>
    cases e with
    | BinOp ea o eb pos =>
      simp only [chkE, Bool.and_eq_true] at h
      exact be_val cx rfl (snd_bin cx h.1.1 (ih.run a (by simp <;> omega) cx h.1.2.2).1 (ih.run b (by simp <;> omega) cx h.2.2).1)
    | _ => simp [chkE] at h
  | cmp op a b =>
    cases e with
    | Compare ea os es pos =>
      match os, es, h with
      | [o], [eb], h =>
        simp only [chkE, Bool.and_eq_true] at h
        exact ⟨snd_cmp cx h.1.1 h.2.1 (ih.run a (by simp <;> omega) cx h.1.2.2).1 (ih.run b (by simp <;> omega) cx h.2.2).1, fun _ => tst_cmp cx h.1.1 h.2.1 (ih.run a (by simp <;> omega) cx h.1.2.2).1 (ih.run b (by simp <;> omega) cx h.2.2).1⟩
      | [], _, h => simp [chkE] at h
      | _ :: _ :: _, _, h => simp [chkE] at h
      | [_], [], h => simp [chkE] at h
      | [_], _ :: _ :: _, h => simp [chkE] at h
    | _ => simp [chkE] at h
  | chain o1 o2 a b c =>
    cases e with
    | Compare ea os es pos =>
      match os, es, h with
      | [p1, p2], [eb, ec], h =>
        simp only [chkE, Bool.and_eq_true] at h
        exact ⟨snd_chain cx h.1.1.1.1 h.1.1.1.2 h.2.1.2 (ih.run a (by simp <;> omega) cx h.1.1.2.2).1 (ih.run b (by simp <;> omega) cx h.1.2.2).1 (ih.run c (by simp <;> omega) cx h.2.2).1, fun _ => tst_chain cx h.1.1.1.1 h.1.1.1.2 h.2.1.2 (ih.run a (by simp <;> omega) cx h.1.1.2.2).1 (ih.run b (by simp <;> omega) cx h.1.2.2).1 (ih.run c (by simp <;> omega) cx h.2.2).1⟩
      | [], _, h => simp [chkE] at h
      | [_], _, h => simp [chkE] at h
      | _ :: _ :: _ :: _, _, h => simp [chkE] at h
      | [_, _], [], h => simp [chkE] at h
      | [_, _], [_], h => simp [chkE] at h
      | [_, _], _ :: _ :: _ :: _, h => simp [chkE] at h
    | _ => simp [chkE] at h
  | and as =>
    cases e with
    | BoolOp o es pos =>
      cases o with
      | And =>
        simp only [chkE, Bool.and_eq_true] at h
        obtain ⟨z1, z2⟩ := sndAnd0 ih as pos (by simp <;> omega) cx h.1 (by rintro rfl; simp at h)
        exact ⟨z1, fun t => (z2 (by simpa only [tokE] using t)).pt⟩
      | Or => simp [chkE] at h
    | _ => simp [chkE] at h
  | or as =>
    cases e with
    | BoolOp o es pos =>
      cases o with
      | Or =>
        simp only [chkE, Bool.and_eq_true] at h
        obtain ⟨z1, z2⟩ := sndOr0 ih as pos (by simp <;> omega) cx h.1 (by rintro rfl; simp at h)
        exact ⟨z1, fun t => (z2 (by simpa only [tokE] using t)).pt⟩
      | And => simp [chkE] at h
    | _ => simp [chkE] at h
  | ite t a b =>
    cases e with
    | IfExp et ea eb pos =>
      simp only [chkE, Bool.and_eq_true] at h
      exact be_nt rfl (snd_ite h.1.2.1.1 h.2.1.1 ((ih.run t (by simp <;> omega) cx h.1.1.2).2 h.1.1.1.1.1) (ih.run a (by simp <;> omega) cx h.1.2.2).1 (ih.run b (by simp <;> omega) cx h.2.2).1)
    | _ => simp [chkE] at h
  | tup as =>
    cases e with
    | Tuple es k pos =>
      simp only [chkE, Bool.and_eq_true, decide_eq_true_eq] at h
      exact be_val cx rfl (snd_tup (by rw [← chk_len h.1]; omega) (sndEs0 ih as (by simp <;> omega) cx h.1))
    | _ => simp [chkE] at h
  | lst as =>
    cases e with
    | List es pos =>
      simp only [chkE, Bool.and_eq_true, decide_eq_true_eq] at h
      exact be_val cx rfl (snd_lst (by rw [← chk_len h.1]; omega) (sndEs0 ih as (by simp <;> omega) cx h.1))
    | _ => simp [chkE] at h
  | idx a b =>
    cases e with
    | Subscript ea eb pos =>
      have h' : ((shape ea && chkE P N sc a ea) && (!b.isBor && shape eb && chkE P N sc b eb)) = true := by simpa only [chkE] using h
      simp only [Bool.and_eq_true] at h'
      exact be_val cx rfl (snd_idx h'.2.1.2 (ih.run a (by simp <;> omega) cx h'.1.2).1 (ih.run b (by simp <;> omega) cx h'.2.2).1)
    | _ => simp [chkE] at h
  | sl a lo hi =>
    cases e with
    | Subscript ea eb pos =>
      cases eb with
      | Slice l u s p2 =>
        cases s with
        | none =>
          simp only [chkE, Bool.and_eq_true] at h
          exact be_val cx rfl (snd_sl (ih.run a (by simp <;> omega) cx h.1.1.2).1 (o_of (fun _ z => (ih.run lo (by simp <;> omega) cx z).1) h.1.2) (o_of (fun _ z => (ih.run hi (by simp <;> omega) cx z).1) h.2))
        | some _ => simp [chkE] at h
      | _ => simp [chkE] at h
    | _ => simp [chkE] at h
  | call j as ds =>
    cases e with
    | Call f es ks pos =>
      cases f with
      | Name x p =>
        cases ks with
        | nil =>
          simp only [chkE, Bool.and_eq_true] at h
          exact be_val cx rfl (snd_call cx h.1.1.1 h.1.1.2 h.1.2 (chk_sh h.2) (sndEs0 ih as (by simp <;> omega) cx h.2) h.2)
        | cons _ _ => simp [chkE] at h
      | _ => simp [chkE] at h
    | _ => simp [chkE] at h
  | make c as ds =>
    cases e with
    | Call f es ks pos =>
      cases f with
      | Name x p =>
        cases ks with
        | nil =>
          simp only [chkE, Bool.and_eq_true] at h
          exact be_val cx rfl (snd_make cx h.1.1 h.1.2 (chk_sh h.2) (sndEs0 ih as (by simp <;> omega) cx h.2) h.2)
        | cons _ _ => simp [chkE] at h
      | _ => simp [chkE] at h
    | _ => simp [chkE] at h
  | meth m o as =>
    cases e with
    | Call f es ks pos =>
      cases f with
      | Attribute eo x apos =>
        cases ks with
        | nil =>
          simp only [chkE, Bool.and_eq_true, decide_eq_true_eq] at h
          exact be_val cx rfl (snd_meth cx h.1.1.1.1.1 h.1.1.1.1.2 (ih.run o (by simp <;> omega) cx h.1.1.1.2.2).1 (chk_sh h.1.1.2) h.1.2 h.2 (sndEs0 ih as (by simp <;> omega) cx h.1.1.2) h.1.1.2)
        | cons _ _ => simp [chkE] at h
      | _ => simp [chkE] at h
    | _ => simp [chkE] at h
  | attr f o =>
    cases e with
    | Attribute eo x p =>
      simp only [chkE, Bool.and_eq_true, decide_eq_true_eq] at h
      exact be_val cx rfl (snd_attr cx h.1.1 h.1.2 (ih.run o (by simp <;> omega) cx h.2.2).1)
    | _ => simp [chkE] at h
  | blt b a =>
    cases e with
    | Call f es ks pos =>
      cases f with
      | Name x p =>
        match es, ks, h with
        | [ea], [], h =>
          simp only [chkE, Bool.and_eq_true, decide_eq_true_eq] at h
          exact be_val cx rfl (snd_blt cx h.1.1.1 h.1.1.2 h.1.2 h.2.1 (ih.run a (by simp <;> omega) cx h.2.2).1)
        | [], _, h => simp [chkE] at h
        | _ :: _ :: _, _, h => simp [chkE] at h
        | [_], _ :: _, h => simp [chkE] at h
      | _ => simp [chkE] at h
    | _ => simp [chkE] at h
  | isi a t =>
    cases e with
    | Call f es ks pos =>
      cases f with
      | Name x p =>
        match es, ks, h with
        | [ea, e2], [], h =>
          cases e2 with
          | Name y p2 =>
            simp only [chkE, Bool.and_eq_true, decide_eq_true_eq] at h
            exact be_val cx rfl (snd_isi cx h.1.1.1.1.1.1.1 h.1.1.1.1.1.1.2 h.1.1.1.1.1.2 h.1.1.1.1.2 h.1.1.1.2 h.1.1.2 h.1.2 h.2.1.1 h.2.1.2 (ih.run a (by simp <;> omega) cx h.2.2).1)
          | _ => simp [chkE] at h
        | [], _, h => simp [chkE] at h
        | [_], _, h => simp [chkE] at h
        | _ :: _ :: _ :: _, _, h => simp [chkE] at h
        | [_, _], _ :: _, h => simp [chkE] at h
      | _ => simp [chkE] at h
    | _ => simp [chkE] at h
  | lc elt tg it ifs =>
    cases e with
    | ListComp e gs scope pos =>
      match gs, h with
      | [⟨t, i, fs, n⟩], h =>
        simp only [chkE, Bool.and_eq_true, decide_eq_true_eq] at h
        obtain ⟨⟨⟨⟨⟨⟨⟨⟨h0, h1⟩, h2⟩, h3⟩, h4⟩, h5⟩, h6⟩, h7⟩, ⟨h8, h9⟩, h10⟩ := h
        subst h0
        refine be_val cx rfl ?_
        have hI : PI X t i (tIC P A call X it) := by
          rw [Bool.or_eq_true] at h5
          rcases h5 with h5 | h5
          · exact pi_c (sndI0 ih it (by simp <;> omega) cx h5)
          · exact bor_i cx h5
        have hpe := pe_lc (pos := pos) (g := gTg X.K tg) (tt := tIfs P A call X ifs) (te := tE P A call X elt) cx.calm cx.nd hI (own := (tg.map fun k => N.getD k "").zip tg) (blkOk_by (by rw [cx.N, cx.sc]; exact h1))
          (fun s H Cc cl fp => pg_tg (N := N) (cxt_blk cx s H Cc cl fp).calm (cxt_blk cx s H Cc cl fp).nd (cxt_blk cx s H Cc cl fp).N (fun x hx => by
            rw [(cxt_blk (scope := scope) cx s H Cc cl fp).sc]
            exact own_loc hx) h2)
          (fun s H Cc cl fp => sndIfs0 ih ifs (by simp <;> omega) (cxt_blk cx s H Cc cl fp) h7) (fun s H Cc cl fp => (ih.run elt (by simp <;> omega) (cxt_blk cx s H Cc cl fp) h10).1) (fun x => fold_of _ h6 x)
        rw [zip_snd] at hpe
        exact PE.mono hpe (lc_step elt tg it ifs h8)
      | [], h => simp [chkE] at h
      | _ :: _ :: _, h => simp [chkE] at h
    | _ => simp [chkE] at h
  | lc2 elt tg it tg2 it2 =>
    obtain ⟨ee, t, i, t2, i2, scope, pos, rfl, h1, h2, h3, h4, h5, h6, h7, h8, h10⟩ := lc2_inv h
    exact be_val cx rfl (snd_lc2 cx h1 h2 h3 h5 h7 h8 (sndI0 ih it (by simp <;> omega) cx h4) (fun s H Cc cl fp => sndI0 ih it2 (by simp <;> omega) (cxt_blk cx s H Cc cl fp) h6) (fun s H Cc cl fp => (ih.run elt (by simp <;> omega) (cxt_blk cx s H Cc cl fp) h10).1))
  | dget o k =>
    cases e with
    | Subscript eo ek pos =>
      cases ek with
      | Constant kc kk p2 =>
        cases kc with
        | str s =>
          simp only [chkE, Bool.and_eq_true, decide_eq_true_eq] at h
          exact be_val cx rfl (snd_dget cx h.1 h.2.1.1 (ih.run o (by simp <;> omega) cx h.2.2).1)
        | _ => simp [chkE] at h
      | _ => simp [chkE] at h
    | _ => simp [chkE] at h
  | dict ks as =>
    cases e with
    | Dict keys vals pos =>
      simp only [chkE, Bool.and_eq_true, decide_eq_true_eq] at h
      obtain ⟨⟨⟨⟨h1, h2⟩, h3⟩, h4⟩, h5⟩ := h
      obtain ⟨z1, z2, z3⟩ := sndPs0 ih as ks pos (by simp <;> omega) cx h1 h2 h5
      refine be_val cx rfl (snd_dict cx z1 z2 h5 (by rintro rfl; simp at h3) h4 (by rw [← chk_len h2, ← h5, z3]) z3.symm (chk_nb h2))
    | _ => simp [chkE] at h
  | lrng a =>
    cases e with
    | Call f es ks pos =>
      cases f with
      | Name x p =>
        match es, ks, h with
        | [e1], [], h =>
          cases e1 with
          | Call f2 es2 ks2 q =>
            cases f2 with
            | Name y p2 =>
              match es2, ks2, h with
              | [ea], [], h =>
                simp only [chkE, Bool.and_eq_true, decide_eq_true_eq] at h
                obtain ⟨⟨⟨⟨⟨⟨h1, h2⟩, h3⟩, h4⟩, h5⟩, h6⟩, ⟨h7, h8⟩, h9⟩ := h
                exact be_val cx rfl (snd_lrng cx h1 h2 h3 h4 h5 h6 h7 h8 (ih.run a (by simp <;> omega) cx h9).1)
              | [], _, h => simp [chkE] at h
              | _ :: _ :: _, _, h => simp [chkE] at h
              | [_], _ :: _, h => simp [chkE] at h
            | _ => simp [chkE] at h
          | _ => simp [chkE] at h
        | [], _, h => simp [chkE] at h
        | _ :: _ :: _, _, h => simp [chkE] at h
        | [_], _ :: _, h => simp [chkE] at h
      | _ => simp [chkE] at h
    | _ => simp [chkE] at h
  | repl as n =>
    cases e with
    | BinOp ea o eb pos =>
      cases ea with
      | List es p =>
        cases o with
        | Mult =>
          simp only [chkE, Bool.and_eq_true, decide_eq_true_eq] at h
          exact be_val cx rfl (snd_repl h.2.1.1 (sndEs0 ih as (by simp <;> omega) cx h.1.1) (ih.run n (by simp <;> omega) cx h.2.2).1)
        | _ => simp [chkE] at h
      | _ => simp [chkE] at h
    | _ => simp [chkE] at h
  | popc o i =>
    cases e with
    | Call f es ks pos =>
      cases f with
      | Attribute eo x apos =>
        match es, ks, h with
        | [ea], [], h =>
          simp only [chkE, Bool.and_eq_true, decide_eq_true_eq] at h
          exact be_val cx rfl (snd_popc cx h.1.1.1.1 h.1.1.1.2 h.1.1.2.1.1 (ih.run o (by simp <;> omega) cx h.1.1.2.2).1 h.1.2.1.1 h.1.2.1.2 (ih.run i (by simp <;> omega) cx h.1.2.2).1 h.2)
        | [], _, h => simp [chkE] at h
        | _ :: _ :: _, _, h => simp [chkE] at h
        | [_], _ :: _, h => simp [chkE] at h
      | _ => simp [chkE] at h
    | _ => simp [chkE] at h
  | max2 a b =>
    cases e with
    | Call f es ks pos =>
      cases f with
      | Name x p =>
        match es, ks, h with
        | [ea, eb], [], h =>
          simp only [chkE, Bool.and_eq_true, decide_eq_true_eq] at h
          exact be_val cx rfl (snd_max2 cx h.1.1.1.1 h.1.1.1.2 h.1.1.2 h.1.2.1.2 h.2.1.2 (ih.run a (by simp <;> omega) cx h.1.2.2).1 (ih.run b (by simp <;> omega) cx h.2.2).1)
        | [], _, h => simp [chkE] at h
        | [_], _, h => simp [chkE] at h
        | _ :: _ :: _ :: _, _, h => simp [chkE] at h
        | [_, _], _ :: _, h => simp [chkE] at h
      | _ => simp [chkE] at h
    | _ => simp [chkE] at h
  | min2 a b =>
    cases e with
    | Call f es ks pos =>
      cases f with
      | Name x p =>
        match es, ks, h with
        | [ea, eb], [], h =>
          simp only [chkE, Bool.and_eq_true, decide_eq_true_eq] at h
          exact be_val cx rfl (snd_min2 cx h.1.1.1.1 h.1.1.1.2 h.1.1.2 h.1.2.1.2 h.2.1.2 (ih.run a (by simp <;> omega) cx h.1.2.2).1 (ih.run b (by simp <;> omega) cx h.2.2).1)
        | [], _, h => simp [chkE] at h
        | [_], _, h => simp [chkE] at h
        | _ :: _ :: _ :: _, _, h => simp [chkE] at h
        | [_, _], _ :: _, h => simp [chkE] at h
      | _ => simp [chkE] at h
    | _ => simp [chkE] at h
  | rev a =>
    cases e with
    | Subscript ea sl pos =>
      cases sl with
      | Slice lo up stp p3 =>
        match lo, up, stp, h with
        | none, none, some se, h =>
          cases se with
          | UnaryOp uo ue p2 =>
            cases uo with
            | USub =>
              cases ue with
              | Constant cv kk p1 =>
                cases cv with
                | int i =>
                  simp only [chkE, Bool.and_eq_true, decide_eq_true_eq] at h
                  obtain ⟨rfl, h⟩ := h
                  exact be_val cx rfl (snd_rev (ih.run a (by simp <;> omega) cx h.2).1)
                | _ => simp [chkE] at h
              | _ => simp [chkE] at h
            | _ => simp [chkE] at h
          | _ => simp [chkE] at h
        | some _, _, _, h => simp [chkE] at h
        | none, some _, _, h => simp [chkE] at h
        | none, none, none, h => simp [chkE] at h
      | _ => simp [chkE] at h
    | _ => simp [chkE] at h
  | makeS c a =>
    cases e with
    | Call f es ks pos =>
      cases f with
      | Name x p =>
        match es, ks, h with
        | [e1], [], h =>
          cases e1 with
          | Starred ea sp_ =>
            simp only [chkE, Bool.and_eq_true, decide_eq_true_eq] at h
            exact be_val cx rfl (snd_makeS cx h.1.1 h.1.2 h.2.1.1 (ih.run a (by simp <;> omega) cx h.2.2).1)
          | _ => simp [chkE] at h
        | [], _, h => simp [chkE] at h
        | _ :: _ :: _, _, h => simp [chkE] at h
        | [_], _ :: _, h => simp [chkE] at h
      | _ => simp [chkE] at h
    | _ => simp [chkE] at h
  | callT j as =>
    cases e with
    | Call f es ks pos =>
      cases f with
      | Name x p =>
        cases ks with
        | nil =>
          simp only [chkE, Bool.and_eq_true, decide_eq_true_eq] at h
          exact be_val cx rfl (snd_callT cx h.1.1.1 h.1.1.2 h.1.2 (chk_sh h.2) (sndEs0 ih as (by simp <;> omega) cx h.2))
        | cons _ _ => simp [chkE] at h
      | _ => simp [chkE] at h
    | _ => simp [chkE] at h
  | ssort a =>
    cases e with
    | Call f es ks pos =>
      cases f with
      | Name x p =>
        match es, ks, h with
        | [e1], [], h =>
          cases e1 with
          | Call f2 es2 ks2 q =>
            cases f2 with
            | Name y p2 =>
              match es2, ks2, h with
              | [ea], [], h =>
                simp only [chkE, Bool.and_eq_true, decide_eq_true_eq] at h
                obtain ⟨⟨⟨⟨⟨⟨h1, h2⟩, h3⟩, h4⟩, h5⟩, h6⟩, ⟨h7, h8⟩, h9⟩ := h
                exact be_val cx rfl (snd_ssort cx h1 h2 h3 h4 h5 h6 h8 (ih.run a (by simp <;> omega) cx h9).1)
              | [], _, h => simp [chkE] at h
              | _ :: _ :: _, _, h => simp [chkE] at h
              | [_], _ :: _, h => simp [chkE] at h
            | _ => simp [chkE] at h
          | _ => simp [chkE] at h
        | [], _, h => simp [chkE] at h
        | _ :: _ :: _, _, h => simp [chkE] at h
        | [_], _ :: _, h => simp [chkE] at h
      | _ => simp [chkE] at h
    | _ => simp [chkE] at h
  | repr a =>
    cases e with
    | Call f es ks pos =>
      cases f with
      | Name x p =>
        match es, ks, h with
        | [ea], [], h =>
          simp only [chkE, Bool.and_eq_true, decide_eq_true_eq] at h
          exact be_val cx rfl (snd_repr cx h.1.1.1.1 h.1.1.1.2 h.1.1.2 h.1.2 h.2.1.1 h.2.1.2 (ih.run a (by simp <;> omega) cx h.2.2).1)
        | [], _, h => simp [chkE] at h
        | _ :: _ :: _, _, h => simp [chkE] at h
        | [_], _ :: _, h => simp [chkE] at h
      | _ => simp [chkE] at h
    | _ => simp [chkE] at h
  | kcall j as =>
    cases e with
    | Call f es ks pos =>
      cases f with
      | Name x p =>
        cases es with
        | nil =>
          simp only [chkE, Bool.and_eq_true] at h
          obtain ⟨⟨⟨⟨⟨⟨h1, h2⟩, h3⟩, h4⟩, h5⟩, h6⟩, h7⟩ := h
          exact be_val cx rfl (snd_kcall cx h1 h2 h3 h4 h5 (sndKs0 ih as (by simp <;> omega) cx h7))
        | cons _ _ => simp [chkE] at h
      | _ => simp [chkE] at h
    | _ => simp [chkE] at h
  | callB j as =>
    cases e with
    | Call f es ks pos =>
      cases f with
      | Name x p =>
        cases ks with
        | nil =>
          simp only [chkE, Bool.and_eq_true] at h
          cases es with
          | nil => simp at h
          | cons e es => exact be_val cx rfl (snd_callB cx h.1.1.1.1 h.1.1.1.2 h.1.1.2 (chkB_sh h.2) (sndBs0 ih as (by simp <;> omega) cx h.2))
        | cons _ _ => simp [chkE] at h
      | _ => simp [chkE] at h
    | _ => simp [chkE] at h
  | newc z =>
    cases z with
    | repl as n =>
      cases e with
      | BinOp ea o eb pos =>
        cases ea with
        | List es p =>
          cases o with
          | Mult =>
            simp only [chkE, Bool.and_eq_true, decide_eq_true_eq] at h
            exact be_val cx rfl (snd_newR h.2.1.1 (sndEs0 ih as (by simp <;> omega) cx h.1.1) (ih.run n (by simp <;> omega) cx h.2.2).1)
          | _ => simp [chkE] at h
        | _ => simp [chkE] at h
      | _ => simp [chkE] at h
    | call j as ds =>
      cases e with
      | Call f es ks pos =>
        cases f with
        | Name x p =>
          cases ks with
          | nil =>
            simp only [chkE, Bool.and_eq_true, decide_eq_true_eq] at h
            exact be_val cx rfl (snd_newCall cx h.1.2 h.1.1.1.1 h.1.1.1.2 h.1.1.2 (chk_sh h.2) (sndEs0 ih as (by simp <;> omega) cx h.2) h.2)
          | cons _ _ => simp [chkE] at h
        | _ => simp [chkE] at h
      | _ => simp [chkE] at h
    | lst as =>
      cases e with
      | List es pos =>
        simp only [chkE, Bool.and_eq_true, decide_eq_true_eq] at h
        exact be_val cx rfl (snd_newL (by rw [← chk_len h.1]; omega) (sndEs0 ih as (by simp <;> omega) cx h.1))
      | _ => simp [chkE] at h
    | blt b a =>
      cases b with
      | list =>
        cases e with
        | Call f es ks pos =>
          cases f with
          | Name x p =>
            match es, ks, h with
            | [ea], [], h =>
              simp only [chkE, Bool.and_eq_true, decide_eq_true_eq] at h
              exact be_val cx rfl (snd_newT cx h.1.1.1 h.1.1.2 h.1.2 h.2.1 (ih.run a (by simp <;> omega) cx h.2.2).1)
            | [], _, h => simp [chkE] at h
            | _ :: _ :: _, _, h => simp [chkE] at h
            | [_], _ :: _, h => simp [chkE] at h
          | _ => simp [chkE] at h
        | _ => simp [chkE] at h
      | _ => simp [chkE] at h
    | _ => simp [chkE] at h
  | catb i z =>
    cases z with
    | lst as =>
      cases e with
      | BinOp ea o eb pos =>
        cases ea with
        | Name x px =>
          cases o with
          | Add =>
            cases eb with
            | List es p2 =>
              simp only [chkE, Bool.and_eq_true, decide_eq_true_eq] at h
              exact be_val cx rfl (snd_catb cx h.1.1 (by rw [← chk_len h.1.2]; omega) (sndEs0 ih as (by simp <;> omega) cx h.1.2))
            | _ => simp [chkE] at h
          | _ => simp [chkE] at h
        | _ => simp [chkE] at h
      | _ => simp [chkE] at h
    | _ => simp [chkE] at h
theorem sndE_n : ∀ n : Nat, IHE P A call fd lv N n
  | 0 => ⟨fun c _ _ _ hc => absurd hc (Nat.not_lt_zero _)⟩
  | n + 1 => ⟨fun c _ _ _ hc cx h => sndE0 c ⟨fun c' _ _ _ hc' => (sndE_n n).run c' (by omega)⟩ cx h⟩
theorem sndE (c : C) {sc : Scope} {X : Cx} {e : Expr} (cx : Cxt P A call fd lv N sc X) (h : chkE P N sc c e = true) : BE P A call X c e := (sndE_n (sizeOf c + 1)).run c (Nat.lt_succ_self _) cx h
theorem sndEs (as : Cs) {sc : Scope} {X : Cx} {es : List Expr} (cx : Cxt P A call fd lv N sc X) (h : chkEs P N sc as es = true) : PA X es (tAs P A call X as) := sndEs0 (sndE_n _) as (Nat.le_refl _) cx h
theorem sndIfs (cs : Cs) {sc : Scope} {X : Cx} {fs : List Expr} (cx : Cxt P A call fd lv N sc X) (h : chkIfs P N sc cs fs = true) : PTs X fs (tIfs P A call X cs) := sndIfs0 (sndE_n _) cs (Nat.le_refl _) cx h
theorem sndI (it : Eng.It) {sc : Scope} {X : Cx} {e t : Expr} (cx : Cxt P A call fd lv N sc X) (h : chkI P N sc it e t = true) : PI X t e (tI P A call X it) := sndI0 (sndE_n _) it (Nat.le_refl _) cx h
end
end Eng

namespace Eng
open PySem PySem.Spec PyProof.Rows L2
section
variable {P : Prg} {A : Ad} {call : Nat → List D → Store → Res D} {fd : Nat → FuncData} {lv : Nat} {N : List PySem.Str} {sc : Scope} {X : Cx}
/-! ### lists made anew -/
def freshC (P : Prg) : C → Bool
  | .lst _ => true
  | .lc .. => true
  | .call j _ _ => (match P.fns[j]? with
    | some f => f.fresh
    | none => false)
  | .repl _ _ => true
  | .catb _ _ => true
  | .blt b _ => decide (b = .sorted)
  | .ite _ a b => freshC P a && freshC P b
  | _ => false
theorem bl_sortedF : CallR X (.builtin "sorted") (fun xs H Q => ∃ x, xs = [x] ∧ ∃ w d1 st d st', SR A X.K w st H ∧ RX A X.K w H d1 x ∧ bltD P.tab call .sorted d1 st = .ok d st' ∧ ∀ zs vs p, d = .lst zs → st' = st → H p = none → RDs A X.K w zs vs → Q (.ref p) (upd H p (.lst vs))) := by
  intro pins s σ H xs us Q I rr0 h
  obtain ⟨x, rfl, w, d1, st, d, st', S, r1, e, k⟩ := h
  cases d1 with
  | lst ys =>
    unfold bltD at e
    dsimp only at e
    cases hs : strsD ys with
    | none =>
      rw [hs] at e
      dsimp only at e
      cases ht : tksD ys with
      | none => rw [ht] at e; cases e
      | some ks =>
        rw [ht] at e
        dsimp only at e
        split at e
        · rename_i hc
          rw [Bool.and_eq_true] at hc
          cases e
          obtain ⟨a, vs, rfl, hq, rr⟩ := r1.list S
          obtain rfl := tks_map ht
          refine cr_sortedK pins s σ H _ us Q I rr0 ⟨a, vs, ks, fun x k => RD A X.K w (tkV k) x, rfl, hq, fun x k hk => ?_, rds_tks rr, hc.2, fun zs p hp hn => k _ _ p rfl rfl hn (tks_rds hp)⟩
          unfold tkV at hk
          obtain ⟨t, us', rfl, hq', rr'⟩ := hk.tupl S
          rw [rds_kys rr'] at hq'
          exact ⟨t, rfl, hq'⟩
        · cases e
    | some ss =>
      rw [hs] at e
      dsimp only at e
      split at e
      · rename_i h64
        cases e
        obtain ⟨a, vs, rfl, hq, rr⟩ := r1.list S
        obtain rfl := strsD_map hs
        obtain rfl := rds_strs rr
        refine cr_sortedS pins s σ H _ us Q I rr0 ⟨a, ss, rfl, hq, h64, fun zs p hp hso hn => ?_⟩
        obtain rfl := sortS_is hp hso
        exact k _ _ p rfl rfl hn (rds_str _)
      · cases e
  | tup ys =>
    unfold bltD at e
    dsimp only at e
    cases hs : strsD ys with
    | none => rw [hs] at e; cases e
    | some ss =>
      rw [hs] at e
      dsimp only at e
      split at e
      · rename_i h64
        cases e
        obtain ⟨a, vs, rfl, hq, rr⟩ := r1.tupl S
        obtain rfl := strsD_map hs
        obtain rfl := rds_strs rr
        refine cr_sortedT pins s σ H _ us Q I rr0 ⟨a, ss, rfl, hq, h64, fun zs p hp hso hn => ?_⟩
        obtain rfl := sortS_is hp hso
        exact k _ _ p rfl rfl hn (rds_str _)
      · cases e
  | _ => cases e
theorem sorted_lst {x d : D} {st st' : Store} (e : bltD P.tab call .sorted x st = .ok d st') : st' = st ∧ ∃ zs, d = .lst zs := by
  unfold bltD at e
  dsimp only at e
  split at e
  · split at e
    · split at e
      · cases e; exact ⟨rfl, _, rfl⟩
      · cases e
    · split at e
      · split at e
        · cases e; exact ⟨rfl, _, rfl⟩
        · cases e
      · cases e
  · split at e
    · split at e
      · cases e; exact ⟨rfl, _, rfl⟩
      · cases e
    · cases e
  · cases e
theorem snd_sortedF (cx : Cxt P A call fd lv N sc X) {a : C} {e : Expr} {x : PySem.Str} {p pos : Pos} (hx : blName .sorted = x) (hg : glB sc x = true) (hf : P.blt.contains x = true) (hs : shape e = true) (ha : PE X e (tE P A call X a)) : PE X (.Call (.Name x p) [e] [] pos) (tF P A call X (.blt .sorted a)) := by
  obtain ⟨g1, g2, g3⟩ := gl_of cx hg
  have hm := cx.gok.free x hf
  have ha' : PA X [e] (tCons (tE P A call X a) tNil) := pa_cons ha pa_nil (star_of [] X.env hs)
  subst hx
  refine PE.mono (pe_callB (bl_sortedF (P := P) (A := A) (call := call)) g1 hm (by decide +kernel) ha' g3 g2 (star_of [] X.env hs) rfl) fun σ H Q t => ?_
  obtain ⟨w, ρ, st, H0, ex, d, st', S, R, e, k⟩ := t
  simp only [ev] at e
  obtain ⟨x, st1, e1, e⟩ := Res.bind_is e
  refine ⟨w, ρ, st, H0, ex, x, st1, S, R, e1, fun v H1 w1 E1 S1 p1 => ⟨v, rfl, w1, x, st1, d, st', S1, p1.rx, e, fun zs vs q hz hst hq r => ?_⟩⟩
  subst hz hst
  exact k _ _ w1 (E1.trans (ext_new (st := st') hq)) (sr_new S1 hq) ⟨zs, q, vs, rfl, rfl, upd_same, r, priv_new S1 hq, E1.none_of hq⟩
theorem snd_lstF {as : Cs} {es : List Expr} {pos : Pos} (hl : csLen as ≤ 1000000) (h : PA X es (tAs P A call X as)) : PE X (.List es pos) (tF P A call X (.lst as)) := by
  refine PE.mono (pe_lst h) fun σ H Q t => ?_
  obtain ⟨w, ρ, st, H0, ex, d, st', S, R, e, k⟩ := t
  simp only [ev] at e
  obtain ⟨xs, st1, e1, e⟩ := Res.bind_is e
  cases e
  refine ⟨w, ρ, st, H0, ex, xs, st', S, R, e1, fun vs H1 w1 E1 S1 p1 => ⟨small_of (H := H1) p1 (by rw [evs_len e1]; exact hl), fun p hp => ?_⟩⟩
  exact k _ _ w1 (E1.trans (ext_new (st := st') hp)) (sr_new S1 hp) ⟨xs, p, vs, rfl, rfl, upd_same, p1, priv_new S1 hp, E1.none_of hp⟩
theorem snd_catbF (cx : Cxt P A call fd lv N sc X) {i : Nat} {as : Cs} {x : PySem.Str} {px p2 pos : Pos} {es : List Expr} (hn : nameB N sc i x = true) (hl : csLen as ≤ 1000000) (h : PA X es (tAs P A call X as)) : PE X (.BinOp (.Name x px) .Add (.List es p2) pos) (tF P A call X (.catb i (.lst as))) := by
  obtain ⟨h1, h2, h3, h4⟩ := name_of hn
  refine PE.mono (pe_op op_cat (pe_var (by rw [cx.N]; exact h1) (by rw [cx.sc]; exact h2) h3 h4) (pe_lst h)) fun σ H Q t => ?_
  obtain ⟨w, ρ, st, H0, ex, d, st', S, R, e, k⟩ := t
  simp only [ev] at e
  obtain ⟨y, st1, e1, e⟩ := Res.bind_is e
  obtain ⟨ys, st2, e2, e3⟩ := Res.bind_is e1
  cases e3
  cases ho : slotO ρ i with
  | none => rw [ho] at e; cases e
  | some xs =>
    rw [ho] at e
    dsimp only at e
    split at e
    · rename_i hlen
      cases e
      obtain ⟨a, vs, f1, f2, f3⟩ := R.own ho
      refine ⟨_, f1, w, ρ, st, H0, ex, ys, _, S, R, e2, fun us H1 w1 E1 S1 p1 => ⟨small_of (H := H1) p1 (by rw [evs_len e2]; exact hl), fun p hp => ?_⟩⟩
      obtain ⟨a', vs', k1, k2, k3⟩ := (R.ext E1).own ho
      rw [f1] at k1
      cases k1
      have S2 := sr_new S1 (o := .lst us) hp
      have E2 : Ext no w1 H1 w1 (upd H1 p (.lst us)) := ext_new (st := st') hp
      have ne : a ≠ p := fun z => by rw [z, hp] at k2; cases k2
      refine ⟨a, p, vs', us, rfl, rfl, by rw [upd_ne ne]; exact k2, upd_same, by rw [← k3.length, ← p1.length, sizeLine_eq]; omega, fun r hr => ?_⟩
      exact k _ _ w1 (E1.trans (E2.trans (ext_new (st := st') hr))) (sr_new S2 hr) ⟨_, r, _, rfl, rfl, upd_same, k3.append p1, priv_new S2 hr, (E1.trans E2).none_of hr⟩
    · cases e
/-- the parts of a comprehension's rule -/
theorem lc_parts (cx : Cxt P A call fd lv N sc X) {elt : C} {tg : List Nat} {it : Eng.It} {ifs : Cs} {e t i : Expr} {fs : List Expr} {n : Int} {scope : Scope} {pos : Pos} (h : chkE P N sc (.lc elt tg it ifs) (.ListComp e [⟨t, i, fs, n⟩] scope pos) = true) :
    n = 0 ∧ PI X t i (tIC P A call X it) ∧ BlkOk X.N X.env.scope scope ((tg.map fun k => N.getD k "").zip tg) ∧
    (∀ (s : Shared) (H : Hp) (Cc : Addr) (cl : List (PySem.Str × Addr)) (fp : List Addr), PG (X.blk s H scope (compEnvC scope cl Cc X.env) fp) t (gTg X.K tg)) ∧
    (∀ (s : Shared) (H : Hp) (Cc : Addr) (cl : List (PySem.Str × Addr)) (fp : List Addr), PTs (X.blk s H scope (compEnvC scope cl Cc X.env) fp) fs (tIfs P A call X ifs)) ∧
    (∀ (s : Shared) (H : Hp) (Cc : Addr) (cl : List (PySem.Str × Addr)) (fp : List Addr), PE (X.blk s H scope (compEnvC scope cl Cc X.env) fp) e (tE P A call X elt)) ∧ shape i = true ∧ (!elt.isBor) = true := by
  simp only [chkE, Bool.and_eq_true, decide_eq_true_eq] at h
  obtain ⟨⟨⟨⟨⟨⟨⟨⟨h0, h1⟩, h2⟩, h3⟩, h4⟩, h5⟩, h6⟩, h7⟩, ⟨h8, h9⟩, h10⟩ := h
  have hI : PI X t i (tIC P A call X it) := by
    rw [Bool.or_eq_true] at h5
    rcases h5 with h5 | h5
    · exact pi_c (sndI it cx h5)
    · exact bor_i cx h5
  refine ⟨h0, hI, blkOk_by (by rw [cx.N, cx.sc]; exact h1), fun s H Cc cl fp => pg_tg (N := N) (cxt_blk cx s H Cc cl fp).calm (cxt_blk cx s H Cc cl fp).nd (cxt_blk cx s H Cc cl fp).N (fun x hx => by
    rw [(cxt_blk (scope := scope) cx s H Cc cl fp).sc]
    exact own_loc hx) h2, fun s H Cc cl fp => sndIfs ifs (cxt_blk cx s H Cc cl fp) h7, fun s H Cc cl fp => (sndE elt (cxt_blk cx s H Cc cl fp) h10).1, h6, h8⟩
theorem lc_inv {elt : C} {tg : List Nat} {it : Eng.It} {ifs : Cs} {e : Expr} (h : chkE P N sc (.lc elt tg it ifs) e = true) : ∃ ee t i fs n scope pos, e = .ListComp ee [⟨t, i, fs, n⟩] scope pos := by
  cases e with
  | ListComp ee gs scope pos =>
    match gs, h with
    | [⟨t, i, fs, n⟩], h => exact ⟨ee, t, i, fs, n, scope, pos, rfl⟩
    | [], h => simp [chkE] at h
    | _ :: _ :: _, h => simp [chkE] at h
  | _ => simp [chkE] at h
theorem snd_iteF {t a b : C} {et ea eb : Expr} {pos : Pos} (ht : PT X et (tTst P A call X t)) (ha : PE X ea (tF P A call X a)) (hb : PE X eb (tF P A call X b)) : PE X (.IfExp et ea eb pos) (tF P A call X (.ite t a b)) := by
  refine PE.mono (pe_ifExp ht ha hb) fun σ H Q z => ?_
  obtain ⟨w, ρ, st, H0, ex, d, st', S, R, e, k⟩ := z
  simp only [ev] at e
  obtain ⟨x, st1, e1, e⟩ := Res.bind_is e
  obtain ⟨kk, st2, e2, e⟩ := Res.bind_is e
  refine ⟨w, ρ, st, H0, ex, kk, st2, S, R, by unfold evT; rw [e1, Res.bind_ok]; exact e2, fun H1 w1 E1 S1 => ?_⟩
  cases kk with
  | true =>
    exact ⟨w1, ρ, st2, H0, ex, d, st', S1, R.ext E1, e, fun v H2 w2 E2 S2 r => k v H2 w2 (E1.trans E2) S2 (by
      obtain ⟨ys, c, us, q1, q2, q3, q4, q5, q6⟩ := r
      exact ⟨ys, c, us, q1, q2, q3, q4, q5, E1.none_of q6⟩)⟩
  | false =>
    exact ⟨w1, ρ, st2, H0, ex, d, st', S1, R.ext E1, e, fun v H2 w2 E2 S2 r => k v H2 w2 (E1.trans E2) S2 (by
      obtain ⟨ys, c, us, q1, q2, q3, q4, q5, q6⟩ := r
      exact ⟨ys, c, us, q1, q2, q3, q4, q5, E1.none_of q6⟩)⟩
theorem sndF (cx : Cxt P A call fd lv N sc X) : ∀ {c : C} {e : Expr}, freshC P c = true → chkE P N sc c e = true → PE X e (tF P A call X c)
  | .lst as, e, hc, h => by
    cases e with
    | List es pos =>
      simp only [chkE, Bool.and_eq_true, decide_eq_true_eq] at h
      exact snd_lstF (by rw [← chk_len h.1]; omega) (sndEs as cx h.1)
    | _ => simp [chkE] at h
  | .lc elt tg it ifs, e, hc, h => by
    obtain ⟨ee, t, i, fs, n, scope, pos, rfl⟩ := lc_inv h
    obtain ⟨rfl, h1, h2, h3, h4, h5, h6, h7⟩ := lc_parts cx h
    have hpe := pe_lc (pos := pos) cx.calm cx.nd h1 h2 h3 h4 h5 (fun x => fold_of _ h6 x)
    rw [zip_snd] at hpe
    exact PE.mono hpe (lc_stepF elt tg it ifs h7)
  | .catb i z, e, hc, h => by
    cases z with
    | lst as =>
      cases e with
      | BinOp ea o eb pos =>
        cases ea with
        | Name x px =>
          cases o with
          | Add =>
            cases eb with
            | List es p2 =>
              simp only [chkE, Bool.and_eq_true, decide_eq_true_eq] at h
              exact snd_catbF cx h.1.1 (by rw [← chk_len h.1.2]; omega) (sndEs as cx h.1.2)
            | _ => simp [chkE] at h
          | _ => simp [chkE] at h
        | _ => simp [chkE] at h
      | _ => simp [chkE] at h
    | _ => simp [chkE] at h
  | .repl as n, e, hc, h => by
    cases e with
    | BinOp ea o eb pos =>
      cases ea with
      | List es p =>
        cases o with
        | Mult =>
          simp only [chkE, Bool.and_eq_true, decide_eq_true_eq] at h
          refine PE.mono (pe_op op_rep (pe_lst (sndEs as cx h.1.1)) (sndE n cx h.2.2).1) fun σ H Q t => ?_
          obtain ⟨w, ρ, st, H0, ex, d, st', S, R, e, k⟩ := t
          refine repl_step h.2.1.1 S R e fun xs vs H2 w2 q hd E2 S2 r hq => ?_
          exact k _ _ w2 (E2.trans (ext_new (st := st') hq)) (sr_new S2 hq) ⟨xs, q, vs, hd, rfl, upd_same, r, priv_new S2 hq, E2.none_of hq⟩
        | _ => simp [chkE] at h
      | _ => simp [chkE] at h
    | _ => simp [chkE] at h
  | .ite t a b, e, hc, h => by
    cases e with
    | IfExp et ea eb pos =>
      simp only [chkE, Bool.and_eq_true] at h
      simp only [freshC, Bool.and_eq_true] at hc
      exact snd_iteF ((sndE t cx h.1.1.2).2 h.1.1.1.1.1) (sndF cx hc.1 h.1.2.2) (sndF cx hc.2 h.2.2)
    | _ => simp [chkE] at h
  | .blt b a, e, hc, h => by
    have hb : b = .sorted := by simpa [freshC] using hc
    subst hb
    cases e with
    | Call f es ks pos =>
      cases f with
      | Name x p =>
        match es, ks, h with
        | [ea], [], h =>
          simp only [chkE, Bool.and_eq_true, decide_eq_true_eq] at h
          exact snd_sortedF cx h.1.1.1 h.1.1.2 h.1.2 h.2.1 (sndE a cx h.2.2).1
        | [], _, h => simp [chkE] at h
        | _ :: _ :: _, _, h => simp [chkE] at h
        | [_], _ :: _, h => simp [chkE] at h
      | _ => simp [chkE] at h
    | _ => simp [chkE] at h
  | .call j as ds, e, hc, h => by
    cases e with
    | Call f es ks pos =>
      cases f with
      | Name x p =>
        cases ks with
        | nil =>
          simp only [chkE, Bool.and_eq_true] at h
          simp only [freshC] at hc
          cases q : P.fns[j]? with
          | none => rw [q] at hc; cases hc
          | some f =>
            rw [q] at hc
            exact snd_callF cx q hc h.1.1.1 h.1.1.2 h.1.2 (chk_sh h.2) (sndEs as cx h.2) h.2
        | cons _ _ => simp [chkE] at h
      | _ => simp [chkE] at h
    | _ => simp [chkE] at h
  | .var _, _, hc, _ | .bor _, _, hc, _ | .non, _, hc, _ | .bl _, _, hc, _ | .int _, _, hc, _ | .str _, _, hc, _ | .gfn _, _, hc, _ | .gco _, _, hc, _ | .neg _, _, hc, _ | .not _, _, hc, _ | .bin _ _ _, _, hc, _ | .cmp _ _ _, _, hc, _ | .chain _ _ _ _ _, _, hc, _ | .and _, _, hc, _ | .or _, _, hc, _ | .tup _, _, hc, _ | .idx _ _, _, hc, _ | .sl _ _ _, _, hc, _ | .callV _ _, _, hc, _ | .make _ _ _, _, hc, _ | .meth _ _ _, _, hc, _ | .attr _ _, _, hc, _ | .isi _ _, _, hc, _ | .dget _ _, _, hc, _ | .dict _ _, _, hc, _ | .newc _, _, hc, _ | .popc _ _, _, hc, _ | .max2 _ _, _, hc, _ | .ssort _, _, hc, _ | .kcall _ _, _, hc, _ | .repr _, _, hc, _ | .lrng _, _, hc, _ | .lc2 _ _ _ _ _, _, hc, _ | .callB _ _, _, hc, _ => by simp [freshC] at hc
/-! ### statements -/
structure SI (A : Ad) (K : PySem.W.Frag) (w0 : Wd) (H0 : Hp) (ex : Addr → Prop) (w : Wd) (ρ : Env) (st : Store) (σ : L2.St) (H : Hp) : Prop where
  ext : Ext ex w0 H0 w H
  sr : SR A K w st H
  rs : RS A K H0 ex w ρ σ H
theorem SI.step {K : PySem.W.Frag} {w0 w w' : Wd} {H0 H H' : Hp} {ex : Addr → Prop} {ρ : Env} {st st' : Store} {σ : L2.St} (I : SI A K w0 H0 ex w ρ st σ H) (E : Ext no w H w' H') (S' : SR A K w' st' H') : SI A K w0 H0 ex w' ρ st' σ H' :=
  ⟨I.ext.trans E.weak, S', I.rs.ext E⟩
/-- what a statement's flow owes to its ends -/
def KF (A : Ad) (K : PySem.W.Frag) (fr : Bool) (w0 : Wd) (H0 : Hp) (ex : Addr → Prop) (ws : Wd) (Dn : Ends) : Fl → Prop
  | .nx ρ st => ∀ σ H w, ws.le w → SI A K w0 H0 ex w ρ st σ H → Dn.nx σ H
  | .bk ρ st => ∀ σ H w, ws.le w → SI A K w0 H0 ex w ρ st σ H → Dn.bk σ H
  | .ct ρ st => ∀ σ H w, ws.le w → SI A K w0 H0 ex w ρ st σ H → Dn.ct σ H
  | .rt d st => ∀ v H w, Ext ex w0 H0 w H → SR A K w st H → (if fr = true then FR A K w H0 H d v else RD A K w d v) → Dn.rt v H
  | _ => False
theorem KF.le {K : PySem.W.Frag} {fr : Bool} {w0 ws ws' : Wd} {H0 : Hp} {ex : Addr → Prop} {Dn : Ends} {f : Fl} (h : KF A K fr w0 H0 ex ws Dn f) (l : ws.le ws') : KF A K fr w0 H0 ex ws' Dn f := by
  cases f with
  | nx ρ st => exact fun σ H w q => h σ H w (l.trans q)
  | bk ρ st => exact fun σ H w q => h σ H w (l.trans q)
  | ct ρ st => exact fun σ H w q => h σ H w (l.trans q)
  | rt d st => exact h
  | exc k fs st => exact h
  | bad => exact h
variable (P A call X) in
def tS (wf : Nat) (fr : Bool) (s : S) : TS := fun Dn σ H => ∃ w0 H0 ex w ρ st, SI A X.K w0 H0 ex w ρ st σ H ∧ KF A X.K fr w0 H0 ex w Dn (evS P.tab call wf s ρ st)
variable (P A call X) in
def tSs (wf : Nat) (fr : Bool) (s : Ss) : TS := fun Dn σ H => ∃ w0 H0 ex w ρ st, SI A X.K w0 H0 ex w ρ st σ H ∧ KF A X.K fr w0 H0 ex w Dn (evSs P.tab call wf s ρ st)
structure SCxt (P : Prg) (A : Ad) (call : Nat → List D → Store → Res D) (fd : Nat → FuncData) (lv : Nat) (N : List PySem.Str) (sc : Scope) (X : Cx) : Prop extends Cxt P A call fd lv N sc X where
  fnT : ∀ x, X.fn x = true
  kind : X.env.scope.kind = .function
  pas : PassesOwn (model X.prog X.w) X.A X.env X.xe
variable {wf : Nat} {fr : Bool}
/-- an expression's end, seen from a statement -/
theorem e_step {c : C} {w0 H0 ex w ρ st σ H} {Q : VK} {f : D → Store → Fl} (I : SI A X.K w0 H0 ex w ρ st σ H) {Dn : Ends} (hb : (!c.isBor) = true)
    (hk : KF A X.K fr w0 H0 ex w Dn ((ev P.tab call c ρ st).fl f))
    (k : ∀ d st1 v H1 w1, w.le w1 → SI A X.K w0 H0 ex w1 ρ st1 σ H1 → RD A X.K w1 d v → KF A X.K fr w0 H0 ex w1 Dn (f d st1) → Q v H1) : tE P A call X c σ H Q := by
  cases q : ev P.tab call c ρ st with
  | ok d st1 =>
    rw [q] at hk
    exact ⟨w, ρ, st, H0, ex, d, st1, I.sr, I.rs, q, fun v H1 w1 E1 S1 p => k d st1 v H1 w1 E1.le (I.step E1 S1) (p.rd hb) (hk.le E1.le)⟩
  | exc k' fs st1 =>
    rw [q] at hk
    exact hk.elim
  | bad =>
    rw [q] at hk
    exact hk.elim
theorem f_step {c : C} {w0 H0 ex w ρ st σ H} {Q : VK} {f : D → Store → Fl} (I : SI A X.K w0 H0 ex w ρ st σ H) {Dn : Ends}
    (hk : KF A X.K fr w0 H0 ex w Dn ((ev P.tab call c ρ st).fl f))
    (k : ∀ d st1 v H1 w1, w.le w1 → SI A X.K w0 H0 ex w1 ρ st1 σ H1 → FR A X.K w1 H H1 d v → KF A X.K fr w0 H0 ex w1 Dn (f d st1) → Q v H1) : tF P A call X c σ H Q := by
  cases q : ev P.tab call c ρ st with
  | ok d st1 =>
    rw [q] at hk
    exact ⟨w, ρ, st, H0, ex, d, st1, I.sr, I.rs, q, fun v H1 w1 E1 S1 p => k d st1 v H1 w1 E1.le (I.step E1 S1) p (hk.le E1.le)⟩
  | exc k' fs st1 =>
    rw [q] at hk
    exact hk.elim
  | bad =>
    rw [q] at hk
    exact hk.elim
theorem t_step {c : C} {w0 H0 ex w ρ st σ H} {Q : Bool → Hp → Prop} {f : Bool → Store → Fl} (I : SI A X.K w0 H0 ex w ρ st σ H) {Dn : Ends}
    (hk : KF A X.K fr w0 H0 ex w Dn ((evT P.tab call c ρ st).fl f))
    (k : ∀ b st1 H1 w1, w.le w1 → SI A X.K w0 H0 ex w1 ρ st1 σ H1 → KF A X.K fr w0 H0 ex w1 Dn (f b st1) → Q b H1) : tTst P A call X c σ H Q := by
  cases q : evT P.tab call c ρ st with
  | ok d st1 =>
    rw [q] at hk
    exact ⟨w, ρ, st, H0, ex, d, st1, I.sr, I.rs, q, fun H1 w1 E1 S1 => k d st1 H1 w1 E1.le (I.step E1 S1) (hk.le E1.le)⟩
  | exc k' fs st1 =>
    rw [q] at hk
    exact hk.elim
  | bad =>
    rw [q] at hk
    exact hk.elim
/-! ### stores -/
def setB (N : List PySem.Str) (sc : Scope) (i : Nat) (x : PySem.Str) : Bool := decide (N[i]? = some x) && ownB sc x
theorem own_is {x : PySem.Str} (h : ownB sc x = true) : Loc sc x := by
  unfold ownB at h
  split at h
  · rename_i e; exact .inl e
  · rename_i e; exact .inr e
  · cases h
/-- a comprehension's value is stored within its own block, or behind it -/
def lcB (sc : Scope) (x : PySem.Str) (px : Pos) : Expr → Bool
  | .ListComp _ gs scope pos => decide (sc.names.lookup x = some .cell) || (decide (gs.length = 1) && decide (sc.names.lookup x = some .local) && (px.line == pos.line) && !(scope.names.any fun (n, k) => n == x && (k == .local || k == .cell)))
  | _ => true
theorem swap_cell {e : Expr} {x : PySem.Str} {px : Pos} {l : Nat} {env : PySem.Env} (hs : shape e = true) (h : env.scope.names.lookup x = some .cell) : swapsWith e (some (.Name x px)) l env = pure false := by
  have ky : env.kindOf x = some .cell := h
  cases e <;> first | rfl | exact absurd hs Bool.false_ne_true | skip
  unfold swapsWith
  have z : ((some NameKind.cell : Option NameKind) == some .local) = false := by decide
  simp only [ky, z, Bool.and_false, Bool.false_and]
theorem set_core (cx : SCxt P A call fd lv N sc X) {c : C} {i : Nat} {x : PySem.Str} {px pos : Pos} {e : Expr} (hset : setB N sc i x = true) (hs : shape e = true) (h : chkE P N sc c e = true) (hl : lcB sc x px e = true) {t : TE} (hpe : PE X e t) (ht : t = tE P A call X c ∨ (freshC P c = true ∧ t = tF P A call X c)) :
    PS X (.Assign [.Name x px] e pos) (tAsg t (gName i)) := by
  unfold setB at hset
  rw [Bool.and_eq_true, decide_eq_true_eq] at hset
  have hi : X.N[i]? = some x := by rw [cx.N]; exact hset.1
  have hx : Loc X.env.scope x := by rw [cx.sc]; exact own_is hset.2
  by_cases hlc : isLc e = true
  · cases e with
    | ListComp ee gs scope cpos =>
      unfold lcB at hl
      simp only [Bool.or_eq_true, Bool.and_eq_true, decide_eq_true_eq] at hl
      rcases hl with hl | hl
      · exact ps_set cx.nd hi hx hpe (swap_cell hs (by rw [cx.sc]; exact hl)) (.inl (cx.fnT x))
      · have hyl : X.env.scope.names.lookup x = some .local := by rw [cx.sc]; exact hl.1.1.2
        have hsw := sw_true (elt := ee) (gs := gs) (l := pos.line) cx.kind hyl hl.1.2 (by simpa using hl.2)
        cases c with
        | lc elt tg it ifs =>
          obtain ⟨ee', t', i', fs, n, scope', pos', heq⟩ := lc_inv h
          cases heq
          obtain ⟨rfl, h1, h2, h3, h4, h5, h6, h7⟩ := lc_parts cx.toCxt h
          have hps := ps_setLc (spos := pos) cx.calm cx.nd hi hyl hsw h1 h2 h3 h4 h5 (fun x => fold_of _ h6 x)
          rw [zip_snd] at hps
          refine PS.mono hps fun Dn σ H q => ?_
          rcases ht with rfl | ⟨_, rfl⟩
          · exact lc_step elt tg it ifs h7 σ H _ q
          · exact lc_stepF elt tg it ifs h7 σ H _ q
        | lc2 elt tg it tg2 it2 =>
          exfalso
          have hone := hl.1.1.1
          simp only [chkE] at h
          split at h
          · rename_i g hg
            rw [gen2_is hg] at hone
            simp at hone
          · cases h
        | _ => simp [chkE] at h
    | _ => cases hlc
  · exact ps_set cx.nd hi hx hpe (swap_of _ _ _ hs (by simpa using hlc)) (.inl (cx.fnT x))
theorem st_set (cx : SCxt P A call fd lv N sc X) {c : C} {i : Nat} {x : PySem.Str} {px pos : Pos} {e : Expr} (hset : setB N sc i x = true) (hb : (!c.isBor) = true) (hs : shape e = true) (h : chkE P N sc c e = true) (hl : lcB sc x px e = true) : PS X (.Assign [.Name x px] e pos) (tS P A call X wf fr (.set i c)) := by
  refine PS.mono (set_core cx hset hs h hl (sndE c cx.toCxt h).1 (.inl rfl)) ?_
  rintro Dn σ H ⟨w0, H0, ex, w, ρ, st, I, k⟩
  simp only [evS] at k
  refine e_step I hb k fun d st1 v H1 w1 l1 I1 r k1 => ?_
  split at k1
  · rename_i hi
    exact k1 _ _ w1 (.refl _) ⟨I1.ext, I1.sr, I1.rs.setv hi r⟩
  · exact k1.elim
theorem own_flow {c : C} {i : Nat} : ∀ Dn σ H, tS P A call X wf fr (.own i c) Dn σ H → tAsg (tF P A call X c) (gName i) Dn σ H := by
  rintro Dn σ H ⟨w0, H0, ex, w, ρ, st, I, k⟩
  simp only [evS] at k
  refine f_step I k fun d st1 v H1 w1 l1 I1 r k1 => ?_
  obtain ⟨xs, a, vs, rfl, rfl, h1, h2, h3, h4⟩ := r
  dsimp only at k1
  split at k1
  · rename_i hi
    refine k1 _ _ w1 (.refl _) ⟨I1.ext, I1.sr, I1.rs.set hi ⟨a, vs, rfl, h1, h2, h3, I.ext.none_of h4⟩ ?_⟩
    intro _ j t b hj q1 q2 q3 q4
    cases q3
    obtain ⟨v, z1, z2⟩ := I.rs.sl j t q1
    rw [q4] at z1
    cases z1
    cases t with
    | v d => cases q2
    | own ys =>
      obtain ⟨a', vs', e1, e2, _⟩ := z2
      cases e1
      rw [h4] at e2
      cases e2
    | self c fs =>
      obtain ⟨a', dx, gs, e1, e2, _⟩ := z2
      cases e1
      rw [h4] at e2
      cases e2
  · exact k1.elim
theorem st_own (cx : SCxt P A call fd lv N sc X) {c : C} {i : Nat} {x : PySem.Str} {px pos : Pos} {e : Expr} (hset : setB N sc i x = true) (hf : freshC P c = true) (hs : shape e = true) (h : chkE P N sc c e = true) (hl : lcB sc x px e = true) : PS X (.Assign [.Name x px] e pos) (tS P A call X wf fr (.own i c)) := by
  exact PS.mono (set_core cx hset hs h hl (sndF cx.toCxt hf h) (.inr ⟨hf, rfl⟩)) own_flow
end
end Eng

namespace Eng
open PySem PySem.Spec PyProof.Rows L2
abbrev toK (gs : List (PySem.Str × V)) : List (Key × V) := gs.map fun p => ((Sum.inr p.1 : Key), p.2)
section
variable {A : Ad} {K : PySem.W.Frag} {w : Wd}
theorem any_eq (hA : Inj A) {k : Nat} : ∀ {kvs : List (Nat × D)} {gs : List (PySem.Str × V)}, RDf A K w kvs gs → ((toK gs).any fun kv => decide (kv.1 = (Sum.inr (A.nm k) : Key))) = (kvs.any fun p => decide (p.1 = k))
  | _, _, .nil => rfl
  | _, _, .cons (k := j) (v := v) h r => by
    have e : decide ((Sum.inr (A.nm j) : Key) = Sum.inr (A.nm k)) = decide (j = k) := by
      by_cases hj : j = k
      · subst hj; simp
      · have : ¬ A.nm j = A.nm k := fun q => hj (hA _ _ q)
        simp [hj, this]
    show (decide ((Sum.inr (A.nm j) : Key) = Sum.inr (A.nm k)) || _) = (decide (j = k) || _)
    rw [e, any_eq hA r]
theorem map_eq (hA : Inj A) {k : Nat} {d : D} {v : V} (h : RD A K w d v) : ∀ {kvs : List (Nat × D)} {gs : List (PySem.Str × V)}, RDf A K w kvs gs → ∃ gs', RDf A K w (kvs.map fun p => if p.1 = k then (p.1, d) else p) gs' ∧ (toK gs).map (fun kv => if kv.1 = (Sum.inr (A.nm k) : Key) then (kv.1, v) else kv) = toK gs'
  | _, _, .nil => ⟨[], .nil, rfl⟩
  | _, _, .cons (k := j) (v := v') h' r => by
    obtain ⟨gs', q1, q2⟩ := map_eq (k := k) hA h r
    by_cases hj : j = k
    · subst hj
      refine ⟨(A.nm j, v) :: gs', ?_, ?_⟩
      · simp only [List.map_cons, if_true]
        exact .cons h q1
      · simp only [toK, List.map_cons, if_true]
        exact congrArg _ q2
    · have hn : ¬ (Sum.inr (A.nm j) : Key) = Sum.inr (A.nm k) := fun q => hj (hA _ _ (Sum.inr.inj q))
      refine ⟨(A.nm j, v') :: gs', ?_, ?_⟩
      · simp only [List.map_cons, if_neg hj]
        exact .cons h' q1
      · simp only [toK, List.map_cons, if_neg hn]
        exact congrArg _ q2
theorem RDf.append : ∀ {a b : List (Nat × D)} {u v : List (PySem.Str × V)}, RDf A K w a u → RDf A K w b v → RDf A K w (a ++ b) (u ++ v)
  | _, _, _, _, .nil, r => r
  | _, _, _, _, .cons h t, r => .cons h (RDf.append t r)
theorem put_eq (hA : Inj A) {k : Nat} {d : D} {v : V} (h : RD A K w d v) {kvs : List (Nat × D)} {gs : List (PySem.Str × V)} (r : RDf A K w kvs gs) : ∃ gs', RDf A K w (putM k d kvs) gs' ∧ putK (toK gs) (Sum.inr (A.nm k) : Key) v = toK gs' := by
  unfold putM putK
  rw [any_eq hA r]
  split
  · exact map_eq hA h r
  · refine ⟨gs ++ [(A.nm k, v)], r.append (.cons h .nil), ?_⟩
    simp [toK]
theorem ext_put {st : Store} {H : Hp} {r : Nat} {o : HO} (S : SR A K w st H) (hr : r < w.n) : Ext no w H w (upd H (w.μ r) o) where
  le := .refl _
  fr := fun a u q n _ => by rw [upd_ne (fun e => n r hr e.symm)]; exact q
  th := fun a u q => by
    by_cases e : a = w.μ r
    · subst e; exact ⟨o, upd_same⟩
    · exact ⟨u, by rw [upd_ne e]; exact q⟩
  nw := fun _ _ q => .inl q
  mn := fun k h1 h2 => absurd h2 (Nat.not_lt.mpr h1)
theorem sr_put {st : Store} {H : Hp} {r : Nat} {kvs : List (Nat × D)} {gs : List (PySem.Str × V)} (S : SR A K w st H) (hr : r < w.n) (rf : RDf A K w kvs gs) : SR A K w (st.set r (.dk kvs)) (upd H (w.μ r) (.dK (toK gs))) where
  sub := fun a u q => by
    have ne : a ≠ w.μ r := fun e => by
      subst e
      rw [S.nog r hr] at q
      cases q
    rw [upd_ne ne]
    exact S.sub a u q
  len := by rw [List.length_set]; exact S.len
  cell := fun k c q => by
    by_cases e : k = r
    · subst e
      rw [List.getElem?_set_self (by rw [← S.len]; exact hr)] at q
      cases q
      rw [upd_same]
      exact ⟨gs, rf, rfl⟩
    · rw [List.getElem?_set_ne (Ne.symm e)] at q
      have hk : k < w.n := by rw [S.len]; exact (List.getElem?_eq_some_iff.mp q).1
      rw [upd_ne (fun z => e (S.inj k r hk hr z))]
      exact S.cell k c q
  inj := S.inj
  nog := S.nog
end
section
variable {P : Prg} {A : Ad} {call : Nat → List D → Store → Res D} {fd : Nat → FuncData} {lv : Nat} {N : List PySem.Str} {sc : Scope} {X : Cx} {wf : Nat} {fr : Bool}
theorem st_dput (cx : SCxt P A call fd lv N sc X) {o c : C} {k : Nat} {eo e : Expr} {s : PySem.Str} {kk : Nat} {p2 pos' pos : Pos} (hk : nmOf P.nm k = s) (hbo : (!o.isBor) = true) (ho : chkE P N sc o eo = true) (hb : (!c.isBor) = true) (hs : shape e = true) (hlc : isLc e = false) (h : chkE P N sc c e = true) :
    PS X (.Assign [.Subscript eo (.Constant (.str s) kk p2) pos'] e pos) (tS P A call X wf fr (.dput o k c)) := by
  refine PS.mono (ps_dput (hu_of cx.room) (sndE o cx.toCxt ho).1 pe_str (sndE c cx.toCxt h).1 (swap_of _ _ _ hs hlc)) ?_
  rintro Dn σ H ⟨w0, H0, ex, w, ρ, st, I, kf⟩
  simp only [evS] at kf
  refine e_step I hb kf fun d st1 v H1 w1 l1 I1 r k1 => ?_
  refine e_step I1 hbo k1 fun d2 st2 u H2 w2 l2 I2 r2 k2 => ?_
  cases d2 with
  | ref q =>
    unfold dputD at k2
    dsimp only at k2
    cases hc : getCell st2 q with
    | none => rw [hc] at k2; exact k2.elim
    | some kvs =>
      rw [hc] at k2
      dsimp only at k2
      split at k2
      · rename_i st3 hlen
        split at hlen
        · rename_i hlen'
          cases hlen
          obtain ⟨rfl, hr⟩ := rd_ref r2
          obtain ⟨gs, rf, hH, _⟩ := cell_of I2.sr hc
          obtain ⟨gs', rf', hput⟩ := put_eq cx.gok.nm.inj (k := k) (r.mono l2) rf
          have hz : (toK gs).length < sizeLine := by
            rw [List.length_map, ← rf.length, sizeLine_eq]
            omega
          have dp := DPut.k (k := (Sum.inr (A.nm k) : Key)) (v := v) hH hz
          rw [hput] at dp
          refine ⟨w2.μ q, _, rfl, by
            rw [← hk, ← cx.gok.nmE k]
            exact dp, ?_⟩
          exact k2 _ _ w2 (.refl _) (I2.step (ext_put I2.sr hr) (sr_put I2.sr hr rf'))
        · cases hlen
      · exact k2.elim
  | _ => exact k2.elim
theorem st_ex (cx : SCxt P A call fd lv N sc X) {c : C} {e : Expr} {pos : Pos} (hb : (!c.isBor) = true) (hs : shape e = true) (hlc : isLc e = false) (h : chkE P N sc c e = true) : PS X (.Expr e pos) (tS P A call X wf fr (.ex c)) := by
  refine PS.mono (ps_expr (sndE c cx.toCxt h).1 (swap_of _ _ _ hs hlc)) ?_
  rintro Dn σ H ⟨w0, H0, ex, w, ρ, st, I, kf⟩
  simp only [evS] at kf
  refine e_step I hb kf fun d st1 v H1 w1 l1 I1 r k1 => ?_
  exact k1 _ _ w1 (.refl _) I1
theorem st_ret (cx : SCxt P A call fd lv N sc X) {c : C} {e : Expr} {pos : Pos} (hf : fr = false) (hb : (!c.isBor) = true) (h : chkE P N sc c e = true) : PS X (.Return (some e) pos) (tS P A call X wf fr (.ret c)) := by
  refine PS.mono (ps_ret (sndE c cx.toCxt h).1) ?_
  rintro Dn σ H ⟨w0, H0, ex, w, ρ, st, I, kf⟩
  simp only [evS] at kf
  refine e_step I hb kf fun d st1 v H1 w1 l1 I1 r k1 => ?_
  exact k1 _ _ w1 I1.ext I1.sr (by rw [if_neg (by rw [hf]; exact Bool.false_ne_true)]; exact r)
theorem st_retF (cx : SCxt P A call fd lv N sc X) {c : C} {e : Expr} {pos : Pos} (hf : fr = true) (hb : freshC P c = true) (h : chkE P N sc c e = true) : PS X (.Return (some e) pos) (tS P A call X wf fr (.ret c)) := by
  refine PS.mono (ps_ret (sndF cx.toCxt hb h)) ?_
  rintro Dn σ H ⟨w0, H0, ex, w, ρ, st, I, kf⟩
  simp only [evS] at kf
  refine f_step I kf fun d st1 v H1 w1 l1 I1 r k1 => ?_
  obtain ⟨ys, a, us, q1, q2, q3, q4, q5, q6⟩ := r
  exact k1 _ _ w1 I1.ext I1.sr (by rw [if_pos hf]; exact ⟨ys, a, us, q1, q2, q3, q4, q5, I.ext.none_of q6⟩)
theorem st_retO (cx : SCxt P A call fd lv N sc X) {i : Nat} {x : PySem.Str} {p pos : Pos} (hf : fr = true) (h : nameB N sc i x = true) : PS X (.Return (some (.Name x p)) pos) (tS P A call X wf fr (.ret (.bor i))) := by
  obtain ⟨h1, h2, h3, h4⟩ := name_of h
  refine PS.mono (ps_ret (pe_var (by rw [cx.N]; exact h1) (by rw [cx.sc]; exact h2) h3 h4)) ?_
  rintro Dn σ H ⟨w0, H0, ex, w, ρ, st, I, kf⟩
  simp only [evS, ev] at kf
  cases q : slotO ρ i with
  | none => rw [q] at kf; exact kf.elim
  | some xs =>
    rw [q] at kf
    unfold slotO at q
    split at q
    · rename_i ys hs
      cases q
      obtain ⟨v, hv, a, vs, rfl, e1, e2, e3, e4⟩ := I.rs.sl i _ hs
      exact ⟨_, hv, kf _ _ w I.ext I.sr (by rw [if_pos hf]; exact ⟨_, a, vs, rfl, rfl, e1, e2, e3, e4⟩)⟩
    · cases q
theorem st_retN {pos : Pos} (hf : fr = false) : PS X (.Return none pos) (tS P A call X wf fr (.ret .non)) := by
  refine PS.mono ps_retN ?_
  rintro Dn σ H ⟨w0, H0, ex, w, ρ, st, I, kf⟩
  simp only [evS, ev] at kf
  exact kf _ _ w I.ext I.sr (by rw [if_neg (by rw [hf]; exact Bool.false_ne_true)]; exact .non)
theorem st_never {s : Stmt} : PS X s (tS P A call X wf fr .never) := by
  refine PS.mono ps_never ?_
  rintro Dn σ H ⟨w0, H0, ex, w, ρ, st, I, kf⟩
  simp only [evS] at kf
  exact kf
theorem st_next {s : Stmt} (h : PS X s tNext) : PS X s (tS P A call X wf fr .pass) := by
  refine PS.mono h ?_
  rintro Dn σ H ⟨w0, H0, ex, w, ρ, st, I, kf⟩
  simp only [evS] at kf
  exact kf _ _ w (.refl _) I
theorem st_brk {pos : Pos} : PS X (.Break pos) (tS P A call X wf fr .brk) := by
  refine PS.mono ps_break ?_
  rintro Dn σ H ⟨w0, H0, ex, w, ρ, st, I, kf⟩
  simp only [evS] at kf
  exact kf _ _ w (.refl _) I
theorem st_cont {pos : Pos} : PS X (.Continue pos) (tS P A call X wf fr .cont) := by
  refine PS.mono ps_continue ?_
  rintro Dn σ H ⟨w0, H0, ex, w, ρ, st, I, kf⟩
  simp only [evS] at kf
  exact kf _ _ w (.refl _) I
theorem st_ite {t : C} {a b : Ss} {et : Expr} {sa sb : List Stmt} {pos : Pos} (ht : PT X et (tTst P A call X t)) (ha : PSs X sa (tSs P A call X wf fr a)) (hb : PSs X sb (tSs P A call X wf fr b)) : PS X (.If et sa sb pos) (tS P A call X wf fr (.ite t a b)) := by
  refine PS.mono (ps_if ht ha hb) ?_
  rintro Dn σ H ⟨w0, H0, ex, w, ρ, st, I, kf⟩
  simp only [evS] at kf
  refine t_step I kf fun b st1 H1 w1 l1 I1 k1 => ?_
  cases b with
  | true => exact ⟨w0, H0, ex, w1, ρ, st1, I1, k1⟩
  | false => exact ⟨w0, H0, ex, w1, ρ, st1, I1, k1⟩
theorem ss_nil : PSs X [] (tSs P A call X wf fr .nil) := by
  refine PSs.mono pss_nil ?_
  rintro Dn σ H ⟨w0, H0, ex, w, ρ, st, I, kf⟩
  simp only [evSs] at kf
  exact kf _ _ w (.refl _) I
theorem ss_cons {s : S} {r : Ss} {x : Stmt} {xs : List Stmt} (h1 : PS X x (tS P A call X wf fr s)) (h2 : PSs X xs (tSs P A call X wf fr r)) : PSs X (x :: xs) (tSs P A call X wf fr (.cons s r)) := by
  refine PSs.mono (pss_cons h1 h2) ?_
  rintro Dn σ H ⟨w0, H0, ex, w, ρ, st, I, kf⟩
  simp only [evSs] at kf
  refine ⟨w0, H0, ex, w, ρ, st, I, ?_⟩
  cases q : evS P.tab call wf s ρ st with
  | nx ρ1 st1 =>
    rw [q] at kf
    exact fun σ1 H1 w1 l1 I1 => ⟨w0, H0, ex, w1, ρ1, st1, I1, kf.le l1⟩
  | rt d st1 => rw [q] at kf; exact kf
  | bk ρ1 st1 => rw [q] at kf; exact kf
  | ct ρ1 st1 => rw [q] at kf; exact kf
  | exc k fs st1 => rw [q] at kf; exact kf.elim
  | bad => rw [q] at kf; exact kf.elim
/-- an owned list is frozen -/
theorem SI.frz {K : PySem.W.Frag} {w0 w : Wd} {H0 H : Hp} {ex : Addr → Prop} {ρ : Env} {st : Store} {σ : L2.St} {i : Nat} {xs : List D} (I : SI A K w0 H0 ex w ρ st σ H) (q : ρ[i]? = some (some (.own xs))) : ∃ w', w.le w' ∧ SI A K w0 H0 ex w' (ρ.set i (some (.v (.lst xs)))) st σ H := by
  obtain ⟨v, hv, a, vs, rfl, e1, e2, e3, e4⟩ := I.rs.sl i _ q
  have hi : i < ρ.length := (List.getElem?_eq_some_iff.mp q).1
  have l : w.le (w.add a (.lst vs)) := add_le e3.1
  refine ⟨w.add a (.lst vs), l, ext_fz I.ext e4 e3.1, sr_frz I.sr e3 e1, ?_, fun j s hj => ?_, fun j k s t b hjk q1 m1 q2 m2 v1 v2 => ?_⟩
  · rw [List.length_set]; exact I.rs.len
  · by_cases e : j = i
    · subst e
      rw [List.getElem?_set_self hi] at hj
      cases hj
      exact ⟨_, hv, .lst (SqL.of (show upd w.G a _ a = _ from upd_same)) (e2.mono l)⟩
    · rw [List.getElem?_set_ne (Ne.symm e)] at hj
      obtain ⟨u, hu, hs⟩ := I.rs.sl j s hj
      refine ⟨u, hu, ?_⟩
      cases s with
      | v d => exact RD.mono l hs
      | own ys =>
        obtain ⟨b, us, rfl, f1, f2, f3, f4⟩ := hs
        have ne : b ≠ a := fun z => by
          subst z
          exact I.rs.ds j i _ _ b e hj rfl q rfl hu hv
        exact ⟨b, us, rfl, f1, f2.mono l, ⟨by show upd w.G a _ b = none; rw [upd_ne ne]; exact f3.1, f3.2⟩, f4⟩
      | self c fs =>
        obtain ⟨b, dx, gs, rfl, f1, f2, f3, f4⟩ := hs
        have ne : b ≠ a := fun z => by
          subst z
          exact I.rs.ds j i _ _ b e hj rfl q rfl hu hv
        exact ⟨b, dx, gs, rfl, f1, f2.mono l, ⟨by show upd w.G a _ b = none; rw [upd_ne ne]; exact f3.1, f3.2⟩, f4⟩
  · have h1 : j ≠ i := fun z => by
      subst z
      rw [List.getElem?_set_self hi] at q1
      cases q1
      cases m1
    have h2 : k ≠ i := fun z => by
      subst z
      rw [List.getElem?_set_self hi] at q2
      cases q2
      cases m2
    rw [List.getElem?_set_ne (Ne.symm h1)] at q1
    rw [List.getElem?_set_ne (Ne.symm h2)] at q2
    exact I.rs.ds j k s t b hjk q1 m1 q2 m2 v1 v2
theorem ss_frz {i : Nat} {r : Ss} {xs : List Stmt} (h2 : PSs X xs (tSs P A call X wf fr r)) : PSs X xs (tSs P A call X wf fr (.cons (.frz i) r)) := by
  refine PSs.mono h2 ?_
  rintro Dn σ H ⟨w0, H0, ex, w, ρ, st, I, kf⟩
  simp only [evSs, evS] at kf
  cases q : slotO ρ i with
  | none => rw [q] at kf; exact kf.elim
  | some ys =>
    rw [q] at kf
    dsimp only at kf
    unfold slotO at q
    split at q
    · rename_i zs hs
      cases q
      obtain ⟨w', l, I'⟩ := I.frz hs
      exact ⟨w0, H0, ex, w', _, st, I', kf.le l⟩
    · cases q
end
end Eng

namespace Eng
open PySem PySem.Spec PyProof.Rows L2
def notTup : Expr → Bool
  | .Tuple .. => false
  | _ => true
theorem sws_of {ts : List Expr} {k : Nat} {p : Pos} {e : Expr} {env : PySem.Env} (h : notTup e = true) : swappedStores [.Tuple ts k p] e env = pure none := by
  cases e <;> first | rfl | exact absurd h Bool.false_ne_true
def isStar : Expr → Bool
  | .Starred .. => true
  | _ => false
theorem star_sh {e : Expr} (h : shape e = true) : isStar e = false := by
  cases e <;> first | rfl | exact absurd h Bool.false_ne_true
def parB (sc : Scope) (x y : PySem.Str) (px py : Pos) (ea eb : Expr) : Bool := decide (sc.names.lookup x = some .local) && decide (sc.names.lookup y = some .local) && (py.line == px.line) && decide (x ≠ y) && !([ea, eb].all (foldedForSure 8)) && !([ea, eb].all (constantsAlone 8)) && shape ea && shape eb
theorem par_sw {x y : PySem.Str} {px py pt pt2 : Pos} {kt k2 : Nat} {ea eb : Expr} {env : PySem.Env} (hk : env.scope.kind = .function) (h : parB env.scope x y px py ea eb = true) : swappedStores [.Tuple [.Name x px, .Name y py] kt pt] (.Tuple [ea, eb] k2 pt2) env = pure (some [x, y]) := by
  unfold parB at h
  simp only [Bool.and_eq_true, decide_eq_true_eq] at h
  obtain ⟨⟨⟨⟨⟨⟨⟨h1, h2⟩, h3⟩, h4⟩, h5⟩, h6⟩, h7⟩, h8⟩ := h
  have kx : env.kindOf x = some .local := h1
  have ky : env.kindOf y = some .local := h2
  have hb : env.blockKind = .function := by unfold PySem.Env.blockKind; rw [hk]; rfl
  have hf : ([ea, eb].all (foldedForSure 8)) = false := Bool.not_eq_true' _ ▸ h5
  have hc : ([ea, eb].all (constantsAlone 8)) = false := Bool.not_eq_true' _ ▸ h6
  have hdup : ([x, y] : List PySem.Str).eraseDups.length = 2 := by
    have : (x == y) = false := by simpa using h4
    have h2 : (y == x) = false := by simpa using (Ne.symm h4)
    simp [List.eraseDups_cons, List.eraseDups_nil, List.filter, this, h2]
  have hst : ([ea, eb].any isStar) = false := by simp [star_sh h7, star_sh h8]
  have hn : ([Expr.Name x px, Expr.Name y py].filterMap fun t => match t with
    | .Name id pos => if (env.kindOf id == some .local && pos.line == px.line) = true then some id else none
    | _ => none) = [x, y] := by
    rw [List.filterMap_cons_some (b := x) (by simp [kx]), List.filterMap_cons_some (b := y) (by simp only [ky, h3]; rfl), List.filterMap_nil]
  show (if (!(2 == 2 || 2 == 3) || 2 != 2 || env.blockKind != .function) = true then pure none else
    if ([ea, eb].any isStar) = true then pure none else
    if ((([Expr.Name x px, Expr.Name y py].filterMap fun t => match t with
    | .Name id pos => if (env.kindOf id == some .local && pos.line == px.line) = true then some id else none
    | _ => none).length != 2) || _) = true then pure none else _) = _
  rw [if_neg (by rw [hb]; decide), if_neg (by rw [hst]; exact Bool.false_ne_true), if_neg (by
    intro z
    rw [Bool.or_eq_true] at z
    rcases z with z | z
    · rw [hn] at z; exact absurd z (by simp)
    · revert z
      show ¬ (((List.filterMap _ _).eraseDups.length != (List.filterMap _ _).length) = true)
      erw [hn]
      rw [hdup]
      simp)]
  show (if ([ea, eb].all (foldedForSure 8)) = true then pure none else _) = _
  rw [if_neg (by rw [hf]; exact Bool.false_ne_true)]
  show (if ([ea, eb].all (constantsAlone 8)) = true then _ else _) = _
  rw [if_neg (by rw [hc]; exact Bool.false_ne_true)]
  show pure (some (List.filterMap _ _)) = _
  erw [hn]
section
variable {P : Prg} {A : Ad} {call : Nat → List D → Store → Res D} {fd : Nat → FuncData} {lv : Nat} {N : List PySem.Str} {sc : Scope} {X : Cx} {wf : Nat} {fr : Bool}
theorem hL_of (cx : SCxt P A call fd lv N sc X) : ∀ x, ownB sc x = true → Loc X.env.scope x ∧ (X.fn x = true ∨ X.env.scope.names.lookup x = some .local) := fun x h => ⟨by rw [cx.sc]; exact own_is h, .inl (cx.fnT x)⟩
theorem st_unp (cx : SCxt P A call fd lv N sc X) {is : List Nat} {c : C} {es : List Expr} {k : Nat} {p pos : Pos} {e : Expr} (ht : targetB N (ownB sc) is (.Tuple es k p) = true) (hb : (!c.isBor) = true) (hs : shape e = true) (hlc : isLc e = false) (hnt : notTup e = true) (h : chkE P N sc c e = true) : PS X (.Assign [.Tuple es k p] e pos) (tS P A call X wf fr (.unp is c)) := by
  have hg0 := pg_tg (X := X) (N := N) cx.calm cx.nd cx.N (hL_of cx) ht
  have ht2 : targetsB N (ownB sc) is es = true := by
    simp only [targetB, Bool.and_eq_true, decide_eq_true_eq] at ht
    exact ht.2
  obtain ⟨t1, t2, t3⟩ := pgs_sets (X := X) cx.nd cx.N (hL_of cx) ht2
  have hg1 := pg_unl (pos := p) (k := k) cx.calm t1 t2 t3
  have hg : PG X (.Tuple es k p) (fun v σ H Q => gTg X.K is v σ H Q ∨ gUnl X.K is.length (gSets is) v σ H Q) := ⟨fun pins s σ H v u Q I r hw => by
    rcases hw with hw | hw
    · exact hg0.run pins s σ H v u Q I r hw
    · exact hg1.run pins s σ H v u Q I r hw⟩
  refine PS.mono (ps_asg (sndE c cx.toCxt h).1 hg (show swapsWith e (some (.Tuple es k p)) pos.line X.env = pure false from swap_of _ _ _ hs hlc) (sws_of hnt)) ?_
  rintro Dn σ H ⟨w0, H0, ex, w, ρ, st, I, kf⟩
  simp only [evS] at kf
  have hlen : 2 ≤ is.length := by
    simp only [targetB, Bool.and_eq_true, decide_eq_true_eq] at ht
    exact ht.1
  refine e_step I hb kf fun d st1 v H1 w1 l1 I1 r k1 => ?_
  cases d with
  | tup ds =>
    dsimp only at k1
    cases q : setAll is ds ρ with
    | none => rw [q] at k1; exact k1.elim
    | some ρ1 =>
      rw [q] at k1
      refine .inl (bind_step I1.sr I1.rs r (ρ' := ρ1) ?_ fun σ' R' _ => k1 _ _ w1 (.refl _) ⟨I1.ext, I1.sr, R'⟩)
      unfold bindT
      split
      · simp at hlen
      · exact q
  | lst ds =>
    dsimp only at k1
    cases q : setAll is ds ρ with
    | none => rw [q] at k1; exact k1.elim
    | some ρ1 =>
      rw [q] at k1
      obtain ⟨a, vs, rfl, hq, rr⟩ := RX.list (.inl r) I1.sr
      have hle : vs.length = is.length := by rw [← rr.length]; exact setAll_len q
      exact .inr ⟨a, vs, rfl, hq, hle, hle, k1 _ _ w1 (.refl _) ⟨I1.ext, I1.sr, rs_sets I1.rs q rr⟩⟩
  | _ => exact k1.elim
theorem st_par (cx : SCxt P A call fd lv N sc X) {i j : Nat} {a b : C} {x y : PySem.Str} {px py pt pt2 pos : Pos} {kt k2 : Nat} {ea eb : Expr} (hi : N[i]? = some x) (hj : N[j]? = some y) (hij : i ≠ j) (hp : parB sc x y px py ea eb = true) (hba : (!a.isBor) = true) (ha : chkE P N sc a ea = true) (hbb : (!b.isBor) = true) (hb : chkE P N sc b eb = true) :
    PS X (.Assign [.Tuple [.Name x px, .Name y py] kt pt] (.Tuple [ea, eb] k2 pt2) pos) (tS P A call X wf fr (.par i j a b)) := by
  have hp' := hp
  unfold parB at hp'
  simp only [Bool.and_eq_true, decide_eq_true_eq] at hp'
  obtain ⟨⟨⟨⟨⟨⟨⟨h1, h2⟩, h3⟩, h4⟩, h5⟩, h6⟩, h7⟩, h8⟩ := hp'
  refine PS.mono (ps_par cx.calm cx.nd (by rw [cx.N]; exact hi) (by rw [cx.N]; exact hj) hij (by rw [cx.sc]; exact h1) (by rw [cx.sc]; exact h2) (pa_cons (sndE a cx.toCxt ha).1 (pa_cons (sndE b cx.toCxt hb).1 pa_nil (star_of [] _ h8)) (star_of [eb] _ h7)) (par_sw cx.kind (by rw [cx.sc]; exact hp))) ?_
  rintro Dn σ H ⟨w0, H0, ex, w, ρ, st, I, kf⟩
  simp only [evS] at kf
  refine e_step I hba kf fun d st1 v H1 w1 l1 I1 r k1 => ?_
  refine e_step I1 hbb k1 fun d2 st2 u H2 w2 l2 I2 r2 k2 => ?_
  split at k2
  · rename_i hb3
    exact ⟨v, u, rfl, k2 _ _ w2 (.refl _) ⟨I2.ext, I2.sr, (I2.rs.setv hb3.1 (r.mono l2)).setv (by rw [List.length_set]; exact hb3.2.1) r2⟩⟩
  · exact k2.elim
theorem RS.bor {K : PySem.W.Frag} {H0 : Hp} {ex : Addr → Prop} {w : Wd} {ρ : Env} {σ : L2.St} {H : Hp} {i : Nat} {xs : List D} (R : RS A K H0 ex w ρ σ H) (q : slotO ρ i = some xs) : ρ[i]? = some (some (.own xs)) ∧ ∃ a vs, σ[i]? = some (some (.ref a)) ∧ H a = some (.lst vs) ∧ RDs A K w xs vs ∧ Priv w a ∧ H0 a = none := by
  unfold slotO at q
  split at q
  · rename_i ys hs
    cases q
    obtain ⟨v, hv, a, vs, rfl, e1, e2, e3, e4⟩ := R.sl i _ hs
    exact ⟨hs, a, vs, hv, e1, e2, e3, e4⟩
  · cases q
/-- a private object in a slot is written -/
theorem SI.wr {K : PySem.W.Frag} {w0 w : Wd} {H0 H : Hp} {ex : Addr → Prop} {ρ : Env} {st : Store} {σ : L2.St} {i : Nat} {s s' : Slot} {a : Addr} {o : HO} (I : SI A K w0 H0 ex w ρ st σ H) (q : ρ[i]? = some (some s)) (hm : s.mine = true) (hm' : s'.mine = true) (hv : σ[i]? = some (some (.ref a))) (p : Priv w a) (hH : H0 a = none ∨ ex a) (hin : ∃ u, H a = some u) (hs : SlotR A K H0 ex w (upd H a o) s' (.ref a)) : SI A K w0 H0 ex w (ρ.set i (some s')) st σ (upd H a o) where
  ext := {
    le := I.ext.le
    fr := fun b u q n x => by
      have ne : b ≠ a := fun z => by
        subst z
        rcases hH with h | h
        · rw [h] at q; cases q
        · exact x h
      rw [upd_ne ne]
      exact I.ext.fr b u q n x
    th := fun b u q => by
      by_cases e : b = a
      · subst e; exact ⟨o, upd_same⟩
      · rw [upd_ne e]; exact I.ext.th b u q
    nw := I.ext.nw
    mn := I.ext.mn }
  sr := sr_write I.sr p
  rs := by
    have hi : i < ρ.length := (List.getElem?_eq_some_iff.mp q).1
    refine ⟨by rw [List.length_set]; exact I.rs.len, fun j t hj => ?_, fun j k s1 t1 b hjk q1 m1 q2 m2 v1 v2 => ?_⟩
    · by_cases e : j = i
      · subst e
        rw [List.getElem?_set_self hi] at hj
        cases hj
        exact ⟨_, hv, hs⟩
      · rw [List.getElem?_set_ne (Ne.symm e)] at hj
        obtain ⟨u, hu, hsl⟩ := I.rs.sl j t hj
        refine ⟨u, hu, ?_⟩
        cases t with
        | v d => exact hsl
        | own ys =>
          obtain ⟨b, us, rfl, f1, f2, f3, f4⟩ := hsl
          have ne : b ≠ a := fun z => by
            subst z
            exact I.rs.ds j i _ _ b e hj rfl q hm hu hv
          exact ⟨b, us, rfl, by rw [upd_ne ne]; exact f1, f2, f3, f4⟩
        | self c fs =>
          obtain ⟨b, dx, gs, rfl, f1, f2, f3, f4⟩ := hsl
          have ne : b ≠ a := fun z => by
            subst z
            exact I.rs.ds j i _ _ b e hj rfl q hm hu hv
          exact ⟨b, dx, gs, rfl, by rw [upd_ne ne]; exact f1, f2, f3, f4⟩
    · have old : ∀ (j : Nat) (s1 : Slot), (ρ.set i (some s'))[j]? = some (some s1) → s1.mine = true → ∃ s2, ρ[j]? = some (some s2) ∧ s2.mine = true := fun j s1 z m => by
        by_cases e : j = i
        · subst e; exact ⟨s, q, hm⟩
        · rw [List.getElem?_set_ne (Ne.symm e)] at z
          exact ⟨s1, z, m⟩
      obtain ⟨s2, z1, z2⟩ := old j s1 q1 m1
      obtain ⟨t2, y1, y2⟩ := old k t1 q2 m2
      exact I.rs.ds j k s2 t2 b hjk z1 z2 y1 y2 v1 v2
theorem st_app (cx : SCxt P A call fd lv N sc X) {i : Nat} {c : C} {x m : PySem.Str} {px apos cpos pos : Pos} {e : Expr} (hm : m = ("append" : PySem.Str)) (hn : nameB N sc i x = true) (hline : (apos.endLine == cpos.line) = true) (hb : (!c.isBor) = true) (hs : shape e = true) (h : chkE P N sc c e = true) :
    PS X (.Expr (.Call (.Attribute (.Name x px) m apos) [e] [] cpos) pos) (tS P A call X wf fr (.app i c)) := by
  subst hm
  obtain ⟨h1, h2, h3, h4⟩ := name_of hn
  have hall : [e].all shape = true := by simp [hs]
  refine PS.mono (ps_expr (pe_bm PySem.F.plainAttrs_list PySem.F.slot_list_append PySem.F.type_list_append mt_append (pe_var (by rw [cx.N]; exact h1) (by rw [cx.sc]; exact h2) h3 h4) (pa_cons (sndE c cx.toCxt h).1 pa_nil (star_of [] _ hs)) rfl (by rw [allno_of cpos X.env [e] hall]; rfl) hline (star_of [] _ hs) rfl)) ?_
  rintro Dn σ H ⟨w0, H0, ex, w, ρ, st, I, kf⟩
  simp only [evS] at kf
  have hev := kf
  cases q : slotO ρ i with
  | none =>
    exfalso
    cases z : ev P.tab call c ρ st with
    | ok d st1 =>
      rw [z, Res.fl_ok, q] at kf
      exact kf
    | exc k fs st1 => rw [z] at kf; exact kf
    | bad => rw [z] at kf; exact kf
  | some xs =>
    obtain ⟨hs1, a, vs, e1, e2, e3, e4, e5⟩ := I.rs.bor q
    refine ⟨_, e1, .inl ⟨rfl, vs, SqL.of e2⟩, ?_⟩
    refine e_step I hb kf fun d st1 v H1 w1 l1 I1 r k1 => ?_
    rw [q] at k1
    dsimp only at k1
    obtain ⟨hs2, a', vs', f1, f2, f3, f4, f5⟩ := I1.rs.bor q
    rw [e1] at f1
    cases f1
    split at k1
    · rename_i hlen
      refine ⟨a, vs', v, rfl, rfl, f2, by rw [← f3.length, sizeLine_eq]; omega, ?_⟩
      exact k1 _ _ w1 (.refl _) (I1.wr hs2 rfl rfl e1 f4 (.inl f5) ⟨_, f2⟩ ⟨a, vs' ++ [v], rfl, upd_same, f3.append (.cons r .nil), f4, f5⟩)
    · exact k1.elim
theorem st_fld (cx : SCxt P A call fd lv N sc X) {i f : Nat} {c : C} {x m : PySem.Str} {px pos' pos : Pos} {e : Expr} (hm : nmOf P.nm f = m) (hn : nameB N sc i x = true) (hb : (!c.isBor) = true) (hs : shape e = true) (hlc : isLc e = false) (h : chkE P N sc c e = true) :
    PS X (.Assign [.Attribute (.Name x px) m pos'] e pos) (tS P A call X wf fr (.fld i f c)) := by
  obtain ⟨h1, h2, h3, h4⟩ := name_of hn
  refine PS.mono (ps_fld (pe_var (by rw [cx.N]; exact h1) (by rw [cx.sc]; exact h2) h3 h4) (sndE c cx.toCxt h).1 (swap_of _ _ _ hs hlc)) ?_
  rintro Dn σ H ⟨w0, H0, ex, w, ρ, st, I, kf⟩
  simp only [evS] at kf
  refine e_step I hb kf fun d st1 v H1 w1 l1 I1 r k1 => ?_
  split at k1
  · rename_i cc fs hsl
    split at k1
    · rename_i hc
      obtain ⟨u, hu, a, dx, gs, rfl, e1, e2, e3, e4⟩ := I1.rs.sl i _ hsl
      obtain ⟨kl, hk, hfl⟩ := fld_of hc.2
      have co := cx.gok.cls cc kl hk
      refine ⟨_, hu, a, A.cls cc, dx, gs, rfl, e1, co.cl, ?_, by rw [← e2.length]; omega, ?_⟩
      · rw [← hm, ← cx.gok.nmE f]
        exact co.na f hfl
      · have z := k1 σ (upd H1 a (.ins (A.cls cc) dx (putF (A.nm f) v gs))) w1 (.refl _) (I1.wr hsl rfl rfl hu e3 (.inr e4) ⟨_, e1⟩ ⟨a, dx, _, rfl, upd_same, e2.put cx.gok.nm.inj r, e3, e4⟩)
        rw [← hm, ← cx.gok.nmE f]
        exact z
    · exact k1.elim
  · exact k1.elim
theorem st_for (cx : SCxt P A call fd lv N sc X) {tg : List Nat} {it : Eng.It} {body : Ss} {t e : Expr} {sts : List Stmt} {pos : Pos} (ht : targetB N (ownB sc) tg t = true) (hs : shape e = true) (h : chkI P N sc it e t = true) (hb : PSs X sts (tSs P A call X wf fr body)) :
    PS X (.For t e sts [] pos) (tS P A call X wf fr (.for tg it body)) := by
  have hg := pg_tg (X := X) (N := N) cx.calm cx.nd cx.N (hL_of cx) ht
  refine PS.mono (ps_for cx.pas cx.calm (sndI it cx.toCxt h) hg hb (fun x => fold_of _ hs x)) ?_
  rintro Dn σ H ⟨w0, H0, ex, w, ρ, st, I, kf⟩
  simp only [evS] at kf
  cases q : evIt P.tab call it ρ st with
  | exc k' fs st1 => rw [q] at kf; exact kf.elim
  | bad => rw [q] at kf; exact kf.elim
  | ok xs st1 =>
    rw [q, Res.fl_ok] at kf
    refine ⟨w, ρ, st, H0, ex, xs, st1, I.sr, I.rs, q, fun J H1 w1 E1 S1 W => ?_⟩
    have I1 := I.step E1 S1
    obtain ⟨G, Y, wk, hG, hY⟩ := W
    refine for_it wk (fun i σ H => ∃ w2 ρ2 st2, SI A X.K w0 H0 ex w2 ρ2 st2 σ H ∧ w1.le w2 ∧ KF A X.K fr w0 H0 ex w2 Dn (forR tg (evSs P.tab call wf body) (xs.drop i) ρ2 st2)) ⟨w1, ρ, st1, I1, .refl _, by simpa using kf.le E1.le⟩ ?_ ?_ ?_
    · rintro i σ2 H2 _ ⟨w2, ρ2, st2, I2, l2, _⟩
      exact hG w2 st2 H2 l2 I2.sr
    · rintro i x σ2 H2 H3 hi ⟨w2, ρ2, st2, I2, l2, k2⟩ y
      obtain ⟨w3, d, hd, E3, S3, rd⟩ := hY i H2 x H3 w2 st2 hi l2 I2.sr y
      have hdrop : xs.drop i = d :: xs.drop (i + 1) := by
        obtain ⟨h1, h2⟩ := List.getElem?_eq_some_iff.mp hd
        rw [List.drop_eq_getElem_cons h1, h2]
      rw [hdrop] at k2
      simp only [forR] at k2
      have I3 := I2.step E3 S3
      cases hbt : bindT tg d ρ2 with
      | none => rw [hbt] at k2; exact k2.elim
      | some ρ3 =>
        rw [hbt] at k2
        dsimp only at k2
        refine bind_step I3.sr I3.rs rd hbt fun σ3 R3 _ => ⟨w0, H0, ex, w3, ρ3, st2, ⟨I3.ext, I3.sr, R3⟩, ?_⟩
        cases qb : evSs P.tab call wf body ρ3 st2 with
        | nx ρ4 st4 =>
          rw [qb] at k2
          exact fun σ4 H4 w4 l4 I4 => ⟨w4, ρ4, st4, I4, (l2.trans E3.le).trans l4, k2.le (E3.le.trans l4)⟩
        | ct ρ4 st4 =>
          rw [qb] at k2
          exact fun σ4 H4 w4 l4 I4 => ⟨w4, ρ4, st4, I4, (l2.trans E3.le).trans l4, k2.le (E3.le.trans l4)⟩
        | bk ρ4 st4 =>
          rw [qb] at k2
          exact fun σ4 H4 w4 l4 I4 => k2 σ4 H4 w4 (E3.le.trans l4) I4
        | rt d4 st4 => rw [qb] at k2; exact k2
        | exc k4 fs st4 => rw [qb] at k2; exact k2.elim
        | bad => rw [qb] at k2; exact k2.elim
    · rintro σ2 H2 ⟨w2, ρ2, st2, I2, l2, k2⟩
      rw [List.drop_length] at k2
      exact k2 σ2 H2 w2 (.refl _) I2
theorem st_whl (cx : SCxt P A call fd lv N sc X) {t : C} {body : Ss} {et : Expr} {sts : List Stmt} {pos : Pos} (ht : PT X et (tTst P A call X t)) (hb : PSs X sts (tSs P A call X wf fr body)) :
    PS X (.While et sts [] pos) (tS P A call X wf fr (.whl t body)) := by
  refine PS.mono (ps_while cx.pas ht hb) ?_
  rintro Dn σ H ⟨w0, H0, ex, w, ρ, st, I, kf⟩
  simp only [evS] at kf
  refine ⟨fun m σ H => ∃ w2 ρ2 st2, SI A X.K w0 H0 ex w2 ρ2 st2 σ H ∧ KF A X.K fr w0 H0 ex w2 Dn (whlR (evT P.tab call t) (evSs P.tab call wf body) m ρ2 st2), ⟨wf, w, ρ, st, I, kf⟩, ?_⟩
  rintro m σ2 H2 ⟨w2, ρ2, st2, I2, k2⟩
  cases m with
  | zero => exact k2.elim
  | succ n =>
    simp only [whlR] at k2
    cases q : evT P.tab call t ρ2 st2 with
    | exc k' fs st1 => rw [q] at k2; exact k2.elim
    | bad => rw [q] at k2; exact k2.elim
    | ok b st3 =>
      rw [q] at k2
      refine ⟨w2, ρ2, st2, H0, ex, b, st3, I2.sr, I2.rs, q, fun H3 w3 E3 S3 => ?_⟩
      have I3 := I2.step E3 S3
      cases b with
      | false => exact k2 σ2 H3 w3 E3.le I3
      | true =>
        dsimp only at k2
        refine ⟨fun σ' H' => ∃ w2 ρ2 st2, SI A X.K w0 H0 ex w2 ρ2 st2 σ' H' ∧ KF A X.K fr w0 H0 ex w2 Dn (whlR (evT P.tab call t) (evSs P.tab call wf body) n ρ2 st2), fun σ' H' z => ⟨n, Nat.lt_succ_self n, z⟩, w0, H0, ex, w3, ρ2, st3, I3, ?_⟩
        cases qb : evSs P.tab call wf body ρ2 st3 with
        | nx ρ4 st4 =>
          rw [qb] at k2
          exact fun σ4 H4 w4 l4 I4 => ⟨w4, ρ4, st4, I4, k2.le (E3.le.trans l4)⟩
        | ct ρ4 st4 =>
          rw [qb] at k2
          exact fun σ4 H4 w4 l4 I4 => ⟨w4, ρ4, st4, I4, k2.le (E3.le.trans l4)⟩
        | bk ρ4 st4 =>
          rw [qb] at k2
          exact fun σ4 H4 w4 l4 I4 => k2 σ4 H4 w4 (E3.le.trans l4) I4
        | rt d4 st4 => rw [qb] at k2; exact k2
        | exc k4 fs st4 => rw [qb] at k2; exact k2.elim
        | bad => rw [qb] at k2; exact k2.elim
end
end Eng

namespace Eng
open PySem PySem.Spec PyProof.Rows L2
section
variable {P : Prg} {A : Ad} {call : Nat → List D → Store → Res D} {fd : Nat → FuncData} {lv : Nat} {N : List PySem.Str} {sc : Scope} {X : Cx} {wf : Nat} {fr : Bool}
theorem st_ext (cx : SCxt P A call fd lv N sc X) {i : Nat} {c : C} {x m : PySem.Str} {px apos cpos pos : Pos} {e : Expr} (hm : m = ("extend" : PySem.Str)) (hn : nameB N sc i x = true) (hline : (apos.endLine == cpos.line) = true) (hb : freshC P c = true) (hs : shape e = true) (h : chkE P N sc c e = true) :
    PS X (.Expr (.Call (.Attribute (.Name x px) m apos) [e] [] cpos) pos) (tS P A call X wf fr (.ext i c)) := by
  subst hm
  obtain ⟨h1, h2, h3, h4⟩ := name_of hn
  have hall : [e].all shape = true := by simp [hs]
  refine PS.mono (ps_expr (pe_bm PySem.F.plainAttrs_list PySem.F.slot_list_extend PySem.F.type_list_extend mt_extend (pe_var (by rw [cx.N]; exact h1) (by rw [cx.sc]; exact h2) h3 h4) (pa_cons (sndF cx.toCxt hb h) pa_nil (star_of [] _ hs)) rfl (by rw [allno_of cpos X.env [e] hall]; rfl) hline (star_of [] _ hs) rfl)) ?_
  rintro Dn σ H ⟨w0, H0, ex, w, ρ, st, I, kf⟩
  simp only [evS] at kf
  cases q : slotO ρ i with
  | none =>
    exfalso
    cases z : ev P.tab call c ρ st with
    | ok d st1 =>
      rw [z, Res.fl_ok, q] at kf
      cases d <;> exact kf
    | exc k fs st1 => rw [z] at kf; exact kf
    | bad => rw [z] at kf; exact kf
  | some xs =>
    obtain ⟨hs1, a, vs, e1, e2, e3, e4, e5⟩ := I.rs.bor q
    refine ⟨_, e1, .inl ⟨rfl, vs, SqL.of e2⟩, ?_⟩
    refine f_step I kf fun d st1 v H1 w1 l1 I1 r k1 => ?_
    rw [q] at k1
    obtain ⟨ys, b, us, rfl, rfl, r1, r2, r3, r4⟩ := r
    dsimp only at k1
    obtain ⟨hs2, a', vs', f1, f2, f3, f4, f5⟩ := I1.rs.bor q
    rw [e1] at f1
    cases f1
    split at k1
    · rename_i hlen
      refine ⟨a, b, vs', us, rfl, rfl, f2, r1, by rw [← f3.length, ← r2.length, sizeLine_eq]; omega, ?_⟩
      exact k1 _ _ w1 (.refl _) (I1.wr hs2 rfl rfl e1 f4 (.inl f5) ⟨_, f2⟩ ⟨a, vs' ++ us, rfl, upd_same, f3.append r2, f4, f5⟩)
    · exact k1.elim
theorem st_setc (cx : SCxt P A call fd lv N sc X) {o i c : C} {eo ei e : Expr} {pos' pos : Pos} (hbo : (!o.isBor) = true) (ho : chkE P N sc o eo = true) (hbi : (!i.isBor) = true) (hsi : shape ei = true) (hi : chkE P N sc i ei = true) (hb : (!c.isBor) = true) (hs : shape e = true) (hlc : isLc e = false) (h : chkE P N sc c e = true) :
    PS X (.Assign [.Subscript eo ei pos'] e pos) (tS P A call X wf fr (.setc o i c)) := by
  have hsw : swapsWith e (some (.Subscript eo ei pos')) pos.line X.env = pure false := swap_of _ _ _ hs hlc
  refine ⟨fun pins s σ H Dn I0 t => ?_⟩
  obtain ⟨w0, H0, ex, w, ρ, st, I, kf⟩ := t
  simp only [evS] at kf
  refine wpAny_Assign_Subscript (thn ((sndE c cx.toCxt h).1.run pins s σ H (fun v H1 => tE P A call X o σ H1 fun y H2 => tE P A call X i σ H2 fun z H3 => rSetL y z v H3 fun H4 => Dn.nx σ H4) I0 (e_step I hb kf fun d st1 v H1 w1 l1 I1 r k1 => ?_)) fun r s1 ⟨v, H1, J1, rv, q1⟩ => thn ((sndE o cx.toCxt ho).1.run pins s1 σ H1 _ J1 q1) fun u s2 ⟨y, H2, J2, ry, q2⟩ => thn ((sndE i cx.toCxt hi).1.run pins s2 σ H2 _ J2 q2) fun iv s3 ⟨z, H3, J3, rz, q3⟩ => ?_) hsw
  · refine e_step I1 hbo k1 fun d2 st2 y H2 w2 l2 I2 r2 k2 => ?_
    refine e_step I2 hbi k2 fun d3 st3 z H3 w3 l3 I3 r3 k3 => ?_
    unfold setD at k3
    cases d2 with
    | ref n =>
      cases d3 with
      | int m =>
        dsimp only at k3
        cases hg : getL st3 n with
        | none => rw [hg] at k3; exact k3.elim
        | some xs =>
          rw [hg] at k3
          dsimp only at k3
          cases hj : itIx xs.length m with
          | none => rw [hj] at k3; exact k3.elim
          | some j =>
            rw [hj] at k3
            dsimp only at k3
            obtain ⟨vs, hv, hn, hq, rs⟩ := cellL I3.sr hg (.inl (r2.mono l3))
            cases r3
            refine ⟨w3.μ n, vs, m, j, hv, rfl, hq, by rw [← rs.length]; exact hj, ?_⟩
            exact k3 _ _ w3 (.refl _) (I3.step (ext_at I3.sr hn) (sr_at I3.sr hn ⟨_, rs.put ((r.mono l2).mono l3) j, rfl⟩))
      | _ => exact k3.elim
    | _ => cases d3 <;> exact k3.elim
  · exact thn (set_list pins s3 σ H3 y z v u iv r (fun H4 => Dn.nx σ H4) J3 ry rz rv q3) fun _ s4 ⟨H4, J4, q4⟩ => ⟨σ, H4, J4, q4⟩
end
end Eng

namespace Eng
open PySem PySem.Spec PyProof.Rows L2
/-! ### several targets at once -/
section
variable {A : Ad} {K : PySem.W.Frag} {w w' : Wd} {H H1 H' H2 : Hp}
inductive ParR (A : Ad) (K : PySem.W.Frag) (w : Wd) (H H' : Hp) : List (Nat × Bool) → List D → List V → Prop where
  | nil : ParR A K w H H' [] [] []
  | val {i : Nat} {d : D} {v : V} {ts : List (Nat × Bool)} {ds : List D} {vs : List V} (h : RD A K w d v) (r : ParR A K w H H' ts ds vs) : ParR A K w H H' ((i, false) :: ts) (d :: ds) (v :: vs)
  | own {i : Nat} {d : D} {v : V} {ts : List (Nat × Bool)} {ds : List D} {vs : List V} (h : FR A K w H H' d v) (r : ParR A K w H H' ts ds vs) : ParR A K w H H' ((i, true) :: ts) (d :: ds) (v :: vs)
theorem ParR.back (h : ∀ a, H1 a = none → H a = none) : ∀ {ts : List (Nat × Bool)} {ds : List D} {vs : List V}, ParR A K w H1 H' ts ds vs → ParR A K w H H' ts ds vs
  | _, _, _, .nil => .nil
  | _, _, _, .val a r => .val a (ParR.back h r)
  | _, _, _, .own ⟨xs, a, vs, q1, q2, q3, q4, q5, q6⟩ r => .own ⟨xs, a, vs, q1, q2, q3, q4, q5, h a q6⟩ (ParR.back h r)
theorem ParR.len : ∀ {ts : List (Nat × Bool)} {ds : List D} {vs : List V}, ParR A K w H H' ts ds vs → vs.length = ts.length
  | _, _, _, .nil => rfl
  | _, _, _, .val _ r => congrArg Nat.succ r.len
  | _, _, _, .own _ r => congrArg Nat.succ r.len
theorem FR.ext {d : D} {v : V} (h : FR A K w H H' d v) (E : Ext no w H' w' H2) : FR A K w' H H2 d v := by
  obtain ⟨xs, a, vs, q1, q2, q3, q4, q5, q6⟩ := h
  exact ⟨xs, a, vs, q1, q2, E.fr a _ q3 q5.2 (fun z => z), q4.mono E.le, q5.ext q3 E, q6⟩
/-- one slot at most owns its list -/
def own1 : List (Nat × Bool) → Bool
  | [] => true
  | (_, false) :: r => own1 r
  | (_, true) :: r => !(r.any (·.2))
theorem own1_of : ∀ {ts : List (Nat × Bool)}, ts.any (·.2) = false → own1 ts = true
  | [], _ => rfl
  | (_, false) :: r, h => own1_of (ts := r) (by simpa using h)
  | (_, true) :: r, h => by simp at h
theorem rs_par {H0 : Hp} {ex : Addr → Prop} (h0 : ∀ a, H a = none → H0 a = none) : ∀ {ts : List (Nat × Bool)} {ds : List D} {vs : List V} {ρ ρ' : Env} {σ : L2.St}, RS A K H0 ex w ρ σ H' → setPar ts ds ρ = some ρ' → ParR A K w H H' ts ds vs → own1 ts = true →
    (ts.any (·.2) = true → ∀ (j : Nat) (t : Slot) (b : Addr), ρ[j]? = some (some t) → t.mine = true → σ[j]? = some (some (.ref b)) → H b ≠ none) → RS A K H0 ex w ρ' (setV (ts.map (·.1)) vs σ) H'
  | _, _, _, _, _, _, R, e, .nil, _, _ => by cases e; exact R
  | (i, false) :: ts, d :: ds, v :: vs, ρ, ρ', σ, R, e, .val h r, o, f => by
    unfold setPar at e
    split at e
    · rename_i hi
      show RS A K H0 ex w ρ' (setV (ts.map (·.1)) vs (σ.set i (some v))) H'
      refine rs_par h0 (ts := ts) (R.setv hi h) e r (by simpa [own1] using o) fun ha j t b q m z => ?_
      by_cases hj : j = i
      · subst hj
        rw [List.getElem?_set_self hi] at q
        cases q
        cases m
      · rw [List.getElem?_set_ne (Ne.symm hj)] at q z
        exact f (by simpa using ha) j t b q m z
    · cases e
  | (i, true) :: ts, d :: ds, v :: vs, ρ, ρ', σ, R, e, .own h r, o, f => by
    obtain ⟨xs, a, us, rfl, rfl, q3, q4, q5, q6⟩ := h
    unfold setPar at e
    split at e
    · rename_i hi
      have hn : ts.any (·.2) = false := by simpa [own1] using o
      show RS A K H0 ex w ρ' (setV (ts.map (·.1)) vs (σ.set i (some (.ref a)))) H'
      refine rs_par h0 (ts := ts) (R.set hi (s := .own xs) ⟨a, us, rfl, q3, q4, q5, h0 a q6⟩ fun _ j t b hj q1 q2 q7 q8 => ?_) e r (own1_of hn) (fun z => by rw [hn] at z; cases z)
      cases q7
      exact f (by simp) j t a q1 q2 q8 q6
    · cases e
end
section
variable {P : Prg} {A : Ad} {call : Nat → List D → Store → Res D} {fd : Nat → FuncData} {lv : Nat} {N : List PySem.Str} {sc : Scope} {X : Cx} {wf : Nat} {fr : Bool}
variable (P A call X) in
def tPs (ts : List (Nat × Bool)) (cs : Cs) : TA := fun σ H Q => ∃ w ρ st H0 ex ds st', SR A X.K w st H ∧ RS A X.K H0 ex w ρ σ H ∧ evs P.tab call cs ρ st = .ok ds st' ∧ ∀ vs H' w', Ext no w H w' H' → SR A X.K w' st' H' → ParR A X.K w' H H' ts ds vs → Q vs H'
variable (P N sc) in
def chkPs : List (Nat × Bool) → Cs → List Expr → Bool
  | [], .nil, [] => true
  | (_, false) :: r, .cons c cs, e :: es => !c.isBor && shape e && chkE P N sc c e && chkPs r cs es
  | (_, true) :: r, .cons c cs, e :: es => freshC P c && shape e && chkE P N sc c e && chkPs r cs es
  | _, _, _ => false
theorem chkPs_len : ∀ {ts : List (Nat × Bool)} {cs : Cs} {es : List Expr}, chkPs P N sc ts cs es = true → es.length = ts.length
  | [], .nil, [], _ => rfl
  | [], .nil, _ :: _, h => by simp [chkPs] at h
  | [], .cons _ _, _, h => by simp [chkPs] at h
  | _ :: _, .nil, _, h => by simp [chkPs] at h
  | _ :: _, .cons _ _, [], h => by simp [chkPs] at h
  | (_, false) :: r, .cons c cs, e :: es, h => by
    simp only [chkPs, Bool.and_eq_true] at h
    exact congrArg Nat.succ (chkPs_len h.2)
  | (_, true) :: r, .cons c cs, e :: es, h => by
    simp only [chkPs, Bool.and_eq_true] at h
    exact congrArg Nat.succ (chkPs_len h.2)
theorem snd_ps (cx : Cxt P A call fd lv N sc X) : ∀ {ts : List (Nat × Bool)} {cs : Cs} {es : List Expr}, chkPs P N sc ts cs es = true → PA X es (tPs P A call X ts cs)
  | [], .nil, [], _ => by
    refine PA.mono pa_nil fun σ H Q t => ?_
    obtain ⟨w, ρ, st, H0, ex, ds, st', S, R, e, k⟩ := t
    simp only [evs] at e
    cases e
    exact k [] H w (.refl _ _ _) S .nil
  | [], .nil, _ :: _, h => by simp [chkPs] at h
  | [], .cons _ _, _, h => by simp [chkPs] at h
  | _ :: _, .nil, _, h => by simp [chkPs] at h
  | _ :: _, .cons _ _, [], h => by simp [chkPs] at h
  | (_, false) :: r, .cons c cs, e :: es, h => by
    simp only [chkPs, Bool.and_eq_true] at h
    refine PA.mono (pa_cons (sndE c cx h.1.2).1 (snd_ps cx h.2) (star_of es X.env h.1.1.2)) fun σ H Q t => ?_
    obtain ⟨w, ρ, st, H0, ex, ds, st', S, R, e, k⟩ := t
    simp only [evs] at e
    obtain ⟨x, st1, e1, e⟩ := Res.bind_is e
    obtain ⟨xs, st2, e2, e⟩ := Res.bind_is e
    cases e
    exact ⟨w, ρ, st, H0, ex, x, st1, S, R, e1, fun v H1 w1 E1 S1 p1 => ⟨w1, ρ, st1, H0, ex, xs, st', S1, R.ext E1, e2, fun vs H2 w2 E2 S2 p2 => k (v :: vs) H2 w2 (E1.trans E2) S2 (.val ((p1.rd h.1.1.1).mono E2.le) (p2.back fun a z => E1.none_of z))⟩⟩
  | (_, true) :: r, .cons c cs, e :: es, h => by
    simp only [chkPs, Bool.and_eq_true] at h
    refine PA.mono (pa_cons (sndF cx h.1.1.1 h.1.2) (snd_ps cx h.2) (star_of es X.env h.1.1.2)) fun σ H Q t => ?_
    obtain ⟨w, ρ, st, H0, ex, ds, st', S, R, e, k⟩ := t
    simp only [evs] at e
    obtain ⟨x, st1, e1, e⟩ := Res.bind_is e
    obtain ⟨xs, st2, e2, e⟩ := Res.bind_is e
    cases e
    exact ⟨w, ρ, st, H0, ex, x, st1, S, R, e1, fun v H1 w1 E1 S1 p1 => ⟨w1, ρ, st1, H0, ex, xs, st', S1, R.ext E1, e2, fun vs H2 w2 E2 S2 p2 => k (v :: vs) H2 w2 (E1.trans E2) S2 (.own (p1.ext E2) (p2.back fun a z => E1.none_of z))⟩⟩
/-- what the flow owes to the values -/
theorem par_flow {ts : List (Nat × Bool)} {cs : Cs} {σ : L2.St} {H : Hp} {Dn : Ends} {w0 : Wd} {H0 : Hp} {ex : Addr → Prop} {w : Wd} {ρ : Env} {st : Store} {Q : List V → Hp → Prop} (I : SI A X.K w0 H0 ex w ρ st σ H) (ho : own1 ts = true)
    (kf : KF A X.K fr w0 H0 ex w Dn (evS P.tab call wf (.parN ts cs) ρ st))
    (k : ∀ (vs : List V) (H1 : Hp), vs.length = ts.length → (∀ H2, (∀ a o, H1 a = some o → H2 a = some o) → (∃ p o, H1 p = none ∧ H2 = upd H1 p o) → Dn.nx (setV (ts.map (·.1)) vs σ) H2) → Dn.nx (setV (ts.map (·.1)) vs σ) H1 → Q vs H1) : tPs P A call X ts cs σ H Q := by
  simp only [evS] at kf
  cases q : evs P.tab call cs ρ st with
  | exc k' fs st1 => rw [q] at kf; exact kf.elim
  | bad => rw [q] at kf; exact kf.elim
  | ok ds st1 =>
    rw [q, Res.fl_ok] at kf
    refine ⟨w, ρ, st, H0, ex, ds, st1, I.sr, I.rs, q, fun vs H1 w1 E1 S1 p1 => ?_⟩
    cases z : setPar ts ds ρ with
    | none => rw [z] at kf; exact kf.elim
    | some ρ1 =>
      rw [z] at kf
      have I1 := I.step E1 S1
      have R1 := rs_par (fun a h => I.ext.none_of h) I1.rs z p1 ho fun _ j t b y1 y2 y3 y4 => by
        obtain ⟨u, u1, u2⟩ := I.rs.sl j t y1
        rw [y3] at u1
        cases u1
        cases t with
        | v d => cases y2
        | own xs =>
          obtain ⟨a, us, h1, h2, _⟩ := u2
          cases h1
          rw [h2] at y4
          cases y4
        | self c fs =>
          obtain ⟨a, dx, gs, h1, h2, _⟩ := u2
          cases h1
          rw [h2] at y4
          cases y4
      refine k vs H1 p1.len (fun H2 hk hp => ?_) (kf _ _ w1 E1.le ⟨I1.ext, S1, R1⟩)
      obtain ⟨p, o, hp, rfl⟩ := hp
      have E2 : Ext no w1 H1 w1 (upd H1 p o) := ext_new (st := st1) hp
      exact kf _ _ w1 E1.le ⟨I1.ext.trans E2.weak, sr_new S1 hp, R1.ext E2⟩
/-! two names -/
theorem st_par2 (cx : SCxt P A call fd lv N sc X) {i j : Nat} {bi bj : Bool} {cs : Cs} {x y : PySem.Str} {px py pt pt2 pos : Pos} {kt k2 : Nat} {ea eb : Expr} (hi : N[i]? = some x) (hj : N[j]? = some y) (hij : i ≠ j) (hp : parB sc x y px py ea eb = true) (ho : own1 [(i, bi), (j, bj)] = true) (hc : chkPs P N sc [(i, bi), (j, bj)] cs [ea, eb] = true) :
    PS X (.Assign [.Tuple [.Name x px, .Name y py] kt pt] (.Tuple [ea, eb] k2 pt2) pos) (tS P A call X wf fr (.parN [(i, bi), (j, bj)] cs)) := by
  have hp' := hp
  unfold parB at hp'
  simp only [Bool.and_eq_true, decide_eq_true_eq] at hp'
  obtain ⟨⟨⟨⟨⟨⟨⟨h1, h2⟩, h3⟩, h4⟩, h5⟩, h6⟩, h7⟩, h8⟩ := hp'
  refine PS.mono (ps_par cx.calm cx.nd (by rw [cx.N]; exact hi) (by rw [cx.N]; exact hj) hij (by rw [cx.sc]; exact h1) (by rw [cx.sc]; exact h2) (snd_ps cx.toCxt hc) (par_sw cx.kind (by rw [cx.sc]; exact hp))) ?_
  rintro Dn σ H ⟨w0, H0, ex, w, ρ, st, I, kf⟩
  refine par_flow I ho kf fun vs H1 hl _ k => ?_
  match vs, hl, k with
  | [v, u], _, k => exact ⟨v, u, rfl, k⟩
/-! three names -/
def parB3 (sc : Scope) (x y z : PySem.Str) (px py pz : Pos) (ea eb ec : Expr) : Bool := decide (sc.names.lookup x = some .local) && decide (sc.names.lookup y = some .local) && decide (sc.names.lookup z = some .local) && (py.line == px.line) && (pz.line == px.line) && decide (x ≠ y) && decide (x ≠ z) && decide (y ≠ z) && !([ea, eb, ec].all (foldedForSure 8)) && !([ea, eb, ec].all (constantsAlone 8)) && shape ea && shape eb && shape ec
theorem par_sw3 {x y z : PySem.Str} {px py pz pt pt2 : Pos} {kt k2 : Nat} {ea eb ec : Expr} {env : PySem.Env} (hk : env.scope.kind = .function) (h : parB3 env.scope x y z px py pz ea eb ec = true) : swappedStores [.Tuple [.Name x px, .Name y py, .Name z pz] kt pt] (.Tuple [ea, eb, ec] k2 pt2) env = pure (some [x, y, z]) := by
  unfold parB3 at h
  simp only [Bool.and_eq_true, decide_eq_true_eq] at h
  obtain ⟨⟨⟨⟨⟨⟨⟨⟨⟨⟨⟨⟨h1, h2⟩, h3⟩, h4⟩, h5⟩, h6⟩, h7⟩, h8⟩, h9⟩, h10⟩, h11⟩, h12⟩, h13⟩ := h
  have kx : env.kindOf x = some .local := h1
  have ky : env.kindOf y = some .local := h2
  have kz : env.kindOf z = some .local := h3
  have hb : env.blockKind = .function := by unfold PySem.Env.blockKind; rw [hk]; rfl
  have hf : ([ea, eb, ec].all (foldedForSure 8)) = false := Bool.not_eq_true' _ ▸ h9
  have hc : ([ea, eb, ec].all (constantsAlone 8)) = false := Bool.not_eq_true' _ ▸ h10
  have hdup : ([x, y, z] : List PySem.Str).eraseDups.length = 3 := by
    have a1 : (y == x) = false := by simpa using (Ne.symm h6)
    have a2 : (z == x) = false := by simpa using (Ne.symm h7)
    have a3 : (z == y) = false := by simpa using (Ne.symm h8)
    simp [List.eraseDups_cons, List.eraseDups_nil, List.filter, a1, a2, a3]
  have hst : ([ea, eb, ec].any isStar) = false := by simp [star_sh h11, star_sh h12, star_sh h13]
  have hn : ([Expr.Name x px, Expr.Name y py, Expr.Name z pz].filterMap fun t => match t with
    | .Name id pos => if (env.kindOf id == some .local && pos.line == px.line) = true then some id else none
    | _ => none) = [x, y, z] := by
    rw [List.filterMap_cons_some (b := x) (by simp [kx]), List.filterMap_cons_some (b := y) (by simp only [ky, h4]; rfl), List.filterMap_cons_some (b := z) (by simp only [kz, h5]; rfl), List.filterMap_nil]
  show (if (!(3 == 2 || 3 == 3) || 3 != 3 || env.blockKind != .function) = true then pure none else
    if ([ea, eb, ec].any isStar) = true then pure none else
    if ((([Expr.Name x px, Expr.Name y py, Expr.Name z pz].filterMap fun t => match t with
    | .Name id pos => if (env.kindOf id == some .local && pos.line == px.line) = true then some id else none
    | _ => none).length != 3) || _) = true then pure none else _) = _
  rw [if_neg (by rw [hb]; decide), if_neg (by rw [hst]; exact Bool.false_ne_true), if_neg (by
    intro q
    rw [Bool.or_eq_true] at q
    rcases q with q | q
    · rw [hn] at q; exact absurd q (by simp)
    · revert q
      show ¬ (((List.filterMap _ _).eraseDups.length != (List.filterMap _ _).length) = true)
      erw [hn]
      rw [hdup]
      simp)]
  show (if ([ea, eb, ec].all (foldedForSure 8)) = true then pure none else _) = _
  rw [if_neg (by rw [hf]; exact Bool.false_ne_true)]
  show (if ([ea, eb, ec].all (constantsAlone 8)) = true then _ else _) = _
  rw [if_neg (by rw [hc]; exact Bool.false_ne_true)]
  show pure (some (List.filterMap _ _)) = _
  erw [hn]
theorem st_par3 (cx : SCxt P A call fd lv N sc X) {i j l : Nat} {bi bj bl : Bool} {cs : Cs} {x y z : PySem.Str} {px py pz pt pt2 pos : Pos} {kt k2 : Nat} {ea eb ec : Expr} (hi : N[i]? = some x) (hj : N[j]? = some y) (hl : N[l]? = some z) (hij : i ≠ j) (hil : i ≠ l) (hjl : j ≠ l) (hp : parB3 sc x y z px py pz ea eb ec = true) (ho : own1 [(i, bi), (j, bj), (l, bl)] = true) (hc : chkPs P N sc [(i, bi), (j, bj), (l, bl)] cs [ea, eb, ec] = true) :
    PS X (.Assign [.Tuple [.Name x px, .Name y py, .Name z pz] kt pt] (.Tuple [ea, eb, ec] k2 pt2) pos) (tS P A call X wf fr (.parN [(i, bi), (j, bj), (l, bl)] cs)) := by
  have hp' := hp
  unfold parB3 at hp'
  simp only [Bool.and_eq_true, decide_eq_true_eq] at hp'
  obtain ⟨⟨⟨⟨⟨⟨⟨⟨⟨⟨⟨⟨h1, h2⟩, h3⟩, h4⟩, h5⟩, h6⟩, h7⟩, h8⟩, h9⟩, h10⟩, h11⟩, h12⟩, h13⟩ := hp'
  refine PS.mono (ps_par3 cx.calm cx.nd (by rw [cx.N]; exact hi) (by rw [cx.N]; exact hj) (by rw [cx.N]; exact hl) hij hil hjl (by rw [cx.sc]; exact h1) (by rw [cx.sc]; exact h2) (by rw [cx.sc]; exact h3) (snd_ps cx.toCxt hc) (par_sw3 cx.kind (by rw [cx.sc]; exact hp))) ?_
  rintro Dn σ H ⟨w0, H0, ex, w, ρ, st, I, kf⟩
  refine par_flow I ho kf fun vs H1 hl _ k => ?_
  match vs, hl, k with
  | [v, u, t], _, k => exact ⟨v, u, t, rfl, k⟩
/-! by a tuple -/
/-- the stores are not swapped -/
def nonLoc (sc : Scope) : Expr → Bool
  | .Name x _ => !(sc.names.lookup x == some .local)
  | _ => true
def genB (sc : Scope) (ts vs : List Expr) : Bool := !(ts.length == 2 || ts.length == 3) || ts.any (nonLoc sc) || vs.all (foldedForSure 8)
theorem fm_lt {α β : Type} (f : α → Option β) : ∀ {l : List α}, (∃ a ∈ l, f a = none) → (l.filterMap f).length < l.length
  | [], h => by obtain ⟨a, h, _⟩ := h; cases h
  | x :: l, h => by
    obtain ⟨a, ha, hn⟩ := h
    rw [List.filterMap_cons]
    cases hx : f x with
    | none =>
      have := List.length_filterMap_le f l
      simp only [List.length_cons]
      omega
    | some b =>
      rcases List.mem_cons.mp ha with e | e
      · rw [← e, hn] at hx
        cases hx
      · have := fm_lt f ⟨a, e, hn⟩
        simp only [List.length_cons]
        omega
theorem sw_gen {ts vs : List Expr} {kt k2 : Nat} {pt pt2 : Pos} {env : PySem.Env} (h : genB env.scope ts vs = true) : swappedStores [.Tuple ts kt pt] (.Tuple vs k2 pt2) env = pure none := by
  show (if (!(ts.length == 2 || ts.length == 3) || vs.length != ts.length || env.blockKind != .function) = true then pure none else
    if (vs.any isStar) = true then pure none else
    if (((ts.filterMap fun t => match t with
    | .Name id pos => if (env.kindOf id == some .local && pos.line == (ts.head?.map (·.pos.line)).getD 0) = true then some id else none
    | _ => none).length != ts.length) || _) = true then pure none else
    if (vs.all (foldedForSure 8)) = true then pure none else _) = _
  unfold genB at h
  rw [Bool.or_eq_true, Bool.or_eq_true] at h
  rcases h with (h | h) | h
  · rw [if_pos (by rw [h]; rfl)]
  · split
    · rfl
    · split
      · rfl
      · rw [if_pos]
        rw [Bool.or_eq_true]
        refine .inl ?_
        obtain ⟨t, ht, hn⟩ := List.any_eq_true.mp h
        have := fm_lt (fun t => match t with
          | Expr.Name id pos => if (env.kindOf id == some .local && pos.line == (ts.head?.map (·.pos.line)).getD 0) = true then some id else none
          | _ => none) (l := ts) ⟨t, ht, by
            cases t with
            | Name x p =>
              have z : (env.kindOf x == some .local) = false := by
                have y : ¬ env.scope.names.lookup x = some .local := by simpa [nonLoc] using hn
                have y2 : ¬ env.kindOf x = some .local := y
                simpa using y2
              simp [z]
            | _ => rfl⟩
        rw [bne_iff_ne]
        exact Nat.ne_of_lt this
  · split
    · rfl
    · split
      · rfl
      · split
        · rfl
        · first | rfl | rw [if_pos h]
theorem st_parG (cx : SCxt P A call fd lv N sc X) {ts : List (Nat × Bool)} {cs : Cs} {tes es : List Expr} {kt k2 : Nat} {pt pt2 pos : Pos} (ht : targetB N (ownB sc) (ts.map (·.1)) (.Tuple tes kt pt) = true) (hg : genB sc tes es = true) (hl : ts.length ≤ 1000) (ho : own1 ts = true) (hc : chkPs P N sc ts cs es = true) :
    PS X (.Assign [.Tuple tes kt pt] (.Tuple es k2 pt2) pos) (tS P A call X wf fr (.parN ts cs)) := by
  have hpg := pg_tg (X := X) (N := N) cx.calm cx.nd cx.N (hL_of cx) ht
  refine PS.mono (ps_asg (pe_tup (snd_ps cx.toCxt hc)) hpg (show swapsWith (.Tuple es k2 pt2) (some (.Tuple tes kt pt)) pos.line X.env = pure false from rfl) (sw_gen (by rw [cx.sc]; exact hg))) ?_
  rintro Dn σ H ⟨w0, H0, ex, w, ρ, st, I, kf⟩
  refine par_flow I ho kf fun vs H1 hlen k _ => ⟨by rw [hlen, sizeLine_eq]; omega, fun p hp => ?_⟩
  have h2 : 2 ≤ (ts.map (·.1)).length := by
    simp only [targetB, Bool.and_eq_true, decide_eq_true_eq] at ht
    exact ht.1
  have fin : gTup X.K (ts.map (·.1)).length (gSets (ts.map (·.1))) (.ref p) σ (upd H1 p (.tup vs)) Dn.nx := by
    refine ⟨p, vs, rfl, SqT.of upd_same, by rw [List.length_map]; exact hlen, by rw [List.length_map]; exact hlen, k _ (fun a o q => ?_) ⟨p, _, hp, rfl⟩⟩
    rw [upd_ne (ne_of_none q hp)]
    exact q
  show gTg X.K (ts.map (·.1)) (.ref p) σ (upd H1 p (.tup vs)) Dn.nx
  have gen : ∀ is : List Nat, 2 ≤ is.length → gTup X.K is.length (gSets is) (.ref p) σ (upd H1 p (.tup vs)) Dn.nx → gTg X.K is (.ref p) σ (upd H1 p (.tup vs)) Dn.nx := fun is hl2 q => by
    match is, hl2, q with
    | [], hl2, _ => simp at hl2
    | [_], hl2, _ => simp at hl2
    | _ :: _ :: _, _, q => exact q
  exact gen _ h2 fin
theorem st_ins (cx : SCxt P A call fd lv N sc X) {i : Nat} {cp c : C} {x m : PySem.Str} {px apos cpos pos : Pos} {ep e : Expr} (hm : m = ("insert" : PySem.Str)) (hn : nameB N sc i x = true) (hline : (apos.endLine == cpos.line) = true) (hbp : (!cp.isBor) = true) (hsp : shape ep = true) (hp : chkE P N sc cp ep = true) (hb : (!c.isBor) = true) (hs : shape e = true) (h : chkE P N sc c e = true) :
    PS X (.Expr (.Call (.Attribute (.Name x px) m apos) [ep, e] [] cpos) pos) (tS P A call X wf fr (.ins i cp c)) := by
  subst hm
  obtain ⟨h1, h2, h3, h4⟩ := name_of hn
  have hall : [ep, e].all shape = true := by simp [hs, hsp]
  refine PS.mono (ps_expr (pe_bm PySem.F.plainAttrs_list PySem.F.slot_list_insert PySem.F.type_list_insert mt_insert (pe_var (by rw [cx.N]; exact h1) (by rw [cx.sc]; exact h2) h3 h4) (pa_cons (sndE cp cx.toCxt hp).1 (pa_cons (sndE c cx.toCxt h).1 pa_nil (star_of [] _ hs)) (star_of [e] _ hsp)) rfl (by rw [allno_of cpos X.env [ep, e] hall]; rfl) hline (star_of [e] X.env hsp) (hplain := plain_of cpos X.env [e] (by simp [hs]))) rfl) ?_
  rintro Dn σ H ⟨w0, H0, ex, w, ρ, st, I, kf⟩
  simp only [evS] at kf
  cases q : slotO ρ i with
  | none =>
    exfalso
    cases z : ev P.tab call cp ρ st with
    | ok d st1 =>
      rw [z, Res.fl_ok] at kf
      cases z2 : ev P.tab call c ρ st1 with
      | ok d2 st2 =>
        rw [z2, Res.fl_ok, q] at kf
        exact kf
      | exc k fs st1 => rw [z2] at kf; exact kf
      | bad => rw [z2] at kf; exact kf
    | exc k fs st1 => rw [z] at kf; exact kf
    | bad => rw [z] at kf; exact kf
  | some xs =>
    obtain ⟨hs1, a, vs, e1, e2, e3, e4, e5⟩ := I.rs.bor q
    refine ⟨_, e1, .inl ⟨rfl, vs, SqL.of e2⟩, ?_⟩
    refine e_step I hbp kf fun d st1 v H1 w1 l1 I1 r k1 => ?_
    refine e_step I1 hb k1 fun d2 st2 v2 H2 w2 l2 I2 r2 k2 => ?_
    rw [q] at k2
    cases d with
    | int k =>
      dsimp only at k2
      cases r
      obtain ⟨hs2, a', vs', f1, f2, f3, f4, f5⟩ := I2.rs.bor q
      rw [e1] at f1
      cases f1
      split at k2
      · rename_i hc
        have hlen : vs'.length < sizeLine := by rw [← f3.length, sizeLine_eq]; omega
        refine ⟨a, vs', k, v2, rfl, rfl, f2, hlen, hc.1, by omega, ?_⟩
        exact k2 _ _ w2 (.refl _) (I2.wr hs2 rfl rfl e1 f4 (.inl f5) ⟨_, f2⟩ ⟨a, vs'.take k.toNat ++ [v2] ++ vs'.drop k.toNat, rfl, upd_same, ((f3.take k.toNat).append (.cons r2 .nil)).append (f3.drop k.toNat), f4, f5⟩)
      · exact k2.elim
    | _ => exact k2.elim
/-! an item and a name -/
theorem sw_item {eo ei ea eb : Expr} {y : PySem.Str} {p1 py pt pt2 : Pos} {kt k2 : Nat} {env : PySem.Env} : swappedStores [.Tuple [.Subscript eo ei p1, .Name y py] kt pt] (.Tuple [ea, eb] k2 pt2) env = pure none := by
  show (if (!(2 == 2 || 2 == 3) || 2 != 2 || env.blockKind != .function) = true then pure none else
    if ([ea, eb].any isStar) = true then pure none else
    if ((([Expr.Subscript eo ei p1, Expr.Name y py].filterMap fun t => match t with
    | .Name id pos => if (env.kindOf id == some .local && pos.line == p1.line) = true then some id else none
    | _ => none).length != 2) || _) = true then pure none else _) = _
  split
  · rfl
  · split
    · rfl
    · rw [if_pos]
      rw [Bool.or_eq_true]
      refine .inl ?_
      rw [List.filterMap_cons_none rfl]
      rw [List.filterMap_cons]
      split <;> rfl
theorem item_eq {o i : Expr} {pos : Pos} {env : PySem.Env} (h : shape i = true) (v : Value) : assign (.Subscript o i pos) env v = (do let x ← holding [v] (eval o env); let y ← holding [v, x] (eval i env); standAt pos; holding [v, x, y] (setItem x y v); release [v, x, y] []) := by
  cases i <;> first | rfl | exact absurd h Bool.false_ne_true
theorem st_parc (cx : SCxt P A call fd lv N sc X) {o i a b : C} {j : Nat} {y : PySem.Str} {eo ei ea eb : Expr} {p1 py pt pt2 pos : Pos} {kt k2 : Nat} (hj : setB N sc j y = true) (hbo : (!o.isBor) = true) (ho : chkE P N sc o eo = true) (hbi : (!i.isBor) = true) (hsi : shape ei = true) (hi : chkE P N sc i ei = true) (hba : (!a.isBor) = true) (hsa : shape ea = true) (ha : chkE P N sc a ea = true) (hbb : (!b.isBor) = true) (hsb : shape eb = true) (hb : chkE P N sc b eb = true) :
    PS X (.Assign [.Tuple [.Subscript eo ei p1, .Name y py] kt pt] (.Tuple [ea, eb] k2 pt2) pos) (tS P A call X wf fr (.parc o i j a b)) := by
  unfold setB at hj
  rw [Bool.and_eq_true, decide_eq_true_eq] at hj
  obtain ⟨hlo, hfn⟩ := hL_of cx y hj.2
  have hpa := pa_cons (sndE a cx.toCxt ha).1 (pa_cons (sndE b cx.toCxt hb).1 pa_nil (star_of [] _ hsb)) (star_of [eb] _ hsa)
  have hpg : PG X (.Tuple [.Subscript eo ei p1, .Name y py] kt pt) (gTup X.K 2 (gCons (gSub (tE P A call X o) (tE P A call X i) rSetL) (gCons (gName j) gNil))) := pg_tup cx.calm (pgs_cons (pg_sub (sndE o cx.toCxt ho).1 (sndE i cx.toCxt hi).1 set_list (item_eq hsi)) (pgs_cons (pg_name cx.nd (by rw [cx.N]; exact hj.1) hlo hfn) pgs_nil))
  refine PS.mono (ps_asg (pe_tup hpa) hpg (show swapsWith (.Tuple [ea, eb] k2 pt2) (some (.Tuple [.Subscript eo ei p1, .Name y py] kt pt)) pos.line X.env = pure false from rfl) sw_item) ?_
  rintro Dn σ H ⟨w0, H0, ex, w, ρ, st, I, kf⟩
  simp only [evS] at kf
  refine e_step I hba kf fun d1 st1 v H1 w1 l1 I1 r1 k1 => ?_
  refine e_step I1 hbb k1 fun d2 st2 u H2 w2 l2 I2 r2 k2 => ⟨by show 2 ≤ sizeLine; rw [sizeLine_eq]; omega, fun p hp => ?_⟩
  refine ⟨p, [v, u], rfl, SqT.of upd_same, rfl, v, [u], rfl, ?_⟩
  have E3 : Ext no w2 H2 w2 (upd H2 p (.tup [v, u])) := ext_new (st := st2) hp
  have I3 := I2.step E3 (sr_new I2.sr hp)
  refine e_step I3 hbo k2 fun d3 st3 o' H4 w4 l4 I4 r4 k4 => ?_
  refine e_step I4 hbi k4 fun d4 st4 z H5 w5 l5 I5 r5 k5 => ?_
  unfold setD at k5
  cases d3 with
  | ref n =>
    cases d4 with
    | int m =>
      dsimp only at k5
      cases hg : getL st4 n with
      | none => rw [hg] at k5; exact k5.elim
      | some xs =>
        rw [hg] at k5
        dsimp only at k5
        cases hx : itIx xs.length m with
        | none => rw [hx] at k5; exact k5.elim
        | some q =>
          rw [hx] at k5
          dsimp only at k5
          split at k5
          · rename_i hjl
            obtain ⟨vs, hv, hn, hq, rs⟩ := cellL I5.sr hg (.inl (r4.mono l5))
            cases r5
            have rv := (((r1.mono l2).mono l4).mono l5)
            have ru := ((r2.mono l4).mono l5)
            have I6 := I5.step (ext_at (o := .lst (vs.set q v)) I5.sr hn) (sr_at (c := .lk (xs.set q d1)) (o := .lst (vs.set q v)) I5.sr hn ⟨_, rs.put rv q, rfl⟩)
            refine ⟨w5.μ n, vs, m, q, hv, rfl, hq, by rw [← rs.length]; exact hx, u, [], rfl, rfl, ?_⟩
            exact k5 _ _ w5 (.refl _) ⟨I6.ext, I6.sr, I6.rs.setv hjl ru⟩
          · exact k5.elim
    | _ => exact k5.elim
  | _ => cases d4 <;> exact k5.elim
/-! with a note of the kind -/
theorem st_ownA (cx : SCxt P A call fd lv N sc X) {c : C} {i : Nat} {x : PySem.Str} {px pos : Pos} {e ann : Expr} {sm : Int} (hset : setB N sc i x = true) (hf : freshC P c = true) (hs : shape e = true) (hlc : isLc e = false) (h : chkE P N sc c e = true) : PS X (.AnnAssign (.Name x px) ann (some e) sm pos) (tS P A call X wf fr (.own i c)) := by
  unfold setB at hset
  rw [Bool.and_eq_true, decide_eq_true_eq] at hset
  obtain ⟨hlo, hfn⟩ := hL_of cx x hset.2
  exact PS.mono (ps_ann (sndF cx.toCxt hf h) (pg_name cx.nd (by rw [cx.N]; exact hset.1) hlo hfn) (swap_of _ _ _ hs hlc)) own_flow
end
end Eng

namespace Eng
open PySem PySem.Spec PyProof.Rows L2
section
variable {P : Prg} {A : Ad} {call : Nat → List D → Store → Res D} {fd : Nat → FuncData} {lv : Nat} {N : List PySem.Str} {sc : Scope} {X : Cx} {wf : Nat} {fr : Bool}
/-- an item of an owned list is dropped -/
theorem st_popo (cx : SCxt P A call fd lv N sc X) {i : Nat} {c : C} {x m : PySem.Str} {px apos cpos pos : Pos} {e : Expr} (hm : m = ("pop" : PySem.Str)) (hn : nameB N sc i x = true) (hline : (apos.endLine == cpos.line) = true) (hb : (!c.isBor) = true) (hs : shape e = true) (h : chkE P N sc c e = true) :
    PS X (.Expr (.Call (.Attribute (.Name x px) m apos) [e] [] cpos) pos) (tS P A call X wf fr (.popo i c)) := by
  subst hm
  obtain ⟨h1, h2, h3, h4⟩ := name_of hn
  have hall : [e].all shape = true := by simp [hs]
  refine PS.mono (ps_expr (pe_bm PySem.F.plainAttrs_list PySem.F.slot_list_pop PySem.F.type_list_pop mt_popAt (pe_var (by rw [cx.N]; exact h1) (by rw [cx.sc]; exact h2) h3 h4) (pa_cons (sndE c cx.toCxt h).1 pa_nil (star_of [] _ hs)) rfl (by rw [allno_of cpos X.env [e] hall]; rfl) hline (star_of [] _ hs) rfl)) ?_
  rintro Dn σ H ⟨w0, H0, ex, w, ρ, st, I, kf⟩
  simp only [evS] at kf
  cases q : slotO ρ i with
  | none =>
    exfalso
    cases z : ev P.tab call c ρ st with
    | ok d st1 =>
      rw [z, Res.fl_ok, q] at kf
      exact kf
    | exc k fs st1 => rw [z] at kf; exact kf
    | bad => rw [z] at kf; exact kf
  | some xs =>
    obtain ⟨hs1, a, vs, e1, e2, e3, e4, e5⟩ := I.rs.bor q
    refine ⟨_, e1, .inl ⟨rfl, vs, SqL.of e2⟩, ?_⟩
    refine e_step I hb kf fun d st1 v H1 w1 l1 I1 r k1 => ?_
    rw [q] at k1
    obtain ⟨hs2, a', vs', f1, f2, f3, f4, f5⟩ := I1.rs.bor q
    rw [e1] at f1
    cases f1
    cases d with
    | int k =>
      cases r
      dsimp only at k1
      split at k1
      · rename_i hk
        have hlen := f3.length
        have hkl : k.toNat < vs'.length := by omega
        have hz : vs'.length ≤ 2 ^ 62 ∨ True := .inr trivial
        obtain ⟨ix1, ix2, ix3, ix4⟩ := ixN_seq (show ixN vs'.length k = some k.toNat by
          unfold ixN
          rw [if_pos hk.1, if_pos (by omega)])
        refine ⟨a, vs', k, k.toNat, vs'[k.toNat], rfl, rfl, f2, ?_, ?_, ?_, List.getElem?_eq_getElem hkl, ?_⟩
        · omega
        · omega
        · first | exact ix1 | exact ix2 | exact ix3 | exact ix4
        · exact k1 _ _ w1 (.refl _) (I1.wr hs2 rfl rfl e1 f4 (.inl f5) ⟨_, f2⟩ ⟨a, _, rfl, upd_same, f3.erase k.toNat, f4, f5⟩)
      · exact k1.elim
    | _ => exact k1.elim
/-! ### match by texts -/
def patB : PySem.Str → Pattern → Bool
  | s, .MatchValue (.Constant (.str t) _ _) _ => decide (s = t)
  | _, _ => false
def patsB : List PySem.Str → List Pattern → Bool
  | [], [] => true
  | s :: r, p :: ps => patB s p && patsB r ps
  | _, _ => false
def pattB (vs : List PySem.Str) (p : Pattern) : Bool := match vs, p with
  | [s], p => patB s p || (match p with
    | .MatchOr ps _ => patsB [s] ps
    | _ => false)
  | vs, .MatchOr ps _ => patsB vs ps
  | _, _ => false
theorem pat_run {pins : List (Addr × Obj)} {σ : L2.St} {H : Hp} {s : Shared} {x v : PySem.Str} {t : Tok} {p : Pattern} {Q : Option (List (PySem.Str × Value)) → Shared → Prop} (h : patB v p = true) (I : Inv X pins σ H s)
    (k : ∀ s1, Inv X pins σ H s1 → Q (if x = v then some [] else none) s1) : wpAny (model X.prog X.w) X.A (matchPattern p X.env (.str x t)) Q X.xe s := by
  unfold patB at h
  split at h
  · rename_i s' t' a b c
    have h : v = t' := of_decide_eq_true h
    subst h
    refine wpAny_matchPattern_Value (thn (pe_str.run pins s σ H (fun u H' => u = .str v ∧ H' = H) I ⟨rfl, rfl⟩) fun u s1 hu => ?_)
    obtain ⟨z, H', I1, r1, rfl, rfl⟩ := hu
    obtain ⟨t2, rfl⟩ := r1
    refine eq_str (wpAny_truthy_bool ?_)
    by_cases e : x = v
    · have z := k s1 I1
      rw [if_pos e] at z
      simpa [e] using z
    · have z := k s1 I1
      rw [if_neg e] at z
      simpa [e] using z
  · cases h
theorem pats_run {x : PySem.Str} {t : Tok} : ∀ {vs : List PySem.Str} {ps : List Pattern} {pins : List (Addr × Obj)} {σ : L2.St} {H : Hp} {s : Shared} {Q : Option (List (PySem.Str × Value)) → Shared → Prop}, patsB vs ps = true → Inv X pins σ H s →
    (∀ s1, Inv X pins σ H s1 → Q (if vs.contains x then some [] else none) s1) → wpAny (model X.prog X.w) X.A (matchFirst ps X.env (.str x t)) Q X.xe s
  | [], [], pins, σ, H, s, Q, _, I, k => wpAny_matchFirst_nil (k s I)
  | [], _ :: _, _, _, _, _, _, h, _, _ => by simp [patsB] at h
  | _ :: _, [], _, _, _, _, _, h, _, _ => by simp [patsB] at h
  | v :: vs, p :: ps, pins, σ, H, s, Q, h, I, k => by
    simp only [patsB, Bool.and_eq_true] at h
    refine wpAny_matchFirst_cons (pat_run h.1 I fun s1 I1 => ?_)
    by_cases e : x = v
    · rw [if_pos e]
      have z := k s1 I1
      simpa [e] using z
    · rw [if_neg e]
      refine pats_run h.2 I1 fun s2 I2 => ?_
      have z := k s2 I2
      simpa [e] using z
theorem patt_run {pins : List (Addr × Obj)} {σ : L2.St} {H : Hp} {s : Shared} {x : PySem.Str} {vs : List PySem.Str} {t : Tok} {p : Pattern} {Q : Option (List (PySem.Str × Value)) → Shared → Prop} (h : pattB vs p = true) (I : Inv X pins σ H s)
    (k : ∀ s1, Inv X pins σ H s1 → Q (if vs.contains x then some [] else none) s1) : wpAny (model X.prog X.w) X.A (matchPattern p X.env (.str x t)) Q X.xe s := by
  have orr : ∀ ps pos, p = .MatchOr ps pos → patsB vs ps = true → wpAny (model X.prog X.w) X.A (matchPattern p X.env (.str x t)) Q X.xe s := by
    rintro ps pos rfl hp
    refine wpAny_matchPattern_Or (pats_run hp I fun s1 I1 => ?_)
    have z := k s1 I1
    split at z
    · rename_i e
      rw [if_pos e]
      have hz : ∀ l : List PySem.Str, (l.filterMap fun n => (List.lookup n ([] : List (PySem.Str × Value))).map (n, ·)) = [] := fun l => by simp
      show Q (some _) s1
      rw [hz]
      exact z
    · rename_i e
      rw [if_neg e]
      exact z
  unfold pattB at h
  split at h
  · rename_i v p
    rw [Bool.or_eq_true] at h
    rcases h with h | h
    · refine pat_run h I fun s1 I1 => ?_
      have z := k s1 I1
      simpa using z
    · split at h
      · exact orr _ _ rfl h
      · cases h
  · exact orr _ _ rfl h
  · cases h
variable (P A call X) in
def tKs (wf : Nat) (fr : Bool) (ks : Ks) (x : PySem.Str) : TS := fun Dn σ H => ∃ w0 H0 ex w ρ st, SI A X.K w0 H0 ex w ρ st σ H ∧ KF A X.K fr w0 H0 ex w Dn (evKs P.tab call wf ks x ρ st)
theorem ks_run {chkB : Ss → List Stmt → Bool} {chkM : Ks → List MatchCase → Bool}
    (hnil : ∀ cs, chkM .nil cs = true → cs = []) (hcons : ∀ vs b r cs, chkM (.cons vs b r) cs = true → ∃ p body rest, cs = ⟨p, none, body⟩ :: rest ∧ pattB vs p = true ∧ chkB b body = true ∧ chkM r rest = true)
    (hwild : ∀ b cs, chkM (.wild b) cs = true → ∃ pos body, cs = [⟨.MatchAs none none pos, none, body⟩] ∧ chkB b body = true) {x : PySem.Str} {t : Tok} : ∀ (n : Nat) (ks : Ks) (cs : List MatchCase) (first : Bool), sizeOf ks ≤ n → chkM ks cs = true →
    (∀ (b : Ss) (sts : List Stmt), sizeOf b < n → chkB b sts = true → PSs X sts (tSs P A call X wf fr b)) → ∀ {pins : List (Addr × Obj)} {s : Shared} {σ : L2.St} {H : Hp} {Dn : Ends}, Inv X pins σ H s → tKs P A call X wf fr ks x Dn σ H →
    wpAny (model X.prog X.w) X.A (matchCases cs X.env (.str x t) first) (SP X pins Dn) X.xe s
  | 0, ks, cs, first, hn, _, _, _, _, _, _, _, _, _ => by cases ks <;> simp at hn
  | n + 1, .nil, cs, first, hn, h, rc, pins, s, σ, H, Dn, I, q => by
    obtain rfl := hnil _ h
    obtain ⟨w0, H0, ex, w, ρ, st, J, kf⟩ := q
    simp only [evKs] at kf
    exact wpAny_matchCases_nil ⟨σ, H, I, kf _ _ w (.refl _) J⟩
  | n + 1, .wild b, cs, first, hn, h, rc, pins, s, σ, H, Dn, I, q => by
    obtain ⟨pos, body, rfl, hb⟩ := hwild _ _ h
    obtain ⟨w0, H0, ex, w, ρ, st, J, kf⟩ := q
    simp only [evKs] at kf
    refine wpAny_matchCases_cons (wpAny_matchPattern_Capture ?_)
    exact wpAny_assignInOrder_none ((rc b body (by simp at hn; omega) hb).run pins s σ H Dn I ⟨w0, H0, ex, w, ρ, st, J, kf⟩)
  | n + 1, .cons vs b r, cs, first, hn, h, rc, pins, s, σ, H, Dn, I, q => by
    obtain ⟨p, body, rest, rfl, hp, hb, hr⟩ := hcons _ _ _ _ h
    obtain ⟨w0, H0, ex, w, ρ, st, J, kf⟩ := q
    simp only [evKs] at kf
    refine wpAny_matchCases_cons (patt_run hp I fun s1 I1 => ?_)
    by_cases e : vs.contains x = true
    · rw [if_pos e] at kf ⊢
      exact wpAny_assignInOrder_none ((rc b body (by simp at hn; omega) hb).run pins s1 σ H Dn I1 ⟨w0, H0, ex, w, ρ, st, J, kf⟩)
    · rw [if_neg e] at kf ⊢
      exact ks_run hnil hcons hwild n r rest false (by simp at hn; omega) hr (fun b sts hb => rc b sts (by omega)) I1 ⟨w0, H0, ex, w, ρ, st, J, kf⟩
theorem st_mtch (cx : SCxt P A call fd lv N sc X) {c : C} {ks : Ks} {e : Expr} {cs : List MatchCase} {pos : Pos} (hb : (!c.isBor) = true) (h : chkE P N sc c e = true)
    (hk : ∀ {x : PySem.Str} {t : Tok} {pins : List (Addr × Obj)} {s : Shared} {σ : L2.St} {H : Hp} {Dn : Ends}, Inv X pins σ H s → tKs P A call X wf fr ks x Dn σ H → wpAny (model X.prog X.w) X.A (matchCases cs X.env (.str x t) true) (SP X pins Dn) X.xe s) :
    PS X (.Match e cs pos) (tS P A call X wf fr (.mtch c ks)) := by
  refine ⟨fun pins s σ H Dn I q => ?_⟩
  obtain ⟨w0, H0, ex, w, ρ, st, J, kf⟩ := q
  simp only [evS] at kf
  refine wpAny_Match (thn ((sndE c cx.toCxt h).1.run pins s σ H (fun v H1 => ∃ x, v = .str x ∧ tKs P A call X wf fr ks x Dn σ H1) I (e_step J hb kf fun d st1 v H1 w1 l1 J1 r k1 => ?_)) fun u s1 hu => ?_)
  · cases d with
    | str x =>
      cases r
      exact ⟨x, rfl, w0, H0, ex, w1, ρ, st1, J1, k1⟩
    | _ => exact k1.elim
  · obtain ⟨v, H1, I1, r1, x, rfl, q1⟩ := hu
    obtain ⟨t, rfl⟩ := r1
    exact hk I1 q1
end
end Eng

namespace Eng
open PySem PySem.Spec PyProof.Rows L2
theorem flat2_get : ∀ {xs ys : List D} {i : Nat} {d : D}, flat2s xs = some ys → xs[i]? = some d → ∃ a ds, d = .tup [a, .tup ds] ∧ ys[i]? = some (.tup (a :: ds))
  | [], _, i, d, _, h => by simp at h
  | x :: r, ys, i, d, e, h => by
    unfold flat2s at e
    split at e
    · cases ‹x :: r = []›
    · rename_i a ds r' hx
      cases hx
      obtain ⟨zs, hz, rfl⟩ := Option.map_eq_some_iff.mp e
      cases i with
      | zero => cases h; exact ⟨a, ds, rfl, rfl⟩
      | succ i =>
        obtain ⟨a', ds', h1, h2⟩ := flat2_get hz (show r[i]? = some d by simpa using h)
        exact ⟨a', ds', h1, by simpa using h2⟩
    · cases e
theorem flat2_len : ∀ {xs ys : List D}, flat2s xs = some ys → ys.length = xs.length
  | [], ys, e => by cases e; rfl
  | x :: r, ys, e => by
    unfold flat2s at e
    split at e
    · cases ‹x :: r = []›
    · rename_i a ds r' hx
      cases hx
      obtain ⟨zs, hz, rfl⟩ := Option.map_eq_some_iff.mp e
      simp [flat2_len hz]
    · cases e
section
variable {P : Prg} {A : Ad} {call : Nat → List D → Store → Res D} {fd : Nat → FuncData} {lv : Nat} {N : List PySem.Str} {sc : Scope} {X : Cx} {wf : Nat} {fr : Bool}
/-- the target of such a loop -/
def tgNB (N : List PySem.Str) (ok : PySem.Str → Bool) (i : Nat) (is : List Nat) : Expr → Bool
  | .Tuple [.Name x _, .Tuple es _ _] _ _ => decide (N[i]? = some x) && ok x && decide (2 ≤ is.length) && targetsB N ok is es
  | _ => false
theorem st_forN (cx : SCxt P A call fd lv N sc X) {i0 : Nat} {is : List Nat} {it : Eng.It} {body : Ss} {x : PySem.Str} {px p2 p3 : Pos} {es : List Expr} {k2 k3 : Nat} {e : Expr} {sts : List Stmt} {pos : Pos} (hi : N[i0]? = some x) (h2l : 2 ≤ is.length) (ho : ownB sc x = true) (ht : targetsB N (ownB sc) is es = true) (hs : shape e = true) (h : chkI P N sc it e (.Tuple [.Name x px, .Tuple es k2 p2] k3 p3) = true) (hb : PSs X sts (tSs P A call X wf fr body)) :
    PS X (.For (.Tuple [.Name x px, .Tuple es k2 p2] k3 p3) e sts [] pos) (tS P A call X wf fr (.forN i0 is it body)) := by
  obtain ⟨t1, t2, t3⟩ := pgs_sets (X := X) cx.nd cx.N (hL_of cx) ht
  obtain ⟨hl, hf⟩ := hL_of cx x ho
  have inn := pg_tup (pos := p2) (k := k2) cx.calm t1 t2 t3
  have hg := pg_tup (pos := p3) (k := k3) cx.calm (pgs_cons (pg_name (pos := px) cx.nd (by rw [cx.N]; exact hi) hl hf) (pgs_cons inn pgs_nil rfl) rfl) rfl rfl
  refine PS.mono (ps_for cx.pas cx.calm (sndI it cx.toCxt h) hg hb (fun x => fold_of _ hs x)) ?_
  rintro Dn σ H ⟨w0, H0, ex, w, ρ, st, I, kf⟩
  simp only [evS] at kf
  cases q : evIt P.tab call it ρ st with
  | exc k' fs st1 => rw [q] at kf; exact kf.elim
  | bad => rw [q] at kf; exact kf.elim
  | ok xs st1 =>
    rw [q, Res.fl_ok] at kf
    cases hfl : flat2s xs with
    | none => rw [hfl] at kf; exact kf.elim
    | some ys =>
      rw [hfl] at kf
      dsimp only at kf
      refine ⟨w, ρ, st, H0, ex, xs, st1, I.sr, I.rs, q, fun J H1 w1 E1 S1 W => ?_⟩
      have I1 := I.step E1 S1
      obtain ⟨G, Y, wk, hG, hY⟩ := W
      refine for_it wk (fun i σ H => ∃ w2 ρ2 st2, SI A X.K w0 H0 ex w2 ρ2 st2 σ H ∧ w1.le w2 ∧ KF A X.K fr w0 H0 ex w2 Dn (forR (i0 :: is) (evSs P.tab call wf body) (ys.drop i) ρ2 st2)) ⟨w1, ρ, st1, I1, .refl _, by simpa using kf.le E1.le⟩ ?_ ?_ ?_
      · rintro i σ2 H2 _ ⟨w2, ρ2, st2, I2, l2, _⟩
        exact hG w2 st2 H2 l2 I2.sr
      · rintro i v σ2 H2 H3 hi ⟨w2, ρ2, st2, I2, l2, k2⟩ y
        obtain ⟨w3, d, hd, E3, S3, rd⟩ := hY i H2 v H3 w2 st2 hi l2 I2.sr y
        obtain ⟨a, ds, rfl, hy⟩ := flat2_get hfl hd
        have hdrop : ys.drop i = .tup (a :: ds) :: ys.drop (i + 1) := by
          obtain ⟨h1, h2⟩ := List.getElem?_eq_some_iff.mp hy
          rw [List.drop_eq_getElem_cons h1, h2]
        rw [hdrop] at k2
        simp only [forR] at k2
        have I3 := I2.step E3 S3
        cases hbt : bindT (i0 :: is) (.tup (a :: ds)) ρ2 with
        | none => rw [hbt] at k2; exact k2.elim
        | some ρ3 =>
          rw [hbt] at k2
          dsimp only at k2
          have hsa : setAll (i0 :: is) (a :: ds) ρ2 = some ρ3 := by
            unfold bindT at hbt
            split at hbt
            · rename_i hh
              have : is = [] := by simpa using (List.cons.inj hh).2
              rw [this] at h2l
              simp at h2l
            · exact hbt
          obtain ⟨b, us, rfl, hq, rr⟩ := rd.tupl S3
          obtain ⟨va, r1, rfl, ra, rr⟩ : ∃ va r1, us = va :: r1 ∧ RD A X.K w3 a va ∧ RDs A X.K w3 [.tup ds] r1 := by
            cases rr with
            | cons h t => exact ⟨_, _, rfl, h, t⟩
          obtain ⟨vt, rfl, rt⟩ : ∃ vt, r1 = [vt] ∧ RD A X.K w3 (.tup ds) vt := by
            cases rr with
            | cons h t =>
              cases t
              exact ⟨_, rfl, h⟩
          obtain ⟨b2, vs2, rfl, hq2, rr2⟩ := rt.tupl S3
          have hle : vs2.length = is.length := by
            rw [← rr2.length]
            have := setAll_len hsa
            simpa using this
          have R3 : RS A X.K H0 ex w3 ρ3 (setV (i0 :: is) (va :: vs2) σ2) H3 := rs_sets I3.rs hsa (.cons ra rr2)
          refine ⟨b, [va, .ref b2], rfl, hq, rfl, va, [.ref b2], rfl, .ref b2, [], rfl, b2, vs2, rfl, hq2, hle, hle, rfl, w0, H0, ex, w3, ρ3, st2, ⟨I3.ext, I3.sr, R3⟩, ?_⟩
          cases qb : evSs P.tab call wf body ρ3 st2 with
          | nx ρ4 st4 =>
            rw [qb] at k2
            exact fun σ4 H4 w4 l4 I4 => ⟨w4, ρ4, st4, I4, (l2.trans E3.le).trans l4, k2.le (E3.le.trans l4)⟩
          | ct ρ4 st4 =>
            rw [qb] at k2
            exact fun σ4 H4 w4 l4 I4 => ⟨w4, ρ4, st4, I4, (l2.trans E3.le).trans l4, k2.le (E3.le.trans l4)⟩
          | bk ρ4 st4 =>
            rw [qb] at k2
            exact fun σ4 H4 w4 l4 I4 => k2 σ4 H4 w4 (E3.le.trans l4) I4
          | rt d4 st4 => rw [qb] at k2; exact k2
          | exc k4 fs st4 => rw [qb] at k2; exact k2.elim
          | bad => rw [qb] at k2; exact k2.elim
      · rintro σ2 H2 ⟨w2, ρ2, st2, I2, l2, k2⟩
        have : ys.drop xs.length = [] := by rw [← flat2_len hfl]; exact List.drop_length
        rw [this] at k2
        exact k2 σ2 H2 w2 (.refl _) I2
end
end Eng

namespace Eng
open PySem PySem.Spec PyProof.Rows L2
/-! ### the check of statements -/
def wildB : List MatchCase → Option (List Stmt)
  | [⟨.MatchAs none none _, none, body⟩] => some body
  | _ => none
theorem wildB_is {cs : List MatchCase} {body : List Stmt} (h : wildB cs = some body) : ∃ pos, cs = [⟨.MatchAs none none pos, none, body⟩] := by
  unfold wildB at h
  split at h
  · cases h; exact ⟨_, rfl⟩
  · cases h
section
variable (P : Prg) (N : List PySem.Str) (sc : Scope) (fr : Bool)
mutual
def chkS : S → Stmt → Bool
  | .set i c, .Assign [.Name x px] e _ => setB N sc i x && !c.isBor && shape e && chkE P N sc c e && lcB sc x px e
  | .own i c, .Assign [.Name x px] e _ => setB N sc i x && freshC P c && shape e && chkE P N sc c e && lcB sc x px e
  | .unp is c, .Assign [.Tuple es k p] e _ => targetB N (ownB sc) is (.Tuple es k p) && !c.isBor && shape e && !isLc e && notTup e && chkE P N sc c e
  | .par i j a b, .Assign [.Tuple [.Name x px, .Name y py] _ _] (.Tuple [ea, eb] _ _) _ => decide (N[i]? = some x) && decide (N[j]? = some y) && decide (i ≠ j) && parB sc x y px py ea eb && !a.isBor && chkE P N sc a ea && !b.isBor && chkE P N sc b eb
  | .fld i f c, .Assign [.Attribute (.Name x _) m _] e _ => decide (nmOf P.nm f = m) && nameB N sc i x && !c.isBor && shape e && !isLc e && chkE P N sc c e
  | .dput o k c, .Assign [.Subscript eo (.Constant (.str s) _ _) _] e _ => decide (nmOf P.nm k = s) && !o.isBor && chkE P N sc o eo && !c.isBor && shape e && !isLc e && chkE P N sc c e
  | .app i c, .Expr (.Call (.Attribute (.Name x _) m apos) [e] [] cpos) _ => decide (m = ("append" : PySem.Str)) && nameB N sc i x && (apos.endLine == cpos.line) && !c.isBor && shape e && chkE P N sc c e
  | .ext i c, .Expr (.Call (.Attribute (.Name x _) m apos) [e] [] cpos) _ => decide (m = ("extend" : PySem.Str)) && nameB N sc i x && (apos.endLine == cpos.line) && freshC P c && shape e && chkE P N sc c e
  | .setc o i c, .Assign [.Subscript eo ei _] e _ => !o.isBor && chkE P N sc o eo && !i.isBor && shape ei && chkE P N sc i ei && !c.isBor && shape e && !isLc e && chkE P N sc c e
  | .ins i cp c, .Expr (.Call (.Attribute (.Name x _) m apos) [ep, e] [] cpos) _ => decide (m = ("insert" : PySem.Str)) && nameB N sc i x && (apos.endLine == cpos.line) && !cp.isBor && shape ep && chkE P N sc cp ep && !c.isBor && shape e && chkE P N sc c e
  | .parN [(i, bi), (j, bj)] cs, .Assign [.Tuple [.Name x px, .Name y py] kt pt] (.Tuple [ea, eb] _ _) _ => decide (N[i]? = some x) && decide (N[j]? = some y) && decide (i ≠ j) && own1 [(i, bi), (j, bj)] && chkPs P N sc [(i, bi), (j, bj)] cs [ea, eb] && (parB sc x y px py ea eb || (targetB N (ownB sc) [i, j] (.Tuple [.Name x px, .Name y py] kt pt) && genB sc [.Name x px, .Name y py] [ea, eb]))
  | .parN [(i, bi), (j, bj), (l, bl)] cs, .Assign [.Tuple [.Name x px, .Name y py, .Name z pz] kt pt] (.Tuple [ea, eb, ec] _ _) _ => decide (N[i]? = some x) && decide (N[j]? = some y) && decide (N[l]? = some z) && decide (i ≠ j) && decide (i ≠ l) && decide (j ≠ l) && own1 [(i, bi), (j, bj), (l, bl)] && chkPs P N sc [(i, bi), (j, bj), (l, bl)] cs [ea, eb, ec] && (parB3 sc x y z px py pz ea eb ec || (targetB N (ownB sc) [i, j, l] (.Tuple [.Name x px, .Name y py, .Name z pz] kt pt) && genB sc [.Name x px, .Name y py, .Name z pz] [ea, eb, ec]))
  | .parN ts cs, .Assign [.Tuple tes kt pt] (.Tuple es _ _) _ => targetB N (ownB sc) (ts.map (·.1)) (.Tuple tes kt pt) && genB sc tes es && decide (ts.length ≤ 1000) && own1 ts && chkPs P N sc ts cs es
  | .parc o i j a b, .Assign [.Tuple [.Subscript eo ei _, .Name y _] _ _] (.Tuple [ea, eb] _ _) _ => setB N sc j y && !o.isBor && chkE P N sc o eo && !i.isBor && shape ei && chkE P N sc i ei && !a.isBor && shape ea && chkE P N sc a ea && !b.isBor && shape eb && chkE P N sc b eb
  | .own i c, .AnnAssign (.Name x _) _ (some e) _ _ => setB N sc i x && freshC P c && shape e && !isLc e && chkE P N sc c e
  | .popo i c, .Expr (.Call (.Attribute (.Name x _) m apos) [e] [] cpos) _ => decide (m = ("pop" : PySem.Str)) && nameB N sc i x && (apos.endLine == cpos.line) && !c.isBor && shape e && chkE P N sc c e
  | .mtch c ks, .Match e cs _ => !c.isBor && chkE P N sc c e && chkMs ks cs
  | .ex c, .Expr e _ => !c.isBor && shape e && !isLc e && chkE P N sc c e
  | .ite t a b, .If e sa sb _ => tokE e && chkE P N sc t e && chkSs a sa && chkSs b sb
  | .forN i is it body, .For t e sts [] _ => tgNB N (ownB sc) i is t && shape e && chkI P N sc it e t && chkSs body sts
  | .for tg it body, .For t e sts [] _ => targetB N (ownB sc) tg t && shape e && chkI P N sc it e t && chkSs body sts
  | .whl t body, .While e sts [] _ => tokE e && chkE P N sc t e && chkSs body sts
  | .ret c, .Return (some e) _ => (!fr && !c.isBor && chkE P N sc c e) || (fr && freshC P c && chkE P N sc c e) || (fr && (match c, e with
    | .bor i, .Name x _ => nameB N sc i x
    | _, _ => false))
  | .ret .non, .Return none _ => !fr
  | .never, _ => true
  | .pass, .Pass _ => true
  | .pass, .Expr (.Constant (.str _) _ _) _ => true
  | .brk, .Break _ => true
  | .cont, .Continue _ => true
  | _, _ => false
def chkSs : Ss → List Stmt → Bool
  | .nil, [] => true
  | .cons (.frz _) r, sts => chkSs r sts
  | .cons s r, st :: sts => chkS s st && chkSs r sts
  | _, _ => false
def chkMs : Ks → List MatchCase → Bool
  | .nil, cs => cs.isEmpty
  | .cons vs b r, ⟨p, none, body⟩ :: rest => pattB vs p && chkSs b body && chkMs r rest
  | .wild b, cs => (match wildB cs with
    | some body => chkSs b body
    | none => false)
  | _, _ => false
end
end
section
variable {P : Prg} {A : Ad} {call : Nat → List D → Store → Res D} {fd : Nat → FuncData} {lv : Nat} {N : List PySem.Str} {sc : Scope} {X : Cx} {wf : Nat} {fr : Bool}
theorem sndS0 (s : S) (st : Stmt) (cx : SCxt P A call fd lv N sc X) (h : chkS P N sc fr s st = true) (rc : ∀ (b : Ss) (sts : List Stmt), sizeOf b < sizeOf s → chkSs P N sc fr b sts = true → PSs X sts (tSs P A call X wf fr b)) : PS X st (tS P A call X wf fr s) := by
  unfold chkS at h
  split at h
  · simp only [Bool.and_eq_true] at h
    exact st_set cx h.1.1.1.1 h.1.1.1.2 h.1.1.2 h.1.2 h.2
  · simp only [Bool.and_eq_true] at h
    exact st_own cx h.1.1.1.1 h.1.1.1.2 h.1.1.2 h.1.2 h.2
  · simp only [Bool.and_eq_true] at h
    exact st_unp cx h.1.1.1.1.1 h.1.1.1.1.2 h.1.1.1.2 (by simpa using h.1.1.2) h.1.2 h.2
  · simp only [Bool.and_eq_true, decide_eq_true_eq] at h
    exact st_par cx h.1.1.1.1.1.1.1 h.1.1.1.1.1.1.2 h.1.1.1.1.1.2 h.1.1.1.1.2 h.1.1.1.2 h.1.1.2 h.1.2 h.2
  · simp only [Bool.and_eq_true, decide_eq_true_eq] at h
    exact st_fld cx h.1.1.1.1.1 h.1.1.1.1.2 h.1.1.1.2 h.1.1.2 (by simpa using h.1.2) h.2
  · simp only [Bool.and_eq_true, decide_eq_true_eq] at h
    exact st_dput cx h.1.1.1.1.1.1 h.1.1.1.1.1.2 h.1.1.1.1.2 h.1.1.1.2 h.1.1.2 (by simpa using h.1.2) h.2
  · simp only [Bool.and_eq_true, decide_eq_true_eq] at h
    exact st_app cx h.1.1.1.1.1 h.1.1.1.1.2 h.1.1.1.2 h.1.1.2 h.1.2 h.2
  · simp only [Bool.and_eq_true, decide_eq_true_eq] at h
    exact st_ext cx h.1.1.1.1.1 h.1.1.1.1.2 h.1.1.1.2 h.1.1.2 h.1.2 h.2
  · simp only [Bool.and_eq_true] at h
    obtain ⟨⟨⟨⟨⟨⟨⟨⟨h1, h2⟩, h3⟩, h4⟩, h5⟩, h6⟩, h7⟩, h8⟩, h9⟩ := h
    exact st_setc cx h1 h2 h3 h4 h5 h6 h7 (by simpa using h8) h9
  · simp only [Bool.and_eq_true, decide_eq_true_eq] at h
    obtain ⟨⟨⟨⟨⟨⟨⟨⟨h1, h2⟩, h3⟩, h4⟩, h5⟩, h6⟩, h7⟩, h8⟩, h9⟩ := h
    exact st_ins cx h1 h2 h3 h4 h5 h6 h7 h8 h9
  · simp only [Bool.and_eq_true, decide_eq_true_eq] at h
    obtain ⟨⟨⟨⟨⟨h1, h2⟩, h3⟩, h4⟩, h5⟩, h6⟩ := h
    rw [Bool.or_eq_true] at h6
    rcases h6 with h6 | h6
    · exact st_par2 cx h1 h2 h3 h6 h4 h5
    · rw [Bool.and_eq_true] at h6
      exact st_parG cx h6.1 h6.2 (Nat.le_of_ble_eq_true rfl) h4 h5
  · simp only [Bool.and_eq_true, decide_eq_true_eq] at h
    obtain ⟨⟨⟨⟨⟨⟨⟨⟨h1, h2⟩, h3⟩, h4⟩, h5⟩, h6⟩, h8⟩, h9⟩, h7⟩ := h
    rw [Bool.or_eq_true] at h7
    rcases h7 with h7 | h7
    · exact st_par3 cx h1 h2 h3 h4 h5 h6 h7 h8 h9
    · rw [Bool.and_eq_true] at h7
      exact st_parG cx h7.1 h7.2 (Nat.le_of_ble_eq_true rfl) h8 h9
  · simp only [Bool.and_eq_true, decide_eq_true_eq] at h
    obtain ⟨⟨⟨⟨h1, h2⟩, h3⟩, h4⟩, h5⟩ := h
    exact st_parG cx h1 h2 h3 h4 h5
  · simp only [Bool.and_eq_true] at h
    obtain ⟨⟨⟨⟨⟨⟨⟨⟨⟨⟨⟨h1, h2⟩, h3⟩, h4⟩, h5⟩, h6⟩, h7⟩, h8⟩, h9⟩, h10⟩, h11⟩, h12⟩ := h
    exact st_parc cx h1 h2 h3 h4 h5 h6 h7 h8 h9 h10 h11 h12
  · simp only [Bool.and_eq_true] at h
    obtain ⟨⟨⟨⟨h1, h2⟩, h3⟩, h4⟩, h5⟩ := h
    exact st_ownA cx h1 h2 h3 (by simpa using h4) h5
  · simp only [Bool.and_eq_true, decide_eq_true_eq] at h
    exact st_popo cx h.1.1.1.1.1 h.1.1.1.1.2 h.1.1.1.2 h.1.1.2 h.1.2 h.2
  · rename_i c ks e cs pos
    simp only [Bool.and_eq_true] at h
    refine st_mtch cx h.1.1 h.1.2 fun {x t pins s σ H Dn} I q => ks_run (chkB := chkSs P N sc fr) (chkM := chkMs P N sc fr) (fun cs h => ?_) (fun vs b r cs h => ?_) (fun b cs h => ?_) (sizeOf ks) ks cs true (Nat.le_refl _) h.2 (fun b sts hb hc => rc b sts (by simp; omega) hc) I q
    · simp only [chkMs] at h
      exact List.isEmpty_iff.mp h
    · cases cs with
      | nil => simp [chkMs] at h
      | cons m rest =>
        obtain ⟨p, g, body⟩ := m
        cases g with
        | some _ => simp [chkMs] at h
        | none =>
          simp only [chkMs, Bool.and_eq_true] at h
          exact ⟨p, body, rest, rfl, h.1.1, h.1.2, h.2⟩
    · simp only [chkMs] at h
      split at h
      · rename_i body hw
        obtain ⟨pos, rfl⟩ := wildB_is hw
        exact ⟨pos, body, rfl, h⟩
      · cases h
  · simp only [Bool.and_eq_true] at h
    exact st_ex cx h.1.1.1 h.1.1.2 (by simpa using h.1.2) h.2
  · simp only [Bool.and_eq_true] at h
    exact st_ite ((sndE _ cx.toCxt h.1.1.2).2 h.1.1.1) (rc _ _ (by simp; omega) h.1.2) (rc _ _ (by simp; omega) h.2)
  · simp only [Bool.and_eq_true] at h
    have hb := rc _ _ (by simp; omega) h.2
    obtain ⟨⟨⟨h1, h2⟩, h3⟩, _⟩ := h
    unfold tgNB at h1
    split at h1
    · simp only [Bool.and_eq_true, decide_eq_true_eq] at h1
      exact st_forN cx h1.1.1.1 h1.1.2 h1.1.1.2 h1.2 h2 h3 hb
    · cases h1
  · simp only [Bool.and_eq_true] at h
    exact st_for cx h.1.1.1 h.1.1.2 h.1.2 (rc _ _ (by simp; omega) h.2)
  · simp only [Bool.and_eq_true] at h
    exact st_whl cx ((sndE _ cx.toCxt h.1.2).2 h.1.1) (rc _ _ (by simp; omega) h.2)
  · rw [Bool.or_eq_true, Bool.or_eq_true] at h
    rcases h with (h | h) | h
    · simp only [Bool.and_eq_true] at h
      exact st_ret cx (by simpa using h.1.1) h.1.2 h.2
    · simp only [Bool.and_eq_true] at h
      exact st_retF cx h.1.1 h.1.2 h.2
    · rw [Bool.and_eq_true] at h
      obtain ⟨h1, h2⟩ := h
      split at h2
      · exact st_retO cx h1 h2
      · cases h2
  · exact st_retN (by simpa using h)
  · exact st_never
  · exact st_next ps_pass
  · exact st_next ps_doc
  · exact st_brk
  · exact st_cont
  · cases h
theorem sndSs_n : ∀ (n : Nat) (s : Ss) (sts : List Stmt), sizeOf s ≤ n → SCxt P A call fd lv N sc X → chkSs P N sc fr s sts = true → PSs X sts (tSs P A call X wf fr s)
  | 0, s, sts, hn, cx, h => by cases s <;> simp at hn
  | n + 1, s, sts, hn, cx, h => by
    cases s with
    | nil =>
      cases sts with
      | nil => exact ss_nil
      | cons _ _ => simp [chkSs] at h
    | cons x r =>
      have hr : sizeOf r ≤ n := by simp at hn; omega
      have hx : sizeOf x ≤ n := by simp at hn; omega
      by_cases hf : ∃ i, x = .frz i
      · obtain ⟨i, rfl⟩ := hf
        rw [chkSs] at h
        exact ss_frz (sndSs_n n r sts hr cx h)
      · cases sts with
        | nil => cases x <;> first | exact absurd ⟨_, rfl⟩ hf | simp [chkSs] at h
        | cons st sts =>
          have h' : (chkS P N sc fr x st && chkSs P N sc fr r sts) = true := by
            cases x <;> first | exact absurd ⟨_, rfl⟩ hf | simpa only [chkSs] using h
          rw [Bool.and_eq_true] at h'
          exact ss_cons (sndS0 x st cx h'.1 fun b sts' hb hc => sndSs_n n b sts' (by omega) cx hc) (sndSs_n n r sts hr cx h'.2)
theorem sndSs {s : Ss} {sts : List Stmt} (cx : SCxt P A call fd lv N sc X) (h : chkSs P N sc fr s sts = true) : PSs X sts (tSs P A call X wf fr s) := sndSs_n _ s sts (Nat.le_refl _) cx h
end
end Eng

namespace Eng
open PySem PySem.Spec PyProof.Rows L2
/-- a def of the text as the head left it -/
structure FnD where
  x : PySem.Str
  qual : PySem.Str
  params : Arguments
  body : List Stmt
  scope : Scope
/-- the check of one def -/
def chkF (P : Prg) (f : FnI) (d : FnD) : Bool := chkSs P f.N d.scope f.fresh f.body d.body && (f.init.isNone || !f.fresh) && (f.init.isNone || !hotB f.N) && (!f.star || hotB f.N)
structure Facts (P : Prg) (A : Ad) (K : PySem.W.Frag) (mg : PySem.Str → Option Value) (fd : Nat → FuncData) (dd : Nat → FnD) : Prop where
  gok : GOK P A K mg
  fun_ : ∀ j f, P.fns[j]? = some f → ∃ dvs kws, FunD K (dd j).x (dd j).qual (dd j).params (dd j).body (dd j).scope dvs kws (A.fn j) (fd j)
  scp : ∀ j f, P.fns[j]? = some f → FnScope f.N f.ps (dd j).scope
  chk : ∀ j f, P.fns[j]? = some f → chkF P f (dd j) = true
  bnd : ∀ j f, P.fns[j]? = some f → f.star = false → Binds K (fd j) f.ps []
  bns : ∀ j f, P.fns[j]? = some f → f.star = true → ∃ pv, f.ps = [pv] ∧ ∀ rest : List Value, bindArgs (fd j) ⟨rest, []⟩ = (newTuple rest >>= fun t => pure [(pv, t)])
  bnk : ∀ (j : Nat) (f : FnI), P.fns[j]? = some f → f.kw = true → ∀ (s : Shared) (us : List Value), us.length = f.ps.length → BindsTo s (fd j) ⟨[], f.ps.zip us⟩ (f.ps.zip us)
  bnF : ∀ j f ds, P.fns[j]? = some f → f.star = false → fEqs f.dfl ds = true → ds.all flat = true → f.dfl.length = ds.length → ∃ us vs, (∀ w, RDs A K w ds vs) ∧ Vals vs us ∧ Binds K (fd j) f.ps us
theorem fn_get (P : Prg) (j : Nat) : P.fn[j]? = (P.fns[j]?).map fun f => ⟨f.N.length, f.ps.length, f.body, f.init, f.fresh⟩ := by
  unfold Prg.fn
  rw [List.getElem?_map]
section
variable {P : Prg} {A : Ad} {K : PySem.W.Frag} {mg : PySem.Str → Option Value} {fd : Nat → FuncData} {dd : Nat → FnD} {wf : Nat}
theorem run_cok {n j : Nat} {ds : List D} {st st' : Store} {d : D} (e : run P.tab P.fn wf n j ds st = .ok d st') : ∃ f, P.fns[j]? = some f ∧ ((f.init = none ∧ ds.length = f.ps.length) ∨ (∃ c fs, f.init = some c ∧ d = .ins c fs ∧ ds.length + 1 = f.ps.length)) := by
  cases n with
  | zero => cases e
  | succ n =>
    unfold run at e
    rw [fn_get] at e
    cases q : P.fns[j]? with
    | none => rw [q] at e; cases e
    | some f =>
      rw [q] at e
      dsimp only [Option.map] at e
      refine ⟨f, rfl, ?_⟩
      cases hi : f.init with
      | none =>
        rw [hi] at e
        dsimp only at e
        split at e
        · rename_i hl; exact .inl ⟨rfl, hl⟩
        · cases e
      | some c =>
        rw [hi] at e
        dsimp only at e
        split at e
        · rename_i hl
          refine .inr ⟨c, ?_⟩
          unfold endI at e
          split at e
          · split at e
            · split at e
              · rename_i hc
                cases e
                exact ⟨_, rfl, rfl, hl⟩
              · cases e
            · cases e
          · cases e
          · cases e
        · cases e
/-- the slots at a def's entry -/
theorem rs_start {H0 H : Hp} {ex : Addr → Prop} {w : Wd} {N : List PySem.Str} {ds : List D} {vs : List V} (r : RDs A K w ds vs) : RS A K H0 ex w (startE N.length ds) (L2.start N vs) H where
  len := by unfold L2.start startE; simp [r.length]
  sl := fun i s q => by
    unfold startE at q
    unfold L2.start
    by_cases hi : i < ds.length
    · rw [List.getElem?_append_left (by simpa using hi), List.getElem?_map] at q
      cases z : ds[i]? with
      | none => rw [z] at q; cases q
      | some d =>
        rw [z] at q
        cases q
        obtain ⟨v, h1, h2⟩ := r.get z
        refine ⟨v, ?_, h2⟩
        rw [List.getElem?_append_left (by rw [List.length_map, ← r.length]; exact hi), List.getElem?_map, h1]
        rfl
    · rw [List.getElem?_append_right (by simpa using hi), List.getElem?_replicate] at q
      split at q <;> cases q
  ds := fun i j s t a _ q m => by
    have z : s.mine = false := by
      unfold startE at q
      by_cases hi : i < ds.length
      · rw [List.getElem?_append_left (by simpa using hi), List.getElem?_map] at q
        cases z : ds[i]? with
        | none => rw [z] at q; cases q
        | some d =>
          rw [z] at q
          cases q
          rfl
      · rw [List.getElem?_append_right (by simpa using hi), List.getElem?_replicate] at q
        split at q <;> cases q
    rw [z] at m
    cases m
theorem rs_cons {H0 H : Hp} {ex : Addr → Prop} {w : Wd} {ρ : Env} {σ : L2.St} {s : Slot} {v : V} (R : RS A K H0 ex w ρ σ H) (hs : SlotR A K H0 ex w H s v) (hn : ∀ (i : Nat) (t : Slot), ρ[i]? = some (some t) → t.mine = false) : RS A K H0 ex w (some s :: ρ) (some v :: σ) H where
  len := by simp [R.len]
  sl := fun i t q => by
    cases i with
    | zero => cases q; exact ⟨v, rfl, hs⟩
    | succ i => exact R.sl i t q
  ds := fun i j t1 t2 a hij q1 m1 q2 m2 _ _ => by
    cases i with
    | zero =>
      cases j with
      | zero => exact absurd rfl hij
      | succ j => rw [hn j t2 q2] at m2; cases m2
    | succ i => rw [hn i t1 q1] at m1; cases m1
theorem start_mine {n : Nat} {ds : List D} {i : Nat} {t : Slot} (q : (startE n ds)[i]? = some (some t)) : t.mine = false := by
  unfold startE at q
  by_cases hi : i < ds.length
  · rw [List.getElem?_append_left (by simpa using hi), List.getElem?_map] at q
    cases z : ds[i]? with
    | none => rw [z] at q; cases q
    | some d =>
      rw [z] at q
      cases q
      rfl
  · rw [List.getElem?_append_right (by simpa using hi), List.getElem?_replicate] at q
    split at q <;> cases q
theorem ini_of (F : Facts P A K mg fd dd) {j : Nat} {f : FnI} (hf : P.fns[j]? = some f) (hi : f.init.isSome = true) : hotB f.N = false := by
  have h := F.chk j f hf
  unfold chkF at h
  rw [Bool.and_eq_true] at h
  have z := (Bool.and_eq_true _ _ ▸ h.1).2
  cases q : f.init with
  | none => rw [q] at hi; cases hi
  | some c =>
    rw [q] at z
    simpa using z
theorem cold_of (F : Facts P A K mg fd dd) {j : Nat} {f : FnI} (hf : P.fns[j]? = some f) (hh : hotB f.N = false) : f.star = false := by
  have h := F.chk j f hf
  unfold chkF at h
  rw [Bool.and_eq_true] at h
  have z := h.2
  rw [hh, Bool.or_false] at z
  simpa using z
theorem sp_none {j : Nat} {f : FnI} : ∀ vs H Q E, spF A K (run P.tab P.fn wf 0) j f vs H Q E → False := fun vs H Q E h => by
  unfold spF at h
  cases hi : f.init with
  | none =>
    rw [hi] at h
    obtain ⟨_, w, ds, st, d, st', _, _, e, _⟩ := h
    cases e
  | some c =>
    rw [hi] at h
    obtain ⟨_, x, dx, vs', w, ds, st, fs, st', _, _, _, _, _, e, _⟩ := h
    cases e
theorem sp_len {n j : Nat} {f : FnI} : ∀ vs H Q E, spF A K (run P.tab P.fn wf n) j f vs H Q E → vs.length = f.ps.length := fun vs H Q E h => by
  unfold spF at h
  cases hi : f.init with
  | none => rw [hi] at h; exact h.1
  | some c => rw [hi] at h; exact h.1
theorem body_ok {prog : Program} {wd : World} {base : Heap} (F : Facts P A K mg fd dd) {n j : Nat} {f : FnI} (hf : P.fns[j]? = some f)
    (ih : (∀ j f, P.fns[j]? = some f → hotB f.N = false → FnOk prog wd K mg base CX0 (4 * n) (A.fn j) (fd j) f.ps (spF A K (run P.tab P.fn wf n) j f)) ∧ (∀ j f, P.fns[j]? = some f → FnG prog wd K mg base CX0 (4 * n) (A.fn j) (fd j) f.ps (spF A K (run P.tab P.fn wf n) j f)) ∧ (∀ (j : Nat) (f : FnI), P.fns[j]? = some f → f.star = true → FnSt prog wd K mg base (4 * n) (A.fn j) (spF A K (run P.tab P.fn wf n) j f)))
    {cdv : Value} {A' : Around} {outer : List PySem.Env} {s : Shared} {H : Hp} {vs : List V} {Q : VK} {E : XK} (hga : hotB f.N = true → A'.guards = some []) (hr : Room (4 * n + 3) (A'.deeper (envOfC (dd j).qual (dd j).scope s.heap.objs.size (A.fn j) cdv))) (hsp : spF A K (run P.tab P.fn wf (n + 1)) j f vs H Q E) :
    ∃ t, PSs (cxOf CX0 prog wd K mg base f.N (dd j).qual (dd j).scope (A.fn j) cdv A' outer s H E) (dd j).body t ∧ t { nx := fun _ H' => Q .non H', rt := Q } (start f.N vs) H := by
  refine ⟨tSs P A (run P.tab P.fn wf n) (cxOf CX0 prog wd K mg base f.N (dd j).qual (dd j).scope (A.fn j) cdv A' outer s H E) wf f.fresh f.body, ?_, ?_⟩
  · refine sndSs (fd := fd) (lv := 4 * n) (N := f.N) (sc := (dd j).scope) ?_ ?_
    · exact { sc := rfl, N := rfl, nd := (F.scp j f hf).nd, calm := rfl, room := hr, gok := F.gok, fok := fun j' f' hf' => ih.1 j' f' hf', fog := ih.2.1, fos := ih.2.2, cold := fun j' f' hf' hh => cold_of F hf' hh, gd := hga, ini := fun j' f' hf' hi' => ini_of F hf' hi', bnk := F.bnk, cok := fun j' ds' st d st' e => run_cok e, bnd := F.bnd, bnF := F.bnF, fnT := fun _ => rfl, kind := (F.scp j f hf).kind, pas := passes_of rfl }
    · have := F.chk j f hf
      unfold chkF at this
      rw [Bool.and_eq_true] at this
      rw [Bool.and_eq_true] at this
      rw [Bool.and_eq_true] at this
      exact this.1.1.1
  · have hck := F.chk j f hf
    unfold chkF at hck
    rw [Bool.and_eq_true] at hck
    unfold spF at hsp
    cases hi : f.init with
    | none =>
      rw [hi] at hsp
      obtain ⟨hl, w, ds, st, d, st', r, S, e, k⟩ := hsp
      unfold run at e
      rw [fn_get, hf] at e
      dsimp only [Option.map] at e
      rw [hi] at e
      dsimp only at e
      split at e
      · refine ⟨w, H, no, w, startE f.N.length ds, st, ⟨.refl _ _ _, S, rs_start r⟩, ?_⟩
        show KF A K f.fresh w H no w _ (evSs P.tab (run P.tab P.fn wf n) wf f.body (startE f.N.length ds) st)
        cases q : evSs P.tab (run P.tab P.fn wf n) wf f.body (startE f.N.length ds) st with
        | nx ρ st1 =>
          rw [q] at e
          unfold endF at e
          dsimp only at e
          split at e
          · cases e
          · rename_i hfr
            cases e
            exact fun σ' H' w' l' I' => k .non H' w' I'.ext I'.sr (by rw [if_neg hfr]; exact .non)
        | rt d1 st1 =>
          rw [q] at e
          cases e
          exact fun v H' w' E' S' r' => k v H' w' E' S' r'
        | bk ρ st1 => rw [q] at e; cases e
        | ct ρ st1 => rw [q] at e; cases e
        | exc k1 fs st1 => rw [q] at e; cases e
        | bad => rw [q] at e; cases e
      · cases e
    | some c =>
      rw [hi] at hsp
      obtain ⟨hl, x, dx, vs', w, ds, st, fs, st', rfl, hx, px, r, S, e, k⟩ := hsp
      unfold run at e
      rw [fn_get, hf] at e
      dsimp only [Option.map] at e
      rw [hi] at e
      dsimp only at e
      split at e
      · have hst : L2.start f.N (.ref x :: vs') = some (.ref x) :: (vs'.map some ++ List.replicate (f.N.length - 1 - vs'.length) none) := by
          unfold L2.start
          rw [List.map_cons, List.cons_append, List.length_cons]
          congr 3
          omega
        rw [hst]
        have R0 : RS A K H (fun a => a = x) w (startE (f.N.length - 1) ds) (vs'.map some ++ List.replicate (f.N.length - 1 - vs'.length) none) H := by
          have z := rs_start (H0 := H) (H := H) (ex := fun a => a = x) (N := List.replicate (f.N.length - 1) "") r
          unfold L2.start at z
          rw [List.length_replicate] at z
          exact z
        refine ⟨w, H, fun a => a = x, w, some (.self c []) :: startE (f.N.length - 1) ds, st, ⟨.refl _ _ _, S, rs_cons R0 ⟨x, dx, [], rfl, hx, .nil, px, rfl⟩ fun i t z => start_mine z⟩, ?_⟩
        show KF A K f.fresh w H (fun a => a = x) w _ (evSs P.tab (run P.tab P.fn wf n) wf f.body (some (.self c []) :: startE (f.N.length - 1) ds) st)
        cases q : evSs P.tab (run P.tab P.fn wf n) wf f.body (some (.self c []) :: startE (f.N.length - 1) ds) st with
        | nx ρ st1 =>
          rw [q] at e
          unfold endI at e
          dsimp only at e
          split at e
          · rename_i c' fs' h0
            split at e
            · rename_i hc
              subst hc
              cases e
              intro σ' H' w' l' I'
              obtain ⟨v, hv, a, dx', gs, rfl, e1, e2, e3, e4⟩ := I'.rs.sl 0 _ h0
              subst e4
              exact k H' w' gs dx' I'.ext I'.sr e1 e2 e3
            · cases e
          · cases e
        | rt d1 st1 => rw [q] at e; cases e
        | bk ρ st1 => rw [q] at e; cases e
        | ct ρ st1 => rw [q] at e; cases e
        | exc k1 fs st1 => rw [q] at e; cases e
        | bad => rw [q] at e; cases e
      · cases e
theorem FunD.okS {prog : Program} {wd : World} {base : Heap} {x qual : PySem.Str} {params : Arguments} {body : List Stmt} {scope : Scope} {dvs : List V} {kws : List (PySem.Str × V)} {f : Addr} {fd : FuncData} {N : List PySem.Str} {pv : PySem.Str} {k : Nat} {sp : Sp} (F : FunD K x qual params body scope dvs kws f fd) (S : FnScope N [pv] scope)
    (hb : ∀ rest : List Value, bindArgs fd ⟨rest, []⟩ = (newTuple rest >>= fun t => pure [(pv, t)]))
    (hbody : ∀ (cdv : Value) (A : Around) (outer : List PySem.Env) (s : Shared) (H : Hp) (vs : List V) (Q : VK) (E : XK), A.guards = some [] → Room k (A.deeper (envOfC qual scope s.heap.objs.size f cdv)) → sp vs H Q E →
      ∃ t, PSs (cxOf CX0 prog wd K mg base N qual scope f cdv A outer s H E) body t ∧ t { nx := fun _ H' => Q .non H', rt := Q } (start N vs) H) : FnSt prog wd K mg base (k + 1) f sp := by
  obtain ⟨oc, od, dV, kV, doc, pm, an, cdv, ct, osl, rfl, lk, hcd, _, _⟩ := F.ex
  intro A' outer s H us vs Q E hga hr e0 r hsp
  obtain ⟨hz, hq⟩ := hsp
  have hn : H s.heap.objs.size = Option.none := e0.hok.fresh (Nat.le_refl _)
  have hl2 : us.length ≤ sizeLine := by rw [← r.length, sizeLine_eq]; omega
  have hl3 : vs.length ≤ sizeLine := by rw [sizeLine_eq]; omega
  refine StX.run_bnd lk hcd S hr e0 (G := fun xs H2 => ∃ p, H p = Option.none ∧ xs = [V.ref p] ∧ H2 = upd H p (.tup vs)) (fun A'' Ex Q' h => ?_) fun s2 H2 xs ⟨p, hp, ex, eH⟩ hr' => ?_
  · rw [hb us]
    refine wpAny_bind (wpAny_newTuple (wpAny_pure ?_) hl2)
    have new : ObjOk prog wd (upd H s.heap.objs.size (.tup vs)) (s.heap.push ({ cls := .type "tuple", data := .seq us.toArray } : Obj)) s.heap.objs.size (.tup vs) := ⟨hl3, us, r, ⟨_, Heap.get?_push_size _ rfl, rfl, _, rfl⟩⟩
    have un := StX.un_laid (fs := frs outer) (s := s) (o := ({ cls := .type "tuple", data := .seq us.toArray } : Obj)) (u := .tup vs) hn
    exact h _ _ [V.ref s.heap.objs.size] [Value.ref s.heap.objs.size] (StX.env0_laid e0 new) un rfl (fun e s' z => z) (.cons rfl .nil) rfl ⟨_, hn, rfl, rfl⟩
  · subst ex eH
    exact hbody cdv A' outer s2 _ _ Q E hga hr' (hq p hp)
theorem fns_ok {prog : Program} {wd : World} {base : Heap} (F : Facts P A K mg fd dd) : ∀ n : Nat, (∀ j f, P.fns[j]? = some f → hotB f.N = false → FnOk prog wd K mg base CX0 (4 * n) (A.fn j) (fd j) f.ps (spF A K (run P.tab P.fn wf n) j f)) ∧ (∀ j f, P.fns[j]? = some f → FnG prog wd K mg base CX0 (4 * n) (A.fn j) (fd j) f.ps (spF A K (run P.tab P.fn wf n) j f)) ∧ (∀ (j : Nat) (f : FnI), P.fns[j]? = some f → f.star = true → FnSt prog wd K mg base (4 * n) (A.fn j) (spF A K (run P.tab P.fn wf n) j f))
  | 0 => ⟨fun j f _ _ => ⟨fun vs H Q E h => (sp_none vs H Q E h).elim, fun A' outer s H args us vs Q E _ _ _ _ h => (sp_none vs H Q E h).elim⟩, fun j f _ => ⟨fun vs H Q E h => (sp_none vs H Q E h).elim, fun A' outer s H args us vs Q E _ _ _ _ _ h => (sp_none vs H Q E h).elim⟩, fun j f _ _ A' outer s H us vs Q E _ _ e0 _ h => (sp_none _ _ Q E (h.2 s.heap.objs.size (e0.hok.fresh (Nat.le_refl _)))).elim⟩
  | n + 1 => by
    have ih := fns_ok (prog := prog) (wd := wd) (base := base) F n
    refine ⟨fun j f hf hc => ?_, fun j f hf => ?_, fun j f hf hs => ?_⟩
    · obtain ⟨dvs, kws, FD⟩ := F.fun_ j f hf
      exact FunD.ok (k := 4 * n + 3) FD (F.scp j f hf) sp_len fun cdv A' outer s H vs Q E hr hsp => body_ok F hf ih (fun z => by rw [hc] at z; cases z) hr hsp
    · obtain ⟨dvs, kws, FD⟩ := F.fun_ j f hf
      exact FunD.okG (k := 4 * n + 3) FD (F.scp j f hf) sp_len fun cdv A' outer s H vs Q E hga hr hsp => body_ok F hf ih (fun _ => hga) hr hsp
    · obtain ⟨dvs, kws, FD⟩ := F.fun_ j f hf
      obtain ⟨pv, hp, hb⟩ := F.bns j f hf hs
      have sc := F.scp j f hf
      rw [hp] at sc
      exact FunD.okS (k := 4 * n + 3) FD sc hb fun cdv A' outer s H vs Q E hga hr hsp => body_ok F hf ih (fun _ => hga) hr hsp
end
end Eng

/-! The head's facts, told by one Bool over the part of the heap that the names reach. -/
namespace Eng
open PySem PySem.Spec PyProof.Rows L2
/-- where a def stands -/
inductive Pth where
  | glo (x : PySem.Str)
  | mt (c m : PySem.Str)
  | pr (c m : PySem.Str)
def Pth.at_ (p : Pth) (K : PySem.W.Frag) : Addr := match p with
  | .glo x => He.ga K x
  | .mt c m => He.ma K (He.ga K c) m
  | .pr c m => (match PySem.W.recIn K (He.ma K (He.ga K c) m) "property" with
    | some (.ref g :: _) => g
    | _ => 0)
def adOf (P : Prg) (ps : List Pth) (K : PySem.W.Frag) : Ad where
  cls := fun c => match P.cls[c]? with
    | some k => He.ga K k.name
    | none => 0
  fn := fun j => match ps[j]? with
    | some p => p.at_ K
    | none => 0
  nm := nmOf P.nm
def allI {α : Type} (l : List α) (f : Nat → α → Bool) : Bool := (List.range l.length).all fun i => match l[i]? with
  | some a => f i a
  | none => true
theorem allI_ok {α : Type} {l : List α} {f : Nat → α → Bool} (h : allI l f = true) : ∀ i a, l[i]? = some a → f i a = true := fun i a q => by
  have hi : i < l.length := (List.getElem?_eq_some_iff.mp q).1
  have z : (match l[i]? with
    | some a => f i a
    | none => true) = true := List.all_eq_true.mp h i (List.mem_range.mpr hi)
  rw [q] at z
  exact z
def isGl (K : PySem.W.Frag) (x : PySem.Str) (a : Addr) : Bool := He.eqO (PySem.W.nsIn K mainGlobals x) (some (some (.ref a)))
def ops3 : List Operator := [.Add, .Sub, .Mult]
def methB (K : PySem.W.Frag) (C : Addr) (m : PySem.Str) (f : Addr) : Bool := He.eqO (PySem.W.findIn K (.ref C) m) (some (some (.ref f))) && (PySem.W.isFn K (.ref f) && PySem.W.keepIn K (.ref f))
def propB (K : PySem.W.Frag) (C : Addr) (m : PySem.Str) (g : Addr) : Bool := match PySem.W.findIn K (.ref C) m with
  | some (some (.ref p)) => He.eqO (PySem.W.specialIn K (.ref p) "__get__") (some (some (.builtin "property.__get__"))) && (decide (PySem.W.takesIn K (.ref p) = some true) && (match PySem.W.recIn K p "property" with
    | some (.ref g' :: _) => decide (g' = g)
    | _ => false))
  | _ => false
def clsB (P : Prg) (A : Ad) (K : PySem.W.Frag) (c : Nat) (k : ClsI) : Bool := [isGl K k.name (A.cls c), PySem.W.plainGet K (A.cls c) Str.empty, PySem.W.hasDictIn K (A.cls c), PySem.W.plainOver K (A.cls c), He.eqO (PySem.W.findIn K (.ref (A.cls c)) "__setattr__") (some (some (.builtin "object.__setattr__"))),
  PySem.W.makesIn K (A.cls c), He.eqO (PySem.W.findIn K (.ref (A.cls c)) "__init__") (some (some (.ref (A.fn k.init)))), PySem.W.isFn K (.ref (A.fn k.init)), PySem.W.keepIn K (.ref (A.cls c)), PySem.W.selfFirst K (A.cls c),
  k.meth.all (fun q => methB K (A.cls c) (A.nm q.1) (A.fn q.2)), k.prop.all (fun q => propB K (A.cls c) (A.nm q.1) (A.fn q.2)), k.flds.all (fun f => He.eqO (PySem.W.findIn K (.ref (A.cls c)) (A.nm f)) (some none)),
  ops3.all (fun op => match PySem.W.findIn K (.ref (A.cls c)) (dunderR op.info.2) with
    | some none => true
    | some (some (.ref _)) => true
    | _ => false), decide (PySem.W.subIn K (.type "int") (.ref (A.cls c)) = some false), decide (PySem.W.subIn K (.ref (A.cls c)) (.type "int") = some false), decide (PySem.W.subIn K (.ref (A.cls c)) (.type "object") = some true),
  He.eqO (PySem.W.findIn K (.ref (A.cls c)) "__ne__") (some (some (.builtin "object.__ne__"))), tyStr.all (fun n => decide (PySem.W.kitOne K (.ref (A.cls c)) (.type n) = some false)), ("NoneType" :: tyStr).all (fun n => decide (PySem.W.kitOne K (.type n) (.ref (A.cls c)) = some false)),
  He.eqO (PySem.W.findIn K (.ref (A.cls c)) "__class__") (some (some (.builtin "object.__class__"))), He.eqO (PySem.W.specialIn K (.builtin "object.__class__") "__get__") (some (some (.builtin "getset_descriptor.__get__"))), decide (PySem.W.takesIn K (.builtin "object.__class__") = some true), decide (PySem.W.mroIn K (A.cls c) (.type "object") = some true),
  (k.meth ++ k.prop).all (fun q => match P.fns[q.2]? with
    | some f => f.init.isNone && !hotB f.N
    | none => true)].all id
theorem look_mem {m j : Nat} : ∀ {l : List (Nat × Nat)}, l.lookup m = some j → (m, j) ∈ l
  | [], h => by cases h
  | (a, b) :: r, h => by
    simp only [List.lookup] at h
    split at h
    · rename_i e
      have : m = a := by simpa using e
      cases h
      rw [this]
      exact List.mem_cons_self
    · exact List.mem_cons_of_mem _ (look_mem h)
section
variable {P : Prg} {K : PySem.W.Frag} {h : Heap} {mg : PySem.Str → Option Value} {A : Ad}
theorem gl_ok (X : K.In h) (G : h.Ns mainGlobals mg) {x : PySem.Str} {a : Addr} (c : isGl K x a = true) : mg x = some (.ref a) := PySem.W.mg_of X G (He.eqO_ok c)
theorem meth_okB {C f : Addr} {m : PySem.Str} (c : methB K C m f = true) : Meth K C m f := by
  obtain ⟨c1, c⟩ := He.ba c
  obtain ⟨c2, c3⟩ := He.ba c
  exact ⟨He.eqO_ok c1, c2, c3⟩
theorem prop_okB {C g : Addr} {m : PySem.Str} (c : propB K C m g = true) : ∃ p, PropOf K C m p g := by
  unfold propB at c
  split at c
  · rename_i p e
    obtain ⟨c1, c⟩ := He.ba c
    obtain ⟨c2, c3⟩ := He.ba c
    split at c3
    · rename_i g' rest e2
      have : g' = g := of_decide_eq_true c3
      subst this
      exact ⟨p, e, He.eqO_ok c1, of_decide_eq_true c2, rest, e2⟩
    · cases c3
  · cases c
theorem cls_okB (X : K.In h) (G : h.Ns mainGlobals mg) {c : Nat} {k : ClsI} (hh : clsB P A K c k = true) : ClsOK P A K mg c k := by
  unfold clsB at hh
  simp only [List.all_cons, List.all_nil, Bool.and_true, id, Bool.and_eq_true] at hh
  obtain ⟨h1, h2, h3, h4, h5, h6, h7, h8, h9, h10, h11, h12, h13, h14, h15, h16, h17, h18, h19, h20, h21, h22, h23, h24, h25⟩ := hh
  have cl : L2.Cls K (A.cls c) := ⟨h2, h3, h4, He.eqO_ok h5⟩
  refine { gl := gl_ok X G h1, cl := cl, mkr := ⟨h6, He.eqO_ok h7, h8, h9⟩, sf := h10, me := fun m j q => meth_okB (List.all_eq_true.mp h11 _ (look_mem q)), pr := fun m j q => prop_okB (List.all_eq_true.mp h12 _ (look_mem q)), na := fun f q => He.eqO_ok (List.all_eq_true.mp h13 f (by simpa using q)), mi := fun m j f q1 q2 => ?_, qi := fun m j f q1 q2 => ?_, rr := fun op ho => ?_, si := of_decide_eq_true h15, is := of_decide_eq_true h16, so := of_decide_eq_true h17, ne := He.eqO_ok h18, ty := fun H a dx fs e => .ins e cl (He.eqO_ok h21) (He.eqO_ok h22) (of_decide_eq_true h23) (of_decide_eq_true h24), k1 := fun n hn => ?_, k2 := fun n hn => ?_ }
  · have z := List.all_eq_true.mp h25 _ (List.mem_append_left _ (look_mem q1))
    dsimp only at z
    rw [q2] at z
    rw [Bool.and_eq_true] at z
    exact ⟨Option.isNone_iff_eq_none.mp z.1, by simpa using z.2⟩
  · have z := List.all_eq_true.mp h25 _ (List.mem_append_right _ (look_mem q1))
    dsimp only at z
    rw [q2] at z
    rw [Bool.and_eq_true] at z
    exact ⟨Option.isNone_iff_eq_none.mp z.1, by simpa using z.2⟩
  · simp only [ops3, List.all_cons, List.all_nil, Bool.and_true, Bool.and_eq_true] at h14
    have z : (match PySem.W.findIn K (.ref (A.cls c)) (dunderR op.info.2) with
      | some none => true
      | some (some (.ref _)) => true
      | _ => false) = true := by
      rcases ho with rfl | rfl | rfl
      · exact h14.1
      · exact h14.2.1
      · exact h14.2.2
    split at z
    · rename_i e
      exact ⟨none, e, .inl rfl⟩
    · rename_i g e
      exact ⟨_, e, .inr ⟨g, rfl⟩⟩
    · cases z
  · have z := List.all_eq_true.mp h19 n hn
    exact of_decide_eq_true z
  · have hh : (("NoneType" :: tyStr).all fun n => decide (PySem.W.kitOne K (.type n) (.ref (A.cls c)) = some false)) = true := by
      simp only [List.all_cons, Bool.and_eq_true]
      exact h20
    exact of_decide_eq_true (List.all_eq_true.mp hh n hn)
def spNames : List PySem.Str := ["__add__", "__radd__", "__sub__", "__rsub__", "__mul__", "__rmul__", "__neg__", "__abs__", "__bool__", "__eq__"]
/-- what does not look at the heap -/
def chkP (P : Prg) (ps : List Pth) : Bool := nmOk P.nm && (decide (P.nm.take 10 = spNames) && allI P.fns fun j f => match f.glob with
  | some x => (match ps[j]? with
    | some (.glo y) => decide (y = x)
    | _ => false)
  | none => true)
/-! the module's own constants -/
mutual
def valB (K : PySem.W.Frag) : D → Value → Bool
  | .int i, .int j _ => decide (i = j)
  | .bl a, .bool b => a == b
  | .non, .none => true
  | .str s, .str t _ => decide (s = t)
  | .tup xs, .ref a => (match K.lookup a with
    | some ⟨.type n, _, .seq its _, _⟩ => decide (n = "tuple") && decide (its.size ≤ 1000000) && valsB K xs its.toList
    | _ => false)
  | _, _ => false
def valsB (K : PySem.W.Frag) : List D → List Value → Bool
  | [], [] => true
  | d :: r, u :: s => valB K d u && valsB K r s
  | _, _ => false
end
mutual
theorem val_ok {A : Ad} {K : PySem.W.Frag} : ∀ {d : D} {u : Value}, valB K d u = true → ∃ v, RelV v u ∧ ∀ w, RD A K w d v
  | .int i, u, h => by
    cases u <;> simp only [valB, decide_eq_true_eq] at h <;> try cases h
    exact ⟨.int i, ⟨_, rfl⟩, fun _ => .int i⟩
  | .bl a, u, h => by
    cases u <;> simp only [valB, beq_iff_eq] at h <;> try cases h
    exact ⟨.bl a, rfl, fun _ => .bl a⟩
  | .non, u, h => by
    cases u <;> simp only [valB] at h <;> try cases h
    exact ⟨.non, rfl, fun _ => .non⟩
  | .str s, u, h => by
    cases u <;> simp only [valB, decide_eq_true_eq] at h <;> try cases h
    exact ⟨.str s, ⟨_, rfl⟩, fun _ => .str s⟩
  | .tup xs, u, h => by
    cases u with
    | ref a =>
      simp only [valB] at h
      split at h
      · rename_i n dd its m sl hk
        simp only [Bool.and_eq_true, decide_eq_true_eq] at h
        obtain ⟨⟨h1, h2⟩, h3⟩ := h
        obtain ⟨vs, r1, r2⟩ := vals_ok (A := A) h3
        subst h1
        exact ⟨.ref a, rfl, fun w => .tup (.inr ⟨_, its, m, hk, rfl, rfl, by rw [sizeLine_eq]; omega, r1⟩) (r2 w)⟩
      · cases h
    | _ => simp [valB] at h
  | .lst _, u, h => by cases u <;> simp [valB] at h
  | .ins _ _, u, h => by cases u <;> simp [valB] at h
  | .fn _, u, h => by cases u <;> simp [valB] at h
  | .ref _, u, h => by cases u <;> simp [valB] at h
theorem vals_ok {A : Ad} {K : PySem.W.Frag} : ∀ {ds : List D} {us : List Value}, valsB K ds us = true → ∃ vs, Vals vs us ∧ ∀ w, RDs A K w ds vs
  | [], [], _ => ⟨[], .nil, fun _ => .nil⟩
  | [], _ :: _, h => by simp [valsB] at h
  | _ :: _, [], h => by simp [valsB] at h
  | d :: r, u :: s, h => by
    simp only [valsB, Bool.and_eq_true] at h
    obtain ⟨v, h1, h2⟩ := val_ok (A := A) h.1
    obtain ⟨vs, h3, h4⟩ := vals_ok (A := A) h.2
    exact ⟨v :: vs, .cons h1 h3, fun w => .cons (h2 w) (h4 w)⟩
end
def mcOf (K : PySem.W.Frag) (C : Addr) : Value := (PySem.W.typeIn K (.ref C)).getD .none
def ccsB (K : PySem.W.Frag) (C : Addr) (f : PySem.Str) (d : D) : Bool := PySem.W.readsIn K C (.type "type") && (match PySem.W.findCls K (.ref C) (.type "type") f with
  | some (.val u) => valB K d u
  | _ => false)
theorem cread_ok {K : PySem.W.Frag} {C : Addr} (h0 : PySem.W.readsIn K C (.type "type") = true) : ClX.CRead K C (.type "type") := by
  refine ⟨h0, ?_⟩
  have h := h0
  unfold PySem.W.readsIn at h
  obtain ⟨h, _⟩ := He.ba h
  obtain ⟨h, _⟩ := He.ba h
  obtain ⟨h, h3⟩ := He.ba h
  obtain ⟨_, h2⟩ := He.ba h
  unfold PySem.W.specialIn
  rw [beq_iff_eq.mp h2, Option.bind_some]
  exact beq_iff_eq.mp h3
theorem ccs_ok {A : Ad} {K : PySem.W.Frag} {C : Addr} {f : PySem.Str} {d : D} (h : ccsB K C f d = true) : ∃ mc u v, ClX.CRead K C mc ∧ ClX.CVal K C mc f v u ∧ ∀ w, RD A K w d v := by
  unfold ccsB at h
  obtain ⟨h1, h⟩ := He.ba h
  split at h
  · rename_i u e
    obtain ⟨v, r1, r2⟩ := val_ok (A := A) h
    exact ⟨_, u, v, cread_ok h1, ⟨e, r1⟩, r2⟩
  · cases h
def conB (K : PySem.W.Frag) (p : PySem.Str × D) : Bool := match PySem.W.nsIn K mainGlobals p.1 with
  | some (some u) => valB K p.2 u
  | _ => false
def exB (P : Prg) (ps : List Pth) (K : PySem.W.Frag) : Bool :=
  (P.ccs.all fun q => ccsB K ((adOf P ps K).cls q.1) q.2.1 q.2.2) && ((P.con.all fun p => conB K p) && ((P.blt.all fun x => He.eqO (PySem.W.nsIn K mainGlobals x) (some none)) && ((allI P.fns fun j f => PySem.W.keepIn K (.ref ((adOf P ps K).fn j)) && (match f.glob with
    | some x => isGl K x ((adOf P ps K).fn j)
    | none => true)) && ((allI P.cls fun c k => clsB P (adOf P ps K) K c k) && (ops3.all fun op => match PySem.W.findIn K (.type "int") (PySem.dunder op.info.2), PySem.W.findIn K (.type "int") (dunderR op.info.2) with
    | some fo, some ro => (fo.isSome && !isSeqSlot fo) || (ro.isSome && !isSeqSlot ro)
    | _, _ => false)))))
theorem gok_of {ps : List Pth} (X : K.In h) (G : h.Ns mainGlobals mg) (hp : chkP P ps = true) (hx : exB P ps K = true) : GOK P (adOf P ps K) K mg := by
  unfold chkP at hp
  obtain ⟨p1, p2⟩ := He.ba hp
  obtain ⟨p2, p3⟩ := He.ba p2
  unfold exB at hx
  obtain ⟨xc, hx⟩ := He.ba hx
  obtain ⟨x0, hx⟩ := He.ba hx
  obtain ⟨x1, hx⟩ := He.ba hx
  obtain ⟨x2, hx⟩ := He.ba hx
  obtain ⟨x3, x4⟩ := He.ba hx
  have hn : P.nm.take 10 = spNames := of_decide_eq_true p2
  have nmi : ∀ i (s : PySem.Str), spNames[i]? = some s → nmOf P.nm i = s := fun i s q => by
    rw [← hn] at q
    unfold nmOf
    rw [List.getElem?_take] at q
    split at q
    · rw [q]
    · cases q
  refine { nm := ⟨nmOf_inj p1, nmi 0 _ rfl, nmi 1 _ rfl, nmi 2 _ rfl, nmi 3 _ rfl, nmi 4 _ rfl, nmi 5 _ rfl, nmi 6 _ rfl, nmi 7 _ rfl, nmi 8 _ rfl, nmi 9 _ rfl⟩, nmE := fun _ => rfl, free := fun x q => PySem.W.mg_none_of X G (He.eqO_ok (List.all_eq_true.mp x1 x (by simpa using q))), gfn := fun j f x hf hg => ?_, keep := fun j f hf => (He.ba (allI_ok x2 j f hf)).1, cls := fun c k hk => cls_okB X G (allI_ok x3 c k hk), con := fun k p hk => ?_, ccs := fun k q hk => ccs_ok (List.all_eq_true.mp xc q (List.mem_of_getElem? hk)), iops := fun op ho => ?_ }
  · have z := (He.ba (allI_ok x2 j f hf)).2
    rw [hg] at z
    exact gl_ok X G z
  · have z := List.all_eq_true.mp x0 p (List.mem_of_getElem? hk)
    unfold conB at z
    split at z
    · rename_i u e
      obtain ⟨v, h1, h2⟩ := val_ok (A := adOf P ps K) z
      exact ⟨u, v, PySem.W.mg_of X G e, h1, h2⟩
    · cases z
  · simp only [ops3, List.all_cons, List.all_nil, Bool.and_true, Bool.and_eq_true] at x4
    have z : (match PySem.W.findIn K (.type "int") (PySem.dunder op.info.2), PySem.W.findIn K (.type "int") (dunderR op.info.2) with
      | some fo, some ro => (fo.isSome && !isSeqSlot fo) || (ro.isSome && !isSeqSlot ro)
      | _, _ => false) = true := by
      rcases ho with rfl | rfl | rfl
      · exact x4.1
      · exact x4.2.1
      · exact x4.2.2
    split at z
    · rename_i fo ro e1 e2
      exact ⟨fo, ro, e1, e2, z⟩
    · cases z
end
/-! ### the Hook -/
abbrev AlZ : Type := Bool × List He5.FnW
def obsZ (n : List Addr) (ex : PySem.W.Frag → Bool) (fn : List He5.DefA) (g : Addr → Option Obj) : AlZ :=
  (ex (He.frG g n) && fn.all (fun d => d.ok (He.frG g n)), fn.map fun d => He5.fnA (He.frG g n) (d.at_ (He.frG g n)))
structure SaysZ (ex : PySem.W.Frag → Bool) (fn : List He5.DefA) (K : PySem.W.Frag) : Prop where
  more : ex K = true
  ok : ∀ d ∈ fn, d.ok K = true
  at_ : (fn.map fun d => He5.fnA K (d.at_ K)) = fn.map He5.DefA.val
theorem saysZ_of {n : List Addr} {ex : PySem.W.Frag → Bool} {fn : List He5.DefA} {h : Heap} (e : obsZ n ex fn h.get? = (true, fn.map He5.DefA.val)) : SaysZ ex fn (He.frG h.get? n) := by
  have e1 := congrArg (fun z : AlZ => z.1) e
  have e2 := congrArg (fun z : AlZ => z.2) e
  obtain ⟨h1, h2⟩ := He.ba e1
  exact ⟨h1, fun d hd => List.all_eq_true.mp h2 d hd, e2⟩
def hookZ (n : List Addr) (ex : PySem.W.Frag → Bool) (fn : List He5.DefA) : PySem.W.Hook where
  α := AlZ
  obs := fun s => obsZ n ex fn s.heap.get?
  val := fun _ => (true, fn.map He5.DefA.val)
  says := fun _ h => ∃ K : PySem.W.Frag, K.In h ∧ SaysZ ex fn K
  of := fun _ _ e => ⟨_, He.frG_in, saysZ_of e⟩
  keeps := fun _ _ _ ⟨K, hK, c⟩ k => ⟨K, PySem.W.Frag.In.keeps hK k, c⟩
theorem obsZ_eq {n : List Addr} {ex : PySem.W.Frag → Bool} {fn : List He5.DefA} {g : Addr → Option Obj} {s : Shared} (h : ∀ a, g a = s.heap.get? a) : obsZ n ex fn g = (hookZ n ex fn).obs s := by
  have e : g = s.heap.get? := funext h
  rw [e] <;> rfl
theorem SaysZ.def_ {ex : PySem.W.Frag → Bool} {fn : List He5.DefA} {K : PySem.W.Frag} (c : SaysZ ex fn K) {i : Nat} {d : He5.DefA} (h : fn[i]? = some d) : ∃ fd, L2.FunD K d.name d.qual d.params d.body d.scope (d.dvs K) (d.kws K) (d.at_ K) fd := by
  have e2 : (fn.map fun d => He5.fnA K (d.at_ K))[i]? = (fn.map He5.DefA.val)[i]? := by rw [c.at_]
  rw [List.getElem?_map, List.getElem?_map, h] at e2
  exact He5.DefA.funD (Option.some.inj e2) (c.ok d (List.mem_of_getElem? h))
end Eng

/-! The law's own call, by a promise that asks that no repr runs around. -/
namespace Eng
open PySem PySem.Spec PyProof.Rows L2
theorem lawG {P : Program} {w : World} {K : PySem.W.Frag} {mg mb : PySem.Str → Option Value} {CX : CXT} {k : Nat} {fa a : Addr} {fd : FuncData} {x : PySem.Str} {sp : Sp} {s1 : Shared} {vs : List Value} {ns : List Int}
    (KX : K.In s1.heap) (hns : s1.heap.Ns mainGlobals mg) (hbl : s1.heap.Ns builtinsNs mb) (hbb : ∀ y : PySem.Str, y ≠ "__name__" → mb y = bootBuiltins y) (hlm : s1.heap.NoLimit) (hge : s1.gens = #[])
    (hat : s1.heap.get? a = some { cls := .type "list", data := .seq vs.toArray }) (hin : IntsAre vs ns) (hsz : ns.length ≤ sizeLine) (hro : Room k callerA)
    (F : ∀ base : Heap, K.In base → base.Ns mainGlobals mg → FnG P w K mg base CX k fa fd [x] sp) (hbd : ∀ (s : Shared) (u : Value), BindsTo s fd ⟨[u], []⟩ [(x, u)])
    (hsp : ∀ H : Hp, Only H → SqL K H a (ns.map V.int) → sp [.ref a] H (fun v _ => v = .bl true) fun _ _ _ => False)
    (hCX : ∀ H e s', CX [] H s1 (fun _ _ _ => False) e s' → False) :
    codeAny (model P w) callerA (.call (.ref fa) ⟨[.ref a], []⟩) (fun out s' => out = .ok (.ret (.bool true)) ∧ OldK s1.heap s'.heap ∧ s'.os = s1.os ∧ AllBare s'.gens) s1 := by
  have hvs := vals_ints hin
  have hvl := hin.length
  have main : ∀ T : Hp, Only T → SqL K T a (ns.map V.int) → HOk P w T s1.heap → (∀ b, T b ≠ none → b = a) → (T a ≠ none → K.lookup a = none) →
      codeAny (model P w) callerA (.call (.ref fa) ⟨[.ref a], []⟩) (fun out s' => out = .ok (.ret (.bool true)) ∧ OldK s1.heap s'.heap ∧ s'.os = s1.os ∧ AllBare s'.gens) s1 := by
    intro T only sq hok sole noK
    have isNone : ∀ {b : Addr}, b ≠ a → T b = none := fun {b} ne => by
      cases z : T b with
      | none => rfl
      | some u => exact absurd (sole b (by rw [z]; exact Option.some_ne_none u)) ne
    have keepB : ∀ {b : Addr} {o : Obj}, s1.heap.get? b = some o → T b = none → (hidT s1.heap T).get? b = some o := fun z nn => hidT_get z nn
    have dictN : ∀ {b : Addr} {o : Obj} {es : Array DictEntry} {ep : Nat}, s1.heap.get? b = some o → o.data = .dict es ep → T b = none := by
      intro b o es ep z dd
      refine isNone fun eq => ?_
      rw [eq, hat] at z
      obtain rfl := Option.some.inj z
      cases (show Data.seq vs.toArray _ = Data.dict es ep from dd)
    have nsB : ∀ {b : Addr} {m : PySem.Str → Option Value}, s1.heap.Ns b m → (hidT s1.heap T).Ns b m := by
      rintro b m ⟨o, es, ep, z, dd, rest⟩
      exact ⟨o, es, ep, keepB z (dictN z dd), dd, rest⟩
    have inB : K.In (hidT s1.heap T) := by
      intro b o z
      refine keepB (KX b o z) ?_
      cases q : T b with
      | none => rfl
      | some u =>
        have eq : b = a := sole b (by rw [q]; exact Option.some_ne_none u)
        rw [eq] at z q
        rw [noK (by rw [q]; exact Option.some_ne_none u)] at z
        cases z
    have modB : Mod K mg (hidT s1.heap T) := ⟨inB, nsB hns, ⟨mb, nsB hbl, hbb⟩, by obtain ⟨mc, q1, q2⟩ := hlm; exact ⟨mc, nsB q1, q2⟩⟩
    have env : Env0 P w K mg (hidT s1.heap T) callerA [] s1 T := ⟨rfl, modB, fun b o z => of_hidT z, Nat.le_of_eq (hidT_size _ _), trivial, fun b z => (List.not_mem_nil (show b ∈ ([] : List Addr) from z)).elim, hok, .of_eq hge⟩
    refine codeAny_mono ((F _ inB (nsB hns)).run callerA [] s1 T ⟨[.ref a], []⟩ [.ref a] [.ref a] _ _ rfl hro env (hbd s1 (.ref a)) (.cons rfl .nil) (hsp T only sq)) fun out s' post => ?_
    match out, post with
    | .error ev, post => exact (hCX T ev s' post).elim
    | .ok .next, post => exact post.elim
    | .ok .brk, post => exact post.elim
    | .ok .cont, post => exact post.elim
    | .ok (.ret u), post =>
      obtain ⟨v, T', os, bare, un, hok', rel, hv⟩ := post
      obtain rfl : v = .bl true := hv
      obtain rfl : u = Value.bool true := rel
      refine ⟨rfl, OldK.of_keep fun b o z => ?_, os, bare⟩
      cases q : T b with
      | none => exact un.keep b o z q (fun y => List.not_mem_nil (show b ∈ ([] : List Addr) from y)) (List.not_mem_nil)
      | some u =>
        rcases only b with y | ⟨ob, xs, y⟩
        · rw [q] at y
          cases y
        · obtain ⟨g1, _⟩ := hok b _ y
          obtain ⟨g2, _⟩ := hok' b _ (un.frzs b ob _ y)
          rw [z] at g1
          cases g1
          exact g2
  cases hk : K.lookup a with
  | some o =>
    have z := KX a o hk
    rw [hat] at z
    obtain rfl := Option.some.inj z
    exact main (fun _ => none) (fun _ => .inl rfl) (.inr ⟨_, vs.toArray, _, hk, rfl, rfl, rfl, by rw [List.size_toArray, hvl]; exact hsz, by simpa using hvs⟩) (fun b u y => by cases (show (none : Option HO) = some u from y)) (fun b y => (y rfl).elim) fun y => (y rfl).elim
  | none =>
    refine main (fun b => if b = a then some (.frz { cls := .type "list", data := .seq vs.toArray } (.lst (ns.map V.int))) else none) (fun b => ?_) (.inl (.inr ⟨{ cls := .type "list", data := .seq vs.toArray }, if_pos rfl⟩)) (fun b u y => ?_) (fun b y => ?_) fun _ => hk
    · by_cases eq : b = a
      · exact .inr ⟨_, _, if_pos eq⟩
      · exact .inl (if_neg eq)
    · by_cases eq : b = a
      · have y' := (if_pos eq).symm.trans y
        cases y'
        subst eq
        exact ⟨hat, by rw [List.length_map]; exact hsz, vs, _, hvs, hat⟩
      · have y' := (if_neg eq).symm.trans y
        cases y'
    · by_cases eq : b = a
      · exact eq
      · exact absurd (if_neg eq) y
theorem walkG {l : PySem.W.OpenLaw} {n k : Nat} {q : Program} {loose : List PySem.Str} {XP : (PySem.Str → Option Value) → Heap → Prop} {YP : World → Heap → Prop} {d : DefRec} {CX : CXT} {x : PySem.Str}
    (hmost : l.most = some n) (hn : n ≤ sizeLine) (hdfl : d.params.defaults = []) (hro : Room k callerA)
    (F : ∀ (w : World) (mg : PySem.Str → Option Value) (fa : Addr) (h : Heap), YP w h → h.Ns mainGlobals mg → mg d.name = some (.ref fa) →
      ∃ (K : PySem.W.Frag) (fd : FuncData) (sp : Sp), K.In h ∧ (∀ (s : Shared) (u : Value), BindsTo s fd ⟨[u], []⟩ [(x, u)]) ∧
        (∀ (H : Hp) (a : Addr) (ns : List Int), ns.length ≤ n → Only H → SqL K H a (ns.map V.int) → sp [.ref a] H (fun v _ => v = .bl true) fun _ _ _ => False) ∧
        ∀ base : Heap, K.In base → base.Ns mainGlobals mg → FnG l.prog w K mg base CX k fa fd [x] sp)
    (hCX : ∀ (H : Hp) (s : Shared) (e : Value) (s' : Shared), CX [] H s (fun _ _ _ => False) e s' → False) :
    PySem.W.WalkO q loose XP YP l.row.toRowW d [] (fun f vs => PySem.call f vs) := by
  refine Att.attach_call hmost hdfl fun w s0 s1 mg mb fa o pm cd doc a vs ns G Y ho hd hcd hmg hobj hints hlen hge => ?_
  obtain ⟨K, fd, sp, inK, hb, hsp, hF⟩ := F w mg fa _ Y G.T.g hmg
  exact lawG inK G.T.g G.T.b G.T.builtins G.T.nolimit hge hobj hints (Nat.le_trans hlen hn) hro hF hb (fun H hO hS => hsp H a ns hlen hO hS) fun H e s' => hCX H s1 e s'
end Eng

/-! A law holds if the interpreter says so. -/
namespace Eng
open PySem PySem.Spec PyProof.Rows L2
inductive All2 {α β : Type} (R : α → β → Prop) : List α → List β → Prop where
  | nil : All2 R [] []
  | cons {a : α} {b : β} {as : List α} {bs : List β} (h : R a b) (r : All2 R as bs) : All2 R (a :: as) (b :: bs)
theorem All2.get {α β : Type} {R : α → β → Prop} : ∀ {as : List α} {bs : List β} {i : Nat} {a : α}, All2 R as bs → as[i]? = some a → ∃ b, bs[i]? = some b ∧ R a b
  | _, _, _, _, .nil, e => by simp at e
  | _, _, 0, _, .cons h _, e => by simp at e; subst e; exact ⟨_, rfl, h⟩
  | _, _, i + 1, _, .cons _ r, e => by
    obtain ⟨b, h1, h2⟩ := All2.get (i := i) r (by simpa using e)
    exact ⟨b, by simpa using h1, h2⟩
/-- a def of the text: where it stands, its names, its statement, its defaults -/
structure Df where
  p : Pth
  x : PySem.Str
  qual : PySem.Str
  st : Stmt
  dfl : List He.Dv
def Df.toA (d : Df) : He5.DefA := ⟨d.p.at_, d.x, d.qual, defArgs d.st, defBody d.st, defScope d.st, d.dfl, []⟩
def Df.toD (d : Df) : FnD := ⟨d.x, d.qual, defArgs d.st, defBody d.st, defScope d.st⟩
def dvB : D → He.Dv → Bool
  | .non, .non => true
  | .bl a, .bl b => a == b
  | .int a, .int b => decide (a = b)
  | .str a, .str b => decide (a = b)
  | _, _ => false
def dvsB : List D → List He.Dv → Bool
  | [], [] => true
  | a :: r, b :: s => dvB a b && dvsB r s
  | _, _ => false
theorem dv_ok {A : Ad} {K : PySem.W.Frag} {w : Wd} {a : D} {b : He.Dv} (h : dvB a b = true) : RD A K w a (b.v K) := by
  cases a <;> cases b <;> simp [dvB] at h
  · exact .non
  · subst h; exact .bl _
  · subst h; exact .int _
  · subst h; exact .str _
theorem dvs_ok {A : Ad} {K : PySem.W.Frag} {w : Wd} : ∀ {a : List D} {b : List He.Dv}, dvsB a b = true → RDs A K w a (b.map (He.Dv.v K))
  | [], [], _ => .nil
  | [], _ :: _, h => by cases h
  | _ :: _, [], h => by cases h
  | a :: r, b :: s, h => by
    rw [dvsB, Bool.and_eq_true] at h
    exact .cons (dv_ok h.1) (dvs_ok h.2)
/-- how its parameters are bound -/
inductive BndD (ps : List PySem.Str) (d : Df) : Bool → Prop where
  | plain (e : d.dfl = []) (h : ∀ (kV doc pm : Value) (an : Option Addr) (cdv ct : Value) (us : List Value), us.length = ps.length → bindArgs (PySem.W.fnOf d.x d.qual (defArgs d.st) (defBody d.st) (defScope d.st) .none kV doc pm an cdv ct) ⟨us, []⟩ = pure (ps.zip us)) : BndD ps d false
  | dfl (e : d.dfl ≠ []) (hl : d.dfl.length ≤ ps.length)
    (h : ∀ (T : Addr) (kV doc pm : Value) (an : Option Addr) (cdv ct : Value) (us its : List Value), us.length = ps.length → its.length = d.dfl.length →
      ∃ k, bindArgs (PySem.W.fnOf d.x d.qual (defArgs d.st) (defBody d.st) (defScope d.st) (.ref T) kV doc pm an cdv ct) ⟨us, []⟩ = seqItems? (.ref T) >>= k ∧ k (some its.toArray) = pure (ps.zip us))
    (h0 : ∀ (T : Addr) (kV doc pm : Value) (an : Option Addr) (cdv ct : Value) (us its : List Value), us.length + d.dfl.length = ps.length → its.length = d.dfl.length →
      ∃ k, bindArgs (PySem.W.fnOf d.x d.qual (defArgs d.st) (defBody d.st) (defScope d.st) (.ref T) kV doc pm an cdv ct) ⟨us, []⟩ = seqItems? (.ref T) >>= k ∧ k (some its.toArray) = pure (ps.zip (us ++ its))) : BndD ps d false
  | star (e : d.dfl = []) (pv : PySem.Str) (hp : ps = [pv])
    (h : ∀ (kV doc pm : Value) (an : Option Addr) (cdv ct : Value) (rest : List Value), bindArgs (PySem.W.fnOf d.x d.qual (defArgs d.st) (defBody d.st) (defScope d.st) .none kV doc pm an cdv ct) ⟨rest, []⟩ = (newTuple rest >>= fun t => pure [(pv, t)])) : BndD ps d true
structure DefOK (P : Prg) (f : FnI) (d : Df) : Prop where
  scp : FnScope f.N f.ps (defScope d.st)
  chk : chkF P f d.toD = true
  bnd : BndD f.ps d f.star
  dfl : dvsB f.dfl d.dfl = true
  kw : f.kw = true → d.dfl = [] ∧ ∀ (kV doc pm : Value) (an : Option Addr) (cdv ct : Value) (us : List Value), us.length = f.ps.length → bindArgs (PySem.W.fnOf d.x d.qual (defArgs d.st) (defBody d.st) (defScope d.st) .none kV doc pm an cdv ct) ⟨[], f.ps.zip us⟩ = pure (f.ps.zip us)
section
variable {P : Prg} {dfs : List Df} {K : PySem.W.Frag}
theorem bns_of {f : FnI} {d : Df} {fa : Addr} {fd : FuncData} (h : DefOK P f d) (hs : f.star = true) (F : FunD K d.x d.qual (defArgs d.st) (defBody d.st) (defScope d.st) (d.toA.dvs K) (d.toA.kws K) fa fd) : ∃ pv, f.ps = [pv] ∧ ∀ rest : List Value, bindArgs fd ⟨rest, []⟩ = (newTuple rest >>= fun t => pure [(pv, t)]) := by
  have hb := h.bnd
  rw [hs] at hb
  cases hb with
  | star e pv hp q =>
    have z : d.toA.dvs K = [] := by show d.dfl.map _ = []; rw [e]; rfl
    rw [z] at F
    obtain ⟨oc, od, dV, kV, doc, pm, an, cdv, ct, osl, rfl, _, _, isD, _⟩ := F.ex
    rcases isD with ⟨_, rfl⟩ | ⟨ne, _⟩
    · exact ⟨pv, hp, fun rest => q kV doc pm an cdv ct rest⟩
    · exact (ne rfl).elim
theorem bnd_of {f : FnI} {d : Df} {fa : Addr} {fd : FuncData} (h : DefOK P f d) (hs : f.star = false) (F : FunD K d.x d.qual (defArgs d.st) (defBody d.st) (defScope d.st) (d.toA.dvs K) (d.toA.kws K) fa fd) : Binds K fd f.ps [] := by
  have hb := h.bnd
  rw [hs] at hb
  cases hb with
  | plain e q =>
    have z : d.toA.dvs K = [] := by show d.dfl.map _ = []; rw [e]; rfl
    rw [z] at F
    exact F.bindsN q
  | dfl e hl q q0 =>
    have z : (d.toA.dvs K).length = d.dfl.length := by show (d.dfl.map _).length = _; rw [List.length_map]
    have hne : d.toA.dvs K ≠ [] := fun y => e (List.length_eq_zero_iff.mp (by rw [← z, y]; rfl))
    obtain ⟨ds, h1, h2⟩ := FunD.binds1 (ps := f.ps) F f.ps.length (d.toA.dvs K).length hne (by omega) (fun T kV doc pm an cdv ct us its e1 e2 => by
      obtain ⟨k, k1, k2⟩ := q T kV doc pm an cdv ct us its e1 (by rw [e2, z])
      refine ⟨k, k1, ?_⟩
      rw [k2, ← e2, List.drop_length, List.append_nil])
    rw [List.drop_length] at h1
    cases h1
    exact h2
theorem bnF_of {A : Ad} {f : FnI} {d : Df} {fa : Addr} {fd : FuncData} (h : DefOK P f d) (hs : f.star = false) (hne : f.dfl ≠ []) (F : FunD K d.x d.qual (defArgs d.st) (defBody d.st) (defScope d.st) (d.toA.dvs K) (d.toA.kws K) fa fd) : ∃ us vs, (∀ w, RDs A K w f.dfl vs) ∧ Vals vs us ∧ Binds K fd f.ps us := by
  have hd := h.dfl
  have hb := h.bnd
  rw [hs] at hb
  cases hb with
  | plain e q =>
    rw [e] at hd
    cases hf : f.dfl with
    | nil => exact absurd hf hne
    | cons a r => rw [hf] at hd; cases hd
  | dfl e hl q q0 =>
    have z : (d.toA.dvs K).length = d.dfl.length := by show (d.dfl.map _).length = _; rw [List.length_map]
    have hne' : d.toA.dvs K ≠ [] := fun y => e (List.length_eq_zero_iff.mp (by rw [← z, y]; rfl))
    obtain ⟨ds, h1, h2⟩ := FunD.binds1 (ps := f.ps) F (f.ps.length - d.dfl.length) 0 hne' (by omega) (fun T kV doc pm an cdv ct us its e1 e2 => by
      obtain ⟨k, k1, k2⟩ := q0 T kV doc pm an cdv ct us its (by omega) (by rw [e2, z])
      exact ⟨k, k1, by rw [k2, List.drop_zero]⟩)
    rw [List.drop_zero] at h1
    exact ⟨ds, d.toA.dvs K, fun w => dvs_ok hd, h1, h2⟩
theorem bindsK {x qual : PySem.Str} {params : Arguments} {body : List Stmt} {scope : Scope} {kws : List (PySem.Str × V)} {f : Addr} {fd : FuncData} {ps : List PySem.Str} (F : FunD K x qual params body scope [] kws f fd)
    (q : ∀ (kV doc pm : Value) (an : Option Addr) (cdv ct : Value) (us : List Value), us.length = ps.length → bindArgs (PySem.W.fnOf x qual params body scope .none kV doc pm an cdv ct) ⟨[], ps.zip us⟩ = pure (ps.zip us)) (s : Shared) (us : List Value) (hl : us.length = ps.length) : BindsTo s fd ⟨[], ps.zip us⟩ (ps.zip us) := by
  obtain ⟨oc, od, dV, kV, doc, pm, an, cdv, ct, osl, rfl, _, _, isD, _⟩ := F.ex
  rcases isD with ⟨_, rfl⟩ | ⟨ne, _⟩
  · exact .of_eq (q kV doc pm an cdv ct us hl)
  · exact (ne rfl).elim
theorem facts_of {h : Heap} {mg : PySem.Str → Option Value} (d0 : Df) (X : K.In h) (G : h.Ns mainGlobals mg) (hp : chkP P (dfs.map Df.p) = true) (hd : All2 (DefOK P) P.fns dfs) (c : SaysZ (exB P (dfs.map Df.p)) (dfs.map Df.toA) K) (ne : P.fns ≠ []) :
    ∃ fd : Nat → FuncData, Facts P (adOf P (dfs.map Df.p) K) K mg fd (fun j => (dfs.getD j d0).toD) ∧ ∀ j f, P.fns[j]? = some f → ∃ d, dfs[j]? = some d ∧ FunD K d.x d.qual (defArgs d.st) (defBody d.st) (defScope d.st) (d.toA.dvs K) (d.toA.kws K) ((adOf P (dfs.map Df.p) K).fn j) (fd j) := by
  have one : ∀ j f, P.fns[j]? = some f → ∃ d, dfs[j]? = some d ∧ DefOK P f d ∧ ∃ fd, FunD K d.x d.qual (defArgs d.st) (defBody d.st) (defScope d.st) (d.toA.dvs K) (d.toA.kws K) ((adOf P (dfs.map Df.p) K).fn j) fd := fun j f hf => by
    obtain ⟨d, h1, h2⟩ := hd.get hf
    obtain ⟨fd, F⟩ := c.def_ (i := j) (d := d.toA) (by rw [List.getElem?_map, h1]; rfl)
    refine ⟨d, h1, h2, fd, ?_⟩
    have e : (adOf P (dfs.map Df.p) K).fn j = d.toA.at_ K := by
      show (match (dfs.map Df.p)[j]? with
        | some p => p.at_ K
        | none => 0) = d.p.at_ K
      rw [List.getElem?_map, h1]
      rfl
    rw [e]
    exact F
  obtain ⟨fd0⟩ : Nonempty FuncData := by
    cases hf : P.fns with
    | nil => exact absurd hf ne
    | cons f r =>
      obtain ⟨d, _, _, fd, _⟩ := one 0 f (by rw [hf]; rfl)
      exact ⟨fd⟩
  have ch : ∀ j, ∃ fd, ∀ f, P.fns[j]? = some f → ∃ d, dfs[j]? = some d ∧ DefOK P f d ∧ FunD K d.x d.qual (defArgs d.st) (defBody d.st) (defScope d.st) (d.toA.dvs K) (d.toA.kws K) ((adOf P (dfs.map Df.p) K).fn j) fd := fun j => by
    cases hf : P.fns[j]? with
    | none => exact ⟨fd0, fun f z => by cases z⟩
    | some f =>
      obtain ⟨d, h1, h2, fd, F⟩ := one j f hf
      exact ⟨fd, fun f' z => by cases z; exact ⟨d, h1, h2, F⟩⟩
  have hfd := fun j => Classical.choose_spec (ch j)
  have gd : ∀ j d, dfs[j]? = some d → dfs.getD j d0 = d := fun j d q => by rw [List.getD_eq_getElem?_getD, q]; rfl
  refine ⟨fun j => Classical.choose (ch j), { gok := gok_of X G hp c.more, fun_ := fun j f hf => ?_, scp := fun j f hf => ?_, chk := fun j f hf => ?_, bnd := fun j f hf hs => ?_, bns := fun j f hf hs => ?_, bnk := fun j f hf hk s us hl => ?_, bnF := fun j f ds hf hs he hfl hlen => ?_ }, fun j f hf => ?_⟩
  · obtain ⟨d, h1, h2, F⟩ := hfd j f hf
    rw [gd j d h1]
    exact ⟨_, _, F⟩
  · obtain ⟨d, h1, h2, F⟩ := hfd j f hf
    rw [gd j d h1]
    exact h2.scp
  · obtain ⟨d, h1, h2, F⟩ := hfd j f hf
    rw [gd j d h1]
    exact h2.chk
  · obtain ⟨d, h1, h2, F⟩ := hfd j f hf
    exact bnd_of h2 hs F
  · obtain ⟨d, h1, h2, F⟩ := hfd j f hf
    exact bns_of h2 hs F
  · obtain ⟨d, h1, h2, F⟩ := hfd j f hf
    obtain ⟨e, q⟩ := h2.kw hk
    have z : d.toA.dvs K = [] := by show d.dfl.map _ = []; rw [e]; rfl
    rw [z] at F
    exact bindsK F q s us hl
  · obtain ⟨d, h1, h2, F⟩ := hfd j f hf
    have e := fEqs_eq he
    subst e
    by_cases hne : f.dfl = []
    · rw [hne]
      exact ⟨[], [], fun _ => .nil, .nil, bnd_of h2 hs F⟩
    · exact bnF_of h2 hs hne F
  · obtain ⟨d, h1, h2, F⟩ := hfd j f hf
    exact ⟨d, h1, F⟩
theorem law_fin {prog : Program} {x : PySem.Str} {fl : FnI} {dl : Df} {jl wf fuel n : Nat} {M : List Addr} (hp : chkP P (dfs.map Df.p) = true) (hd : All2 (DefOK P) P.fns dfs) (hl : P.fns[jl]? = some fl) (hdl : dfs[jl]? = some dl) (hini : fl.init = none) (hfr : fl.fresh = false) (hps : fl.ps = [x]) (hgl : fl.glob = some "law") (hdf : dl.dfl = []) (hst : fl.star = false)
    (hrun : ∀ ns : List Int, ns.length ≤ n → ∃ st', run P.tab P.fn wf fuel jl [.lst (ns.map .int)] [] = .ok (.bl true) st') :
    ∀ (w : World) (mg : PySem.Str → Option Value) (fa : Addr) (h : Heap), (hookZ M (exB P (dfs.map Df.p)) (dfs.map Df.toA)).says w h → h.Ns mainGlobals mg → mg "law" = some (.ref fa) →
      ∃ (K : PySem.W.Frag) (fd : FuncData) (sp : Sp), K.In h ∧ (∀ (s : Shared) (u : Value), BindsTo s fd ⟨[u], []⟩ [(x, u)]) ∧
        (∀ (H : Hp) (a : Addr) (ns : List Int), ns.length ≤ n → Only H → SqL K H a (ns.map V.int) → sp [.ref a] H (fun v _ => v = .bl true) fun _ _ _ => False) ∧
        ∀ base : Heap, K.In base → base.Ns mainGlobals mg → FnG prog w K mg base CX0 (4 * fuel) fa fd [x] sp := by
  rintro w mg fa h ⟨K, X, c⟩ G hmg
  obtain ⟨fd, F, hF⟩ := facts_of dl X G hp hd c (fun z => by rw [z] at hl; cases hl)
  have hfa := F.gok.gfn jl fl "law" hl hgl
  rw [hmg] at hfa
  cases hfa
  refine ⟨K, fd jl, spF (adOf P (dfs.map Df.p) K) K (run P.tab P.fn wf fuel) jl fl, X, fun s u => ?_, fun H a ns hlen _ hS => ?_, fun base _ _ => ?_⟩
  · obtain ⟨d, h1, FD⟩ := hF jl fl hl
    rw [hdl] at h1
    cases h1
    obtain ⟨d', h1', h2'⟩ := hd.get hl
    rw [hdl] at h1'
    cases h1'
    have hb := h2'.bnd
    rw [hst] at hb
    cases hb with
    | plain e q =>
      have z : dl.toA.dvs K = [] := by show dl.dfl.map _ = []; rw [e]; rfl
      rw [z] at FD
      have b := FunD.bindsA (ps := fl.ps) FD q s [u] (by rw [hps]; rfl)
      rw [hps] at b
      exact b
    | dfl e _ _ _ => exact absurd hdf e
  · obtain ⟨st', hr⟩ := hrun ns hlen
    unfold spF
    rw [hini]
    refine ⟨by rw [hps]; rfl, ⟨fun b => if b = a then H b else none, fun _ => 0, 0⟩, [.lst (ns.map .int)], [], .bl true, st', .cons (.lst (xs := ns.map .int) (vs := ns.map V.int) ?_ ?_) .nil, ⟨fun b o q => ?_, rfl, fun k c q => by simp at q, fun i j hi => absurd hi (Nat.not_lt_zero _), fun k hk => absurd hk (Nat.not_lt_zero _)⟩, hr, fun v H' w' _ _ q => ?_⟩
    · rcases hS with (q | ⟨o, q⟩) | q
      · exact .inl (.inl (by show (if a = a then H a else none) = _; rw [if_pos rfl]; exact q))
      · exact .inl (.inr ⟨o, by show (if a = a then H a else none) = _; rw [if_pos rfl]; exact q⟩)
      · exact .inr q
    · clear hS hlen hr
      induction ns with
      | nil => exact .nil
      | cons i r ih => exact .cons (.int i) ih
    · have q : (if b = a then H b else none) = some o := q
      split at q
      · exact q
      · cases q
    · rw [if_neg (by rw [hfr]; exact Bool.false_ne_true)] at q
      cases q
      rfl
  · have z := fns_ok (prog := prog) (wd := w) (base := base) (wf := wf) F fuel
    have z := z.2.1 jl fl hl
    rw [hps] at z
    exact z
end
end Eng

/-! Plain lemmas about the interpreter. -/
namespace Eng
theorem ss_nx {T : Tab} {call : Nat → List D → Store → Res D} {wf : Nat} {s : S} {r : Ss} {ρ ρ1 : Env} {st st1 : Store} (h : evS T call wf s ρ st = .nx ρ1 st1) : evSs T call wf (.cons s r) ρ st = evSs T call wf r ρ1 st1 := by
  simp only [evSs, h]
theorem ss_rt {T : Tab} {call : Nat → List D → Store → Res D} {wf : Nat} {s : S} {r : Ss} {ρ : Env} {d : D} {st st1 : Store} (h : evS T call wf s ρ st = .rt d st1) : evSs T call wf (.cons s r) ρ st = .rt d st1 := by
  simp only [evSs, h]
theorem ss_for {T : Tab} {call : Nat → List D → Store → Res D} {wf : Nat} {tg : List Nat} {it : It} {b r : Ss} {ρ ρ1 : Env} {st st1 st2 : Store} {xs : List D} (hit : evIt T call it ρ st = .ok xs st1) (h : forR tg (evSs T call wf b) xs ρ st1 = .nx ρ1 st2) : evSs T call wf (.cons (.for tg it b) r) ρ st = evSs T call wf r ρ1 st2 := by
  refine ss_nx ?_
  rw [evS, hit]
  exact h
theorem forR_inv {tg : List Nat} {body : Env → Store → Fl} (P : Nat → Env → Store → Prop) : ∀ (xs : List D) (i : Nat) (ρ : Env) (st : Store), P i ρ st → (∀ (j : Nat) (d : D), xs[j]? = some d → ∀ (ρ : Env) (st : Store), P (i + j) ρ st → ∃ ρ1 ρ2 st2, bindT tg d ρ = some ρ1 ∧ body ρ1 st = .nx ρ2 st2 ∧ P (i + j + 1) ρ2 st2) → ∃ ρ' st', forR tg body xs ρ st = .nx ρ' st' ∧ P (i + xs.length) ρ' st'
  | [], i, ρ, st, h, _ => ⟨ρ, st, rfl, h⟩
  | d :: r, i, ρ, st, h, H => by
    obtain ⟨ρ1, ρ2, st2, e1, e2, h2⟩ := H 0 d rfl ρ st h
    obtain ⟨ρ', st', e3, h3⟩ := forR_inv P r (i + 1) ρ2 st2 h2 (fun j d' hj ρ st hp => by
      have := H (j + 1) d' hj ρ st (by rw [show i + (j + 1) = i + 1 + j by omega]; exact hp)
      rw [show i + (j + 1) + 1 = i + 1 + j + 1 by omega] at this
      exact this)
    refine ⟨ρ', st', ?_, by rw [List.length_cons, show i + (r.length + 1) = i + 1 + r.length by omega]; exact h3⟩
    simp only [forR, e1, e2, e3]
theorem mapR_is {f : D → Store → Res (Option D)} {g : D → Option D} {st : Store} : ∀ (xs : List D), (∀ d ∈ xs, f d st = .ok (g d) st) → mapR f xs st = .ok (xs.filterMap g) st
  | [], _ => rfl
  | d :: r, H => by
    simp only [mapR, H d (List.mem_cons_self ..), Res.bind_ok, mapR_is r (fun x hx => H x (List.mem_cons_of_mem _ hx))]
    cases e : g d <;> simp [List.filterMap_cons, e]
theorem lc_is {T : Tab} {call : Nat → List D → Store → Res D} {elt : C} {tg : List Nat} {it : It} {ifs : Cs} {ρ : Env} {st st1 : Store} {xs : List D} {g : D → Option D} (hit : evIt T call it ρ st = .ok xs st1) (hl : xs.length ≤ 1000000)
    (H : ∀ d ∈ xs, ∃ ρ1, bindT tg d (wipeE ρ tg) = some ρ1 ∧ (match g d with
      | some y => evIfs T call ifs ρ1 st1 = .ok true st1 ∧ ev T call elt ρ1 st1 = .ok y st1
      | none => evIfs T call ifs ρ1 st1 = .ok false st1)) : ev T call (.lc elt tg it ifs) ρ st = .ok (.lst (xs.filterMap g)) st1 := by
  rw [ev, hit]
  simp only [Res.bind_ok]
  rw [if_neg (by omega), mapR_is (g := g)]
  · rfl
  · intro d hd
    obtain ⟨ρ1, e1, e2⟩ := H d hd
    rw [e1]
    dsimp only
    cases hg : g d with
    | some y =>
      rw [hg] at e2
      rw [e2.1]
      simp only [Res.bind_ok, if_true, e2.2]
    | none =>
      rw [hg] at e2
      dsimp only at e2
      rw [e2]
      rfl
theorem it_rng1 {T : Tab} {call : Nat → List D → Store → Res D} {a : C} {ρ : Env} {st st1 : Store} {i : Int} (n : Nat) (h : ev T call a ρ st = .ok (.int i) st1) (e : i.toNat = n) (h1 : -4611686018427387904 ≤ i) (h2 : i < 4611686018427387904) : evIt T call (.rng1 a) ρ st = .ok (rngD 0 n) st1 := by
  subst e
  rw [evIt, h, Res.bind_ok]
  dsimp only
  rw [decide_eq_true (show -(2 ^ 62) ≤ i from h1), decide_eq_true (show i < 2 ^ 62 from h2)]
  rfl
theorem it_rng2 {T : Tab} {call : Nat → List D → Store → Res D} {a b : C} {ρ : Env} {st st1 st2 : Store} {i j : Int} (n : Nat) (h : ev T call a ρ st = .ok (.int i) st1) (h' : ev T call b ρ st1 = .ok (.int j) st2) (e : (j - i).toNat = n) (h1 : -4611686018427387904 ≤ i) (h2 : i < 4611686018427387904) (h3 : -4611686018427387904 ≤ j) (h4 : j < 4611686018427387904) : evIt T call (.rng2 a b) ρ st = .ok (rngD i n) st2 := by
  subst e
  rw [evIt, h, Res.bind_ok, h', Res.bind_ok]
  dsimp only
  rw [decide_eq_true (show -(2 ^ 62) ≤ i from h1), decide_eq_true (show i < 2 ^ 62 from h2), decide_eq_true (show -(2 ^ 62) ≤ j from h3), decide_eq_true (show j < 2 ^ 62 from h4)]
  rfl
theorem mem_rng {lo : Int} {n : Nat} {d : D} (h : d ∈ rngD lo n) : ∃ j : Nat, j < n ∧ d = .int (lo + (j : Int)) := by
  unfold rngD at h
  obtain ⟨j, hj, rfl⟩ := List.mem_map.mp h
  exact ⟨j, List.mem_range.mp hj, rfl⟩
theorem rng_at {lo : Int} {n j : Nat} {d : D} (h : (rngD lo n)[j]? = some d) : j < n ∧ d = .int (lo + (j : Int)) := by
  unfold rngD at h
  have hj : j < n := by
    have := (List.getElem?_eq_some_iff.mp h).1
    simpa using this
  rw [List.getElem?_map, List.getElem?_range hj] at h
  exact ⟨hj, (Option.some.inj h).symm⟩
theorem rngD_len (lo : Int) (n : Nat) : (rngD lo n).length = n := by simp [rngD]
/-- a comprehension whose parts keep J of the store -/
theorem mapR_inv {f : D → Store → Res (Option D)} {g : D → Option D} {J : Store → Prop} : ∀ (xs : List D) (st : Store), J st → (∀ d ∈ xs, ∀ st, J st → ∃ st', f d st = .ok (g d) st' ∧ J st') → ∃ st', mapR f xs st = .ok (xs.filterMap g) st' ∧ J st'
  | [], st, h, _ => ⟨st, rfl, h⟩
  | d :: r, st, h, H => by
    obtain ⟨st1, e1, h1⟩ := H d (List.mem_cons_self ..) st h
    obtain ⟨st2, e2, h2⟩ := mapR_inv r st1 h1 fun x hx => H x (List.mem_cons_of_mem _ hx)
    refine ⟨st2, ?_, h2⟩
    simp only [mapR, e1, Res.bind_ok, e2]
    cases e : g d <;> simp [List.filterMap_cons, e]
theorem lc_invJ {T : Tab} {call : Nat → List D → Store → Res D} {elt : C} {tg : List Nat} {it : It} {ifs : Cs} {ρ : Env} {st st1 : Store} {xs : List D} {g : D → Option D} {J : Store → Prop} (hit : evIt T call it ρ st = .ok xs st1) (hl : xs.length ≤ 1000000) (hJ : J st1)
    (H : ∀ d ∈ xs, ∀ st, J st → ∃ ρ1, bindT tg d (wipeE ρ tg) = some ρ1 ∧ (match g d with
      | some y => ∃ st2 st3, evIfs T call ifs ρ1 st = .ok true st2 ∧ ev T call elt ρ1 st2 = .ok y st3 ∧ J st3
      | none => ∃ st2, evIfs T call ifs ρ1 st = .ok false st2 ∧ J st2)) : ∃ st2, ev T call (.lc elt tg it ifs) ρ st = .ok (.lst (xs.filterMap g)) st2 ∧ J st2 := by
  have key : ∀ (xs : List D) (st : Store), J st → (∀ d ∈ xs, ∀ st, J st → ∃ ρ1, bindT tg d (wipeE ρ tg) = some ρ1 ∧ (match g d with
      | some y => ∃ st2 st3, evIfs T call ifs ρ1 st = .ok true st2 ∧ ev T call elt ρ1 st2 = .ok y st3 ∧ J st3
      | none => ∃ st2, evIfs T call ifs ρ1 st = .ok false st2 ∧ J st2)) → ∃ st2, mapR (fun d st2 => match bindT tg d (wipeE ρ tg) with
      | some ρ1 => (evIfs T call ifs ρ1 st2).bind fun k st3 => if k then (ev T call elt ρ1 st3).bind fun y st4 => .ok (some y) st4 else .ok none st3
      | none => .bad) xs st = .ok (xs.filterMap g) st2 ∧ J st2 := by
    intro xs
    induction xs with
    | nil => exact fun st h _ => ⟨st, rfl, h⟩
    | cons d r ih =>
      intro st h H
      obtain ⟨ρ1, e1, e2⟩ := H d (List.mem_cons_self ..) st h
      cases hg : g d with
      | some y =>
        rw [hg] at e2
        obtain ⟨st2, st3, q1, q2, q3⟩ := e2
        obtain ⟨st4, e3, h3⟩ := ih st3 q3 fun x hx => H x (List.mem_cons_of_mem _ hx)
        refine ⟨st4, ?_, h3⟩
        simp only [mapR, e1, q1, Res.bind_ok, if_true, q2, e3, List.filterMap_cons, hg]
      | none =>
        rw [hg] at e2
        obtain ⟨st2, q1, q2⟩ := e2
        obtain ⟨st4, e3, h3⟩ := ih st2 q2 fun x hx => H x (List.mem_cons_of_mem _ hx)
        refine ⟨st4, ?_, h3⟩
        simp only [mapR, e1, q1, Res.bind_ok, if_false, Bool.false_eq_true, e3, List.filterMap_cons, hg]
  obtain ⟨st2, e, h⟩ := key xs st1 hJ H
  refine ⟨st2, ?_, h⟩
  rw [ev, hit]
  simp only [Res.bind_ok]
  rw [if_neg (by omega)]
  exact congrArg (fun r => Res.bind r fun ys st2 => Res.ok (D.lst ys) st2) e
/-- a comprehension over things a, as values f a -/
theorem lc_mapJ {α : Type} {T : Tab} {call : Nat → List D → Store → Res D} {elt : C} {tg : List Nat} {it : It} {ifs : Cs} {ρ : Env} {st st1 : Store} (f : α → D) (g : α → Option D) (as : List α) {J : Store → Prop} (hit : evIt T call it ρ st = .ok (as.map f) st1) (hl : as.length ≤ 1000000) (hJ : J st1)
    (H : ∀ a ∈ as, ∀ st, J st → ∃ ρ1, bindT tg (f a) (wipeE ρ tg) = some ρ1 ∧ (match g a with
      | some y => ∃ st2 st3, evIfs T call ifs ρ1 st = .ok true st2 ∧ ev T call elt ρ1 st2 = .ok y st3 ∧ J st3
      | none => ∃ st2, evIfs T call ifs ρ1 st = .ok false st2 ∧ J st2)) : ∃ st2, ev T call (.lc elt tg it ifs) ρ st = .ok (.lst (as.filterMap g)) st2 ∧ J st2 := by
  have key : ∀ (as : List α) (st : Store), J st → (∀ a ∈ as, ∀ st, J st → ∃ ρ1, bindT tg (f a) (wipeE ρ tg) = some ρ1 ∧ (match g a with
      | some y => ∃ st2 st3, evIfs T call ifs ρ1 st = .ok true st2 ∧ ev T call elt ρ1 st2 = .ok y st3 ∧ J st3
      | none => ∃ st2, evIfs T call ifs ρ1 st = .ok false st2 ∧ J st2)) → ∃ st2, mapR (fun d st2 => match bindT tg d (wipeE ρ tg) with
      | some ρ1 => (evIfs T call ifs ρ1 st2).bind fun k st3 => if k then (ev T call elt ρ1 st3).bind fun y st4 => .ok (some y) st4 else .ok none st3
      | none => .bad) (as.map f) st = .ok (as.filterMap g) st2 ∧ J st2 := by
    intro as
    induction as with
    | nil => exact fun st h _ => ⟨st, rfl, h⟩
    | cons d r ih =>
      intro st h H
      obtain ⟨ρ1, e1, e2⟩ := H d (List.mem_cons_self ..) st h
      cases hg : g d with
      | some y =>
        rw [hg] at e2
        obtain ⟨st2, st3, q1, q2, q3⟩ := e2
        obtain ⟨st4, e3, h3⟩ := ih st3 q3 fun x hx => H x (List.mem_cons_of_mem _ hx)
        refine ⟨st4, ?_, h3⟩
        simp only [List.map_cons, mapR, e1, q1, Res.bind_ok, if_true, q2, e3, List.filterMap_cons, hg]
      | none =>
        rw [hg] at e2
        obtain ⟨st2, q1, q2⟩ := e2
        obtain ⟨st4, e3, h3⟩ := ih st2 q2 fun x hx => H x (List.mem_cons_of_mem _ hx)
        refine ⟨st4, ?_, h3⟩
        simp only [List.map_cons, mapR, e1, q1, Res.bind_ok, if_false, Bool.false_eq_true, e3, List.filterMap_cons, hg]
  obtain ⟨st2, e, h⟩ := key as st1 hJ H
  refine ⟨st2, ?_, h⟩
  rw [ev, hit]
  simp only [Res.bind_ok]
  rw [if_neg (by rw [List.length_map]; omega)]
  exact congrArg (fun r => Res.bind r fun ys st2 => Res.ok (D.lst ys) st2) e
theorem lc_map1 {α : Type} {T : Tab} {call : Nat → List D → Store → Res D} {elt : C} {tg : List Nat} {it : It} {ρ : Env} {st st1 : Store} (f : α → D) (g : α → D) (as : List α) (hit : evIt T call it ρ st = .ok (as.map f) st1) (hl : as.length ≤ 1000000)
    (H : ∀ a ∈ as, ∃ ρ1, bindT tg (f a) (wipeE ρ tg) = some ρ1 ∧ ev T call elt ρ1 st1 = .ok (g a) st1) : ev T call (.lc elt tg it .nil) ρ st = .ok (.lst (as.map g)) st1 := by
  obtain ⟨st2, e, h⟩ := lc_mapJ (ifs := .nil) (elt := elt) (tg := tg) (J := (· = st1)) f (fun a => some (g a)) as hit hl rfl fun a ha st hst => by
    subst hst
    obtain ⟨ρ1, e1, e2⟩ := H a ha
    exact ⟨ρ1, e1, st, st, by rw [evIfs], e2, rfl⟩
  rw [List.filterMap_eq_map'] at e
  rw [e, h]
theorem lc_flt {α : Type} {T : Tab} {call : Nat → List D → Store → Res D} {elt : C} {tg : List Nat} {it : It} {ifs : Cs} {ρ : Env} {st st1 : Store} (f : α → D) (p : α → Bool) (g : α → D) (as : List α) (hit : evIt T call it ρ st = .ok (as.map f) st1) (hl : as.length ≤ 1000000)
    (H : ∀ a ∈ as, ∃ ρ1, bindT tg (f a) (wipeE ρ tg) = some ρ1 ∧ evIfs T call ifs ρ1 st1 = .ok (p a) st1 ∧ (p a = true → ev T call elt ρ1 st1 = .ok (g a) st1)) : ev T call (.lc elt tg it ifs) ρ st = .ok (.lst ((as.filter p).map g)) st1 := by
  obtain ⟨st2, e, h⟩ := lc_mapJ (ifs := ifs) (elt := elt) (tg := tg) (J := (· = st1)) f (fun a => if p a then some (g a) else none) as hit hl rfl fun a ha st hst => by
    subst hst
    obtain ⟨ρ1, e1, e2, e3⟩ := H a ha
    refine ⟨ρ1, e1, ?_⟩
    by_cases hp : p a = true
    · simp only [hp, if_true]
      exact ⟨st, st, by rw [e2, hp], e3 hp, rfl⟩
    · have hf : p a = false := by simpa using hp
      simp only [hf, Bool.false_eq_true, if_false]
      exact ⟨st, by rw [e2, hf], rfl⟩
  rw [e, h]
  congr 2
  clear H e h hit hl
  induction as with
  | nil => rfl
  | cons a r ih => cases hp : p a <;> simp [List.filterMap_cons, List.filter_cons, hp, ih]
/-- one list's items and another's, one by one -/
inductive L2R {α β : Type} (R : α → β → Prop) : List α → List β → Prop where
  | nil : L2R R [] []
  | cons {a : α} {b : β} {as : List α} {bs : List β} (h : R a b) (r : L2R R as bs) : L2R R (a :: as) (b :: bs)
theorem L2R.length {α β : Type} {R : α → β → Prop} : ∀ {as : List α} {bs : List β}, L2R R as bs → as.length = bs.length
  | _, _, .nil => rfl
  | _, _, .cons _ r => congrArg Nat.succ r.length
/-- a comprehension without tests whose elements are known up to a relation; J counts the turns -/
theorem lc_rel {T : Tab} {call : Nat → List D → Store → Res D} {elt : C} {tg : List Nat} {it : It} {ρ : Env} {st st1 : Store} {xs : List D} {R : D → D → Prop} {J : Nat → Store → Prop} (hit : evIt T call it ρ st = .ok xs st1) (hl : xs.length ≤ 1000000) {i : Nat} (hJ : J i st1)
    (H : ∀ d ∈ xs, ∀ i st, J i st → ∃ ρ1 y st2, bindT tg d (wipeE ρ tg) = some ρ1 ∧ ev T call elt ρ1 st = .ok y st2 ∧ R d y ∧ J (i + 1) st2) : ∃ ys st2, ev T call (.lc elt tg it .nil) ρ st = .ok (.lst ys) st2 ∧ L2R R xs ys ∧ J (i + xs.length) st2 := by
  have key : ∀ (xs : List D) (i : Nat) (st : Store), J i st → (∀ d ∈ xs, ∀ i st, J i st → ∃ ρ1 y st2, bindT tg d (wipeE ρ tg) = some ρ1 ∧ ev T call elt ρ1 st = .ok y st2 ∧ R d y ∧ J (i + 1) st2) → ∃ ys st2, mapR (fun d st2 => match bindT tg d (wipeE ρ tg) with
      | some ρ1 => (evIfs T call .nil ρ1 st2).bind fun k st3 => if k then (ev T call elt ρ1 st3).bind fun y st4 => .ok (some y) st4 else .ok none st3
      | none => .bad) xs st = .ok ys st2 ∧ L2R R xs ys ∧ J (i + xs.length) st2 := by
    intro xs
    induction xs with
    | nil => exact fun i st h _ => ⟨[], st, rfl, .nil, h⟩
    | cons d r ih =>
      intro i st h H
      obtain ⟨ρ1, y, st2, e1, e2, q, h2⟩ := H d (List.mem_cons_self ..) i st h
      obtain ⟨ys, st3, e3, q3, h3⟩ := ih (i + 1) st2 h2 fun x hx => H x (List.mem_cons_of_mem _ hx)
      refine ⟨y :: ys, st3, ?_, .cons q q3, by rw [List.length_cons, show i + (r.length + 1) = i + 1 + r.length by omega]; exact h3⟩
      have hn : evIfs T call .nil ρ1 st = .ok true st := by rw [evIfs]
      simp only [mapR, e1, hn, Res.bind_ok, if_true, e2, e3]
  obtain ⟨ys, st2, e, q, h⟩ := key xs i st1 hJ H
  refine ⟨ys, st2, ?_, q, h⟩
  rw [ev, hit]
  simp only [Res.bind_ok]
  rw [if_neg (by omega)]
  exact congrArg (fun r => Res.bind r fun ys st2 => Res.ok (D.lst ys) st2) e
/-- the same, with the turn's number at hand -/
theorem lc_cnt {α : Type} {T : Tab} {call : Nat → List D → Store → Res D} {elt : C} {tg : List Nat} {it : It} {ρ : Env} {st st1 : Store} (f : α → D) (as : List α) {R : α → D → Prop} {J : Nat → Store → Prop} (hit : evIt T call it ρ st = .ok (as.map f) st1) (hl : as.length ≤ 1000000) (hJ : J 0 st1)
    (H : ∀ j a, as[j]? = some a → ∀ st, J j st → ∃ ρ1 y st2, bindT tg (f a) (wipeE ρ tg) = some ρ1 ∧ ev T call elt ρ1 st = .ok y st2 ∧ R a y ∧ J (j + 1) st2) : ∃ ys st2, ev T call (.lc elt tg it .nil) ρ st = .ok (.lst ys) st2 ∧ L2R R as ys ∧ J as.length st2 := by
  have key : ∀ (as : List α) (i : Nat) (st : Store), J i st → (∀ j a, as[j]? = some a → ∀ st, J (i + j) st → ∃ ρ1 y st2, bindT tg (f a) (wipeE ρ tg) = some ρ1 ∧ ev T call elt ρ1 st = .ok y st2 ∧ R a y ∧ J (i + j + 1) st2) → ∃ ys st2, mapR (fun d st2 => match bindT tg d (wipeE ρ tg) with
      | some ρ1 => (evIfs T call .nil ρ1 st2).bind fun k st3 => if k then (ev T call elt ρ1 st3).bind fun y st4 => .ok (some y) st4 else .ok none st3
      | none => .bad) (as.map f) st = .ok ys st2 ∧ L2R R as ys ∧ J (i + as.length) st2 := by
    intro as
    induction as with
    | nil => exact fun i st h _ => ⟨[], st, rfl, .nil, h⟩
    | cons d r ih =>
      intro i st h H
      obtain ⟨ρ1, y, st2, e1, e2, q, h2⟩ := H 0 d rfl st h
      obtain ⟨ys, st3, e3, q3, h3⟩ := ih (i + 1) st2 h2 fun j a hj st hst => by
        have := H (j + 1) a hj st (by rw [show i + (j + 1) = i + 1 + j by omega]; exact hst)
        rw [show i + (j + 1) + 1 = i + 1 + j + 1 by omega] at this
        exact this
      refine ⟨y :: ys, st3, ?_, .cons q q3, by rw [List.length_cons, show i + (r.length + 1) = i + 1 + r.length by omega]; exact h3⟩
      have hn : evIfs T call .nil ρ1 st = .ok true st := by rw [evIfs]
      simp only [List.map_cons, mapR, e1, hn, Res.bind_ok, if_true, e2, e3]
  obtain ⟨ys, st2, e, q, h⟩ := key as 0 st1 hJ (fun j a hj st hst => by
    rw [Nat.zero_add] at hst ⊢
    exact H j a hj st hst)
  rw [Nat.zero_add] at h
  refine ⟨ys, st2, ?_, q, h⟩
  rw [ev, hit]
  simp only [Res.bind_ok]
  rw [if_neg (by rw [List.length_map]; omega)]
  exact congrArg (fun r => Res.bind r fun ys st2 => Res.ok (D.lst ys) st2) e
theorem L2R.pull {α β : Type} {P : α → β → Prop} {f : β → D} : ∀ {as : List α} {ys : List D}, L2R (fun a y => ∃ b, y = f b ∧ P a b) as ys → ∃ bs, ys = bs.map f ∧ L2R P as bs
  | _, _, .nil => ⟨[], rfl, .nil⟩
  | _, _, .cons ⟨b, e, p⟩ r => by
    obtain ⟨bs, e2, p2⟩ := L2R.pull r
    exact ⟨b :: bs, by rw [e, e2]; rfl, .cons p p2⟩
theorem L2R.all {α β : Type} {R : α → β → Prop} : ∀ {as : List α} {bs : List β}, L2R R as bs → ∀ b ∈ bs, ∃ a ∈ as, R a b
  | _, _, .nil, b, h => by cases h
  | _, _, .cons p r, b, h => by
    rcases List.mem_cons.mp h with rfl | h
    · exact ⟨_, List.mem_cons_self .., p⟩
    · obtain ⟨a, ha, q⟩ := r.all b h
      exact ⟨a, List.mem_cons_of_mem _ ha, q⟩
end Eng

/-! What repr gives is plain text. -/
namespace Eng
open PySem PyProof
def okS (s : Str) : Prop := ∀ c ∈ s.cps, c < 0x110000
theorem okS_iff {s : Str} : (s.cps.all (· < 0x110000)) = true ↔ okS s := by
  rw [Array.all_eq_true_iff_forall_mem]
  exact ⟨fun h c hc => of_decide_eq_true (h c hc), fun h c hc => decide_eq_true (h c hc)⟩
theorem okS_app {a b : Str} (ha : okS a) (hb : okS b) : okS (a ++ b) := by
  intro c hc
  have hc : c ∈ a.cps ++ b.cps := hc
  rcases Array.mem_append.mp hc with h | h
  · exact ha c h
  · exact hb c h
theorem okS_of (s : String) : okS (Str.ofString s) := by
  intro c hc
  rw [Str.ofString_eq_toList] at hc
  simp only [List.mem_toArray, List.mem_map] at hc
  obtain ⟨x, _, rfl⟩ := hc
  have := x.valid
  unfold UInt32.isValidChar Nat.isValidChar at this
  show x.val.toNat < _
  omega
theorem okS_join {sep : Str} (h : okS sep) : ∀ {ts : List Str}, (∀ t ∈ ts, okS t) → okS (Str.join sep ts)
  | [], _ => fun c hc => by simp [Str.join, Str.empty] at hc
  | [x], H => H x (List.mem_cons_self ..)
  | x :: y :: r, H => okS_app (okS_app (H x (List.mem_cons_self ..)) h) (okS_join h fun t ht => H t (List.mem_cons_of_mem _ ht))
theorem okS_from : ∀ {ts : List Str} {k : Nat} {acc : Str}, okS acc → (∀ t ∈ ts, okS t) → okS (textFrom k acc ts)
  | [], _, _, h, _ => h
  | t :: r, k, acc, h, H => by
    rw [textFrom]
    exact okS_from (ts := r) (okS_app (okS_app h (okS_of _)) (H t (List.mem_cons_self ..))) fun u hu => H u (List.mem_cons_of_mem _ hu)
mutual
/-- texts whose repr is plain -/
def reprOk : D → Prop
  | .str s => okS (PyData.str s).shown
  | .tup xs | .lst xs => reprOks xs
  | _ => True
def reprOks : List D → Prop
  | [] => True
  | d :: r => reprOk d ∧ reprOks r
end
mutual
theorem okS_shown : ∀ d : D, reprOk d → okS (toP d).shown
  | .non, _ => by simp only [toP, PyData.shown]; exact okS_of _
  | .bl b, _ => by
    simp only [toP, PyData.shown]
    split <;> exact okS_of _
  | .int i, _ => by simp only [toP, PyData.shown]; exact okS_of _
  | .str s, h => by
    simp only [reprOk] at h
    exact h
  | .tup xs, h => by
    simp only [reprOk] at h
    simp only [toP, PyData.shown]
    exact okS_app (okS_app (okS_of _) (okS_join (okS_of _) (okS_showns xs h))) (okS_of _)
  | .lst xs, h => by
    simp only [reprOk] at h
    simp only [toP, PyData.shown]
    exact okS_app (okS_from (okS_of _) (okS_showns xs h)) (okS_of _)
  | .ins _ _, _ => by simp only [toP, PyData.shown]; exact okS_of _
  | .fn _, _ => by simp only [toP, PyData.shown]; exact okS_of _
  | .ref _, _ => by simp only [toP, PyData.shown]; exact okS_of _
theorem okS_showns : ∀ ds : List D, reprOks ds → ∀ t ∈ PyData.shownAll (toPs ds), okS t
  | [], _ => fun t ht => by simp [toPs, PyData.shownAll] at ht
  | d :: r, h => by
    simp only [reprOks] at h
    intro t ht
    simp only [toPs, PyData.shownAll, List.mem_cons] at ht
    rcases ht with rfl | ht
    · exact okS_shown d h.1
    · exact okS_showns r h.2 t ht
end
theorem reprOks_map {α : Type} (f : α → D) : ∀ (as : List α), (∀ a ∈ as, reprOk (f a)) → reprOks (as.map f)
  | [], _ => by simp [reprOks]
  | a :: r, H => by
    rw [List.map_cons, reprOks]
    exact ⟨H a (List.mem_cons_self ..), reprOks_map f r fun x hx => H x (List.mem_cons_of_mem _ hx)⟩
/-- the same text twice -/
theorem eq_str (T : Tab) (call : Nat → List D → Store → Res D) {s : Str} (h : okS s) (st : Store) : eqR T call (.str s) (.str s) st = .ok true st := by
  have h1 : plain (.str s) = true := by rw [plain]; exact okS_iff.mpr h
  unfold eqR
  dsimp only
  rw [if_pos (by simp [h1, deep])]
  simp [eqD]
theorem eq_str2 (T : Tab) (call : Nat → List D → Store → Res D) {s : Str} (h : okS s) (st : Store) : eqR T call (.lst [.str s, .str s]) (.lst [.str s, .str s]) st = .ok true st := by
  have h1 : plain (.str s) = true := by rw [plain]; exact okS_iff.mpr h
  have h2 : plain (.lst [.str s, .str s]) = true := by simp [plain, plains] at h1 ⊢; exact h1
  unfold eqR
  dsimp only
  rw [if_pos (by simp [h2, deep, deeps])]
  simp [eqD, eqDs]
end Eng

set_option exponentiation.threshold 5000
/-! What repr takes, and that the same data give the same text. -/
namespace Eng
open PySem PyProof
structure RG (h k : Nat) (d : D) : Prop where
  pl : plain d = true
  dp : deep d ≤ h
  sh : shortD d = true
  wt : wtD d ≤ k
  ok : reprOk d
theorem RG.le {h k h' k' : Nat} {d : D} (g : RG h k d) (e : h ≤ h') (e' : k ≤ k') : RG h' k' d := ⟨g.pl, Nat.le_trans g.dp e, g.sh, Nat.le_trans g.wt e', g.ok⟩
theorem lg2_lt {i : Int} {k : Nat} (h : i.natAbs < 2 ^ k) : i.natAbs.log2 ≤ k := by
  by_cases h0 : i.natAbs = 0
  · rw [h0]; simp [Nat.log2_zero]
  · have := (Nat.log2_lt h0).mpr h
    omega
theorem RG.int {m : Nat} {i : Int} (h : i.natAbs < 2 ^ m) (hm : m < 1920) : RG 0 (m + 3) (.int i) := by
  have := lg2_lt h
  refine ⟨rfl, Nat.le_refl _, ?_, ?_, trivial⟩
  · simp only [shortD]; exact decide_eq_true (by omega)
  · simp only [wtD]; omega
theorem RG.bl (b : Bool) : RG 0 5 (.bl b) := ⟨rfl, Nat.le_refl _, rfl, Nat.le_refl _, trivial⟩
theorem RG.non : RG 0 5 .non := ⟨rfl, Nat.le_refl _, rfl, Nat.le_refl _, trivial⟩
theorem RG.str {m : Nat} {s : Str} (h : plain (.str s) = true) (hs : s.cps.size ≤ m) (ho : okS (PyData.str s).shown) : RG 0 (10 * m + 2) (.str s) := ⟨h, Nat.le_refl _, rfl, by simp only [wtD]; omega, ho⟩
theorem RG.all {h k m : Nat} : ∀ {xs : List D}, (∀ d ∈ xs, RG h k d) → xs.length ≤ m → plains xs = true ∧ deeps xs ≤ h ∧ shortsD xs = true ∧ wtsD xs ≤ (k + 2) * xs.length ∧ reprOks xs
  | [], _, _ => ⟨rfl, Nat.zero_le _, rfl, by simp [wtsD], trivial⟩
  | d :: r, H, hm => by
    have g := H d List.mem_cons_self
    obtain ⟨a, b, c, e, f⟩ := RG.all (xs := r) (m := m) (fun x hx => H x (List.mem_cons_of_mem _ hx)) (by simp at hm; omega)
    refine ⟨?_, ?_, ?_, ?_, ?_⟩
    · simp only [plains, g.pl, a]; rfl
    · simp only [deeps]; have := g.dp; omega
    · simp only [shortsD, g.sh, c]; rfl
    · simp only [wtsD, List.length_cons, Nat.mul_succ]; have := g.wt; omega
    · simp only [reprOks]; exact ⟨g.ok, f⟩
theorem RG.tup {h k m : Nat} {xs : List D} (H : ∀ d ∈ xs, RG h k d) (hm : xs.length ≤ m) : RG (h + 1) ((k + 2) * m + 3) (.tup xs) := by
  obtain ⟨a, b, c, e, f⟩ := RG.all H hm
  refine ⟨by simp only [plain]; exact a, by simp only [deep]; omega, by simp only [shortD]; exact c, ?_, by simp only [reprOk]; exact f⟩
  simp only [wtD]
  have := Nat.mul_le_mul_left (k + 2) hm
  omega
theorem RG.lst {h k m : Nat} {xs : List D} (H : ∀ d ∈ xs, RG h k d) (hm : xs.length ≤ m) : RG (h + 1) ((k + 2) * m + 3) (.lst xs) := by
  obtain ⟨a, b, c, e, f⟩ := RG.all H hm
  refine ⟨by simp only [plain]; exact a, by simp only [deep]; omega, by simp only [shortD]; exact c, ?_, by simp only [reprOk]; exact f⟩
  simp only [wtD]
  have := Nat.mul_le_mul_left (k + 2) hm
  omega
theorem RG.map {α : Type} {h k : Nat} {f : α → D} {l : List α} (H : ∀ a ∈ l, RG h k (f a)) : ∀ d ∈ l.map f, RG h k d := fun d hd => by
  obtain ⟨a, ha, rfl⟩ := List.mem_map.mp hd
  exact H a ha
theorem repr_ok {h k : Nat} {d : D} {st : Store} (g : RG h k d) (hd : dispD d = true) (h1 : h ≤ 32) (h2 : k ≤ 1000000) : reprD d st = .ok (.str (toP d).shown) st := by
  unfold reprD
  split
  · simp [dispD] at hd
  · rw [if_pos]
    have := g.dp
    have := g.wt
    simp only [hd, g.pl, g.sh, Bool.and_eq_true, decide_eq_true_eq, true_and, and_true]
    exact ⟨by omega, by omega⟩
theorem repr_int {m : Nat} {i : Int} {st : Store} (h : i.natAbs < 2 ^ m) (hm : m < 1920) : reprD (.int i) st = .ok (.str (toString i : String)) st := by
  have := lg2_lt h
  simp only [reprD]
  rw [if_pos (by omega)]
theorem shown_ok {h k : Nat} {d : D} (g : RG h k d) : okS (toP d).shown := okS_shown d g.ok
theorem cmp_eqS (T : Tab) (call : Nat → List D → Store → Res D) {s : Str} (h : okS s) (st : Store) : cmpD T call .eq (.str s) (.str s) st = .ok (.bl true) st := by
  simp only [cmpD]
  rw [eq_str T call h st]
  rfl
theorem cmp_neS (T : Tab) (call : Nat → List D → Store → Res D) {s : Str} (h : okS s) (st : Store) : cmpD T call .ne (.str s) (.str s) st = .ok (.bl false) st := by
  simp only [cmpD]
  rw [eq_str T call h st]
  rfl
/-- two texts compared -/
theorem cmp_eqT (T : Tab) (call : Nat → List D → Store → Res D) {a b : Str} (ha : plain (.str a) = true) (hb : plain (.str b) = true) (st : Store) : cmpD T call .eq (.str a) (.str b) st = .ok (.bl (a == b)) st := by
  simp only [cmpD, eqR]
  rw [if_pos (by simp [ha, hb, deep])]
  simp only [eqD, Res.bind_ok]
theorem idx_map {α : Type} {f : α → D} {l : List α} {i : Nat} {a : α} (h : l[i]? = some a) (st : Store) : idxD (.tup (l.map f)) (.int (i : Nat)) st = .ok (f a) st := by
  have e : atD (l.map f) (i : Int) = some (f a) := by
    unfold atD
    rw [if_pos (Int.natCast_nonneg i), Int.toNat_natCast, List.getElem?_map, h]
    rfl
  simp only [idxD, e]
theorem flatR_is {f : D → Store → Res (List D)} {g : D → List D} {st : Store} : ∀ (xs : List D), (∀ d ∈ xs, f d st = .ok (g d) st) → flatR f xs st = .ok (xs.flatMap g) st
  | [], _ => rfl
  | d :: r, H => by
    simp only [flatR]
    rw [H d List.mem_cons_self, Res.bind_ok, flatR_is r fun x hx => H x (List.mem_cons_of_mem _ hx), Res.bind_ok, List.flatMap_cons]
/-- a sum of ints -/
def sumI : List Int → Int → Int
  | [], a => a
  | i :: r, a => sumI r (a + i)
theorem sumD_map {α : Type} (f : α → Int) : ∀ (l : List α) (a : Int), sumD (l.map fun x => .int (f x)) a = some (sumI (l.map f) a)
  | [], a => rfl
  | x :: r, a => by simp only [List.map_cons, sumD, sumI]; exact sumD_map f r _
theorem sumI_lt {k : Nat} : ∀ (l : List Int) (a : Int), (∀ i ∈ l, i.natAbs ≤ k) → (sumI l a).natAbs ≤ a.natAbs + k * l.length
  | [], a, _ => by simp [sumI]
  | i :: r, a, H => by
    have h1 := H i List.mem_cons_self
    have h2 := sumI_lt r (a + i) fun x hx => H x (List.mem_cons_of_mem _ hx)
    simp only [sumI, List.length_cons, Nat.mul_succ]
    omega
theorem tks_is {α : Type} (key : α → List Ky) : ∀ l : List α, tksD (l.map fun a => tkV (key a)) = some (l.map key)
  | [] => rfl
  | a :: r => by
    have hk : ∀ k : List Ky, kysD (k.map kyV) = some k := by
      intro k
      induction k with
      | nil => rfl
      | cons x r ih =>
        simp only [List.map_cons, kysD, ih]
        cases x <;> rfl
    simp only [List.map_cons, tksD, tkV, tkD, hk, Option.bind_some]
    have := tks_is key r
    unfold tkV at this
    rw [this]
    rfl
theorem insK_mem {x y : List Ky} : ∀ {l : List (List Ky)}, y ∈ insK x l ↔ y = x ∨ y ∈ l
  | [] => by simp [insK]
  | z :: r => by
    unfold insK
    split
    · simp only [List.mem_cons, insK_mem (l := r)]
      constructor
      · rintro (h | h | h) <;> simp [h]
      · rintro (h | h | h) <;> simp [h]
    · simp
theorem sortK_mem {y : List Ky} : ∀ {l : List (List Ky)}, y ∈ sortK l ↔ y ∈ l
  | [] => by simp [sortK]
  | x :: r => by simp only [sortK, insK_mem, sortK_mem (l := r), List.mem_cons]
theorem insK_len (x : List Ky) : ∀ l : List (List Ky), (insK x l).length = l.length + 1
  | [] => rfl
  | z :: r => by
    unfold insK
    split
    · simp [insK_len x r]
    · simp
theorem sortK_len : ∀ l : List (List Ky), (sortK l).length = l.length
  | [] => rfl
  | x :: r => by simp [sortK, insK_len, sortK_len r]
/-- the sorted keys are keys of things of the list -/
theorem sortK_pull {α : Type} (key : α → List Ky) (l : List α) : ∃ l' : List α, sortK (l.map key) = l'.map key ∧ (∀ a ∈ l', a ∈ l) ∧ l'.length = l.length := by
  have all : ∀ m : List (List Ky), (∀ k ∈ m, k ∈ l.map key) → ∃ l' : List α, m = l'.map key ∧ ∀ a ∈ l', a ∈ l := by
    intro m
    induction m with
    | nil => intro _; exact ⟨[], rfl, fun _ h => nomatch h⟩
    | cons k r ih =>
      intro H
      obtain ⟨l', e, h⟩ := ih fun x hx => H x (List.mem_cons_of_mem _ hx)
      obtain ⟨a, ha, rfl⟩ := List.mem_map.mp (H k List.mem_cons_self)
      refine ⟨a :: l', by rw [e]; rfl, fun b hb => ?_⟩
      rcases List.mem_cons.mp hb with rfl | hb
      · exact ha
      · exact h b hb
  obtain ⟨l', e, h⟩ := all (sortK (l.map key)) fun k hk => sortK_mem.mp hk
  refine ⟨l', e, h, ?_⟩
  have := congrArg List.length e
  rw [sortK_len, List.length_map, List.length_map] at this
  exact this.symm
theorem rng0 (n : Nat) : rngD 0 n = (List.range n).map fun i => D.int (i : Nat) := by simp [rngD]
theorem lrng0 {n : Nat} (h : n ≤ 1000000) (st : Store) : lrngD (.int (n : Nat)) st = .ok (.lst ((List.range n).map fun i => D.int (i : Nat))) st := by
  unfold lrngD
  dsimp only
  rw [if_pos ⟨by omega, by omega⟩]
  simp
theorem it_rngN {T : Tab} {call : Nat → List D → Store → Res D} {a : C} {ρ : Env} {st st1 : Store} {i : Int} (n : Nat) (h : ev T call a ρ st = .ok (.int i) st1) (e : i = (n : Nat)) (hn : n < 1000000) : evIt T call (.rng1 a) ρ st = .ok ((List.range n).map fun i => D.int (i : Nat)) st1 := by
  rw [← rng0]
  exact it_rng1 n h (by omega) (by omega) (by omega)
theorem it_seq {T : Tab} {call : Nat → List D → Store → Res D} {c : C} {ρ : Env} {st st1 : Store} {xs : List D} (h : ev T call c ρ st = .ok (.lst xs) st1 ∨ ev T call c ρ st = .ok (.tup xs) st1) : evIt T call (.seq c) ρ st = .ok xs st1 := by
  rw [evIt]
  rcases h with h | h <;> rw [h] <;> rfl
theorem lc2_map {α β : Type} {T : Tab} {call : Nat → List D → Store → Res D} {elt : C} {tg tg2 : List Nat} {it it2 : It} {ρ : Env} {st : Store} (f : α → D) (fb : β → D) (g : α → β → D) (as : List α) (bs : List β) (hit : evIt T call it ρ st = .ok (as.map f) st) (hl : as.length ≤ 1000) (hl2 : bs.length ≤ 1000)
    (H : ∀ a ∈ as, ∃ ρ1, bindT tg (f a) (wipeE ρ (tg ++ tg2)) = some ρ1 ∧ evIt T call it2 ρ1 st = .ok (bs.map fb) st ∧ ∀ b ∈ bs, ∃ ρ2, bindT tg2 (fb b) (wipeE ρ1 tg2) = some ρ2 ∧ ev T call elt ρ2 st = .ok (g a b) st) :
    ev T call (.lc2 elt tg it tg2 it2) ρ st = .ok (.lst (as.flatMap fun a => bs.map (g a))) st := by
  rw [ev, hit, Res.bind_ok, if_neg (by rw [List.length_map]; omega)]
  have key : ∀ as : List α, (∀ a ∈ as, ∃ ρ1, bindT tg (f a) (wipeE ρ (tg ++ tg2)) = some ρ1 ∧ evIt T call it2 ρ1 st = .ok (bs.map fb) st ∧ ∀ b ∈ bs, ∃ ρ2, bindT tg2 (fb b) (wipeE ρ1 tg2) = some ρ2 ∧ ev T call elt ρ2 st = .ok (g a b) st) →
      flatR (fun d st2 => match bindT tg d (wipeE ρ (tg ++ tg2)) with
      | some ρ1 => (evIt T call it2 ρ1 st2).bind fun ys st3 => if 1000 < ys.length then .bad else mapR (fun e st4 => match bindT tg2 e (wipeE ρ1 tg2) with
          | some ρ2 => (ev T call elt ρ2 st4).bind fun y st5 => .ok (some y) st5
          | none => .bad) ys st3
      | none => .bad) (as.map f) st = .ok (as.flatMap fun a => bs.map (g a)) st := by
    intro as
    induction as with
    | nil => intro _; rfl
    | cons a r ih =>
      intro H
      obtain ⟨ρ1, e1, e2, e3⟩ := H a List.mem_cons_self
      simp only [List.map_cons, flatR]
      rw [e1]
      dsimp only
      rw [e2, Res.bind_ok, if_neg (by rw [List.length_map]; omega)]
      have inner : ∀ bs : List β, (∀ b ∈ bs, ∃ ρ2, bindT tg2 (fb b) (wipeE ρ1 tg2) = some ρ2 ∧ ev T call elt ρ2 st = .ok (g a b) st) → mapR (fun e st4 => match bindT tg2 e (wipeE ρ1 tg2) with
          | some ρ2 => (ev T call elt ρ2 st4).bind fun y st5 => .ok (some y) st5
          | none => .bad) (bs.map fb) st = .ok (bs.map (g a)) st := by
        intro bs
        induction bs with
        | nil => intro _; rfl
        | cons b t ih2 =>
          intro H2
          obtain ⟨ρ2, q1, q2⟩ := H2 b List.mem_cons_self
          simp only [List.map_cons, mapR]
          rw [q1]
          dsimp only
          rw [q2, Res.bind_ok, Res.bind_ok, ih2 fun x hx => H2 x (List.mem_cons_of_mem _ hx), Res.bind_ok]
      rw [inner bs e3, Res.bind_ok, ih fun x hx => H x (List.mem_cons_of_mem _ hx), Res.bind_ok, List.flatMap_cons]
  exact congrArg (fun r : Res (List D) => r.bind fun ys st2 => Res.ok (D.lst ys) st2) (key as H)
theorem forR_nx {tg : List Nat} {body : Env → Store → Fl} {d : D} {r : List D} {ρ ρ1 ρ2 : Env} {st st2 : Store} (h1 : bindT tg d ρ = some ρ1) (h2 : body ρ1 st = .nx ρ2 st2) : forR tg body (d :: r) ρ st = forR tg body r ρ2 st2 := by
  rw [forR, h1]
  dsimp only
  rw [h2]
theorem ss_end {T : Tab} {call : Nat → List D → Store → Res D} {wf : Nat} {ρ : Env} {st : Store} : evSs T call wf .nil ρ st = .nx ρ st := by rw [evSs]
theorem ss_one {T : Tab} {call : Nat → List D → Store → Res D} {wf : Nat} {s : S} {ρ ρ1 : Env} {st st1 : Store} (h : evS T call wf s ρ st = .nx ρ1 st1) : evSs T call wf (.cons s .nil) ρ st = .nx ρ1 st1 := by
  rw [ss_nx h, ss_end]
theorem ext_is {T : Tab} {call : Nat → List D → Store → Res D} {wf i : Nat} {e : C} {ρ : Env} {st st1 : Store} {xs ys : List D} (h : ev T call e ρ st = .ok (.lst ys) st1) (hs : slotO ρ i = some xs) (hl : xs.length + ys.length ≤ 1000000) : evS T call wf (.ext i e) ρ st = .nx (ρ.set i (some (.own (xs ++ ys)))) st1 := by
  rw [evS, h, Res.fl_ok, hs]
  dsimp only
  rw [if_pos hl]
theorem app_is {T : Tab} {call : Nat → List D → Store → Res D} {wf i : Nat} {e : C} {ρ : Env} {st st1 : Store} {xs : List D} {y : D} (h : ev T call e ρ st = .ok y st1) (hs : slotO ρ i = some xs) (hl : xs.length < 1000000) : evS T call wf (.app i e) ρ st = .nx (ρ.set i (some (.own (xs ++ [y])))) st1 := by
  rw [evS, h, Res.fl_ok, hs]
  dsimp only
  rw [if_pos hl]
/-! calls of defs with variables as arguments -/
theorem call1 {T : Tab} {call : Nat → List D → Store → Res D} {j i : Nat} {ρ : Env} {d : D} {st : Store} (h : slotV ρ i = some d) : ev T call (.call j (.cons (.var i) .nil) []) ρ st = call j [d] st := by
  simp only [ev, evs, h, Res.bind_ok, List.append_nil]
theorem call2 {T : Tab} {call : Nat → List D → Store → Res D} {j i i2 : Nat} {ρ : Env} {d d2 : D} {st : Store} (h : slotV ρ i = some d) (h2 : slotV ρ i2 = some d2) : ev T call (.call j (.cons (.var i) (.cons (.var i2) .nil)) []) ρ st = call j [d, d2] st := by
  simp only [ev, evs, h, h2, Res.bind_ok, List.append_nil]
theorem call3 {T : Tab} {call : Nat → List D → Store → Res D} {j i i2 i3 : Nat} {ρ : Env} {d d2 d3 : D} {st : Store} (h : slotV ρ i = some d) (h2 : slotV ρ i2 = some d2) (h3 : slotV ρ i3 = some d3) : ev T call (.call j (.cons (.var i) (.cons (.var i2) (.cons (.var i3) .nil))) []) ρ st = call j [d, d2, d3] st := by
  simp only [ev, evs, h, h2, h3, Res.bind_ok, List.append_nil]
theorem callE {T : Tab} {call : Nat → List D → Store → Res D} {j : Nat} {as : Cs} {ρ : Env} {xs : List D} {st st1 : Store} (h : evs T call as ρ st = .ok xs st1) : ev T call (.call j as []) ρ st = call j xs st1 := by
  rw [ev, h, Res.bind_ok, List.append_nil]
/-- a comprehension whose test may draw -/
theorem lc_some {α : Type} {T : Tab} {call : Nat → List D → Store → Res D} {elt : C} {tg : List Nat} {it : It} {ifs : Cs} {ρ : Env} {st st1 : Store} (f g : α → D) (as : List α) {J : Nat → Store → Prop} (hit : evIt T call it ρ st = .ok (as.map f) st1) (hl : as.length ≤ 1000000) (hJ : J 0 st1)
    (H : ∀ j a, as[j]? = some a → ∀ st, J j st → ∃ ρ1 b st2, bindT tg (f a) (wipeE ρ tg) = some ρ1 ∧ evIfs T call ifs ρ1 st = .ok b st2 ∧ (b = true → ev T call elt ρ1 st2 = .ok (g a) st2) ∧ J (j + 1) st2) :
    ∃ (as' : List α) (st2 : Store), ev T call (.lc elt tg it ifs) ρ st = .ok (.lst (as'.map g)) st2 ∧ (∀ a ∈ as', a ∈ as) ∧ as'.length ≤ as.length ∧ J as.length st2 := by
  have key : ∀ (as : List α) (i : Nat) (st : Store), J i st → (∀ j a, as[j]? = some a → ∀ st, J (i + j) st → ∃ ρ1 b st2, bindT tg (f a) (wipeE ρ tg) = some ρ1 ∧ evIfs T call ifs ρ1 st = .ok b st2 ∧ (b = true → ev T call elt ρ1 st2 = .ok (g a) st2) ∧ J (i + j + 1) st2) → ∃ (as' : List α) (st2 : Store), mapR (fun d st2 => match bindT tg d (wipeE ρ tg) with
      | some ρ1 => (evIfs T call ifs ρ1 st2).bind fun k st3 => if k then (ev T call elt ρ1 st3).bind fun y st4 => .ok (some y) st4 else .ok none st3
      | none => .bad) (as.map f) st = .ok (as'.map g) st2 ∧ (∀ a ∈ as', a ∈ as) ∧ as'.length ≤ as.length ∧ J (i + as.length) st2 := by
    intro as
    induction as with
    | nil => intro i st h _; exact ⟨[], st, rfl, (fun _ h => h), Nat.le_refl _, h⟩
    | cons a r ih =>
      intro i st h H
      obtain ⟨ρ1, b, st2, e1, e2, e3, h2⟩ := H 0 a rfl st h
      obtain ⟨as', st3, q1, q2, q3, q4⟩ := ih (i + 1) st2 h2 (fun j x hj st hp => by
        obtain ⟨ρ2, b, st3, z1, z2, z3, z4⟩ := H (j + 1) x hj st (by rw [show i + (j + 1) = i + 1 + j by omega]; exact hp)
        exact ⟨ρ2, b, st3, z1, z2, z3, by rw [show i + 1 + j + 1 = i + (j + 1) + 1 by omega]; exact z4⟩)
      have q4' : J (i + (a :: r).length) st3 := by rw [List.length_cons, show i + (r.length + 1) = i + 1 + r.length by omega]; exact q4
      cases b with
      | true =>
        refine ⟨a :: as', st3, ?_, ?_, by simp; omega, q4'⟩
        · simp only [List.map_cons, mapR]
          rw [e1]
          dsimp only
          rw [e2, Res.bind_ok, if_pos rfl, e3 rfl, Res.bind_ok, Res.bind_ok, q1, Res.bind_ok]
        · intro x hx
          rcases List.mem_cons.mp hx with rfl | hx
          · exact List.mem_cons_self
          · exact List.mem_cons_of_mem _ (q2 x hx)
      | false =>
        refine ⟨as', st3, ?_, fun x hx => List.mem_cons_of_mem _ (q2 x hx), by simp; omega, q4'⟩
        simp only [List.map_cons, mapR]
        rw [e1]
        dsimp only
        rw [e2, Res.bind_ok, if_neg (by decide), Res.bind_ok, q1, Res.bind_ok]
  obtain ⟨as', st2, q1, q2, q3, q4⟩ := key as 0 st1 hJ (fun j a hj st hp => by
    rw [Nat.zero_add] at hp ⊢
    exact H j a hj st hp)
  refine ⟨as', st2, ?_, q2, q3, by rw [Nat.zero_add] at q4; exact q4⟩
  rw [ev, hit, Res.bind_ok, if_neg (by rw [List.length_map]; omega)]
  exact congrArg (fun r : Res (List D) => r.bind fun ys st2 => Res.ok (D.lst ys) st2) q1
theorem and2E {T : Tab} {call : Nat → List D → Store → Res D} {a b : C} {ρ : Env} {x y : Bool} {st st1 st2 : Store} (h1 : ev T call a ρ st = .ok (.bl x) st1) (h2 : x = true → ev T call b ρ st1 = .ok (.bl y) st2) (h3 : x = false → st2 = st1) : ev T call (.and (.cons a (.cons b .nil))) ρ st = .ok (.bl (x && y)) st2 := by
  rw [ev, evAnd, h1, Res.bind_ok]
  cases x with
  | true =>
    dsimp only
    rw [evAnd, h2 rfl]
    rfl
  | false => rw [h3 rfl]; rfl
theorem and3E {T : Tab} {call : Nat → List D → Store → Res D} {a b c : C} {ρ : Env} {x y z : Bool} {st : Store} (h1 : ev T call a ρ st = .ok (.bl x) st) (h2 : ev T call b ρ st = .ok (.bl y) st) (h3 : ev T call c ρ st = .ok (.bl z) st) : ev T call (.and (.cons a (.cons b (.cons c .nil)))) ρ st = .ok (.bl (x && (y && z))) st := by
  rw [ev, evAnd, h1, Res.bind_ok]
  cases x with
  | true =>
    dsimp only
    rw [evAnd, h2, Res.bind_ok]
    cases y with
    | true =>
      dsimp only
      rw [evAnd, h3]
      rfl
    | false => rfl
  | false => rfl
end Eng

set_option exponentiation.threshold 5000
/-! The package's Amounts in the interpreter, whatever their numbers in a law's tables: an Amount is a rational. -/
namespace Eng
/-! ### plain arithmetic -/
theorem fmod_lt (a : Int) {b : Int} (h : b ≠ 0) : (a.fmod b).natAbs < b.natAbs := by
  rw [Int.fmod_eq_emod]
  have h1 := Int.emod_nonneg a h
  have h2 := Int.emod_lt a h
  split
  · omega
  · rename_i q
    have q1 : b < 0 := by
      rcases Int.lt_or_le b 0 with z | z
      · exact z
      · exact absurd (.inl z) q
    have q2 : a % b ≠ 0 := fun z => q (.inr (Int.dvd_of_emod_eq_zero z))
    omega
theorem gcd_fmod (a : Int) (b : Int) : Int.gcd b (a.fmod b) = Int.gcd a b := by
  have e : a.fmod b = a - b * (a.fdiv b) := by
    have := Int.mul_fdiv_add_fmod a b
    omega
  rw [e, Int.gcd_comm a b]
  exact Int.gcd_sub_mul_left_right ..
/-- of k bits -/
def Sz (k : Nat) (r : Rat) : Prop := r.num.natAbs < 2 ^ k ∧ r.den < 2 ^ k
theorem Sz_le {k l : Nat} {r : Rat} (h : Sz k r) (e : k ≤ l) : Sz l r := ⟨Nat.lt_of_lt_of_le h.1 (Nat.pow_le_pow_right (by decide) e), Nat.lt_of_lt_of_le h.2 (Nat.pow_le_pow_right (by decide) e)⟩
theorem Sz_div {k : Nat} {a b : Int} (hb : b ≠ 0) (h1 : a.natAbs < 2 ^ k) (h2 : b.natAbs < 2 ^ k) : Sz k (Rat.divInt a b) := by
  constructor
  · rw [Rat.num_divInt]
    have e : (b.sign * a / (Int.gcd b a : Int)).natAbs ≤ (b.sign * a).natAbs := Int.natAbs_ediv_le_natAbs _ _
    rw [Int.natAbs_mul, Int.natAbs_sign_of_ne_zero hb, Nat.one_mul] at e
    omega
  · rw [Rat.den_divInt, if_neg hb]
    exact Nat.lt_of_le_of_lt (Nat.div_le_self _ _) h2
theorem mul_lt2 {a b k l : Nat} (h1 : a < 2 ^ k) (h2 : b < 2 ^ l) : a * b < 2 ^ (k + l) := by
  rw [Nat.pow_add]
  exact Nat.mul_lt_mul'' h1 h2
theorem add_isR (a b : Rat) : a + b = Rat.divInt (a.num * b.den + b.num * a.den) ((a.den : Int) * b.den) := by
  conv => lhs; rw [← Rat.num_divInt_den a, ← Rat.num_divInt_den b]
  rw [Rat.divInt_add_divInt _ _ (by have := a.den_nz; omega) (by have := b.den_nz; omega)]
theorem mul_isR (a b : Rat) : a * b = Rat.divInt (a.num * b.num) ((a.den : Int) * b.den) := by
  conv => lhs; rw [← Rat.num_divInt_den a, ← Rat.num_divInt_den b]
  rw [Rat.divInt_mul_divInt]
theorem den_neR (a b : Rat) : (a.den : Int) * b.den ≠ 0 := Int.mul_ne_zero (by have := a.den_nz; omega) (by have := b.den_nz; omega)
theorem den0R (r : Rat) : (r.den : Int) ≠ 0 := by have := r.den_nz; omega
theorem ndR {k : Nat} {r : Rat} (h : Sz k r) : (r.den : Int).natAbs < 2 ^ k := by rw [Int.natAbs_natCast]; exact h.2
theorem num_ltR {k l : Nat} {a b : Rat} (ha : Sz k a) (hb : Sz l b) : (a.num * b.den + b.num * a.den).natAbs < 2 ^ (k + l + 1) := by
  have h1 := mul_lt2 ha.1 hb.2
  have h2 := mul_lt2 hb.1 ha.2
  have e := Int.natAbs_add_le (a.num * b.den) (b.num * a.den)
  rw [Int.natAbs_mul, Int.natAbs_mul] at e
  have e2 : 2 ^ (k + l + 1) = 2 ^ (k + l) + 2 ^ (k + l) := by rw [Nat.pow_succ]; omega
  rw [Nat.add_comm l k] at h2
  simp only [Int.natAbs_natCast] at e
  omega
theorem Sz_add {k l : Nat} {a b : Rat} (ha : Sz k a) (hb : Sz l b) : Sz (k + l + 1) (a + b) := by
  rw [add_isR]
  refine Sz_div (den_neR a b) (num_ltR ha hb) ?_
  rw [Int.natAbs_mul]
  exact Nat.lt_of_lt_of_le (mul_lt2 ha.2 hb.2) (Nat.pow_le_pow_right (by decide) (by omega))
theorem Sz_mul {k l : Nat} {a b : Rat} (ha : Sz k a) (hb : Sz l b) : Sz (k + l) (a * b) := by
  rw [mul_isR]
  refine Sz_div (den_neR a b) ?_ ?_
  · rw [Int.natAbs_mul]; exact mul_lt2 ha.1 hb.1
  · rw [Int.natAbs_mul]; exact mul_lt2 (ndR ha) (ndR hb)
theorem neg_numR (a : Rat) : (-a).num = -a.num := rfl
theorem neg_denR (a : Rat) : (-a).den = a.den := rfl
theorem Sz_neg {k : Nat} {a : Rat} (ha : Sz k a) : Sz k (-a) := ⟨by rw [neg_numR, Int.natAbs_neg]; exact ha.1, ha.2⟩
theorem Sz_sub {k l : Nat} {a b : Rat} (ha : Sz k a) (hb : Sz l b) : Sz (k + l + 1) (a - b) := by
  rw [Rat.sub_eq_add_neg]
  exact Sz_add ha (Sz_neg hb)
theorem Sz_int {k : Nat} {i : Int} (h : i.natAbs < 2 ^ k) : Sz (k + 1) (i : Rat) := ⟨Nat.lt_of_lt_of_le h (Nat.pow_le_pow_right (by decide) (by omega)), by
  show 1 < 2 ^ (k + 1)
  have : 1 ≤ 2 ^ k := Nat.one_le_two_pow
  rw [Nat.pow_succ]; omega⟩
/-- -1, 0 or 1 -/
def cmpQ (a b : Rat) : Int := (if b < a then 1 else 0) - (if a < b then 1 else 0)
/-! ### the defs' terms -/
structure AmtI where
  c : Nat
  init : Nat
  isint : Nat
  cd : Nat
  asam : Nat
  fo : Nat
  fu : Nat
def tInit (ii cd fo fu : Nat) : Ss := (.cons (.ite (.not (.call ii (.cons (.var 1) .nil) [])) (.cons .never
  .nil) .nil)
  (.cons (.ite (.or (.cons (.not (.call ii (.cons (.var 2) .nil) [])) (.cons (.cmp .eq (.var 2) (.int 0)) .nil))) (.cons .never
  .nil) .nil)
  (.cons (.set 3 (.call cd (.cons (.var 1) (.cons (.var 2) .nil)) []))
  (.cons (.set 4 (.ite (.cmp .gt (.var 2) (.int 0)) (.int 1) (.neg (.int 1))))
  (.cons (.fld 0 fo (.bin .fdiv (.bin .mul (.var 4) (.var 1)) (.var 3)))
  (.cons (.fld 0 fu (.bin .fdiv (.bin .mul (.var 4) (.var 2)) (.var 3)))
  .nil))))))
def tIsInt : Ss := (.cons (.ret (.and (.cons (.isi (.var 0) .int) (.cons (.not (.isi (.var 0) .bool)) .nil))))
  .nil)
def tCd : Ss := (.cons (.whl (.cmp .ne (.var 1) (.int 0)) (.cons (.par 0 1 (.var 1) (.bin .mod (.var 0) (.var 1)))
  .nil))
  (.cons (.ret (.blt .abs (.var 0)))
  .nil))
def tAsA (c ii : Nat) : Ss := (.cons (.ite (.isi (.var 0) (.cls c)) (.cons (.ret (.var 0))
  .nil) .nil)
  (.cons (.ite (.not (.call ii (.cons (.var 0) .nil) [])) (.cons .never
  .nil) .nil)
  (.cons (.ret (.make c (.cons (.var 0) .nil) [(.int 1)]))
  .nil)))
def tPair (fo fu : Nat) : Ss := (.cons (.ret (.tup (.cons (.attr fo (.var 0)) (.cons (.attr fu (.var 0)) .nil))))
  .nil)
def tDown (fo fu : Nat) : Ss := (.cons (.ret (.bin .fdiv (.attr fo (.var 0)) (.attr fu (.var 0))))
  .nil)
def tUp (fo fu : Nat) : Ss := (.cons (.ret (.neg (.bin .fdiv (.neg (.attr fo (.var 0))) (.attr fu (.var 0)))))
  .nil)
def tCmp (as fo fu : Nat) : Ss := (.cons (.set 2 (.call as (.cons (.var 1) .nil) []))
  (.cons (.par 3 4 (.bin .mul (.attr fo (.var 0)) (.attr fu (.var 2))) (.bin .mul (.attr fo (.var 2)) (.attr fu (.var 0))))
  (.cons (.ret (.bin .sub (.blt .int (.cmp .gt (.var 3) (.var 4))) (.blt .int (.cmp .lt (.var 3) (.var 4)))))
  .nil)))
def tAdd (c as fo fu : Nat) : Ss := (.cons (.set 2 (.call as (.cons (.var 1) .nil) []))
  (.cons (.set 3 (.bin .add (.bin .mul (.attr fo (.var 0)) (.attr fu (.var 2))) (.bin .mul (.attr fo (.var 2)) (.attr fu (.var 0)))))
  (.cons (.ret (.make c (.cons (.var 3) (.cons (.bin .mul (.attr fu (.var 0)) (.attr fu (.var 2))) .nil)) []))
  .nil)))
def tRadd : Ss := (.cons (.ret (.bin .add (.var 0) (.var 1)))
  .nil)
def tSub (as : Nat) : Ss := (.cons (.ret (.bin .add (.var 0) (.neg (.call as (.cons (.var 1) .nil) []))))
  .nil)
def tRsub : Ss := (.cons (.ret (.bin .add (.neg (.var 0)) (.var 1)))
  .nil)
def tMul (c as fo fu : Nat) : Ss := (.cons (.set 2 (.call as (.cons (.var 1) .nil) []))
  (.cons (.ret (.make c (.cons (.bin .mul (.attr fo (.var 0)) (.attr fo (.var 2))) (.cons (.bin .mul (.attr fu (.var 0)) (.attr fu (.var 2))) .nil)) []))
  .nil))
def tRmul : Ss := (.cons (.ret (.bin .mul (.var 0) (.var 1)))
  .nil)
def tNeg (c fo fu : Nat) : Ss := (.cons (.ret (.make c (.cons (.neg (.attr fo (.var 0))) (.cons (.attr fu (.var 0)) .nil)) []))
  .nil)
def tAbs (c fo fu : Nat) : Ss := (.cons (.ret (.make c (.cons (.blt .abs (.attr fo (.var 0))) (.cons (.attr fu (.var 0)) .nil)) []))
  .nil)
def tBool (fo : Nat) : Ss := (.cons (.ret (.blt .bool (.attr fo (.var 0))))
  .nil)
def tEq (c np : Nat) : Ss := (.cons (.ret (.and (.cons (.isi (.var 1) (.cls c)) (.cons (.cmp .eq (.attr np (.var 0)) (.attr np (.var 1))) .nil))))
  .nil)
structure AmtOK (P : Prg) (I : AmtI) : Prop where
  cl : ∃ k, P.tab.cls[I.c]? = some k ∧ k.init = I.init
  pfo : propOf P.tab I.c I.fo = none
  pfu : propOf P.tab I.c I.fu = none
  ffo : fldOf P.tab I.c I.fo = true
  ffu : fldOf P.tab I.c I.fu = true
  ne : I.fo ≠ I.fu
  init : P.fn[I.init]? = some ⟨5, 3, tInit I.isint I.cd I.fo I.fu, some I.c, false⟩
  isint : P.fn[I.isint]? = some ⟨1, 1, tIsInt, none, false⟩
  cd : P.fn[I.cd]? = some ⟨2, 2, tCd, none, false⟩
  asam : P.fn[I.asam]? = some ⟨1, 1, tAsA I.c I.isint, none, false⟩
/-- a rational as the program holds it -/
def amD (I : AmtI) (r : Rat) : D := .ins I.c [(I.fo, .int r.num), (I.fu, .int r.den)]
abbrev rnP (P : Prg) (wf n : Nat) := run P.tab P.fn wf n
theorem run_fn' {P : Prg} {wf n j : Nat} {as : List D} {st : Store} {f : Fn} (h : P.fn[j]? = some f) (hi : f.init = none) (hl : as.length = f.pars) : rnP P wf (n + 1) j as st = endF f.fresh (evSs P.tab (rnP P wf n) wf f.body (startE f.slots as) st) := by
  unfold rnP
  rw [run, h]
  dsimp only
  rw [hi]
  dsimp only
  rw [if_pos hl]
theorem run_in' {P : Prg} {wf n j c : Nat} {as : List D} {st : Store} {f : Fn} (h : P.fn[j]? = some f) (hi : f.init = some c) (hl : as.length + 1 = f.pars) : rnP P wf (n + 1) j as st = endI c (evSs P.tab (rnP P wf n) wf f.body (some (.self c []) :: startE (f.slots - 1) as) st) := by
  unfold rnP
  rw [run, h]
  dsimp only
  rw [hi]
  dsimp only
  rw [if_pos hl]
theorem binI' {P : Prg} {st : Store} (call : Nat → List D → Store → Res D) (op : Bo) (i j : Int) : binD P.tab call op (.int i) (.int j) st = intOp op i j st := rfl
theorem addI' {st : Store} (i j : Int) : intOp .add i j st = .ok (.int (i + j)) st := rfl
theorem subI' {st : Store} (i j : Int) : intOp .sub i j st = .ok (.int (i - j)) st := rfl
theorem mulI' {st : Store} {i j : Int} (h1 : wide i = true) (h2 : wide j = true) : intOp .mul i j st = .ok (.int (i * j)) st := by simp [intOp, h1, h2]
theorem fdivI' {st : Store} {i j : Int} (h : 0 < j) (h1 : wide i = true) (h2 : wide j = true) : intOp .fdiv i j st = .ok (.int (i / j)) st := by simp [intOp, h, h1, h2]
theorem wide_of' {i : Int} (h : i.natAbs < 2 ^ 4096) : wide i = true := decide_eq_true h
theorem wideS' {k : Nat} {i : Int} (h : i.natAbs < 2 ^ k) (hk : k ≤ 4096) : wide i = true := wide_of' (Nat.lt_of_lt_of_le h (Nat.pow_le_pow_right (by decide) hk))
section
variable {P : Prg} {I : AmtI} {wf n : Nat} {st : Store}
theorem at_fo (K : AmtOK P I) (call : Nat → List D → Store → Res D) (r : Rat) : attrD P.tab call I.fo (amD I r) st = .ok (.int r.num) st := by
  unfold attrD amD
  dsimp only
  rw [K.pfo]
  simp [List.lookup, K.ffo]
theorem at_fu (K : AmtOK P I) (call : Nat → List D → Store → Res D) (r : Rat) : attrD P.tab call I.fu (amD I r) st = .ok (.int r.den) st := by
  unfold attrD amD
  dsimp only
  rw [K.pfu]
  have : (I.fu == I.fo) = false := by simpa using K.ne.symm
  simp [List.lookup, K.ffu, this]
theorem is_int' (K : AmtOK P I) (i : Int) : rnP P wf (n + 1) I.isint [.int i] st = .ok (.bl true) st := by
  rw [run_fn' K.isint rfl rfl]
  rfl
theorem loop' (T : Tab) (call : Nat → List D → Store → Res D) (w0 : Nat) : ∀ (m : Nat) (a b : Int), b.natAbs < m → ∃ c : Int, c.natAbs = Int.gcd a b ∧ whlR (evT T call (.cmp .ne (.var 1) (.int 0))) (evSs T call w0 (.cons (.par 0 1 (.var 1) (.bin .mod (.var 0) (.var 1))) .nil)) m [some (.v (.int a)), some (.v (.int b))] st = .nx [some (.v (.int c)), some (.v (.int 0))] st
  | 0, a, b, h => absurd h (Nat.not_lt_zero _)
  | m + 1, a, b, h => by
    have ht : evT T call (.cmp .ne (.var 1) (.int 0)) [some (.v (.int a)), some (.v (.int b))] st = .ok (!(b == 0)) st := rfl
    unfold whlR
    rw [ht]
    by_cases hb : b = 0
    · subst hb
      exact ⟨a, by rw [Int.gcd_zero_right], rfl⟩
    · have e : (!(b == 0)) = true := by simpa using hb
      rw [e]
      have hbd : evSs T call w0 (.cons (.par 0 1 (.var 1) (.bin .mod (.var 0) (.var 1))) .nil) [some (.v (.int a)), some (.v (.int b))] st = .nx [some (.v (.int b)), some (.v (.int (a.fmod b)))] st := by
        simp [evSs, evS, ev, slotV, binD, intOp, Res.fl, Res.bind, hb]
      dsimp only
      rw [hbd]
      obtain ⟨c, h1, h2⟩ := loop' T call w0 m b (a.fmod b) (by have := fmod_lt a hb; omega)
      exact ⟨c, by rw [h1, gcd_fmod], h2⟩
theorem cdiv' (K : AmtOK P I) (a b : Int) (h : b.natAbs < wf) : rnP P wf (n + 1) I.cd [.int a, .int b] st = .ok (.int (Int.gcd a b : Nat)) st := by
  obtain ⟨c, h1, h2⟩ := loop' (st := st) P.tab (rnP P wf n) wf wf a b h
  rw [run_fn' K.cd rfl rfl]
  show endF false (evSs P.tab (rnP P wf n) wf tCd [some (.v (.int a)), some (.v (.int b))] st) = _
  unfold tCd
  simp only [evSs, evS]
  simp only [evSs, evS] at h2
  rw [h2]
  simp only [ev, slotV, List.getElem?_cons_zero, Res.bind_ok, bltD, Res.fl_ok, endF]
  rw [← h1]
  congr 2
  split <;> omega
theorem pos_gcd' {a b : Int} (hb : b ≠ 0) : 0 < (Int.gcd a b : Int) := by
  have : Int.gcd a b ≠ 0 := fun z => hb (Int.gcd_eq_zero_iff.mp z).2
  omega
/-- Amount(a, b) -/
theorem make' (K : AmtOK P I) (hwf : 2 ^ 4096 ≤ wf) (a b : Int) (hb : b ≠ 0) (h1 : a.natAbs < 2 ^ 4095) (h2 : b.natAbs < 2 ^ 4095) : rnP P wf (n + 2) I.init [.int a, .int b] st = .ok (amD I (Rat.divInt a b)) st := by
  have p4 : 2 ^ 4095 ≤ 2 ^ 4096 := Nat.pow_le_pow_right (by decide) (by decide)
  have hg := pos_gcd' (a := a) hb
  have hgl : (Int.gcd a b : Int).natAbs ≤ b.natAbs := by
    rw [Int.natAbs_natCast]
    exact Nat.le_of_dvd (by omega) (Int.gcd_dvd_natAbs_right a b)
  rw [run_in' K.init rfl rfl]
  show endI I.c (evSs P.tab (rnP P wf (n + 1)) wf (tInit I.isint I.cd I.fo I.fu) [some (.self I.c []), some (.v (.int a)), some (.v (.int b)), none, none] st) = _
  unfold tInit
  have c1 := cdiv' (st := st) (n := n) (wf := wf) K a b (by omega)
  have i1 : ∀ i : Int, rnP P wf (n + 1) I.isint [.int i] st = .ok (.bl true) st := fun i => is_int' K i
  have hb' : (b == 0) = false := by simpa using hb
  have w1 : wide a = true := wide_of' (Nat.lt_of_lt_of_le h1 p4)
  have w2 : wide b = true := wide_of' (Nat.lt_of_lt_of_le h2 p4)
  have wg : wide (Int.gcd a b : Int) = true := wide_of' (by omega)
  have u1 : wide 1 = true := wide_of' (by decide)
  have u2 : wide (-1) = true := wide_of' (by decide)
  have n1 : wide (-a) = true := wide_of' (by rw [Int.natAbs_neg]; omega)
  have n2 : wide (-b) = true := wide_of' (by rw [Int.natAbs_neg]; omega)
  have ne := K.ne
  by_cases hp : 0 < b
  · have hdp : decide (0 < b) = true := decide_eq_true hp
    simp [evSs, evS, evT, ev, evs, evOr, evAnd, slotV, i1, c1, Res.fl, Res.bind, truD, cmpD, eqR, eqD, plain, deep, hb', hp, hdp, hb, binI', mulI', fdivI', u1, w1, w2, wg, hg, putL, K.ffo, K.ffu, ne, endI, amD]
    refine ⟨?_, ?_⟩
    · rw [Rat.num_divInt, Int.sign_eq_one_of_pos hp, Int.one_mul, Int.gcd_comm]
    · rw [Rat.den_divInt, if_neg hb, Int.natCast_ediv, Int.gcd_comm]
      congr 1
      omega
  · have hn : b < 0 := by omega
    have hdp : decide (0 < b) = false := decide_eq_false hp
    have m1 : intOp .mul (-1) a st = .ok (.int (-a)) st := by rw [mulI' u2 w1, Int.neg_one_mul]
    have m2 : intOp .mul (-1) b st = .ok (.int (-b)) st := by rw [mulI' u2 w2, Int.neg_one_mul]
    simp [evSs, evS, evT, ev, evs, evOr, evAnd, slotV, i1, c1, Res.fl, Res.bind, truD, cmpD, eqR, eqD, plain, deep, hb', hp, hdp, hb, negD, binI', m1, m2, fdivI', n1, n2, wg, hg, putL, K.ffo, K.ffu, ne, endI, amD]
    refine ⟨?_, ?_⟩
    · rw [Rat.num_divInt, Int.sign_eq_neg_one_of_neg hn, Int.neg_one_mul, Int.gcd_comm]
    · rw [Rat.den_divInt, if_neg hb, Int.natCast_ediv, Int.gcd_comm]
      congr 1
      omega
theorem make_ev (K : AmtOK P I) (call : Nat → List D → Store → Res D) (as : Cs) (ds : List D) (ρ : Env) : ev P.tab call (.make I.c as ds) ρ st = (evs P.tab call as ρ st).bind fun xs st1 => call I.init (xs ++ ds) st1 := by
  obtain ⟨k, h1, h2⟩ := K.cl
  simp only [ev, h1, h2]
theorem pw' {a k : Nat} (h : a < 2 ^ k) (hk : k ≤ 4095) : a < 2 ^ 4095 := Nat.lt_of_lt_of_le h (Nat.pow_le_pow_right (by decide) hk)
theorem isi_am (r : Rat) : isiD P.tab (amD I r) (.cls I.c) = some true := by simp [isiD, amD]
theorem as_am' (K : AmtOK P I) (r : Rat) : rnP P wf (n + 1) I.asam [amD I r] st = .ok (amD I r) st := by
  rw [run_fn' K.asam rfl rfl]
  show endF false (evSs P.tab (rnP P wf n) wf (tAsA I.c I.isint) [some (.v (amD I r))] st) = _
  unfold tAsA
  simp only [evSs, evS, evT, ev, slotV, List.getElem?_cons_zero, Res.bind_ok, isi_am, truD, Res.fl_ok, if_true, endF]
theorem as_int' (K : AmtOK P I) (hwf : 2 ^ 4096 ≤ wf) (i : Int) (h : i.natAbs < 2 ^ 4095) : rnP P wf (n + 3) I.asam [.int i] st = .ok (amD I (i : Rat)) st := by
  have m := make' (st := st) (n := n) K hwf i 1 (by decide) h (pw' (k := 1) (by decide) (by decide))
  have e : Rat.divInt i 1 = (i : Rat) := Rat.num_divInt_den (i : Rat)
  rw [e] at m
  have i1 : rnP P wf (n + 2) I.isint [.int i] st = .ok (.bl true) st := is_int' K i
  rw [run_fn' K.asam rfl rfl]
  show endF false (evSs P.tab (rnP P wf (n + 2)) wf (tAsA I.c I.isint) [some (.v (.int i))] st) = _
  have ei : isiD P.tab (.int i) (.cls I.c) = some false := rfl
  unfold tAsA
  simp only [evSs, evS, evT, make_ev K]
  simp [ev, evs, slotV, ei, i1, m, Res.fl, Res.bind, truD, endF]
/-- what an operand stands for -/
inductive OpQ (I : AmtI) : D → Rat → Prop where
  | am (r : Rat) : OpQ I (amD I r) r
  | int (i : Int) : OpQ I (.int i) i
theorem as_op' (K : AmtOK P I) (hwf : 2 ^ 4096 ≤ wf) {d : D} {r : Rat} {k : Nat} (o : OpQ I d r) (h : Sz k r) (hk : k ≤ 4095) : rnP P wf (n + 3) I.asam [d] st = .ok (amD I r) st := by
  cases o with
  | am r => exact as_am' K r
  | int i => exact as_int' K hwf i (pw' h.1 hk)
theorem add' (K : AmtOK P I) (hwf : 2 ^ 4096 ≤ wf) {j : Nat} (hj : P.fn[j]? = some ⟨4, 2, tAdd I.c I.asam I.fo I.fu, none, false⟩) {d : D} {a b : Rat} (o : OpQ I d b) (ha : Sz 1000 a) (hb : Sz 1000 b) : rnP P wf (n + 4) j [amD I a, d] st = .ok (amD I (a + b)) st := by
  have c := as_op' (st := st) (n := n) K hwf o hb (by decide)
  have m := make' (st := st) (n := n + 1) K hwf (a.num * b.den + b.num * a.den) ((a.den : Int) * b.den) (den_neR a b) (pw' (num_ltR ha hb) (by decide)) (pw' (by rw [Int.natAbs_mul]; exact mul_lt2 (ndR ha) (ndR hb)) (by decide))
  rw [← add_isR] at m
  have w1 := wideS' ha.1 (by decide)
  have w2 := wideS' hb.1 (by decide)
  have w3 := wideS' (ndR ha) (by decide)
  have w4 := wideS' (ndR hb) (by decide)
  rw [run_fn' hj rfl rfl]
  show endF false (evSs P.tab (rnP P wf (n + 3)) wf (tAdd I.c I.asam I.fo I.fu) [some (.v (amD I a)), some (.v d), none, none] st) = _
  unfold tAdd
  simp only [evSs, evS, make_ev K]
  simp [ev, evs, slotV, at_fo K, at_fu K, binI', addI', mulI', c, Res.fl, Res.bind, w1, w2, w3, w4, m, endF]
theorem mul' (K : AmtOK P I) (hwf : 2 ^ 4096 ≤ wf) {j : Nat} (hj : P.fn[j]? = some ⟨3, 2, tMul I.c I.asam I.fo I.fu, none, false⟩) {d : D} {a b : Rat} (o : OpQ I d b) (ha : Sz 1000 a) (hb : Sz 1000 b) : rnP P wf (n + 4) j [amD I a, d] st = .ok (amD I (a * b)) st := by
  have c := as_op' (st := st) (n := n) K hwf o hb (by decide)
  have m := make' (st := st) (n := n + 1) K hwf (a.num * b.num) ((a.den : Int) * b.den) (den_neR a b) (pw' (by rw [Int.natAbs_mul]; exact mul_lt2 ha.1 hb.1) (by decide)) (pw' (by rw [Int.natAbs_mul]; exact mul_lt2 (ndR ha) (ndR hb)) (by decide))
  rw [← mul_isR] at m
  have w1 := wideS' ha.1 (by decide)
  have w2 := wideS' hb.1 (by decide)
  have w3 := wideS' (ndR ha) (by decide)
  have w4 := wideS' (ndR hb) (by decide)
  rw [run_fn' hj rfl rfl]
  show endF false (evSs P.tab (rnP P wf (n + 3)) wf (tMul I.c I.asam I.fo I.fu) [some (.v (amD I a)), some (.v d), none] st) = _
  unfold tMul
  simp only [evSs, evS, make_ev K]
  simp [ev, evs, slotV, at_fo K, at_fu K, binI', addI', mulI', c, Res.fl, Res.bind, w1, w2, w3, w4, m, endF]
theorem neg' (K : AmtOK P I) (hwf : 2 ^ 4096 ≤ wf) {j : Nat} (hj : P.fn[j]? = some ⟨1, 1, tNeg I.c I.fo I.fu, none, false⟩) {a : Rat} (ha : Sz 1000 a) : rnP P wf (n + 3) j [amD I a] st = .ok (amD I (-a)) st := by
  have m := make' (st := st) (n := n) K hwf (-a.num) a.den (den0R a) (pw' (k := 1000) (by rw [Int.natAbs_neg]; exact ha.1) (by decide)) (pw' (ndR ha) (by decide))
  have e : Rat.divInt (-a.num) a.den = -a := by rw [← Rat.neg_divInt, Rat.num_divInt_den]
  rw [e] at m
  rw [run_fn' hj rfl rfl]
  show endF false (evSs P.tab (rnP P wf (n + 2)) wf (tNeg I.c I.fo I.fu) [some (.v (amD I a))] st) = _
  unfold tNeg
  simp only [evSs, evS, make_ev K]
  simp [ev, evs, slotV, at_fo K, at_fu K, negD, Res.fl, Res.bind, m, endF]
theorem cmp' (K : AmtOK P I) (hwf : 2 ^ 4096 ≤ wf) {j : Nat} (hj : P.fn[j]? = some ⟨5, 2, tCmp I.asam I.fo I.fu, none, false⟩) {d : D} {a b : Rat} (o : OpQ I d b) (ha : Sz 1000 a) (hb : Sz 1000 b) : rnP P wf (n + 4) j [amD I a, d] st = .ok (.int (cmpQ a b)) st := by
  have c := as_op' (st := st) (n := n) K hwf o hb (by decide)
  have w1 := wideS' ha.1 (by decide)
  have w2 := wideS' hb.1 (by decide)
  have w3 := wideS' (ndR ha) (by decide)
  have w4 := wideS' (ndR hb) (by decide)
  rw [run_fn' hj rfl rfl]
  show endF false (evSs P.tab (rnP P wf (n + 3)) wf (tCmp I.asam I.fo I.fu) [some (.v (amD I a)), some (.v d), none, none, none] st) = _
  unfold tCmp
  simp [evSs, evS, evT, ev, evs, slotV, at_fo K, at_fu K, binI', addI', subI', mulI', c, Res.fl, Res.bind, w1, w2, w3, w4, endF, cmpD, bltD, cmpQ, Rat.lt_iff]
theorem pair' (K : AmtOK P I) {j : Nat} (hj : P.fn[j]? = some ⟨1, 1, tPair I.fo I.fu, none, false⟩) (a : Rat) : rnP P wf (n + 1) j [amD I a] st = .ok (.tup [.int a.num, .int a.den]) st := by
  rw [run_fn' hj rfl rfl]
  show endF false (evSs P.tab (rnP P wf n) wf (tPair I.fo I.fu) [some (.v (amD I a))] st) = _
  unfold tPair
  simp [evSs, evS, ev, evs, slotV, at_fo K, at_fu K, Res.fl, Res.bind, endF]
theorem down' (K : AmtOK P I) {j : Nat} (hj : P.fn[j]? = some ⟨1, 1, tDown I.fo I.fu, none, false⟩) {a : Rat} (ha : Sz 1000 a) : rnP P wf (n + 1) j [amD I a] st = .ok (.int a.floor) st := by
  have w1 := wideS' ha.1 (by decide)
  have w3 := wideS' (ndR ha) (by decide)
  have p : 0 < (a.den : Int) := by have := a.den_pos; omega
  rw [run_fn' hj rfl rfl]
  show endF false (evSs P.tab (rnP P wf n) wf (tDown I.fo I.fu) [some (.v (amD I a))] st) = _
  unfold tDown
  simp only [evSs, evS, ev, slotV, at_fo K, at_fu K, binI', fdivI' p w1 w3, Res.fl, Res.bind, endF, List.getElem?_cons_zero, Rat.floor_def]
theorem up' (K : AmtOK P I) {j : Nat} (hj : P.fn[j]? = some ⟨1, 1, tUp I.fo I.fu, none, false⟩) {a : Rat} (ha : Sz 1000 a) : rnP P wf (n + 1) j [amD I a] st = .ok (.int (-(-a).floor)) st := by
  have w1 : wide (-a.num) = true := wideS' (k := 1000) (by rw [Int.natAbs_neg]; exact ha.1) (by decide)
  have w3 := wideS' (ndR ha) (by decide)
  have p : 0 < (a.den : Int) := by have := a.den_pos; omega
  rw [run_fn' hj rfl rfl]
  show endF false (evSs P.tab (rnP P wf n) wf (tUp I.fo I.fu) [some (.v (amD I a))] st) = _
  unfold tUp
  simp only [evSs, evS, ev, slotV, at_fo K, at_fu K, binI', negD, fdivI' p w1 w3, Res.fl, Res.bind, endF, List.getElem?_cons_zero, Rat.floor_def, neg_numR, neg_denR]
/-- an own method of two, by an operator -/
theorem bin_am (K : AmtOK P I) (call : Nat → List D → Store → Res D) {op : Bo} {m r j : Nat} (h : opN op = some (m, r)) (hm : methOf P.tab I.c m = some j) (a b : Rat) : binD P.tab call op (amD I a) (amD I b) st = call j [amD I a, amD I b] st := by
  unfold binD amD
  dsimp only
  rw [h]
  dsimp only
  rw [hm]
  simp
theorem bin_ai (K : AmtOK P I) (call : Nat → List D → Store → Res D) {op : Bo} {m r j : Nat} (h : opN op = some (m, r)) (hm : methOf P.tab I.c m = some j) (a : Rat) (i : Int) : binD P.tab call op (amD I a) (.int i) st = call j [amD I a, .int i] st := by
  unfold binD amD
  dsimp only
  rw [h]
  dsimp only
  rw [hm]
theorem bin_ia (K : AmtOK P I) (call : Nat → List D → Store → Res D) {op : Bo} {m r j j0 : Nat} (h : opN op = some (m, r)) (hr : methOf P.tab I.c r = some j) (hm : methOf P.tab I.c m = some j0) (a : Rat) (i : Int) : binD P.tab call op (.int i) (amD I a) st = call j [amD I a, .int i] st := by
  unfold binD amD
  dsimp only
  rw [h]
  dsimp only
  rw [hr, hm]
theorem neg_am (K : AmtOK P I) (call : Nat → List D → Store → Res D) {j : Nat} (hm : methOf P.tab I.c nNeg = some j) (a : Rat) : negD P.tab call (amD I a) st = call j [amD I a] st := by
  unfold negD amD
  dsimp only
  rw [hm]
theorem sub' (K : AmtOK P I) (hwf : 2 ^ 4096 ≤ wf) {j jn ja : Nat} (hj : P.fn[j]? = some ⟨2, 2, tSub I.asam, none, false⟩) (mn : methOf P.tab I.c nNeg = some jn) (hn : P.fn[jn]? = some ⟨1, 1, tNeg I.c I.fo I.fu, none, false⟩) (ma : methOf P.tab I.c nAdd = some ja) (hja : P.fn[ja]? = some ⟨4, 2, tAdd I.c I.asam I.fo I.fu, none, false⟩)
    {d : D} {a b : Rat} (o : OpQ I d b) (ha : Sz 1000 a) (hb : Sz 1000 b) : rnP P wf (n + 5) j [amD I a, d] st = .ok (amD I (a - b)) st := by
  have c := as_op' (st := st) (n := n + 1) K hwf o hb (by decide)
  have c2 := neg' (st := st) (n := n + 1) K hwf hn hb
  have c3 := add' (st := st) (n := n) K hwf hja (OpQ.am (-b)) ha (Sz_neg hb)
  rw [run_fn' hj rfl rfl]
  show endF false (evSs P.tab (rnP P wf (n + 4)) wf (tSub I.asam) [some (.v (amD I a)), some (.v d)] st) = _
  have e1 := neg_am (st := st) K (rnP P wf (n + 4)) mn b
  have e2 := bin_am (st := st) K (rnP P wf (n + 4)) (op := .add) rfl ma a (-b)
  unfold tSub
  simp only [evSs, evS, ev, evs, slotV, c, c2, c3, e1, e2, Res.fl, Res.bind, endF, List.getElem?_cons_zero, List.getElem?_cons_succ, List.append_nil, Rat.sub_eq_add_neg]
theorem rsub' (K : AmtOK P I) (hwf : 2 ^ 4096 ≤ wf) {j jn ja : Nat} (hj : P.fn[j]? = some ⟨2, 2, tRsub, none, false⟩) (mn : methOf P.tab I.c nNeg = some jn) (hn : P.fn[jn]? = some ⟨1, 1, tNeg I.c I.fo I.fu, none, false⟩) (ma : methOf P.tab I.c nAdd = some ja) (hja : P.fn[ja]? = some ⟨4, 2, tAdd I.c I.asam I.fo I.fu, none, false⟩)
    {i : Int} {a : Rat} (ha : Sz 1000 a) (hb : Sz 1000 (i : Rat)) : rnP P wf (n + 5) j [amD I a, .int i] st = .ok (amD I (-a + i)) st := by
  have c2 := neg' (st := st) (n := n + 1) K hwf hn ha
  have c3 := add' (st := st) (n := n) K hwf hja (OpQ.int i) (Sz_neg ha) hb
  rw [run_fn' hj rfl rfl]
  show endF false (evSs P.tab (rnP P wf (n + 4)) wf tRsub [some (.v (amD I a)), some (.v (.int i))] st) = _
  have e1 := neg_am (st := st) K (rnP P wf (n + 4)) mn a
  have e2 := bin_ai (st := st) K (rnP P wf (n + 4)) (op := .add) rfl ma (-a) i
  unfold tRsub
  simp only [evSs, evS, ev, evs, slotV, c2, c3, e1, e2, Res.fl, Res.bind, endF, List.getElem?_cons_zero, List.getElem?_cons_succ, List.append_nil]
end
end Eng

set_option exponentiation.threshold 5000
/-! The interpreter's steps as rules that run forward: what is left to be shown stands behind each step. -/
namespace Eng
open PySem
def OkR {α : Type} (r : Res α) (Q : α → Store → Prop) : Prop := ∃ a st, r = .ok a st ∧ Q a st
theorem OkR.ok {α : Type} {Q : α → Store → Prop} {a : α} {st : Store} (h : Q a st) : OkR (.ok a st) Q := ⟨a, st, rfl, h⟩
theorem OkR.of {α : Type} {Q : α → Store → Prop} {r : Res α} {a : α} {st : Store} (e : r = .ok a st) (h : Q a st) : OkR r Q := ⟨a, st, e, h⟩
theorem OkR.bind {α β : Type} {Q : β → Store → Prop} {r : Res α} {f : α → Store → Res β} (h : OkR r fun a st => OkR (f a st) Q) : OkR (r.bind f) Q := by
  obtain ⟨a, st, e, h⟩ := h
  rw [e]
  exact h
theorem OkR.mono {α : Type} {Q Q' : α → Store → Prop} {r : Res α} (h : OkR r Q) (k : ∀ a st, Q a st → Q' a st) : OkR r Q' := by
  obtain ⟨a, st, e, h⟩ := h
  exact ⟨a, st, e, k a st h⟩
def Ss.app : Ss → Ss → Ss
  | .nil, b => b
  | .cons s r, b => .cons s (r.app b)
theorem app_is' {T : Tab} {call : Nat → List D → Store → Res D} {wf : Nat} : ∀ (a b : Ss) (ρ : Env) (st : Store), evSs T call wf (a.app b) ρ st = (match evSs T call wf a ρ st with
    | .nx ρ1 st1 => evSs T call wf b ρ1 st1
    | f => f)
  | .nil, b, ρ, st => by rw [Ss.app, evSs]
  | .cons s r, b, ρ, st => by
    rw [Ss.app, evSs, evSs]
    cases e : evS T call wf s ρ st with
    | nx ρ1 st1 => exact app_is' r b ρ1 st1
    | _ => rfl
theorem at_nat {xs : List D} {i : Nat} : atD xs (i : Int) = xs[i]? := by
  unfold atD
  rw [if_pos (Int.natCast_nonneg i), Int.toNat_natCast]
theorem at_map {α : Type} {f : α → D} {l : List α} {i : Nat} {a : α} (h : l[i]? = some a) : atD (l.map f) (i : Int) = some (f a) := by
  rw [at_nat, List.getElem?_map, h]
  rfl
theorem at_in {xs : List D} {i : Int} (h0 : 0 ≤ i) (h1 : i < xs.length) : ∃ d, atD xs i = some d ∧ d ∈ xs := by
  obtain ⟨n, rfl⟩ := Int.eq_ofNat_of_zero_le h0
  have hn : n < xs.length := by omega
  exact ⟨xs[n], by rw [at_nat, List.getElem?_eq_getElem hn], List.getElem_mem hn⟩
theorem strs_map : ∀ ss : List Str, strsD (ss.map .str) = some ss
  | [] => rfl
  | s :: r => by simp only [List.map_cons, strsD, strs_map r]; rfl
theorem enum_map {α : Type} (f : α → D) (l : List α) : enumD (l.map f) = l.zipIdx.map fun p => D.tup [.int p.2, f p.1] := by
  unfold enumD
  rw [List.zipIdx_map, List.map_map]
  rfl
namespace Raw
section
variable {T : Tab} {call : Nat → List D → Store → Res D} {ρ : Env} {st : Store} {Q : D → Store → Prop}
abbrev EV (T : Tab) (call : Nat → List D → Store → Res D) (c : C) (ρ : Env) (st : Store) (Q : D → Store → Prop) : Prop := OkR (ev T call c ρ st) Q
abbrev EVS (T : Tab) (call : Nat → List D → Store → Res D) (c : Cs) (ρ : Env) (st : Store) (Q : List D → Store → Prop) : Prop := OkR (evs T call c ρ st) Q
abbrev EVT (T : Tab) (call : Nat → List D → Store → Res D) (c : C) (ρ : Env) (st : Store) (Q : Bool → Store → Prop) : Prop := OkR (evT T call c ρ st) Q
theorem x_nil {Q : List D → Store → Prop} (q : Q [] st) : EVS T call .nil ρ st Q := by rw [EVS, evs]; exact .ok q
theorem x_cons {c : C} {r : Cs} {Q : List D → Store → Prop} (h : EV T call c ρ st fun d st1 => EVS T call r ρ st1 fun ds st2 => Q (d :: ds) st2) : EVS T call (.cons c r) ρ st Q := by
  rw [EVS, evs]
  exact (h.mono fun d st1 h => (h.mono fun ds st2 h => .ok h).bind).bind
theorem x_var {i : Nat} {d : D} (h : slotV ρ i = some d) (q : Q d st) : EV T call (.var i) ρ st Q := by rw [EV, ev, h]; exact .ok q
theorem x_bor {i : Nat} {xs : List D} (h : slotO ρ i = some xs) (q : Q (.lst xs) st) : EV T call (.bor i) ρ st Q := by rw [EV, ev, h]; exact .ok q
theorem x_non (q : Q .non st) : EV T call .non ρ st Q := by rw [EV, ev]; exact .ok q
theorem x_bl {b : Bool} (q : Q (.bl b) st) : EV T call (.bl b) ρ st Q := by rw [EV, ev]; exact .ok q
theorem x_int {i : Int} (q : Q (.int i) st) : EV T call (.int i) ρ st Q := by rw [EV, ev]; exact .ok q
theorem x_str {s : Str} (q : Q (.str s) st) : EV T call (.str s) ρ st Q := by rw [EV, ev]; exact .ok q
theorem x_gco {k : Nat} {d : D} (h : T.con[k]? = some d) (q : Q d st) : EV T call (.gco k) ρ st Q := by rw [EV, ev, h]; exact .ok q
theorem x_tup {as : Cs} (h : EVS T call as ρ st fun xs st1 => Q (.tup xs) st1) : EV T call (.tup as) ρ st Q := by
  rw [EV, ev]; exact (h.mono fun _ _ h => .ok h).bind
theorem x_lst {as : Cs} (h : EVS T call as ρ st fun xs st1 => Q (.lst xs) st1) : EV T call (.lst as) ρ st Q := by
  rw [EV, ev]; exact (h.mono fun _ _ h => .ok h).bind
theorem x_bin {op : Bo} {a b : C} (h : EV T call a ρ st fun x st1 => EV T call b ρ st1 fun y st2 => OkR (binD T call op x y st2) Q) : EV T call (.bin op a b) ρ st Q := by
  rw [EV, ev]; exact (h.mono fun _ _ h => h.bind).bind
theorem x_cmp {op : Co} {a b : C} (h : EV T call a ρ st fun x st1 => EV T call b ρ st1 fun y st2 => OkR (cmpD T call op x y st2) Q) : EV T call (.cmp op a b) ρ st Q := by
  rw [EV, ev]; exact (h.mono fun _ _ h => h.bind).bind
theorem x_neg {a : C} (h : EV T call a ρ st fun x st1 => OkR (negD T call x st1) Q) : EV T call (.neg a) ρ st Q := by
  rw [EV, ev]; exact h.bind
theorem x_not {a : C} (h : EV T call a ρ st fun x st1 => ∃ b, x = .bl b ∧ Q (.bl (!b)) st1) : EV T call (.not a) ρ st Q := by
  rw [EV, ev]
  refine (h.mono fun x st1 h => ?_).bind
  obtain ⟨b, rfl, h⟩ := h
  exact .ok h
theorem x_idx {a b : C} (h : EV T call a ρ st fun x st1 => EV T call b ρ st1 fun y st2 => OkR (idxD x y st2) Q) : EV T call (.idx a b) ρ st Q := by
  rw [EV, ev]; exact (h.mono fun _ _ h => h.bind).bind
theorem x_sl {a lo hi : C} (h : EV T call a ρ st fun x st1 => EV T call lo ρ st1 fun l st2 => EV T call hi ρ st2 fun h st3 => OkR (slD lo.isNon hi.isNon x l h st3) Q) : EV T call (.sl a lo hi) ρ st Q := by
  rw [EV, ev]; exact (h.mono fun _ _ h => (h.mono fun _ _ h => h.bind).bind).bind
theorem x_call {j : Nat} {as : Cs} (h : EVS T call as ρ st fun xs st1 => OkR (call j xs st1) Q) : EV T call (.call j as []) ρ st Q := by
  rw [EV, ev]; refine (h.mono fun xs st1 h => ?_).bind
  rw [List.append_nil]; exact h
theorem x_callD {j : Nat} {as : Cs} {ds : List D} (h : EVS T call as ρ st fun xs st1 => OkR (call j (xs ++ ds) st1) Q) : EV T call (.call j as ds) ρ st Q := by
  rw [EV, ev]; exact h.bind
theorem x_callT {j : Nat} {as : Cs} (h : EVS T call as ρ st fun xs st1 => xs.length ≤ 1000 ∧ OkR (call j [.tup xs] st1) Q) : EV T call (.callT j as) ρ st Q := by
  rw [EV, ev]; refine (h.mono fun xs st1 h => ?_).bind
  rw [if_pos h.1]; exact h.2
theorem x_kcall {j : Nat} {as : Cs} (h : EVS T call as ρ st fun xs st1 => OkR (call j xs st1) Q) : EV T call (.kcall j as) ρ st Q := by
  rw [EV, ev]; exact h.bind
theorem x_make {c : Nat} {k : Cls} {as : Cs} {ds : List D} (hc : T.cls[c]? = some k) (h : EVS T call as ρ st fun xs st1 => OkR (call k.init (xs ++ ds) st1) Q) : EV T call (.make c as ds) ρ st Q := by
  rw [EV, ev, hc]; exact h.bind
theorem x_makeS {c : Nat} {k : Cls} {a : C} (hc : T.cls[c]? = some k) (h : EV T call a ρ st fun x st1 => ∃ xs, x = .tup xs ∧ OkR (call k.init xs st1) Q) : EV T call (.makeS c a) ρ st Q := by
  rw [EV, ev, hc]; refine (h.mono fun x st1 h => ?_).bind
  obtain ⟨xs, rfl, h⟩ := h
  exact h
theorem x_attr {f : Nat} {o : C} (h : EV T call o ρ st fun x st1 => OkR (attrD T call f x st1) Q) : EV T call (.attr f o) ρ st Q := by
  rw [EV, ev]; exact h.bind
theorem x_meth {m : Nat} {o : C} {as : Cs} (h : EV T call o ρ st fun x st1 => EVS T call as ρ st1 fun xs st2 => OkR (methD T call m x xs st2) Q) : EV T call (.meth m o as) ρ st Q := by
  rw [EV, ev]; exact (h.mono fun _ _ h => h.bind).bind
theorem x_blt {b : Bl} {a : C} (h : EV T call a ρ st fun x st1 => OkR (bltD T call b x st1) Q) : EV T call (.blt b a) ρ st Q := by
  rw [EV, ev]; exact h.bind
theorem x_isi {a : C} {t : Ty} (h : EV T call a ρ st fun x st1 => ∃ b, isiD T x t = some b ∧ Q (.bl b) st1) : EV T call (.isi a t) ρ st Q := by
  rw [EV, ev]; refine (h.mono fun x st1 h => ?_).bind
  obtain ⟨b, e, h⟩ := h
  rw [e]; exact .ok h
theorem x_dget {o : C} {k : Nat} (h : EV T call o ρ st fun x st1 => OkR (dgetD x k st1) Q) : EV T call (.dget o k) ρ st Q := by
  rw [EV, ev]; exact h.bind
theorem x_newc {a : C} (h : EV T call a ρ st fun x st1 => OkR (newcD x st1) Q) : EV T call (.newc a) ρ st Q := by
  rw [EV, ev]; exact h.bind
theorem x_popc {o i : C} (h : EV T call o ρ st fun x st1 => isLk x st1 = true ∧ EV T call i ρ st1 fun y st2 => OkR (popD x y st2) Q) : EV T call (.popc o i) ρ st Q := by
  rw [EV, ev]; refine (h.mono fun x st1 h => ?_).bind
  rw [if_pos h.1]; exact h.2.bind
theorem x_max2 {a b : C} (h : EV T call a ρ st fun x st1 => EV T call b ρ st1 fun y st2 => OkR (max2D x y st2) Q) : EV T call (.max2 a b) ρ st Q := by
  rw [EV, ev]; exact (h.mono fun _ _ h => h.bind).bind
theorem x_min2 {a b : C} (h : EV T call a ρ st fun x st1 => EV T call b ρ st1 fun y st2 => OkR (min2D x y st2) Q) : EV T call (.min2 a b) ρ st Q := by
  rw [EV, ev]; exact (h.mono fun _ _ h => h.bind).bind
theorem x_repr {a : C} (h : EV T call a ρ st fun x st1 => OkR (reprD x st1) Q) : EV T call (.repr a) ρ st Q := by
  rw [EV, ev]; exact h.bind
theorem x_rev {a : C} (h : EV T call a ρ st fun x st1 => OkR (revD x st1) Q) : EV T call (.rev a) ρ st Q := by
  rw [EV, ev]; exact h.bind
theorem x_repl {as : Cs} {n : C} (h : EVS T call as ρ st fun xs st1 => EV T call n ρ st1 fun y st2 => OkR (replD xs y st2) Q) : EV T call (.repl as n) ρ st Q := by
  rw [EV, ev]; exact (h.mono fun _ _ h => h.bind).bind
theorem x_catb {i : Nat} {b : C} {xs : List D} (hs : slotO ρ i = some xs) (h : EV T call b ρ st fun y st1 => ∃ ys, y = .lst ys ∧ xs.length + ys.length ≤ 1000000 ∧ Q (.lst (xs ++ ys)) st1) : EV T call (.catb i b) ρ st Q := by
  rw [EV, ev]; refine (h.mono fun y st1 h => ?_).bind
  obtain ⟨ys, rfl, hl, h⟩ := h
  rw [hs]
  dsimp only
  rw [if_pos hl]; exact .ok h
theorem x_ite {t a b : C} (h : EVT T call t ρ st fun k st1 => (k = true → EV T call a ρ st1 Q) ∧ (k = false → EV T call b ρ st1 Q)) : EV T call (.ite t a b) ρ st Q := by
  obtain ⟨k, st1, e, h⟩ := h
  unfold evT at e
  obtain ⟨x, st2, e1, e2⟩ := Res.bind_is e
  rw [EV, ev, e1, Res.bind_ok, e2, Res.bind_ok]
  cases k with
  | true => exact h.1 rfl
  | false => exact h.2 rfl
theorem x_and1 {a : C} (h : EV T call a ρ st Q) : EV T call (.and (.cons a .nil)) ρ st Q := by
  rw [EV, ev, evAnd]; exact h
theorem x_and {a b : C} {r : Cs} (h : EV T call a ρ st fun x st1 => ∃ k, x = .bl k ∧ (k = true → EV T call (.and (.cons b r)) ρ st1 Q) ∧ (k = false → Q (.bl false) st1)) : EV T call (.and (.cons a (.cons b r))) ρ st Q := by
  rw [EV, ev, evAnd]; refine (h.mono fun x st1 h => ?_).bind
  obtain ⟨k, rfl, h1, h2⟩ := h
  cases k with
  | true =>
    have := h1 rfl
    rw [EV, ev] at this
    exact this
  | false => exact .ok (h2 rfl)
theorem x_or1 {a : C} (h : EV T call a ρ st Q) : EV T call (.or (.cons a .nil)) ρ st Q := by
  rw [EV, ev, evOr]; exact h
theorem x_or {a b : C} {r : Cs} (h : EV T call a ρ st fun x st1 => ∃ k, x = .bl k ∧ (k = false → EV T call (.or (.cons b r)) ρ st1 Q) ∧ (k = true → Q (.bl true) st1)) : EV T call (.or (.cons a (.cons b r))) ρ st Q := by
  rw [EV, ev, evOr]; refine (h.mono fun x st1 h => ?_).bind
  obtain ⟨k, rfl, h1, h2⟩ := h
  cases k with
  | false =>
    have := h1 rfl
    rw [EV, ev] at this
    exact this
  | true => exact .ok (h2 rfl)
theorem x_chain {o1 o2 : Co} {a b c : C} (h : EV T call a ρ st fun x st1 => EV T call b ρ st1 fun y st2 => OkR (cmpD T call o1 x y st2) fun r st3 => ∃ k, r = .bl k ∧ (k = true → EV T call c ρ st3 fun z st4 => OkR (cmpD T call o2 y z st4) Q) ∧ (k = false → Q (.bl false) st3)) : EV T call (.chain o1 o2 a b c) ρ st Q := by
  rw [EV, ev]
  refine (h.mono fun x st1 h => (h.mono fun y st2 h => (h.mono fun r st3 h => ?_).bind).bind).bind
  obtain ⟨k, rfl, h1, h2⟩ := h
  cases k with
  | true => exact (h1 rfl).bind
  | false => exact .ok (h2 rfl)
theorem x_dict {ks : List Nat} {as : Cs} (h : EVS T call as ρ st fun xs st1 => OkR (dictD ks xs st1) Q) : EV T call (.dict ks as) ρ st Q := by
  rw [EV, ev]; exact h.bind
theorem x_lrng {a : C} (h : EV T call a ρ st fun x st1 => OkR (lrngD x st1) Q) : EV T call (.lrng a) ρ st Q := by
  rw [EV, ev]; exact h.bind
/-! truth -/
theorem x_t {c : C} {Q : Bool → Store → Prop} (h : EV T call c ρ st fun x st1 => OkR (truD T call x st1) Q) : EVT T call c ρ st Q := by
  rw [EVT, evT]; exact h.bind
theorem t_bl {b : Bool} {Q : Bool → Store → Prop} (h : Q b st) : OkR (truD T call (.bl b) st) Q := .ok h
/-! operations -/
theorem o_add {i j : Int} (h : Q (.int (i + j)) st) : OkR (binD T call .add (.int i) (.int j) st) Q := .ok h
theorem o_sub {i j : Int} (h : Q (.int (i - j)) st) : OkR (binD T call .sub (.int i) (.int j) st) Q := .ok h
theorem o_mul {i j : Int} (h1 : wide i = true) (h2 : wide j = true) (h : Q (.int (i * j)) st) : OkR (binD T call .mul (.int i) (.int j) st) Q := by
  show OkR (intOp .mul i j st) Q
  rw [mulI'' h1 h2]; exact .ok h
where mulI'' {i j : Int} {st : Store} (h1 : wide i = true) (h2 : wide j = true) : intOp .mul i j st = .ok (.int (i * j)) st := by simp [intOp, h1, h2]
theorem o_fdiv {i j : Int} (h0 : 0 < j) (h1 : j < 1073741824) (h : Q (.int (i / j)) st) : OkR (binD T call .fdiv (.int i) (.int j) st) Q := by
  show OkR (intOp .fdiv i j st) Q
  refine .of (a := .int (i / j)) (st := st) ?_ h
  simp [intOp, h0, h1]
theorem o_fdivW {i j : Int} (h0 : 0 < j) (h2 : wide j = true) (h : Q (.int (i / j)) st) : OkR (binD T call .fdiv (.int i) (.int j) st) Q := by
  show OkR (intOp .fdiv i j st) Q
  refine .of (a := .int (i / j)) (st := st) ?_ h
  simp [intOp, h0, h2]
theorem o_mod {i j : Int} (h0 : j ≠ 0) (h : Q (.int (i.fmod j)) st) : OkR (binD T call .mod (.int i) (.int j) st) Q := by
  show OkR (intOp .mod i j st) Q
  refine .of (a := .int (i.fmod j)) (st := st) ?_ h
  simp [intOp, h0]
theorem o_catT {xs ys : List D} (h1 : xs.length + ys.length ≤ 1000000) (h : Q (.tup (xs ++ ys)) st) : OkR (binD T call .add (.tup xs) (.tup ys) st) Q := by
  refine .of (a := .tup (xs ++ ys)) (st := st) ?_ h
  simp [binD, h1]
theorem o_catL {xs ys : List D} (h1 : xs.length + ys.length ≤ 1000000) (h : Q (.lst (xs ++ ys)) st) : OkR (binD T call .add (.lst xs) (.lst ys) st) Q := by
  refine .of (a := .lst (xs ++ ys)) (st := st) ?_ h
  simp [binD, h1]
theorem o_repT {xs : List D} {k : Int} (h0 : xs ≠ []) (h1 : 1 ≤ k) (h2 : k ≤ 1000) (h3 : xs.length ≤ 1000) (h : Q (.tup (List.replicate k.toNat xs).flatten) st) : OkR (binD T call .mul (.tup xs) (.int k) st) Q := by
  refine .of (a := .tup (List.replicate k.toNat xs).flatten) (st := st) ?_ h
  simp [binD, h0, h1, h2, h3]
theorem o_rep {xs : List D} {k : Int} (h1 : -1000 ≤ k) (h2 : k ≤ 1000) (h3 : xs.length ≤ 1000) (h : Q (.lst (List.replicate k.toNat xs).flatten) st) : OkR (replD xs (.int k) st) Q := by
  refine .of (a := .lst (List.replicate k.toNat xs).flatten) (st := st) ?_ h
  simp [replD, h1, h2, h3]
theorem o_negI {i : Int} (h : Q (.int (-i)) st) : OkR (negD T call (.int i) st) Q := .ok h
theorem o_eqI {i j : Int} (h : Q (.bl (i == j)) st) : OkR (cmpD T call .eq (.int i) (.int j) st) Q := .of (a := .bl (i == j)) (st := st) (by simp [cmpD, eqR, plain, deep, eqD]) h
theorem o_neI {i j : Int} (h : Q (.bl (!(i == j))) st) : OkR (cmpD T call .ne (.int i) (.int j) st) Q := .of (a := .bl (!(i == j))) (st := st) (by simp [cmpD, eqR, plain, deep, eqD]) h
theorem o_lt {i j : Int} (h : Q (.bl (decide (i < j))) st) : OkR (cmpD T call .lt (.int i) (.int j) st) Q := .ok h
theorem o_le {i j : Int} (h : Q (.bl (decide (i ≤ j))) st) : OkR (cmpD T call .le (.int i) (.int j) st) Q := .ok h
theorem o_gt {i j : Int} (h : Q (.bl (decide (j < i))) st) : OkR (cmpD T call .gt (.int i) (.int j) st) Q := .ok h
theorem o_ge {i j : Int} (h : Q (.bl (decide (j ≤ i))) st) : OkR (cmpD T call .ge (.int i) (.int j) st) Q := .ok h
theorem o_eqS {a b : Str} (ha : plain (.str a) = true) (hb : plain (.str b) = true) (h : Q (.bl (a == b)) st) : OkR (cmpD T call .eq (.str a) (.str b) st) Q := .of (cmp_eqT T call ha hb st) h
theorem o_neS {a b : Str} (ha : plain (.str a) = true) (hb : plain (.str b) = true) (h : Q (.bl (!(a == b))) st) : OkR (cmpD T call .ne (.str a) (.str b) st) Q := by
  refine .of (a := .bl (!(a == b))) (st := st) ?_ h
  simp only [cmpD, eqR]
  rw [if_pos (by simp [ha, hb, deep])]
  simp only [eqD, Res.bind_ok]
/-- plain data compared -/
theorem o_eqP {x y : D} (h1 : ∀ c fs, x ≠ .ins c fs) (p1 : plain x = true) (p2 : plain y = true) (d1 : deep x ≤ 32) (d2 : deep y ≤ 32) (h : Q (.bl (eqD x y)) st) : OkR (cmpD T call .eq x y st) Q := by
  refine .of (a := .bl (eqD x y)) (st := st) ?_ h
  simp only [cmpD]
  unfold eqR
  split
  · exact absurd rfl (h1 _ _)
  · rw [if_pos (by simp [p1, p2, d1, d2])]; rfl
theorem o_neP {x y : D} (h1 : ∀ c fs, x ≠ .ins c fs) (p1 : plain x = true) (p2 : plain y = true) (d1 : deep x ≤ 32) (d2 : deep y ≤ 32) (h : Q (.bl (!(eqD x y))) st) : OkR (cmpD T call .ne x y st) Q := by
  refine .of (a := .bl (!(eqD x y))) (st := st) ?_ h
  simp only [cmpD]
  unfold eqR
  split
  · exact absurd rfl (h1 _ _)
  · rw [if_pos (by simp [p1, p2, d1, d2])]; rfl
theorem o_idxT {xs : List D} {i : Int} {d : D} (e : atD xs i = some d) (h : Q d st) : OkR (idxD (.tup xs) (.int i) st) Q := by
  refine .of (a := d) (st := st) ?_ h
  simp only [idxD, e]
theorem o_idxL {xs : List D} {i : Int} {d : D} (e : atD xs i = some d) (h : Q d st) : OkR (idxD (.lst xs) (.int i) st) Q := by
  refine .of (a := d) (st := st) ?_ h
  simp only [idxD, e]
theorem o_lenL {xs : List D} (h : Q (.int xs.length) st) : OkR (bltD T call .len (.lst xs) st) Q := .ok h
theorem o_lenT {xs : List D} (h : Q (.int xs.length) st) : OkR (bltD T call .len (.tup xs) st) Q := .ok h
theorem o_lenR {k : Nat} {xs : List D} (e : getL st k = some xs) (h : Q (.int xs.length) st) : OkR (bltD T call .len (.ref k) st) Q := by
  refine .of (a := .int xs.length) (st := st) ?_ h
  simp only [bltD, e]
theorem o_tupL {xs : List D} (h : Q (.tup xs) st) : OkR (bltD T call .tuple (.lst xs) st) Q := .ok h
theorem o_tupT {xs : List D} (h : Q (.tup xs) st) : OkR (bltD T call .tuple (.tup xs) st) Q := .ok h
theorem o_lstL {xs : List D} (h : Q (.lst xs) st) : OkR (bltD T call .list (.lst xs) st) Q := .ok h
theorem o_lstT {xs : List D} (h : Q (.lst xs) st) : OkR (bltD T call .list (.tup xs) st) Q := .ok h
theorem o_sum {xs : List D} {n : Int} (e : sumD xs 0 = some n) (h : Q (.int n) st) : OkR (bltD T call .sum (.lst xs) st) Q := by
  refine .of (a := .int n) (st := st) ?_ h
  simp only [bltD, e]
theorem o_min {i j : Int} (h : Q (.int (if j < i then j else i)) st) : OkR (min2D (.int i) (.int j) st) Q := .ok h
theorem o_rev {xs : List D} (h : Q (.lst xs.reverse) st) : OkR (revD (.lst xs) st) Q := .ok h
theorem o_newc {xs : List D} (h : Q (.ref st.length) (st ++ [.lk xs])) : OkR (newcD (.lst xs) st) Q := .ok h
theorem o_popc {k : Nat} {i : Int} {xs : List D} {d : D} (e : getL st k = some xs) (h0 : 0 ≤ i) (hd : xs[i.toNat]? = some d) (hl : xs.length ≤ 1000000) (h : Q d (st.set k (.lk (xs.eraseIdx i.toNat)))) : OkR (popD (.ref k) (.int i) st) Q := by
  refine .of (a := d) (st := st.set k (.lk (xs.eraseIdx i.toNat))) ?_ h
  have hlt : i.toNat < xs.length := (List.getElem?_eq_some_iff.mp hd).1
  simp only [popD, e, itIx]
  rw [if_pos h0, if_pos (by omega)]
  dsimp only
  rw [hd]
  dsimp only
  rw [if_pos hl]
theorem o_sortS {xs : List D} {ss : List Str} (e : strsD xs = some ss) (hl : ss.length < 64) (h : Q (.lst ((sortS ss).map .str)) st) : OkR (bltD T call .sorted (.lst xs) st) Q := by
  refine .of (a := .lst ((sortS ss).map .str)) (st := st) ?_ h
  simp only [bltD, e]
  rw [if_pos hl]
theorem o_sortST {xs : List D} {ss : List Str} (e : strsD xs = some ss) (hl : ss.length < 64) (h : Q (.lst ((sortS ss).map .str)) st) : OkR (bltD T call .sorted (.tup xs) st) Q := by
  refine .of (a := .lst ((sortS ss).map .str)) (st := st) ?_ h
  simp only [bltD, e]
  rw [if_pos hl]
/-! iterators -/
theorem i_seq {c : C} {Q : List D → Store → Prop} (h : EV T call c ρ st fun d st1 => ∃ xs, (d = .lst xs ∨ d = .tup xs) ∧ Q xs st1) : OkR (evIt T call (.seq c) ρ st) Q := by
  rw [evIt]
  refine (h.mono fun d st1 h => ?_).bind
  obtain ⟨xs, h | h, q⟩ := h <;> subst h <;> exact .ok q
theorem i_rng {a : C} {Q : List D → Store → Prop} (h : EV T call a ρ st fun d st1 => ∃ n : Nat, d = .int (n : Int) ∧ n < 1000000 ∧ Q ((List.range n).map fun i => D.int (i : Nat)) st1) : OkR (evIt T call (.rng1 a) ρ st) Q := by
  obtain ⟨d, st1, e, n, rfl, hn, q⟩ := h
  exact .of (it_rngN n e rfl hn) q
theorem i_enum {a : C} {Q : List D → Store → Prop} (h : EV T call a ρ st fun d st1 => ∃ xs, (d = .lst xs ∨ d = .tup xs) ∧ Q (enumD xs) st1) : OkR (evIt T call (.enum a) ρ st) Q := by
  rw [evIt]
  refine (h.mono fun d st1 h => ?_).bind
  obtain ⟨xs, h | h, q⟩ := h <;> subst h <;> exact .ok q
/-! comprehensions -/
/-- each element by a relation; J counts the turns -/
theorem x_lc {α : Type} {elt : C} {tg : List Nat} {it : It} (f : α → D) (as : List α) (R : α → D → Prop) (J : Nat → Store → Prop) (hit : OkR (evIt T call it ρ st) fun xs st1 => xs = as.map f ∧ J 0 st1) (hl : as.length ≤ 1000000)
    (H : ∀ j a, as[j]? = some a → ∀ st, J j st → ∃ ρ1, bindT tg (f a) (wipeE ρ tg) = some ρ1 ∧ EV T call elt ρ1 st fun d st1 => R a d ∧ J (j + 1) st1)
    (q : ∀ ds st1, L2R R as ds → J as.length st1 → Q (.lst ds) st1) : EV T call (.lc elt tg it .nil) ρ st Q := by
  obtain ⟨xs, st1, e, rfl, hJ⟩ := hit
  obtain ⟨ys, st2, e2, r, j⟩ := lc_cnt (R := R) (J := J) (elt := elt) (tg := tg) f as e hl hJ fun j a hj st hst => by
    obtain ⟨ρ1, b, d, st1, e, r, j⟩ := H j a hj st hst
    exact ⟨ρ1, d, st1, b, e, r, j⟩
  exact .of e2 (q ys st2 r j)
/-- each element is a value -/
theorem x_lcV {α : Type} {elt : C} {tg : List Nat} {it : It} (f g : α → D) (as : List α) (hit : OkR (evIt T call it ρ st) fun xs st1 => xs = as.map f ∧ st1 = st) (hl : as.length ≤ 1000000)
    (H : ∀ a ∈ as, ∃ ρ1, bindT tg (f a) (wipeE ρ tg) = some ρ1 ∧ EV T call elt ρ1 st fun d st1 => d = g a ∧ st1 = st)
    (q : Q (.lst (as.map g)) st) : EV T call (.lc elt tg it .nil) ρ st Q := by
  obtain ⟨xs, st1, e, rfl, rfl⟩ := hit
  refine .of (lc_map1 f g as e hl fun a ha => ?_) q
  obtain ⟨ρ1, b, d, st2, e, rfl, rfl⟩ := H a ha
  exact ⟨ρ1, b, e⟩
/-- a test that draws nothing -/
theorem x_lcF {α : Type} {elt t : C} {tg : List Nat} {it : It} (f g : α → D) (p : α → Bool) (as : List α) (hit : OkR (evIt T call it ρ st) fun xs st1 => xs = as.map f ∧ st1 = st) (hl : as.length ≤ 1000000)
    (H : ∀ a ∈ as, ∃ ρ1, bindT tg (f a) (wipeE ρ tg) = some ρ1 ∧ EVT T call t ρ1 st fun b st1 => b = p a ∧ st1 = st ∧ (b = true → EV T call elt ρ1 st fun d st1 => d = g a ∧ st1 = st))
    (q : Q (.lst ((as.filter p).map g)) st) : EV T call (.lc elt tg it (.cons t .nil)) ρ st Q := by
  obtain ⟨xs, st1, e, rfl, rfl⟩ := hit
  refine .of (lc_flt f p g as e hl fun a ha => ?_) q
  obtain ⟨ρ1, b, d, st2, e, rfl, rfl, k⟩ := H a ha
  refine ⟨ρ1, b, by rw [evIfs]; exact e, fun hp => ?_⟩
  obtain ⟨d, st2, e, rfl, rfl⟩ := k hp
  exact e
/-- a test that may draw -/
theorem x_lcS {α : Type} {elt t : C} {tg : List Nat} {it : It} (f g : α → D) (as : List α) (J : Nat → Store → Prop) (hit : OkR (evIt T call it ρ st) fun xs st1 => xs = as.map f ∧ J 0 st1) (hl : as.length ≤ 1000000)
    (H : ∀ j a, as[j]? = some a → ∀ st, J j st → ∃ ρ1, bindT tg (f a) (wipeE ρ tg) = some ρ1 ∧ EVT T call t ρ1 st fun b st1 => J (j + 1) st1 ∧ (b = true → EV T call elt ρ1 st1 fun d st2 => d = g a ∧ st2 = st1))
    (q : ∀ as' st1, List.Sublist as' as → J as.length st1 → Q (.lst (as'.map g)) st1) : EV T call (.lc elt tg it (.cons t .nil)) ρ st Q := by
  obtain ⟨xs, st1, e, rfl, hJ⟩ := hit
  have key : ∀ (as : List α) (i : Nat) (st : Store), J i st → (∀ j a, as[j]? = some a → ∀ st, J (i + j) st → ∃ ρ1, bindT tg (f a) (wipeE ρ tg) = some ρ1 ∧ EVT T call t ρ1 st fun b st1 => J (i + j + 1) st1 ∧ (b = true → EV T call elt ρ1 st1 fun d st2 => d = g a ∧ st2 = st1)) → ∃ (as' : List α) (st2 : Store), mapR (fun d st2 => match bindT tg d (wipeE ρ tg) with
      | some ρ1 => (evIfs T call (.cons t .nil) ρ1 st2).bind fun k st3 => if k then (ev T call elt ρ1 st3).bind fun y st4 => .ok (some y) st4 else .ok none st3
      | none => .bad) (as.map f) st = .ok (as'.map g) st2 ∧ List.Sublist as' as ∧ J (i + as.length) st2 := by
    intro as
    induction as with
    | nil => intro i st h _; exact ⟨[], st, rfl, .slnil, h⟩
    | cons a r ih =>
      intro i st h H
      obtain ⟨ρ1, e1, b, st2, e2, h2, e3⟩ := H 0 a rfl st h
      have e2 : evIfs T call (.cons t .nil) ρ1 st = .ok b st2 := by rw [evIfs]; exact e2
      obtain ⟨as', st3, q1, q2, q4⟩ := ih (i + 1) st2 h2 (fun j x hj st hp => by
        have := H (j + 1) x hj st (by rw [show i + (j + 1) = i + 1 + j by omega]; exact hp)
        rw [show i + (j + 1) + 1 = i + 1 + j + 1 by omega] at this
        exact this)
      have q4' : J (i + (a :: r).length) st3 := by rw [List.length_cons, show i + (r.length + 1) = i + 1 + r.length by omega]; exact q4
      cases b with
      | true =>
        obtain ⟨d, st4, e4, rfl, rfl⟩ := e3 rfl
        refine ⟨a :: as', st3, ?_, q2.cons_cons _, q4'⟩
        simp only [List.map_cons, mapR]
        rw [e1]
        dsimp only
        rw [e2, Res.bind_ok, if_pos rfl, e4, Res.bind_ok, Res.bind_ok, q1, Res.bind_ok]
      | false =>
        refine ⟨as', st3, ?_, q2.cons _, q4'⟩
        simp only [List.map_cons, mapR]
        rw [e1]
        dsimp only
        rw [e2, Res.bind_ok, if_neg (by decide), Res.bind_ok, q1, Res.bind_ok]
  obtain ⟨as', st2, q1, q2, q4⟩ := key as 0 st1 hJ (fun j a hj st hp => by
    rw [Nat.zero_add] at hp ⊢
    exact H j a hj st hp)
  rw [Nat.zero_add] at q4
  refine .of ?_ (q as' st2 q2 q4)
  rw [ev, e, Res.bind_ok, if_neg (by rw [List.length_map]; omega)]
  exact congrArg (fun r : Res (List D) => r.bind fun ys st2 => Res.ok (D.lst ys) st2) q1
end
/-! ### statements -/
/-- what is wanted of how statements end -/
def Fw (W : Fl → Prop) (F : Fl) : Prop := W F
section
variable {T : Tab} {call : Nat → List D → Store → Res D} {wf : Nat} {ρ : Env} {st : Store} {W : Fl → Prop} {r : Ss}
theorem s_end (h : Fw W (.nx ρ st)) : Fw W (evSs T call wf .nil ρ st) := by rw [evSs]; exact h
theorem s_nx {s : S} (h : ∃ ρ1 st1, evS T call wf s ρ st = .nx ρ1 st1 ∧ Fw W (evSs T call wf r ρ1 st1)) : Fw W (evSs T call wf (.cons s r) ρ st) := by
  obtain ⟨ρ1, st1, e, h⟩ := h
  rw [ss_nx e]; exact h
theorem s_set {i : Nat} {e : C} (h : EV T call e ρ st fun d st1 => i < ρ.length ∧ Fw W (evSs T call wf r (ρ.set i (some (.v d))) st1)) : Fw W (evSs T call wf (.cons (.set i e) r) ρ st) := by
  obtain ⟨d, st1, e1, hi, h⟩ := h
  refine s_nx ⟨_, _, ?_, h⟩
  rw [evS, e1, Res.fl_ok, if_pos hi]
theorem s_own {i : Nat} {e : C} (h : EV T call e ρ st fun d st1 => ∃ xs, d = .lst xs ∧ i < ρ.length ∧ Fw W (evSs T call wf r (ρ.set i (some (.own xs))) st1)) : Fw W (evSs T call wf (.cons (.own i e) r) ρ st) := by
  obtain ⟨d, st1, e1, xs, rfl, hi, h⟩ := h
  refine s_nx ⟨_, _, ?_, h⟩
  rw [evS, e1, Res.fl_ok]
  dsimp only
  rw [if_pos hi]
theorem s_frz {i : Nat} {xs : List D} (e : slotO ρ i = some xs) (h : Fw W (evSs T call wf r (ρ.set i (some (.v (.lst xs)))) st)) : Fw W (evSs T call wf (.cons (.frz i) r) ρ st) := by
  refine s_nx ⟨_, _, ?_, h⟩
  rw [evS, e]
theorem s_unp {is : List Nat} {e : C} (h : EV T call e ρ st fun d st1 => ∃ xs ρ1, (d = .tup xs ∨ d = .lst xs) ∧ setAll is xs ρ = some ρ1 ∧ Fw W (evSs T call wf r ρ1 st1)) : Fw W (evSs T call wf (.cons (.unp is e) r) ρ st) := by
  obtain ⟨d, st1, e1, xs, ρ1, hd, hs, h⟩ := h
  refine s_nx ⟨_, _, ?_, h⟩
  rw [evS, e1, Res.fl_ok]
  rcases hd with rfl | rfl <;> (dsimp only; rw [hs])
theorem s_par {i j : Nat} {a b : C} (h : EV T call a ρ st fun x st1 => EV T call b ρ st1 fun y st2 => (i < ρ.length ∧ j < ρ.length ∧ i ≠ j) ∧ Fw W (evSs T call wf r ((ρ.set i (some (.v x))).set j (some (.v y))) st2)) : Fw W (evSs T call wf (.cons (.par i j a b) r) ρ st) := by
  obtain ⟨x, st1, e1, y, st2, e2, hi, h⟩ := h
  refine s_nx ⟨_, _, ?_, h⟩
  rw [evS, e1, Res.fl_ok, e2, Res.fl_ok, if_pos hi]
theorem s_parN {ts : List (Nat × Bool)} {es : Cs} (h : EVS T call es ρ st fun xs st1 => ∃ ρ1, setPar ts xs ρ = some ρ1 ∧ Fw W (evSs T call wf r ρ1 st1)) : Fw W (evSs T call wf (.cons (.parN ts es) r) ρ st) := by
  obtain ⟨xs, st1, e1, ρ1, e2, h⟩ := h
  refine s_nx ⟨_, _, ?_, h⟩
  rw [evS, e1, Res.fl_ok, e2]
theorem s_app {i : Nat} {e : C} {xs : List D} (hs : slotO ρ i = some xs) (h : EV T call e ρ st fun d st1 => xs.length < 1000000 ∧ Fw W (evSs T call wf r (ρ.set i (some (.own (xs ++ [d])))) st1)) : Fw W (evSs T call wf (.cons (.app i e) r) ρ st) := by
  obtain ⟨d, st1, e1, hl, h⟩ := h
  exact s_nx ⟨_, _, app_is e1 hs hl, h⟩
theorem s_ext {i : Nat} {e : C} {xs : List D} (hs : slotO ρ i = some xs) (h : EV T call e ρ st fun d st1 => ∃ ys, d = .lst ys ∧ xs.length + ys.length ≤ 1000000 ∧ Fw W (evSs T call wf r (ρ.set i (some (.own (xs ++ ys)))) st1)) : Fw W (evSs T call wf (.cons (.ext i e) r) ρ st) := by
  obtain ⟨d, st1, e1, ys, rfl, hl, h⟩ := h
  exact s_nx ⟨_, _, ext_is e1 hs hl, h⟩
theorem s_dput {o e : C} {k : Nat} (h : EV T call e ρ st fun x st1 => EV T call o ρ st1 fun y st2 => ∃ st3, dputD y k x st2 = some st3 ∧ Fw W (evSs T call wf r ρ st3)) : Fw W (evSs T call wf (.cons (.dput o k e) r) ρ st) := by
  obtain ⟨x, st1, e1, y, st2, e2, st3, e3, h⟩ := h
  refine s_nx ⟨_, _, ?_, h⟩
  rw [evS, e1, Res.fl_ok, e2, Res.fl_ok, e3]
theorem s_ex {e : C} (h : EV T call e ρ st fun _ st1 => Fw W (evSs T call wf r ρ st1)) : Fw W (evSs T call wf (.cons (.ex e) r) ρ st) := by
  obtain ⟨d, st1, e1, h⟩ := h
  refine s_nx ⟨_, _, ?_, h⟩
  rw [evS, e1, Res.fl_ok]
theorem s_pass (h : Fw W (evSs T call wf r ρ st)) : Fw W (evSs T call wf (.cons .pass r) ρ st) := s_nx ⟨_, _, by rw [evS], h⟩
theorem s_ret {e : C} (h : EV T call e ρ st fun d st1 => Fw W (.rt d st1)) : Fw W (evSs T call wf (.cons (.ret e) r) ρ st) := by
  obtain ⟨d, st1, e1, h⟩ := h
  rw [ss_rt (d := d) (st1 := st1)]
  · exact h
  · rw [evS, e1]; rfl
theorem s_ite {t : C} {a b : Ss} (h : EVT T call t ρ st fun k st1 => (k = true → Fw W (evSs T call wf (a.app r) ρ st1)) ∧ (k = false → Fw W (evSs T call wf (b.app r) ρ st1))) : Fw W (evSs T call wf (.cons (.ite t a b) r) ρ st) := by
  obtain ⟨k, st1, e, h⟩ := h
  have q : evSs T call wf (.cons (.ite t a b) r) ρ st = evSs T call wf ((if k then a else b).app r) ρ st1 := by
    rw [app_is', evSs, evS, e, Res.fl_ok]
    cases k <;> rfl
  rw [q]
  cases k with
  | true => exact h.1 rfl
  | false => exact h.2 rfl
/-- a loop by what holds between two turns -/
theorem s_for {α : Type} {tg : List Nat} {it : It} {body : Ss} (f : α → D) (as : List α) (P : Nat → Env → Store → Prop)
    (hit : OkR (evIt T call it ρ st) fun xs st1 => xs = as.map f ∧ P 0 ρ st1)
    (H : ∀ j a, as[j]? = some a → ∀ ρ st, P j ρ st → ∃ ρ1, bindT tg (f a) ρ = some ρ1 ∧ Fw (fun F => ∃ ρ2 st2, F = Fl.nx ρ2 st2 ∧ P (j + 1) ρ2 st2) (evSs T call wf body ρ1 st))
    (q : ∀ ρ st, P as.length ρ st → Fw W (evSs T call wf r ρ st)) : Fw W (evSs T call wf (.cons (.for tg it body) r) ρ st) := by
  obtain ⟨xs, st1, e, rfl, h0⟩ := hit
  obtain ⟨ρ', st', e2, h2⟩ := forR_inv (tg := tg) (body := evSs T call wf body) P (as.map f) 0 ρ st1 h0 fun j d hj ρ st hp => by
    rw [List.getElem?_map] at hj
    obtain ⟨a, ha, rfl⟩ := Option.map_eq_some_iff.mp hj
    rw [Nat.zero_add] at hp ⊢
    obtain ⟨ρ1, b, ρ2, st2, e, h⟩ := H j a ha ρ st hp
    exact ⟨ρ1, ρ2, st2, b, e, h⟩
  rw [ss_for e e2]
  rw [Nat.zero_add, List.length_map] at h2
  exact q ρ' st' h2
theorem s_forN {α : Type} {i : Nat} {is : List Nat} {it : It} {body : Ss} (f : α → D) (as : List α) (P : Nat → Env → Store → Prop)
    (hit : OkR (evIt T call it ρ st) fun xs st1 => flat2s xs = some (as.map f) ∧ P 0 ρ st1)
    (H : ∀ j a, as[j]? = some a → ∀ ρ st, P j ρ st → ∃ ρ1, bindT (i :: is) (f a) ρ = some ρ1 ∧ Fw (fun F => ∃ ρ2 st2, F = Fl.nx ρ2 st2 ∧ P (j + 1) ρ2 st2) (evSs T call wf body ρ1 st))
    (q : ∀ ρ st, P as.length ρ st → Fw W (evSs T call wf r ρ st)) : Fw W (evSs T call wf (.cons (.forN i is it body) r) ρ st) := by
  obtain ⟨xs, st1, e, hf, h0⟩ := hit
  obtain ⟨ρ', st', e2, h2⟩ := forR_inv (tg := i :: is) (body := evSs T call wf body) P (as.map f) 0 ρ st1 h0 fun j d hj ρ st hp => by
    rw [List.getElem?_map] at hj
    obtain ⟨a, ha, rfl⟩ := Option.map_eq_some_iff.mp hj
    rw [Nat.zero_add] at hp ⊢
    obtain ⟨ρ1, b, ρ2, st2, e, h⟩ := H j a ha ρ st hp
    exact ⟨ρ1, ρ2, st2, b, e, h⟩
  rw [Nat.zero_add, List.length_map] at h2
  refine s_nx ⟨ρ', st', ?_, q ρ' st' h2⟩
  rw [evS, e, Res.fl_ok, hf]
  exact e2
/-! a def's call -/
theorem f_run {P : Prg} {n j : Nat} {as : List D} {f : Fn} {Q : D → Store → Prop} (h : P.fn[j]? = some f) (hi : f.init = none) (hl : as.length = f.pars)
    (k : Fw (fun F => OkR (endF f.fresh F) Q) (evSs P.tab (run P.tab P.fn wf n) wf f.body (startE f.slots as) st)) : OkR (run P.tab P.fn wf (n + 1) j as st) Q := by
  unfold run
  rw [h]
  dsimp only
  rw [hi]
  dsimp only
  rw [if_pos hl]
  exact k
theorem f_ret {fr : Bool} {d : D} {Q : D → Store → Prop} (h : Q d st) : Fw (fun F => OkR (endF fr F) Q) (.rt d st) := .ok h
theorem f_nx {P : Env → Store → Prop} (h : P ρ st) : Fw (fun F => ∃ ρ2 st2, F = Fl.nx ρ2 st2 ∧ P ρ2 st2) (.nx ρ st) := ⟨ρ, st, rfl, h⟩
end
end Raw
end Eng

set_option exponentiation.threshold 5000
/-! The same rules over heads that the elaborator does not unfold. -/
namespace Eng
open PySem
section
variable {T : Tab} {call : Nat → List D → Store → Res D} {ρ : Env} {st : Store} {Q : D → Store → Prop}
@[irreducible] def EV (T : Tab) (call : Nat → List D → Store → Res D) (c : C) (ρ : Env) (st : Store) (Q : D → Store → Prop) : Prop := OkR (ev T call c ρ st) Q
@[irreducible] def EVS (T : Tab) (call : Nat → List D → Store → Res D) (c : Cs) (ρ : Env) (st : Store) (Q : List D → Store → Prop) : Prop := OkR (evs T call c ρ st) Q
@[irreducible] def EVT (T : Tab) (call : Nat → List D → Store → Res D) (c : C) (ρ : Env) (st : Store) (Q : Bool → Store → Prop) : Prop := OkR (evT T call c ρ st) Q
@[irreducible] def OT (T : Tab) (call : Nat → List D → Store → Res D) (x : D) (st : Store) (Q : Bool → Store → Prop) : Prop := OkR (truD T call x st) Q
@[irreducible] def OIt (T : Tab) (call : Nat → List D → Store → Res D) (it : It) (ρ : Env) (st : Store) (Q : List D → Store → Prop) : Prop := OkR (evIt T call it ρ st) Q
@[irreducible] def Fw (W : Fl → Prop) (F : Fl) : Prop := W F
@[irreducible] def SS (W : Fl → Prop) (T : Tab) (call : Nat → List D → Store → Res D) (wf : Nat) (ss : Ss) (ρ : Env) (st : Store) : Prop := W (evSs T call wf ss ρ st)
theorem SS.by {W : Fl → Prop} {wf : Nat} {ss : Ss} (h : W (evSs T call wf ss ρ st)) : SS W T call wf ss ρ st := by unfold SS; exact h
theorem Fw.mk {W : Fl → Prop} {F : Fl} (h : W F) : Fw W F := by unfold Fw; exact h
@[irreducible] def OB (T : Tab) (call : Nat → List D → Store → Res D) (op : Bo) (x y : D) (st : Store) (Q : D → Store → Prop) : Prop := OkR (binD T call op x y st) Q
theorem OB.of {op : Bo} {x y : D} {d : D} {st1 : Store} (e : binD T call op x y st = .ok d st1) (h : Q d st1) : OB T call op x y st Q := by unfold OB; exact .of e h
theorem OB.by {op : Bo} {x y : D} (h : OkR (binD T call op x y st) Q) : OB T call op x y st Q := by unfold OB; exact h
@[irreducible] def OC (T : Tab) (call : Nat → List D → Store → Res D) (op : Co) (x y : D) (st : Store) (Q : D → Store → Prop) : Prop := OkR (cmpD T call op x y st) Q
theorem OC.of {op : Co} {x y : D} {d : D} {st1 : Store} (e : cmpD T call op x y st = .ok d st1) (h : Q d st1) : OC T call op x y st Q := by unfold OC; exact .of e h
theorem OC.by {op : Co} {x y : D} (h : OkR (cmpD T call op x y st) Q) : OC T call op x y st Q := by unfold OC; exact h
@[irreducible] def ON (T : Tab) (call : Nat → List D → Store → Res D) (x : D) (st : Store) (Q : D → Store → Prop) : Prop := OkR (negD T call x st) Q
theorem ON.of {x : D} {d : D} {st1 : Store} (e : negD T call x st = .ok d st1) (h : Q d st1) : ON T call x st Q := by unfold ON; exact .of e h
theorem ON.by {x : D} (h : OkR (negD T call x st) Q) : ON T call x st Q := by unfold ON; exact h
@[irreducible] def OI (x y : D) (st : Store) (Q : D → Store → Prop) : Prop := OkR (idxD x y st) Q
theorem OI.of {x y : D} {d : D} {st1 : Store} (e : idxD x y st = .ok d st1) (h : Q d st1) : OI x y st Q := by unfold OI; exact .of e h
theorem OI.by {x y : D} (h : OkR (idxD x y st) Q) : OI x y st Q := by unfold OI; exact h
@[irreducible] def OS (m n : Bool) (x l u : D) (st : Store) (Q : D → Store → Prop) : Prop := OkR (slD m n x l u st) Q
theorem OS.of {m n : Bool} {x l u : D} {d : D} {st1 : Store} (e : slD m n x l u st = .ok d st1) (h : Q d st1) : OS m n x l u st Q := by unfold OS; exact .of e h
theorem OS.by {m n : Bool} {x l u : D} (h : OkR (slD m n x l u st) Q) : OS m n x l u st Q := by unfold OS; exact h
@[irreducible] def OA (T : Tab) (call : Nat → List D → Store → Res D) (f : Nat) (x : D) (st : Store) (Q : D → Store → Prop) : Prop := OkR (attrD T call f x st) Q
theorem OA.of {f : Nat} {x : D} {d : D} {st1 : Store} (e : attrD T call f x st = .ok d st1) (h : Q d st1) : OA T call f x st Q := by unfold OA; exact .of e h
theorem OA.by {f : Nat} {x : D} (h : OkR (attrD T call f x st) Q) : OA T call f x st Q := by unfold OA; exact h
@[irreducible] def OM (T : Tab) (call : Nat → List D → Store → Res D) (m : Nat) (x : D) (xs : List D) (st : Store) (Q : D → Store → Prop) : Prop := OkR (methD T call m x xs st) Q
theorem OM.of {m : Nat} {x : D} {xs : List D} {d : D} {st1 : Store} (e : methD T call m x xs st = .ok d st1) (h : Q d st1) : OM T call m x xs st Q := by unfold OM; exact .of e h
theorem OM.by {m : Nat} {x : D} {xs : List D} (h : OkR (methD T call m x xs st) Q) : OM T call m x xs st Q := by unfold OM; exact h
@[irreducible] def OL (T : Tab) (call : Nat → List D → Store → Res D) (b : Bl) (x : D) (st : Store) (Q : D → Store → Prop) : Prop := OkR (bltD T call b x st) Q
theorem OL.of {b : Bl} {x : D} {d : D} {st1 : Store} (e : bltD T call b x st = .ok d st1) (h : Q d st1) : OL T call b x st Q := by unfold OL; exact .of e h
theorem OL.by {b : Bl} {x : D} (h : OkR (bltD T call b x st) Q) : OL T call b x st Q := by unfold OL; exact h
@[irreducible] def OG (x : D) (k : Nat) (st : Store) (Q : D → Store → Prop) : Prop := OkR (dgetD x k st) Q
theorem OG.of {x : D} {k : Nat} {d : D} {st1 : Store} (e : dgetD x k st = .ok d st1) (h : Q d st1) : OG x k st Q := by unfold OG; exact .of e h
theorem OG.by {x : D} {k : Nat} (h : OkR (dgetD x k st) Q) : OG x k st Q := by unfold OG; exact h
@[irreducible] def ORp (x : D) (st : Store) (Q : D → Store → Prop) : Prop := OkR (reprD x st) Q
theorem ORp.of {x : D} {d : D} {st1 : Store} (e : reprD x st = .ok d st1) (h : Q d st1) : ORp x st Q := by unfold ORp; exact .of e h
theorem ORp.by {x : D} (h : OkR (reprD x st) Q) : ORp x st Q := by unfold ORp; exact h
@[irreducible] def OMn (x y : D) (st : Store) (Q : D → Store → Prop) : Prop := OkR (min2D x y st) Q
theorem OMn.of {x y : D} {d : D} {st1 : Store} (e : min2D x y st = .ok d st1) (h : Q d st1) : OMn x y st Q := by unfold OMn; exact .of e h
theorem OMn.by {x y : D} (h : OkR (min2D x y st) Q) : OMn x y st Q := by unfold OMn; exact h
@[irreducible] def OMx (x y : D) (st : Store) (Q : D → Store → Prop) : Prop := OkR (max2D x y st) Q
theorem OMx.of {x y : D} {d : D} {st1 : Store} (e : max2D x y st = .ok d st1) (h : Q d st1) : OMx x y st Q := by unfold OMx; exact .of e h
theorem OMx.by {x y : D} (h : OkR (max2D x y st) Q) : OMx x y st Q := by unfold OMx; exact h
@[irreducible] def ORv (x : D) (st : Store) (Q : D → Store → Prop) : Prop := OkR (revD x st) Q
theorem ORv.of {x : D} {d : D} {st1 : Store} (e : revD x st = .ok d st1) (h : Q d st1) : ORv x st Q := by unfold ORv; exact .of e h
theorem ORv.by {x : D} (h : OkR (revD x st) Q) : ORv x st Q := by unfold ORv; exact h
@[irreducible] def ORl (xs : List D) (y : D) (st : Store) (Q : D → Store → Prop) : Prop := OkR (replD xs y st) Q
theorem ORl.of {xs : List D} {y : D} {d : D} {st1 : Store} (e : replD xs y st = .ok d st1) (h : Q d st1) : ORl xs y st Q := by unfold ORl; exact .of e h
theorem ORl.by {xs : List D} {y : D} (h : OkR (replD xs y st) Q) : ORl xs y st Q := by unfold ORl; exact h
@[irreducible] def ONc (x : D) (st : Store) (Q : D → Store → Prop) : Prop := OkR (newcD x st) Q
theorem ONc.of {x : D} {d : D} {st1 : Store} (e : newcD x st = .ok d st1) (h : Q d st1) : ONc x st Q := by unfold ONc; exact .of e h
theorem ONc.by {x : D} (h : OkR (newcD x st) Q) : ONc x st Q := by unfold ONc; exact h
@[irreducible] def OPc (x y : D) (st : Store) (Q : D → Store → Prop) : Prop := OkR (popD x y st) Q
theorem OPc.of {x y : D} {d : D} {st1 : Store} (e : popD x y st = .ok d st1) (h : Q d st1) : OPc x y st Q := by unfold OPc; exact .of e h
theorem OPc.by {x y : D} (h : OkR (popD x y st) Q) : OPc x y st Q := by unfold OPc; exact h
@[irreducible] def ODc (ks : List Nat) (as : List D) (st : Store) (Q : D → Store → Prop) : Prop := OkR (dictD ks as st) Q
theorem ODc.of {ks : List Nat} {as : List D} {d : D} {st1 : Store} (e : dictD ks as st = .ok d st1) (h : Q d st1) : ODc ks as st Q := by unfold ODc; exact .of e h
theorem ODc.by {ks : List Nat} {as : List D} (h : OkR (dictD ks as st) Q) : ODc ks as st Q := by unfold ODc; exact h
@[irreducible] def OLr (x : D) (st : Store) (Q : D → Store → Prop) : Prop := OkR (lrngD x st) Q
theorem OLr.of {x : D} {d : D} {st1 : Store} (e : lrngD x st = .ok d st1) (h : Q d st1) : OLr x st Q := by unfold OLr; exact .of e h
theorem OLr.by {x : D} (h : OkR (lrngD x st) Q) : OLr x st Q := by unfold OLr; exact h
@[irreducible] def OF (call : Nat → List D → Store → Res D) (j : Nat) (xs : List D) (st : Store) (Q : D → Store → Prop) : Prop := OkR (call j xs st) Q
theorem OF.of {j : Nat} {xs : List D} {d : D} {st1 : Store} (e : call j xs st = .ok d st1) (h : Q d st1) : OF call j xs st Q := by unfold OF; exact .of e h
theorem OF.by {j : Nat} {xs : List D} (h : OkR (call j xs st) Q) : OF call j xs st Q := by unfold OF; exact h
theorem EV.of {c : C} {d : D} {st1 : Store} (e : ev T call c ρ st = .ok d st1) (h : Q d st1) : EV T call c ρ st Q := by unfold EV; exact .of e h
theorem EV.out {c : C} (h : EV T call c ρ st Q) : OkR (ev T call c ρ st) Q := by unfold EV at h; exact h
theorem OIt.of {it : It} {xs : List D} {st1 : Store} {Q : List D → Store → Prop} (e : evIt T call it ρ st = .ok xs st1) (h : Q xs st1) : OIt T call it ρ st Q := by unfold OIt; exact .of e h
theorem x_nil {Q : List D → Store → Prop} (q : Q [] st) : EVS T call .nil ρ st Q := by
  with_unfolding_all exact Raw.x_nil q
theorem x_cons {c : C} {r : Cs} {Q : List D → Store → Prop} (h : EV T call c ρ st fun d st1 => EVS T call r ρ st1 fun ds st2 => Q (d :: ds) st2) : EVS T call (.cons c r) ρ st Q := by
  with_unfolding_all exact Raw.x_cons h
theorem x_var {i : Nat} {d : D} (h : slotV ρ i = some d) (q : Q d st) : EV T call (.var i) ρ st Q := by
  with_unfolding_all exact Raw.x_var h q
theorem x_bor {i : Nat} {xs : List D} (h : slotO ρ i = some xs) (q : Q (.lst xs) st) : EV T call (.bor i) ρ st Q := by
  with_unfolding_all exact Raw.x_bor h q
theorem x_non (q : Q .non st) : EV T call .non ρ st Q := by
  with_unfolding_all exact Raw.x_non q
theorem x_bl {b : Bool} (q : Q (.bl b) st) : EV T call (.bl b) ρ st Q := by
  with_unfolding_all exact Raw.x_bl q
theorem x_int {i : Int} (q : Q (.int i) st) : EV T call (.int i) ρ st Q := by
  with_unfolding_all exact Raw.x_int q
theorem x_str {s : Str} (q : Q (.str s) st) : EV T call (.str s) ρ st Q := by
  with_unfolding_all exact Raw.x_str q
theorem x_gco {k : Nat} {d : D} (h : T.con[k]? = some d) (q : Q d st) : EV T call (.gco k) ρ st Q := by
  with_unfolding_all exact Raw.x_gco h q
theorem x_tup {as : Cs} (h : EVS T call as ρ st fun xs st1 => Q (.tup xs) st1) : EV T call (.tup as) ρ st Q := by
  with_unfolding_all exact Raw.x_tup h
theorem x_lst {as : Cs} (h : EVS T call as ρ st fun xs st1 => Q (.lst xs) st1) : EV T call (.lst as) ρ st Q := by
  with_unfolding_all exact Raw.x_lst h
theorem x_bin {op : Bo} {a b : C} (h : EV T call a ρ st fun x st1 => EV T call b ρ st1 fun y st2 => OB T call op x y st2 Q) : EV T call (.bin op a b) ρ st Q := by
  with_unfolding_all exact Raw.x_bin h
theorem x_cmp {op : Co} {a b : C} (h : EV T call a ρ st fun x st1 => EV T call b ρ st1 fun y st2 => OC T call op x y st2 Q) : EV T call (.cmp op a b) ρ st Q := by
  with_unfolding_all exact Raw.x_cmp h
theorem x_neg {a : C} (h : EV T call a ρ st fun x st1 => ON T call x st1 Q) : EV T call (.neg a) ρ st Q := by
  with_unfolding_all exact Raw.x_neg h
theorem x_not {a : C} (h : EV T call a ρ st fun x st1 => ∃ b, x = .bl b ∧ Q (.bl (!b)) st1) : EV T call (.not a) ρ st Q := by
  with_unfolding_all exact Raw.x_not h
theorem x_idx {a b : C} (h : EV T call a ρ st fun x st1 => EV T call b ρ st1 fun y st2 => OI x y st2 Q) : EV T call (.idx a b) ρ st Q := by
  with_unfolding_all exact Raw.x_idx h
theorem x_sl {a lo hi : C} (h : EV T call a ρ st fun x st1 => EV T call lo ρ st1 fun l st2 => EV T call hi ρ st2 fun h st3 => OS lo.isNon hi.isNon x l h st3 Q) : EV T call (.sl a lo hi) ρ st Q := by
  with_unfolding_all exact Raw.x_sl h
theorem x_call {j : Nat} {as : Cs} (h : EVS T call as ρ st fun xs st1 => OF call j xs st1 Q) : EV T call (.call j as []) ρ st Q := by
  with_unfolding_all exact Raw.x_call h
theorem x_callD {j : Nat} {as : Cs} {ds : List D} (h : EVS T call as ρ st fun xs st1 => OF call j (xs ++ ds) st1 Q) : EV T call (.call j as ds) ρ st Q := by
  with_unfolding_all exact Raw.x_callD h
theorem x_callT {j : Nat} {as : Cs} (h : EVS T call as ρ st fun xs st1 => xs.length ≤ 1000 ∧ OF call j [.tup xs] st1 Q) : EV T call (.callT j as) ρ st Q := by
  with_unfolding_all exact Raw.x_callT h
theorem x_kcall {j : Nat} {as : Cs} (h : EVS T call as ρ st fun xs st1 => OF call j xs st1 Q) : EV T call (.kcall j as) ρ st Q := by
  with_unfolding_all exact Raw.x_kcall h
theorem x_make {c : Nat} {k : Cls} {as : Cs} {ds : List D} (hc : T.cls[c]? = some k) (h : EVS T call as ρ st fun xs st1 => OF call k.init (xs ++ ds) st1 Q) : EV T call (.make c as ds) ρ st Q := by
  with_unfolding_all exact Raw.x_make hc h
theorem x_makeS {c : Nat} {k : Cls} {a : C} (hc : T.cls[c]? = some k) (h : EV T call a ρ st fun x st1 => ∃ xs, x = .tup xs ∧ OF call k.init xs st1 Q) : EV T call (.makeS c a) ρ st Q := by
  with_unfolding_all exact Raw.x_makeS hc h
theorem x_attr {f : Nat} {o : C} (h : EV T call o ρ st fun x st1 => OA T call f x st1 Q) : EV T call (.attr f o) ρ st Q := by
  with_unfolding_all exact Raw.x_attr h
theorem x_meth {m : Nat} {o : C} {as : Cs} (h : EV T call o ρ st fun x st1 => EVS T call as ρ st1 fun xs st2 => OM T call m x xs st2 Q) : EV T call (.meth m o as) ρ st Q := by
  with_unfolding_all exact Raw.x_meth h
theorem x_blt {b : Bl} {a : C} (h : EV T call a ρ st fun x st1 => OL T call b x st1 Q) : EV T call (.blt b a) ρ st Q := by
  with_unfolding_all exact Raw.x_blt h
theorem x_isi {a : C} {t : Ty} (h : EV T call a ρ st fun x st1 => ∃ b, isiD T x t = some b ∧ Q (.bl b) st1) : EV T call (.isi a t) ρ st Q := by
  with_unfolding_all exact Raw.x_isi h
theorem x_dget {o : C} {k : Nat} (h : EV T call o ρ st fun x st1 => OG x k st1 Q) : EV T call (.dget o k) ρ st Q := by
  with_unfolding_all exact Raw.x_dget h
theorem x_newc {a : C} (h : EV T call a ρ st fun x st1 => ONc x st1 Q) : EV T call (.newc a) ρ st Q := by
  with_unfolding_all exact Raw.x_newc h
theorem x_popc {o i : C} (h : EV T call o ρ st fun x st1 => isLk x st1 = true ∧ EV T call i ρ st1 fun y st2 => OPc x y st2 Q) : EV T call (.popc o i) ρ st Q := by
  with_unfolding_all exact Raw.x_popc h
theorem x_max2 {a b : C} (h : EV T call a ρ st fun x st1 => EV T call b ρ st1 fun y st2 => OMx x y st2 Q) : EV T call (.max2 a b) ρ st Q := by
  with_unfolding_all exact Raw.x_max2 h
theorem x_min2 {a b : C} (h : EV T call a ρ st fun x st1 => EV T call b ρ st1 fun y st2 => OMn x y st2 Q) : EV T call (.min2 a b) ρ st Q := by
  with_unfolding_all exact Raw.x_min2 h
theorem x_repr {a : C} (h : EV T call a ρ st fun x st1 => ORp x st1 Q) : EV T call (.repr a) ρ st Q := by
  with_unfolding_all exact Raw.x_repr h
theorem x_rev {a : C} (h : EV T call a ρ st fun x st1 => ORv x st1 Q) : EV T call (.rev a) ρ st Q := by
  with_unfolding_all exact Raw.x_rev h
theorem x_repl {as : Cs} {n : C} (h : EVS T call as ρ st fun xs st1 => EV T call n ρ st1 fun y st2 => ORl xs y st2 Q) : EV T call (.repl as n) ρ st Q := by
  with_unfolding_all exact Raw.x_repl h
theorem x_catb {i : Nat} {b : C} {xs : List D} (hs : slotO ρ i = some xs) (h : EV T call b ρ st fun y st1 => ∃ ys, y = .lst ys ∧ xs.length + ys.length ≤ 1000000 ∧ Q (.lst (xs ++ ys)) st1) : EV T call (.catb i b) ρ st Q := by
  with_unfolding_all exact Raw.x_catb hs h
theorem x_ite {t a b : C} (h : EVT T call t ρ st fun k st1 => (k = true → EV T call a ρ st1 Q) ∧ (k = false → EV T call b ρ st1 Q)) : EV T call (.ite t a b) ρ st Q := by
  with_unfolding_all exact Raw.x_ite h
theorem x_and1 {a : C} (h : EV T call a ρ st Q) : EV T call (.and (.cons a .nil)) ρ st Q := by
  with_unfolding_all exact Raw.x_and1 h
theorem x_and {a b : C} {r : Cs} (h : EV T call a ρ st fun x st1 => ∃ k, x = .bl k ∧ (k = true → EV T call (.and (.cons b r)) ρ st1 Q) ∧ (k = false → Q (.bl false) st1)) : EV T call (.and (.cons a (.cons b r))) ρ st Q := by
  with_unfolding_all exact Raw.x_and h
theorem x_or1 {a : C} (h : EV T call a ρ st Q) : EV T call (.or (.cons a .nil)) ρ st Q := by
  with_unfolding_all exact Raw.x_or1 h
theorem x_or {a b : C} {r : Cs} (h : EV T call a ρ st fun x st1 => ∃ k, x = .bl k ∧ (k = false → EV T call (.or (.cons b r)) ρ st1 Q) ∧ (k = true → Q (.bl true) st1)) : EV T call (.or (.cons a (.cons b r))) ρ st Q := by
  with_unfolding_all exact Raw.x_or h
theorem x_chain {o1 o2 : Co} {a b c : C} (h : EV T call a ρ st fun x st1 => EV T call b ρ st1 fun y st2 => OC T call o1 x y st2 fun r st3 => ∃ k, r = .bl k ∧ (k = true → EV T call c ρ st3 fun z st4 => OC T call o2 y z st4 Q) ∧ (k = false → Q (.bl false) st3)) : EV T call (.chain o1 o2 a b c) ρ st Q := by
  with_unfolding_all exact Raw.x_chain h
theorem x_dict {ks : List Nat} {as : Cs} (h : EVS T call as ρ st fun xs st1 => ODc ks xs st1 Q) : EV T call (.dict ks as) ρ st Q := by
  with_unfolding_all exact Raw.x_dict h
theorem x_lrng {a : C} (h : EV T call a ρ st fun x st1 => OLr x st1 Q) : EV T call (.lrng a) ρ st Q := by
  with_unfolding_all exact Raw.x_lrng h
theorem x_t {c : C} {Q : Bool → Store → Prop} (h : EV T call c ρ st fun x st1 => OT T call x st1 Q) : EVT T call c ρ st Q := by
  with_unfolding_all exact Raw.x_t h
theorem t_bl {b : Bool} {Q : Bool → Store → Prop} (h : Q b st) : OT T call (.bl b) st Q := by
  with_unfolding_all exact Raw.t_bl h
theorem o_add {i j : Int} (h : Q (.int (i + j)) st) : OB T call .add (.int i) (.int j) st Q := by
  with_unfolding_all exact Raw.o_add h
theorem o_sub {i j : Int} (h : Q (.int (i - j)) st) : OB T call .sub (.int i) (.int j) st Q := by
  with_unfolding_all exact Raw.o_sub h
theorem o_mul {i j : Int} (h1 : wide i = true) (h2 : wide j = true) (h : Q (.int (i * j)) st) : OB T call .mul (.int i) (.int j) st Q := by
  with_unfolding_all exact Raw.o_mul h1 h2 h
theorem o_fdiv {i j : Int} (h0 : 0 < j) (h1 : j < 1073741824) (h : Q (.int (i / j)) st) : OB T call .fdiv (.int i) (.int j) st Q := by
  with_unfolding_all exact Raw.o_fdiv h0 h1 h
theorem o_fdivW {i j : Int} (h0 : 0 < j) (h2 : wide j = true) (h : Q (.int (i / j)) st) : OB T call .fdiv (.int i) (.int j) st Q := by
  with_unfolding_all exact Raw.o_fdivW h0 h2 h
theorem o_mod {i j : Int} (h0 : j ≠ 0) (h : Q (.int (i.fmod j)) st) : OB T call .mod (.int i) (.int j) st Q := by
  with_unfolding_all exact Raw.o_mod h0 h
theorem o_catT {xs ys : List D} (h1 : xs.length + ys.length ≤ 1000000) (h : Q (.tup (xs ++ ys)) st) : OB T call .add (.tup xs) (.tup ys) st Q := by
  with_unfolding_all exact Raw.o_catT h1 h
theorem o_catL {xs ys : List D} (h1 : xs.length + ys.length ≤ 1000000) (h : Q (.lst (xs ++ ys)) st) : OB T call .add (.lst xs) (.lst ys) st Q := by
  with_unfolding_all exact Raw.o_catL h1 h
theorem o_repT {xs : List D} {k : Int} (h0 : xs ≠ []) (h1 : 1 ≤ k) (h2 : k ≤ 1000) (h3 : xs.length ≤ 1000) (h : Q (.tup (List.replicate k.toNat xs).flatten) st) : OB T call .mul (.tup xs) (.int k) st Q := by
  with_unfolding_all exact Raw.o_repT h0 h1 h2 h3 h
theorem o_rep {xs : List D} {k : Int} (h1 : -1000 ≤ k) (h2 : k ≤ 1000) (h3 : xs.length ≤ 1000) (h : Q (.lst (List.replicate k.toNat xs).flatten) st) : ORl xs (.int k) st Q := by
  with_unfolding_all exact Raw.o_rep h1 h2 h3 h
theorem o_negI {i : Int} (h : Q (.int (-i)) st) : ON T call (.int i) st Q := by
  with_unfolding_all exact Raw.o_negI h
theorem o_eqI {i j : Int} (h : Q (.bl (i == j)) st) : OC T call .eq (.int i) (.int j) st Q := by
  with_unfolding_all exact Raw.o_eqI h
theorem o_neI {i j : Int} (h : Q (.bl (!(i == j))) st) : OC T call .ne (.int i) (.int j) st Q := by
  with_unfolding_all exact Raw.o_neI h
theorem o_lt {i j : Int} (h : Q (.bl (decide (i < j))) st) : OC T call .lt (.int i) (.int j) st Q := by
  with_unfolding_all exact Raw.o_lt h
theorem o_le {i j : Int} (h : Q (.bl (decide (i ≤ j))) st) : OC T call .le (.int i) (.int j) st Q := by
  with_unfolding_all exact Raw.o_le h
theorem o_gt {i j : Int} (h : Q (.bl (decide (j < i))) st) : OC T call .gt (.int i) (.int j) st Q := by
  with_unfolding_all exact Raw.o_gt h
theorem o_ge {i j : Int} (h : Q (.bl (decide (j ≤ i))) st) : OC T call .ge (.int i) (.int j) st Q := by
  with_unfolding_all exact Raw.o_ge h
theorem o_eqS {a b : Str} (ha : plain (.str a) = true) (hb : plain (.str b) = true) (h : Q (.bl (a == b)) st) : OC T call .eq (.str a) (.str b) st Q := by
  with_unfolding_all exact Raw.o_eqS ha hb h
theorem o_neS {a b : Str} (ha : plain (.str a) = true) (hb : plain (.str b) = true) (h : Q (.bl (!(a == b))) st) : OC T call .ne (.str a) (.str b) st Q := by
  with_unfolding_all exact Raw.o_neS ha hb h
theorem o_eqP {x y : D} (h1 : ∀ c fs, x ≠ .ins c fs) (p1 : plain x = true) (p2 : plain y = true) (d1 : deep x ≤ 32) (d2 : deep y ≤ 32) (h : Q (.bl (eqD x y)) st) : OC T call .eq x y st Q := by
  with_unfolding_all exact Raw.o_eqP h1 p1 p2 d1 d2 h
theorem o_neP {x y : D} (h1 : ∀ c fs, x ≠ .ins c fs) (p1 : plain x = true) (p2 : plain y = true) (d1 : deep x ≤ 32) (d2 : deep y ≤ 32) (h : Q (.bl (!(eqD x y))) st) : OC T call .ne x y st Q := by
  with_unfolding_all exact Raw.o_neP h1 p1 p2 d1 d2 h
theorem o_idxT {xs : List D} {i : Int} {d : D} (e : atD xs i = some d) (h : Q d st) : OI (.tup xs) (.int i) st Q := by
  with_unfolding_all exact Raw.o_idxT e h
theorem o_idxL {xs : List D} {i : Int} {d : D} (e : atD xs i = some d) (h : Q d st) : OI (.lst xs) (.int i) st Q := by
  with_unfolding_all exact Raw.o_idxL e h
theorem o_lenL {xs : List D} (h : Q (.int xs.length) st) : OL T call .len (.lst xs) st Q := by
  with_unfolding_all exact Raw.o_lenL h
theorem o_lenT {xs : List D} (h : Q (.int xs.length) st) : OL T call .len (.tup xs) st Q := by
  with_unfolding_all exact Raw.o_lenT h
theorem o_lenR {k : Nat} {xs : List D} (e : getL st k = some xs) (h : Q (.int xs.length) st) : OL T call .len (.ref k) st Q := by
  with_unfolding_all exact Raw.o_lenR e h
theorem o_tupL {xs : List D} (h : Q (.tup xs) st) : OL T call .tuple (.lst xs) st Q := by
  with_unfolding_all exact Raw.o_tupL h
theorem o_tupT {xs : List D} (h : Q (.tup xs) st) : OL T call .tuple (.tup xs) st Q := by
  with_unfolding_all exact Raw.o_tupT h
theorem o_lstL {xs : List D} (h : Q (.lst xs) st) : OL T call .list (.lst xs) st Q := by
  with_unfolding_all exact Raw.o_lstL h
theorem o_lstT {xs : List D} (h : Q (.lst xs) st) : OL T call .list (.tup xs) st Q := by
  with_unfolding_all exact Raw.o_lstT h
theorem o_sum {xs : List D} {n : Int} (e : sumD xs 0 = some n) (h : Q (.int n) st) : OL T call .sum (.lst xs) st Q := by
  with_unfolding_all exact Raw.o_sum e h
theorem o_min {i j : Int} (h : Q (.int (if j < i then j else i)) st) : OMn (.int i) (.int j) st Q := by
  with_unfolding_all exact Raw.o_min h
theorem o_rev {xs : List D} (h : Q (.lst xs.reverse) st) : ORv (.lst xs) st Q := by
  with_unfolding_all exact Raw.o_rev h
theorem o_newc {xs : List D} (h : Q (.ref st.length) (st ++ [.lk xs])) : ONc (.lst xs) st Q := by
  with_unfolding_all exact Raw.o_newc h
theorem o_popc {k : Nat} {i : Int} {xs : List D} {d : D} (e : getL st k = some xs) (h0 : 0 ≤ i) (hd : xs[i.toNat]? = some d) (hl : xs.length ≤ 1000000) (h : Q d (st.set k (.lk (xs.eraseIdx i.toNat)))) : OPc (.ref k) (.int i) st Q := by
  with_unfolding_all exact Raw.o_popc e h0 hd hl h
theorem o_sortS {xs : List D} {ss : List Str} (e : strsD xs = some ss) (hl : ss.length < 64) (h : Q (.lst ((sortS ss).map .str)) st) : OL T call .sorted (.lst xs) st Q := by
  with_unfolding_all exact Raw.o_sortS e hl h
theorem o_sortST {xs : List D} {ss : List Str} (e : strsD xs = some ss) (hl : ss.length < 64) (h : Q (.lst ((sortS ss).map .str)) st) : OL T call .sorted (.tup xs) st Q := by
  with_unfolding_all exact Raw.o_sortST e hl h
theorem i_seq {c : C} {Q : List D → Store → Prop} (h : EV T call c ρ st fun d st1 => ∃ xs, (d = .lst xs ∨ d = .tup xs) ∧ Q xs st1) : OIt T call (.seq c) ρ st Q := by
  with_unfolding_all exact Raw.i_seq h
theorem i_rng {a : C} {Q : List D → Store → Prop} (h : EV T call a ρ st fun d st1 => ∃ n : Nat, d = .int (n : Int) ∧ n < 1000000 ∧ Q ((List.range n).map fun i => D.int (i : Nat)) st1) : OIt T call (.rng1 a) ρ st Q := by
  with_unfolding_all exact Raw.i_rng h
theorem i_enum {a : C} {Q : List D → Store → Prop} (h : EV T call a ρ st fun d st1 => ∃ xs, (d = .lst xs ∨ d = .tup xs) ∧ Q (enumD xs) st1) : OIt T call (.enum a) ρ st Q := by
  with_unfolding_all exact Raw.i_enum h
theorem x_lc {α : Type} {elt : C} {tg : List Nat} {it : It} (f : α → D) (as : List α) (R : α → D → Prop) (J : Nat → Store → Prop) (hit : OIt T call it ρ st fun xs st1 => xs = as.map f ∧ J 0 st1) (hl : as.length ≤ 1000000)
    (H : ∀ j a, as[j]? = some a → ∀ st, J j st → ∃ ρ1, bindT tg (f a) (wipeE ρ tg) = some ρ1 ∧ EV T call elt ρ1 st fun d st1 => R a d ∧ J (j + 1) st1)
    (q : ∀ ds st1, L2R R as ds → J as.length st1 → Q (.lst ds) st1) : EV T call (.lc elt tg it .nil) ρ st Q := by
  with_unfolding_all exact Raw.x_lc f as R J hit hl H q
theorem x_lcV {α : Type} {elt : C} {tg : List Nat} {it : It} (f g : α → D) (as : List α) (hit : OIt T call it ρ st fun xs st1 => xs = as.map f ∧ st1 = st) (hl : as.length ≤ 1000000)
    (H : ∀ a ∈ as, ∃ ρ1, bindT tg (f a) (wipeE ρ tg) = some ρ1 ∧ EV T call elt ρ1 st fun d st1 => d = g a ∧ st1 = st)
    (q : Q (.lst (as.map g)) st) : EV T call (.lc elt tg it .nil) ρ st Q := by
  with_unfolding_all exact Raw.x_lcV f g as hit hl H q
theorem x_lcF {α : Type} {elt t : C} {tg : List Nat} {it : It} (f g : α → D) (p : α → Bool) (as : List α) (hit : OIt T call it ρ st fun xs st1 => xs = as.map f ∧ st1 = st) (hl : as.length ≤ 1000000)
    (H : ∀ a ∈ as, ∃ ρ1, bindT tg (f a) (wipeE ρ tg) = some ρ1 ∧ EVT T call t ρ1 st fun b st1 => b = p a ∧ st1 = st ∧ (b = true → EV T call elt ρ1 st fun d st1 => d = g a ∧ st1 = st))
    (q : Q (.lst ((as.filter p).map g)) st) : EV T call (.lc elt tg it (.cons t .nil)) ρ st Q := by
  with_unfolding_all exact Raw.x_lcF f g p as hit hl H q
theorem x_lcS {α : Type} {elt t : C} {tg : List Nat} {it : It} (f g : α → D) (as : List α) (J : Nat → Store → Prop) (hit : OIt T call it ρ st fun xs st1 => xs = as.map f ∧ J 0 st1) (hl : as.length ≤ 1000000)
    (H : ∀ j a, as[j]? = some a → ∀ st, J j st → ∃ ρ1, bindT tg (f a) (wipeE ρ tg) = some ρ1 ∧ EVT T call t ρ1 st fun b st1 => J (j + 1) st1 ∧ (b = true → EV T call elt ρ1 st1 fun d st2 => d = g a ∧ st2 = st1))
    (q : ∀ as' st1, List.Sublist as' as → J as.length st1 → Q (.lst (as'.map g)) st1) : EV T call (.lc elt tg it (.cons t .nil)) ρ st Q := by
  with_unfolding_all exact Raw.x_lcS f g as J hit hl H q
end
section
variable {T : Tab} {call : Nat → List D → Store → Res D} {wf : Nat} {ρ : Env} {st : Store} {W : Fl → Prop} {r : Ss}
theorem s_end (h : Fw W (.nx ρ st)) : SS W T call wf .nil ρ st := by
  with_unfolding_all exact Raw.s_end h
theorem s_nx {s : S} (h : ∃ ρ1 st1, evS T call wf s ρ st = .nx ρ1 st1 ∧ SS W T call wf r ρ1 st1) : SS W T call wf (.cons s r) ρ st := by
  with_unfolding_all exact Raw.s_nx h
theorem s_set {i : Nat} {e : C} (h : EV T call e ρ st fun d st1 => i < ρ.length ∧ SS W T call wf r (ρ.set i (some (.v d))) st1) : SS W T call wf (.cons (.set i e) r) ρ st := by
  with_unfolding_all exact Raw.s_set h
theorem s_own {i : Nat} {e : C} (h : EV T call e ρ st fun d st1 => ∃ xs, d = .lst xs ∧ i < ρ.length ∧ SS W T call wf r (ρ.set i (some (.own xs))) st1) : SS W T call wf (.cons (.own i e) r) ρ st := by
  with_unfolding_all exact Raw.s_own h
theorem s_frz {i : Nat} {xs : List D} (e : slotO ρ i = some xs) (h : SS W T call wf r (ρ.set i (some (.v (.lst xs)))) st) : SS W T call wf (.cons (.frz i) r) ρ st := by
  with_unfolding_all exact Raw.s_frz e h
theorem s_unp {is : List Nat} {e : C} (h : EV T call e ρ st fun d st1 => ∃ xs ρ1, (d = .tup xs ∨ d = .lst xs) ∧ setAll is xs ρ = some ρ1 ∧ SS W T call wf r ρ1 st1) : SS W T call wf (.cons (.unp is e) r) ρ st := by
  with_unfolding_all exact Raw.s_unp h
theorem s_par {i j : Nat} {a b : C} (h : EV T call a ρ st fun x st1 => EV T call b ρ st1 fun y st2 => (i < ρ.length ∧ j < ρ.length ∧ i ≠ j) ∧ SS W T call wf r ((ρ.set i (some (.v x))).set j (some (.v y))) st2) : SS W T call wf (.cons (.par i j a b) r) ρ st := by
  with_unfolding_all exact Raw.s_par h
theorem s_parN {ts : List (Nat × Bool)} {es : Cs} (h : EVS T call es ρ st fun xs st1 => ∃ ρ1, setPar ts xs ρ = some ρ1 ∧ SS W T call wf r ρ1 st1) : SS W T call wf (.cons (.parN ts es) r) ρ st := by
  with_unfolding_all exact Raw.s_parN h
theorem s_app {i : Nat} {e : C} {xs : List D} (hs : slotO ρ i = some xs) (h : EV T call e ρ st fun d st1 => xs.length < 1000000 ∧ SS W T call wf r (ρ.set i (some (.own (xs ++ [d])))) st1) : SS W T call wf (.cons (.app i e) r) ρ st := by
  with_unfolding_all exact Raw.s_app hs h
theorem s_ext {i : Nat} {e : C} {xs : List D} (hs : slotO ρ i = some xs) (h : EV T call e ρ st fun d st1 => ∃ ys, d = .lst ys ∧ xs.length + ys.length ≤ 1000000 ∧ SS W T call wf r (ρ.set i (some (.own (xs ++ ys)))) st1) : SS W T call wf (.cons (.ext i e) r) ρ st := by
  with_unfolding_all exact Raw.s_ext hs h
theorem s_dput {o e : C} {k : Nat} (h : EV T call e ρ st fun x st1 => EV T call o ρ st1 fun y st2 => ∃ st3, dputD y k x st2 = some st3 ∧ SS W T call wf r ρ st3) : SS W T call wf (.cons (.dput o k e) r) ρ st := by
  with_unfolding_all exact Raw.s_dput h
theorem s_ex {e : C} (h : EV T call e ρ st fun _ st1 => SS W T call wf r ρ st1) : SS W T call wf (.cons (.ex e) r) ρ st := by
  with_unfolding_all exact Raw.s_ex h
theorem s_pass (h : SS W T call wf r ρ st) : SS W T call wf (.cons .pass r) ρ st := by
  with_unfolding_all exact Raw.s_pass h
theorem s_ret {e : C} (h : EV T call e ρ st fun d st1 => Fw W (.rt d st1)) : SS W T call wf (.cons (.ret e) r) ρ st := by
  with_unfolding_all exact Raw.s_ret h
theorem s_ite {t : C} {a b : Ss} (h : EVT T call t ρ st fun k st1 => (k = true → SS W T call wf (a.app r) ρ st1) ∧ (k = false → SS W T call wf (b.app r) ρ st1)) : SS W T call wf (.cons (.ite t a b) r) ρ st := by
  with_unfolding_all exact Raw.s_ite h
theorem s_for {α : Type} {tg : List Nat} {it : It} {body : Ss} (f : α → D) (as : List α) (P : Nat → Env → Store → Prop)
    (hit : OIt T call it ρ st fun xs st1 => xs = as.map f ∧ P 0 ρ st1)
    (H : ∀ j a, as[j]? = some a → ∀ ρ st, P j ρ st → ∃ ρ1, bindT tg (f a) ρ = some ρ1 ∧ SS (fun F => ∃ ρ2 st2, F = Fl.nx ρ2 st2 ∧ P (j + 1) ρ2 st2) T call wf body ρ1 st)
    (q : ∀ ρ st, P as.length ρ st → SS W T call wf r ρ st) : SS W T call wf (.cons (.for tg it body) r) ρ st := by
  with_unfolding_all exact Raw.s_for f as P hit H q
theorem s_forN {α : Type} {i : Nat} {is : List Nat} {it : It} {body : Ss} (f : α → D) (as : List α) (P : Nat → Env → Store → Prop)
    (hit : OIt T call it ρ st fun xs st1 => flat2s xs = some (as.map f) ∧ P 0 ρ st1)
    (H : ∀ j a, as[j]? = some a → ∀ ρ st, P j ρ st → ∃ ρ1, bindT (i :: is) (f a) ρ = some ρ1 ∧ SS (fun F => ∃ ρ2 st2, F = Fl.nx ρ2 st2 ∧ P (j + 1) ρ2 st2) T call wf body ρ1 st)
    (q : ∀ ρ st, P as.length ρ st → SS W T call wf r ρ st) : SS W T call wf (.cons (.forN i is it body) r) ρ st := by
  with_unfolding_all exact Raw.s_forN f as P hit H q
theorem f_run {P : Prg} {n j : Nat} {as : List D} {f : Fn} {Q : D → Store → Prop} (h : P.fn[j]? = some f) (hi : f.init = none) (hl : as.length = f.pars)
    (k : SS (fun F => OkR (endF f.fresh F) Q) P.tab (run P.tab P.fn wf n) wf f.body (startE f.slots as) st) : OkR (run P.tab P.fn wf (n + 1) j as st) Q := by
  with_unfolding_all exact Raw.f_run h hi hl k
theorem f_ret {fr : Bool} {d : D} {Q : D → Store → Prop} (h : Q d st) : Fw (fun F => OkR (endF fr F) Q) (.rt d st) := by
  with_unfolding_all exact Raw.f_ret h
theorem f_nx {P : Env → Store → Prop} (h : P ρ st) : Fw (fun F => ∃ ρ2 st2, F = Fl.nx ρ2 st2 ∧ P ρ2 st2) (.nx ρ st) := by
  with_unfolding_all exact Raw.f_nx h
end
theorem OF.mono {call : Nat → List D → Store → Res D} {j : Nat} {xs : List D} {st : Store} {Q Q' : D → Store → Prop} (h : OF call j xs st Q) (k : ∀ a st, Q a st → Q' a st) : OF call j xs st Q' := by
  unfold OF at *
  exact h.mono k
theorem OF.is {call : Nat → List D → Store → Res D} {j : Nat} {xs : List D} {st : Store} {Q : D → Store → Prop} (h : OF call j xs st Q) : ∃ d st1, call j xs st = .ok d st1 ∧ Q d st1 := by
  unfold OF at h
  exact h
theorem EV.mono {T : Tab} {call : Nat → List D → Store → Res D} {c : C} {ρ : Env} {st : Store} {Q Q' : D → Store → Prop} (h : EV T call c ρ st Q) (k : ∀ a st, Q a st → Q' a st) : EV T call c ρ st Q' := by
  unfold EV at *
  exact h.mono k
theorem f_call {P : Prg} {wf n j : Nat} {as : List D} {st : Store} {f : Fn} {Q : D → Store → Prop} (h : P.fn[j]? = some f) (hi : f.init = none) (hl : as.length = f.pars) (ρ : Env) (hρ : startE f.slots as = ρ)
    (k : SS (fun F => OkR (endF f.fresh F) Q) P.tab (run P.tab P.fn wf n) wf f.body ρ st) : OF (run P.tab P.fn wf (n + 1)) j as st Q := by
  subst hρ
  exact .by (by with_unfolding_all exact Raw.f_run h hi hl k)
@[irreducible] def FoX (W : Fl → Prop) (T : Tab) (call : Nat → List D → Store → Res D) (wf : Nat) (tg : List Nat) (body r : Ss) (xs : List D) (ρ : Env) (st : Store) : Prop := ∃ ρ1 st1, forR tg (evSs T call wf body) xs ρ st = .nx ρ1 st1 ∧ W (evSs T call wf r ρ1 st1)
section
variable {T : Tab} {call : Nat → List D → Store → Res D} {wf : Nat} {ρ : Env} {st : Store} {W : Fl → Prop} {r : Ss}
theorem s_forX {tg : List Nat} {it : It} {body : Ss} (hit : OIt T call it ρ st fun xs st1 => FoX W T call wf tg body r xs ρ st1) : SS W T call wf (.cons (.for tg it body) r) ρ st := by
  unfold OIt FoX at hit
  unfold SS
  obtain ⟨xs, st1, e, ρ1, st2, e2, h⟩ := hit
  rw [ss_for e e2]
  exact h
theorem fr_map {α : Type} {tg : List Nat} {body : Ss} (f : α → D) {as : List α} (P : Nat → Env → Store → Prop) (h0 : P 0 ρ st)
    (H : ∀ j a, as[j]? = some a → ∀ ρ st, P j ρ st → ∃ ρ1, bindT tg (f a) ρ = some ρ1 ∧ SS (fun F => ∃ ρ2 st2, F = Fl.nx ρ2 st2 ∧ P (j + 1) ρ2 st2) T call wf body ρ1 st)
    (q : ∀ ρ st, P as.length ρ st → SS W T call wf r ρ st) : FoX W T call wf tg body r (as.map f) ρ st := by
  unfold FoX
  unfold SS at H q
  obtain ⟨ρ', st', e2, h2⟩ := forR_inv (tg := tg) (body := evSs T call wf body) P (as.map f) 0 ρ st h0 fun j d hj ρ st hp => by
    rw [List.getElem?_map] at hj
    obtain ⟨a, ha, rfl⟩ := Option.map_eq_some_iff.mp hj
    rw [Nat.zero_add] at hp ⊢
    obtain ⟨ρ1, b, ρ2, st2, e, h⟩ := H j a ha ρ st hp
    exact ⟨ρ1, ρ2, st2, b, e, h⟩
  rw [Nat.zero_add, List.length_map] at h2
  exact ⟨ρ', st', e2, q ρ' st' h2⟩
end
theorem sq_l {xs : List D} {P : List D → Prop} (h : P xs) : ∃ ys, (D.lst xs = .lst ys ∨ D.lst xs = .tup ys) ∧ P ys := ⟨xs, .inl rfl, h⟩
theorem sq_t {xs : List D} {P : List D → Prop} (h : P xs) : ∃ ys, (D.tup xs = .lst ys ∨ D.tup xs = .tup ys) ∧ P ys := ⟨xs, .inr rfl, h⟩
theorem rg_ok {i : Int} {P : List D → Prop} (n : Nat) (e : i = n) (h : n < 1000000) (q : P ((List.range n).map fun i => D.int (i : Nat))) : ∃ m : Nat, D.int i = .int (m : Int) ∧ m < 1000000 ∧ P ((List.range m).map fun i => D.int (i : Nat)) := ⟨n, by rw [e], h, q⟩
theorem bl_ok {b : Bool} {P : Bool → Prop} (h : P b) : ∃ k, D.bl b = .bl k ∧ P k := ⟨b, rfl, h⟩
theorem ls_ok {xs : List D} {P : List D → Prop} (h : P xs) : ∃ ys, D.lst xs = .lst ys ∧ P ys := ⟨xs, rfl, h⟩
theorem len_ok {i n : Nat} {P : Prop} (h : Nat.ble (i + 1) n = true) (p : P) : i < n ∧ P := ⟨Nat.le_of_ble_eq_true h, p⟩
theorem le_ok {i n : Nat} {P : Prop} (h : Nat.ble i n = true) (p : P) : i ≤ n ∧ P := ⟨Nat.le_of_ble_eq_true h, p⟩
theorem at_0 {a : D} {r : List D} : atD (a :: r) 0 = some a := rfl
theorem at_1 {a b : D} {r : List D} : atD (a :: b :: r) 1 = some b := rfl
theorem at_2 {a b c : D} {r : List D} : atD (a :: b :: c :: r) 2 = some c := rfl
theorem at_3 {a b c d : D} {r : List D} : atD (a :: b :: c :: d :: r) 3 = some d := rfl
end Eng

namespace K06
open Eng
/-- law -/
def b0 : Ss := (.cons (.set 1 (.call 1 (.cons (.var 0) .nil) []))
  (.cons (.own 2 (.call 2 .nil []))
  (.cons (.for [3] (.rng1 (.int 8)) (.cons (.app 2 (.call 3 (.cons (.var 1) (.cons (.int 6) (.cons (.int 6) .nil))) []))
  .nil))
  (.cons (.frz 2)
  (.cons (.for [4] (.seq (.var 2)) (.cons (.ite (.not (.call 4 (.cons (.var 1) (.cons (.var 4) .nil)) [])) (.cons (.ret (.bl false))
  .nil) .nil)
  .nil))
  (.cons (.for [5] (.seq (.tup (.cons (.int 1) (.cons (.int 2) (.cons (.int 3) (.cons (.int 4) (.cons (.int 5) (.cons (.int 6) .nil)))))))) (.cons (.parN [(7, true), (8, false)] (.cons (.lst .nil) (.cons (.newc (.call 5 (.cons (.var 1) (.cons (.var 5) .nil)) [])) .nil)))
  (.cons (.for [3] (.rng1 (.var 5)) (.cons (.app 7 (.popc (.var 8) (.call 6 (.cons (.var 1) (.cons (.blt .len (.var 8)) .nil)) [])))
  .nil))
  (.cons (.frz 7)
  (.cons (.set 6 (.blt .tuple (.lc (.tup (.cons (.var 9) (.cons (.tup (.cons (.int 0) (.cons (.int 1) .nil))) (.cons (.int 0) (.cons (.bl true) .nil))))) [9] (.seq (.blt .sorted (.var 7))) .nil)))
  (.cons (.ite (.or (.cons (.cmp .ne (.repr (.call 7 (.cons (.var 7) .nil) [])) (.repr (.var 6))) (.cons (.cmp .ne (.repr (.call 7 (.cons (.rev (.var 7)) .nil) [])) (.repr (.var 6))) .nil))) (.cons (.ret (.bl false))
  .nil) .nil)
  .nil))))))
  (.cons (.set 6 (.tup (.cons (.tup (.cons (.str "a") (.cons (.tup (.cons (.int 0) (.cons (.int 1) .nil))) (.cons (.int 0) (.cons (.bl true) .nil))))) (.cons (.tup (.cons (.str "m") (.cons (.tup (.cons (.int 0) (.cons (.int 1) .nil))) (.cons (.int 0) (.cons (.bl true) .nil))))) (.cons (.tup (.cons (.str "zz") (.cons (.tup (.cons (.int 0) (.cons (.int 1) .nil))) (.cons (.int 0) (.cons (.bl true) .nil))))) .nil)))))
  (.cons (.ret (.cmp .eq (.repr (.callT 8 (.cons (.str "zz") (.cons (.str "a") (.cons (.str "m") .nil))))) (.repr (.var 6))))
  .nil))))))))
def f0 : FnI := ⟨some "law", ["_law_script", "_law_reader_here", "_law_cases", "_law_k", "_law_good", "_law_many", "_law_want", "_law_heads_here", "_law_pool", "_law_head", "0"], ["_law_script"], [], b0, none, false, false, false⟩
/-- _law_reader -/
def b1 : Ss := (.cons (.ret (.dict [10, 11, 12, 13] (.cons (.blt .list (.sl (.var 0) .non (.int 63))) (.cons (.int 0) (.cons (.int 0) (.cons (.int 0) .nil))))))
  .nil)
def f1 : FnI := ⟨some "_law_reader", ["_law_script"], ["_law_script"], [], b1, none, false, false, false⟩
/-- _law_fixed_sheets -/
def b2 : Ss := (.cons (.set 0 (.tup (.cons (.tup (.cons (.str "fax") (.cons (.tup (.cons (.int 1) (.cons (.int 2) .nil))) (.cons (.int 1) (.cons (.bl true) .nil))))) (.cons (.tup (.cons (.str "tel") (.cons (.tup (.cons (.int 3) (.cons (.int 4) .nil))) (.cons (.int 0) (.cons (.bl true) .nil))))) .nil))))
  (.cons (.set 1 (.lst (.cons (.str "a") (.cons (.str "ab") (.cons (.str "day") (.cons (.str "ended") (.cons (.str "line") (.cons (.str "section") .nil))))))))
  (.cons (.set 2 (.blt .tuple (.lc (.tup (.cons (.var 6) (.cons (.tup (.cons (.bin .sub (.bin .pow (.int 10) (.int 6)) (.int 1)) (.cons (.bin .pow (.int 10) (.int 4)) .nil))) (.cons (.bin .sub (.int 100) (.var 5)) (.cons (.cmp .ne (.var 6) (.str "day")) .nil))))) [5, 6] (.enum (.var 1)) .nil)))
  (.cons (.set 3 (.blt .tuple (.repl (.cons (.blt .tuple (.lc (.ite (.cmp .isin (.var 5) (.tup (.cons (.int 0) (.cons (.int 2) .nil)))) (.tup (.cons (.int 0) (.cons (.int 1) .nil))) (.tup (.cons (.bin .mul (.int 1000) (.var 5)) (.cons (.int 7) .nil)))) [5] (.rng1 (.int 6)) .nil)) .nil) (.int 10))))
  (.cons (.own 4 (.lst (.cons (.tup (.cons (.tup (.cons (.tup (.cons (.str "a") (.cons (.tup (.cons (.int 0) (.cons (.int 1) .nil))) (.cons (.int 0) (.cons (.bl true) .nil))))) .nil)) (.cons (.tup .nil) (.cons (.tup .nil) .nil)))) .nil)))
  (.cons (.own 4 (.catb 4 (.lst (.cons (.tup (.cons (.var 0) (.cons (.tup (.cons (.tup (.cons (.str "fax") (.cons (.str "tel") .nil))) .nil)) (.cons (.tup (.cons (.tup (.cons (.tup (.cons (.int 1) (.cons (.int 3) .nil))) (.cons (.tup (.cons (.int 1) (.cons (.int 2) .nil))) .nil))) (.cons (.tup (.cons (.tup (.cons (.int 0) (.cons (.int 1) .nil))) (.cons (.tup (.cons (.int 5) (.cons (.int 4) .nil))) .nil))) .nil))) .nil)))) .nil))))
  (.cons (.app 4 (.tup (.cons (.var 2) (.cons (.tup (.cons (.tup (.cons (.str "a") (.cons (.str "ab") .nil))) (.cons (.tup (.cons (.str "a") (.cons (.str "ab") (.cons (.str "day") (.cons (.str "ended") .nil))))) (.cons (.tup (.cons (.str "line") (.cons (.str "section") .nil))) .nil)))) (.cons (.var 3) .nil)))))
  (.cons (.ret (.catb 4 (.lst (.cons (.tup (.cons (.tup (.cons (.tup (.cons (.str "b") (.cons (.tup (.cons (.int 7) (.cons (.int 2) .nil))) (.cons (.neg (.int 4)) (.cons (.bl false) .nil))))) .nil)) (.cons (.tup .nil) (.cons (.bin .mul (.tup (.cons (.tup (.cons (.tup (.cons (.int 0) (.cons (.int 1) .nil))) .nil)) .nil)) (.int 3)) .nil)))) (.cons (.tup (.cons (.var 0) (.cons (.tup .nil) (.cons (.tup .nil) .nil)))) .nil)))))
  .nil))))))))
def f2 : FnI := ⟨some "_law_fixed_sheets", ["_law_two", "_law_heads_here", "_law_six", "_law_far", "_law_found", "_law_k", "_law_head"], [], [], b2, none, true, false, false⟩
/-- _law_random_sheet -/
def b3 : Ss := (.cons (.set 3 (.call 9 (.cons (.var 0) (.cons (.var 1) .nil)) []))
  (.cons (.set 4 (.call 10 (.cons (.var 0) (.cons (.lc (.idx (.var 5) (.int 0)) [5] (.seq (.var 3)) .nil) (.cons (.int 3) .nil))) []))
  (.cons (.ret (.tup (.cons (.var 3) (.cons (.var 4) (.cons (.call 11 (.cons (.var 0) (.cons (.var 3) (.cons (.call 6 (.cons (.var 0) (.cons (.bin .add (.var 2) (.int 1)) .nil)) []) .nil))) []) .nil)))))
  .nil)))
def f3 : FnI := ⟨some "_law_random_sheet", ["_law_reader_here", "_law_most", "_law_days_most", "_law_rows", "_law_parts", "_law_entry"], ["_law_reader_here", "_law_most", "_law_days_most"], [], b3, none, false, false, false⟩
/-- _law_check_sheet -/
def b4 : Ss := (.cons (.unp [4, 5, 6] (.var 1))
  (.cons (.for [2] (.rng1 (.int 2)) (.cons (.set 7 (.call 12 (.cons (.var 0) (.cons (.var 1) .nil)) []))
  (.cons (.ite (.cmp .eq (.var 2) (.int 1)) (.cons (.set 7 (.blt .tuple (.lc (.bin .mul (.tup (.cons (.int 0) .nil)) (.blt .len (.var 4))) [10] (.seq (.var 6)) .nil)))
  .nil) .nil)
  (.cons (.set 8 (.repr (.tup (.cons (.var 1) (.cons (.var 7) .nil)))))
  (.cons (.ite (.cmp .ne (.repr (.call 14 (.cons (.var 1) (.cons (.var 7) .nil)) [])) (.repr (.call 13 (.cons (.var 1) (.cons (.var 7) .nil)) []))) (.cons (.ret (.bl false))
  .nil) .nil)
  (.cons (.ite (.cmp .ne (.repr (.tup (.cons (.var 1) (.cons (.var 7) .nil)))) (.var 8)) (.cons (.ret (.bl false))
  .nil) .nil)
  .nil))))))
  (.cons (.for [3] (.rng1 (.bin .add (.blt .len (.var 6)) (.int 1))) (.cons (.for [9] (.rng1 (.bin .add (.bin .sub (.blt .len (.var 6)) (.var 3)) (.int 1))) (.cons (.ite (.cmp .ne (.repr (.call 15 (.cons (.var 1) (.cons (.var 3) (.cons (.var 9) .nil))) [])) (.repr (.tup (.cons (.var 4) (.cons (.var 5) (.cons (.sl (.var 6) (.var 3) (.bin .add (.var 3) (.var 9))) .nil)))))) (.cons (.ret (.bl false))
  .nil) .nil)
  .nil))
  .nil))
  (.cons (.ret (.bl true))
  .nil))))
def f4 : FnI := ⟨some "_law_check_sheet", ["_law_reader_here", "_law_good", "_law_k", "_law_begin", "_law_rows", "_law_parts", "_law_days_now", "_law_booked", "_law_saved", "_law_many", "_law_one", "0"], ["_law_reader_here", "_law_good"], [], b4, none, false, false, false⟩
/-- _law_heads -/
def b5 : Ss := (.cons (.parN [(3, false), (4, true)] (.cons (.newc (.lst (.cons (.str "a") (.cons (.str "ab") (.cons (.str "day") (.cons (.str "ended") (.cons (.str "fax") (.cons (.str "line") (.cons (.str "section") (.cons (.str "tel") (.cons (.str "zzzzzzzz") .nil))))))))))) (.cons (.lst .nil) .nil)))
  (.cons (.for [2] (.rng1 (.var 1)) (.cons (.app 4 (.popc (.var 3) (.call 6 (.cons (.var 0) (.cons (.blt .len (.var 3)) .nil)) [])))
  .nil))
  (.cons (.frz 4)
  (.cons (.ret (.blt .sorted (.var 4)))
  .nil))))
def f5 : FnI := ⟨some "_law_heads", ["_law_reader_here", "_law_many", "_law_k", "_law_pool", "_law_found"], ["_law_reader_here", "_law_many"], [], b5, none, true, false, false⟩
/-- _law_draw -/
def b6 : Ss := (.cons (.dput (.var 0) 13 (.bin .add (.dget (.var 0) 13) (.int 1)))
  (.cons (.ite (.cmp .gt (.dget (.var 0) 12) (.int 0)) (.cons (.set 5 (.bin .mod (.dget (.var 0) 12) (.var 1)))
  (.cons (.dput (.var 0) 12 (.bin .fdiv (.dget (.var 0) 12) (.var 1)))
  (.cons (.ret (.var 5))
  .nil))) .nil)
  (.cons (.set 2 (.dget (.var 0) 11))
  (.cons (.dput (.var 0) 11 (.bin .add (.var 2) (.int 1)))
  (.cons (.set 3 (.ite (.cmp .ne (.dget (.var 0) 10) (.lst .nil)) (.idx (.dget (.var 0) 10) (.bin .mod (.var 2) (.blt .len (.dget (.var 0) 10)))) (.int 29)))
  (.cons (.ite (.and (.cons (.cmp .ge (.var 3) (.bin .pow (.int 10) (.int 18))) (.cons (.cmp .lt (.var 2) (.blt .len (.dget (.var 0) 10))) .nil))) (.cons (.dput (.var 0) 12 (.bin .fdiv (.var 3) (.var 1)))
  (.cons (.ret (.bin .mod (.var 3) (.var 1)))
  .nil)) .nil)
  (.cons (.set 4 (.bin .mod (.bin .add (.bin .add (.bin .mod (.var 3) (.int 1000000447)) (.bin .mul (.int 140009) (.dget (.var 0) 13))) (.int 71)) (.int 2147483489)))
  (.cons (.set 4 (.bin .mod (.bin .add (.bin .add (.bin .mul (.var 4) (.var 4)) (.bin .mul (.int 4099093) (.dget (.var 0) 13))) (.int 37)) (.int 2147483477)))
  (.cons (.ret (.bin .mod (.bin .fdiv (.bin .mod (.bin .add (.bin .mul (.var 4) (.var 4)) (.bin .mul (.int 83) (.var 4))) (.int 2147483423)) (.int 16)) (.var 1)))
  .nil)))))))))
def f6 : FnI := ⟨some "_law_draw", ["_law_reader_here", "_law_many", "_law_spot", "_law_cell", "_law_mixed", "_law_digit"], ["_law_reader_here", "_law_many"], [], b6, none, false, false, false⟩
/-- _law_fresh_of -/
def b7 : Ss := (.cons (.ite (.cmp .eq (.blt .len (.var 0)) (.int 1)) (.cons (.ret (.callT 8 (.cons (.idx (.var 0) (.int 0)) .nil)))
  .nil) .nil)
  (.cons (.ite (.cmp .eq (.blt .len (.var 0)) (.int 2)) (.cons (.ret (.callT 8 (.cons (.idx (.var 0) (.int 0)) (.cons (.idx (.var 0) (.int 1)) .nil))))
  .nil) .nil)
  (.cons (.ite (.cmp .eq (.blt .len (.var 0)) (.int 3)) (.cons (.ret (.callT 8 (.cons (.idx (.var 0) (.int 0)) (.cons (.idx (.var 0) (.int 1)) (.cons (.idx (.var 0) (.int 2)) .nil)))))
  .nil) .nil)
  (.cons (.ite (.cmp .eq (.blt .len (.var 0)) (.int 4)) (.cons (.ret (.callT 8 (.cons (.idx (.var 0) (.int 0)) (.cons (.idx (.var 0) (.int 1)) (.cons (.idx (.var 0) (.int 2)) (.cons (.idx (.var 0) (.int 3)) .nil))))))
  .nil) .nil)
  (.cons (.ite (.cmp .eq (.blt .len (.var 0)) (.int 5)) (.cons (.ret (.callT 8 (.cons (.idx (.var 0) (.int 0)) (.cons (.idx (.var 0) (.int 1)) (.cons (.idx (.var 0) (.int 2)) (.cons (.idx (.var 0) (.int 3)) (.cons (.idx (.var 0) (.int 4)) .nil)))))))
  .nil) .nil)
  (.cons (.unp [1, 2, 3, 4, 5, 6] (.var 0))
  (.cons (.ret (.callT 8 (.cons (.var 1) (.cons (.var 2) (.cons (.var 3) (.cons (.var 4) (.cons (.var 5) (.cons (.var 6) .nil))))))))
  .nil)))))))
def f7 : FnI := ⟨some "_law_fresh_of", ["_law_heads_here", "_law_a", "_law_b", "_law_c", "_law_d", "_law_e", "_law_f", "0"], ["_law_heads_here"], [], b7, none, false, false, false⟩
/-- fresh -/
def b8 : Ss := (.cons (.ret (.blt .tuple (.lc (.tup (.cons (.var 1) (.cons (.gco 0) (.cons (.int 0) (.cons (.bl true) .nil))))) [1] (.seq (.blt .sorted (.var 0))) .nil)))
  .nil)
def f8 : FnI := ⟨some "fresh", ["lines", "name", "0"], ["lines"], [], b8, none, false, false, true⟩
/-- _law_random_state -/
def b9 : Ss := (.cons (.own 2 (.lst .nil))
  (.cons (.for [3] (.seq (.call 5 (.cons (.var 0) (.cons (.bin .add (.int 1) (.call 6 (.cons (.var 0) (.cons (.var 1) .nil)) [])) .nil)) [])) (.cons (.set 4 (.call 27 (.cons (.var 0) (.cons (.idx (.lst (.cons (.int 3) (.cons (.int 900000) .nil))) (.call 6 (.cons (.var 0) (.cons (.int 2) .nil)) [])) .nil)) []))
  (.cons (.set 5 (.bin .add (.call 28 (.cons (.var 4) .nil) []) (.idx (.lst (.cons (.int 0) (.cons (.int 1) (.cons (.neg (.int 1)) (.cons (.int 5) (.cons (.neg (.int 900000)) (.cons (.int 0) .nil))))))) (.call 6 (.cons (.var 0) (.cons (.int 6) .nil)) []))))
  (.cons (.app 2 (.tup (.cons (.var 3) (.cons (.var 4) (.cons (.var 5) (.cons (.cmp .gt (.call 6 (.cons (.var 0) (.cons (.int 4) .nil)) []) (.int 0)) .nil))))))
  .nil))))
  (.cons (.frz 2)
  (.cons (.ret (.blt .tuple (.var 2)))
  .nil))))
def f9 : FnI := ⟨some "_law_random_state", ["_law_reader_here", "_law_most", "_law_found", "_law_head", "_law_ratio", "_law_booked"], ["_law_reader_here", "_law_most"], [], b9, none, false, false, false⟩
/-- _law_random_sections -/
def b10 : Ss := (.cons (.own 3 (.lst .nil))
  (.cons (.for [4] (.rng1 (.call 6 (.cons (.var 0) (.cons (.bin .add (.var 2) (.int 4)) .nil)) [])) (.cons (.set 5 (.var 1))
  (.cons (.ite (.and (.cons (.cmp .ne (.bor 3) (.lst .nil)) (.cons (.cmp .eq (.call 6 (.cons (.var 0) (.cons (.int 2) .nil)) []) (.int 0)) .nil))) (.cons (.set 5 (.blt .list (.idx (.bor 3) (.call 6 (.cons (.var 0) (.cons (.blt .len (.bor 3)) .nil)) []))))
  .nil) .nil)
  (.cons (.set 6 (.blt .tuple (.lc (.var 9) [9] (.seq (.var 5)) (.cons (.cmp .gt (.call 6 (.cons (.var 0) (.cons (.int 3) .nil)) []) (.int 0)) .nil))))
  (.cons (.set 7 (.lc (.var 8) [8] (.seq (.bor 3)) (.cons (.or (.cons (.cmp .eq (.var 8) (.var 6)) (.cons (.call 29 (.cons (.var 8) (.cons (.var 6) .nil)) []) .nil))) .nil)))
  (.cons (.ite (.and (.cons (.cmp .gt (.blt .len (.var 6)) (.int 1)) (.cons (.cmp .lt (.blt .len (.bor 3)) (.var 2)) (.cons (.cmp .eq (.var 7) (.lst .nil)) .nil)))) (.cons (.app 3 (.var 6))
  .nil) .nil)
  .nil))))))
  (.cons (.frz 3)
  (.cons (.ret (.blt .tuple (.blt .sorted (.var 3))))
  .nil))))
def f10 : FnI := ⟨some "_law_random_sections", ["_law_reader_here", "_law_heads_here", "_law_most", "_law_found", "_law_k", "_law_base", "_law_piece", "_law_taken", "_law_one", "_law_head"], ["_law_reader_here", "_law_heads_here", "_law_most"], [], b10, none, false, false, false⟩
/-- _law_random_days -/
def b11 : Ss := (.cons (.own 3 (.lst .nil))
  (.cons (.for [4] (.rng1 (.var 2)) (.cons (.own 5 (.lst .nil))
  (.cons (.for [6] (.seq (.var 1)) (.cons (.set 7 (.call 27 (.cons (.var 0) (.cons (.idx (.lst (.cons (.int 2) (.cons (.int 1000) .nil))) (.call 6 (.cons (.var 0) (.cons (.int 2) .nil)) [])) .nil)) []))
  (.cons (.app 5 (.ite (.and (.cons (.idx (.var 6) (.int 3)) (.cons (.cmp .gt (.call 6 (.cons (.var 0) (.cons (.int 5) .nil)) []) (.int 0)) .nil))) (.var 7) (.tup (.cons (.int 0) (.cons (.int 1) .nil)))))
  .nil)))
  (.cons (.frz 5)
  (.cons (.app 3 (.blt .tuple (.var 5)))
  .nil)))))
  (.cons (.frz 3)
  (.cons (.ret (.blt .tuple (.var 3)))
  .nil))))
def f11 : FnI := ⟨some "_law_random_days", ["_law_reader_here", "_law_rows", "_law_many", "_law_found", "_law_k", "_law_charges", "_law_entry", "_law_ratio"], ["_law_reader_here", "_law_rows", "_law_many"], [], b11, none, false, false, false⟩
/-- _law_random_booking -/
def b12 : Ss := (.cons (.unp [4, 5, 6] (.var 1))
  (.cons (.own 2 (.lst .nil))
  (.cons (.for [3] (.seq (.var 6)) (.cons (.app 2 (.blt .tuple (.lc (.bin .add (.call 28 (.cons (.var 7) .nil) []) (.call 6 (.cons (.var 0) (.cons (.int 3) .nil)) [])) [7] (.seq (.var 3)) .nil)))
  .nil))
  (.cons (.frz 2)
  (.cons (.ret (.blt .tuple (.var 2)))
  .nil)))))
def f12 : FnI := ⟨some "_law_random_booking", ["_law_reader_here", "_law_good", "_law_found", "_law_one", "_law_rows", "_law_parts", "_law_days_now", "_law_ratio"], ["_law_reader_here", "_law_good"], [], b12, none, false, false, false⟩
/-- _law_after -/
def b13 : Ss := (.cons (.unp [4, 5, 6] (.var 0))
  (.cons (.own 2 (.lst .nil))
  (.cons (.for [3] (.rng1 (.blt .len (.var 4))) (.cons (.unp [8, 9, 10, 11] (.idx (.var 4) (.var 3)))
  (.cons (.for [7] (.rng1 (.blt .len (.var 6))) (.cons (.par 9 10 (.call 30 (.cons (.var 9) (.cons (.idx (.idx (.var 6) (.var 7)) (.var 3)) .nil)) []) (.bin .add (.var 10) (.idx (.idx (.var 1) (.var 7)) (.var 3))))
  .nil))
  (.cons (.app 2 (.tup (.cons (.var 8) (.cons (.var 9) (.cons (.var 10) (.cons (.var 11) .nil))))))
  .nil))))
  (.cons (.frz 2)
  (.cons (.ret (.blt .tuple (.var 2)))
  .nil)))))
def f13 : FnI := ⟨some "_law_after", ["_law_good", "_law_booked", "_law_found", "_law_i", "_law_rows", "_law_parts", "_law_days_now", "_law_d", "_law_head", "_law_ratio", "_law_have", "_law_goes"], ["_law_good", "_law_booked"], [], b13, none, false, false, false⟩
/-- state_after -/
def b14 : Ss := (.cons (.unp [3, 4, 5] (.var 0))
  (.cons (.own 2 (.lst .nil))
  (.cons (.forN 6 [8, 9, 10, 11] (.enum (.var 3)) (.cons (.set 7 (.blt .sum (.lc (.idx (.var 12) (.var 6)) [12] (.seq (.var 1)) .nil)))
  (.cons (.app 2 (.tup (.cons (.var 8) (.cons (.call 31 (.cons (.var 9) (.cons (.lc (.idx (.var 13) (.var 6)) [13] (.seq (.var 5)) .nil) .nil)) []) (.cons (.bin .add (.var 10) (.var 7)) (.cons (.var 11) .nil))))))
  .nil)))
  (.cons (.frz 2)
  (.cons (.ret (.blt .tuple (.var 2)))
  .nil)))))
def f14 : FnI := ⟨some "state_after", ["sheet", "booking", "found", "lines", "sections", "days", "i", "booked", "name", "exact", "cents", "goes_on", "numbers", "charges"], ["sheet", "booking"], [], b14, none, false, false, false⟩
/-- part -/
def b15 : Ss := (.cons (.unp [3, 4, 5] (.var 0))
  (.cons (.ret (.tup (.cons (.var 3) (.cons (.var 4) (.cons (.sl (.var 5) (.var 1) (.bin .add (.var 1) (.var 2))) .nil)))))
  .nil))
def f15 : FnI := ⟨some "part", ["sheet", "first", "count", "lines", "sections", "days"], ["sheet", "first", "count"], [], b15, none, false, false, false⟩
/-- __init__ -/
def b16 : Ss := (.cons (.ite (.not (.call 32 (.cons (.var 1) .nil) [])) (.cons .never
  .nil) .nil)
  (.cons (.ite (.or (.cons (.not (.call 32 (.cons (.var 2) .nil) [])) (.cons (.cmp .eq (.var 2) (.int 0)) .nil))) (.cons .never
  .nil) .nil)
  (.cons (.set 3 (.call 33 (.cons (.var 1) (.cons (.var 2) .nil)) []))
  (.cons (.set 4 (.ite (.cmp .gt (.var 2) (.int 0)) (.int 1) (.neg (.int 1))))
  (.cons (.fld 0 14 (.bin .fdiv (.bin .mul (.var 4) (.var 1)) (.var 3)))
  (.cons (.fld 0 15 (.bin .fdiv (.bin .mul (.var 4) (.var 2)) (.var 3)))
  .nil))))))
def f16 : FnI := ⟨none, ["self", "over", "under", "divisor", "sign"], ["self", "over", "under"], [(.int 1)], b16, some 0, false, false, false⟩
/-- __add__ -/
def b17 : Ss := (.cons (.set 2 (.call 34 (.cons (.var 1) .nil) []))
  (.cons (.set 3 (.bin .add (.bin .mul (.attr 14 (.var 0)) (.attr 15 (.var 2))) (.bin .mul (.attr 14 (.var 2)) (.attr 15 (.var 0)))))
  (.cons (.ret (.make 0 (.cons (.var 3) (.cons (.bin .mul (.attr 15 (.var 0)) (.attr 15 (.var 2))) .nil)) []))
  .nil)))
def f17 : FnI := ⟨none, ["self", "other", "found", "over"], ["self", "other"], [], b17, none, false, false, false⟩
/-- __radd__ -/
def b18 : Ss := (.cons (.ret (.bin .add (.var 0) (.var 1)))
  .nil)
def f18 : FnI := ⟨none, ["self", "other"], ["self", "other"], [], b18, none, false, false, false⟩
/-- __sub__ -/
def b19 : Ss := (.cons (.ret (.bin .add (.var 0) (.neg (.call 34 (.cons (.var 1) .nil) []))))
  .nil)
def f19 : FnI := ⟨none, ["self", "other"], ["self", "other"], [], b19, none, false, false, false⟩
/-- __rsub__ -/
def b20 : Ss := (.cons (.ret (.bin .add (.neg (.var 0)) (.var 1)))
  .nil)
def f20 : FnI := ⟨none, ["self", "other"], ["self", "other"], [], b20, none, false, false, false⟩
/-- __mul__ -/
def b21 : Ss := (.cons (.set 2 (.call 34 (.cons (.var 1) .nil) []))
  (.cons (.ret (.make 0 (.cons (.bin .mul (.attr 14 (.var 0)) (.attr 14 (.var 2))) (.cons (.bin .mul (.attr 15 (.var 0)) (.attr 15 (.var 2))) .nil)) []))
  .nil))
def f21 : FnI := ⟨none, ["self", "other", "found"], ["self", "other"], [], b21, none, false, false, false⟩
/-- __rmul__ -/
def b22 : Ss := (.cons (.ret (.bin .mul (.var 0) (.var 1)))
  .nil)
def f22 : FnI := ⟨none, ["self", "other"], ["self", "other"], [], b22, none, false, false, false⟩
/-- __neg__ -/
def b23 : Ss := (.cons (.ret (.make 0 (.cons (.neg (.attr 14 (.var 0))) (.cons (.attr 15 (.var 0)) .nil)) []))
  .nil)
def f23 : FnI := ⟨none, ["self"], ["self"], [], b23, none, false, false, false⟩
/-- __abs__ -/
def b24 : Ss := (.cons (.ret (.make 0 (.cons (.blt .abs (.attr 14 (.var 0))) (.cons (.attr 15 (.var 0)) .nil)) []))
  .nil)
def f24 : FnI := ⟨none, ["self"], ["self"], [], b24, none, false, false, false⟩
/-- __bool__ -/
def b25 : Ss := (.cons (.ret (.blt .bool (.attr 14 (.var 0))))
  .nil)
def f25 : FnI := ⟨none, ["self"], ["self"], [], b25, none, false, false, false⟩
/-- __eq__ -/
def b26 : Ss := (.cons (.ret (.and (.cons (.isi (.var 1) (.cls 0)) (.cons (.cmp .eq (.attr 16 (.var 0)) (.attr 16 (.var 1))) .nil))))
  .nil)
def f26 : FnI := ⟨none, ["self", "other"], ["self", "other"], [], b26, none, false, false, false⟩
/-- _law_some_ratio -/
def b27 : Ss := (.cons (.set 2 (.idx (.lst (.cons (.int 1) (.cons (.int 1) (.cons (.int 2) (.cons (.int 3) (.cons (.int 4) (.cons (.int 7) (.cons (.int 10) (.cons (.int 10000) .nil))))))))) (.call 6 (.cons (.var 0) (.cons (.int 8) .nil)) [])))
  (.cons (.ret (.call 36 (.cons (.call 6 (.cons (.var 0) (.cons (.bin .add (.bin .mul (.var 1) (.var 2)) (.int 1)) .nil)) []) (.cons (.var 2) .nil)) []))
  .nil))
def f27 : FnI := ⟨some "_law_some_ratio", ["_law_reader_here", "_law_most", "_law_low"], ["_law_reader_here", "_law_most"], [], b27, none, false, false, false⟩
/-- _law_floor -/
def b28 : Ss := (.cons (.ret (.bin .fdiv (.idx (.var 0) (.int 0)) (.idx (.var 0) (.int 1))))
  .nil)
def f28 : FnI := ⟨some "_law_floor", ["_law_ratio"], ["_law_ratio"], [], b28, none, false, false, false⟩
/-- _law_crosses -/
def b29 : Ss := (.cons (.set 2 (.lc (.var 3) [3] (.seq (.var 0)) (.cons (.cmp .isin (.var 3) (.var 1)) .nil)))
  (.cons (.ret (.and (.cons (.cmp .ne (.var 2) (.lst .nil)) (.cons (.cmp .lt (.blt .len (.var 2)) (.min2 (.blt .len (.var 0)) (.blt .len (.var 1)))) .nil))))
  .nil))
def f29 : FnI := ⟨some "_law_crosses", ["_law_one", "_law_other", "_law_both", "_law_head"], ["_law_one", "_law_other"], [], b29, none, false, false, false⟩
/-- _law_add -/
def b30 : Ss := (.cons (.ret (.call 36 (.cons (.bin .add (.bin .mul (.idx (.var 0) (.int 0)) (.idx (.var 1) (.int 1))) (.bin .mul (.idx (.var 1) (.int 0)) (.idx (.var 0) (.int 1)))) (.cons (.bin .mul (.idx (.var 0) (.int 1)) (.idx (.var 1) (.int 1))) .nil)) []))
  .nil)
def f30 : FnI := ⟨some "_law_add", ["_law_one", "_law_other"], ["_law_one", "_law_other"], [], b30, none, false, false, false⟩
/-- exact_after -/
def b31 : Ss := (.cons (.set 2 (.makeS 0 (.var 0)))
  (.cons (.for [3] (.seq (.var 1)) (.cons (.set 2 (.bin .add (.var 2) (.makeS 0 (.var 3))))
  .nil))
  (.cons (.ret (.attr 16 (.var 2)))
  .nil)))
def f31 : FnI := ⟨some "exact_after", ["exact", "charges", "found", "charge"], ["exact", "charges"], [], b31, none, false, false, false⟩
/-- is_integer -/
def b32 : Ss := (.cons (.ret (.and (.cons (.isi (.var 0) .int) (.cons (.not (.isi (.var 0) .bool)) .nil))))
  .nil)
def f32 : FnI := ⟨some "is_integer", ["thing"], ["thing"], [], b32, none, false, false, false⟩
/-- common_divisor -/
def b33 : Ss := (.cons (.whl (.cmp .ne (.var 1) (.int 0)) (.cons (.par 0 1 (.var 1) (.bin .mod (.var 0) (.var 1)))
  .nil))
  (.cons (.ret (.blt .abs (.var 0)))
  .nil))
def f33 : FnI := ⟨some "common_divisor", ["one", "other"], ["one", "other"], [], b33, none, false, false, false⟩
/-- as_amount -/
def b34 : Ss := (.cons (.ite (.isi (.var 0) (.cls 0)) (.cons (.ret (.var 0))
  .nil) .nil)
  (.cons (.ite (.not (.call 32 (.cons (.var 0) .nil) [])) (.cons .never
  .nil) .nil)
  (.cons (.ret (.make 0 (.cons (.var 0) .nil) [(.int 1)]))
  .nil)))
def f34 : FnI := ⟨some "as_amount", ["value"], ["value"], [], b34, none, false, false, false⟩
/-- pair -/
def b35 : Ss := (.cons (.ret (.tup (.cons (.attr 14 (.var 0)) (.cons (.attr 15 (.var 0)) .nil))))
  .nil)
def f35 : FnI := ⟨none, ["self"], ["self"], [], b35, none, false, false, false⟩
/-- _law_lowest -/
def b36 : Ss := (.cons (.set 2 (.call 37 (.cons (.var 0) (.cons (.var 1) .nil)) []))
  (.cons (.ite (.cmp .lt (.var 1) (.int 0)) (.cons (.set 2 (.neg (.var 2)))
  .nil) .nil)
  (.cons (.ret (.tup (.cons (.bin .fdiv (.var 0) (.var 2)) (.cons (.bin .fdiv (.var 1) (.var 2)) .nil))))
  .nil)))
def f36 : FnI := ⟨some "_law_lowest", ["_law_over", "_law_under", "_law_both"], ["_law_over", "_law_under"], [], b36, none, false, false, false⟩
/-- _law_divisor -/
def b37 : Ss := (.cons (.whl (.cmp .ne (.var 1) (.int 0)) (.cons (.par 0 1 (.var 1) (.bin .mod (.var 0) (.var 1)))
  .nil))
  (.cons (.ret (.blt .abs (.var 0)))
  .nil))
def f37 : FnI := ⟨some "_law_divisor", ["_law_one", "_law_other"], ["_law_one", "_law_other"], [], b37, none, false, false, false⟩
def prg : Prg := ⟨["__add__", "__radd__", "__sub__", "__rsub__", "__mul__", "__rmul__", "__neg__", "__abs__", "__bool__", "__eq__", "cells", "next", "rest", "draws", "over_held", "under_held", "pair"], [f0, f1, f2, f3, f4, f5, f6, f7, f8, f9, f10, f11, f12, f13, f14, f15, f16, f17, f18, f19, f20, f21, f22, f23, f24, f25, f26, f27, f28, f29, f30, f31, f32, f33, f34, f35, f36, f37], [⟨"Amount", 16, [14, 15], [(0, 17), (1, 18), (2, 19), (3, 20), (4, 21), (5, 22), (6, 23), (7, 24), (8, 25), (9, 26)], [(16, 35)]⟩], [], ["range", "len", "tuple", "sorted", "repr", "list", "enumerate", "sum", "abs", "bool", "isinstance", "min", "int"], [(0, "ZERO", (.tup [(.int 0), (.int 1)]))]⟩
end K06

set_option exponentiation.threshold 5000
namespace K06
open Eng
local macro_rules | `(tactic| exact stepE) => `(tactic| repeat (first
  | refine x_var rfl ?_ | refine x_cons ?_ | refine x_nil ?_ | refine x_int ?_ | refine x_call ?_ | refine x_bin ?_ | refine x_cmp ?_ | refine x_idx ?_ | refine x_tup ?_ | refine x_lst ?_ | refine x_str ?_ | refine x_bl ?_ | refine x_non ?_ | refine x_bor rfl ?_
  | refine x_dget ?_ | refine x_blt ?_ | refine x_neg ?_ | refine x_attr ?_ | refine x_repr ?_ | refine x_callD ?_ | refine x_callT ?_ | refine x_make rfl ?_ | refine x_newc ?_ | refine x_dict ?_ | refine x_isi ?_ | refine x_gco rfl ?_ | refine x_sl ?_ | refine x_not ?_ | refine x_min2 ?_ | refine x_max2 ?_ | refine x_rev ?_ | refine x_repl ?_
  | refine o_add ?_ | refine o_sub ?_ | refine o_negI ?_ | refine o_eqI ?_ | refine o_neI ?_ | refine o_lt ?_ | refine o_le ?_ | refine o_gt ?_ | refine o_ge ?_ | refine o_lenL ?_ | refine o_lenT ?_ | refine o_tupL ?_ | refine o_tupT ?_ | refine o_lstL ?_ | refine o_lstT ?_ | refine o_min ?_ | refine o_rev ?_ | refine o_newc ?_
  | refine x_t ?_ | refine t_bl ?_ | refine i_seq ?_ | refine i_rng ?_ | refine i_enum ?_ | refine sq_l ?_ | refine sq_t ?_ | refine bl_ok ?_ | refine ls_ok ?_ | refine s_forX ?_
  | refine s_set ?_ | refine s_ret ?_ | refine s_unp ?_ | refine s_own ?_ | refine s_app rfl ?_ | (refine s_frz rfl ?_; dsimp only [List.set_cons_succ, List.set_cons_zero]) | refine s_par ?_ | refine s_parN ?_ | refine s_dput ?_ | refine s_ext rfl ?_ | refine s_ex ?_ | refine s_pass ?_ | refine s_end ?_
  | refine f_ret ?_ | refine f_nx ?_
  | (refine len_ok rfl ?_; dsimp only [List.set_cons_succ, List.set_cons_zero])))
abbrev I : AmtI := ⟨0, 16, 32, 33, 34, 14, 15⟩
theorem K : AmtOK prg I := ⟨⟨_, rfl, rfl⟩, rfl, rfl, rfl, rfl, by decide, rfl, rfl, rfl, rfl⟩
abbrev rn (wf n : Nat) := rnP prg wf n
/-- a fraction as the texts hold it -/
def frD (q : Rat) : D := .tup [.int q.num, .int q.den]
/-! ### draws -/
def rdr (cs : List D) (a b c : Int) : Cell := .dk [(10, .lst cs), (11, .int a), (12, .int b), (13, .int c)]
section
variable (cs : List D) (a b c x : Int) (tl : Store)
theorem g10 : dgetD (.ref 0) 10 (rdr cs a b c :: tl) = .ok (.lst cs) (rdr cs a b c :: tl) := rfl
theorem g11 : dgetD (.ref 0) 11 (rdr cs a b c :: tl) = .ok (.int a) (rdr cs a b c :: tl) := rfl
theorem g12 : dgetD (.ref 0) 12 (rdr cs a b c :: tl) = .ok (.int b) (rdr cs a b c :: tl) := rfl
theorem g13 : dgetD (.ref 0) 13 (rdr cs a b c :: tl) = .ok (.int c) (rdr cs a b c :: tl) := rfl
theorem p11 : dputD (.ref 0) 11 (.int x) (rdr cs a b c :: tl) = some (rdr cs x b c :: tl) := rfl
theorem p12 : dputD (.ref 0) 12 (.int x) (rdr cs a b c :: tl) = some (rdr cs a x c :: tl) := rfl
theorem p13 : dputD (.ref 0) 13 (.int x) (rdr cs a b c :: tl) = some (rdr cs a b x :: tl) := rfl
end
/-- the reader in cell 0, at most N draws were made; what lies behind it -/
def InvT (N : Nat) (tl st : Store) : Prop := ∃ (cs : List Int) (a b c : Int), st = rdr (cs.map .int) a b c :: tl ∧ 0 ≤ c ∧ c ≤ N
def Inv (N : Nat) (st : Store) : Prop := ∃ tl, InvT N tl st
theorem InvT.le {N M : Nat} {tl st : Store} (h : InvT N tl st) (e : N ≤ M) : InvT M tl st := by
  obtain ⟨cs, a, b, c, h1, h2, h3⟩ := h
  exact ⟨cs, a, b, c, h1, h2, by omega⟩
theorem Inv.le {N M : Nat} {st : Store} (h : Inv N st) (e : N ≤ M) : Inv M st := by
  obtain ⟨tl, h⟩ := h
  exact ⟨tl, h.le e⟩
theorem plains_int : ∀ cs : List Int, plains (cs.map .int) = true
  | [] => rfl
  | _ :: r => by simp [plains, plain, plains_int r]
theorem deeps_int : ∀ cs : List Int, deeps (cs.map .int) = 0
  | [] => rfl
  | _ :: r => by simp [deeps, deep, deeps_int r]
theorem ne_nil (call : Nat → List D → Store → Res D) (cs : List Int) (st : Store) : cmpD prg.tab call .ne (.lst (cs.map .int)) (.lst []) st = .ok (.bl (!cs.isEmpty)) st := by
  cases cs with
  | nil => rfl
  | cons i r => simp [cmpD, eqR, plain, plains, deep, deeps, plains_int, deeps_int, eqD, eqDs]
theorem fmod_in (x : Int) {m : Int} (h : 0 < m) : 0 ≤ x.fmod m ∧ x.fmod m < m := ⟨Int.fmod_nonneg_of_pos x h, Int.fmod_lt_of_pos x h⟩
theorem wideB {i : Int} (h : i.natAbs < 2 ^ 70) : wide i = true := wideS' h (by decide)
theorem pow18 {call : Nat → List D → Store → Res D} {st : Store} : binD prg.tab call .pow (.int 10) (.int 18) st = .ok (.int 1000000000000000000) st := rfl
section
variable {wf n N : Nat} {st tl : Store}
theorem draw_ (h : InvT N tl st) (hN : N < 1000000) {m : Int} (h0 : 0 < m) (hm : m.natAbs < 2 ^ 70) : OF (rn wf (n + 1)) 6 [.ref 0, .int m] st fun d st' => ∃ x, d = .int x ∧ 0 ≤ x ∧ x < m ∧ InvT (N + 1) tl st' := by
  obtain ⟨cs, a, b, c, rfl, hc0, hc1⟩ := h
  have J : ∀ a b : Int, InvT (N + 1) tl (rdr (cs.map .int) a b (c + 1) :: tl) := fun a b => ⟨cs, a, b, c + 1, rfl, by omega, by omega⟩
  have fin : ∀ y a b : Int, ∃ x, D.int (y.fmod m) = .int x ∧ 0 ≤ x ∧ x < m ∧ InvT (N + 1) tl (rdr (cs.map .int) a b (c + 1) :: tl) := fun y a b => ⟨_, rfl, (fmod_in y h0).1, (fmod_in y h0).2, J a b⟩
  have hm0 : m ≠ 0 := by omega
  refine f_call (f := ⟨6, 2, b6, none, false⟩) rfl rfl rfl [some (.v (.ref 0)), some (.v (.int m)), none, none, none, none] rfl ?_
  unfold b6
  exact stepE
  refine .of (g13 ..) ?_
  exact stepE
  refine ⟨_, p13 .., ?_⟩
  refine s_ite ?_
  exact stepE
  refine .of (g12 ..) ?_
  exact stepE
  refine ⟨fun hb => ?_, fun hb => ?_⟩
  · unfold Ss.app
    exact stepE
    refine .of (g12 ..) ?_
    exact stepE
    refine o_mod hm0 ?_
    exact stepE
    refine .of (g12 ..) ?_
    exact stepE
    refine o_fdivW h0 (wideB hm) ?_
    exact stepE
    refine ⟨_, p12 .., ?_⟩
    unfold Ss.app
    exact stepE
    exact fin ..
  unfold Ss.app
  exact stepE
  refine .of (g11 ..) ?_
  exact stepE
  refine ⟨_, p11 .., ?_⟩
  exact stepE
  have key : ∀ v : Int, SS (fun F => OkR (endF false F) fun d st' => ∃ x, d = .int x ∧ 0 ≤ x ∧ x < m ∧ InvT (N + 1) tl st') prg.tab (rn wf n) wf (.cons (.ite (.and (.cons (.cmp .ge (.var 3) (.bin .pow (.int 10) (.int 18))) (.cons (.cmp .lt (.var 2) (.blt .len (.dget (.var 0) 10))) .nil))) (.cons (.dput (.var 0) 12 (.bin .fdiv (.var 3) (.var 1)))
  (.cons (.ret (.bin .mod (.var 3) (.var 1)))
  .nil)) .nil)
  (.cons (.set 4 (.bin .mod (.bin .add (.bin .add (.bin .mod (.var 3) (.int 1000000447)) (.bin .mul (.int 140009) (.dget (.var 0) 13))) (.int 71)) (.int 2147483489)))
  (.cons (.set 4 (.bin .mod (.bin .add (.bin .add (.bin .mul (.var 4) (.var 4)) (.bin .mul (.int 4099093) (.dget (.var 0) 13))) (.int 37)) (.int 2147483477)))
  (.cons (.ret (.bin .mod (.bin .fdiv (.bin .mod (.bin .add (.bin .mul (.var 4) (.var 4)) (.bin .mul (.int 83) (.var 4))) (.int 2147483423)) (.int 16)) (.var 1)))
  .nil)))) [some (.v (.ref 0)), some (.v (.int m)), some (.v (.int a)), some (.v (.int v)), none, none] (rdr (cs.map .int) (a + 1) b (c + 1) :: tl) := by
    intro v
    have w : ∀ y k : Int, 0 < k → k < 2147483648 → wide (y.fmod k) = true := fun y k h0 h1 => wideB (by have := fmod_in y h0; omega)
    refine s_ite ?_
    refine x_t (EV.mono (Q := fun d st' => ∃ k, d = .bl k ∧ st' = rdr (cs.map .int) (a + 1) b (c + 1) :: tl) ?_ ?_)
    · refine x_and ?_
      exact stepE
      refine .of pow18 ?_
      exact stepE
      refine ⟨fun _ => x_and1 ?_, fun _ => ⟨_, rfl, rfl⟩⟩
      exact stepE
      refine .of (g10 ..) ?_
      exact stepE
      rfl
    rintro _ _ ⟨k, rfl, rfl⟩
    exact stepE
    refine ⟨fun _ => ?_, fun _ => ?_⟩
    · unfold Ss.app
      exact stepE
      refine o_fdivW h0 (wideB hm) ?_
      exact stepE
      refine ⟨_, p12 .., ?_⟩
      unfold Ss.app
      exact stepE
      refine o_mod hm0 ?_
      exact stepE
      exact fin ..
    · unfold Ss.app
      exact stepE
      refine o_mod (by decide) ?_
      exact stepE
      refine .of (g13 ..) ?_
      refine o_mul (wideB (by decide)) (wideB (by omega)) ?_
      exact stepE
      refine o_mod (by decide) ?_
      exact stepE
      refine o_mul (w _ _ (by decide) (by decide)) (w _ _ (by decide) (by decide)) ?_
      exact stepE
      refine .of (g13 ..) ?_
      refine o_mul (wideB (by decide)) (wideB (by omega)) ?_
      exact stepE
      refine o_mod (by decide) ?_
      exact stepE
      refine o_mul (w _ _ (by decide) (by decide)) (w _ _ (by decide) (by decide)) ?_
      exact stepE
      refine o_mul (wideB (by decide)) (w _ _ (by decide) (by decide)) ?_
      exact stepE
      refine o_mod (by decide) ?_
      exact stepE
      refine o_fdiv (by decide) (by decide) ?_
      exact stepE
      refine o_mod hm0 ?_
      exact stepE
      exact fin ..
  refine x_ite ?_
  exact stepE
  refine .of (g10 ..) ?_
  exact stepE
  refine .of (ne_nil _ cs _) ?_
  exact stepE
  refine ⟨fun hc => ?_, fun hc => ?_⟩
  · exact stepE
    refine .of (g10 ..) ?_
    exact stepE
    refine .of (g10 ..) ?_
    exact stepE
    have hl : 0 < (cs.length : Int) := by
      have : cs ≠ [] := by rintro rfl; simp at hc
      have := List.length_pos_iff.mpr this
      omega
    rw [List.length_map]
    refine o_mod (by omega) ?_
    obtain ⟨f0, f1⟩ := fmod_in a hl
    obtain ⟨d, e, hd⟩ := at_in (xs := cs.map .int) f0 (by rw [List.length_map]; exact f1)
    obtain ⟨v, _, rfl⟩ := List.mem_map.mp hd
    refine o_idxL e ?_
    exact stepE
    exact key v
  · exact stepE
    exact key 29
end
end K06

set_option exponentiation.threshold 5000
namespace K06
open Eng
local macro_rules | `(tactic| exact stepE) => `(tactic| repeat (first
  | refine x_var rfl ?_ | refine x_cons ?_ | refine x_nil ?_ | refine x_int ?_ | refine x_call ?_ | refine x_bin ?_ | refine x_cmp ?_ | refine x_idx ?_ | refine x_tup ?_ | refine x_lst ?_ | refine x_str ?_ | refine x_bl ?_ | refine x_non ?_ | refine x_bor rfl ?_
  | refine x_dget ?_ | refine x_blt ?_ | refine x_neg ?_ | refine x_attr ?_ | refine x_repr ?_ | refine x_callD ?_ | refine x_callT ?_ | refine x_make rfl ?_ | refine x_newc ?_ | refine x_dict ?_ | refine x_isi ?_ | refine x_gco rfl ?_ | refine x_sl ?_ | refine x_not ?_ | refine x_min2 ?_ | refine x_max2 ?_ | refine x_rev ?_ | refine x_repl ?_
  | refine o_add ?_ | refine o_sub ?_ | refine o_negI ?_ | refine o_eqI ?_ | refine o_neI ?_ | refine o_lt ?_ | refine o_le ?_ | refine o_gt ?_ | refine o_ge ?_ | refine o_lenL ?_ | refine o_lenT ?_ | refine o_tupL ?_ | refine o_tupT ?_ | refine o_lstL ?_ | refine o_lstT ?_ | refine o_min ?_ | refine o_rev ?_ | refine o_newc ?_
  | refine x_t ?_ | refine t_bl ?_ | refine i_seq ?_ | refine i_rng ?_ | refine i_enum ?_ | refine sq_l ?_ | refine sq_t ?_ | refine bl_ok ?_ | refine ls_ok ?_ | refine s_forX ?_
  | refine s_set ?_ | refine s_ret ?_ | refine s_unp ?_ | refine s_own ?_ | refine s_app rfl ?_ | (refine s_frz rfl ?_; dsimp only [List.set_cons_succ, List.set_cons_zero]) | refine s_par ?_ | refine s_parN ?_ | refine s_dput ?_ | refine s_ext rfl ?_ | refine s_ex ?_ | refine s_pass ?_ | refine s_end ?_
  | refine f_ret ?_ | refine f_nx ?_
  | (refine len_ok rfl ?_; dsimp only [List.set_cons_succ, List.set_cons_zero])))
section
variable {wf n N : Nat} {st tl : Store}
/-! ### fractions -/
theorem div_ {a b : Int} (h : b.natAbs < wf) : rn wf (n + 1) 37 [.int a, .int b] st = .ok (.int (Int.gcd a b : Nat)) st := by
  have := cdiv' (P := prg) (I := I) (n := n) (st := st) K a b h
  show rnP prg wf (n + 1) 37 _ st = _
  rw [run_fn' (f := ⟨2, 2, tCd, none, false⟩) rfl rfl rfl] at this ⊢
  exact this
theorem low_ (hwf : 2 ^ 4096 ≤ wf) {o u : Int} (hu : 0 < u) (h1 : o.natAbs < 2 ^ 4095) (h2 : u.natAbs < 2 ^ 4095) {Q : D → Store → Prop} (q : Q (frD (Rat.divInt o u)) st) : OF (rn wf (n + 2)) 36 [.int o, .int u] st Q := by
  have p4 : 2 ^ 4095 ≤ 2 ^ 4096 := Nat.pow_le_pow_right (by decide) (by decide)
  have hg := pos_gcd' (a := o) (b := u) (by omega)
  have hgl : (Int.gcd o u : Int).natAbs ≤ u.natAbs := by
    rw [Int.natAbs_natCast]
    exact Nat.le_of_dvd (by omega) (Int.gcd_dvd_natAbs_right o u)
  have wg : wide (Int.gcd o u : Int) = true := wide_of' (by omega)
  refine f_call (f := ⟨3, 2, b36, none, false⟩) rfl rfl rfl [some (.v (.int o)), some (.v (.int u)), none] rfl ?_
  unfold b36
  exact stepE
  refine .of (div_ (by omega)) ?_
  exact stepE
  refine s_ite ?_
  exact stepE
  refine ⟨fun h => ?_, fun _ => ?_⟩
  · have := of_decide_eq_true h
    omega
  unfold Ss.app
  exact stepE
  refine o_fdivW hg wg ?_
  exact stepE
  refine o_fdivW hg wg ?_
  exact stepE
  have e1 : o / (Int.gcd o u : Int) = (Rat.divInt o u).num := by
    rw [Rat.num_divInt, Int.sign_eq_one_of_pos hu, Int.one_mul, Int.gcd_comm]
  have e2 : u / (Int.gcd o u : Int) = ((Rat.divInt o u).den : Int) := by
    rw [Rat.den_divInt, if_neg (by omega), Int.natCast_ediv, Int.gcd_comm]
    congr 1
    omega
  rw [e1, e2]
  exact q
theorem divN_nn {x u : Int} (hx : 0 ≤ x) (hu : 0 < u) : 0 ≤ (Rat.divInt x u).num := by
  rw [Rat.num_divInt, Int.sign_eq_one_of_pos hu, Int.one_mul]
  exact Int.ediv_nonneg hx (by omega)
theorem divN_le {x u : Int} (hx : 0 ≤ x) (hu : 0 < u) : (Rat.divInt x u).num ≤ x := by
  rw [Rat.num_divInt, Int.sign_eq_one_of_pos hu, Int.one_mul]
  exact Int.ediv_le_self _ hx
theorem plus_ (hwf : 2 ^ 4096 ≤ wf) {a b : Rat} (ha : Sz 1000 a) (hb : Sz 1000 b) {Q : D → Store → Prop} (q : Q (frD (a + b)) st) : OF (rn wf (n + 3)) 30 [frD a, frD b] st Q := by
  have w1 := wideS' ha.1 (by decide)
  have w2 := wideS' hb.1 (by decide)
  have w3 := wideS' (ndR ha) (by decide)
  have w4 := wideS' (ndR hb) (by decide)
  have p : 0 < (a.den : Int) * b.den := Int.mul_pos (by have := a.den_pos; omega) (by have := b.den_pos; omega)
  refine f_call (f := ⟨2, 2, b30, none, false⟩) rfl rfl rfl [some (.v (frD a)), some (.v (frD b))] rfl ?_
  unfold b30
  exact stepE
  refine o_idxT at_0 ?_
  exact stepE
  refine o_idxT at_1 ?_
  refine o_mul w1 w4 ?_
  exact stepE
  refine o_idxT at_0 ?_
  exact stepE
  refine o_idxT at_1 ?_
  refine o_mul w2 w3 ?_
  exact stepE
  refine o_idxT at_1 ?_
  exact stepE
  refine o_idxT at_1 ?_
  refine o_mul w3 w4 ?_
  exact stepE
  refine low_ hwf p (pw' (num_ltR ha hb) (by decide)) (pw' (by rw [Int.natAbs_mul]; exact mul_lt2 (ndR ha) (ndR hb)) (by decide)) ?_
  rw [← add_isR]
  exact stepE
  exact q
theorem floor_ {a : Rat} (ha : Sz 1000 a) {Q : D → Store → Prop} (q : Q (.int a.floor) st) : OF (rn wf (n + 1)) 28 [frD a] st Q := by
  have w3 := wideS' (ndR ha) (by decide)
  have p : 0 < (a.den : Int) := by have := a.den_pos; omega
  refine f_call (f := ⟨1, 1, b28, none, false⟩) rfl rfl rfl [some (.v (frD a))] rfl ?_
  unfold b28
  exact stepE
  refine o_idxT at_0 ?_
  exact stepE
  refine o_idxT at_1 ?_
  refine o_fdivW p w3 ?_
  exact stepE
  rw [← Rat.floor_def]
  exact q
theorem ratio_ (hwf : 2 ^ 4096 ≤ wf) (hI : InvT N tl st) (hN : N < 900000) {m : Int} (h0 : 0 ≤ m) (hm : m ≤ 900000) : OF (rn wf (n + 3)) 27 [.ref 0, .int m] st fun d st' => ∃ q, d = frD q ∧ 0 ≤ q.num ∧ Sz 34 q ∧ InvT (N + 2) tl st' := by
  refine f_call (f := ⟨3, 2, b27, none, false⟩) rfl rfl rfl [some (.v (.ref 0)), some (.v (.int m)), none] rfl ?_
  unfold b27
  exact stepE
  refine (draw_ hI (by omega) (by decide) (by decide)).mono ?_
  rintro _ st1 ⟨x, rfl, hx0, hx1, I1⟩
  obtain ⟨u, e, hu⟩ := at_in (xs := [.int 1, .int 1, .int 2, .int 3, .int 4, .int 7, .int 10, .int 10000]) hx0 hx1
  obtain ⟨u, rfl, hu1, hu2⟩ : ∃ k : Int, u = .int k ∧ 1 ≤ k ∧ k ≤ 10000 := by
    simp only [List.mem_cons, List.not_mem_nil, or_false] at hu
    rcases hu with rfl | rfl | rfl | rfl | rfl | rfl | rfl | rfl <;> exact ⟨_, rfl, by decide, by decide⟩
  refine o_idxL e ?_
  exact stepE
  refine o_mul (wideB (by omega)) (wideB (by omega)) ?_
  exact stepE
  have hp0 : 0 ≤ m * u := Int.mul_nonneg h0 (by omega)
  have hp1 : m * u ≤ 900000 * 10000 := Int.mul_le_mul hm hu2 (by omega) (by decide)
  refine (draw_ I1 (by omega) (by omega) (by omega)).mono ?_
  rintro _ st2 ⟨y, rfl, hy0, hy1, I2⟩
  exact stepE
  refine low_ hwf (by omega) (pw' (k := 40) (by omega) (by decide)) (pw' (k := 40) (by omega) (by decide)) ?_
  exact stepE
  exact ⟨_, rfl, divN_nn hy0 (by omega), Sz_div (by omega) (by omega) (by omega), I2⟩
end
end K06

set_option exponentiation.threshold 5000
namespace K06
open Eng
local macro_rules | `(tactic| exact stepE) => `(tactic| repeat (first
  | refine x_var rfl ?_ | refine x_cons ?_ | refine x_nil ?_ | refine x_int ?_ | refine x_call ?_ | refine x_bin ?_ | refine x_cmp ?_ | refine x_idx ?_ | refine x_tup ?_ | refine x_lst ?_ | refine x_str ?_ | refine x_bl ?_ | refine x_non ?_ | refine x_bor rfl ?_
  | refine x_dget ?_ | refine x_blt ?_ | refine x_neg ?_ | refine x_attr ?_ | refine x_repr ?_ | refine x_callD ?_ | refine x_callT ?_ | refine x_make rfl ?_ | refine x_newc ?_ | refine x_dict ?_ | refine x_isi ?_ | refine x_gco rfl ?_ | refine x_sl ?_ | refine x_not ?_ | refine x_min2 ?_ | refine x_max2 ?_ | refine x_rev ?_ | refine x_repl ?_
  | refine o_add ?_ | refine o_sub ?_ | refine o_negI ?_ | refine o_eqI ?_ | refine o_neI ?_ | refine o_lt ?_ | refine o_le ?_ | refine o_gt ?_ | refine o_ge ?_ | refine o_lenL ?_ | refine o_lenT ?_ | refine o_tupL ?_ | refine o_tupT ?_ | refine o_lstL ?_ | refine o_lstT ?_ | refine o_min ?_ | refine o_rev ?_ | refine o_newc ?_
  | refine x_t ?_ | refine t_bl ?_ | refine i_seq ?_ | refine i_rng ?_ | refine i_enum ?_ | refine sq_l ?_ | refine sq_t ?_ | refine bl_ok ?_ | refine ls_ok ?_ | refine s_forX ?_
  | refine s_set ?_ | refine s_ret ?_ | refine s_unp ?_ | refine s_own ?_ | refine s_app rfl ?_ | (refine s_frz rfl ?_; dsimp only [List.set_cons_succ, List.set_cons_zero]) | refine s_par ?_ | refine s_parN ?_ | refine s_dput ?_ | refine s_ext rfl ?_ | refine s_ex ?_ | refine s_pass ?_ | refine s_end ?_
  | refine f_ret ?_ | refine f_nx ?_
  | (refine len_ok rfl ?_; dsimp only [List.set_cons_succ, List.set_cons_zero])))
/-! ### names -/
def pool : List PySem.Str := ["a", "ab", "day", "ended", "fax", "line", "section", "tel", "zzzzzzzz"]
theorem pool_rg : ∀ x ∈ pool, RG 0 82 (.str x) := by
  intro x hx
  simp only [pool, List.mem_cons, List.not_mem_nil, or_false] at hx
  rcases hx with rfl | rfl | rfl | rfl | rfl | rfl | rfl | rfl | rfl
  all_goals exact RG.str (m := 8) (by decide +kernel) (by decide +kernel) (okS_iff.mp (by decide +kernel))
theorem map_erase {α β : Type} (f : α → β) : ∀ (l : List α) (i : Nat), (l.map f).eraseIdx i = (l.eraseIdx i).map f
  | [], _ => by simp
  | _ :: _, 0 => rfl
  | x :: l, i + 1 => by simp [map_erase f l i]
theorem perm_erase {α : Type} : ∀ {l : List α} {i : Nat} {p : α}, l[i]? = some p → (p :: l.eraseIdx i).Perm l
  | [], _, _, h => by simp at h
  | x :: l, 0, p, h => by
    simp at h
    subst h
    exact .refl _
  | x :: l, i + 1, p, h => by
    have := perm_erase (l := l) (i := i) (p := p) (by simpa using h)
    simp only [List.eraseIdx_cons_succ]
    exact (List.Perm.swap x p _).trans (this.cons x)
theorem insS_perm (x : PySem.Str) : ∀ l, (insS x l).Perm (x :: l)
  | [] => .refl _
  | y :: r => by
    unfold insS
    split
    · exact .refl _
    · exact ((insS_perm x r).cons y).trans (.swap x y r)
theorem sortS_perm : ∀ l, (sortS l).Perm l
  | [] => .refl _
  | x :: r => (insS_perm x _).trans ((sortS_perm r).cons x)
/-- some of the pool's names, each one once -/
def Some_ (l : List PySem.Str) : Prop := ∃ r, (l ++ r).Perm pool
theorem Some_.mem {l : List PySem.Str} (h : Some_ l) : ∀ x ∈ l, x ∈ pool := fun x hx => by
  obtain ⟨r, h⟩ := h
  exact h.mem_iff.mp (List.mem_append_left _ hx)
theorem Some_.nodup {l : List PySem.Str} (h : Some_ l) : l.Nodup := by
  obtain ⟨r, h⟩ := h
  have : (l ++ r).Nodup := h.nodup_iff.mpr (by decide +kernel)
  exact (List.nodup_append.mp this).1
theorem Some_.perm {l m : List PySem.Str} (h : Some_ l) (p : m.Perm l) : Some_ m := by
  obtain ⟨r, h⟩ := h
  exact ⟨r, (p.append_right r).trans h⟩
theorem getL_last {tl : Store} {c : Cell} {xs : List D} : getL (c :: (tl ++ [.lk xs])) (tl.length + 1) = some xs := by
  unfold getL
  rw [List.getElem?_cons_succ, List.getElem?_append_right (Nat.le_refl _), Nat.sub_self]
  rfl
theorem set_last {tl : Store} {c : Cell} {xs ys : List D} : (c :: (tl ++ [.lk xs])).set (tl.length + 1) (.lk ys) = c :: (tl ++ [.lk ys]) := by
  rw [List.set_cons_succ, List.set_append_right _ _ (Nat.le_refl _), Nat.sub_self]
  rfl
theorem InvT.getL {N : Nat} {tl st : Store} {xs : List D} (h : InvT N (tl ++ [.lk xs]) st) : Eng.getL st (tl.length + 1) = some xs := by
  obtain ⟨cs, a, b, c, rfl, _⟩ := h
  exact getL_last
theorem InvT.set {N : Nat} {tl st : Store} {xs ys : List D} (h : InvT N (tl ++ [.lk xs]) st) : InvT N (tl ++ [.lk ys]) (st.set (tl.length + 1) (.lk ys)) := by
  obtain ⟨cs, a, b, c, rfl, h0, h1⟩ := h
  exact ⟨cs, a, b, c, set_last, h0, h1⟩
theorem InvT.new {N : Nat} {tl st : Store} {xs : List D} (h : InvT N tl st) : InvT N (tl ++ [.lk xs]) (st ++ [.lk xs]) ∧ st.length = tl.length + 1 := by
  obtain ⟨cs, a, b, c, rfl, h0, h1⟩ := h
  exact ⟨⟨cs, a, b, c, rfl, h0, h1⟩, rfl⟩
section
variable {wf n N : Nat} {st tl : Store}
/-- the pool's loop: some of it is taken out, one by one -/
structure Popped (all : List PySem.Str) (found rest : List PySem.Str) (j : Nat) : Prop where
  p : (found ++ rest).Perm all
  l : found.length = j
theorem Popped.next {all found rest : List PySem.Str} {j i : Nat} {x : PySem.Str} (h : Popped all found rest j) (e : rest[i]? = some x) : Popped all (found ++ [x]) (rest.eraseIdx i) (j + 1) := by
  refine ⟨?_, by rw [List.length_append, h.l]; rfl⟩
  rw [List.append_assoc]
  exact ((perm_erase e).append_left found).trans h.p
theorem heads_ (hI : InvT N tl st) (hN : N < 900000) {m : Nat} (hm : m ≤ 9) : OF (rn wf (n + 2)) 5 [.ref 0, .int (m : Int)] st fun d st' => ∃ l, d = .lst ((sortS l).map .str) ∧ l.length = m ∧ Some_ l ∧ ∃ tl', InvT (N + m) tl' st' := by
  refine f_call (f := ⟨5, 2, b5, none, true⟩) rfl rfl rfl [some (.v (.ref 0)), some (.v (.int (m : Int))), none, none, none] rfl ?_
  unfold b5
  exact stepE
  obtain ⟨I0, hl⟩ := hI.new (xs := pool.map .str)
  rw [hl]
  refine ⟨_, rfl, ?_⟩
  dsimp only [List.set_cons_succ, List.set_cons_zero]
  refine s_for (fun i : Nat => D.int (i : Nat)) (List.range m) (fun j ρ st => ∃ found rest x, ρ = [some (.v (.ref 0)), some (.v (.int (m : Int))), x, some (.v (.ref (tl.length + 1))), some (.own (found.map .str))] ∧ InvT (N + j) (tl ++ [.lk (rest.map .str)]) st ∧ Popped pool found rest j) ?_ ?_ ?_
  · refine i_rng ?_
    exact stepE
    exact ⟨m, rfl, by omega, rfl, [], pool, none, rfl, I0, ⟨.refl _, rfl⟩⟩
  · rintro j i hj _ st ⟨found, rest, x, rfl, I, P⟩
    have hjm : j < m := by
      have := (List.getElem?_eq_some_iff.mp hj).1
      simpa using this
    have hrl : rest.length = 9 - j := by
      have := P.p.length_eq
      rw [List.length_append, P.l] at this
      have e : pool.length = 9 := rfl
      omega
    refine ⟨_, rfl, ?_⟩
    exact stepE
    refine x_popc ?_
    exact stepE
    refine ⟨?_, ?_⟩
    · show (getL st (tl.length + 1)).isSome = true
      rw [I.getL]; rfl
    exact stepE
    refine o_lenR I.getL ?_
    rw [List.length_map]
    exact stepE
    refine (draw_ I (by omega) (m := (rest.length : Int)) (by omega) (by omega)).mono ?_
    rintro _ st1 ⟨y, rfl, h0, h1, I1⟩
    have hy : y.toNat < rest.length := by omega
    refine o_popc I1.getL h0 (d := .str rest[y.toNat]) (by rw [List.getElem?_map, List.getElem?_eq_getElem hy]; rfl) (by rw [List.length_map]; omega) ?_
    refine ⟨by rw [List.length_map, P.l]; omega, ?_⟩
    exact stepE
    refine ⟨found ++ [rest[y.toNat]], rest.eraseIdx y.toNat, some (.v (.int i)), by simp, ?_, P.next (List.getElem?_eq_getElem hy)⟩
    rw [map_erase]
    exact I1.set
  · rintro _ st1 ⟨found, rest, x, rfl, I, P⟩
    rw [List.length_range] at I P
    exact stepE
    refine o_sortS (strs_map found) (by rw [P.l]; omega) ?_
    exact stepE
    exact ⟨found, rfl, P.l, ⟨rest, P.p⟩, _, I⟩
end
end K06

set_option exponentiation.threshold 5000
namespace K06
open Eng
local macro_rules | `(tactic| exact stepE) => `(tactic| repeat (first
  | refine x_var rfl ?_ | refine x_cons ?_ | refine x_nil ?_ | refine x_int ?_ | refine x_call ?_ | refine x_bin ?_ | refine x_cmp ?_ | refine x_idx ?_ | refine x_tup ?_ | refine x_lst ?_ | refine x_str ?_ | refine x_bl ?_ | refine x_non ?_ | refine x_bor rfl ?_
  | refine x_dget ?_ | refine x_blt ?_ | refine x_neg ?_ | refine x_attr ?_ | refine x_repr ?_ | refine x_callD ?_ | refine x_callT ?_ | refine x_make rfl ?_ | refine x_newc ?_ | refine x_dict ?_ | refine x_isi ?_ | refine x_gco rfl ?_ | refine x_sl ?_ | refine x_not ?_ | refine x_min2 ?_ | refine x_max2 ?_ | refine x_rev ?_ | refine x_repl ?_
  | refine o_add ?_ | refine o_sub ?_ | refine o_negI ?_ | refine o_eqI ?_ | refine o_neI ?_ | refine o_lt ?_ | refine o_le ?_ | refine o_gt ?_ | refine o_ge ?_ | refine o_lenL ?_ | refine o_lenT ?_ | refine o_tupL ?_ | refine o_tupT ?_ | refine o_lstL ?_ | refine o_lstT ?_ | refine o_min ?_ | refine o_rev ?_ | refine o_newc ?_
  | refine x_t ?_ | refine t_bl ?_ | refine i_seq ?_ | refine i_rng ?_ | refine i_enum ?_ | refine sq_l ?_ | refine sq_t ?_ | refine bl_ok ?_ | refine ls_ok ?_ | refine s_forX ?_
  | refine s_set ?_ | refine s_ret ?_ | refine s_unp ?_ | refine s_own ?_ | refine s_app rfl ?_ | (refine s_frz rfl ?_; dsimp only [List.set_cons_succ, List.set_cons_zero]) | refine s_par ?_ | refine s_parN ?_ | refine s_dput ?_ | refine s_ext rfl ?_ | refine s_ex ?_ | refine s_pass ?_ | refine s_end ?_
  | refine f_ret ?_ | refine f_nx ?_
  | (refine len_ok rfl ?_; dsimp only [List.set_cons_succ, List.set_cons_zero])))
/-! ### sheets -/
structure Row where
  nm : PySem.Str
  q : Rat
  c : Int
  g : Bool
structure Sheet where
  rs : List Row
  ss : List (List PySem.Str)
  ds : List (List Rat)
def rowD (r : Row) : D := .tup [.str r.nm, frD r.q, .int r.c, .bl r.g]
def secD (s : List PySem.Str) : D := .tup (s.map .str)
def dayD (d : List Rat) : D := .tup (d.map frD)
def shD (s : Sheet) : D := .tup [.tup (s.rs.map rowD), .tup (s.ss.map secD), .tup (s.ds.map dayD)]
def names' : List PySem.Str := "b" :: pool
theorem names_rg : ∀ x ∈ names', RG 0 82 (.str x) := by
  intro x hx
  rcases List.mem_cons.mp hx with rfl | hx
  · exact RG.str (m := 8) (by decide +kernel) (by decide +kernel) (okS_iff.mp (by decide +kernel))
  · exact pool_rg x hx
structure RowOK (r : Row) : Prop where
  n : r.nm ∈ names'
  p : 0 ≤ r.q.num
  s : Sz 34 r.q
  c : r.c.natAbs < 2 ^ 40
structure ChOK (r : Row) (q : Rat) : Prop where
  p : 0 ≤ q.num
  s : Sz 34 q
  z : r.g = false → q = 0
theorem L2R.snoc {α β : Type} {R : α → β → Prop} {a : α} {b : β} (h : R a b) : ∀ {as : List α} {bs : List β}, L2R R as bs → L2R R (as ++ [a]) (bs ++ [b])
  | _, _, .nil => .cons h .nil
  | _, _, .cons p r => .cons p (L2R.snoc h r)
theorem take_next {α : Type} {l : List α} {j : Nat} {a : α} (h : l[j]? = some a) : l.take (j + 1) = l.take j ++ [a] := by
  rw [List.take_add_one, h]
  rfl
theorem ltl {α : Type} {l : List α} {j : Nat} {a : α} (h : l[j]? = some a) : j < l.length := (List.getElem?_eq_some_iff.mp h).1
theorem plain_nm {x : PySem.Str} (h : x ∈ names') : plain (.str x) = true := (names_rg x h).pl
section
variable {wf n N : Nat} {st tl : Store}
theorem fl_lt {k : Nat} {q : Rat} (h : Sz k q) : q.floor.natAbs < 2 ^ k := by
  rw [Rat.floor_def]
  exact Nat.lt_of_le_of_lt (Int.natAbs_ediv_le_natAbs _ _) h.1
theorem state_ (hwf : 2 ^ 4096 ≤ wf) (hI : InvT N tl st) (hN : N < 800000) : OF (rn wf (n + 4)) 9 [.ref 0, .int 6] st fun d st' => ∃ (rs : List Row) (l : List PySem.Str), d = .tup (rs.map rowD) ∧ rs.map Row.nm = sortS l ∧ Some_ l ∧ 1 ≤ rs.length ∧ rs.length ≤ 6 ∧ (∀ r ∈ rs, RowOK r) ∧ ∃ tl', InvT (N + 40) tl' st' := by
  refine f_call (f := ⟨6, 2, b9, none, false⟩) rfl rfl rfl [some (.v (.ref 0)), some (.v (.int 6)), none, none, none, none] rfl ?_
  unfold b9
  exact stepE
  refine (draw_ hI (by omega) (by decide) (by decide)).mono ?_
  rintro _ st1 ⟨y, rfl, h0, h1, I1⟩
  obtain ⟨m, hm⟩ := Int.eq_ofNat_of_zero_le (show 0 ≤ 1 + y by omega)
  exact stepE
  rw [hm]
  exact stepE
  refine (heads_ I1 (by omega) (m := m) (by omega)).mono ?_
  rintro _ st2 ⟨l, rfl, hl, hs, tl2, I2⟩
  exact stepE
  have hlen : (sortS l).length = m := by rw [(sortS_perm l).length_eq, hl]
  refine fr_map D.str (fun j ρ st => ∃ (rs : List Row) (x3 x4 x5 : Option Slot), ρ = [some (.v (.ref 0)), some (.v (.int 6)), some (.own (rs.map rowD)), x3, x4, x5] ∧ InvT (N + 7 + 5 * j) tl2 st ∧ rs.map Row.nm = (sortS l).take j ∧ ∀ r ∈ rs, RowOK r) ⟨[], none, none, none, rfl, I2.le (by omega), rfl, fun _ h => nomatch h⟩ ?_ ?_
  · rintro j x hj _ st ⟨rs, x3, x4, x5, rfl, I, e, hr⟩
    have hjm := ltl hj
    have hx : x ∈ names' := List.mem_cons_of_mem _ (hs.mem x ((sortS_perm l).mem_iff.mp (List.mem_of_getElem? hj)))
    have hrl : rs.length = j := by
      have := congrArg List.length e
      rw [List.length_map, List.length_take] at this
      omega
    refine ⟨_, rfl, ?_⟩
    exact stepE
    refine (draw_ I (by omega) (by decide) (by decide)).mono ?_
    rintro _ st1 ⟨y, rfl, h0, h1, I1⟩
    obtain ⟨u, e1, hu⟩ := at_in (xs := [.int 3, .int 900000]) h0 h1
    obtain ⟨u, rfl, hu1, hu2⟩ : ∃ k : Int, u = .int k ∧ 0 ≤ k ∧ k ≤ 900000 := by
      simp only [List.mem_cons, List.not_mem_nil, or_false] at hu
      rcases hu with rfl | rfl <;> exact ⟨_, rfl, by decide, by decide⟩
    refine o_idxL e1 ?_
    exact stepE
    refine (ratio_ hwf I1 (by omega) hu1 hu2).mono ?_
    rintro _ st2 ⟨q, rfl, q0, qs, I3⟩
    exact stepE
    refine floor_ (Sz_le qs (by decide)) ?_
    exact stepE
    refine (draw_ I3 (by omega) (by decide) (by decide)).mono ?_
    rintro _ st3 ⟨y, rfl, h0, h1, I4⟩
    obtain ⟨u, e1, hu⟩ := at_in (xs := [.int 0, .int 1, .int (-1), .int 5, .int (-900000), .int 0]) h0 h1
    obtain ⟨u, rfl, hu1, hu2⟩ : ∃ k : Int, u = .int k ∧ -900000 ≤ k ∧ k ≤ 5 := by
      simp only [List.mem_cons, List.not_mem_nil, or_false] at hu
      rcases hu with rfl | rfl | rfl | rfl | rfl | rfl <;> exact ⟨_, rfl, by decide, by decide⟩
    refine o_idxL e1 ?_
    exact stepE
    refine (draw_ I4 (by omega) (by decide) (by decide)).mono ?_
    rintro _ st4 ⟨y, rfl, h0, h1, I5⟩
    exact stepE
    refine ⟨by rw [List.length_map]; omega, ?_⟩
    exact stepE
    have fl := fl_lt qs
    refine ⟨rs ++ [⟨x, q, q.floor + u, decide (0 < y)⟩], _, _, _, by rw [List.map_append]; rfl, I5.le (by omega), by rw [List.map_append, e, take_next hj]; rfl, fun r h => ?_⟩
    rcases List.mem_append.mp h with h | h
    · exact hr r h
    · rw [List.mem_singleton.mp h]
      refine ⟨hx, q0, qs, ?_⟩
      show (q.floor + u).natAbs < 2 ^ 40
      have : (2 : Nat) ^ 34 = 17179869184 := by decide
      have : (2 : Nat) ^ 40 = 1099511627776 := by decide
      omega
  · rintro _ st ⟨rs, x3, x4, x5, rfl, I, e, hr⟩
    rw [List.take_length] at e
    have hrl : rs.length = m := by
      have := congrArg List.length e
      rw [List.length_map] at this
      omega
    exact stepE
    exact ⟨rs, l, rfl, e, hs, by omega, by omega, hr, tl2, I.le (by omega)⟩
end
end K06

set_option exponentiation.threshold 5000
namespace K06
open Eng
local macro_rules | `(tactic| exact stepE) => `(tactic| repeat (first
  | refine x_var rfl ?_ | refine x_cons ?_ | refine x_nil ?_ | refine x_int ?_ | refine x_call ?_ | refine x_bin ?_ | refine x_cmp ?_ | refine x_idx ?_ | refine x_tup ?_ | refine x_lst ?_ | refine x_str ?_ | refine x_bl ?_ | refine x_non ?_ | refine x_bor rfl ?_
  | refine x_dget ?_ | refine x_blt ?_ | refine x_neg ?_ | refine x_attr ?_ | refine x_repr ?_ | refine x_callD ?_ | refine x_callT ?_ | refine x_make rfl ?_ | refine x_newc ?_ | refine x_dict ?_ | refine x_isi ?_ | refine x_gco rfl ?_ | refine x_sl ?_ | refine x_not ?_ | refine x_min2 ?_ | refine x_max2 ?_ | refine x_rev ?_ | refine x_repl ?_
  | refine o_add ?_ | refine o_sub ?_ | refine o_negI ?_ | refine o_eqI ?_ | refine o_neI ?_ | refine o_lt ?_ | refine o_le ?_ | refine o_gt ?_ | refine o_ge ?_ | refine o_lenL ?_ | refine o_lenT ?_ | refine o_tupL ?_ | refine o_tupT ?_ | refine o_lstL ?_ | refine o_lstT ?_ | refine o_min ?_ | refine o_rev ?_ | refine o_newc ?_
  | refine x_t ?_ | refine t_bl ?_ | refine i_seq ?_ | refine i_rng ?_ | refine i_enum ?_ | refine sq_l ?_ | refine sq_t ?_ | refine bl_ok ?_ | refine ls_ok ?_ | refine s_forX ?_
  | refine s_set ?_ | refine s_ret ?_ | refine s_unp ?_ | refine s_own ?_ | refine s_app rfl ?_ | (refine s_frz rfl ?_; dsimp only [List.set_cons_succ, List.set_cons_zero]) | refine s_par ?_ | refine s_parN ?_ | refine s_dput ?_ | refine s_ext rfl ?_ | refine s_ex ?_ | refine s_pass ?_ | refine s_end ?_
  | refine f_ret ?_ | refine f_nx ?_
  | (refine len_ok rfl ?_; dsimp only [List.set_cons_succ, List.set_cons_zero])))
/-! ### sections -/
theorem eqD_strs : ∀ a b : List PySem.Str, eqDs (a.map .str) (b.map .str) = decide (a = b)
  | [], [] => rfl
  | [], y :: b => by simp [eqDs]
  | x :: a, [] => by simp [eqDs]
  | x :: a, y :: b => by
    simp only [List.map_cons, eqDs, eqD, eqD_strs a b]
    by_cases h : x = y <;> by_cases h2 : a = b <;> simp [h, h2]
theorem eqD_sec (a b : List PySem.Str) : eqD (secD a) (secD b) = decide (a = b) := by
  simp only [secD, eqD]
  exact eqD_strs a b
def inB (b : List PySem.Str) (x : PySem.Str) : Bool := b.any fun z => x == z
def comB (a b : List PySem.Str) : List PySem.Str := a.filter (inB b)
def crossB (a b : List PySem.Str) : Bool := !(comB a b).isEmpty && decide (((comB a b).length : Int) < if (b.length : Int) < a.length then (b.length : Int) else a.length)
theorem all_flat (l : List PySem.Str) : (l.map D.str).all flat = true := by
  rw [List.all_eq_true]
  intro d hd
  obtain ⟨x, _, rfl⟩ := List.mem_map.mp hd
  rfl
theorem any_str (x : PySem.Str) (b : List PySem.Str) : ((b.map D.str).any fun z => eqD (.str x) z) = inB b x := by
  rw [List.any_map]
  rfl
theorem pl_strs : ∀ {l : List PySem.Str}, (∀ x ∈ l, plain (.str x) = true) → plains (l.map .str) = true ∧ deeps (l.map .str) = 0
  | [], _ => ⟨rfl, rfl⟩
  | x :: l, H => by
    obtain ⟨a, b⟩ := pl_strs (l := l) fun y hy => H y (List.mem_cons_of_mem _ hy)
    simp only [List.map_cons, plains, deeps, H x List.mem_cons_self, a, b, deep]
    exact ⟨rfl, rfl⟩
theorem pl_secs : ∀ {l : List (List PySem.Str)}, (∀ s ∈ l, ∀ x ∈ s, plain (.str x) = true) → plains (l.map secD) = true ∧ deeps (l.map secD) ≤ 1
  | [], _ => ⟨rfl, by decide⟩
  | s :: l, H => by
    obtain ⟨a, b⟩ := pl_secs (l := l) fun y hy => H y (List.mem_cons_of_mem _ hy)
    obtain ⟨c, d⟩ := pl_strs (H s List.mem_cons_self)
    simp only [List.map_cons, plains, deeps, secD, plain, deep, a, c, d]
    exact ⟨rfl, by omega⟩
section
variable {T : Tab} {call : Nat → List D → Store → Res D} {wf n N : Nat} {st tl : Store} {Q : D → Store → Prop}
theorem o_inT {x : PySem.Str} {b : List PySem.Str} (h : Q (.bl (inB b x)) st) : OC T call .isin (.str x) (secD b) st Q := by
  refine .of (d := .bl (inB b x)) (st1 := st) ?_ h
  unfold secD cmpD
  dsimp only
  rw [if_pos (by rw [all_flat]; rfl), any_str]
theorem o_neS0 {l : List PySem.Str} (H : ∀ x ∈ l, plain (.str x) = true) (h : Q (.bl (!l.isEmpty)) st) : OC T call .ne (.lst (l.map .str)) (.lst []) st Q := by
  obtain ⟨a, b⟩ := pl_strs H
  refine o_neP (fun c fs h => nomatch h) (by simp only [plain]; exact a) rfl (by simp only [deep]; omega) (by decide) ?_
  have : eqD (.lst (l.map .str)) (.lst []) = l.isEmpty := by cases l <;> simp [eqD, eqDs]
  rw [this]
  exact h
theorem o_neL0 {l : List (List PySem.Str)} (H : ∀ s ∈ l, ∀ x ∈ s, plain (.str x) = true) (h : Q (.bl (!l.isEmpty)) st) : OC T call .ne (.lst (l.map secD)) (.lst []) st Q := by
  obtain ⟨a, b⟩ := pl_secs H
  refine o_neP (fun c fs h => nomatch h) (by simp only [plain]; exact a) rfl (by simp only [deep]; omega) (by decide) ?_
  have : eqD (.lst (l.map secD)) (.lst []) = l.isEmpty := by cases l <;> simp [eqD, eqDs]
  rw [this]
  exact h
theorem o_eqL0 {l : List (List PySem.Str)} (H : ∀ s ∈ l, ∀ x ∈ s, plain (.str x) = true) (h : Q (.bl l.isEmpty) st) : OC T call .eq (.lst (l.map secD)) (.lst []) st Q := by
  obtain ⟨a, b⟩ := pl_secs H
  refine o_eqP (fun c fs h => nomatch h) (by simp only [plain]; exact a) rfl (by simp only [deep]; omega) (by decide) ?_
  have : eqD (.lst (l.map secD)) (.lst []) = l.isEmpty := by cases l <;> simp [eqD, eqDs]
  rw [this]
  exact h
theorem o_eqSec {a b : List PySem.Str} (ha : ∀ x ∈ a, plain (.str x) = true) (hb : ∀ x ∈ b, plain (.str x) = true) (h : Q (.bl (decide (a = b))) st) : OC T call .eq (secD a) (secD b) st Q := by
  obtain ⟨p1, d1⟩ := pl_strs ha
  obtain ⟨p2, d2⟩ := pl_strs hb
  refine o_eqP (fun c fs h => nomatch h) (by simp only [secD, plain]; exact p1) (by simp only [secD, plain]; exact p2) (by simp only [secD, deep]; omega) (by simp only [secD, deep]; omega) ?_
  rw [eqD_sec]
  exact h
theorem crosses_ {a b : List PySem.Str} (ha : ∀ x ∈ a, plain (.str x) = true) (hl : a.length ≤ 1000000) (h : Q (.bl (crossB a b)) st) : OF (rn wf (n + 1)) 29 [secD a, secD b] st Q := by
  refine f_call (f := ⟨4, 2, b29, none, false⟩) rfl rfl rfl [some (.v (secD a)), some (.v (secD b)), none, none] rfl ?_
  unfold b29
  exact stepE
  refine x_lcF D.str D.str (inB b) a ?_ hl (fun x hx => ⟨_, rfl, ?_⟩) ?_
  · exact stepE
    exact ⟨rfl, rfl⟩
  · exact stepE
    refine o_inT ?_
    exact stepE
    refine ⟨rfl, rfl, fun _ => ?_⟩
    exact stepE
    exact ⟨rfl, rfl⟩
  have hc : ∀ x ∈ comB a b, plain (.str x) = true := fun x hx => ha x (List.mem_filter.mp hx).1
  exact stepE
  refine x_and ?_
  exact stepE
  refine o_neS0 hc ?_
  exact stepE
  unfold crossB comB at h
  refine ⟨fun e => x_and1 ?_, fun e => ?_⟩
  · exact stepE
    rw [e, Bool.true_and] at h
    simp only [List.length_map]
    exact h
  · exact stepE
    rw [e, Bool.false_and] at h
    exact h
def secK (s : List PySem.Str) : List Ky := s.map Sum.inr
theorem secK_D (s : List PySem.Str) : tkV (secK s) = secD s := by
  unfold tkV secK secD
  rw [List.map_map]
  rfl
theorem okK_strs : ∀ a b : List PySem.Str, okK (a.map Sum.inr) (b.map Sum.inr) = true
  | [], _ => by simp [okK]
  | _ :: _, [] => by simp [okK]
  | x :: a, y :: b => by
    simp only [List.map_cons, okK]
    split
    · exact okK_strs a b
    · rfl
theorem o_sortSec {l : List (List PySem.Str)} (hs : ∀ s ∈ l, 2 ≤ s.length) (hl : l.length ≤ 100) (h : ∀ l' : List (List PySem.Str), l'.map secK = sortK (l.map secK) → Q (.lst (l'.map secD)) st) : OL T call .sorted (.lst (l.map secD)) st Q := by
  cases l with
  | nil => exact .of (d := .lst []) (st1 := st) rfl (h [] rfl)
  | cons p l =>
    obtain ⟨l', e, h1, h2⟩ := sortK_pull secK (p :: l)
    refine .of (d := .lst (l'.map secD)) (st1 := st) ?_ (h l' e.symm)
    have hst : strsD ((p :: l).map secD) = none := rfl
    have ht : tksD ((p :: l).map secD) = some ((p :: l).map secK) := by
      have := tks_is secK (p :: l)
      simp only [secK_D] at this
      exact this
    have hok : okKs ((p :: l).map secK) = true := by
      unfold okKs
      rw [Bool.and_eq_true, Bool.or_eq_true]
      refine ⟨.inr (List.all_eq_true.mpr fun k hk => ?_), List.all_eq_true.mpr fun a ha => List.all_eq_true.mpr fun b hb => ?_⟩
      · obtain ⟨s, hs', rfl⟩ := List.mem_map.mp hk
        have := hs s hs'
        cases s with
        | nil => simp at this
        | cons x s => rfl
      · obtain ⟨s, _, rfl⟩ := List.mem_map.mp ha
        obtain ⟨t, _, rfl⟩ := List.mem_map.mp hb
        exact okK_strs s t
    simp only [bltD, hst, ht]
    rw [if_pos (by rw [hok, Bool.and_true, List.length_map]; exact decide_eq_true (by omega)), e, List.map_map]
    congr 2
    exact List.map_congr_left fun s _ => secK_D s
theorem secK_inj : ∀ {a b : List PySem.Str}, secK a = secK b → a = b
  | [], [], _ => rfl
  | [], _ :: _, h => by simp [secK] at h
  | _ :: _, [], h => by simp [secK] at h
  | x :: a, y :: b, h => by
    simp only [secK, List.map_cons, List.cons.injEq, Sum.inr.injEq] at h
    rw [h.1, secK_inj (a := a) (b := b) h.2]
/-- sections as they are drawn -/
structure SecsOK (nms : List PySem.Str) (l : List (List PySem.Str)) : Prop where
  c : l.length ≤ 3
  s : ∀ s ∈ l, s.Sublist nms ∧ 2 ≤ s.length
  d : l.Pairwise fun a b => a ≠ b ∧ crossB a b = false
theorem secs_mem {l l' : List (List PySem.Str)} (e : l'.map secK = sortK (l.map secK)) : ∀ s, s ∈ l' ↔ s ∈ l := by
  intro s
  constructor
  · intro h
    have : secK s ∈ sortK (l.map secK) := e ▸ List.mem_map_of_mem h
    obtain ⟨t, ht, e⟩ := List.mem_map.mp (sortK_mem.mp this)
    rw [← secK_inj e]; exact ht
  · intro h
    have : secK s ∈ l'.map secK := e ▸ sortK_mem.mpr (List.mem_map_of_mem h)
    obtain ⟨t, ht, e⟩ := List.mem_map.mp this
    rw [← secK_inj e]; exact ht
theorem secs_len {l l' : List (List PySem.Str)} (e : l'.map secK = sortK (l.map secK)) : l'.length = l.length := by
  have := congrArg List.length e
  rw [sortK_len, List.length_map, List.length_map] at this
  exact this
theorem sections_ (hI : InvT N tl st) (hN : N < 800000) {nms : List PySem.Str} (hn : ∀ x ∈ nms, x ∈ names') (hl : nms.length ≤ 6) : OF (rn wf (n + 2)) 10 [.ref 0, .lst (nms.map .str), .int 3] st fun d st' => ∃ (l l' : List (List PySem.Str)), d = .tup (l'.map secD) ∧ SecsOK nms l ∧ l'.map secK = sortK (l.map secK) ∧ InvT (N + 70) tl st' := by
  refine f_call (f := ⟨10, 3, b10, none, false⟩) rfl rfl rfl [some (.v (.ref 0)), some (.v (.lst (nms.map .str))), some (.v (.int 3)), none, none, none, none, none, none, none] rfl ?_
  unfold b10
  exact stepE
  refine (draw_ hI (by omega) (by decide) (by decide)).mono ?_
  rintro _ st1 ⟨y, rfl, h0, h1, I1⟩
  obtain ⟨m, rfl⟩ := Int.eq_ofNat_of_zero_le h0
  refine ⟨m, rfl, by omega, ?_⟩
  refine fr_map (fun i : Nat => D.int (i : Nat)) (fun j ρ st => ∃ (l : List (List PySem.Str)) (x4 x5 x6 x7 : Option Slot), ρ = [some (.v (.ref 0)), some (.v (.lst (nms.map .str))), some (.v (.int 3)), some (.own (l.map secD)), x4, x5, x6, x7, none, none] ∧ InvT (N + 1 + 8 * j) tl st ∧ SecsOK nms l) ⟨[], none, none, none, none, rfl, I1, ⟨by decide, (fun _ h => nomatch h), .nil⟩⟩ ?_ ?_
  · rintro j i hj _ st ⟨l, x4, x5, x6, x7, rfl, I, S⟩
    have hjm := ltl hj
    rw [List.length_range] at hjm
    have hsl : ∀ s ∈ l, s.length ≤ 6 := fun s hs => Nat.le_trans (S.s s hs).1.length_le hl
    have hsn : ∀ s ∈ l, ∀ x ∈ s, x ∈ names' := fun s hs x hx => hn x ((S.s s hs).1.subset hx)
    have hsp : ∀ s ∈ l, ∀ x ∈ s, plain (.str x) = true := fun s hs x hx => plain_nm (hsn s hs x hx)
    have hc := S.c
    refine ⟨_, rfl, ?_⟩
    dsimp only [List.set_cons_succ, List.set_cons_zero]
    exact stepE
    -- the base: some list of names, all of the sheet's
    have rest : ∀ (base : List PySem.Str) (st1 : Store), base.Sublist nms → InvT (N + 1 + 8 * j + 2) tl st1 → SS (fun F => ∃ ρ2 st2, F = Fl.nx ρ2 st2 ∧ ∃ (l : List (List PySem.Str)) (x4 x5 x6 x7 : Option Slot), ρ2 = [some (.v (.ref 0)), some (.v (.lst (nms.map .str))), some (.v (.int 3)), some (.own (l.map secD)), x4, x5, x6, x7, none, none] ∧ InvT (N + 1 + 8 * (j + 1)) tl st2 ∧ SecsOK nms l) prg.tab (rn wf (n + 1)) wf (.cons (.set 6 (.blt .tuple (.lc (.var 9) [9] (.seq (.var 5)) (.cons (.cmp .gt (.call 6 (.cons (.var 0) (.cons (.int 3) .nil)) []) (.int 0)) .nil))))
  (.cons (.set 7 (.lc (.var 8) [8] (.seq (.bor 3)) (.cons (.or (.cons (.cmp .eq (.var 8) (.var 6)) (.cons (.call 29 (.cons (.var 8) (.cons (.var 6) .nil)) []) .nil))) .nil)))
  (.cons (.ite (.and (.cons (.cmp .gt (.blt .len (.var 6)) (.int 1)) (.cons (.cmp .lt (.blt .len (.bor 3)) (.var 2)) (.cons (.cmp .eq (.var 7) (.lst .nil)) .nil)))) (.cons (.app 3 (.var 6))
  .nil) .nil)
  .nil))) [some (.v (.ref 0)), some (.v (.lst (nms.map .str))), some (.v (.int 3)), some (.own (l.map secD)), some (.v (.int i)), some (.v (.lst (base.map .str))), x6, x7, none, none] st1 := by
      intro base st1 hb I
      have hbl : base.length ≤ 6 := Nat.le_trans hb.length_le hl
      exact stepE
      refine x_lcS D.str D.str base (fun k st => InvT (N + 1 + 8 * j + 2 + k) tl st) ?_ (by omega) (fun k x hk st I => ⟨_, rfl, ?_⟩) (fun p st1 hp I => ?_)
      · exact stepE
        exact ⟨rfl, I⟩
      · have := ltl hk
        exact stepE
        refine (draw_ I (by omega) (by decide) (by decide)).mono ?_
        rintro _ st2 ⟨y, rfl, h0, h1, I2⟩
        exact stepE
        refine ⟨I2, fun _ => ?_⟩
        exact stepE
        exact ⟨rfl, rfl⟩
      have hpn : p.Sublist nms := hp.trans hb
      have hpx : ∀ x ∈ p, plain (.str x) = true := fun x hx => plain_nm (hn x (hpn.subset hx))
      have hpl : p.length ≤ 6 := Nat.le_trans hpn.length_le hl
      exact stepE
      refine x_lcF secD secD (fun o => decide (o = p) || crossB o p) l ?_ (by omega) (fun o ho => ⟨_, rfl, ?_⟩) ?_
      · exact stepE
        exact ⟨rfl, rfl⟩
      · exact stepE
        refine x_or ?_
        exact stepE
        refine o_eqSec (hsp o ho) hpx ?_
        exact stepE
        refine ⟨fun e => x_or1 ?_, fun e => ?_⟩
        · exact stepE
          refine crosses_ (hsp o ho) (by have := hsl o ho; omega) ?_
          exact stepE
          refine ⟨by rw [e]; rfl, rfl, fun _ => ?_⟩
          exact stepE
          exact ⟨rfl, rfl⟩
        · exact stepE
          refine ⟨by rw [e]; rfl, rfl, fun _ => ?_⟩
          exact stepE
          exact ⟨rfl, rfl⟩
      exact stepE
      refine s_ite ?_
      refine x_t (EV.mono (Q := fun d st' => ∃ k, d = .bl k ∧ st' = st1 ∧ (k = true → 2 ≤ p.length ∧ l.length < 3 ∧ (l.filter fun o => decide (o = p) || crossB o p).isEmpty = true)) ?_ ?_)
      · refine x_and ?_
        exact stepE
        refine ⟨fun e1 => x_and ?_, fun _ => ⟨_, rfl, rfl, fun h => nomatch h⟩⟩
        exact stepE
        refine ⟨fun e2 => x_and1 ?_, fun _ => ⟨_, rfl, rfl, fun h => nomatch h⟩⟩
        exact stepE
        refine o_eqL0 (fun s hs => hsp s (List.mem_filter.mp hs).1) ?_
        refine ⟨_, rfl, rfl, fun e3 => ⟨?_, ?_, e3⟩⟩
        · have := of_decide_eq_true e1
          rw [List.length_map] at this
          omega
        · have := of_decide_eq_true e2
          rw [List.length_map] at this
          omega
      rintro _ _ ⟨k, rfl, rfl, hk⟩
      exact stepE
      refine ⟨fun e => ?_, fun e => ?_⟩
      · obtain ⟨k1, k2, k3⟩ := hk e
        have k3 : ∀ o ∈ l, o ≠ p ∧ crossB o p = false := fun o ho => by
          rw [List.isEmpty_iff, List.filter_eq_nil_iff] at k3
          have := k3 o ho
          simpa using this
        unfold Ss.app
        exact stepE
        refine ⟨by rw [List.length_map]; omega, ?_⟩
        unfold Ss.app
        exact stepE
        refine ⟨l ++ [p], _, _, _, _, by rw [List.map_append]; rfl, I.le (by omega), ?_, ?_, ?_⟩
        · rw [List.length_append, List.length_singleton]; omega
        · intro s hs
          rcases List.mem_append.mp hs with h | h
          · exact S.s s h
          · rw [List.mem_singleton.mp h]; exact ⟨hpn, k1⟩
        · refine List.pairwise_append.mpr ⟨S.d, List.pairwise_singleton _ _, fun a ha b hb => ?_⟩
          rw [List.mem_singleton.mp hb]
          exact k3 a ha
      · unfold Ss.app
        exact stepE
        exact ⟨l, _, _, _, _, rfl, I.le (by omega), S⟩
    refine s_ite ?_
    refine x_t (EV.mono (Q := fun d st' => ∃ k, d = .bl k ∧ InvT (N + 1 + 8 * j + 1) tl st' ∧ (k = true → l.isEmpty = false)) ?_ ?_)
    · refine x_and ?_
      exact stepE
      refine o_neL0 hsp ?_
      exact stepE
      refine ⟨fun e1 => x_and1 ?_, fun _ => ⟨_, rfl, I.le (by omega), fun h => nomatch h⟩⟩
      exact stepE
      refine (draw_ I (by omega) (by decide) (by decide)).mono ?_
      rintro _ st2 ⟨y, rfl, h0, h1, I2⟩
      exact stepE
      exact ⟨I2, fun _ => by simpa using e1⟩
    rintro _ st2 ⟨k, rfl, I2, hk⟩
    exact stepE
    refine ⟨fun e => ?_, fun e => ?_⟩
    · have hne := hk e
      have hl0 : 0 < l.length := by
        cases l with
        | nil => simp at hne
        | cons a l => simp
      unfold Ss.app
      exact stepE
      rw [List.length_map]
      exact stepE
      refine (draw_ I2 (by omega) (m := (l.length : Int)) (by omega) (by omega)).mono ?_
      rintro _ st3 ⟨y, rfl, h0, h1, I3⟩
      obtain ⟨b, eb, hb⟩ := at_in (xs := l.map secD) h0 (by rw [List.length_map]; exact h1)
      obtain ⟨s, hs, rfl⟩ := List.mem_map.mp hb
      refine o_idxL eb ?_
      refine o_lstT ?_
      refine len_ok rfl ?_
      dsimp only [List.set_cons_succ, List.set_cons_zero]
      unfold Ss.app
      exact rest s st3 (S.s s hs).1 I3
    · unfold Ss.app
      exact rest nms st2 (.refl _) (I2.le (by omega))
  · rintro _ st ⟨l, x4, x5, x6, x7, rfl, I, S⟩
    rw [List.length_range] at I
    exact stepE
    have hc := S.c
    refine o_sortSec (fun s hs => (S.s s hs).2) (by omega) fun l' e => ?_
    exact stepE
    exact ⟨l, l', rfl, S, e, I.le (by omega)⟩
end
end K06

set_option exponentiation.threshold 5000
namespace K06
open Eng
local macro_rules | `(tactic| exact stepE) => `(tactic| repeat (first
  | refine x_var rfl ?_ | refine x_cons ?_ | refine x_nil ?_ | refine x_int ?_ | refine x_call ?_ | refine x_bin ?_ | refine x_cmp ?_ | refine x_idx ?_ | refine x_tup ?_ | refine x_lst ?_ | refine x_str ?_ | refine x_bl ?_ | refine x_non ?_ | refine x_bor rfl ?_
  | refine x_dget ?_ | refine x_blt ?_ | refine x_neg ?_ | refine x_attr ?_ | refine x_repr ?_ | refine x_callD ?_ | refine x_callT ?_ | refine x_make rfl ?_ | refine x_newc ?_ | refine x_dict ?_ | refine x_isi ?_ | refine x_gco rfl ?_ | refine x_sl ?_ | refine x_not ?_ | refine x_min2 ?_ | refine x_max2 ?_ | refine x_rev ?_ | refine x_repl ?_
  | refine o_add ?_ | refine o_sub ?_ | refine o_negI ?_ | refine o_eqI ?_ | refine o_neI ?_ | refine o_lt ?_ | refine o_le ?_ | refine o_gt ?_ | refine o_ge ?_ | refine o_lenL ?_ | refine o_lenT ?_ | refine o_tupL ?_ | refine o_tupT ?_ | refine o_lstL ?_ | refine o_lstT ?_ | refine o_min ?_ | refine o_rev ?_ | refine o_newc ?_
  | refine x_t ?_ | refine t_bl ?_ | refine i_seq ?_ | refine i_rng ?_ | refine i_enum ?_ | refine sq_l ?_ | refine sq_t ?_ | refine bl_ok ?_ | refine ls_ok ?_ | refine s_forX ?_
  | refine s_set ?_ | refine s_ret ?_ | refine s_unp ?_ | refine s_own ?_ | refine s_app rfl ?_ | (refine s_frz rfl ?_; dsimp only [List.set_cons_succ, List.set_cons_zero]) | refine s_par ?_ | refine s_parN ?_ | refine s_dput ?_ | refine s_ext rfl ?_ | refine s_ex ?_ | refine s_pass ?_ | refine s_end ?_
  | refine f_ret ?_ | refine f_nx ?_
  | (refine len_ok rfl ?_; dsimp only [List.set_cons_succ, List.set_cons_zero])))
theorem Sz0 (k : Nat) : Sz (k + 1) (0 : Rat) := ⟨Nat.pow_pos (by decide), by
  show 1 < 2 ^ (k + 1)
  exact Nat.one_lt_two_pow (by omega)⟩
theorem ch0 (r : Row) : ChOK r 0 := ⟨by decide, Sz0 33, fun _ => rfl⟩
section
variable {wf n N : Nat} {st tl : Store}
theorem days_ (hwf : 2 ^ 4096 ≤ wf) (hI : InvT N tl st) (hN : N < 800000) {rs : List Row} (hl : rs.length ≤ 6) {m : Nat} (hm : m ≤ 10) : OF (rn wf (n + 4)) 11 [.ref 0, .tup (rs.map rowD), .int (m : Int)] st fun d st' => ∃ (ds : List (List Rat)), d = .tup (ds.map dayD) ∧ ds.length = m ∧ (∀ d ∈ ds, L2R ChOK rs d) ∧ InvT (N + 30 * m) tl st' := by
  refine f_call (f := ⟨8, 3, b11, none, false⟩) rfl rfl rfl [some (.v (.ref 0)), some (.v (.tup (rs.map rowD))), some (.v (.int (m : Int))), none, none, none, none, none] rfl ?_
  unfold b11
  exact stepE
  refine ⟨m, rfl, by omega, ?_⟩
  refine fr_map (fun i : Nat => D.int (i : Nat)) (fun j ρ st => ∃ (ds : List (List Rat)) (x4 x5 x6 x7 : Option Slot), ρ = [some (.v (.ref 0)), some (.v (.tup (rs.map rowD))), some (.v (.int (m : Int))), some (.own (ds.map dayD)), x4, x5, x6, x7] ∧ InvT (N + 30 * j) tl st ∧ ds.length = j ∧ ∀ d ∈ ds, L2R ChOK rs d) ⟨[], none, none, none, none, rfl, hI, rfl, fun _ h => nomatch h⟩ ?_ ?_
  · rintro j i hj _ st ⟨ds, x4, x5, x6, x7, rfl, I, hd, hds⟩
    have hjm := ltl hj
    rw [List.length_range] at hjm
    refine ⟨_, rfl, ?_⟩
    exact stepE
    refine fr_map rowD (fun k ρ st => ∃ (d : List Rat) (x6 x7 : Option Slot), ρ = [some (.v (.ref 0)), some (.v (.tup (rs.map rowD))), some (.v (.int (m : Int))), some (.own (ds.map dayD)), some (.v (.int i)), some (.own (d.map frD)), x6, x7] ∧ InvT (N + 30 * j + 4 * k) tl st ∧ L2R ChOK (rs.take k) d) ⟨[], x6, x7, rfl, I, .nil⟩ ?_ ?_
    · rintro k r hk _ st ⟨d, x6, x7, rfl, I, hd⟩
      have hkl := ltl hk
      have hdl : d.length = k := by
        have := hd.length
        rw [List.length_take] at this
        omega
      refine ⟨_, rfl, ?_⟩
      exact stepE
      refine (draw_ I (by omega) (by decide) (by decide)).mono ?_
      rintro _ st1 ⟨y, rfl, h0, h1, I1⟩
      obtain ⟨u, e1, hu⟩ := at_in (xs := [.int 2, .int 1000]) h0 h1
      obtain ⟨u, rfl, hu1, hu2⟩ : ∃ k : Int, u = .int k ∧ 0 ≤ k ∧ k ≤ 900000 := by
        simp only [List.mem_cons, List.not_mem_nil, or_false] at hu
        rcases hu with rfl | rfl <;> exact ⟨_, rfl, by decide, by decide⟩
      refine o_idxL e1 ?_
      exact stepE
      refine (ratio_ hwf I1 (by omega) hu1 hu2).mono ?_
      rintro _ st2 ⟨q, rfl, q0, qs, I3⟩
      exact stepE
      refine x_ite ?_
      refine x_t (EV.mono (Q := fun d st' => ∃ b, d = .bl b ∧ InvT (N + 30 * j + 4 * (k + 1)) tl st' ∧ (b = true → r.g = true)) ?_ ?_)
      · refine x_and ?_
        exact stepE
        refine o_idxT at_3 ?_
        exact stepE
        refine ⟨fun e => x_and1 ?_, fun e => ⟨_, rfl, I3.le (by omega), fun h => nomatch h⟩⟩
        exact stepE
        refine (draw_ I3 (by omega) (by decide) (by decide)).mono ?_
        rintro _ st3 ⟨y, rfl, h0, h1, I4⟩
        exact stepE
        exact ⟨I4.le (by omega), fun _ => e⟩
      rintro _ st3 ⟨b, rfl, I4, hb⟩
      exact stepE
      refine ⟨fun e => ?_, fun _ => ?_⟩
      · exact stepE
        refine ⟨by rw [List.length_map]; omega, ?_⟩
        exact stepE
        refine ⟨d ++ [q], _, _, by rw [List.map_append]; rfl, I4, ?_⟩
        rw [take_next hk]
        exact L2R.snoc ⟨q0, qs, fun h => by rw [hb e] at h; cases h⟩ hd
      · exact stepE
        refine ⟨by rw [List.length_map]; omega, ?_⟩
        exact stepE
        refine ⟨d ++ [0], _, _, by rw [List.map_append]; rfl, I4, ?_⟩
        rw [take_next hk]
        exact L2R.snoc (ch0 r) hd
    · rintro _ st ⟨d, x6, x7, rfl, I, hd⟩
      rw [List.take_length] at hd
      exact stepE
      refine ⟨by rw [List.length_map]; omega, ?_⟩
      exact stepE
      refine ⟨ds ++ [d], _, _, _, _, by rw [List.map_append]; rfl, I.le (by omega), by rw [List.length_append]; simp; omega, fun x hx => ?_⟩
      rcases List.mem_append.mp hx with h | h
      · exact hds x h
      · rw [List.mem_singleton.mp h]; exact hd
  · rintro _ st ⟨ds, x4, x5, x6, x7, rfl, I, hd, hds⟩
    rw [List.length_range] at I hd
    exact stepE
    exact ⟨ds, rfl, hd, hds, I⟩
/-- a sheet as they are drawn -/
structure OK (s : Sheet) : Prop where
  r0 : 1 ≤ s.rs.length
  r1 : s.rs.length ≤ 6
  rw : ∀ r ∈ s.rs, RowOK r
  nm : ∃ l, s.rs.map Row.nm = sortS l ∧ l.Nodup
  ss : ∃ l, SecsOK (s.rs.map Row.nm) l ∧ s.ss.map secK = sortK (l.map secK)
  d1 : s.ds.length ≤ 10
  dl : ∀ d ∈ s.ds, L2R ChOK s.rs d
theorem sheet_ (hwf : 2 ^ 4096 ≤ wf) (hI : InvT N tl st) (hN : N < 700000) : OF (rn wf (n + 5)) 3 [.ref 0, .int 6, .int 6] st fun d st' => ∃ s, d = shD s ∧ OK s ∧ ∃ tl', InvT (N + 400) tl' st' := by
  refine f_call (f := ⟨6, 3, b3, none, false⟩) rfl rfl rfl [some (.v (.ref 0)), some (.v (.int 6)), some (.v (.int 6)), none, none, none] rfl ?_
  unfold b3
  exact stepE
  refine (state_ hwf hI (by omega)).mono ?_
  rintro _ st1 ⟨rs, l, rfl, hn, hs, r0, r1, hr, tl1, I1⟩
  exact stepE
  refine x_lcV rowD (fun r => .str r.nm) rs ?_ (by omega) (fun r hr => ⟨_, rfl, ?_⟩) ?_
  · exact stepE
    exact ⟨rfl, rfl⟩
  · exact stepE
    refine o_idxT at_0 ?_
    exact ⟨rfl, rfl⟩
  exact stepE
  have e : rs.map (fun r => D.str r.nm) = (rs.map Row.nm).map .str := by rw [List.map_map]; rfl
  rw [e]
  refine (sections_ I1 (by omega) (fun x hx => ?_) (by rw [List.length_map]; omega)).mono ?_
  · obtain ⟨r, h, rfl⟩ := List.mem_map.mp hx
    exact (hr r h).n
  rintro _ st2 ⟨c, c', rfl, hc, ec, I2⟩
  exact stepE
  refine (draw_ I2 (by omega) (by decide) (by decide)).mono ?_
  rintro _ st3 ⟨y, rfl, h0, h1, I3⟩
  obtain ⟨m, rfl⟩ := Int.eq_ofNat_of_zero_le h0
  exact stepE
  refine (days_ hwf I3 (by omega) r1 (m := m) (by omega)).mono ?_
  rintro _ st4 ⟨ds, rfl, hl, hd, I4⟩
  exact stepE
  exact ⟨⟨rs, c', ds⟩, rfl, ⟨r0, r1, hr, ⟨l, hn, hs.nodup⟩, ⟨c, hc, ec⟩, by show ds.length ≤ 10; omega, hd⟩, tl1, I4.le (by omega)⟩
/-! ### bookings -/
def coD (c : List (List Int)) : D := .tup (c.map fun r => .tup (r.map .int))
structure CoOK (s : Sheet) (c : List (List Int)) : Prop where
  l : c.length = s.ds.length
  r : ∀ x ∈ c, x.length = s.rs.length
  b : ∀ x ∈ c, ∀ i ∈ x, i.natAbs < 2 ^ 40
theorem booking_ (hI : InvT N tl st) (hN : N < 700000) {s : Sheet} (o : OK s) : OF (rn wf (n + 2)) 12 [.ref 0, shD s] st fun d st' => ∃ c, d = coD c ∧ CoOK s c ∧ InvT (N + 60) tl st' := by
  have r1 := o.r1
  have d1 := o.d1
  refine f_call (f := ⟨8, 2, b12, none, false⟩) rfl rfl rfl [some (.v (.ref 0)), some (.v (shD s)), none, none, none, none, none, none] rfl ?_
  unfold b12
  exact stepE
  refine ⟨_, _, .inl rfl, rfl, ?_⟩
  dsimp only [List.set_cons_succ, List.set_cons_zero]
  exact stepE
  refine fr_map dayD (fun j ρ st => ∃ (c : List (List Int)) (x3 x7 : Option Slot), ρ = [some (.v (.ref 0)), some (.v (shD s)), some (.own (c.map fun r => .tup (r.map .int))), x3, some (.v (.tup (s.rs.map rowD))), some (.v (.tup (s.ss.map secD))), some (.v (.tup (s.ds.map dayD))), x7] ∧ InvT (N + 6 * j) tl st ∧ c.length = j ∧ ∀ x ∈ c, x.length = s.rs.length ∧ ∀ i ∈ x, i.natAbs < 2 ^ 40) ⟨[], none, none, rfl, hI, rfl, fun _ h => nomatch h⟩ ?_ ?_
  · rintro j d hj _ st ⟨c, x3, x7, rfl, I, hc, hb⟩
    have hjl := ltl hj
    have hd := o.dl d (List.mem_of_getElem? hj)
    have hdl := hd.length
    refine ⟨_, rfl, ?_⟩
    exact stepE
    refine x_lc frD d (fun _ y => ∃ i : Int, y = .int i ∧ i.natAbs < 2 ^ 40) (fun k st => InvT (N + 6 * j + k) tl st) ?_ (by omega) (fun k q hk st I => ⟨_, rfl, ?_⟩) (fun ys st1 r I => ?_)
    · exact stepE
      exact ⟨rfl, I⟩
    · have hkl := ltl hk
      obtain ⟨r, _, hq⟩ := hd.all q (List.mem_of_getElem? hk)
      have fl := fl_lt hq.s
      exact stepE
      refine floor_ (Sz_le hq.s (by decide)) ?_
      exact stepE
      refine (draw_ I (by omega) (by decide) (by decide)).mono ?_
      rintro _ st1 ⟨y, rfl, h0, h1, I1⟩
      exact stepE
      refine ⟨⟨_, rfl, ?_⟩, I1⟩
      have : (2 : Nat) ^ 34 = 17179869184 := by decide
      have : (2 : Nat) ^ 40 = 1099511627776 := by decide
      omega
    obtain ⟨bs, rfl, r2⟩ := L2R.pull (f := D.int) r
    have hbl := r2.length
    exact stepE
    refine ⟨by rw [List.length_map]; omega, ?_⟩
    exact stepE
    refine ⟨c ++ [bs], _, _, by rw [List.map_append]; rfl, I.le (by omega), by rw [List.length_append]; simp; omega, fun x hx => ?_⟩
    rcases List.mem_append.mp hx with h | h
    · exact hb x h
    · rw [List.mem_singleton.mp h]
      refine ⟨by omega, fun i hi => ?_⟩
      obtain ⟨_, _, z⟩ := r2.all i hi
      exact z
  · rintro _ st ⟨c, x3, x7, rfl, I, hc, hb⟩
    exact stepE
    exact ⟨c, rfl, ⟨hc, fun x hx => (hb x hx).1, fun x hx => (hb x hx).2⟩, I.le (by omega)⟩
end
end K06

set_option exponentiation.threshold 5000
namespace K06
open Eng
local macro_rules | `(tactic| exact stepE) => `(tactic| repeat (first
  | refine x_var rfl ?_ | refine x_cons ?_ | refine x_nil ?_ | refine x_int ?_ | refine x_call ?_ | refine x_bin ?_ | refine x_cmp ?_ | refine x_idx ?_ | refine x_tup ?_ | refine x_lst ?_ | refine x_str ?_ | refine x_bl ?_ | refine x_non ?_ | refine x_bor rfl ?_
  | refine x_dget ?_ | refine x_blt ?_ | refine x_neg ?_ | refine x_attr ?_ | refine x_repr ?_ | refine x_callD ?_ | refine x_callT ?_ | refine x_make rfl ?_ | refine x_newc ?_ | refine x_dict ?_ | refine x_isi ?_ | refine x_gco rfl ?_ | refine x_sl ?_ | refine x_not ?_ | refine x_min2 ?_ | refine x_max2 ?_ | refine x_rev ?_ | refine x_repl ?_
  | refine o_add ?_ | refine o_sub ?_ | refine o_negI ?_ | refine o_eqI ?_ | refine o_neI ?_ | refine o_lt ?_ | refine o_le ?_ | refine o_gt ?_ | refine o_ge ?_ | refine o_lenL ?_ | refine o_lenT ?_ | refine o_tupL ?_ | refine o_tupT ?_ | refine o_lstL ?_ | refine o_lstT ?_ | refine o_min ?_ | refine o_rev ?_ | refine o_newc ?_
  | refine x_t ?_ | refine t_bl ?_ | refine i_seq ?_ | refine i_rng ?_ | refine i_enum ?_ | refine sq_l ?_ | refine sq_t ?_ | refine bl_ok ?_ | refine ls_ok ?_ | refine s_forX ?_
  | refine s_set ?_ | refine s_ret ?_ | refine s_unp ?_ | refine s_own ?_ | refine s_app rfl ?_ | (refine s_frz rfl ?_; dsimp only [List.set_cons_succ, List.set_cons_zero]) | refine s_par ?_ | refine s_parN ?_ | refine s_dput ?_ | refine s_ext rfl ?_ | refine s_ex ?_ | refine s_pass ?_ | refine s_end ?_
  | refine f_ret ?_ | refine f_nx ?_
  | (refine len_ok rfl ?_; dsimp only [List.set_cons_succ, List.set_cons_zero])))
/-! ### the state after a booking -/
def sumQ : List Rat → Rat → Rat
  | [], a => a
  | q :: r, a => sumQ r (a + q)
theorem sumQ_snoc : ∀ (l : List Rat) (a b : Rat), sumQ (l ++ [b]) a = sumQ l a + b
  | [], _, _ => rfl
  | q :: r, a, b => sumQ_snoc r (a + q) b
theorem sumI_snoc : ∀ (l : List Int) (a b : Int), sumI (l ++ [b]) a = sumI l a + b
  | [], _, _ => rfl
  | q :: r, a, b => sumI_snoc r (a + q) b
theorem sumI_add : ∀ (l : List Int) (a : Int), sumI l a = a + sumI l 0
  | [], a => by simp [sumI]
  | q :: r, a => by
    simp only [sumI]
    rw [sumI_add r (a + q), sumI_add r (0 + q)]
    omega
theorem sum_sz {k : Nat} : ∀ (qs : List Rat) (a : Rat) (m : Nat), (∀ q ∈ qs, Sz k q) → Sz m a → Sz (m + (k + 1) * qs.length) (sumQ qs a)
  | [], a, m, _, h => h
  | q :: r, a, m, H, h => by
    have := sum_sz r (a + q) (m + k + 1) (fun x hx => H x (List.mem_cons_of_mem _ hx)) (Sz_add h (H q (List.mem_cons_self ..)))
    rw [show m + k + 1 + (k + 1) * r.length = m + (k + 1) * (q :: r).length by rw [List.length_cons, Nat.mul_succ]; omega] at this
    exact this
def colQ (ds : List (List Rat)) (i : Nat) : List Rat := ds.map fun d => d.getD i 0
def colI (c : List (List Int)) (i : Nat) : List Int := c.map fun d => d.getD i 0
def aftR (s : Sheet) (c : List (List Int)) (p : Row × Nat) : Row := ⟨p.1.nm, sumQ (colQ s.ds p.2) p.1.q, sumI (colI c p.2) p.1.c, p.1.g⟩
def aft (s : Sheet) (c : List (List Int)) : List Row := s.rs.zipIdx.map (aftR s c)
theorem at_getQ {d : List Rat} {i : Nat} (h : i < d.length) : atD (d.map frD) (i : Int) = some (frD (d.getD i 0)) := by
  rw [at_map (List.getElem?_eq_getElem h), List.getD_eq_getElem?_getD, List.getElem?_eq_getElem h]
  rfl
theorem at_getI {d : List Int} {i : Nat} (h : i < d.length) : atD (d.map D.int) (i : Int) = some (.int (d.getD i 0)) := by
  rw [at_map (List.getElem?_eq_getElem h), List.getD_eq_getElem?_getD, List.getElem?_eq_getElem h]
  rfl
theorem colQ_next {ds : List (List Rat)} {k i : Nat} {d : List Rat} (h : ds[k]? = some d) : colQ (ds.take (k + 1)) i = colQ (ds.take k) i ++ [d.getD i 0] := by
  unfold colQ
  rw [take_next h, List.map_append]
  rfl
theorem colI_next {ds : List (List Int)} {k i : Nat} {d : List Int} (h : ds[k]? = some d) : colI (ds.take (k + 1)) i = colI (ds.take k) i ++ [d.getD i 0] := by
  unfold colI
  rw [take_next h, List.map_append]
  rfl
theorem zip_at {α : Type} {l : List α} {j : Nat} {p : α × Nat} (h : l.zipIdx[j]? = some p) : p.2 = j ∧ l[j]? = some p.1 := by
  rw [List.getElem?_zipIdx, Option.map_eq_some_iff] at h
  obtain ⟨a, ha, rfl⟩ := h
  exact ⟨by simp, ha⟩
section
variable {s : Sheet} {c : List (List Int)}
theorem OK.len (o : OK s) {d : List Rat} (h : d ∈ s.ds) : d.length = s.rs.length := (o.dl d h).length.symm
theorem OK.ch (o : OK s) {d : List Rat} (h : d ∈ s.ds) (i : Nat) : Sz 34 (d.getD i 0) := by
  rw [List.getD_eq_getElem?_getD]
  cases e : d[i]? with
  | none => exact Sz0 33
  | some q =>
    obtain ⟨r, _, hq⟩ := (o.dl d h).all q (List.mem_of_getElem? e)
    exact hq.s
theorem OK.col (o : OK s) (i k : Nat) {a : Rat} (ha : Sz 34 a) : Sz 384 (sumQ (colQ (s.ds.take k) i) a) := by
  have := sum_sz (k := 34) (colQ (s.ds.take k) i) a 34 (fun q hq => by
    obtain ⟨d, hd, rfl⟩ := List.mem_map.mp hq
    exact o.ch (List.mem_of_mem_take hd) i) ha
  refine Sz_le this ?_
  have d1 := o.d1
  unfold colQ
  rw [List.length_map, List.length_take]
  omega
end
section
variable {wf n N : Nat} {st tl : Store} {Q : D → Store → Prop}
theorem after_ (hwf : 2 ^ 4096 ≤ wf) {s : Sheet} {c : List (List Int)} (o : OK s) (k : CoOK s c) (q : Q (.tup ((aft s c).map rowD)) st) : OF (rn wf (n + 4)) 13 [shD s, coD c] st Q := by
  have r1 := o.r1
  have d1 := o.d1
  have kl := k.l
  refine f_call (f := ⟨12, 2, b13, none, false⟩) rfl rfl rfl [some (.v (shD s)), some (.v (coD c)), none, none, none, none, none, none, none, none, none, none] rfl ?_
  unfold b13
  exact stepE
  refine ⟨_, _, .inl rfl, rfl, ?_⟩
  dsimp only [List.set_cons_succ, List.set_cons_zero]
  exact stepE
  rw [List.length_map]
  refine ⟨s.rs.length, rfl, by omega, ?_⟩
  refine fr_map (fun i : Nat => D.int (i : Nat)) (fun j ρ st' => ∃ (x3 x7 x8 x9 x10 x11 : Option Slot), ρ = [some (.v (shD s)), some (.v (coD c)), some (.own (((s.rs.zipIdx.take j).map (aftR s c)).map rowD)), x3, some (.v (.tup (s.rs.map rowD))), some (.v (.tup (s.ss.map secD))), some (.v (.tup (s.ds.map dayD))), x7, x8, x9, x10, x11] ∧ st = st') ⟨none, none, none, none, none, none, rfl, rfl⟩ ?_ ?_
  · rintro j i hj _ _ ⟨x3, x7, x8, x9, x10, x11, rfl, rfl⟩
    have hjl := ltl hj
    rw [List.length_range] at hjl
    have hi : i = j := by
      rw [List.getElem?_range hjl] at hj
      exact (Option.some.inj hj).symm
    subst hi
    have hr : s.rs[i]? = some s.rs[i] := List.getElem?_eq_getElem hjl
    generalize s.rs[i] = r at hr
    have hrok := o.rw r (List.mem_of_getElem? hr)
    refine ⟨_, rfl, ?_⟩
    exact stepE
    refine o_idxT (at_map hr) ?_
    refine ⟨_, _, .inl rfl, rfl, ?_⟩
    dsimp only [List.set_cons_succ, List.set_cons_zero]
    exact stepE
    rw [List.length_map]
    refine ⟨s.ds.length, rfl, by omega, ?_⟩
    refine fr_map (fun i : Nat => D.int (i : Nat)) (fun k ρ st' => ∃ (x7 : Option Slot), ρ = [some (.v (shD s)), some (.v (coD c)), some (.own (((s.rs.zipIdx.take i).map (aftR s c)).map rowD)), some (.v (.int (i : Nat))), some (.v (.tup (s.rs.map rowD))), some (.v (.tup (s.ss.map secD))), some (.v (.tup (s.ds.map dayD))), x7, some (.v (.str r.nm)), some (.v (frD (sumQ (colQ (s.ds.take k) i) r.q))), some (.v (.int (sumI (colI (c.take k) i) r.c))), some (.v (.bl r.g))] ∧ st = st') ⟨x7, rfl, rfl⟩ ?_ ?_
    · rintro k d hk _ _ ⟨x7, rfl, rfl⟩
      have hkl := ltl hk
      rw [List.length_range] at hkl
      have hd : d = k := by
        rw [List.getElem?_range hkl] at hk
        exact (Option.some.inj hk).symm
      subst hd
      have e1 : s.ds[d]? = some s.ds[d] := List.getElem?_eq_getElem hkl
      have e2 : c[d]? = some c[d] := List.getElem?_eq_getElem (by omega)
      have l1 := o.len (List.mem_of_getElem? e1)
      have l2 := k.r c[d] (List.mem_of_getElem? e2)
      refine ⟨_, rfl, ?_⟩
      exact stepE
      refine o_idxT (at_map e1) ?_
      exact stepE
      refine o_idxT (at_getQ (by omega)) ?_
      exact stepE
      refine plus_ hwf (Sz_le (o.col i d hrok.s) (by decide)) (Sz_le (o.ch (List.mem_of_getElem? e1) i) (by decide)) ?_
      exact stepE
      refine o_idxT (at_map e2) ?_
      exact stepE
      refine o_idxT (at_getI (by omega)) ?_
      exact stepE
      refine ⟨⟨Nat.le_of_ble_eq_true rfl, Nat.le_of_ble_eq_true rfl, by decide⟩, ?_⟩
      dsimp only [List.set_cons_succ, List.set_cons_zero]
      exact stepE
      exact ⟨_, by rw [colQ_next e1, sumQ_snoc, colI_next e2, sumI_snoc], rfl⟩
    · rintro _ _ ⟨x7, rfl, rfl⟩
      rw [List.length_range, List.take_length]
      rw [← kl, List.take_length]
      exact stepE
      refine ⟨by rw [List.length_map, List.length_map, List.length_take]; omega, ?_⟩
      exact stepE
      exact ⟨_, _, _, _, _, _, by rw [take_next (l := s.rs.zipIdx) (a := (r, i)) (by rw [List.getElem?_zipIdx, hr]; simp), List.map_append, List.map_append]; rfl, rfl⟩
  · rintro _ _ ⟨x3, x7, x8, x9, x10, x11, rfl, rfl⟩
    rw [List.length_range]
    rw [show s.rs.zipIdx.take s.rs.length = s.rs.zipIdx by rw [← List.length_zipIdx (l := s.rs) (i := 0), List.take_length]]
    exact stepE
    exact q
/-! ### by the package -/
abbrev am (r : Rat) : D := amD I r
theorem jAdd : prg.fn[17]? = some ⟨4, 2, tAdd I.c I.asam I.fo I.fu, none, false⟩ := rfl
theorem mAdd : methOf prg.tab I.c nAdd = some 17 := rfl
theorem makeI (hwf : 2 ^ 4096 ≤ wf) {q : Rat} (h : Sz 1000 q) (k : Q (am q) st) : OF (rn wf (n + 2)) 16 [.int q.num, .int q.den] st Q := by
  have z := make' (P := prg) (I := I) (n := n) (st := st) K hwf q.num q.den (den0R q) (pw' h.1 (by decide)) (pw' (ndR h) (by decide))
  rw [Rat.num_divInt_den] at z
  exact .of z k
theorem addA (hwf : 2 ^ 4096 ≤ wf) {a b : Rat} (ha : Sz 1000 a) (hb : Sz 1000 b) (k : Q (am (a + b)) st) : OB prg.tab (rn wf (n + 4)) .add (am a) (am b) st Q := by
  refine .of ?_ k
  rw [bin_am K _ (m := nAdd) (r := nRadd) rfl mAdd]
  exact add' K hwf jAdd (.am b) ha hb
theorem pairA {a : Rat} (k : Q (frD a) st) : OA prg.tab (rn wf (n + 1)) 16 (am a) st Q :=
  .of (pair' (P := prg) (I := I) (wf := wf) (n := n) (st := st) K (j := 35) rfl a) k
theorem exact_ (hwf : 2 ^ 4096 ≤ wf) {a : Rat} {l : List Rat} (ha : Sz 34 a) (hl : l.length ≤ 10) (H : ∀ q ∈ l, Sz 34 q) (q : Q (frD (sumQ l a)) st) : OF (rn wf (n + 5)) 31 [frD a, .lst (l.map frD)] st Q := by
  refine f_call (f := ⟨4, 2, b31, none, false⟩) rfl rfl rfl [some (.v (frD a)), some (.v (.lst (l.map frD))), none, none] rfl ?_
  unfold b31
  exact stepE
  refine x_makeS rfl ?_
  exact stepE
  refine ⟨_, rfl, makeI hwf (Sz_le ha (by decide)) ?_⟩
  exact stepE
  refine fr_map frD (fun j ρ st' => ∃ x3, ρ = [some (.v (frD a)), some (.v (.lst (l.map frD))), some (.v (am (sumQ (l.take j) a))), x3] ∧ st = st') ⟨none, rfl, rfl⟩ ?_ ?_
  · rintro j b hj _ _ ⟨x3, rfl, rfl⟩
    have hb := H b (List.mem_of_getElem? hj)
    refine ⟨_, rfl, ?_⟩
    exact stepE
    refine x_makeS rfl ?_
    exact stepE
    refine ⟨_, rfl, makeI hwf (Sz_le hb (by decide)) ?_⟩
    have hs : Sz 384 (sumQ (l.take j) a) := by
      refine Sz_le (sum_sz (k := 34) (l.take j) a 34 (fun q hq => H q (List.mem_of_mem_take hq)) ha) ?_
      rw [List.length_take]
      omega
    refine addA hwf (Sz_le hs (by decide)) (Sz_le hb (by decide)) ?_
    exact stepE
    exact ⟨_, by rw [take_next hj, sumQ_snoc], rfl⟩
  · rintro _ _ ⟨x3, rfl, rfl⟩
    rw [List.take_length]
    exact stepE
    refine pairA ?_
    exact stepE
    exact q
theorem flat_enum (rs : List Row) : flat2s (enumD (rs.map rowD)) = some (rs.zipIdx.map fun p => .tup [.int p.2, .str p.1.nm, frD p.1.q, .int p.1.c, .bl p.1.g]) := by
  rw [enum_map]
  generalize rs.zipIdx = l
  induction l with
  | nil => rfl
  | cons p l ih =>
    simp only [List.map_cons, rowD, flat2s]
    simp only [rowD] at ih
    rw [ih]
    rfl
theorem stateAfter_ (hwf : 2 ^ 4096 ≤ wf) {s : Sheet} {c : List (List Int)} (o : OK s) (k : CoOK s c) (q : Q (.tup ((aft s c).map rowD)) st) : OF (rn wf (n + 6)) 14 [shD s, coD c] st Q := by
  have r1 := o.r1
  have d1 := o.d1
  have kl := k.l
  refine f_call (f := ⟨14, 2, b14, none, false⟩) rfl rfl rfl [some (.v (shD s)), some (.v (coD c)), none, none, none, none, none, none, none, none, none, none, none, none] rfl ?_
  unfold b14
  exact stepE
  refine ⟨_, _, .inl rfl, rfl, ?_⟩
  dsimp only [List.set_cons_succ, List.set_cons_zero]
  exact stepE
  refine s_forN (fun p : Row × Nat => .tup [.int p.2, .str p.1.nm, frD p.1.q, .int p.1.c, .bl p.1.g]) s.rs.zipIdx (fun j ρ st' => ∃ (x6 x7 x8 x9 x10 x11 : Option Slot), ρ = [some (.v (shD s)), some (.v (coD c)), some (.own (((s.rs.zipIdx.take j).map (aftR s c)).map rowD)), some (.v (.tup (s.rs.map rowD))), some (.v (.tup (s.ss.map secD))), some (.v (.tup (s.ds.map dayD))), x6, x7, x8, x9, x10, x11, none, none] ∧ st = st') ?_ ?_ ?_
  · exact stepE
    exact ⟨flat_enum s.rs, none, none, none, none, none, none, rfl, rfl⟩
  · rintro j p hj _ _ ⟨x6, x7, x8, x9, x10, x11, rfl, rfl⟩
    obtain ⟨hp, hr⟩ := zip_at hj
    obtain ⟨r, i⟩ := p
    dsimp only at hp hr
    subst hp
    have hil := ltl hr
    have hrok := o.rw r (List.mem_of_getElem? hr)
    refine ⟨_, rfl, ?_⟩
    exact stepE
    refine x_lcV (fun r => .tup (r.map .int)) (fun r => .int (r.getD i 0)) c ?_ (by omega) (fun x hx => ⟨_, rfl, ?_⟩) ?_
    · exact stepE
      exact ⟨rfl, rfl⟩
    · have := k.r x hx
      exact stepE
      refine o_idxT (at_getI (by omega)) ?_
      exact ⟨rfl, rfl⟩
    refine o_sum (sumD_map (fun r : List Int => r.getD i 0) c 0) ?_
    exact stepE
    refine x_lcV dayD (fun d => frD (d.getD i 0)) s.ds ?_ (by omega) (fun x hx => ⟨_, rfl, ?_⟩) ?_
    · exact stepE
      exact ⟨rfl, rfl⟩
    · have := o.len hx
      exact stepE
      refine o_idxT (at_getQ (by omega)) ?_
      exact ⟨rfl, rfl⟩
    exact stepE
    have e : s.ds.map (fun d => frD (d.getD i 0)) = (colQ s.ds i).map frD := by unfold colQ; rw [List.map_map]; rfl
    rw [e]
    refine exact_ hwf hrok.s (by unfold colQ; rw [List.length_map]; omega) (fun q hq => ?_) ?_
    · obtain ⟨d, hd, rfl⟩ := List.mem_map.mp hq
      exact o.ch hd i
    exact stepE
    refine ⟨by rw [List.length_map, List.length_map, List.length_take]; omega, ?_⟩
    exact stepE
    have e2 : r.c + sumI (c.map fun r => r.getD i 0) 0 = sumI (colI c i) r.c := (sumI_add _ _).symm
    exact ⟨_, _, _, _, _, _, by rw [take_next hj, List.map_append, List.map_append, e2]; rfl, rfl⟩
  · rintro _ _ ⟨x6, x7, x8, x9, x10, x11, rfl, rfl⟩
    rw [List.take_length]
    exact stepE
    exact q
end
end K06

set_option exponentiation.threshold 5000
namespace K06
open Eng
local macro_rules | `(tactic| exact stepE) => `(tactic| repeat (first
  | refine x_var rfl ?_ | refine x_cons ?_ | refine x_nil ?_ | refine x_int ?_ | refine x_call ?_ | refine x_bin ?_ | refine x_cmp ?_ | refine x_idx ?_ | refine x_tup ?_ | refine x_lst ?_ | refine x_str ?_ | refine x_bl ?_ | refine x_non ?_ | refine x_bor rfl ?_
  | refine x_dget ?_ | refine x_blt ?_ | refine x_neg ?_ | refine x_attr ?_ | refine x_repr ?_ | refine x_callD ?_ | refine x_callT ?_ | refine x_make rfl ?_ | refine x_newc ?_ | refine x_dict ?_ | refine x_isi ?_ | refine x_gco rfl ?_ | refine x_sl ?_ | refine x_not ?_ | refine x_min2 ?_ | refine x_max2 ?_ | refine x_rev ?_ | refine x_repl ?_
  | refine o_add ?_ | refine o_sub ?_ | refine o_negI ?_ | refine o_eqI ?_ | refine o_neI ?_ | refine o_lt ?_ | refine o_le ?_ | refine o_gt ?_ | refine o_ge ?_ | refine o_lenL ?_ | refine o_lenT ?_ | refine o_tupL ?_ | refine o_tupT ?_ | refine o_lstL ?_ | refine o_lstT ?_ | refine o_min ?_ | refine o_rev ?_ | refine o_newc ?_
  | refine x_t ?_ | refine t_bl ?_ | refine i_seq ?_ | refine i_rng ?_ | refine i_enum ?_ | refine sq_l ?_ | refine sq_t ?_ | refine bl_ok ?_ | refine ls_ok ?_ | refine s_forX ?_
  | refine s_set ?_ | refine s_ret ?_ | refine s_unp ?_ | refine s_own ?_ | refine s_app rfl ?_ | (refine s_frz rfl ?_; dsimp only [List.set_cons_succ, List.set_cons_zero]) | refine s_par ?_ | refine s_parN ?_ | refine s_dput ?_ | refine s_ext rfl ?_ | refine s_ex ?_ | refine s_pass ?_ | refine s_end ?_
  | refine f_ret ?_ | refine f_nx ?_
  | (refine len_ok rfl ?_; dsimp only [List.set_cons_succ, List.set_cons_zero])))
/-! ### what repr takes -/
theorem rg_fr {k : Nat} {q : Rat} (h : Sz k q) (hk : k < 1900) : RG 1 ((k + 5) * 2 + 3) (frD q) := by
  refine RG.tup (k := k + 3) (fun d hd => ?_) (Nat.le_refl _)
  rcases List.mem_cons.mp hd with rfl | hd
  · exact RG.int h.1 (by omega)
  · rcases List.mem_cons.mp hd with rfl | hd
    · exact RG.int (ndR h) (by omega)
    · cases hd
theorem rg_row {r : Row} (hn : r.nm ∈ names') (hq : Sz 384 r.q) (hc : r.c.natAbs < 2 ^ 60) : RG 2 3135 (rowD r) := by
  refine RG.tup (h := 1) (k := 781) (m := 4) (fun d hd => ?_) (Nat.le_refl _)
  simp only [List.mem_cons, List.not_mem_nil, or_false] at hd
  rcases hd with rfl | rfl | rfl | rfl
  · exact (names_rg _ hn).le (by decide) (by decide)
  · exact (rg_fr hq (by decide)).le (by decide) (by decide)
  · exact (RG.int hc (by decide)).le (by decide) (by decide)
  · exact (RG.bl _).le (by decide) (by decide)
theorem rg_rows {rs : List Row} (hl : rs.length ≤ 6) (H : ∀ r ∈ rs, r.nm ∈ names' ∧ Sz 384 r.q ∧ r.c.natAbs < 2 ^ 60) : RG 3 20000 (.tup (rs.map rowD)) :=
  (RG.tup (h := 2) (k := 3135) (m := 6) (RG.map fun r hr => rg_row (H r hr).1 (H r hr).2.1 (H r hr).2.2) (by rw [List.length_map]; exact hl)).le (by decide) (by decide)
theorem mem_cut {xs : List D} {l h : Option Int} : ∀ d ∈ cutD xs l h, d ∈ xs := fun d hd => List.mem_of_mem_drop (List.mem_of_mem_take hd)
theorem len_cut {xs : List D} {l h : Option Int} : (cutD xs l h).length ≤ xs.length := by
  unfold cutD
  rw [List.length_take, List.length_drop]
  omega
section
variable {s : Sheet}
theorem OK.nms (o : OK s) : ∀ x ∈ s.rs.map Row.nm, x ∈ names' := fun x hx => by
  obtain ⟨r, h, rfl⟩ := List.mem_map.mp hx
  exact (o.rw r h).n
theorem OK.sec (o : OK s) : ∀ x ∈ s.ss, x.length ≤ 6 ∧ 2 ≤ x.length ∧ x.Sublist (s.rs.map Row.nm) ∧ ∀ y ∈ x, y ∈ names' := fun x hx => by
  obtain ⟨l, hl, e⟩ := o.ss
  obtain ⟨h1, h2⟩ := hl.s x ((secs_mem e x).mp hx)
  refine ⟨?_, h2, h1, fun y hy => o.nms y (h1.subset hy)⟩
  have := h1.length_le
  rw [List.length_map] at this
  have := o.r1
  omega
theorem OK.secl (o : OK s) : s.ss.length ≤ 3 := by
  obtain ⟨l, hl, e⟩ := o.ss
  rw [secs_len e]
  exact hl.c
theorem OK.rows (o : OK s) : RG 3 20000 (.tup (s.rs.map rowD)) := rg_rows o.r1 fun r hr => by
  have h := o.rw r hr
  exact ⟨h.n, Sz_le h.s (by decide), Nat.lt_of_lt_of_le h.c (by decide)⟩
theorem OK.secs (o : OK s) : RG 3 20000 (.tup (s.ss.map secD)) :=
  (RG.tup (h := 1) (k := 507) (m := 3) (RG.map fun x hx => RG.tup (h := 0) (k := 82) (m := 6) (RG.map fun y hy => names_rg y ((o.sec x hx).2.2.2 y hy)) (by rw [List.length_map]; exact (o.sec x hx).1)) (by rw [List.length_map]; exact o.secl)).le (by decide) (by decide)
theorem OK.day (o : OK s) {d : List Rat} (h : d ∈ s.ds) : RG 2 501 (dayD d) :=
  RG.tup (h := 1) (k := 81) (m := 6) (RG.map fun q hq => by
    obtain ⟨r, _, hc⟩ := (o.dl d h).all q hq
    exact rg_fr hc.s (by decide)) (by rw [List.length_map, o.len h]; exact o.r1)
theorem OK.days (o : OK s) {xs : List D} (h : ∀ d ∈ xs, d ∈ s.ds.map dayD) (hl : xs.length ≤ 10) : RG 3 20000 (.tup xs) :=
  (RG.tup (h := 2) (k := 501) (m := 10) (fun d hd => by
    obtain ⟨x, hx, rfl⟩ := List.mem_map.mp (h d hd)
    exact o.day hx) hl).le (by decide) (by decide)
theorem rg3 {a b c : D} (ha : RG 3 20000 a) (hb : RG 3 20000 b) (hc : RG 3 20000 c) : RG 4 60009 (.tup [a, b, c]) :=
  RG.tup (h := 3) (k := 20000) (m := 3) (fun d hd => by
    simp only [List.mem_cons, List.not_mem_nil, or_false] at hd
    rcases hd with rfl | rfl | rfl
    · exact ha
    · exact hb
    · exact hc) (Nat.le_refl _)
theorem OK.rg (o : OK s) : RG 4 60009 (shD s) := rg3 o.rows o.secs (o.days (fun _ h => h) (by rw [List.length_map]; exact o.d1))
theorem OK.prt (o : OK s) (l h : Option Int) : RG 4 60009 (.tup [.tup (s.rs.map rowD), .tup (s.ss.map secD), .tup (cutD (s.ds.map dayD) l h)]) :=
  rg3 o.rows o.secs (o.days mem_cut (by
    have := len_cut (xs := s.ds.map dayD) (l := l) (h := h)
    rw [List.length_map] at this
    have := o.d1
    omega))
theorem CoOK.rg {c : List (List Int)} (o : OK s) (k : CoOK s c) : RG 2 3000 (coD c) := by
  refine RG.tup (h := 1) (k := 273) (m := 10) (RG.map fun x hx => (RG.tup (h := 0) (k := 43) (m := 6) (RG.map fun i hi => RG.int (k.b x hx i hi) (by decide)) ?_).le (by decide) (by decide)) ?_ |>.le (by decide) (by decide)
  · rw [List.length_map, k.r x hx]; exact o.r1
  · rw [List.length_map, k.l]; exact o.d1
theorem both_rg {c : List (List Int)} (o : OK s) (k : CoOK s c) : RG 5 120025 (.tup [shD s, coD c]) := by
  refine RG.tup (h := 4) (k := 60009) (m := 2) (fun d hd => ?_) (Nat.le_refl _)
  simp only [List.mem_cons, List.not_mem_nil, or_false] at hd
  rcases hd with rfl | rfl
  · exact o.rg
  · exact (k.rg o).le (by decide) (by decide)
theorem sumI_lt' {c : List (List Int)} (o : OK s) (k : CoOK s c) {a : Int} (ha : a.natAbs < 2 ^ 40) (i : Nat) : (sumI (colI c i) a).natAbs < 2 ^ 60 := by
  have h := sumI_lt (k := 2 ^ 40) (colI c i) a (fun x hx => by
    obtain ⟨r, hr, rfl⟩ := List.mem_map.mp hx
    rw [List.getD_eq_getElem?_getD]
    cases e : r[i]? with
    | none => exact Nat.zero_le _
    | some v => exact Nat.le_of_lt (k.b r hr v (List.mem_of_getElem? e)))
  have hl : (colI c i).length ≤ 10 := by
    unfold colI
    rw [List.length_map, k.l]
    exact o.d1
  have h2 : 2 ^ 40 * (colI c i).length ≤ 2 ^ 40 * 10 := Nat.mul_le_mul_left _ hl
  have : (2 : Nat) ^ 40 = 1099511627776 := by decide
  have : (2 : Nat) ^ 60 = 1152921504606846976 := by decide
  omega
theorem aft_rg {c : List (List Int)} (o : OK s) (k : CoOK s c) : RG 3 20000 (.tup ((aft s c).map rowD)) := by
  refine rg_rows (by unfold aft; rw [List.length_map, List.length_zipIdx]; exact o.r1) fun r hr => ?_
  obtain ⟨⟨r, i⟩, hp, rfl⟩ := List.mem_map.mp hr
  obtain ⟨j, hj⟩ := List.getElem?_of_mem hp
  have h := o.rw r (List.mem_of_getElem? (zip_at hj).2)
  refine ⟨h.n, ?_, sumI_lt' o k h.c i⟩
  have := o.col i s.ds.length h.s
  rw [List.take_length] at this
  exact this
end
section
variable {T : Tab} {call : Nat → List D → Store → Res D} {wf n N : Nat} {st tl : Store} {Q : D → Store → Prop}
theorem o_repr {h k : Nat} {x : D} (g : RG h k x) (hd : dispD x = true) (h1 : h ≤ 32) (h2 : k ≤ 1000000) (q : Q (.str (toP x).shown) st) : ORp x st Q := .of (repr_ok (st := st) g hd h1 h2) q
theorem o_neSame {h k : Nat} {x : D} (g : RG h k x) (q : Q (.bl false) st) : OC T call .ne (.str (toP x).shown) (.str (toP x).shown) st Q := .of (cmp_neS T call (shown_ok g) st) q
theorem part_ {s : Sheet} {a b : Int} (q : Q (.tup [.tup (s.rs.map rowD), .tup (s.ss.map secD), .tup (cutD (s.ds.map dayD) (some a) (some (a + b)))]) st) : OF (rn wf (n + 1)) 15 [shD s, .int a, .int b] st Q := by
  refine f_call (f := ⟨6, 3, b15, none, false⟩) rfl rfl rfl [some (.v (shD s)), some (.v (.int a)), some (.v (.int b)), none, none, none] rfl ?_
  unfold b15
  exact stepE
  refine ⟨_, _, .inl rfl, rfl, ?_⟩
  dsimp only [List.set_cons_succ, List.set_cons_zero]
  exact stepE
  refine .of rfl ?_
  exact stepE
  exact q
theorem ite_false {c : C} {ρ : Env} {a r : Ss} {W : Fl → Prop} (h : EV T call c ρ st fun d st' => d = .bl false ∧ st = st') (k : SS W T call wf r ρ st) : SS W T call wf (.cons (.ite c a .nil) r) ρ st := by
  refine s_ite (x_t (h.mono ?_))
  rintro _ _ ⟨rfl, rfl⟩
  exact t_bl ⟨fun h => (nomatch h), fun _ => k⟩
theorem rep0 (m : Nat) : (List.replicate m [D.int 0]).flatten = (List.replicate m (0 : Int)).map D.int := by
  induction m with
  | zero => rfl
  | succ m ih => rw [List.replicate_succ, List.flatten_cons, ih]; rfl
def co0 (s : Sheet) : List (List Int) := s.ds.map fun _ => List.replicate s.rs.length 0
theorem co0_ok (s : Sheet) : CoOK s (co0 s) := by
  refine ⟨by unfold co0; rw [List.length_map], fun x hx => ?_, fun x hx i hi => ?_⟩
  · obtain ⟨_, _, rfl⟩ := List.mem_map.mp hx
    rw [List.length_replicate]
  · obtain ⟨_, _, rfl⟩ := List.mem_map.mp hx
    rw [List.eq_of_mem_replicate hi]
    decide
theorem check_ (hwf : 2 ^ 4096 ≤ wf) (hI : InvT N tl st) (hN : N < 600000) {s : Sheet} (o : OK s) : OF (rn wf (n + 7)) 4 [.ref 0, shD s] st fun d st' => d = .bl true ∧ InvT (N + 200) tl st' := by
  have r0 := o.r0
  have r1 := o.r1
  have d1 := o.d1
  refine f_call (f := ⟨12, 2, b4, none, false⟩) rfl rfl rfl [some (.v (.ref 0)), some (.v (shD s)), none, none, none, none, none, none, none, none, none, none] rfl ?_
  unfold b4
  exact stepE
  refine ⟨_, _, .inl rfl, rfl, ?_⟩
  dsimp only [List.set_cons_succ, List.set_cons_zero]
  exact stepE
  refine ⟨2, rfl, by decide, ?_⟩
  refine fr_map (fun i : Nat => D.int (i : Nat)) (fun j ρ st => ∃ (x2 x7 x8 : Option Slot), ρ = [some (.v (.ref 0)), some (.v (shD s)), x2, none, some (.v (.tup (s.rs.map rowD))), some (.v (.tup (s.ss.map secD))), some (.v (.tup (s.ds.map dayD))), x7, x8, none, none, none] ∧ InvT (N + 60 * j) tl st) ⟨none, none, none, rfl, hI⟩ ?_ ?_
  · rintro j i hj _ st ⟨x2, x7, x8, rfl, I⟩
    have hj2 := ltl hj
    rw [List.length_range] at hj2
    refine ⟨_, rfl, ?_⟩
    exact stepE
    refine (booking_ I (by omega) o).mono ?_
    rintro _ st1 ⟨c, rfl, k, I1⟩
    exact stepE
    -- a booking, drawn or of zeros
    have rest : ∀ c : List (List Int), CoOK s c → SS (fun F => ∃ ρ2 st2, F = Fl.nx ρ2 st2 ∧ ∃ (x2 x7 x8 : Option Slot), ρ2 = [some (.v (.ref 0)), some (.v (shD s)), x2, none, some (.v (.tup (s.rs.map rowD))), some (.v (.tup (s.ss.map secD))), some (.v (.tup (s.ds.map dayD))), x7, x8, none, none, none] ∧ InvT (N + 60 * (j + 1)) tl st2) prg.tab (rn wf (n + 6)) wf (.cons (.set 8 (.repr (.tup (.cons (.var 1) (.cons (.var 7) .nil)))))
  (.cons (.ite (.cmp .ne (.repr (.call 14 (.cons (.var 1) (.cons (.var 7) .nil)) [])) (.repr (.call 13 (.cons (.var 1) (.cons (.var 7) .nil)) []))) (.cons (.ret (.bl false))
  .nil) .nil)
  (.cons (.ite (.cmp .ne (.repr (.tup (.cons (.var 1) (.cons (.var 7) .nil)))) (.var 8)) (.cons (.ret (.bl false))
  .nil) .nil)
  .nil))) [some (.v (.ref 0)), some (.v (shD s)), some (.v (.int i)), none, some (.v (.tup (s.rs.map rowD))), some (.v (.tup (s.ss.map secD))), some (.v (.tup (s.ds.map dayD))), some (.v (coD c)), x8, none, none, none] st1 := by
      intro c k
      have g := both_rg o k
      have ga := aft_rg o k
      exact stepE
      refine o_repr g rfl (by decide) (by decide) ?_
      exact stepE
      refine ite_false ?_ (ite_false ?_ ?_)
      · exact stepE
        refine stateAfter_ hwf o k ?_
        refine o_repr ga rfl (by decide) (by decide) ?_
        exact stepE
        refine after_ hwf o k ?_
        refine o_repr ga rfl (by decide) (by decide) ?_
        refine o_neSame ga ?_
        exact ⟨rfl, rfl⟩
      · exact stepE
        refine o_repr g rfl (by decide) (by decide) ?_
        exact stepE
        refine o_neSame g ?_
        exact ⟨rfl, rfl⟩
      · exact stepE
        exact ⟨_, _, _, rfl, I1.le (by omega)⟩
    refine s_ite ?_
    exact stepE
    refine ⟨fun _ => ?_, fun _ => ?_⟩
    · unfold Ss.app
      refine s_set ?_
      refine x_blt ?_
      refine x_lcV dayD (fun _ => .tup ((List.replicate s.rs.length (0 : Int)).map .int)) s.ds ?_ (by omega) (fun x hx => ⟨_, rfl, ?_⟩) ?_
      · exact stepE
        exact ⟨rfl, rfl⟩
      · exact stepE
        rw [List.length_map]
        refine o_repT (List.cons_ne_nil _ _) (by omega) (by omega) (by decide) ?_
        exact ⟨by rw [Int.toNat_natCast, rep0], rfl⟩
      refine o_tupL ?_
      refine len_ok rfl ?_
      dsimp only [List.set_cons_succ, List.set_cons_zero]
      unfold Ss.app
      have := rest (co0 s) (co0_ok s)
      unfold coD co0 at this
      rw [List.map_map] at this
      exact this
    · unfold Ss.app
      exact rest c k
  · rintro _ st ⟨x2, x7, x8, rfl, I⟩
    rw [List.length_range] at I
    exact stepE
    rw [List.length_map]
    refine ⟨s.ds.length + 1, rfl, by omega, ?_⟩
    refine fr_map (fun i : Nat => D.int (i : Nat)) (fun j ρ st' => ∃ (x3 x9 : Option Slot), ρ = [some (.v (.ref 0)), some (.v (shD s)), x2, x3, some (.v (.tup (s.rs.map rowD))), some (.v (.tup (s.ss.map secD))), some (.v (.tup (s.ds.map dayD))), x7, x8, x9, none, none] ∧ st = st') ⟨none, none, rfl, rfl⟩ ?_ ?_
    · rintro j a hj _ _ ⟨x3, x9, rfl, rfl⟩
      have hja := ltl hj
      rw [List.length_range] at hja
      rw [List.getElem?_range hja] at hj
      have hj := Option.some.inj hj
      subst hj
      refine ⟨_, rfl, ?_⟩
      exact stepE
      rw [List.length_map]
      refine ⟨s.ds.length - j + 1, by congr 1; omega, by omega, ?_⟩
      refine fr_map (fun i : Nat => D.int (i : Nat)) (fun k ρ st' => ∃ (x9 : Option Slot), ρ = [some (.v (.ref 0)), some (.v (shD s)), x2, some (.v (.int (j : Nat))), some (.v (.tup (s.rs.map rowD))), some (.v (.tup (s.ss.map secD))), some (.v (.tup (s.ds.map dayD))), x7, x8, x9, none, none] ∧ st = st') ⟨_, rfl, rfl⟩ ?_ ?_
      · rintro k b hk _ _ ⟨x9, rfl, rfl⟩
        have g := o.prt (some (j : Int)) (some ((j : Int) + (b : Int)))
        refine ⟨_, rfl, ?_⟩
        refine ite_false ?_ ?_
        · exact stepE
          refine part_ ?_
          refine o_repr g rfl (by decide) (by decide) ?_
          exact stepE
          refine .of rfl ?_
          exact stepE
          refine o_repr g rfl (by decide) (by decide) ?_
          refine o_neSame g ?_
          exact ⟨rfl, rfl⟩
        · exact stepE
          exact ⟨_, rfl, rfl⟩
      · rintro _ _ ⟨x9, rfl, rfl⟩
        exact stepE
        exact ⟨_, _, rfl, rfl⟩
    · rintro _ _ ⟨x3, x9, rfl, rfl⟩
      exact stepE
      exact ⟨rfl, I.le (by omega)⟩
end
end K06

set_option exponentiation.threshold 5000
namespace K06
open Eng
local macro_rules | `(tactic| exact stepE) => `(tactic| repeat (first
  | refine x_var rfl ?_ | refine x_cons ?_ | refine x_nil ?_ | refine x_int ?_ | refine x_call ?_ | refine x_bin ?_ | refine x_cmp ?_ | refine x_idx ?_ | refine x_tup ?_ | refine x_lst ?_ | refine x_str ?_ | refine x_bl ?_ | refine x_non ?_ | refine x_bor rfl ?_
  | refine x_dget ?_ | refine x_blt ?_ | refine x_neg ?_ | refine x_attr ?_ | refine x_repr ?_ | refine x_callD ?_ | refine x_callT ?_ | refine x_make rfl ?_ | refine x_newc ?_ | refine x_dict ?_ | refine x_isi ?_ | refine x_gco rfl ?_ | refine x_sl ?_ | refine x_not ?_ | refine x_min2 ?_ | refine x_max2 ?_ | refine x_rev ?_ | refine x_repl ?_
  | refine o_add ?_ | refine o_sub ?_ | refine o_negI ?_ | refine o_eqI ?_ | refine o_neI ?_ | refine o_lt ?_ | refine o_le ?_ | refine o_gt ?_ | refine o_ge ?_ | refine o_lenL ?_ | refine o_lenT ?_ | refine o_tupL ?_ | refine o_tupT ?_ | refine o_lstL ?_ | refine o_lstT ?_ | refine o_min ?_ | refine o_rev ?_ | refine o_newc ?_
  | refine x_t ?_ | refine t_bl ?_ | refine i_seq ?_ | refine i_rng ?_ | refine i_enum ?_ | refine sq_l ?_ | refine sq_t ?_ | refine bl_ok ?_ | refine ls_ok ?_ | refine s_forX ?_
  | refine s_set ?_ | refine s_ret ?_ | refine s_unp ?_ | refine s_own ?_ | refine s_app rfl ?_ | (refine s_frz rfl ?_; dsimp only [List.set_cons_succ, List.set_cons_zero]) | refine s_par ?_ | refine s_parN ?_ | refine s_dput ?_ | refine s_ext rfl ?_ | refine s_ex ?_ | refine s_pass ?_ | refine s_end ?_
  | refine f_ret ?_ | refine f_nx ?_
  | (refine len_ok rfl ?_; dsimp only [List.set_cons_succ, List.set_cons_zero])))
/-! ### the fixed sheets -/
def chB (r : Row) (q : Rat) : Bool := decide (0 ≤ q.num) && (decide (q.num.natAbs < 2 ^ 34) && (decide (q.den < 2 ^ 34) && (r.g || decide (q = 0))))
theorem chB_ok {r : Row} {q : Rat} (h : chB r q = true) : ChOK r q := by
  simp only [chB, Bool.and_eq_true, Bool.or_eq_true, decide_eq_true_eq] at h
  exact ⟨h.1, ⟨h.2.1, h.2.2.1⟩, fun g => h.2.2.2.resolve_left (by rw [g]; decide)⟩
def daB : List Row → List Rat → Bool
  | [], [] => true
  | r :: rs, q :: qs => chB r q && daB rs qs
  | _, _ => false
theorem daB_ok : ∀ {rs : List Row} {qs : List Rat}, daB rs qs = true → L2R ChOK rs qs
  | [], [], _ => .nil
  | r :: rs, q :: qs, h => by
    simp only [daB, Bool.and_eq_true] at h
    exact .cons (chB_ok h.1) (daB_ok h.2)
  | [], _ :: _, h => by simp [daB] at h
  | _ :: _, [], h => by simp [daB] at h
def roB (r : Row) : Bool := decide (r.nm ∈ names') && (decide (0 ≤ r.q.num) && (decide (r.q.num.natAbs < 2 ^ 34) && (decide (r.q.den < 2 ^ 34) && decide (r.c.natAbs < 2 ^ 40))))
theorem roB_ok {r : Row} (h : roB r = true) : RowOK r := by
  simp only [roB, Bool.and_eq_true, decide_eq_true_eq] at h
  exact ⟨h.1, h.2.1, ⟨h.2.2.1, h.2.2.2.1⟩, h.2.2.2.2⟩
def okB (s : Sheet) : Bool := decide (1 ≤ s.rs.length) && (decide (s.rs.length ≤ 6) && (s.rs.all roB && (decide (s.rs.map Row.nm = sortS (s.rs.map Row.nm)) && (decide (s.rs.map Row.nm).Nodup && (decide (s.ss.length ≤ 3) && ((s.ss.all fun x => decide (x.Sublist (s.rs.map Row.nm)) && decide (2 ≤ x.length)) && (decide (s.ss.Pairwise fun a b => a ≠ b ∧ crossB a b = false) && (decide (s.ss.map secK = sortK (s.ss.map secK)) && (decide (s.ds.length ≤ 10) && s.ds.all (daB s.rs))))))))))
theorem okB_ok {s : Sheet} (h : okB s = true) : OK s := by
  simp only [okB, Bool.and_eq_true, decide_eq_true_eq, List.all_eq_true] at h
  obtain ⟨h1, h2, h3, h4, h5, h6, h7, h8, h9, h10, h11⟩ := h
  exact ⟨h1, h2, fun r hr => roB_ok (h3 r hr), ⟨_, h4, h5⟩, ⟨s.ss, ⟨h6, h7, h8⟩, h9⟩, h10, fun d hd => daB_ok (h11 d hd)⟩
def two : List Row := [⟨"fax", Rat.divInt 1 2, 1, true⟩, ⟨"tel", Rat.divInt 3 4, 0, true⟩]
def six : List Row := [⟨"a", Rat.divInt 999999 10000, 100, true⟩, ⟨"ab", Rat.divInt 999999 10000, 99, true⟩, ⟨"day", Rat.divInt 999999 10000, 98, false⟩, ⟨"ended", Rat.divInt 999999 10000, 97, true⟩, ⟨"line", Rat.divInt 999999 10000, 96, true⟩, ⟨"section", Rat.divInt 999999 10000, 95, true⟩]
def far : List Rat := [0, Rat.divInt 1000 7, 0, Rat.divInt 3000 7, Rat.divInt 4000 7, Rat.divInt 5000 7]
def fixed : List Sheet := [⟨[⟨"a", 0, 0, true⟩], [], []⟩, ⟨two, [["fax", "tel"]], [[Rat.divInt 1 3, Rat.divInt 1 2], [0, Rat.divInt 5 4]]⟩,
  ⟨six, [["a", "ab"], ["a", "ab", "day", "ended"], ["line", "section"]], [far, far, far, far, far, far, far, far, far, far]⟩,
  ⟨[⟨"b", Rat.divInt 7 2, -4, false⟩], [], [[0], [0], [0]]⟩, ⟨two, [], []⟩]
theorem fixed_ok : ∀ s ∈ fixed, OK s := by
  intro s hs
  refine okB_ok ?_
  have : fixed.all okB = true := by decide +kernel
  exact List.all_eq_true.mp this s hs
section
variable {wf n N : Nat} {st tl : Store} {Q : D → Store → Prop}
theorem fixed_ (q : Q (.lst (fixed.map shD)) st) : OF (rn wf (n + 1)) 2 [] st Q := by
  refine .of ?_ q
  show rnP prg wf (n + 1) 2 _ st = _
  rw [run_fn' (f := ⟨7, 0, b2, none, true⟩) rfl rfl rfl]
  kernel_rfl
end
end K06

set_option exponentiation.threshold 5000
namespace K06
open Eng
local macro_rules | `(tactic| exact stepE) => `(tactic| repeat (first
  | refine x_var rfl ?_ | refine x_cons ?_ | refine x_nil ?_ | refine x_int ?_ | refine x_call ?_ | refine x_bin ?_ | refine x_cmp ?_ | refine x_idx ?_ | refine x_tup ?_ | refine x_lst ?_ | refine x_str ?_ | refine x_bl ?_ | refine x_non ?_ | refine x_bor rfl ?_
  | refine x_dget ?_ | refine x_blt ?_ | refine x_neg ?_ | refine x_attr ?_ | refine x_repr ?_ | refine x_callD ?_ | refine x_callT ?_ | refine x_make rfl ?_ | refine x_newc ?_ | refine x_dict ?_ | refine x_isi ?_ | refine x_gco rfl ?_ | refine x_sl ?_ | refine x_not ?_ | refine x_min2 ?_ | refine x_max2 ?_ | refine x_rev ?_ | refine x_repl ?_
  | refine o_add ?_ | refine o_sub ?_ | refine o_negI ?_ | refine o_eqI ?_ | refine o_neI ?_ | refine o_lt ?_ | refine o_le ?_ | refine o_gt ?_ | refine o_ge ?_ | refine o_lenL ?_ | refine o_lenT ?_ | refine o_tupL ?_ | refine o_tupT ?_ | refine o_lstL ?_ | refine o_lstT ?_ | refine o_min ?_ | refine o_rev ?_ | refine o_newc ?_
  | refine x_t ?_ | refine t_bl ?_ | refine i_seq ?_ | refine i_rng ?_ | refine i_enum ?_ | refine sq_l ?_ | refine sq_t ?_ | refine bl_ok ?_ | refine ls_ok ?_ | refine s_forX ?_
  | refine s_set ?_ | refine s_ret ?_ | refine s_unp ?_ | refine s_own ?_ | refine s_app rfl ?_ | (refine s_frz rfl ?_; dsimp only [List.set_cons_succ, List.set_cons_zero]) | refine s_par ?_ | refine s_parN ?_ | refine s_dput ?_ | refine s_ext rfl ?_ | refine s_ex ?_ | refine s_pass ?_ | refine s_end ?_
  | refine f_ret ?_ | refine f_nx ?_
  | (refine len_ok rfl ?_; dsimp only [List.set_cons_succ, List.set_cons_zero])))
/-! ### fresh states -/
theorem sortS_eq {a b : List PySem.Str} (h : a.Perm b) : sortS a = sortS b :=
  List.Perm.eq_of_pairwise (fun a b _ _ h1 h2 => leS_as h1 h2) (Eng.sortS_pw a) (Eng.sortS_pw b) ((Eng.sortS_perm a).trans (h.trans (Eng.sortS_perm b).symm))
def freR (x : PySem.Str) : Row := ⟨x, 0, 0, true⟩
def freD (l : List PySem.Str) : D := .tup ((sortS l).map fun x => rowD (freR x))
theorem freD_rg {l : List PySem.Str} (hl : l.length ≤ 6) (H : ∀ x ∈ l, RG 0 82 (.str x)) : RG 3 20000 (freD l) := by
  refine (RG.tup (h := 2) (k := 3135) (m := 6) (RG.map fun x hx => ?_) (by rw [List.length_map, (Eng.sortS_perm l).length_eq]; exact hl)).le (by decide) (by decide)
  have hx := (Eng.sortS_perm l).mem_iff.mp hx
  refine RG.tup (h := 1) (k := 781) (m := 4) (fun d hd => ?_) (Nat.le_refl _)
  simp only [List.mem_cons, List.not_mem_nil, or_false] at hd
  rcases hd with rfl | rfl | rfl | rfl
  · exact (H x hx).le (by decide) (by decide)
  · exact (rg_fr (show Sz 384 (0 : Rat) from Sz0 383) (by decide)).le (by decide) (by decide)
  · exact (RG.int (m := 60) (i := 0) (by decide) (by decide)).le (by decide) (by decide)
  · exact (RG.bl true).le (by decide) (by decide)
section
variable {T : Tab} {call : Nat → List D → Store → Res D} {wf n N : Nat} {st tl : Store} {Q : D → Store → Prop}
theorem fresh_ {l : List PySem.Str} (hl : l.length < 64) (q : Q (freD l) st) : OF (rn wf (n + 1)) 8 [.tup (l.map .str)] st Q := by
  refine f_call (f := ⟨3, 1, b8, none, false⟩) rfl rfl rfl [some (.v (.tup (l.map .str))), none, none] rfl ?_
  unfold b8
  exact stepE
  refine x_lcV D.str (fun x => rowD (freR x)) (sortS l) ?_ (by rw [(Eng.sortS_perm l).length_eq]; omega) (fun x hx => ⟨_, rfl, ?_⟩) ?_
  · exact stepE
    refine o_sortST (strs_map l) hl ?_
    exact stepE
    exact ⟨rfl, rfl⟩
  · exact stepE
    exact ⟨rfl, rfl⟩
  exact stepE
  exact q
theorem ite_t {c : C} {ρ : Env} {a r : Ss} {W : Fl → Prop} (h : EV T call c ρ st fun d st' => d = .bl true ∧ st = st') (k : SS W T call wf (a.app r) ρ st) : SS W T call wf (.cons (.ite c a .nil) r) ρ st := by
  refine s_ite (x_t (h.mono ?_))
  rintro _ _ ⟨rfl, rfl⟩
  exact t_bl ⟨fun _ => k, fun h => (nomatch h)⟩
theorem freshOf_ {l : List PySem.Str} (h0 : 1 ≤ l.length) (h6 : l.length ≤ 6) (q : Q (freD l) st) : OF (rn wf (n + 2)) 7 [.lst (l.map .str)] st Q := by
  refine f_call (f := ⟨8, 1, b7, none, false⟩) rfl rfl rfl [some (.v (.lst (l.map .str))), none, none, none, none, none, none, none] rfl ?_
  unfold b7
  have ln : ∀ (k : Int) (ρ : Env) (b : Bool), slotV ρ 0 = some (.lst (l.map .str)) → ((l.length : Int) == k) = b → EV prg.tab (rn wf (n + 1)) (.cmp .eq (.blt .len (.var 0)) (.int k)) ρ st fun d st' => d = .bl b ∧ st = st' := by
    intro k ρ b e hb
    refine x_cmp (x_blt (x_var e (o_lenL (x_int (o_eqI ?_)))))
    rw [List.length_map, hb]
    exact ⟨rfl, rfl⟩
  match l, h0, h6, q, ln with
  | [a], _, _, q, ln =>
    refine ite_t (ln _ _ _ rfl rfl) ?_
    unfold Ss.app
    exact stepE
    refine o_idxL at_0 ?_
    exact stepE
    refine fresh_ (l := [a]) (Nat.le_of_ble_eq_true rfl) ?_
    exact stepE
    exact q
  | [a, b], _, _, q, ln =>
    refine ite_false (ln _ _ _ rfl rfl) (ite_t (ln _ _ _ rfl rfl) ?_)
    unfold Ss.app
    exact stepE
    refine o_idxL at_0 ?_
    exact stepE
    refine o_idxL at_1 ?_
    exact stepE
    refine fresh_ (l := [a, b]) (Nat.le_of_ble_eq_true rfl) ?_
    exact stepE
    exact q
  | [a, b, c], _, _, q, ln =>
    refine ite_false (ln _ _ _ rfl rfl) (ite_false (ln _ _ _ rfl rfl) (ite_t (ln _ _ _ rfl rfl) ?_))
    unfold Ss.app
    exact stepE
    refine o_idxL at_0 ?_
    exact stepE
    refine o_idxL at_1 ?_
    exact stepE
    refine o_idxL at_2 ?_
    exact stepE
    refine fresh_ (l := [a, b, c]) (Nat.le_of_ble_eq_true rfl) ?_
    exact stepE
    exact q
  | [a, b, c, d], _, _, q, ln =>
    refine ite_false (ln _ _ _ rfl rfl) (ite_false (ln _ _ _ rfl rfl) (ite_false (ln _ _ _ rfl rfl) (ite_t (ln _ _ _ rfl rfl) ?_)))
    unfold Ss.app
    exact stepE
    refine o_idxL at_0 ?_
    exact stepE
    refine o_idxL at_1 ?_
    exact stepE
    refine o_idxL at_2 ?_
    exact stepE
    refine o_idxL at_3 ?_
    exact stepE
    refine fresh_ (l := [a, b, c, d]) (Nat.le_of_ble_eq_true rfl) ?_
    exact stepE
    exact q
  | [a, b, c, d, e], _, _, q, ln =>
    refine ite_false (ln _ _ _ rfl rfl) (ite_false (ln _ _ _ rfl rfl) (ite_false (ln _ _ _ rfl rfl) (ite_false (ln _ _ _ rfl rfl) (ite_t (ln _ _ _ rfl rfl) ?_))))
    unfold Ss.app
    exact stepE
    refine o_idxL at_0 ?_
    exact stepE
    refine o_idxL at_1 ?_
    exact stepE
    refine o_idxL at_2 ?_
    exact stepE
    refine o_idxL at_3 ?_
    exact stepE
    refine o_idxL (show atD _ 4 = some _ from rfl) ?_
    exact stepE
    refine fresh_ (l := [a, b, c, d, e]) (Nat.le_of_ble_eq_true rfl) ?_
    exact stepE
    exact q
  | [a, b, c, d, e, f], _, _, q, ln =>
    refine ite_false (ln _ _ _ rfl rfl) (ite_false (ln _ _ _ rfl rfl) (ite_false (ln _ _ _ rfl rfl) (ite_false (ln _ _ _ rfl rfl) (ite_false (ln _ _ _ rfl rfl) ?_))))
    exact stepE
    refine ⟨_, _, .inr rfl, rfl, ?_⟩
    dsimp only [List.set_cons_succ, List.set_cons_zero]
    exact stepE
    refine ⟨Nat.le_of_ble_eq_true rfl, ?_⟩
    refine fresh_ (l := [a, b, c, d, e, f]) (Nat.le_of_ble_eq_true rfl) ?_
    exact stepE
    exact q
  | [], h, _, _, _ => exact absurd h (by decide)
  | _ :: _ :: _ :: _ :: _ :: _ :: _ :: _, _, h, _, _ =>
    simp at h
theorem reader_ (ns : List Int) : OF (rn wf (n + 1)) 1 [.lst (ns.map .int)] [] fun d st' => d = .ref 0 ∧ InvT 0 [] st' := by
  have e : cutD (ns.map D.int) none (some 63) = (ns.take 63).map .int := by
    unfold cutD cutAt
    simp only [List.drop_zero, Nat.sub_zero]
    rw [if_neg (by decide), List.map_take, List.length_map]
    rw [show (63 : Int).toNat = 63 from rfl, ← List.length_map (f := D.int), List.take_eq_take_min]
    simp only [List.length_map]
    rw [Nat.min_comm 63, List.take_eq_take_iff]
    simp
    exact Nat.min_comm ..
  refine f_call (f := ⟨1, 1, b1, none, false⟩) rfl rfl rfl [some (.v (.lst (ns.map .int)))] rfl ?_
  unfold b1
  exact stepE
  refine .of (d := .lst ((ns.take 63).map .int)) (st1 := []) (by simp [slD, C.isNon, bndD, e]) ?_
  exact stepE
  refine .of (d := .ref 0) (st1 := [rdr ((ns.take 63).map .int) 0 0 0]) rfl ?_
  exact stepE
  exact ⟨rfl, ns.take 63, 0, 0, 0, rfl, by decide, by decide⟩
abbrev wantD : D := freD ["zz", "a", "m"]
theorem want_rg : RG 3 20000 wantD := freD_rg (by decide) fun x hx => by
  simp only [List.mem_cons, List.not_mem_nil, or_false] at hx
  rcases hx with rfl | rfl | rfl
  all_goals exact RG.str (m := 8) (by decide +kernel) (by decide +kernel) (okS_iff.mp (by decide +kernel))
theorem want_is : wantD = .tup [.tup [.str "a", .tup [.int 0, .int 1], .int 0, .bl true], .tup [.str "m", .tup [.int 0, .int 1], .int 0, .bl true], .tup [.str "zz", .tup [.int 0, .int 1], .int 0, .bl true]] := by
  unfold wantD freD
  rw [show sortS ["zz", "a", "m"] = (["a", "m", "zz"] : List PySem.Str) by decide +kernel]
  rfl
theorem told' (hwf : 2 ^ 4096 ≤ wf) (ns : List Int) : OF (rn wf (n + 8)) 0 [.lst (ns.map .int)] [] fun d _ => d = .bl true := by
  refine f_call (f := ⟨11, 1, b0, none, false⟩) rfl rfl rfl [some (.v (.lst (ns.map .int))), none, none, none, none, none, none, none, none, none, none] rfl ?_
  unfold b0
  exact stepE
  refine (reader_ ns).mono ?_
  rintro _ st0 ⟨rfl, I0⟩
  exact stepE
  refine fixed_ ?_
  exact stepE
  refine ⟨8, rfl, by decide, ?_⟩
  refine fr_map (fun i : Nat => D.int (i : Nat)) (fun j ρ st => ∃ (l : List Sheet) (x3 : Option Slot) (tl : Store), ρ = [some (.v (.lst (ns.map .int))), some (.v (.ref 0)), some (.own (l.map shD)), x3, none, none, none, none, none, none, none] ∧ InvT (400 * j) tl st ∧ l.length = 5 + j ∧ ∀ s ∈ l, OK s) ⟨fixed, none, [], rfl, I0, rfl, fixed_ok⟩ ?_ ?_
  · rintro j i hj _ st ⟨l, x3, tl, rfl, I, hl, ho⟩
    have hj2 := ltl hj
    rw [List.length_range] at hj2
    refine ⟨_, rfl, ?_⟩
    exact stepE
    refine (sheet_ hwf I (by omega)).mono ?_
    rintro _ st1 ⟨s, rfl, o, tl', I1⟩
    exact stepE
    refine ⟨by rw [List.length_map]; omega, ?_⟩
    exact stepE
    refine ⟨l ++ [s], _, tl', by rw [List.map_append]; rfl, I1.le (by omega), by rw [List.length_append]; simp; omega, fun x hx => ?_⟩
    rcases List.mem_append.mp hx with h | h
    · exact ho x h
    · rw [List.mem_singleton.mp h]; exact o
  rintro _ st ⟨l, x3, tl, rfl, I, hl, ho⟩
  rw [List.length_range] at I hl
  exact stepE
  refine fr_map shD (fun j ρ st => ∃ (x4 : Option Slot), ρ = [some (.v (.lst (ns.map .int))), some (.v (.ref 0)), some (.v (.lst (l.map shD))), x3, x4, none, none, none, none, none, none] ∧ InvT (400 * 8 + 200 * j) tl st) ⟨none, rfl, I⟩ ?_ ?_
  · rintro j s hj _ st ⟨x4, rfl, I⟩
    have hj2 := ltl hj
    refine ⟨_, rfl, ?_⟩
    refine s_ite ?_
    exact stepE
    refine (check_ hwf I (by omega) (ho s (List.mem_of_getElem? hj))).mono ?_
    rintro _ st1 ⟨rfl, I1⟩
    exact stepE
    refine ⟨fun h => (nomatch h), fun _ => ?_⟩
    unfold Ss.app
    exact stepE
    exact ⟨_, rfl, I1⟩
  rintro _ st ⟨x4, rfl, I⟩
  rw [hl] at I
  exact stepE
  refine fr_map (f := fun k : Nat => D.int (k : Int)) (as := [1, 2, 3, 4, 5, 6]) (fun j ρ st => ∃ (x3 x5 x6 x7 x8 : Option Slot) (tl : Store), ρ = [some (.v (.lst (ns.map .int))), some (.v (.ref 0)), some (.v (.lst (l.map shD))), x3, x4, x5, x6, x7, x8, none, none] ∧ InvT (6000 + 12 * j) tl st) ⟨x3, none, none, none, none, tl, rfl, I.le (by omega)⟩ ?_ ?_
  · rintro j m hj _ st ⟨x3, x5, x6, x7, x8, tl, rfl, I⟩
    have hj2 := ltl hj
    have hm := List.mem_of_getElem? hj
    have hm1 : 1 ≤ m ∧ m ≤ 6 := by
      simp only [List.mem_cons, List.not_mem_nil, or_false] at hm
      omega
    simp only [List.length_cons, List.length_nil] at hj2
    refine ⟨_, rfl, ?_⟩
    exact stepE
    refine (heads_ I (by omega) (m := m) (by omega)).mono ?_
    rintro _ st1 ⟨hs, rfl, hsl, hso, tl1, I1⟩
    exact stepE
    obtain ⟨I2, hln⟩ := I1.new (xs := (sortS hs).map .str)
    rw [hln]
    refine ⟨_, rfl, ?_⟩
    dsimp only [List.set_cons_succ, List.set_cons_zero]
    exact stepE
    refine ⟨m, rfl, by omega, ?_⟩
    refine fr_map (fun i : Nat => D.int (i : Nat)) (fun i ρ st => ∃ (found rest : List PySem.Str) (x3 : Option Slot), ρ = [some (.v (.lst (ns.map .int))), some (.v (.ref 0)), some (.v (.lst (l.map shD))), x3, x4, some (.v (.int (m : Nat))), x6, some (.own (found.map .str)), some (.v (.ref (tl1.length + 1))), none, none] ∧ InvT (6000 + 12 * j + m + i) (tl1 ++ [.lk (rest.map .str)]) st ∧ Popped (sortS hs) found rest i) ⟨[], sortS hs, x3, rfl, I2, ⟨.refl _, rfl⟩⟩ ?_ ?_
    · rintro i k hi _ st ⟨found, rest, x3, rfl, I, P⟩
      have hi2 := ltl hi
      rw [List.length_range] at hi2
      have hrl : rest.length = m - i := by
        have := P.p.length_eq
        rw [List.length_append, P.l, (Eng.sortS_perm hs).length_eq, hsl] at this
        omega
      refine ⟨_, rfl, ?_⟩
      exact stepE
      refine x_popc ?_
      exact stepE
      refine ⟨?_, ?_⟩
      · show (getL st (tl1.length + 1)).isSome = true
        rw [I.getL]; rfl
      exact stepE
      refine o_lenR I.getL ?_
      rw [List.length_map]
      exact stepE
      refine (draw_ I (by omega) (m := (rest.length : Int)) (by omega) (by omega)).mono ?_
      rintro _ st1 ⟨y, rfl, h0, h1, I1⟩
      have hy : y.toNat < rest.length := by omega
      refine o_popc I1.getL h0 (d := .str rest[y.toNat]) (by rw [List.getElem?_map, List.getElem?_eq_getElem hy]; rfl) (by rw [List.length_map]; omega) ?_
      refine ⟨by rw [List.length_map, P.l]; omega, ?_⟩
      exact stepE
      refine ⟨found ++ [rest[y.toNat]], rest.eraseIdx y.toNat, some (.v (.int k)), by simp, ?_, P.next (List.getElem?_eq_getElem hy)⟩
      rw [map_erase]
      exact I1.set
    rintro _ st ⟨found, rest, x3, rfl, I, P⟩
    rw [List.length_range] at I P
    have hrest : rest = [] := by
      have := P.p.length_eq
      rw [List.length_append, P.l, (Eng.sortS_perm hs).length_eq, hsl] at this
      exact List.length_eq_zero_iff.mp (by omega)
    subst hrest
    have hfp : found.Perm hs := by
      have := P.p
      rw [List.append_nil] at this
      exact this.trans (Eng.sortS_perm hs)
    have hfl := P.l
    have g : RG 3 20000 (freD found) := freD_rg (by omega) fun x hx => pool_rg x (hso.mem x (hfp.mem_iff.mp hx))
    exact stepE
    refine x_lcV D.str (fun x => rowD (freR x)) (sortS found) ?_ (by rw [(Eng.sortS_perm found).length_eq]; omega) (fun x hx => ⟨_, rfl, ?_⟩) ?_
    · exact stepE
      refine o_sortS (strs_map found) (by omega) ?_
      exact stepE
      exact ⟨rfl, rfl⟩
    · exact stepE
      exact ⟨rfl, rfl⟩
    exact stepE
    refine ite_false ?_ ?_
    · refine x_or ?_
      exact stepE
      refine freshOf_ (by omega) (by omega) ?_
      refine o_repr g rfl (by decide) (by decide) ?_
      exact stepE
      refine o_repr (x := freD found) g rfl (by decide) (by decide) ?_
      refine o_neSame g ?_
      refine ⟨_, rfl, fun _ => x_or1 ?_, fun h => (nomatch h)⟩
      exact stepE
      rw [← List.map_reverse]
      refine freshOf_ (by rw [List.length_reverse]; omega) (by rw [List.length_reverse]; omega) ?_
      have er : freD found.reverse = freD found := by
        unfold freD
        rw [sortS_eq (List.reverse_perm found)]
      rw [er]
      refine o_repr g rfl (by decide) (by decide) ?_
      exact stepE
      refine o_repr (x := freD found) g rfl (by decide) (by decide) ?_
      refine o_neSame g ?_
      exact ⟨rfl, rfl⟩
    · exact stepE
      exact ⟨_, _, _, _, _, _, rfl, I.le (by omega)⟩
  rintro _ st ⟨x3, x5, x6, x7, x8, tl, rfl, I⟩
  exact stepE
  refine ⟨by decide, ?_⟩
  refine fresh_ (l := ["zz", "a", "m"]) (by decide) ?_
  refine o_repr want_rg rfl (by decide) (by decide) ?_
  exact stepE
  rw [← want_is]
  refine o_repr want_rg rfl (by decide) (by decide) ?_
  refine .of (cmp_eqS _ _ (shown_ok want_rg) st) ?_
  exact stepE
  rfl
end
theorem told (ns : List Int) (h : ns.length ≤ 63) : ∃ st', run prg.tab prg.fn (2 ^ 4096) 20 0 [.lst (ns.map .int)] [] = .ok (.bl true) st' := by
  obtain ⟨d, st, e, rfl⟩ := (told' (wf := 2 ^ 4096) (n := 12) (Nat.le_refl _) ns).is
  exact ⟨st, e⟩
end K06

namespace K06
open PySem PySem.Spec PyProof.Rows L2 Eng
abbrev LawR : PySem.W.OpenLaw := PySem.Challenge.rw_centbook_k06_states_and_parts
def top (i : Nat) : Stmt := PySem.Challenge.pw_centbook_k06_states_and_parts.main.body.getD i (.Pass ⟨0, 0, 0, 0⟩)
def sub (s : Stmt) (i : Nat) : Stmt := match s with
  | .ClassDef _ _ _ b _ _ _ _ _ _ _ => b.getD i (.Pass ⟨0, 0, 0, 0⟩)
  | _ => s
def d0 : Df := ⟨.glo "law", "law", "law", top 50, []⟩
def d1 : Df := ⟨.glo "_law_reader", "_law_reader", "_law_reader", top 32, []⟩
def d2 : Df := ⟨.glo "_law_fixed_sheets", "_law_fixed_sheets", "_law_fixed_sheets", top 45, []⟩
def d3 : Df := ⟨.glo "_law_random_sheet", "_law_random_sheet", "_law_random_sheet", top 44, []⟩
def d4 : Df := ⟨.glo "_law_check_sheet", "_law_check_sheet", "_law_check_sheet", top 49, []⟩
def d5 : Df := ⟨.glo "_law_heads", "_law_heads", "_law_heads", top 40, []⟩
def d6 : Df := ⟨.glo "_law_draw", "_law_draw", "_law_draw", top 33, []⟩
def d7 : Df := ⟨.glo "_law_fresh_of", "_law_fresh_of", "_law_fresh_of", top 48, []⟩
def d8 : Df := ⟨.glo "fresh", "fresh", "fresh", top 27, []⟩
def d9 : Df := ⟨.glo "_law_random_state", "_law_random_state", "_law_random_state", top 41, []⟩
def d10 : Df := ⟨.glo "_law_random_sections", "_law_random_sections", "_law_random_sections", top 42, []⟩
def d11 : Df := ⟨.glo "_law_random_days", "_law_random_days", "_law_random_days", top 43, []⟩
def d12 : Df := ⟨.glo "_law_random_booking", "_law_random_booking", "_law_random_booking", top 46, []⟩
def d13 : Df := ⟨.glo "_law_after", "_law_after", "_law_after", top 47, []⟩
def d14 : Df := ⟨.glo "state_after", "state_after", "state_after", top 29, []⟩
def d15 : Df := ⟨.glo "part", "part", "part", top 30, []⟩
def d16 : Df := ⟨.mt "Amount" "__init__", "__init__", "Amount.__init__", sub (top 24) 1, [(.int 1)]⟩
def d17 : Df := ⟨.mt "Amount" "__add__", "__add__", "Amount.__add__", sub (top 24) 7, []⟩
def d18 : Df := ⟨.mt "Amount" "__radd__", "__radd__", "Amount.__radd__", sub (top 24) 8, []⟩
def d19 : Df := ⟨.mt "Amount" "__sub__", "__sub__", "Amount.__sub__", sub (top 24) 9, []⟩
def d20 : Df := ⟨.mt "Amount" "__rsub__", "__rsub__", "Amount.__rsub__", sub (top 24) 10, []⟩
def d21 : Df := ⟨.mt "Amount" "__mul__", "__mul__", "Amount.__mul__", sub (top 24) 11, []⟩
def d22 : Df := ⟨.mt "Amount" "__rmul__", "__rmul__", "Amount.__rmul__", sub (top 24) 12, []⟩
def d23 : Df := ⟨.mt "Amount" "__neg__", "__neg__", "Amount.__neg__", sub (top 24) 13, []⟩
def d24 : Df := ⟨.mt "Amount" "__abs__", "__abs__", "Amount.__abs__", sub (top 24) 14, []⟩
def d25 : Df := ⟨.mt "Amount" "__bool__", "__bool__", "Amount.__bool__", sub (top 24) 15, []⟩
def d26 : Df := ⟨.mt "Amount" "__eq__", "__eq__", "Amount.__eq__", sub (top 24) 16, []⟩
def d27 : Df := ⟨.glo "_law_some_ratio", "_law_some_ratio", "_law_some_ratio", top 38, []⟩
def d28 : Df := ⟨.glo "_law_floor", "_law_floor", "_law_floor", top 37, []⟩
def d29 : Df := ⟨.glo "_law_crosses", "_law_crosses", "_law_crosses", top 39, []⟩
def d30 : Df := ⟨.glo "_law_add", "_law_add", "_law_add", top 36, []⟩
def d31 : Df := ⟨.glo "exact_after", "exact_after", "exact_after", top 28, []⟩
def d32 : Df := ⟨.glo "is_integer", "is_integer", "is_integer", top 8, []⟩
def d33 : Df := ⟨.glo "common_divisor", "common_divisor", "common_divisor", top 9, []⟩
def d34 : Df := ⟨.glo "as_amount", "as_amount", "as_amount", top 25, []⟩
def d35 : Df := ⟨.pr "Amount" "pair", "pair", "Amount.pair", sub (top 24) 3, []⟩
def d36 : Df := ⟨.glo "_law_lowest", "_law_lowest", "_law_lowest", top 35, []⟩
def d37 : Df := ⟨.glo "_law_divisor", "_law_divisor", "_law_divisor", top 34, []⟩
def dfs : List Df := [d0, d1, d2, d3, d4, d5, d6, d7, d8, d9, d10, d11, d12, d13, d14, d15, d16, d17, d18, d19, d20, d21, d22, d23, d24, d25, d26, d27, d28, d29, d30, d31, d32, d33, d34, d35, d36, d37]
theorem k0 : DefOK prg f0 d0 := ⟨⟨rfl, rfl, rfl, by decide +kernel, rfl, by decide +kernel, by decide +kernel⟩, by decide +kernel, .plain rfl fun _ _ _ _ _ _ us hl => match us, hl with | [_], _ => rfl, by decide +kernel, (fun h => nomatch h)⟩
theorem k1 : DefOK prg f1 d1 := ⟨⟨rfl, rfl, rfl, by decide +kernel, rfl, by decide +kernel, by decide +kernel⟩, by decide +kernel, .plain rfl fun _ _ _ _ _ _ us hl => match us, hl with | [_], _ => rfl, by decide +kernel, (fun h => nomatch h)⟩
theorem k2 : DefOK prg f2 d2 := ⟨⟨rfl, rfl, rfl, by decide +kernel, rfl, by decide +kernel, by decide +kernel⟩, by decide +kernel, .plain rfl fun _ _ _ _ _ _ us hl => match us, hl with | [], _ => rfl, by decide +kernel, (fun h => nomatch h)⟩
theorem k3 : DefOK prg f3 d3 := ⟨⟨rfl, rfl, rfl, by decide +kernel, rfl, by decide +kernel, by decide +kernel⟩, by decide +kernel, .plain rfl fun _ _ _ _ _ _ us hl => match us, hl with | [_, _, _], _ => rfl, by decide +kernel, (fun h => nomatch h)⟩
theorem k4 : DefOK prg f4 d4 := ⟨⟨rfl, rfl, rfl, by decide +kernel, rfl, by decide +kernel, by decide +kernel⟩, by decide +kernel, .plain rfl fun _ _ _ _ _ _ us hl => match us, hl with | [_, _], _ => rfl, by decide +kernel, (fun h => nomatch h)⟩
theorem k5 : DefOK prg f5 d5 := ⟨⟨rfl, rfl, rfl, by decide +kernel, rfl, by decide +kernel, by decide +kernel⟩, by decide +kernel, .plain rfl fun _ _ _ _ _ _ us hl => match us, hl with | [_, _], _ => rfl, by decide +kernel, (fun h => nomatch h)⟩
theorem k6 : DefOK prg f6 d6 := ⟨⟨rfl, rfl, rfl, by decide +kernel, rfl, by decide +kernel, by decide +kernel⟩, by decide +kernel, .plain rfl fun _ _ _ _ _ _ us hl => match us, hl with | [_, _], _ => rfl, by decide +kernel, (fun h => nomatch h)⟩
theorem k7 : DefOK prg f7 d7 := ⟨⟨rfl, rfl, rfl, by decide +kernel, rfl, by decide +kernel, by decide +kernel⟩, by decide +kernel, .plain rfl fun _ _ _ _ _ _ us hl => match us, hl with | [_], _ => rfl, by decide +kernel, (fun h => nomatch h)⟩
theorem k8 : DefOK prg f8 d8 := ⟨⟨rfl, rfl, rfl, by decide +kernel, rfl, by decide +kernel, by decide +kernel⟩, by decide +kernel, .star rfl _ rfl fun _ _ _ _ _ _ rest => match rest with | [] => rfl | _ :: _ => rfl, by decide +kernel, (fun h => nomatch h)⟩
theorem k9 : DefOK prg f9 d9 := ⟨⟨rfl, rfl, rfl, by decide +kernel, rfl, by decide +kernel, by decide +kernel⟩, by decide +kernel, .plain rfl fun _ _ _ _ _ _ us hl => match us, hl with | [_, _], _ => rfl, by decide +kernel, (fun h => nomatch h)⟩
theorem k10 : DefOK prg f10 d10 := ⟨⟨rfl, rfl, rfl, by decide +kernel, rfl, by decide +kernel, by decide +kernel⟩, by decide +kernel, .plain rfl fun _ _ _ _ _ _ us hl => match us, hl with | [_, _, _], _ => rfl, by decide +kernel, (fun h => nomatch h)⟩
theorem k11 : DefOK prg f11 d11 := ⟨⟨rfl, rfl, rfl, by decide +kernel, rfl, by decide +kernel, by decide +kernel⟩, by decide +kernel, .plain rfl fun _ _ _ _ _ _ us hl => match us, hl with | [_, _, _], _ => rfl, by decide +kernel, (fun h => nomatch h)⟩
theorem k12 : DefOK prg f12 d12 := ⟨⟨rfl, rfl, rfl, by decide +kernel, rfl, by decide +kernel, by decide +kernel⟩, by decide +kernel, .plain rfl fun _ _ _ _ _ _ us hl => match us, hl with | [_, _], _ => rfl, by decide +kernel, (fun h => nomatch h)⟩
theorem k13 : DefOK prg f13 d13 := ⟨⟨rfl, rfl, rfl, by decide +kernel, rfl, by decide +kernel, by decide +kernel⟩, by decide +kernel, .plain rfl fun _ _ _ _ _ _ us hl => match us, hl with | [_, _], _ => rfl, by decide +kernel, (fun h => nomatch h)⟩
theorem k14 : DefOK prg f14 d14 := ⟨⟨rfl, rfl, rfl, by decide +kernel, rfl, by decide +kernel, by decide +kernel⟩, by decide +kernel, .plain rfl fun _ _ _ _ _ _ us hl => match us, hl with | [_, _], _ => rfl, by decide +kernel, (fun h => nomatch h)⟩
theorem k15 : DefOK prg f15 d15 := ⟨⟨rfl, rfl, rfl, by decide +kernel, rfl, by decide +kernel, by decide +kernel⟩, by decide +kernel, .plain rfl fun _ _ _ _ _ _ us hl => match us, hl with | [_, _, _], _ => rfl, by decide +kernel, (fun h => nomatch h)⟩
theorem k16 : DefOK prg f16 d16 := ⟨⟨rfl, rfl, rfl, by decide +kernel, rfl, by decide +kernel, by decide +kernel⟩, by decide +kernel, .dfl (by decide) (by decide) (fun _ _ _ _ _ _ _ us its h1 h2 => match us, its, h1, h2 with | [_, _, _], [_], _, _ => ⟨_, rfl, rfl⟩) (fun _ _ _ _ _ _ _ us its h1 h2 => match us, its, h1, h2 with | [_, _], [_], _, _ => ⟨_, rfl, rfl⟩), by decide +kernel, (fun h => nomatch h)⟩
theorem k17 : DefOK prg f17 d17 := ⟨⟨rfl, rfl, rfl, by decide +kernel, rfl, by decide +kernel, by decide +kernel⟩, by decide +kernel, .plain rfl fun _ _ _ _ _ _ us hl => match us, hl with | [_, _], _ => rfl, by decide +kernel, (fun h => nomatch h)⟩
theorem k18 : DefOK prg f18 d18 := ⟨⟨rfl, rfl, rfl, by decide +kernel, rfl, by decide +kernel, by decide +kernel⟩, by decide +kernel, .plain rfl fun _ _ _ _ _ _ us hl => match us, hl with | [_, _], _ => rfl, by decide +kernel, (fun h => nomatch h)⟩
theorem k19 : DefOK prg f19 d19 := ⟨⟨rfl, rfl, rfl, by decide +kernel, rfl, by decide +kernel, by decide +kernel⟩, by decide +kernel, .plain rfl fun _ _ _ _ _ _ us hl => match us, hl with | [_, _], _ => rfl, by decide +kernel, (fun h => nomatch h)⟩
theorem k20 : DefOK prg f20 d20 := ⟨⟨rfl, rfl, rfl, by decide +kernel, rfl, by decide +kernel, by decide +kernel⟩, by decide +kernel, .plain rfl fun _ _ _ _ _ _ us hl => match us, hl with | [_, _], _ => rfl, by decide +kernel, (fun h => nomatch h)⟩
theorem k21 : DefOK prg f21 d21 := ⟨⟨rfl, rfl, rfl, by decide +kernel, rfl, by decide +kernel, by decide +kernel⟩, by decide +kernel, .plain rfl fun _ _ _ _ _ _ us hl => match us, hl with | [_, _], _ => rfl, by decide +kernel, (fun h => nomatch h)⟩
theorem k22 : DefOK prg f22 d22 := ⟨⟨rfl, rfl, rfl, by decide +kernel, rfl, by decide +kernel, by decide +kernel⟩, by decide +kernel, .plain rfl fun _ _ _ _ _ _ us hl => match us, hl with | [_, _], _ => rfl, by decide +kernel, (fun h => nomatch h)⟩
theorem k23 : DefOK prg f23 d23 := ⟨⟨rfl, rfl, rfl, by decide +kernel, rfl, by decide +kernel, by decide +kernel⟩, by decide +kernel, .plain rfl fun _ _ _ _ _ _ us hl => match us, hl with | [_], _ => rfl, by decide +kernel, (fun h => nomatch h)⟩
theorem k24 : DefOK prg f24 d24 := ⟨⟨rfl, rfl, rfl, by decide +kernel, rfl, by decide +kernel, by decide +kernel⟩, by decide +kernel, .plain rfl fun _ _ _ _ _ _ us hl => match us, hl with | [_], _ => rfl, by decide +kernel, (fun h => nomatch h)⟩
theorem k25 : DefOK prg f25 d25 := ⟨⟨rfl, rfl, rfl, by decide +kernel, rfl, by decide +kernel, by decide +kernel⟩, by decide +kernel, .plain rfl fun _ _ _ _ _ _ us hl => match us, hl with | [_], _ => rfl, by decide +kernel, (fun h => nomatch h)⟩
theorem k26 : DefOK prg f26 d26 := ⟨⟨rfl, rfl, rfl, by decide +kernel, rfl, by decide +kernel, by decide +kernel⟩, by decide +kernel, .plain rfl fun _ _ _ _ _ _ us hl => match us, hl with | [_, _], _ => rfl, by decide +kernel, (fun h => nomatch h)⟩
theorem k27 : DefOK prg f27 d27 := ⟨⟨rfl, rfl, rfl, by decide +kernel, rfl, by decide +kernel, by decide +kernel⟩, by decide +kernel, .plain rfl fun _ _ _ _ _ _ us hl => match us, hl with | [_, _], _ => rfl, by decide +kernel, (fun h => nomatch h)⟩
theorem k28 : DefOK prg f28 d28 := ⟨⟨rfl, rfl, rfl, by decide +kernel, rfl, by decide +kernel, by decide +kernel⟩, by decide +kernel, .plain rfl fun _ _ _ _ _ _ us hl => match us, hl with | [_], _ => rfl, by decide +kernel, (fun h => nomatch h)⟩
theorem k29 : DefOK prg f29 d29 := ⟨⟨rfl, rfl, rfl, by decide +kernel, rfl, by decide +kernel, by decide +kernel⟩, by decide +kernel, .plain rfl fun _ _ _ _ _ _ us hl => match us, hl with | [_, _], _ => rfl, by decide +kernel, (fun h => nomatch h)⟩
theorem k30 : DefOK prg f30 d30 := ⟨⟨rfl, rfl, rfl, by decide +kernel, rfl, by decide +kernel, by decide +kernel⟩, by decide +kernel, .plain rfl fun _ _ _ _ _ _ us hl => match us, hl with | [_, _], _ => rfl, by decide +kernel, (fun h => nomatch h)⟩
theorem k31 : DefOK prg f31 d31 := ⟨⟨rfl, rfl, rfl, by decide +kernel, rfl, by decide +kernel, by decide +kernel⟩, by decide +kernel, .plain rfl fun _ _ _ _ _ _ us hl => match us, hl with | [_, _], _ => rfl, by decide +kernel, (fun h => nomatch h)⟩
theorem k32 : DefOK prg f32 d32 := ⟨⟨rfl, rfl, rfl, by decide +kernel, rfl, by decide +kernel, by decide +kernel⟩, by decide +kernel, .plain rfl fun _ _ _ _ _ _ us hl => match us, hl with | [_], _ => rfl, by decide +kernel, (fun h => nomatch h)⟩
theorem k33 : DefOK prg f33 d33 := ⟨⟨rfl, rfl, rfl, by decide +kernel, rfl, by decide +kernel, by decide +kernel⟩, by decide +kernel, .plain rfl fun _ _ _ _ _ _ us hl => match us, hl with | [_, _], _ => rfl, by decide +kernel, (fun h => nomatch h)⟩
theorem k34 : DefOK prg f34 d34 := ⟨⟨rfl, rfl, rfl, by decide +kernel, rfl, by decide +kernel, by decide +kernel⟩, by decide +kernel, .plain rfl fun _ _ _ _ _ _ us hl => match us, hl with | [_], _ => rfl, by decide +kernel, (fun h => nomatch h)⟩
theorem k35 : DefOK prg f35 d35 := ⟨⟨rfl, rfl, rfl, by decide +kernel, rfl, by decide +kernel, by decide +kernel⟩, by decide +kernel, .plain rfl fun _ _ _ _ _ _ us hl => match us, hl with | [_], _ => rfl, by decide +kernel, (fun h => nomatch h)⟩
theorem k36 : DefOK prg f36 d36 := ⟨⟨rfl, rfl, rfl, by decide +kernel, rfl, by decide +kernel, by decide +kernel⟩, by decide +kernel, .plain rfl fun _ _ _ _ _ _ us hl => match us, hl with | [_, _], _ => rfl, by decide +kernel, (fun h => nomatch h)⟩
theorem k37 : DefOK prg f37 d37 := ⟨⟨rfl, rfl, rfl, by decide +kernel, rfl, by decide +kernel, by decide +kernel⟩, by decide +kernel, .plain rfl fun _ _ _ _ _ _ us hl => match us, hl with | [_, _], _ => rfl, by decide +kernel, (fun h => nomatch h)⟩
theorem allOK : All2 (DefOK prg) prg.fns dfs := .cons k0 (.cons k1 (.cons k2 (.cons k3 (.cons k4 (.cons k5 (.cons k6 (.cons k7 (.cons k8 (.cons k9 (.cons k10 (.cons k11 (.cons k12 (.cons k13 (.cons k14 (.cons k15 (.cons k16 (.cons k17 (.cons k18 (.cons k19 (.cons k20 (.cons k21 (.cons k22 (.cons k23 (.cons k24 (.cons k25 (.cons k26 (.cons k27 (.cons k28 (.cons k29 (.cons k30 (.cons k31 (.cons k32 (.cons k33 (.cons k34 (.cons k35 (.cons k36 (.cons k37 (.nil))))))))))))))))))))))))))))))))))))))
theorem chkPs : chkP prg (dfs.map Df.p) = true := by decide +kernel
def loose : List PySem.Str := (["_wall", "CentError", "BookError", "TextError", "InvalidAmount", "InvalidText", "is_integer", "common_divisor"] : List PySem.Str) ++ (["is_row", "is_fraction", "DIGITS", "MOST_DIGITS", "number_or_none", "integer_or_none", "fraction_or_none", "fraction_read"] : List PySem.Str) ++ (["PIECE_DIGITS", "integer_text", "fraction_text", "Amount", "as_amount", "fresh", "exact_after", "state_after"] : List PySem.Str) ++ (["part", "_law_reader", "_law_draw", "_law_divisor", "_law_lowest", "_law_add", "_law_floor", "_law_some_ratio"] : List PySem.Str) ++ (["_law_crosses", "_law_heads", "_law_random_state", "_law_random_sections", "_law_random_days", "_law_random_sheet", "_law_fixed_sheets", "_law_random_booking"] : List PySem.Str) ++ (["_law_after", "_law_fresh_of", "_law_check_sheet"] : List PySem.Str)
def lawI : Nat := 50

abbrev R : PySem.W.OpenRow := PySem.W.OpenLaw.row LawR
end K06

namespace K06
open PySem PySem.Spec PyProof.Rows L2 Eng
def asL : List Addr := ([3, 6, 4, 21, 31, 44, 56, 77, 98, 107, 114, 119, 126, 131, 138, 145] : List Addr) ++ ([152, 159, 166, 303, 314, 319, 326, 331, 338, 345, 352, 359, 366, 373, 380, 387] : List Addr) ++ ([392, 399, 406, 411, 418, 423, 428, 433, 440, 447, 452, 457, 0, 20, 30, 43] : List Addr) ++ ([55, 76, 97, 106, 113, 118, 125, 130, 137, 144, 151, 158, 165, 302, 313, 318] : List Addr) ++ ([325, 330, 337, 344, 351, 358, 365, 372, 379, 386, 391, 398, 405, 410, 417, 422] : List Addr) ++ ([427, 432, 439, 446, 451, 456, 15, 16, 17, 18, 19, 29, 32, 42, 54, 74] : List Addr) ++ ([75, 95, 96, 101, 102, 103, 104, 105, 108, 109, 110, 111, 112, 115, 116, 117] : List Addr) ++ ([120, 121, 122, 123, 124, 127, 128, 129, 132, 133, 134, 135, 136, 139, 140, 141] : List Addr) ++ ([142, 143, 146, 147, 148, 149, 150, 153, 154, 155, 156, 157, 160, 161, 162, 163] : List Addr) ++ ([164, 174, 182, 191, 200, 208, 216, 223, 230, 237, 244, 251, 258, 265, 272, 279] : List Addr) ++ ([286, 293, 300, 301, 304, 305, 308, 309, 310, 311, 312, 315, 316, 317, 320, 321] : List Addr) ++ ([322, 323, 324, 327, 328, 329, 332, 333, 334, 335, 336, 339, 340, 341, 342, 343] : List Addr) ++ ([346, 347, 348, 349, 350, 353, 354, 355, 356, 357, 360, 361, 362, 363, 364, 367] : List Addr) ++ ([368, 369, 370, 371, 374, 375, 376, 377, 378, 381, 382, 383, 384, 385, 388, 389] : List Addr) ++ ([390, 393, 394, 395, 396, 397, 400, 401, 402, 403, 404, 407, 408, 409, 412, 413] : List Addr) ++ ([414, 415, 416, 419, 420, 421, 424, 425, 426, 429, 430, 431, 434, 435, 436, 437] : List Addr) ++ ([438, 441, 442, 443, 444, 445, 448, 449, 450, 453, 454, 455, 73, 62, 94, 83] : List Addr) ++ ([181, 175, 189, 190, 199, 207, 215, 222, 229, 236, 243, 250, 257, 264, 271, 278] : List Addr) ++ ([285, 292, 299, 68, 69, 70, 71, 72, 89, 90, 91, 92, 93, 176, 177, 178] : List Addr) ++ ([179, 180, 188, 192, 198, 206, 214, 217, 218, 219, 220, 221, 224, 225, 226, 227] : List Addr) ++ ([228, 231, 232, 233, 234, 235, 238, 239, 240, 241, 242, 245, 246, 247, 248, 249] : List Addr) ++ ([252, 253, 254, 255, 256, 259, 260, 261, 262, 263, 266, 267, 268, 269, 270, 273] : List Addr) ++ ([274, 275, 276, 277, 280, 281, 282, 283, 284, 287, 288, 289, 290, 291, 294, 295] : List Addr) ++ ([296, 297, 298, 2, 174] : List Addr)
abbrev hk : PySem.W.Hook := hookZ asL (exB prg (dfs.map Df.p)) (dfs.map Df.toA)
def ob (s : PySem.W.SharedT) : AlZ := obsZ asL (exB prg (dfs.map Df.p)) (dfs.map Df.toA) (HandSHeadRun.getT s)
theorem ob_eq (s : PySem.W.SharedT) : ob s = hk.obs s.abs := obsZ_eq (HandSHeadRun.getT_eq s)
theorem runs (w : World) : HandSHeadRun.RunEq R (PySem.W.view R.prog [50]) hk ob 16000 loose w := by
  intro os
  kernel_rfl
end K06

open PySem PySem.W PySem.Calls PyProof.Rows Eng in
theorem PySem.Challenge.cw_centbook_k06_states_and_parts_holds : PySem.Challenge.rw_centbook_k06_states_and_parts.Holds := by
  w_on; o_law
  refine HandSHeadRun.head_any (r := K06.R) (q := view K06.R.prog [50]) (H := K06.hk) (ob := K06.ob) (M := 16000) (loose := K06.loose) (d := HandSHeadRun.topDef K06.R.prog 50) (kwd := []) K06.ob_eq
    (by kernel_rfl) (fun s => by kernel_rfl) K06.runs (by kernel_rfl) (by kernel_rfl) (by kernel_rfl) (by rfl) (by first | assumption | decide +kernel) (by decide +kernel) ⟨rfl, rfl, rfl, rfl, rfl, by decide +kernel⟩ ?hw ?hc
  case hw => w_witness2
  case hc =>
    refine walkG (l := K06.LawR) (n := 63) (k := 4 * 20) (x := "_law_script") (CX := L2.CX0) rfl (by decide) (by kernel_rfl) ⟨rfl, by decide, by decide⟩ ?F (fun _ _ _ _ z => z)
    intro w mg fa h Y G hmg0
    have e : (HandSHeadRun.topDef K06.R.prog 50).name = ("law" : PySem.Str) := by kernel_rfl
    rw [e] at hmg0
    exact law_fin (fl := K06.f0) (dl := K06.d0) (jl := 0) K06.chkPs K06.allOK rfl rfl rfl rfl rfl rfl rfl rfl K06.told w mg fa h Y G hmg0
