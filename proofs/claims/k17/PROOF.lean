import PyProof.Rows.All
import HandS.ForMost
import HandS.Walk
import HandS.Property
import PySem.Syntax
import PyProof.ReprReads
import PyProof.Rows.TmSorted
import PyProof.Rows.StrMeet
import HandS.SortRule
import HandS.TupSets
import HandS.Wide
import HandS.IsInst
import HandS.HeadHook4
import HandS.Defaults
import HandS.HeadEnd
import PyProof.Rows.NestShow
import HandS.TupAny
import PyProof.Rows.SeqMore
import HandS.Deep
import HandS.HeadWalk
import HandS.Zip
import HandS.SetFor
import HandS.Strs
import PyProof.Draws
import PyProof.EnumMake
import HandS.RaiseMore
import HandS.Conv
import HandS.Style
import HandS.Flow
import HandS.More
import PyProof.RulesMatch
import HandS.HeadNt
import HandS.Head0
import HandS.Head1
import HandS.Head2
import KE.KStateDown
import Lean
import PySem.Challenge.RW_centbook_k17_values_of_sums
set_option Elab.async false
set_option linter.all false
set_option maxRecDepth 100000
set_option maxHeartbeats 0
/-! Operators of an own class, over the hand layer. -/
namespace Eng
open PySem PySem.Spec PyProof.Rows L2
open PySem.W (InstAt)

section
variable {X : Cx}
theorem inst_of {pins : List (Addr × Obj)} {σ : L2.St} {H : Hp} {s : Shared} {a C dx : Addr} {fs : List (PySem.Str × V)} (I : Inv X pins σ H s) (e : H a = some (.ins C dx fs)) :
    ∃ od, InstAt s.heap a (PySem.W.instObj C dx) C (some od) := by
  obtain ⟨mA, O, _⟩ := ins_get I.hok e
  obtain ⟨od, J, _⟩ := O.look
  exact ⟨od, J⟩
theorem relV_ni {v : V} {u : Value} (r : RelV v u) {Q : Value → Shared → Prop} {s : Shared} (q : Q u s) : PySem.W.CmpBack Q u s := by
  cases v with
  | non => cases r; exact q
  | bl b => cases r; exact q
  | int i => obtain ⟨t, rfl⟩ := r; exact q
  | str i => obtain ⟨t, rfl⟩ := r; exact q
  | byt i => obtain ⟨t, rfl⟩ := r; exact q
  | flt i => obtain ⟨t, rfl⟩ := r; exact q
  | ref a => cases r; exact q
  | ty n => cases r; exact q

/-- a special method of the class: a def of the text -/
structure Spc (K : PySem.W.Frag) (C : Addr) (m : PySem.Str) (f : Addr) : Prop where
  at_ : PySem.W.findIn K (.ref C) m = some (some (.ref f))
  fn : PySem.W.isFn K (.ref f) = true

variable {k : Nat} {f C : Addr} {fd : FuncData} {ps : List PySem.Str} {sp : Sp}
/-- x op y, both instances of C -/
theorem op_own2 {op : Operator} (hc : PySem.W.selfFirst X.K C = true) (hs : Spc X.K C (PySem.dunder op.info.2) f)
    (F : FnOk X.prog X.w X.K X.mg X.base CX0 k f fd ps sp) (hr : Room k X.A) (hb : Binds X.K fd ps []) :
    OpR X (binaryOp op) (fun x y H Q => ∃ a dx fs b dy gs, x = .ref a ∧ y = .ref b ∧ H a = some (.ins C dx fs) ∧ H b = some (.ins C dy gs) ∧ sp [.ref a, .ref b] H Q E0) := by
  intro pins s σ H x y v u Q I rx ry h
  obtain ⟨a, dx, fs, b, dy, gs, rfl, rfl, ha, hb', h⟩ := h
  cases rx; cases ry
  obtain ⟨m, hF⟩ := I.fr
  obtain ⟨od, J⟩ := inst_of I ha
  obtain ⟨od2, J2⟩ := inst_of I hb'
  refine PySem.W.binop_K hF I.ok.mod.kin J J2.type hc hs.at_ hs.fn (wpAny_mono (run_fn (us := [.ref a, .ref b]) (vs := [.ref a, .ref b]) F hr hb .nil pass0 I (.cons rfl (.cons rfl .nil)) h) (fun z s' hz => ?_) fun _ _ e => e)
  obtain ⟨v', H', I', r', q⟩ := id hz
  exact relV_ni r' hz
/-- x op n, x an instance of C, n an int -/
theorem op_ownI {op : Operator} {fo ro rc : Option Value} (hc : PySem.W.selfFirst X.K C = true) (hs : Spc X.K C (PySem.dunder op.info.2) f)
    (hrr : PySem.W.findIn X.K (.ref C) (dunderR op.info.2) = some rc) (hp : rc = none ∨ ∃ g : Addr, rc = some (.ref g))
    (h1 : PySem.W.findIn X.K (.type "int") (PySem.dunder op.info.2) = some fo) (h2 : PySem.W.findIn X.K (.type "int") (dunderR op.info.2) = some ro) (hsub : PySem.W.subIn X.K (.type "int") (.ref C) = some false)
    (F : FnOk X.prog X.w X.K X.mg X.base CX0 k f fd ps sp) (hr : Room k X.A) (hb : Binds X.K fd ps []) :
    OpR X (binaryOp op) (fun x y H Q => ∃ a dx fs i, x = .ref a ∧ y = .int i ∧ H a = some (.ins C dx fs) ∧ sp [.ref a, .int i] H Q E0) := by
  intro pins s σ H x y v u Q I rx ry h
  obtain ⟨a, dx, fs, i, rfl, rfl, ha, h⟩ := h
  cases rx
  obtain ⟨t, rfl⟩ := ry
  obtain ⟨m, hF⟩ := I.fr
  obtain ⟨od, J⟩ := inst_of I ha
  refine PySem.W.ksp_binT (T := "int") hF I.ok.mod.kin J rfl hc hs.at_ hs.fn hrr hp h1 h2 hsub (wpAny_mono (run_fn (us := [.ref a, .int i t]) (vs := [.ref a, .int i]) F hr hb .nil pass0 I (.cons rfl (.cons ⟨t, rfl⟩ .nil)) h) (fun z s' hz => ?_) fun _ _ e => e)
  obtain ⟨v', H', I', r', q⟩ := id hz
  exact relV_ni r' hz
/-- -x -/
theorem un_own (hs : Spc X.K C "__neg__" f) (F : FnOk X.prog X.w X.K X.mg X.base CX0 k f fd ps sp) (hr : Room k X.A) (hb : Binds X.K fd ps []) :
    UnR X (unaryOp .USub) (fun x H Q => ∃ a dx fs, x = .ref a ∧ H a = some (.ins C dx fs) ∧ sp [.ref a] H Q E0) := by
  intro pins s σ H x v Q I rx h
  obtain ⟨a, dx, fs, rfl, ha, h⟩ := h
  cases rx
  obtain ⟨m, hF⟩ := I.fr
  obtain ⟨od, J⟩ := inst_of I ha
  exact PySem.W.ksp_neg hF I.ok.mod.kin J hs.at_ hs.fn (run_fn (us := [.ref a]) (vs := [.ref a]) F hr hb .nil pass0 I (.cons rfl .nil) h)
/-- x == y, by its own __eq__ -/
theorem op_eqOwn (hs : Spc X.K C "__eq__" f) (F : FnOk X.prog X.w X.K X.mg X.base CX0 k f fd ps sp) (hr : Room k X.A) (hb : Binds X.K fd ps []) :
    OpR X (compareOp .Eq) (fun x y H Q => ∃ a dx fs, x = .ref a ∧ H a = some (.ins C dx fs) ∧ (∃ b dy gs, y = .ref b ∧ H b = some (.ins C dy gs)) ∧ sp [x, y] H Q E0) := by
  intro pins s σ H x y v u Q I rx ry h
  obtain ⟨a, dx, fs, rfl, ha, ⟨b, dy, gs, rfl, hb'⟩, h⟩ := h
  cases rx; cases ry
  obtain ⟨m, hF⟩ := I.fr
  obtain ⟨od, J⟩ := inst_of I ha
  obtain ⟨od2, J2⟩ := inst_of I hb'
  refine PySem.W.cmp_ofEq (PySem.W.cmp_K (tb := .ref C) hr.units0 hF I.ok.mod.kin J J2.type (by unfold PySem.W.notFirst; simp) hs.at_ hs.fn (wpAny_mono (run_fn (us := [.ref a, .ref b]) (vs := [.ref a, .ref b]) F hr hb .nil pass0 I (.cons rfl (.cons rfl .nil)) h) (fun z s' hz => ?_) fun _ _ e => e))
  obtain ⟨v', H', I', r', q⟩ := id hz
  exact relV_ni r' hz
end

/-! ### x != y where the class has __eq__ alone -/
section
variable {prog : Program} {w : World} {A : Around} {E : Value → Shared → Prop} {s : Shared} {K : PySem.W.Frag} {x C f : Addr} {ox : Obj} {od : Option Obj} {b : Value}
open PySem.W
theorem objNe_K (X : K.In s.heap) (I : InstAt s.heap x ox C od) (hu : A.units < cLine) (he : findIn K (.ref C) "__eq__" = some (some (.ref f))) (hf : isFn K (.ref f) = true) {Q : PySem.Fin → Shared → Prop}
    (hcall : wpAny (model prog w) A (call (.ref f) [.ref x, b]) (fun v s' => ∃ c, v = .bool c ∧ Q (.done (.ret (.bool (!c)))) s') E s) :
    wpAny (model prog w) A (Builtin.«object.__ne__» ⟨[.ref x, b], []⟩) Q E s := by
  unfold Builtin.«object.__ne__»
  refine wpAny_bind (m := PySem.slotArgs "__ne__" 1 ⟨[.ref x, b], []⟩) (wpAny_pure ?_)
  refine wpAny_bind (wpAny_cRoomFor hu ?_)
  refine wpAny_bind (m := callSpecialIfBound? (.ref x) (Str.ofString "__eq__") [b]) (ifBound_K X I he hf (wpAny_mono hcall (fun v s' hv => ?_) fun _ _ e => e))
  obtain ⟨c, rfl, hq⟩ := hv
  exact wpAny_bind (m := truthy (.bool c)) (wpAny_truthy_bool (wpAny_pure hq))
theorem ne_check {M : Model} {A : Around} {Q : Unit → Shared → Prop} (X : K.In s.heap) (I : InstAt s.heap x ox C od) (hsub : subIn K (.ref C) (.type "object") = some true) (hq : Q () s) :
    wpAny M A (checkBuiltinCall "object.__ne__" ⟨[.ref x, b], []⟩) Q E s := by
  have ha := PySem.F.cmpArgs_ne (.ref x) b
  simp only [checkBuiltinCall, PySem.F.cmpKind_ne, PySem.F.cmpSplit_ne]
  refine wpAny_bind ?_
  unfold isInstance
  refine wpAny_bind (I.type.here ((looks_subIn X hsub).here ?_))
  simp only [Bool.not_true, Bool.false_eq_true, if_false]
  cases hsig : Manifest.signature? "object.__ne__" with
  | none => first | exact wpAny_pure hq | exact wpAny_bind (wpAny_pure (wpAny_pure hq)) | exact wpAny_pure (wpAny_pure hq)
  | some sig =>
    simp only [argsOk, hsig] at ha
    have h2 : Bind.checkArgs "object.__ne__" sig ⟨.ref x :: [b], []⟩ = pure () := ha
    first
      | (show wpAny M A (Bind.checkArgs "object.__ne__" sig ⟨.ref x :: [b], []⟩) Q E _; rw [h2]; exact wpAny_pure hq)
      | (refine wpAny_bind (wpAny_pure ?_); show wpAny M A (Bind.checkArgs "object.__ne__" sig ⟨.ref x :: [b], []⟩) Q E _; rw [h2]; exact wpAny_pure hq)
theorem tryNe {A : Around} {Q : Option Value → Shared → Prop} (X : K.In s.heap) (I : InstAt s.heap x ox C od) (hu : A.units + 1 < cLine) (hn : findIn K (.ref C) "__ne__" = some (some (.builtin "object.__ne__"))) (hsub : subIn K (.ref C) (.type "object") = some true)
    (he : findIn K (.ref C) "__eq__" = some (some (.ref f))) (hf : isFn K (.ref f) = true)
    (hcall : wpAny (model prog w) A.in1 (call (.ref f) [.ref x, b]) (fun v s' => ∃ c, v = .bool c ∧ Q (some (.bool (!c))) s') E s) :
    wpAny (model prog w) A (tryCompare (.ref x) "__ne__" b) Q E s := by
  have bnd : bindSpecial (.builtin "object.__ne__") (.ref x) = pure (.builtin "object.__ne__", [.ref x]) := PySem.F.cmp_object.ne.bind (.ref x)
  have fin : wpAny (model prog w) A (call (.builtin "object.__ne__") [.ref x, b]) (fun v s' => ∃ c, v = .bool c ∧ Q (some (.bool c)) s') E s := by
    refine wpAny_call (codeAny_call_builtin PySem.F.cmp_object.ne.plain PySem.F.cmpEntry_ne (ne_check X I hsub (objNe_K (A := A.in1) X I hu he hf (wpAny_mono hcall (fun v s' hv => ?_) fun _ _ e => e))))
    obtain ⟨c, rfl, hq⟩ := hv
    exact ⟨c, rfl, ⟨!c, rfl, hq⟩⟩
  have fin2 : wpAny (model prog w) A (call (.builtin "object.__ne__") ([.ref x] ++ [b]) >>= fun v => pure (some v)) (fun r s' => ∃ c, r = some (.bool c) ∧ Q (some (.bool c)) s') E s :=
    wpAny_bind (wpAny_mono fin (fun v s' hv => wpAny_pure (by obtain ⟨c, rfl, q⟩ := hv; exact ⟨c, rfl, q⟩)) fun _ _ e => e)
  unfold tryCompare
  refine wpAny_bind (m := callSpecialIfBound? (.ref x) (Str.ofString "__ne__") [b]) ?_
  simp only [callSpecialIfBound?, bindSpecialIfBound?]
  refine wpAny_holding (wpAny_bind (wpAny_bind (wpAny_bind (I.type.here ((looks_findIn X hn).here ?_)))))
  simp only [bnd]
  have fin3 : wpAny (model prog w) A (call (.builtin "object.__ne__") ([.ref x] ++ [b]) >>= fun v => pure (some v)) (fun r s' => wpAny (model prog w) A (match r with
      | some .notImplemented => pure none
      | none => pure none
      | some v => pure (some v)) Q E s') E s := wpAny_mono fin2 (fun r s' hr => by obtain ⟨c, rfl, q⟩ := hr; exact wpAny_pure q) fun _ _ e => e
  refine wpAny_bind (wpAny_askSetting (wpAny_ite ?_))
  split
  · refine wpAny_bind (wpAny_pure (wpAny_pure ?_))
    first | exact fin3 | (refine wpAny_mono fin2 (fun r s' hr => ?_) fun _ _ e => e; obtain ⟨c, rfl, q⟩ := hr; exact wpAny_pure q)
  · refine wpAny_tryCatch (wpAny_bind (wpAny_pure (wpAny_pure ?_)))
    first | exact fin3 | (refine wpAny_mono fin2 (fun r s' hr => ?_) fun _ _ e => e; obtain ⟨c, rfl, q⟩ := hr; exact wpAny_pure q)
theorem rcNe {Q : Value → Shared → Prop} {tb : Value} (X : K.In s.heap) (I : InstAt s.heap x ox C od) (hu : A.units + 1 < cLine) (hb : Looks (model prog w) s.heap (typeOf b) tb) (hnf : notFirst K C tb = true)
    (hn : findIn K (.ref C) "__ne__" = some (some (.builtin "object.__ne__"))) (hsub : subIn K (.ref C) (.type "object") = some true) (he : findIn K (.ref C) "__eq__" = some (some (.ref f))) (hf : isFn K (.ref f) = true)
    (hcall : wpAny (model prog w) A.in1 (call (.ref f) [.ref x, b]) (fun v s' => ∃ c, v = .bool c ∧ Q (.bool (!c)) s') E s) : wpAny (model prog w) A (richCompare .NotEq (.ref x) b) Q E s := by
  have one : wpAny (model prog w) A (tryCompare (.ref x) (cmpInfo .NotEq).2.1 b) (fun r s' => ∃ v, r = some v ∧ Q v s') E s :=
    tryNe X I hu hn hsub he hf (wpAny_mono hcall (fun v s' hv => by obtain ⟨c, rfl, q⟩ := hv; exact ⟨c, rfl, _, rfl, q⟩) fun _ _ e => e)
  unfold richCompare
  simp only [oneThing_ref]
  refine wpAny_holding (wpAny_bind (wpAny_cRoomFor (Nat.lt_of_succ_lt hu) ?_))
  refine wpAny_bind (I.type.here (wpAny_bind (hb.here ?_)))
  split
  · rename_i q
    have e : subIn K tb (.ref C) = some false := by
      rcases Bool.or_eq_true_iff.mp hnf with e | e
      · rw [beq_iff_eq.mp e] at q; simp at q
      · exact beq_iff_eq.mp e
    refine wpAny_bind ((looks_subIn X e).here ?_)
    simp only [Bool.false_eq_true, if_false]
    refine wpAny_bind (wpAny_mono one (fun r s' z => ?_) fun _ _ e => e)
    obtain ⟨v, rfl, hq⟩ := z
    exact wpAny_pure hq
  · refine wpAny_bind (wpAny_pure ?_)
    simp only [Bool.false_eq_true, if_false]
    refine wpAny_bind (wpAny_mono one (fun r s' z => ?_) fun _ _ e => e)
    obtain ⟨v, rfl, hq⟩ := z
    exact wpAny_pure hq

/-! ### n op x: the int declines, the class's reflected method answers -/
theorem tryInt_none {nm nm' id : String} {g : Int → Int → Sem PySem.Fin} {i : Int} {t : Tok} {y : Addr} {oy : Obj} {Q : Option Value → Shared → Prop} (slot : Slot "int" (PySem.dunder nm) id)
    (entry : entryFor table id = some (PySem.Builtin.Int.intBinary nm' g)) (args : argsOk id ⟨[.int i t, .ref y], []⟩) (hy : s.heap.get? y = some oy) (hd : oy.data = .plain) (hq : Q none s) :
    wpAny (model prog w) A (tryMethod (.int i t) (PySem.dunder nm) (.ref y)) Q E s := by
  unfold tryMethod
  refine wpAny_bind (wpAny_callSpecial?_slot (typeIs_int s i t) slot (wpAny_call (codeAny_call_builtin slot.plain entry (slot.check _ _ _ _ _ _ _ _ (typeIs_int s i t) args ?_))))
  unfold PySem.Builtin.Int.intBinary
  refine wpAny_bind (m := PySem.slotArgs nm' 1 ⟨[.int i t, .ref y], []⟩) (wpAny_pure ?_)
  refine wpAny_bind (m := PySem.Builtin.Int.intOfSelf (.int i t)) (wpAny_pure ?_)
  refine wpAny_bind (m := asInt? (.ref y)) (wpAny_bind (wpAny_load hy ?_))
  rw [hd]
  refine wpAny_pure (wpAny_bind (wpAny_rule (wpAny_pure ?_)))
  exact wpAny_pure hq
end
end Eng

namespace Eng
open PySem PySem.Spec PyProof.Rows L2
open PySem.W (InstAt)
section
variable {X : Cx} {k : Nat} {f C : Addr} {fd : FuncData} {ps : List PySem.Str} {sp : Sp}
/-- a def run one C call deeper -/
theorem run_fn1 {pins : List (Addr × Obj)} {σ : L2.St} {H : Hp} {s : Shared} {Q : VK} {us : List Value} {vs : List V} {E' : Value → Shared → Prop} (F : FnOk X.prog X.w X.K X.mg X.base CX0 k f fd ps sp) (hr : Room (k + 1) X.A) (hb : Binds X.K fd ps [])
    (I : Inv X pins σ H s) (r : Vals vs us) (h : sp vs H Q E0) : wpAny (model X.prog X.w) X.A.in1 (call (.ref f) us) (EP X pins σ Q) E' s := by
  have hl : (us ++ []).length = ps.length := by
    rw [List.append_nil, ← r.length]
    exact F.len _ _ _ _ h
  refine wpAny_call (codeAny_mono (F.run X.A.in1 X.stack s H ⟨us, []⟩ (us ++ []) vs Q E0 hr.in1 I.env0.in1 (hb s us I.kIn hl) (by rw [List.append_nil]; exact r) h) fun r s' hq => ?_)
  cases r with
  | error e => exact False.elim hq
  | ok fl =>
    cases fl with
    | ret u => exact I.after hq
    | next => exact False.elim hq
    | brk => exact False.elim hq
    | cont => exact False.elim hq
theorem op_neOwn (hs : Spc X.K C "__eq__" f) (hn : PySem.W.findIn X.K (.ref C) "__ne__" = some (some (.builtin "object.__ne__"))) (hsub : PySem.W.subIn X.K (.ref C) (.type "object") = some true)
    (F : FnOk X.prog X.w X.K X.mg X.base CX0 k f fd ps sp) (hr : Room (k + 1) X.A) (hb : Binds X.K fd ps []) :
    OpR X (compareOp .NotEq) (fun x y H Q => ∃ a dx fs, x = .ref a ∧ H a = some (.ins C dx fs) ∧ (∃ b dy gs, y = .ref b ∧ H b = some (.ins C dy gs)) ∧ sp [x, y] H (fun v H' => ∃ c, v = .bl c ∧ Q (.bl (!c)) H') E0) := by
  intro pins s σ H x y v u Q I rx ry h
  obtain ⟨a, dx, fs, rfl, ha, ⟨b, dy, gs, rfl, hb'⟩, h⟩ := h
  cases rx; cases ry
  obtain ⟨od, J⟩ := inst_of I ha
  obtain ⟨od2, J2⟩ := inst_of I hb'
  have hu : X.A.units + 1 < cLine := hu_of hr
  show wpAny _ _ (richCompare .NotEq (.ref a) (.ref b)) _ _ _
  refine rcNe (tb := .ref C) I.kIn J hu J2.type (by unfold PySem.W.notFirst; simp) hn hsub hs.at_ hs.fn (wpAny_mono (run_fn1 (us := [.ref a, .ref b]) (vs := [.ref a, .ref b]) F hr hb I (.cons rfl (.cons rfl .nil)) h) (fun z s' hz => ?_) fun _ _ e => e)
  obtain ⟨v', H', I', r', c, rfl, q⟩ := hz
  cases r'
  exact ⟨c, rfl, .bl (!c), H', I', rfl, q⟩
/-- abs(x) -/
theorem call_absOwn (hs : Spc X.K C "__abs__" f) (F : FnOk X.prog X.w X.K X.mg X.base CX0 k f fd ps sp) (hr : Room (k + 1) X.A) (hb : Binds X.K fd ps []) :
    CallR X (.builtin "abs") (fun xs H Q => ∃ a dx fs, xs = [.ref a] ∧ H a = some (.ins C dx fs) ∧ sp [.ref a] H Q E0) := by
  intro pins s σ H xs us Q I r h
  obtain ⟨a, dx, fs, rfl, ha, h⟩ := h
  obtain ⟨u, rfl, ru⟩ := vals1 r
  cases ru
  obtain ⟨od, J⟩ := inst_of I ha
  refine Calls.call_function_entry kind_abs plain_abs entry_abs (args_abs _) ?_
  unfold Builtin.«abs»
  refine wpAny_bind (m := oneArg "abs" ⟨[.ref a], []⟩) (wpAny_pure ?_)
  refine wpAny_bind (m := callSpecial? (.ref a) (Str.ofString "__abs__")) (PySem.W.special_fn I.kIn J hs.at_ (beq_iff_eq.mp hs.fn) (wpAny_mono (run_fn1 (us := [.ref a]) (vs := [.ref a]) F hr hb I (.cons rfl .nil) h) (fun z s' hz => ?_) fun _ _ e => e))
  exact wpAny_pure ⟨_, rfl, hz⟩
/-- n op x -/
theorem op_reflI {op : Operator} {bid nm' : String} {g : Int → Int → Sem PySem.Fin} {fo ro : Option Value} {f0 : Addr} (slot : Slot "int" (PySem.dunder op.info.2) bid) (entry : entryFor table bid = some (PySem.Builtin.Int.intBinary nm' g)) (args : ∀ a b, argsOk bid ⟨[a, b], []⟩)
    (hc : PySem.W.selfFirst X.K C = true) (hs0 : Spc X.K C (PySem.dunder op.info.2) f0) (hs : Spc X.K C (dunderR op.info.2) f)
    (h1 : PySem.W.findIn X.K (.type "int") (PySem.dunder op.info.2) = some fo) (h2 : PySem.W.findIn X.K (.type "int") (dunderR op.info.2) = some ro) (hl : ((fo.isSome && !isSeqSlot fo) || (ro.isSome && !isSeqSlot ro)) = true)
    (hsub : PySem.W.subIn X.K (.ref C) (.type "int") = some false)
    (F : FnOk X.prog X.w X.K X.mg X.base CX0 k f fd ps sp) (hr : Room k X.A) (hb : Binds X.K fd ps []) :
    OpR X (binaryOp op) (fun x y H Q => ∃ i b dy gs, x = .int i ∧ y = .ref b ∧ H b = some (.ins C dy gs) ∧ sp [.ref b, .int i] H Q E0) := by
  intro pins s σ H x y v u Q I rx ry h
  obtain ⟨i, b, dy, gs, rfl, rfl, hb', h⟩ := h
  cases ry
  obtain ⟨t, rfl⟩ := rx
  obtain ⟨od, J⟩ := inst_of I hb'
  have Xk := I.kIn
  obtain ⟨cd, rest, hcd, hm⟩ := PySem.W.ksp_first hc
  have hy : s.heap.get? b = some (PySem.W.instObj C dy) := J.1
  have none_ : ∀ {Q' : Option Value → Shared → Prop}, Q' none s → wpAny (model X.prog X.w) X.A (tryMethod (.int i t) (PySem.dunder op.info.2) (.ref b)) Q' X.xe s := fun {Q'} hq => tryInt_none slot entry (args _ _) hy rfl hq
  have two : wpAny (model X.prog X.w) X.A (tryMethod (.ref b) (dunderR op.info.2) (.int i t)) (fun r s' => ∃ v, r = some v ∧ EP X pins σ Q v s') X.xe s := by
    refine PySem.W.ksp_try Xk J hs.at_ hs.fn (wpAny_mono (run_fn (us := [.ref b, .int i t]) (vs := [.ref b, .int i]) F hr hb .nil pass0 I (.cons rfl (.cons ⟨t, rfl⟩ .nil)) h) (fun z s' hz => ?_) fun _ _ e => e)
    obtain ⟨v', H', I', r', q⟩ := id hz
    exact relV_ni r' hz
  rcases hi : op.info with ⟨sym, nm⟩
  rw [hi] at hs hs0 h1 h2 none_ two
  have s0 := hs0.at_
  dsimp only at hs hs0 h1 h2 s0 none_ two
  obtain ⟨hh, g', d, tt, os⟩ := s
  have L1 : PySem.W.Looks (model X.prog X.w) hh (typeOf (.int i t)) (.type "int") := PySem.W.Looks.of_pure rfl
  have L2 : PySem.W.Looks (model X.prog X.w) hh (typeOf (.ref b)) (.ref C) := J.type
  have L3 : PySem.W.Looks (model X.prog X.w) hh (fillsNumberSlot (.ref C) nm) true := PySem.W.fills_K Xk hcd hm s0
  have L4 : PySem.W.Looks (model X.prog X.w) hh (fillsNumberSlot (.type "int") nm) true := by
    have q := PySem.W.ksp_fillsT (M := model X.prog X.w) Xk h1 h2
    rw [hl] at q
    exact q
  have L5 : PySem.W.Looks (model X.prog X.w) hh (isSubtype (.ref C) (.type "int")) false := PySem.W.looks_subIn Xk hsub
  have L6 : PySem.W.Looks (model X.prog X.w) hh (numberSlotInPython (.type "int") nm) false := PySem.W.Looks.of_pure rfl
  have hne : (Value.type "int" == Value.ref C) = false := Bool.eq_false_iff.mpr fun q => by cases beq_iff_eq.mp q
  simp only [binaryOp, hi]
  refine wpAny_holding (wpAny_bind ?_)
  unfold binaryOp1
  refine wpAny_bind (L1.at (wpAny_bind (L2.at (wpAny_bind (L4.at ?_)))))
  simp only [hne, Bool.false_eq_true, if_false]
  ksp_lk
  refine none_ ?_
  ksp_lk
  refine wpAny_mono two (fun r s' hr' => ?_) fun _ _ e => e
  obtain ⟨v, rfl, hq⟩ := hr'
  ksp_lk
  exact hq
/-- the truth of an instance -/
theorem tru_own (hs : Spc X.K C "__bool__" f) (F : FnOk X.prog X.w X.K X.mg X.base CX0 k f fd ps sp) (hr : Room k X.A) (hb : Binds X.K fd ps []) :
    TruR X (fun x H Q => ∃ a dx fs, x = .ref a ∧ H a = some (.ins C dx fs) ∧ sp [.ref a] H (fun v H' => ∃ c, v = .bl c ∧ Q c H') E0) := by
  intro pins s σ H x v Q I rx h
  obtain ⟨a, dx, fs, rfl, ha, h⟩ := h
  cases rx
  obtain ⟨m, hF⟩ := I.fr
  obtain ⟨od, J⟩ := inst_of I ha
  refine PySem.W.truthy_K hF I.ok.mod.kin J hs.at_ hs.fn (wpAny_mono (run_fn (us := [.ref a]) (vs := [.ref a]) F hr hb .nil pass0 I (.cons rfl .nil) h) (fun z s' hz => ?_) fun _ _ e => e)
  obtain ⟨v', H', I', r', c, rfl, q⟩ := hz
  cases r'
  exact ⟨H', I', q⟩
/-- the same two C calls deeper -/
theorem run_fn2 {pins : List (Addr × Obj)} {σ : L2.St} {H : Hp} {s : Shared} {Q : VK} {us : List Value} {vs : List V} {E' : Value → Shared → Prop} (F : FnOk X.prog X.w X.K X.mg X.base CX0 k f fd ps sp) (hr : Room (k + 2) X.A) (hb : Binds X.K fd ps [])
    (I : Inv X pins σ H s) (r : Vals vs us) (h : sp vs H Q E0) : wpAny (model X.prog X.w) X.A.in1.in1 (call (.ref f) us) (EP X pins σ Q) E' s := by
  have hl : (us ++ []).length = ps.length := by
    rw [List.append_nil, ← r.length]
    exact F.len _ _ _ _ h
  refine wpAny_call (codeAny_mono (F.run X.A.in1.in1 X.stack s H ⟨us, []⟩ (us ++ []) vs Q E0 hr.in1.in1 I.env0.in1.in1 (hb s us I.kIn hl) (by rw [List.append_nil]; exact r) h) fun r s' hq => ?_)
  cases r with
  | error e => exact False.elim hq
  | ok fl =>
    cases fl with
    | ret u => exact I.after hq
    | next => exact False.elim hq
    | brk => exact False.elim hq
    | cont => exact False.elim hq
theorem bool_made {prog : Program} {w : World} {A : Around} {E : Value → Shared → Prop} {s : Shared} {x : Value} {Q : Value → Shared → Prop}
    (h : wpAny (model prog w) A.in1.in1 (truthy x) (fun b s' => Q (.bool b) s') E s) : wpAny (model prog w) A (call (.type "bool") [x]) Q E s := by
  have ft := PySem.F.called_bool
  obtain ⟨c, tl, hmro⟩ := ft.mro
  have hmade := ft.made
  have hsub := ft.sub
  refine wpAny_call (codeAny_of_tree ?_)
  show wpAny _ _ (callAny (.type "bool") _) _ _ _
  refine wpAny_pure ⟨Code.quiet_builtin _ (by decide +kernel), codeAny_builtin PySem.F.entry_type_call ?_⟩
  rw [Around.under_plain (weight_type_call_type "bool" [x] []) (units_type_call_type "bool" [x] [])]
  have hct := PySem.F.typeCall_bool_1 x
  have h1 := ft.notType
  have h2 := ft.canCreate
  have new : wpAny (model prog w) A.in1.in1 (Builtin.«bool.__new__» ⟨[.type "bool", x], []⟩) (fun fin s' => match fin with
      | .done f => wants (fun obj s₁ => (∃ b, obj = .bool b) ∧ Q obj s₁) E (.ok f) s'
      | .again c' => c'.quiet = true ∧ codeAny (model prog w) A.in1 c' (wants (fun obj s₁ => (∃ b, obj = .bool b) ∧ Q obj s₁) E) s') (fun e s' => wants (fun obj s₁ => (∃ b, obj = .bool b) ∧ Q obj s₁) E (.error e) s') s := by
    unfold Builtin.«bool.__new__»
    refine wpAny_bind (m := isType (.type "bool")) (wpAny_pure ?_)
    simp only [Bool.not_true, Bool.false_eq_true, if_false]
    refine wpAny_bind (m := isSubtype (.type "bool") (.type "bool")) ?_
    rw [PySem.F.conv_sub_bool]
    refine wpAny_pure ?_
    simp only [Bool.not_true, Bool.false_eq_true, if_false]
    refine wpAny_bind (m := someArgs "bool" 0 1 ⟨[x], []⟩) (wpAny_pure ?_)
    exact wpAny_bind (m := truthy x) (wpAny_mono h (fun b s' hq => wpAny_pure ⟨⟨b, rfl⟩, hq⟩) fun _ _ e => e)
  repeat (any_goals (first | assumption | wp_step))
  refine codeAny_mono (codeAny_call_builtin ft.plain PySem.F.entry_bool_new (wpAny_of_eq (PySem.F.newCall_bool_1 x) new)) fun r s₁ hr => ?_
  cases r with
  | error e => exact hr
  | ok fl =>
    cases fl with
    | ret obj =>
      obtain ⟨⟨b, rfl⟩, hq⟩ := hr
      have hT : s₁.TypeIs (.bool b) "bool" := rfl
      have hli := ft.init.lookup
      have hbi := ft.init.bind (.bool b)
      repeat (any_goals (first | assumption | wp_step))
      refine codeAny_mono (codeAny_call_builtin ft.init.plain PySem.F.entry_object_init (ft.init.check _ _ _ _ _ _ _ _ hT (PySem.F.args_object_init_2 _ x) (object_init_meets ft.init.lookup ft.made PySem.F.newNe_bool prog w A.in1 (wants (fun r s₂ => r = .none ∧ Q (.bool b) s₂) E) s₁ ⟨hT, rfl, hq⟩))) fun r₂ s₂ hr₂ => ?_
      cases r₂ with
      | error e => exact hr₂
      | ok fl₂ =>
        cases fl₂ with
        | ret r =>
          obtain ⟨rfl, hq⟩ := hr₂
          repeat (any_goals (first | assumption | wp_step))
        | _ => exact hr₂.elim
    | _ => exact hr.elim
/-- bool(x) -/
theorem call_boolOwn (hs : Spc X.K C "__bool__" f) (F : FnOk X.prog X.w X.K X.mg X.base CX0 k f fd ps sp) (hr : Room (k + 2) X.A) (hb : Binds X.K fd ps []) :
    CallR X (.type "bool") (fun xs H Q => ∃ a dx fs, xs = [.ref a] ∧ H a = some (.ins C dx fs) ∧ sp [.ref a] H (fun v H' => ∃ c, v = .bl c ∧ Q (.bl c) H') E0) := by
  intro pins s σ H xs us Q I r h
  obtain ⟨a, dx, fs, rfl, ha, h⟩ := h
  obtain ⟨u, rfl, ru⟩ := vals1 r
  cases ru
  obtain ⟨m, hF⟩ := I.fr
  obtain ⟨od, J⟩ := inst_of I ha
  refine bool_made (PySem.W.truthy_K hF I.ok.mod.kin J hs.at_ hs.fn (wpAny_mono (run_fn2 (us := [.ref a]) (vs := [.ref a]) F hr hb I (.cons rfl .nil) h) (fun z s' hz => ?_) fun _ _ e => e))
  obtain ⟨v', H', I', r', c, rfl, q⟩ := hz
  cases r'
  exact ⟨.bl c, H', I', rfl, q⟩
end
end Eng

/-! A small definitional interpreter for the part of Python that the laws use. Values are trees; lists are values, or owned by one slot; what changes by reference lies in a store. -/
namespace Eng
open PySem

inductive D where
  | non | bl (b : Bool) | int (i : Int) | str (s : Str)
  | tup (xs : List D) | lst (xs : List D)
  | ins (c : Nat) (fs : List (Nat × D))
  | fn (j : Nat) | ref (k : Nat)
instance : Inhabited D := ⟨.non⟩

inductive Cell where
  | dk (kvs : List (Nat × D))
  | lk (xs : List D)
  | dead
abbrev Store := List Cell

inductive Res (α : Type) where
  | ok (a : α) (st : Store)
  | exc (k : Nat) (fs : List D) (st : Store)
  | bad

@[inline] def Res.bind {α β : Type} (r : Res α) (f : α → Store → Res β) : Res β := match r with
  | .ok a st => f a st
  | .exc k fs st => .exc k fs st
  | .bad => .bad
@[simp] theorem Res.bind_ok {α β : Type} (a : α) (st : Store) (f : α → Store → Res β) : (Res.ok a st).bind f = f a st := rfl
@[simp] theorem Res.bind_exc {α β : Type} (k : Nat) (fs : List D) (st : Store) (f : α → Store → Res β) : (Res.exc k fs st).bind f = .exc k fs st := rfl
@[simp] theorem Res.bind_bad {α β : Type} (f : α → Store → Res β) : (Res.bad : Res α).bind f = .bad := rfl
theorem Res.bind_is {α β : Type} {r : Res α} {f : α → Store → Res β} {b : β} {st : Store} (h : r.bind f = .ok b st) : ∃ a st1, r = .ok a st1 ∧ f a st1 = .ok b st := by
  cases r with
  | ok a st1 => exact ⟨a, st1, rfl, h⟩
  | exc k fs st1 => cases h
  | bad => cases h

inductive Bo where | add | sub | mul | fdiv | mod | pow deriving DecidableEq
inductive Co where | eq | ne | lt | le | gt | ge | isin | notin | isNone | isNotNone deriving DecidableEq
inductive Bl where | len | abs | int | bool | list | tuple | sum | all | any | sorted deriving DecidableEq
/-- isinstance's second: a built-in type or an own class -/
inductive Ty where | int | bool | str | tuple | list | cls (c : Nat) deriving DecidableEq

mutual
inductive C where
  | var (i : Nat)
  | bor (i : Nat)
  | non | bl (b : Bool) | int (i : Int) | str (s : Str)
  | gfn (j : Nat)
  | gco (k : Nat)
  | neg (a : C) | not (a : C)
  | bin (op : Bo) (a b : C)
  | cmp (op : Co) (a b : C)
  | chain (o1 o2 : Co) (a b c : C)
  | and (as : Cs) | or (as : Cs)
  | ite (t a b : C)
  | tup (as : Cs) | lst (as : Cs)
  | idx (a b : C)
  | sl (a : C) (lo hi : C)
  | call (j : Nat) (as : Cs) (ds : List D)
  | callV (i : Nat) (as : Cs)
  | make (c : Nat) (as : Cs) (ds : List D)
  | meth (m : Nat) (o : C) (as : Cs)
  | attr (f : Nat) (o : C)
  | blt (b : Bl) (a : C)
  | isi (a : C) (t : Ty)
  | lc (elt : C) (tg : List Nat) (it : It) (ifs : Cs)
  | dget (o : C) (k : Nat)
  | dict (ks : List Nat) (as : Cs)
  | newc (a : C)
  | popc (o i : C)
  | max2 (a b : C)
  | ssort (a : C)
  | kcall (j : Nat) (as : Cs)
  | repr (a : C)
  | catb (i : Nat) (b : C)
  | repl (as : Cs) (n : C)
  | lrng (a : C)
  | lc2 (elt : C) (tg : List Nat) (it : It) (tg2 : List Nat) (it2 : It)
  | callB (j : Nat) (as : Cs)
inductive Cs where
  | nil | cons (c : C) (r : Cs)
inductive It where
  | seq (c : C)
  | rng1 (a : C) | rng2 (a b : C)
  | enum (a : C)
  | zip (a b : C)
end
instance : Inhabited C := ⟨.non⟩

mutual
inductive S where
  | set (i : Nat) (e : C)
  | own (i : Nat) (e : C)
  | frz (i : Nat)
  | unp (is : List Nat) (e : C)
  | par (i j : Nat) (a b : C)
  | fld (i : Nat) (f : Nat) (e : C)
  | dput (o : C) (k : Nat) (e : C)
  | app (i : Nat) (e : C)
  | ext (i : Nat) (e : C)
  | setc (o i e : C)
  | ins (i : Nat) (p e : C)
  | parN (ts : List (Nat × Bool)) (es : Cs)
  | parc (o i : C) (j : Nat) (a b : C)
  | popo (i : Nat) (p : C)
  | mtch (e : C) (ks : Ks)
  | ex (e : C)
  | ite (t : C) (a b : Ss)
  | for (tg : List Nat) (it : It) (body : Ss)
  | whl (t : C) (body : Ss)
  | ret (e : C)
  | never
  | pass | brk | cont
inductive Ss where
  | nil | cons (s : S) (r : Ss)
inductive Ks where
  | nil | cons (vs : List Str) (b : Ss) (r : Ks) | wild (b : Ss)
end

inductive Slot where
  | v (d : D)
  | own (xs : List D)
  | self (c : Nat) (fs : List (Nat × D))
abbrev Env := List (Option Slot)

inductive Fl where
  | nx (ρ : Env) (st : Store)
  | rt (d : D) (st : Store)
  | bk (ρ : Env) (st : Store)
  | ct (ρ : Env) (st : Store)
  | exc (k : Nat) (fs : List D) (st : Store)
  | bad

/-- a class: the index of its __init__, its methods and properties by name -/
structure Cls where
  init : Nat
  flds : List Nat
  meth : List (Nat × Nat)
  prop : List (Nat × Nat)

structure Tab where
  cls : List Cls
  con : List D

/-- the numbers of the special names -/
abbrev nAdd : Nat := 0
abbrev nRadd : Nat := 1
abbrev nSub : Nat := 2
abbrev nRsub : Nat := 3
abbrev nMul : Nat := 4
abbrev nRmul : Nat := 5
abbrev nNeg : Nat := 6
abbrev nAbs : Nat := 7
abbrev nBool : Nat := 8
abbrev nEq : Nat := 9
def opN : Bo → Option (Nat × Nat)
  | .add => some (nAdd, nRadd)
  | .sub => some (nSub, nRsub)
  | .mul => some (nMul, nRmul)
  | _ => none

section
variable (T : Tab) (call : Nat → List D → Store → Res D)

def methOf (c m : Nat) : Option Nat := match T.cls[c]? with
  | some k => k.meth.lookup m
  | none => none
def propOf (c m : Nat) : Option Nat := match T.cls[c]? with
  | some k => k.prop.lookup m
  | none => none

def fldOf (c f : Nat) : Bool := match T.cls[c]? with
  | some k => k.flds.contains f
  | none => false

def wide (i : Int) : Bool := decide (i.natAbs < 2 ^ 4096)
def intOp (op : Bo) (i j : Int) (st : Store) : Res D := match op with
  | .add => .ok (.int (i + j)) st
  | .sub => .ok (.int (i - j)) st
  | .mul => if wide i && wide j then .ok (.int (i * j)) st else .bad
  | .fdiv => if decide (0 < j) && (decide (j < 1073741824) || (wide i && wide j)) then .ok (.int (i / j)) st else .bad
  | .mod => if decide (j ≠ 0) then .ok (.int (i.fmod j)) st else .bad
  | .pow => if decide (0 ≤ j ∧ j ≤ 1000000 ∧ i.natAbs < 2 ^ 64) then .ok (.int (i ^ j.toNat)) st else .bad
def binD (op : Bo) (x y : D) (st : Store) : Res D := match x, y with
  | .int i, .int j => intOp op i j st
  | .tup xs, .tup ys => (match op with
    | .add => if xs.length + ys.length ≤ 1000000 then .ok (.tup (xs ++ ys)) st else .bad
    | _ => .bad)
  | .lst xs, .lst ys => (match op with
    | .add => if xs.length + ys.length ≤ 1000000 then .ok (.lst (xs ++ ys)) st else .bad
    | _ => .bad)
  | .ins c fs, y => match opN op with
    | some (m, _) => (match methOf T c m, y with
      | some j, .int _ => call j [x, y] st
      | some j, .ins c' _ => if c' = c then call j [x, y] st else .bad
      | _, _ => .bad)
    | none => .bad
  | .int i, .ins c fs => match opN op with
    | some (m0, m) => (match methOf T c m, methOf T c m0 with
      | some j, some _ => call j [y, x] st
      | _, _ => .bad)
    | none => .bad
  | _, _ => .bad
def negD (x : D) (st : Store) : Res D := match x with
  | .int i => .ok (.int (-i)) st
  | .ins c _ => (match methOf T c nNeg with
    | some j => call j [x] st
    | none => .bad)
  | _ => .bad

mutual
/-- plain data -/
def plain : D → Bool
  | .non | .bl _ | .int _ => true
  | .str s => s.cps.all (· < 0x110000)
  | .tup xs | .lst xs => plains xs
  | _ => false
def plains : List D → Bool
  | [] => true
  | d :: r => plain d && plains r
end
mutual
def eqD : D → D → Bool
  | .non, .non => true
  | .bl a, .bl b => a == b
  | .int a, .int b => a == b
  | .bl a, .int b => (if a then 1 else 0) == b
  | .int a, .bl b => a == (if b then 1 else 0)
  | .str a, .str b => a == b
  | .tup xs, .tup ys => eqDs xs ys
  | .lst xs, .lst ys => eqDs xs ys
  | _, _ => false
def eqDs : List D → List D → Bool
  | [], [] => true
  | x :: xs, y :: ys => eqD x y && eqDs xs ys
  | _, _ => false
end
mutual
def deep : D → Nat
  | .tup xs | .lst xs => deeps xs + 1
  | _ => 0
def deeps : List D → Nat
  | [] => 0
  | d :: r => max (deep d) (deeps r)
end
def flat : D → Bool
  | .non | .bl _ | .int _ | .str _ => true
  | _ => false
def eqR (x y : D) (st : Store) : Res Bool := match x with
  | .ins c _ => (match methOf T c nEq, y with
    | some j, .ins c' _ => if c' = c then (call j [x, y] st).bind fun d st1 => (match d with
      | .bl b => .ok b st1
      | _ => .bad) else .bad
    | _, _ => .bad)
  | _ => if plain x && plain y && decide (deep x ≤ 32) && decide (deep y ≤ 32) then .ok (eqD x y) st else .bad
/-- in a list, items of any depth -/
def inD (x : D) (ys : List D) (st : Store) : Res D := if plain x && plains ys && decide (deep x ≤ 32) && decide (deeps ys ≤ 31) then .ok (.bl (ys.any fun z => eqD z x)) st else .bad
def ninD (x : D) (ys : List D) (st : Store) : Res D := if plain x && plains ys && decide (deep x ≤ 32) && decide (deeps ys ≤ 31) then .ok (.bl (!(ys.any fun z => eqD z x))) st else .bad
def cmpD (op : Co) (x y : D) (st : Store) : Res D := match op with
  | .eq => (eqR T call x y st).bind fun b st1 => .ok (.bl b) st1
  | .ne => (eqR T call x y st).bind fun b st1 => .ok (.bl (!b)) st1
  | .lt => (match x, y with
    | .int i, .int j => .ok (.bl (decide (i < j))) st
    | _, _ => .bad)
  | .le => (match x, y with
    | .int i, .int j => .ok (.bl (decide (i ≤ j))) st
    | _, _ => .bad)
  | .gt => (match x, y with
    | .int i, .int j => .ok (.bl (decide (j < i))) st
    | _, _ => .bad)
  | .ge => (match x, y with
    | .int i, .int j => .ok (.bl (decide (j ≤ i))) st
    | _, _ => .bad)
  | .isin => (match y with
    | .tup ys => if flat x && ys.all flat then .ok (.bl (ys.any fun z => eqD x z)) st else .bad
    | .lst ys => if flat x && ys.all flat then .ok (.bl (ys.any fun z => eqD x z)) st else inD x ys st
    | _ => .bad)
  | .notin => (match y with
    | .tup ys => if flat x && ys.all flat then .ok (.bl (!(ys.any fun z => eqD x z))) st else .bad
    | .lst ys => if flat x && ys.all flat then .ok (.bl (!(ys.any fun z => eqD x z))) st else ninD x ys st
    | _ => .bad)
  | .isNone => (match y, x with
    | .non, .non => .ok (.bl true) st
    | .non, _ => .ok (.bl false) st
    | _, _ => .bad)
  | .isNotNone => (match y, x with
    | .non, .non => .ok (.bl false) st
    | .non, _ => .ok (.bl true) st
    | _, _ => .bad)
def truD (x : D) (st : Store) : Res Bool := match x with
  | .non => .ok false st
  | .bl b => .ok b st
  | .int i => .ok (i != 0) st
  | .ins c _ => (match methOf T c nBool with
    | some j => (call j [x] st).bind fun d st1 => (match d with
      | .bl b => .ok b st1
      | _ => .bad)
    | none => .bad)
  | _ => .bad
/-- a list of the store -/
def getL (st : Store) (k : Nat) : Option (List D) := match st[k]? with
  | some (.lk xs) => some xs
  | _ => none
def strsD : List D → Option (List Str)
  | [] => some []
  | .str s :: r => (strsD r).map (s :: ·)
  | _ => none
def intsD : List D → Option (List Int)
  | [] => some []
  | .int i :: r => (intsD r).map (i :: ·)
  | _ => none
def insS (x : Str) : List Str → List Str
  | [] => [x]
  | y :: r => if x.cps.toList ≤ y.cps.toList then x :: y :: r else y :: insS x r
def sortS : List Str → List Str
  | [] => []
  | x :: r => insS x (sortS r)
def insI (x : Int) : List Int → List Int
  | [] => [x]
  | y :: r => if x ≤ y then x :: y :: r else y :: insI x r
def sortI : List Int → List Int
  | [] => []
  | x :: r => insI x (sortI r)
/-- each one once -/
def putI (x : Int) : List Int → List Int
  | [] => [x]
  | y :: r => if x < y then x :: y :: r else if x = y then y :: r else y :: putI x r
def setI : List Int → List Int
  | [] => []
  | x :: r => putI x (setI r)
/-- tuples of ints and texts, for sorting -/
abbrev Ky := Sum Int Str
def kyD : D → Option Ky
  | .int i => some (.inl i)
  | .str s => some (.inr s)
  | _ => none
def kysD : List D → Option (List Ky)
  | [] => some []
  | d :: r => (kyD d).bind fun k => (kysD r).map (k :: ·)
def tkD : D → Option (List Ky)
  | .tup xs => kysD xs
  | _ => none
def tksD : List D → Option (List (List Ky))
  | [] => some []
  | d :: r => (tkD d).bind fun k => (tksD r).map (k :: ·)
def kyV : Ky → D
  | .inl i => .int i
  | .inr s => .str s
def tkV (l : List Ky) : D := .tup (l.map kyV)
def ltK : Ky → Ky → Bool
  | .inl i, .inl j => decide (i < j)
  | .inl _, .inr _ => true
  | .inr _, .inl _ => false
  | .inr s, .inr t => decide (s.cps.toList < t.cps.toList)
def sameK : Ky → Ky → Bool
  | .inl _, .inl _ => true
  | .inr _, .inr _ => true
  | _, _ => false
def lexK : List Ky → List Ky → Bool
  | [], [] => false
  | [], _ :: _ => true
  | _ :: _, [] => false
  | x :: xs, y :: ys => if x = y then lexK xs ys else ltK x y
def okK : List Ky → List Ky → Bool
  | x :: xs, y :: ys => if x = y then okK xs ys else sameK x y
  | _, _ => true
def headsK (b : Bool) : List Ky → Bool
  | .inl _ :: _ => b
  | .inr _ :: _ => !b
  | [] => false
def insK (x : List Ky) : List (List Ky) → List (List Ky)
  | [] => [x]
  | y :: r => if lexK y x then y :: insK x r else x :: y :: r
def sortK : List (List Ky) → List (List Ky)
  | [] => []
  | x :: r => insK x (sortK r)
def okKs (l : List (List Ky)) : Bool := (l.all (headsK true) || l.all (headsK false)) && l.all fun a => l.all fun b => okK a b
def sumD : List D → Int → Option Int
  | [], a => some a
  | .int i :: r, a => sumD r (a + i)
  | _, _ => none
def boolsD : List D → Option (List Bool)
  | [] => some []
  | .bl b :: r => (boolsD r).map (b :: ·)
  | _ => none
def bltD (b : Bl) (x : D) (st : Store) : Res D := match b with
  | .len => (match x with
    | .lst xs | .tup xs => .ok (.int xs.length) st
    | .ref k => (match getL st k with
      | some xs => .ok (.int xs.length) st
      | none => .bad)
    | _ => .bad)
  | .abs => (match x with
    | .int i => .ok (.int (if i < 0 then -i else i)) st
    | .ins c _ => (match methOf T c nAbs with
      | some j => call j [x] st
      | none => .bad)
    | _ => .bad)
  | .int => (match x with
    | .int i => .ok (.int i) st
    | .bl k => .ok (.int (if k then 1 else 0)) st
    | _ => .bad)
  | .bool => (match x with
    | .ins .. => (truD T call x st).bind fun k st1 => .ok (.bl k) st1
    | .int i => .ok (.bl (i != 0)) st
    | .bl k => .ok (.bl k) st
    | _ => .bad)
  | .list => (match x with
    | .lst xs | .tup xs => .ok (.lst xs) st
    | _ => .bad)
  | .tuple => (match x with
    | .lst xs | .tup xs => .ok (.tup xs) st
    | .ref k => (match getL st k with
      | some xs => .ok (.tup xs) st
      | none => .bad)
    | _ => .bad)
  | .sum => (match x with
    | .lst xs => (match sumD xs 0 with
      | some n => .ok (.int n) st
      | none => .bad)
    | _ => .bad)
  | .all => (match x with
    | .lst xs => (match boolsD xs with
      | some bs => .ok (.bl (bs.all id)) st
      | none => .bad)
    | _ => .bad)
  | .any => (match x with
    | .lst xs => (match boolsD xs with
      | some bs => .ok (.bl (bs.any id)) st
      | none => .bad)
    | _ => .bad)
  | .sorted => (match x with
    | .lst xs => (match strsD xs with
      | some ss => if ss.length < 64 then .ok (.lst ((sortS ss).map .str)) st else .bad
      | none => (match tksD xs with
        | some ks => if ks.length ≤ 1000000 && okKs ks then .ok (.lst ((sortK ks).map tkV)) st else .bad
        | none => .bad))
    | _ => .bad)
def isiD (x : D) (t : Ty) : Option Bool := match x, t with
  | .int _, .int => some true
  | .bl _, .int => some true
  | .bl _, .bool => some true
  | .str _, .str => some true
  | .tup _, .tuple => some true
  | .lst _, .list => some true
  | .ins c _, .cls c' => if c = c' then some true else none
  | .int _, _ => some false
  | .bl _, _ => some false
  | .str _, _ => some false
  | .tup _, _ => some false
  | .lst _, _ => some false
  | .ins c _, .int => if (T.cls[c]?).isSome then some false else none
  | .ins c _, .bool => if (T.cls[c]?).isSome then some false else none
  | .ins c _, .str => if (T.cls[c]?).isSome then some false else none
  | .ins c _, .tuple => if (T.cls[c]?).isSome then some false else none
  | .ins c _, .list => if (T.cls[c]?).isSome then some false else none
  | .non, _ => some false
  | _, _ => none
def atD (xs : List D) (i : Int) : Option D := if 0 ≤ i then xs[i.toNat]? else if 0 ≤ i + xs.length then xs[(i + xs.length).toNat]? else none
def idxD (x y : D) (st : Store) : Res D := match x, y with
  | .lst xs, .int i | .tup xs, .int i => (match atD xs i with
    | some d => .ok d st
    | none => .bad)
  | .ref k, .int i => (match getL st k with
    | some xs => (match atD xs i with
      | some d => .ok d st
      | none => .bad)
    | none => .bad)
  | _, _ => .bad
/-- where a bound of a slice lies in a thing of length n -/
def cutAt (n d : Nat) : Option Int → Nat
  | none => d
  | some i => if i < 0 then (i + (n : Int)).toNat else min i.toNat n
def cutD (xs : List D) (lo hi : Option Int) : List D := (xs.drop (cutAt xs.length 0 lo)).take (cutAt xs.length xs.length hi - cutAt xs.length 0 lo)
def C.isNon : C → Bool
  | .non => true
  | _ => false
def bndD (n : Bool) (d : D) : Option (Option Int) := if n then some none else match d with
  | .int i => some (some i)
  | _ => none
def slD (m n : Bool) (x lo hi : D) (st : Store) : Res D := match x, bndD m lo, bndD n hi with
  | .lst xs, some l, some h => .ok (.lst (cutD xs l h)) st
  | .tup xs, some l, some h => .ok (.tup (cutD xs l h)) st
  | _, _, _ => .bad
def attrD (f : Nat) (x : D) (st : Store) : Res D := match x with
  | .ins c fs => (match propOf T c f with
    | some j => call j [x] st
    | none => (match fs.lookup f, fldOf T c f with
      | some d, true => .ok d st
      | _, _ => .bad))
  | _ => .bad
def methD (m : Nat) (x : D) (as : List D) (st : Store) : Res D := match x with
  | .ins c fs => (match methOf T c m, fs.lookup m with
    | some j, none => call j (x :: as) st
    | _, _ => .bad)
  | _ => .bad
def getCell (st : Store) (k : Nat) : Option (List (Nat × D)) := match st[k]? with
  | some (.dk kvs) => some kvs
  | _ => none
def dgetD (x : D) (k : Nat) (st : Store) : Res D := match x with
  | .ref r => (match getCell st r with
    | some kvs => (match kvs.lookup k with
      | some d => .ok d st
      | none => .bad)
    | none => .bad)
  | _ => .bad
def putL (k : Nat) (d : D) : List (Nat × D) → List (Nat × D)
  | [] => [(k, d)]
  | p :: r => if p.1 = k then (k, d) :: r else p :: putL k d r
/-- in its place, or at the end -/
def putM (k : Nat) (d : D) (kvs : List (Nat × D)) : List (Nat × D) := if (kvs.any fun p => decide (p.1 = k)) = true then kvs.map (fun p => if p.1 = k then (p.1, d) else p) else kvs ++ [(k, d)]
def dputD (x : D) (k : Nat) (d : D) (st : Store) : Option Store := match x with
  | .ref r => (match getCell st r with
    | some kvs => if kvs.length < 1000 then some (st.set r (.dk (putM k d kvs))) else none
    | none => none)
  | _ => none
def dictD (ks : List Nat) (as : List D) (st : Store) : Res D := if ks.length = as.length && ks.length ≤ 15 && decide ks.Nodup then .ok (.ref st.length) (st ++ [.dk (ks.zip as)]) else .bad

/-- where an item lies -/
def itIx (n : Nat) (i : Int) : Option Nat := if 0 ≤ i then (if i < n then some i.toNat else none) else if -(n : Int) ≤ i then some (i + n).toNat else none
def isLk (x : D) (st : Store) : Bool := match x with
  | .ref k => (getL st k).isSome
  | _ => false
def popD (x y : D) (st : Store) : Res D := match x, y with
  | .ref k, .int i => (match getL st k with
    | some xs => (match itIx xs.length i with
      | some j => (match xs[j]? with
        | some d => if xs.length ≤ 1000000 then .ok d (st.set k (.lk (xs.eraseIdx j))) else .bad
        | none => .bad)
      | none => .bad)
    | none => .bad)
  | _, _ => .bad
def setD (x y d : D) (st : Store) : Option Store := match x, y with
  | .ref k, .int i => (match getL st k with
    | some xs => (match itIx xs.length i with
      | some j => some (st.set k (.lk (xs.set j d)))
      | none => none)
    | none => none)
  | _, _ => none
def newcD (x : D) (st : Store) : Res D := match x with
  | .lst xs => .ok (.ref st.length) (st ++ [.lk xs])
  | _ => .bad
def ssortD (x : D) (st : Store) : Res D := match x with
  | .lst xs => (match intsD xs with
    | some ns => if ns.length < 64 then .ok (.lst ((setI ns).map .int)) st else .bad
    | none => .bad)
  | _ => .bad
def max2D (x y : D) (st : Store) : Res D := match x, y with
  | .int i, .int j => .ok (.int (if j > i then j else i)) st
  | _, _ => .bad
mutual
def toP : D → PyData
  | .non => .none
  | .bl b => .bool b
  | .int i => .int i
  | .str s => .str s
  | .tup xs => .tuple (toPs xs)
  | .lst xs => .list (toPs xs)
  | _ => .none
def toPs : List D → List PyData
  | [] => []
  | d :: r => toP d :: toPs r
end
mutual
/-- at least as long as the value's repr -/
def wtD : D → Nat
  | .int i => i.natAbs.log2 + 3
  | .str s => 10 * s.cps.size + 2
  | .tup xs | .lst xs => wtsD xs + 3
  | _ => 5
def wtsD : List D → Nat
  | [] => 0
  | d :: r => wtD d + 2 + wtsD r
end
mutual
/-- ints that str takes -/
def shortD : D → Bool
  | .int i => decide (i.natAbs.log2 < 1920)
  | .tup xs | .lst xs => shortsD xs
  | _ => true
def shortsD : List D → Bool
  | [] => true
  | d :: r => shortD d && shortsD r
end
def dispD : D → Bool
  | .tup _ | .lst _ => true
  | _ => false
def reprD (x : D) (st : Store) : Res D := match x with
  | .int i => if i.natAbs.log2 < 1920 then .ok (.str (toString i : String)) st else .bad
  | _ => if dispD x && plain x && decide (deep x ≤ 32) && shortD x && decide (wtD x ≤ 1000000) then .ok (.str (toP x).shown) st else .bad
def replD (xs : List D) (y : D) (st : Store) : Res D := match y with
  | .int k => if -1000 ≤ k ∧ k ≤ 1000 ∧ xs.length ≤ 1000 then .ok (.lst (List.replicate k.toNat xs).flatten) st else .bad
  | _ => .bad
def lrngD (y : D) (st : Store) : Res D := match y with
  | .int k => if -1000000 ≤ k ∧ k ≤ 1000000 then .ok (.lst ((List.range k.toNat).map fun i => .int ((0 : Int) + (i : Nat)))) st else .bad
  | _ => .bad
def zipD : List D → List D → List D
  | a :: r, b :: s => .tup [a, b] :: zipD r s
  | _, _ => []
def slotV (ρ : Env) (i : Nat) : Option D := match ρ[i]? with
  | some (some (.v d)) => some d
  | _ => none
def slotO (ρ : Env) (i : Nat) : Option (List D) := match ρ[i]? with
  | some (some (.own xs)) => some xs
  | _ => none
/-- one name: the value itself; several: a tuple unpacked -/
def setAll : List Nat → List D → Env → Option Env
  | [], [], ρ => some ρ
  | i :: is, d :: ds, ρ => if i < ρ.length then setAll is ds (ρ.set i (some (.v d))) else none
  | _, _, _ => none
def bindT (tg : List Nat) (d : D) (ρ : Env) : Option Env := match tg with
  | [i] => if i < ρ.length then some (ρ.set i (some (.v d))) else none
  | is => (match d with
    | .tup ds => setAll is ds ρ
    | _ => none)
/-- several targets at once; true: the slot owns the list -/
def setPar : List (Nat × Bool) → List D → Env → Option Env
  | [], [], ρ => some ρ
  | (i, false) :: r, d :: ds, ρ => if i < ρ.length then setPar r ds (ρ.set i (some (.v d))) else none
  | (i, true) :: r, .lst xs :: ds, ρ => if i < ρ.length then setPar r ds (ρ.set i (some (.own xs))) else none
  | _, _, _ => none
/-- the slots of a comprehension's own names are forgotten -/
def wipeE (ρ : Env) : List Nat → Env
  | [] => ρ
  | i :: r => (wipeE ρ r).set i none

def mapR (f : D → Store → Res (Option D)) : List D → Store → Res (List D)
  | [], st => .ok [] st
  | d :: r, st => (f d st).bind fun o st1 => (mapR f r st1).bind fun ds st2 => .ok (match o with
    | some x => x :: ds
    | none => ds) st2
def flatR (f : D → Store → Res (List D)) : List D → Store → Res (List D)
  | [], st => .ok [] st
  | d :: r, st => (f d st).bind fun xs st1 => (flatR f r st1).bind fun ds st2 => .ok (xs ++ ds) st2
def enumD (xs : List D) : List D := xs.zipIdx.map fun p => .tup [.int p.2, p.1]
def rngD (lo : Int) (n : Nat) : List D := (List.range n).map fun i => .int (lo + (i : Nat))

mutual
def ev : C → Env → Store → Res D
  | .var i, ρ, st => (match slotV ρ i with
    | some d => .ok d st
    | none => .bad)
  | .bor i, ρ, st => (match slotO ρ i with
    | some xs => .ok (.lst xs) st
    | none => .bad)
  | .non, _, st => .ok .non st
  | .bl b, _, st => .ok (.bl b) st
  | .int i, _, st => .ok (.int i) st
  | .str s, _, st => .ok (.str s) st
  | .gfn j, _, st => .ok (.fn j) st
  | .gco k, _, st => (match T.con[k]? with
    | some d => .ok d st
    | none => .bad)
  | .neg a, ρ, st => (ev a ρ st).bind fun x st1 => negD T call x st1
  | .not a, ρ, st => (ev a ρ st).bind fun x st1 => (match x with
    | .bl b => .ok (.bl (!b)) st1
    | _ => .bad)
  | .bin op a b, ρ, st => (ev a ρ st).bind fun x st1 => (ev b ρ st1).bind fun y st2 => binD T call op x y st2
  | .cmp op a b, ρ, st => (ev a ρ st).bind fun x st1 => (ev b ρ st1).bind fun y st2 => cmpD T call op x y st2
  | .chain o1 o2 a b c, ρ, st => (ev a ρ st).bind fun x st1 => (ev b ρ st1).bind fun y st2 => (cmpD T call o1 x y st2).bind fun r st3 => (match r with
    | .bl true => (ev c ρ st3).bind fun z st4 => cmpD T call o2 y z st4
    | .bl false => .ok (.bl false) st3
    | _ => .bad)
  | .and as, ρ, st => evAnd as ρ st
  | .or as, ρ, st => evOr as ρ st
  | .ite t a b, ρ, st => (ev t ρ st).bind fun x st1 => (truD T call x st1).bind fun k st2 => if k then ev a ρ st2 else ev b ρ st2
  | .tup as, ρ, st => (evs as ρ st).bind fun xs st1 => .ok (.tup xs) st1
  | .lst as, ρ, st => (evs as ρ st).bind fun xs st1 => .ok (.lst xs) st1
  | .idx a b, ρ, st => (ev a ρ st).bind fun x st1 => (ev b ρ st1).bind fun y st2 => idxD x y st2
  | .sl a lo hi, ρ, st => (ev a ρ st).bind fun x st1 => (ev lo ρ st1).bind fun l st2 => (ev hi ρ st2).bind fun h st3 => slD lo.isNon hi.isNon x l h st3
  | .call j as ds, ρ, st => (evs as ρ st).bind fun xs st1 => call j (xs ++ ds) st1
  | .callV i as, ρ, st => (evs as ρ st).bind fun xs st1 => (match slotV ρ i with
    | some (.fn j) => call j xs st1
    | _ => .bad)
  | .make c as ds, ρ, st => (evs as ρ st).bind fun xs st1 => (match T.cls[c]? with
    | some k => call k.init (xs ++ ds) st1
    | none => .bad)
  | .meth m o as, ρ, st => (ev o ρ st).bind fun x st1 => (evs as ρ st1).bind fun xs st2 => methD T call m x xs st2
  | .attr f o, ρ, st => (ev o ρ st).bind fun x st1 => attrD T call f x st1
  | .blt b a, ρ, st => (ev a ρ st).bind fun x st1 => bltD T call b x st1
  | .isi a t, ρ, st => (ev a ρ st).bind fun x st1 => (match isiD T x t with
    | some b => .ok (.bl b) st1
    | none => .bad)
  | .lc elt tg it ifs, ρ, st => (evIt it ρ st).bind fun xs st1 => if 1000000 < xs.length then .bad else (mapR (fun d st2 => match bindT tg d (wipeE ρ tg) with
      | some ρ1 => (evIfs ifs ρ1 st2).bind fun k st3 => if k then (ev elt ρ1 st3).bind fun y st4 => .ok (some y) st4 else .ok none st3
      | none => .bad) xs st1).bind fun ys st2 => .ok (.lst ys) st2
  | .dget o k, ρ, st => (ev o ρ st).bind fun x st1 => dgetD x k st1
  | .dict ks as, ρ, st => (evs as ρ st).bind fun xs st1 => dictD ks xs st1
  | .newc a, ρ, st => (ev a ρ st).bind fun x st1 => newcD x st1
  | .popc o i, ρ, st => (ev o ρ st).bind fun x st1 => if isLk x st1 then (ev i ρ st1).bind fun y st2 => popD x y st2 else .bad
  | .max2 a b, ρ, st => (ev a ρ st).bind fun x st1 => (ev b ρ st1).bind fun y st2 => max2D x y st2
  | .ssort a, ρ, st => (ev a ρ st).bind fun x st1 => ssortD x st1
  | .kcall j as, ρ, st => (evs as ρ st).bind fun xs st1 => call j xs st1
  | .repr a, ρ, st => (ev a ρ st).bind fun x st1 => reprD x st1
  | .catb i b, ρ, st => (ev b ρ st).bind fun y st1 => (match slotO ρ i, y with
    | some xs, .lst ys => if xs.length + ys.length ≤ 1000000 then .ok (.lst (xs ++ ys)) st1 else .bad
    | _, _ => .bad)
  | .lrng a, ρ, st => (ev a ρ st).bind fun y st1 => lrngD y st1
  | .callB j as, ρ, st => (evs as ρ st).bind fun xs st1 => if plains xs then (match call j xs [] with
    | .ok d [] => if flat d then .ok d st1 else .bad
    | _ => .bad) else .bad
  | .lc2 elt tg it tg2 it2, ρ, st => (evIt it ρ st).bind fun xs st1 => if 1000 < xs.length then .bad else (flatR (fun d st2 => match bindT tg d (wipeE ρ (tg ++ tg2)) with
      | some ρ1 => (evIt it2 ρ1 st2).bind fun ys st3 => if 1000 < ys.length then .bad else mapR (fun e st4 => match bindT tg2 e (wipeE ρ1 tg2) with
          | some ρ2 => (ev elt ρ2 st4).bind fun y st5 => .ok (some y) st5
          | none => .bad) ys st3
      | none => .bad) xs st1).bind fun ys st2 => .ok (.lst ys) st2
  | .repl as n, ρ, st => (evs as ρ st).bind fun xs st1 => (ev n ρ st1).bind fun y st2 => replD xs y st2
def evs : Cs → Env → Store → Res (List D)
  | .nil, _, st => .ok [] st
  | .cons c r, ρ, st => (ev c ρ st).bind fun x st1 => (evs r ρ st1).bind fun xs st2 => .ok (x :: xs) st2
def evAnd : Cs → Env → Store → Res D
  | .nil, _, _ => .bad
  | .cons c .nil, ρ, st => ev c ρ st
  | .cons c (.cons c2 r), ρ, st => (ev c ρ st).bind fun x st1 => (match x with
    | .bl true => evAnd (.cons c2 r) ρ st1
    | .bl false => .ok (.bl false) st1
    | _ => .bad)
def evOr : Cs → Env → Store → Res D
  | .nil, _, _ => .bad
  | .cons c .nil, ρ, st => ev c ρ st
  | .cons c (.cons c2 r), ρ, st => (ev c ρ st).bind fun x st1 => (match x with
    | .bl true => .ok (.bl true) st1
    | .bl false => evOr (.cons c2 r) ρ st1
    | _ => .bad)
def evIt : It → Env → Store → Res (List D)
  | .seq c, ρ, st => (ev c ρ st).bind fun x st1 => (match x with
    | .lst xs | .tup xs => .ok xs st1
    | _ => .bad)
  | .rng1 a, ρ, st => (ev a ρ st).bind fun x st1 => (match x with
    | .int n => if decide (-(2 ^ 62) ≤ n) && decide (n < 2 ^ 62) then .ok (rngD 0 n.toNat) st1 else .bad
    | _ => .bad)
  | .rng2 a b, ρ, st => (ev a ρ st).bind fun x st1 => (ev b ρ st1).bind fun y st2 => (match x, y with
    | .int i, .int j => if decide (-(2 ^ 62) ≤ i) && decide (i < 2 ^ 62) && decide (-(2 ^ 62) ≤ j) && decide (j < 2 ^ 62) then .ok (rngD i (j - i).toNat) st2 else .bad
    | _, _ => .bad)
  | .enum a, ρ, st => (ev a ρ st).bind fun x st1 => (match x with
    | .lst xs | .tup xs => .ok (enumD xs) st1
    | _ => .bad)
  | .zip a b, ρ, st => (ev a ρ st).bind fun x st1 => (ev b ρ st1).bind fun y st2 => (match x, y with
    | .lst xs, .lst ys | .lst xs, .tup ys | .tup xs, .lst ys | .tup xs, .tup ys => .ok (zipD xs ys) st2
    | _, _ => .bad)
def evIfs : Cs → Env → Store → Res Bool
  | .nil, _, st => .ok true st
  | .cons c .nil, ρ, st => (ev c ρ st).bind fun x st1 => truD T call x st1
  | _, _, _ => .bad
end
def evT (c : C) (ρ : Env) (st : Store) : Res Bool := (ev T call c ρ st).bind fun x st1 => truD T call x st1

def forR (tg : List Nat) (body : Env → Store → Fl) : List D → Env → Store → Fl
  | [], ρ, st => .nx ρ st
  | d :: r, ρ, st => match bindT tg d ρ with
    | some ρ1 => (match body ρ1 st with
      | .nx ρ2 st2 => forR tg body r ρ2 st2
      | .ct ρ2 st2 => forR tg body r ρ2 st2
      | .bk ρ2 st2 => .nx ρ2 st2
      | f => f)
    | none => .bad
def whlR (test : Env → Store → Res Bool) (body : Env → Store → Fl) : Nat → Env → Store → Fl
  | 0, _, _ => .bad
  | n + 1, ρ, st => match test ρ st with
    | .ok true st1 => (match body ρ st1 with
      | .nx ρ2 st2 => whlR test body n ρ2 st2
      | .ct ρ2 st2 => whlR test body n ρ2 st2
      | .bk ρ2 st2 => .nx ρ2 st2
      | f => f)
    | .ok false st1 => .nx ρ st1
    | .exc k fs st1 => .exc k fs st1
    | .bad => .bad
def Res.fl {α : Type} (r : Res α) (f : α → Store → Fl) : Fl := match r with
  | .ok a st => f a st
  | .exc k fs st => .exc k fs st
  | .bad => .bad
@[simp] theorem Res.fl_ok {α : Type} (a : α) (st : Store) (f : α → Store → Fl) : (Res.ok a st).fl f = f a st := rfl
@[simp] theorem Res.fl_bad {α : Type} (f : α → Store → Fl) : (Res.bad : Res α).fl f = .bad := rfl

variable (wf : Nat)
mutual
def evS : S → Env → Store → Fl
  | .set i e, ρ, st => (ev T call e ρ st).fl fun x st1 => if i < ρ.length then .nx (ρ.set i (some (.v x))) st1 else .bad
  | .own i e, ρ, st => (ev T call e ρ st).fl fun x st1 => (match x with
    | .lst xs => if i < ρ.length then .nx (ρ.set i (some (.own xs))) st1 else .bad
    | _ => .bad)
  | .frz i, ρ, st => (match slotO ρ i with
    | some xs => .nx (ρ.set i (some (.v (.lst xs)))) st
    | none => .bad)
  | .unp is e, ρ, st => (ev T call e ρ st).fl fun x st1 => (match x with
    | .tup ds => (match setAll is ds ρ with
      | some ρ1 => .nx ρ1 st1
      | none => .bad)
    | _ => .bad)
  | .par i j a b, ρ, st => (ev T call a ρ st).fl fun x st1 => (ev T call b ρ st1).fl fun y st2 => if i < ρ.length ∧ j < ρ.length ∧ i ≠ j then .nx ((ρ.set i (some (.v x))).set j (some (.v y))) st2 else .bad
  | .fld i f e, ρ, st => (ev T call e ρ st).fl fun x st1 => (match ρ[i]? with
    | some (some (.self c fs)) => if fs.length < 100 ∧ fldOf T c f = true then .nx (ρ.set i (some (.self c (putL f x fs)))) st1 else .bad
    | _ => .bad)
  | .dput o k e, ρ, st => (ev T call e ρ st).fl fun x st1 => (ev T call o ρ st1).fl fun y st2 => (match dputD y k x st2 with
    | some st3 => .nx ρ st3
    | none => .bad)
  | .app i e, ρ, st => (ev T call e ρ st).fl fun x st1 => (match slotO ρ i with
    | some xs => if xs.length < 1000000 then .nx (ρ.set i (some (.own (xs ++ [x])))) st1 else .bad
    | none => .bad)
  | .ext i e, ρ, st => (ev T call e ρ st).fl fun x st1 => (match x, slotO ρ i with
    | .lst ys, some xs => if xs.length + ys.length ≤ 1000000 then .nx (ρ.set i (some (.own (xs ++ ys)))) st1 else .bad
    | _, _ => .bad)
  | .setc o i e, ρ, st => (ev T call e ρ st).fl fun x st1 => (ev T call o ρ st1).fl fun y st2 => (ev T call i ρ st2).fl fun z st3 => (match setD y z x st3 with
    | some st4 => .nx ρ st4
    | none => .bad)
  | .ins i p e, ρ, st => (ev T call p ρ st).fl fun x st1 => (ev T call e ρ st1).fl fun y st2 => (match slotO ρ i, x with
    | some xs, .int k => if 0 ≤ k ∧ k < 1000000 ∧ xs.length < 1000000 then .nx (ρ.set i (some (.own (xs.take k.toNat ++ [y] ++ xs.drop k.toNat)))) st2 else .bad
    | _, _ => .bad)
  | .parN ts es, ρ, st => (evs T call es ρ st).fl fun xs st1 => (match setPar ts xs ρ with
    | some ρ1 => .nx ρ1 st1
    | none => .bad)
  | .parc o i j a b, ρ, st => (ev T call a ρ st).fl fun x st1 => (ev T call b ρ st1).fl fun y st2 => (ev T call o ρ st2).fl fun u st3 => (ev T call i ρ st3).fl fun z st4 => (match setD u z x st4 with
    | some st5 => if j < ρ.length then .nx (ρ.set j (some (.v y))) st5 else .bad
    | none => .bad)
  | .popo i p, ρ, st => (ev T call p ρ st).fl fun x st1 => (match slotO ρ i, x with
    | some xs, .int k => if 0 ≤ k ∧ k < xs.length ∧ k < 1000000 then .nx (ρ.set i (some (.own (xs.eraseIdx k.toNat)))) st1 else .bad
    | _, _ => .bad)
  | .mtch e ks, ρ, st => (ev T call e ρ st).fl fun x st1 => (match x with
    | .str s => evKs ks s ρ st1
    | _ => .bad)
  | .ex e, ρ, st => (ev T call e ρ st).fl fun _ st1 => .nx ρ st1
  | .ite t a b, ρ, st => (evT T call t ρ st).fl fun k st1 => if k then evSs a ρ st1 else evSs b ρ st1
  | .for tg it body, ρ, st => (evIt T call it ρ st).fl fun xs st1 => forR tg (evSs body) xs ρ st1
  | .whl t body, ρ, st => whlR (evT T call t) (evSs body) wf ρ st
  | .ret e, ρ, st => (ev T call e ρ st).fl fun x st1 => .rt x st1
  | .never, _, _ => .bad
  | .pass, ρ, st => .nx ρ st
  | .brk, ρ, st => .bk ρ st
  | .cont, ρ, st => .ct ρ st
def evSs : Ss → Env → Store → Fl
  | .nil, ρ, st => .nx ρ st
  | .cons s r, ρ, st => match evS s ρ st with
    | .nx ρ1 st1 => evSs r ρ1 st1
    | f => f
def evKs : Ks → Str → Env → Store → Fl
  | .nil, _, ρ, st => .nx ρ st
  | .cons vs b r, s, ρ, st => if vs.contains s then evSs b ρ st else evKs r s ρ st
  | .wild b, _, ρ, st => evSs b ρ st
end
end

/-- a def: the number of its slots, of its parameters, its body; an __init__: its class -/
structure Fn where
  slots : Nat
  pars : Nat
  body : Ss
  init : Option Nat
  fresh : Bool

def startE (n : Nat) (ds : List D) : Env := ds.map (fun d => some (.v d)) ++ List.replicate (n - ds.length) none
def endF (fr : Bool) (f : Fl) : Res D := match f with
  | .nx _ st => if fr then .bad else .ok .non st
  | .rt d st => .ok d st
  | .exc k fs st => .exc k fs st
  | _ => .bad
def endI (c : Nat) (f : Fl) : Res D := match f with
  | .nx ρ st => (match (ρ[0]? : Option (Option Slot)) with
    | some (some (.self c' fs)) => if c' = c then .ok (.ins c fs) st else .bad
    | _ => .bad)
  | .exc k fs st => .exc k fs st
  | _ => .bad
def run (T : Tab) (fns : List Fn) (wf : Nat) : Nat → Nat → List D → Store → Res D
  | 0, _, _, _ => .bad
  | n + 1, j, as, st => match fns[j]? with
    | none => .bad
    | some f => match f.init with
      | none => if as.length = f.pars then endF f.fresh (evSs T (run T fns wf n) wf f.body (startE f.slots as) st) else .bad
      | some c => if as.length + 1 = f.pars then endI c (evSs T (run T fns wf n) wf f.body (some (.self c []) :: startE (f.slots - 1) as) st) else .bad
/-! ### the program's tables -/
structure ClsI where
  name : PySem.Str
  init : Nat
  flds : List Nat
  meth : List (Nat × Nat)
  prop : List (Nat × Nat)
structure FnI where
  glob : Option PySem.Str
  N : List PySem.Str
  ps : List PySem.Str
  dfl : List D
  body : Ss
  init : Option Nat
  fresh : Bool
  kw : Bool := false
structure Prg where
  nm : List PySem.Str
  fns : List FnI
  cls : List ClsI
  con : List (PySem.Str × D)
  blt : List PySem.Str
def Prg.tab (P : Prg) : Tab := ⟨P.cls.map fun k => ⟨k.init, k.flds, k.meth, k.prop⟩, P.con.map (·.2)⟩
def Prg.fn (P : Prg) : List Fn := P.fns.map fun f => ⟨f.N.length, f.ps.length, f.body, f.init, f.fresh⟩
end Eng

/-! What sorted gives is what the interpreter sorts. -/
namespace Eng
open PySem PyProof.Rows
def leS (x y : PySem.Str) : Prop := x.cps.toList ≤ y.cps.toList
instance (x y : PySem.Str) : Decidable (leS x y) := inferInstanceAs (Decidable (_ ≤ _))
theorem leS_tot (x y : PySem.Str) : leS x y ∨ leS y x := List.le_total _ _
theorem leS_tr {x y z : PySem.Str} (a : leS x y) (b : leS y z) : leS x z := List.le_trans a b
theorem leS_as {x y : PySem.Str} (a : leS x y) (b : leS y x) : x = y := by
  have e : x.cps.toList = y.cps.toList := List.le_antisymm a b
  cases x; cases y
  congr 1
  exact Array.toList_inj.mp e
theorem insS_perm (x : PySem.Str) : ∀ l : List PySem.Str, (insS x l).Perm (x :: l)
  | [] => .refl _
  | y :: r => by
    unfold insS
    split
    · exact .refl _
    · exact ((insS_perm x r).cons y).trans (.swap x y r)
theorem sortS_perm : ∀ l : List PySem.Str, (sortS l).Perm l
  | [] => .refl _
  | x :: r => (insS_perm x (sortS r)).trans ((sortS_perm r).cons x)
theorem insS_pw (x : PySem.Str) : ∀ l : List PySem.Str, l.Pairwise leS → (insS x l).Pairwise leS
  | [], _ => List.pairwise_singleton _ _
  | y :: r, h => by
    rw [List.pairwise_cons] at h
    unfold insS
    split
    · rename_i q
      rw [List.pairwise_cons, List.pairwise_cons]
      refine ⟨fun z hz => ?_, h⟩
      rcases List.mem_cons.mp hz with rfl | hz
      · exact q
      · exact leS_tr q (h.1 z hz)
    · rename_i q
      rw [List.pairwise_cons]
      refine ⟨fun z hz => ?_, insS_pw x r h.2⟩
      rcases List.mem_cons.mp ((insS_perm x r).mem_iff.mp hz) with rfl | hz
      · exact (leS_tot y z).resolve_right q
      · exact h.1 z hz
theorem sortS_pw : ∀ l : List PySem.Str, (sortS l).Pairwise leS
  | [] => .nil
  | x :: r => insS_pw x _ (sortS_pw r)
theorem rising_pw : ∀ (l : List PySem.Str) (p : PySem.Str), risingS p l = true → (p :: l).Pairwise leS
  | [], p, _ => List.pairwise_singleton _ _
  | x :: r, p, h => by
    unfold risingS at h
    rw [Bool.and_eq_true] at h
    have q := rising_pw r x h.2
    have e : leS p x := by
      have z := h.1
      rw [ltCps_eq] at z
      have z : ¬ x.cps.toList < p.cps.toList := by simpa using z
      exact z
    rw [List.pairwise_cons] at q ⊢
    refine ⟨fun z hz => ?_, List.pairwise_cons.mpr q⟩
    rcases List.mem_cons.mp hz with rfl | hz
    · exact e
    · exact leS_tr e (q.1 z hz)
theorem sortS_is {xs ys : List PySem.Str} (hp : ys.Perm xs) (hs : sortedS ys = true) : ys = sortS xs := by
  have h1 : ys.Pairwise leS := by
    cases ys with
    | nil => exact .nil
    | cons x r => exact rising_pw r x hs
  exact List.Perm.eq_of_pairwise (fun a b _ _ h1 h2 => leS_as h1 h2) h1 (sortS_pw xs) (hp.trans (sortS_perm xs).symm)
theorem putI_mem (x k : Int) : ∀ l : List Int, k ∈ putI x l ↔ k = x ∨ k ∈ l
  | [] => by simp [putI]
  | y :: r => by
    unfold putI
    split
    · simp
    · split
      · rename_i e; subst e; simp
      · simp only [List.mem_cons, putI_mem x k r]
        constructor
        · rintro (h | h | h)
          · exact .inr (.inl h)
          · exact .inl h
          · exact .inr (.inr h)
        · rintro (h | h | h)
          · exact .inr (.inl h)
          · exact .inl h
          · exact .inr (.inr h)
theorem putI_pw (x : Int) : ∀ l : List Int, l.Pairwise (· < ·) → (putI x l).Pairwise (· < ·)
  | [], _ => List.pairwise_singleton _ _
  | y :: r, h => by
    have h0 := h
    rw [List.pairwise_cons] at h
    unfold putI
    split
    · rename_i q
      rw [List.pairwise_cons]
      refine ⟨fun z hz => ?_, h0⟩
      rcases List.mem_cons.mp hz with rfl | hz
      · exact q
      · exact Int.lt_trans q (h.1 z hz)
    · split
      · exact h0
      · rw [List.pairwise_cons]
        refine ⟨fun z hz => ?_, putI_pw x r h.2⟩
        rcases (putI_mem x z r).mp hz with rfl | hz
        · omega
        · exact h.1 z hz
theorem setI_mem (k : Int) : ∀ l : List Int, k ∈ setI l ↔ k ∈ l
  | [] => by simp [setI]
  | x :: r => by simp [setI, putI_mem, setI_mem k r]
theorem setI_pw : ∀ l : List Int, (setI l).Pairwise (· < ·)
  | [] => .nil
  | x :: r => putI_pw x _ (setI_pw r)
theorem pw_nodup {l : List Int} (h : l.Pairwise (· < ·)) : l.Nodup := h.imp fun z => by omega
theorem setI_is {ns out : List Int} (hp : out.Pairwise (· < ·)) (hm : ∀ k, k ∈ out ↔ k ∈ ns) : out = setI ns := by
  have p : out.Perm (setI ns) := (List.perm_ext_iff_of_nodup (pw_nodup hp) (pw_nodup (setI_pw ns))).mpr fun a => by rw [hm, setI_mem]
  exact List.Perm.eq_of_pairwise (le := (· ≤ ·)) (fun a b _ _ h1 h2 => by omega) (hp.imp fun h => by omega) ((setI_pw ns).imp fun h => by omega) p
theorem strsD_map : ∀ {xs : List D} {ss : List PySem.Str}, strsD xs = some ss → xs = ss.map .str
  | [], ss, h => by cases h; rfl
  | .str s :: r, ss, h => by
    unfold strsD at h
    cases q : strsD r with
    | none => rw [q] at h; cases h
    | some t => rw [q] at h; cases h; rw [strsD_map q]; rfl
  | .non :: _, _, h => by cases h
  | .bl _ :: _, _, h => by cases h
  | .int _ :: _, _, h => by cases h
  | .tup _ :: _, _, h => by cases h
  | .lst _ :: _, _, h => by cases h
  | .ins _ _ :: _, _, h => by cases h
  | .fn _ :: _, _, h => by cases h
  | .ref _ :: _, _, h => by cases h
theorem intsD_map : ∀ {xs : List D} {ss : List Int}, intsD xs = some ss → xs = ss.map .int
  | [], ss, h => by cases h; rfl
  | .int s :: r, ss, h => by
    unfold intsD at h
    cases q : intsD r with
    | none => rw [q] at h; cases h
    | some t => rw [q] at h; cases h; rw [intsD_map q]; rfl
  | .non :: _, _, h => by cases h
  | .bl _ :: _, _, h => by cases h
  | .str _ :: _, _, h => by cases h
  | .tup _ :: _, _, h => by cases h
  | .lst _ :: _, _, h => by cases h
  | .ins _ _ :: _, _, h => by cases h
  | .fn _ :: _, _, h => by cases h
  | .ref _ :: _, _, h => by cases h
end Eng

/-! sorted of a list of tuples of ints and texts. -/
namespace Eng
open PySem PySem.Spec PyProof.Rows L2
/-! ### the order -/
theorem ltK_irr (x : Ky) : ltK x x = false := by
  cases x <;> simp [ltK, List.lt_irrefl]
theorem ltK_asym {x y : Ky} (h : ltK x y = true) : ltK y x = false := by
  cases x <;> cases y <;> simp [ltK] at h ⊢
  · omega
  · exact List.le_of_lt h
theorem ltK_tri {x y : Ky} (h : x ≠ y) (h2 : ltK x y = false) : ltK y x = true := by
  cases x <;> cases y <;> simp [ltK] at h2 ⊢
  · rename_i i j
    have : i ≠ j := fun e => h (by rw [e])
    omega
  · rename_i a b
    rcases leS_tot a b with q | q
    · exact absurd (leS_as q h2) (fun e => h (by rw [e]))
    · have hn : ¬ leS a b := fun z => h (by rw [leS_as z h2])
      exact List.not_le.mp hn
theorem ltK_tr {x y z : Ky} (h1 : ltK x y = true) (h2 : ltK y z = true) : ltK x z = true := by
  cases x <;> cases y <;> cases z <;> simp [ltK] at h1 h2 ⊢
  · omega
  · exact List.lt_trans h1 h2
theorem lexK_irr : ∀ l : List Ky, lexK l l = false
  | [] => rfl
  | x :: l => by simp [lexK, lexK_irr l]
theorem lexK_asym : ∀ {a b : List Ky}, lexK a b = true → lexK b a = false
  | [], [], h => by cases h
  | [], _ :: _, _ => rfl
  | _ :: _, [], h => by cases h
  | x :: a, y :: b, h => by
    unfold lexK at h ⊢
    by_cases e : x = y
    · subst e
      simp only [if_true] at h ⊢
      exact lexK_asym h
    · rw [if_neg e] at h
      rw [if_neg (Ne.symm e)]
      exact ltK_asym h
theorem lexK_tri : ∀ {a b : List Ky}, lexK a b = false → lexK b a = false → a = b
  | [], [], _, _ => rfl
  | [], _ :: _, h, _ => by cases h
  | _ :: _, [], _, h => by cases h
  | x :: a, y :: b, h, h2 => by
    unfold lexK at h h2
    by_cases e : x = y
    · subst e
      simp only [if_true] at h h2
      rw [lexK_tri h h2]
    · rw [if_neg e] at h
      rw [if_neg (Ne.symm e)] at h2
      rw [ltK_tri e h] at h2
      cases h2
theorem lexK_tr : ∀ {a b c : List Ky}, lexK a b = true → lexK b c = true → lexK a c = true
  | [], [], [], h1, _ => by cases h1
  | [], _ :: _, [], _, h2 => by cases h2
  | [], _, _ :: _, _, _ => rfl
  | _ :: _, [], _, h1, _ => by cases h1
  | _ :: _, _ :: _, [], _, h2 => by cases h2
  | x :: a, y :: b, z :: c, h1, h2 => by
    unfold lexK at h1 h2 ⊢
    by_cases e : x = y
    · subst e
      simp only [if_true] at h1
      by_cases e2 : x = z
      · subst e2
        simp only [if_true] at h2 ⊢
        exact lexK_tr h1 h2
      · rw [if_neg e2] at h2 ⊢
        exact h2
    · rw [if_neg e] at h1
      by_cases e2 : y = z
      · subst e2
        rw [if_neg e]
        exact h1
      · rw [if_neg e2] at h2
        have h3 := ltK_tr h1 h2
        have e3 : x ≠ z := fun q => by
          subst q
          rw [ltK_asym h1] at h2
          cases h2
        rw [if_neg e3]
        exact h3
theorem lexK_ntr {x y z : List Ky} (h1 : lexK y x = false) (h2 : lexK z y = false) : lexK z x = false := by
  cases h : lexK z x with
  | false => rfl
  | true =>
    cases h3 : lexK x y with
    | true => rw [lexK_tr h h3] at h2; cases h2
    | false =>
      have e := lexK_tri h3 h1
      subst e
      rw [h2] at h
      cases h
theorem swoK {α : Type} (k : α → List Ky) : SrtO.Swo fun v u => lexK (k v) (k u) := ⟨fun x y h => lexK_asym h, fun x y z h1 h2 => lexK_ntr h1 h2⟩
def leK (x y : List Ky) : Prop := lexK y x = false
theorem insK_perm (x : List Ky) : ∀ l : List (List Ky), (insK x l).Perm (x :: l)
  | [] => .refl _
  | y :: r => by
    unfold insK
    split
    · exact ((insK_perm x r).cons y).trans (.swap x y r)
    · exact .refl _
theorem sortK_perm : ∀ l : List (List Ky), (sortK l).Perm l
  | [] => .refl _
  | x :: r => (insK_perm x (sortK r)).trans ((sortK_perm r).cons x)
theorem insK_pw (x : List Ky) : ∀ l : List (List Ky), l.Pairwise leK → (insK x l).Pairwise leK
  | [], _ => List.pairwise_singleton _ _
  | y :: r, h => by
    rw [List.pairwise_cons] at h
    unfold insK
    split
    · rename_i q
      rw [List.pairwise_cons]
      refine ⟨fun z hz => ?_, insK_pw x r h.2⟩
      rcases List.mem_cons.mp ((insK_perm x r).mem_iff.mp hz) with rfl | hz
      · exact lexK_asym q
      · exact h.1 z hz
    · rename_i q
      rw [List.pairwise_cons, List.pairwise_cons]
      refine ⟨fun z hz => ?_, h⟩
      have q : lexK y x = false := by simpa using q
      rcases List.mem_cons.mp hz with rfl | hz
      · exact q
      · exact lexK_ntr q (h.1 z hz)
theorem sortK_pw : ∀ l : List (List Ky), (sortK l).Pairwise leK
  | [] => .nil
  | x :: r => insK_pw x _ (sortK_pw r)
theorem sortK_is {xs ys : List (List Ky)} (hp : ys.Perm xs) (hs : ys.Pairwise leK) : ys = sortK xs :=
  List.Perm.eq_of_pairwise (fun a b _ _ h1 h2 => lexK_tri h2 h1) hs (sortK_pw xs) (hp.trans (sortK_perm xs).symm)
/-! ### the values -/
def keyV' : Value → Ky
  | .int i _ => .inl i
  | .str x _ => .inr x
  | _ => .inl 0
/-- the keys that a tuple holds -/
def readK (h : Heap) : Value → List Ky
  | .ref a => (match h.get? a with
    | some o => (match o.data with
      | .seq its _ => its.toList.map keyV'
      | _ => [])
    | none => [])
  | _ => []
def IsKy (u : Value) : Prop := (∃ i t, u = .int i t) ∨ ∃ x t, u = .str x t
structure IsKt (h : Heap) (v : Value) (ks : List Ky) : Prop where
  ex : ∃ a o its n, v = .ref a ∧ h.get? a = some o ∧ o.cls = .type "tuple" ∧ o.data = .seq (its : List Value).toArray n ∧ (∀ u ∈ its, IsKy u) ∧ its.map keyV' = ks
theorem IsKt.read {h : Heap} {v : Value} {ks : List Ky} (x : IsKt h v ks) : readK h v = ks := by
  obtain ⟨a, o, its, n, rfl, ho, hc, hd, hk, rfl⟩ := x.ex
  simp [readK, ho, hd]
theorem IsKt.keeps {h h' : Heap} {v : Value} {ks : List Ky} (x : IsKt h v ks) (k : ∀ b o, h.get? b = some o → o.cls = .type "tuple" → h'.get? b = some o) : IsKt h' v ks := by
  obtain ⟨a, o, its, n, rfl, ho, hc, hd, hk, rfl⟩ := x.ex
  exact ⟨a, o, its, n, rfl, k a o ho hc, hc, hd, hk, rfl⟩
section
variable {prog : Program} {w : World} {A : Around} {E : Value → Shared → Prop} {s : Shared} {Q : Bool → Shared → Prop}
theorem oneLt_strs (c : Bool) {p q : PySem.Str} {t u : Tok} (h : Q (decide (p.cps.toList < q.cps.toList)) s) : wpAny (model prog w) A (oneLt' c (.str p t) (.str q u)) Q E s := by
  cases c with
  | true =>
    refine oneLt_str ?_
    first | exact h | (rw [ltCps_eq]; exact h)
  | false => exact PySem.W.kat_one _ _ (PyProof.Rows.lt_str (Q := PySem.W.BoolBack Q) h)
theorem lex_keys {fin : Bool} : ∀ (xs ys : List Value) (i : Nat), (∀ u ∈ xs, IsKy u) → (∀ u ∈ ys, IsKy u) → okK (xs.map keyV') (ys.map keyV') = true → fin = decide (xs.length < ys.length) →
    Q (lexK (xs.map keyV') (ys.map keyV')) s → PySem.W.KatLex prog w A true fin Q (xs.zip ys) i s
  | [], [], i, _, _, _, hf, h => by subst hf; exact PySem.W.kat_nil h
  | [], y :: ys, i, _, _, _, hf, h => by
    subst hf
    rw [List.zip_nil_left]
    exact PySem.W.kat_nil (by simpa [lexK] using h)
  | x :: xs, [], i, _, _, _, hf, h => by
    subst hf
    rw [List.zip_nil_right]
    exact PySem.W.kat_nil (by simpa [lexK] using h)
  | x :: xs, y :: ys, i, hx, hy, ho, hf, h => by
    rw [List.zip_cons_cons]
    have hf' : fin = decide (xs.length < ys.length) := by rw [hf]; simp
    have hx1 := hx x List.mem_cons_self
    have hy1 := hy y List.mem_cons_self
    have rec_ := lex_keys (fin := fin) xs ys (i + 1) (fun u m => hx u (List.mem_cons_of_mem _ m)) (fun u m => hy u (List.mem_cons_of_mem _ m))
    rcases hx1 with ⟨a, t, rfl⟩ | ⟨a, t, rfl⟩ <;> rcases hy1 with ⟨b, u, rfl⟩ | ⟨b, u, rfl⟩
    · have ho : okK (Sum.inl a :: xs.map keyV') (Sum.inl b :: ys.map keyV') = true := ho
      have h : Q (lexK (Sum.inl a :: xs.map keyV') (Sum.inl b :: ys.map keyV')) s := h
      simp only [okK, lexK] at ho h
      refine PySem.W.kat_cons (SeqAt.EqAt.int_int a t b u prog w _ _ ?_)
      refine PySem.W.kat_go (fun e1 => ?_) (fun e1 => ?_)
      · have e : a = b := by simpa using e1
        subst e
        simp only [if_true] at ho h
        exact PySem.W.kat_yes (rec_ ho hf' h)
      · have e : ¬ (Sum.inl a : Ky) = Sum.inl b := by simpa using e1
        rw [if_neg e] at h
        exact PySem.W.kat_no (TS.oneLt_ints _ h)
    · exfalso
      simp [okK, keyV', sameK] at ho
    · exfalso
      simp [okK, keyV', sameK] at ho
    · have ho : okK (Sum.inr a :: xs.map keyV') (Sum.inr b :: ys.map keyV') = true := ho
      have h : Q (lexK (Sum.inr a :: xs.map keyV') (Sum.inr b :: ys.map keyV')) s := h
      simp only [okK, lexK] at ho h
      refine PySem.W.kat_cons (wpAny_eqBool_str ?_)
      refine PySem.W.kat_go (fun e1 => ?_) (fun e1 => ?_)
      · have e : a = b := by simpa using e1
        subst e
        simp only [if_true] at ho h
        exact PySem.W.kat_yes (rec_ ho hf' h)
      · have e : ¬ (Sum.inr a : Ky) = Sum.inr b := by simpa using e1
        rw [if_neg e] at h
        exact PySem.W.kat_no (oneLt_strs _ h)
end
section
variable {prog : Program} {w : World} {A : Around} {E : Value → Shared → Prop} {s : Shared}
theorem key_cmp {vs : List Value} {k : Value → List Ky} (hp : ∀ v ∈ vs, IsKt s.heap v (k v)) (ho : ∀ v ∈ vs, ∀ u ∈ vs, okK (k v) (k u) = true) : SrtO.Cmp prog w A s (tuples' true) (fun p => p.1 ∈ vs) (SrtO.lt2 fun v u => lexK (k v) (k u)) := by
  intro p q hm hm'
  obtain ⟨a, o, its, n, e1, h1, h2, h3, h4, h5⟩ := (hp _ hm).ex
  obtain ⟨a', o', its', n', e1', h1', h2', h3', h4', h5'⟩ := (hp _ hm').ex
  have oo := ho _ hm _ hm'
  show wpAny (model prog w) A (keyLt' (tuples' true) p.1 q.1) (fun r s' => s' = s ∧ r = lexK (k p.1) (k q.1)) (fun _ _ => False) s
  rw [← h5, ← h5'] at oo ⊢
  rw [e1, e1']
  refine PySem.W.kat_lt h1 h3 h1' h3' (lex_keys its its' 0 h4 h4' oo (by simp) ⟨rfl, rfl⟩)
theorem firsts_k {h : Heap} {b : Bool} : ∀ {vs : List Value} {k : Value → List Ky}, (∀ v ∈ vs, IsKt h v (k v)) → (∀ v ∈ vs, headsK b (k v) = true) →
    ∃ fs, PySem.W.KatTups h vs fs ∧ fs.length = vs.length ∧ ∀ f ∈ fs, if b = true then ∃ i t, f = Value.int i t else ∃ x t, f = Value.str x t
  | [], _, _, _ => ⟨[], .nil, rfl, fun _ z => nomatch z⟩
  | v :: vs, k, h1, h2 => by
    obtain ⟨fs, q1, q2, q3⟩ := firsts_k (vs := vs) (fun u m => h1 u (List.mem_cons_of_mem _ m)) (fun u m => h2 u (List.mem_cons_of_mem _ m))
    obtain ⟨a, o, its, n, rfl, ho, hc, hd, hk, hkk⟩ := (h1 v List.mem_cons_self).ex
    have hh := h2 _ List.mem_cons_self
    rw [← hkk] at hh
    cases its with
    | nil => simp [headsK] at hh
    | cons f its =>
      refine ⟨f :: fs, .cons ho hc hd (by simp) q1, by simp [q2], fun g hg => ?_⟩
      rcases List.mem_cons.mp hg with rfl | hg
      · rcases hk g List.mem_cons_self with ⟨i, t, rfl⟩ | ⟨x, t, rfl⟩
        · have : b = true := by simpa [keyV', headsK] using hh
          subst this
          exact ⟨i, t, rfl⟩
        · have : b = false := by simpa [keyV', headsK] using hh
          subst this
          exact ⟨x, t, rfl⟩
      · exact q3 g hg
theorem keys_sortable {a : Addr} {vs : List Value} {k : Value → List Ky} {b : Bool} (h0 : 0 < vs.length) (hp : ∀ v ∈ vs, IsKt s.heap v (k v)) (hb : ∀ v ∈ vs, headsK b (k v) = true) (hok : ∀ v ∈ vs, ∀ u ∈ vs, okK (k v) (k u) = true) (ha : ∀ o, s.heap.get? a = some o → o.cls ≠ .type "tuple") :
    SrtO.SortableO prog w A s a vs fun v u => lexK (k v) (k u) := by
  intro h' keep
  have hp' : ∀ v ∈ vs, IsKt h' v (k v) := fun v hm => (hp v hm).keeps fun b o e c => keep b o (fun z => by subst z; exact ha o e c) e
  obtain ⟨fs, h1, h2, h3⟩ := firsts_k hp' hb
  refine ⟨tuples' true, fun Q E hq => ?_, key_cmp hp' hok⟩
  cases b with
  | true =>
    refine PySem.W.kat_kind (T := .type "int") h1 (by omega) (fun f hm => ?_) (by rfl) ?_
    · obtain ⟨x, t, rfl⟩ := h3 f hm
      exact PySem.W.Looks.now
    · have e : (Value.type "int" != Value.type "tuple") = true := by first | decide +kernel | rfl | decide
      rw [e]
      exact hq
  | false =>
    refine PySem.W.kat_kind (T := .type "str") h1 (by omega) (fun f hm => ?_) (by rfl) ?_
    · obtain ⟨x, t, rfl⟩ := h3 f hm
      exact PySem.W.Looks.now
    · have e : (Value.type "str" != Value.type "tuple") = true := by first | decide +kernel | rfl | decide
      rw [e]
      exact hq
theorem sorted_keys {l : Addr} {vs : List Value} {k : Value → List Ky} {b : Bool} {Q : Value → Shared → Prop} (hl : s.heap.IsList l vs.toArray) (hz : vs.length ≤ sizeLine) (hp : ∀ v ∈ vs, IsKt s.heap v (k v)) (hb : ∀ v ∈ vs, headsK b (k v) = true) (hok : ∀ v ∈ vs, ∀ u ∈ vs, okK (k v) (k u) = true)
    (h : ∀ (h' : Heap) (d : Addr) (out : List Value), SrtO.Srtd (fun v u => lexK (k v) (k u)) out → SrtO.Stb (fun v u => lexK (k v) (k u)) out vs → (∀ b o, s.heap.get? b = some o → h'.get? b = some o) → s.heap.objs.size ≤ d → (∃ n, h'.get? d = some (seqObj "list" out.toArray n)) → Q (.ref d) { s with heap := h' }) :
    wpAny (model prog w) A (call (.builtin "sorted") [.ref l]) Q E s := by
  refine SrtO.sorted_ord (swoK k) hl hz (fun h2 h₁ a ha kk => ?_) fun out hs hb => ?_
  · refine keys_sortable (s := { s with heap := h₁ }) (by omega) (fun v hm => (hp v hm).keeps fun b o e _ => (kk b o e).2) hb hok fun o e => ?_
    have e' : some o = some (seqObj "list" vs.toArray 0) := e.symm.trans ha
    cases e'
    intro c
    exact absurd (Value.type.inj c) (by decide)
  · exact h _ _ out hs hb (fun b o e => sortedAll_old e) (Nat.le_succ _) (sortedAll_at s.heap vs out.toArray)
end
/-! ### as a rule of the layer -/
/-- the tuple at x holds the keys ks -/
def TupK (K : PySem.W.Frag) (H : Hp) (x : V) (ks : List Ky) : Prop := ∃ t, x = V.ref t ∧ SqT K H t (ks.map kV)
def rSortedK (K : PySem.W.Frag) : List V → Hp → VK → Prop := fun vs H Q => ∃ (a : Addr) (xs : List V) (ks : List (List Ky)) (R : V → List Ky → Prop), vs = [V.ref a] ∧ SqL K H a xs ∧ (∀ x k, R x k → TupK K H x k) ∧ Paired R xs ks ∧ okKs ks = true ∧
  ∀ ys p, Paired R ys (sortK ks) → H p = none → Q (.ref p) (upd H p (.lst ys))
section
variable {X : Cx}
theorem vals_keys : ∀ {ks : List Ky} {us : List Value}, Vals (ks.map kV) us → (∀ u ∈ us, IsKy u) ∧ us.map keyV' = ks
  | [], _, .nil => ⟨(fun _ z => nomatch z), rfl⟩
  | k :: ks, u :: us, .cons r t => by
    obtain ⟨h1, h2⟩ := vals_keys t
    cases k with
    | inl i =>
      obtain ⟨t, rfl⟩ := r
      refine ⟨fun v hv => ?_, by rw [List.map_cons, h2]; rfl⟩
      rcases List.mem_cons.mp hv with rfl | hv
      · exact .inl ⟨_, _, rfl⟩
      · exact h1 v hv
    | inr i =>
      obtain ⟨t, rfl⟩ := r
      refine ⟨fun v hv => ?_, by rw [List.map_cons, h2]; rfl⟩
      rcases List.mem_cons.mp hv with rfl | hv
      · exact .inr ⟨_, _, rfl⟩
      · exact h1 v hv
theorem tupk_is {pins : List (Addr × Obj)} {σ : L2.St} {H : Hp} {s : Shared} (I : Inv X pins σ H s) {x : V} {ks : List Ky} {u : Value} (h : TupK X.K H x ks) (r : RelV x u) : IsKt s.heap u ks := by
  obtain ⟨t, rfl, h⟩ := h
  obtain ⟨its, rv, ⟨o, ho, hc, n, hd⟩, _⟩ := I.tuple h
  obtain rfl : u = Value.ref t := r
  obtain ⟨h1, h2⟩ := vals_keys rv
  exact ⟨t, o, its, n, rfl, ho, hc, hd, h1, h2⟩
theorem paired_is {pins : List (Addr × Obj)} {σ : L2.St} {H : Hp} {s : Shared} (I : Inv X pins σ H s) : ∀ {xs : List V} {ks : List (List Ky)} {us : List Value}, Paired (TupK X.K H) xs ks → Vals xs us → (∀ u ∈ us, IsKt s.heap u (readK s.heap u)) ∧ us.map (readK s.heap) = ks ∧ ∀ x ∈ xs, ∃ a, x = V.ref a
  | _, _, _, .nil, .nil => ⟨(fun _ z => nomatch z), rfl, (fun _ z => nomatch z)⟩
  | _, _, _, .cons h t, .cons r q => by
    obtain ⟨h1, h2, h3⟩ := paired_is I t q
    have z := tupk_is I h r
    have e := z.read
    refine ⟨fun v hv => ?_, by rw [List.map_cons, h2, e], fun v hv => ?_⟩
    · rcases List.mem_cons.mp hv with rfl | hv
      · rw [e]; exact z
      · exact h1 v hv
    · rcases List.mem_cons.mp hv with rfl | hv
      · obtain ⟨a, rfl, _⟩ := h
        exact ⟨a, rfl⟩
      · exact h3 v hv
theorem paired_mem {α β : Type} {F : α → β → Prop} : ∀ {xs : List α} {ys : List β} {x : α}, Paired F xs ys → x ∈ xs → ∃ y, y ∈ ys ∧ F x y
  | _, _, _, .nil, h => nomatch h
  | _, _, x, .cons (b := b) r t, h => by
    rcases List.mem_cons.mp h with rfl | h
    · exact ⟨_, List.mem_cons_self, r⟩
    · obtain ⟨y, h1, h2⟩ := paired_mem t h
      exact ⟨y, List.mem_cons_of_mem _ h1, h2⟩
theorem paired_map {α β γ : Type} {F : α → β → Prop} {f : γ → α} {g : γ → β} : ∀ {l : List γ}, (∀ x ∈ l, F (f x) (g x)) → Paired F (l.map f) (l.map g)
  | [], _ => .nil
  | x :: l, h => .cons (h x List.mem_cons_self) (paired_map fun y hy => h y (List.mem_cons_of_mem _ hy))
theorem paired_get {α β : Type} {F : α → β → Prop} {γ : Type} {G : α → γ → Prop} : ∀ {xs : List α} {ys : List β} {us : List γ} {u : γ}, Paired F xs ys → Paired G xs us → u ∈ us → ∃ x y, x ∈ xs ∧ F x y ∧ G x u
  | _, _, _, _, .nil, .nil, h => nomatch h
  | _, _, _, u, .cons r t, .cons q z, h => by
    rcases List.mem_cons.mp h with rfl | h
    · exact ⟨_, _, List.mem_cons_self, r, q⟩
    · obtain ⟨x, y, h1, h2, h3⟩ := paired_get t z h
      exact ⟨x, y, List.mem_cons_of_mem _ h1, h2, h3⟩
theorem cr_sortedK : CallR X (.builtin "sorted") (rSortedK X.K) := by
  intro pins s σ H vs us Q I r h
  obtain ⟨a, xs, ks, R, rfl, hs, hR, hx0, hok, q⟩ := h
  have hx : Paired (TupK X.K H) xs ks := Paired.mapP hx0 hR
  obtain ⟨its, rv, hl, hz⟩ := I.list hs
  obtain ⟨u, rfl, ru⟩ := vals1 r
  obtain rfl : u = Value.ref a := ru
  obtain ⟨p1, p2, p3⟩ := paired_is I hx rv
  obtain ⟨e1, e2⟩ := refs_back rv p3
  unfold okKs at hok
  simp only [Bool.and_eq_true, Bool.or_eq_true, List.all_eq_true] at hok
  have mk : ∀ v ∈ its, readK s.heap v ∈ ks := fun v hv => by rw [← p2]; exact List.mem_map.mpr ⟨v, hv, rfl⟩
  obtain ⟨b, hb⟩ : ∃ b, ∀ v ∈ its, headsK b (readK s.heap v) = true := by
    rcases hok.1 with z | z
    · exact ⟨true, fun v hv => z _ (mk v hv)⟩
    · exact ⟨false, fun v hv => z _ (mk v hv)⟩
  refine sorted_keys (k := readK s.heap) hl.isList (by rw [← rv.length]; exact hz) p1 hb (fun v hv u hu => hok.2 _ (mk v hv) _ (mk u hu)) fun h' d out h1 h2 kp hd hn => ?_
  have h3 : ∀ u ∈ out, ∃ a, u = Value.ref a := fun u hu => e2 u (h2.perm.mem_iff.mp hu)
  obtain ⟨n, hn⟩ := hn
  have pm : (out.map (readK s.heap)).Perm ks := by
    have z := h2.perm.map (readK s.heap)
    rw [p2] at z
    exact z
  have ek : out.map (readK s.heap) = sortK ks := sortK_is pm (List.pairwise_map.mpr h1)
  refine ⟨.ref d, upd H d (.lst (out.map backV)), I.laid (t' := s.toks) kp hd ⟨?_, out, n, vals_back h3, hn⟩, rfl, q _ d ?_ (I.hok.fresh hd)⟩
  · rw [List.length_map, h2.perm.length_eq, ← rv.length]
    exact hz
  · rw [← ek]
    refine paired_map fun v hv => ?_
    have hv' := h2.perm.mem_iff.mp hv
    obtain ⟨x, kk, hm, ht, hr⟩ := paired_get hx0 rv hv'
    have z := (tupk_is I (hR _ _ ht) hr).read
    rw [z]
    obtain ⟨t, rfl, _⟩ := hR _ _ ht
    obtain rfl : v = Value.ref t := hr
    exact ht
end
end Eng

/-! How the interpreter's values lie in the abstract heap. -/
namespace Eng
open PySem PySem.Spec PyProof.Rows L2

/-- where the text's things stand: classes, defs; the names by number -/
structure Ad where
  cls : Nat → Addr
  fn : Nat → Addr
  nm : Nat → PySem.Str

/-- what is frozen, where the store's cells lie -/
structure Wd where
  G : Hp
  μ : Nat → Addr
  n : Nat

mutual
inductive RD (A : Ad) (K : PySem.W.Frag) (w : Wd) : D → V → Prop where
  | non : RD A K w .non .non
  | bl (b : Bool) : RD A K w (.bl b) (.bl b)
  | int (i : Int) : RD A K w (.int i) (.int i)
  | str (s : PySem.Str) : RD A K w (.str s) (.str s)
  | tup {a : Addr} {xs : List D} {vs : List V} (h : SqT K w.G a vs) (r : RDs A K w xs vs) : RD A K w (.tup xs) (.ref a)
  | lst {a : Addr} {xs : List D} {vs : List V} (h : SqL K w.G a vs) (r : RDs A K w xs vs) : RD A K w (.lst xs) (.ref a)
  | ins {a dx : Addr} {c : Nat} {fs : List (Nat × D)} {gs : List (PySem.Str × V)} (h : w.G a = some (.ins (A.cls c) dx gs)) (r : RDf A K w fs gs) : RD A K w (.ins c fs) (.ref a)
  | fn (j : Nat) : RD A K w (.fn j) (.ref (A.fn j))
  | ref {k : Nat} (h : k < w.n) : RD A K w (.ref k) (.ref (w.μ k))
inductive RDs (A : Ad) (K : PySem.W.Frag) (w : Wd) : List D → List V → Prop where
  | nil : RDs A K w [] []
  | cons {d : D} {v : V} {ds : List D} {vs : List V} (h : RD A K w d v) (r : RDs A K w ds vs) : RDs A K w (d :: ds) (v :: vs)
inductive RDf (A : Ad) (K : PySem.W.Frag) (w : Wd) : List (Nat × D) → List (PySem.Str × V) → Prop where
  | nil : RDf A K w [] []
  | cons {k : Nat} {d : D} {v : V} {ds : List (Nat × D)} {vs : List (PySem.Str × V)} (h : RD A K w d v) (r : RDf A K w ds vs) : RDf A K w ((k, d) :: ds) ((A.nm k, v) :: vs)
end

section
variable {A : Ad} {K : PySem.W.Frag} {w w' : Wd} {H H' : Hp}
structure Wd.le (w w' : Wd) : Prop where
  g : ∀ a o, w.G a = some o → w'.G a = some o
  n : w.n ≤ w'.n
  m : ∀ k, k < w.n → w'.μ k = w.μ k
theorem Wd.le.refl (w : Wd) : w.le w := ⟨fun _ _ h => h, Nat.le_refl _, fun _ _ => rfl⟩
theorem Wd.le.trans {w1 w2 w3 : Wd} (a : w1.le w2) (b : w2.le w3) : w1.le w3 := ⟨fun x o h => b.g x o (a.g x o h), Nat.le_trans a.n b.n, fun k h => (b.m k (Nat.lt_of_lt_of_le h a.n)).trans (a.m k h)⟩
theorem sqL_mono {G G' : Hp} {a : Addr} {xs : List V} (g : ∀ a o, G a = some o → G' a = some o) (h : SqL K G a xs) : SqL K G' a xs := by
  rcases h with (h | ⟨o, h⟩) | h
  · exact .inl (.inl (g _ _ h))
  · exact .inl (.inr ⟨o, g _ _ h⟩)
  · exact .inr h
theorem sqT_mono {G G' : Hp} {a : Addr} {xs : List V} (g : ∀ a o, G a = some o → G' a = some o) (h : SqT K G a xs) : SqT K G' a xs := by
  rcases h with (h | ⟨o, h⟩) | h
  · exact .inl (.inl (g _ _ h))
  · exact .inl (.inr ⟨o, g _ _ h⟩)
  · exact .inr h
mutual
theorem RD.mono (l : w.le w') : ∀ {d : D} {v : V}, RD A K w d v → RD A K w' d v
  | _, _, .non => .non
  | _, _, .bl b => .bl b
  | _, _, .int i => .int i
  | _, _, .str s => .str s
  | _, _, .tup h r => .tup (sqT_mono l.g h) (RDs.mono l r)
  | _, _, .lst h r => .lst (sqL_mono l.g h) (RDs.mono l r)
  | _, _, .ins h r => .ins (l.g _ _ h) (RDf.mono l r)
  | _, _, .fn j => .fn j
  | _, _, .ref (k := k) h => by
    have e := l.m k h
    rw [← e]
    exact .ref (Nat.lt_of_lt_of_le h l.n)
theorem RDs.mono (l : w.le w') : ∀ {d : List D} {v : List V}, RDs A K w d v → RDs A K w' d v
  | _, _, .nil => .nil
  | _, _, .cons h r => .cons (RD.mono l h) (RDs.mono l r)
theorem RDf.mono (l : w.le w') : ∀ {d : List (Nat × D)} {v : List (PySem.Str × V)}, RDf A K w d v → RDf A K w' d v
  | _, _, .nil => .nil
  | _, _, .cons h r => .cons (RD.mono l h) (RDf.mono l r)
end
theorem RDs.length : ∀ {d : List D} {v : List V}, RDs A K w d v → d.length = v.length
  | _, _, .nil => rfl
  | _, _, .cons _ r => congrArg Nat.succ r.length
theorem RDs.get : ∀ {ds : List D} {vs : List V} {i : Nat} {d : D}, RDs A K w ds vs → ds[i]? = some d → ∃ v, vs[i]? = some v ∧ RD A K w d v
  | _, _, _, _, .nil, e => by simp at e
  | _, _, 0, _, .cons h _, e => by simp at e; subst e; exact ⟨_, rfl, h⟩
  | _, _, i + 1, _, .cons _ r, e => by
    obtain ⟨v, h1, h2⟩ := RDs.get (i := i) r (by simpa using e)
    exact ⟨v, by simpa using h1, h2⟩
theorem RDs.getV : ∀ {ds : List D} {vs : List V} {i : Nat} {v : V}, RDs A K w ds vs → vs[i]? = some v → ∃ d, ds[i]? = some d ∧ RD A K w d v
  | _, _, _, _, .nil, e => by simp at e
  | _, _, 0, _, .cons h _, e => by simp at e; subst e; exact ⟨_, rfl, h⟩
  | _, _, i + 1, _, .cons _ r, e => by
    obtain ⟨v, h1, h2⟩ := RDs.getV (i := i) r (by simpa using e)
    exact ⟨v, by simpa using h1, h2⟩
theorem RDs.append : ∀ {a b : List D} {u v : List V}, RDs A K w a u → RDs A K w b v → RDs A K w (a ++ b) (u ++ v)
  | _, _, _, _, .nil, r => r
  | _, _, _, _, .cons h t, r => .cons h (RDs.append t r)
theorem RDs.take : ∀ (n : Nat) {a : List D} {u : List V}, RDs A K w a u → RDs A K w (a.take n) (u.take n)
  | 0, _, _, _ => by simp; exact .nil
  | n + 1, _, _, .nil => .nil
  | n + 1, _, _, .cons h t => .cons h (RDs.take n t)
theorem RDs.drop : ∀ (n : Nat) {a : List D} {u : List V}, RDs A K w a u → RDs A K w (a.drop n) (u.drop n)
  | 0, _, _, r => r
  | n + 1, _, _, .nil => .nil
  | n + 1, _, _, .cons h t => RDs.drop n t
/-- names are told apart by their numbers -/
def Inj (A : Ad) : Prop := ∀ i j, A.nm i = A.nm j → i = j
theorem RDf.lookup (hA : Inj A) {k : Nat} {d : D} : ∀ {fs : List (Nat × D)} {gs : List (PySem.Str × V)}, RDf A K w fs gs → fs.lookup k = some d → ∃ v, gs.lookup (A.nm k) = some v ∧ RD A K w d v
  | _, _, .nil, e => by simp at e
  | _, _, .cons (k := j) h r, e => by
    by_cases hj : k = j
    · subst hj
      simp [List.lookup] at e
      subst e
      exact ⟨_, by simp [List.lookup], h⟩
    · have hb : (k == j) = false := by simpa using hj
      have hn : (A.nm k == A.nm j) = false := by simpa using fun q => hj (hA _ _ q)
      simp only [List.lookup, hb] at e
      obtain ⟨v, h1, h2⟩ := RDf.lookup hA r e
      exact ⟨v, by simp only [List.lookup, hn]; exact h1, h2⟩
theorem RDf.lookup_none (hA : Inj A) {k : Nat} : ∀ {fs : List (Nat × D)} {gs : List (PySem.Str × V)}, RDf A K w fs gs → fs.lookup k = none → gs.lookup (A.nm k) = none
  | _, _, .nil, e => by simp
  | _, _, .cons (k := j) h r, e => by
    by_cases hj : k = j
    · subst hj
      simp [List.lookup] at e
    · have hb : (k == j) = false := by simpa using hj
      have hn : (A.nm k == A.nm j) = false := by simpa using fun q => hj (hA _ _ q)
      simp only [List.lookup, hb] at e
      simp only [List.lookup, hn]
      exact RDf.lookup_none hA r e
theorem RDf.length : ∀ {fs : List (Nat × D)} {gs : List (PySem.Str × V)}, RDf A K w fs gs → fs.length = gs.length
  | _, _, .nil => rfl
  | _, _, .cons _ r => congrArg Nat.succ r.length
theorem RDf.put (hA : Inj A) {k : Nat} {d : D} {v : V} (h : RD A K w d v) : ∀ {fs : List (Nat × D)} {gs : List (PySem.Str × V)}, RDf A K w fs gs → RDf A K w (putL k d fs) (putF (A.nm k) v gs)
  | _, _, .nil => .cons h .nil
  | _, _, .cons (k := j) h' r => by
    by_cases hj : j = k
    · subst hj
      simp only [putL, putF, if_true]
      exact .cons h r
    · have hn : ¬ A.nm j = A.nm k := fun q => hj (hA _ _ q)
      simp only [putL, putF, if_neg hj, if_neg hn]
      exact .cons h' (RDf.put hA h r)

/-- what the evaluation of an expression (ex: nothing; of an __init__'s body: its instance) may have done -/
structure Ext (ex : Addr → Prop) (w : Wd) (H : Hp) (w' : Wd) (H' : Hp) : Prop where
  le : w.le w'
  fr : ∀ a o, H a = some o → (∀ k, k < w.n → w.μ k ≠ a) → ¬ ex a → H' a = some o
  th : ∀ a o, H a = some o → ∃ o', H' a = some o'
  nw : ∀ a o, w'.G a = some o → w.G a = some o ∨ H a = none
  mn : ∀ k, w.n ≤ k → k < w'.n → H (w'.μ k) = none
abbrev no : Addr → Prop := fun _ => False
theorem Ext.refl (ex : Addr → Prop) (w : Wd) (H : Hp) : Ext ex w H w H := ⟨.refl w, fun _ _ h _ _ => h, fun _ o h => ⟨o, h⟩, fun _ _ h => .inl h, fun k h1 h2 => absurd h1 (by omega)⟩
theorem Ext.none_of {ex : Addr → Prop} (e : Ext ex w H w' H') {a : Addr} (h : H' a = none) : H a = none := by
  cases q : H a with
  | none => rfl
  | some o =>
    obtain ⟨o', q'⟩ := e.th a o q
    rw [h] at q'
    cases q'
theorem Ext.trans {ex : Addr → Prop} {w1 w2 w3 : Wd} {H1 H2 H3 : Hp} (a : Ext ex w1 H1 w2 H2) (b : Ext ex w2 H2 w3 H3) : Ext ex w1 H1 w3 H3 where
  le := a.le.trans b.le
  fr := fun x o h n hx => by
    refine b.fr x o (a.fr x o h n hx) (fun k hk => ?_) hx
    by_cases hk1 : k < w1.n
    · rw [a.le.m k hk1]
      exact n k hk1
    · intro e
      have q := a.mn k (Nat.le_of_not_lt hk1) hk
      rw [e, h] at q
      cases q
  th := fun x o h => by
    obtain ⟨o', h'⟩ := a.th x o h
    exact b.th x o' h'
  nw := fun x o h => by
    rcases b.nw x o h with h | h
    · exact a.nw x o h
    · exact .inr (a.none_of h)
  mn := fun k h1 h3 => by
    by_cases hk : k < w2.n
    · rw [b.le.m k hk]
      exact a.mn k h1 hk
    · exact a.none_of (b.mn k (Nat.le_of_not_lt hk) h3)
theorem Ext.weak {ex : Addr → Prop} (e : Ext no w H w' H') : Ext ex w H w' H' := ⟨e.le, fun a o h n _ => e.fr a o h n (fun z => z), e.th, e.nw, e.mn⟩

/-- a cell of the store -/
def CellR (A : Ad) (K : PySem.W.Frag) (w : Wd) : Cell → Option HO → Prop
  | .dk kvs, o => ∃ gs : List (PySem.Str × V), RDf A K w kvs gs ∧ o = some (.dK (gs.map fun p => ((Sum.inr p.1 : Key), p.2)))
  | .lk xs, o => ∃ vs : List V, RDs A K w xs vs ∧ o = some (.lst vs)
  | .dead, o => o ≠ none
theorem CellR.mono {c : Cell} {o : Option HO} (l : w.le w') (h : CellR A K w c o) : CellR A K w' c o := by
  cases c with
  | dk kvs =>
    obtain ⟨gs, r, e⟩ := h
    exact ⟨gs, r.mono l, e⟩
  | lk xs =>
    obtain ⟨vs, r, e⟩ := h
    exact ⟨vs, r.mono l, e⟩
  | dead => exact h
/-- the store, the frozen part -/
structure SR (A : Ad) (K : PySem.W.Frag) (w : Wd) (st : Store) (H : Hp) : Prop where
  sub : ∀ a o, w.G a = some o → H a = some o
  len : w.n = st.length
  cell : ∀ (k : Nat) (c : Cell), st[k]? = some c → CellR A K w c (H (w.μ k))
  inj : ∀ i j, i < w.n → j < w.n → w.μ i = w.μ j → i = j
  nog : ∀ k, k < w.n → w.G (w.μ k) = none
def Priv (w : Wd) (a : Addr) : Prop := w.G a = none ∧ ∀ k, k < w.n → w.μ k ≠ a
theorem Priv.ext {ex : Addr → Prop} {a : Addr} {o : HO} (p : Priv w a) (h : H a = some o) (e : Ext ex w H w' H') : Priv w' a := by
  refine ⟨?_, fun k hk => ?_⟩
  · cases q : w'.G a with
    | none => rfl
    | some u =>
      rcases e.nw a u q with z | z
      · rw [p.1] at z
        cases z
      · rw [h] at z
        cases z
  · by_cases hk1 : k < w.n
    · rw [e.le.m k hk1]
      exact p.2 k hk1
    · intro q
      have z := e.mn k (Nat.le_of_not_lt hk1) hk
      rw [q, h] at z
      cases z
/-- a slot of the frame. H0: the heap at the def's entry; ex: the instance that is being made -/
def SlotR (A : Ad) (K : PySem.W.Frag) (H0 : Hp) (ex : Addr → Prop) (w : Wd) (H : Hp) : Slot → V → Prop
  | .v d, v => RD A K w d v
  | .own xs, v => ∃ a vs, v = .ref a ∧ H a = some (.lst vs) ∧ RDs A K w xs vs ∧ Priv w a ∧ H0 a = none
  | .self c fs, v => ∃ a dx gs, v = .ref a ∧ H a = some (.ins (A.cls c) dx gs) ∧ RDf A K w fs gs ∧ Priv w a ∧ ex a
def Slot.mine : Slot → Bool
  | .v _ => false
  | _ => true
structure RS (A : Ad) (K : PySem.W.Frag) (H0 : Hp) (ex : Addr → Prop) (w : Wd) (ρ : Env) (σ : L2.St) (H : Hp) : Prop where
  len : σ.length = ρ.length
  sl : ∀ (i : Nat) (s : Slot), ρ[i]? = some (some s) → ∃ v, σ[i]? = some (some v) ∧ SlotR A K H0 ex w H s v
  ds : ∀ (i j : Nat) (s t : Slot) (a : Addr), i ≠ j → ρ[i]? = some (some s) → s.mine = true → ρ[j]? = some (some t) → t.mine = true → σ[i]? = some (some (.ref a)) → σ[j]? = some (some (.ref a)) → False
theorem SlotR.ext {H0 : Hp} {ex : Addr → Prop} {s : Slot} {v : V} (h : SlotR A K H0 ex w H s v) (e : Ext no w H w' H') : SlotR A K H0 ex w' H' s v := by
  cases s with
  | v d => exact RD.mono e.le h
  | own xs =>
    obtain ⟨a, vs, rfl, h1, r, p, n⟩ := h
    exact ⟨a, vs, rfl, e.fr a _ h1 p.2 (fun z => z), r.mono e.le, p.ext h1 e, n⟩
  | self c fs =>
    obtain ⟨a, dx, gs, rfl, h1, r, p, n⟩ := h
    exact ⟨a, dx, gs, rfl, e.fr a _ h1 p.2 (fun z => z), r.mono e.le, p.ext h1 e, n⟩
theorem RS.ext {H0 : Hp} {ex : Addr → Prop} {ρ : Env} {σ : L2.St} (h : RS A K H0 ex w ρ σ H) (e : Ext no w H w' H') : RS A K H0 ex w' ρ σ H' :=
  ⟨h.len, fun i s q => by
    obtain ⟨v, h1, h2⟩ := h.sl i s q
    exact ⟨v, h1, h2.ext e⟩, h.ds⟩
/-- a new frozen object -/
def Wd.add (w : Wd) (p : Addr) (o : HO) : Wd := ⟨upd w.G p o, w.μ, w.n⟩
theorem add_le {p : Addr} {o : HO} (hg : w.G p = none) : w.le (w.add p o) := ⟨fun a u h => by
    show upd w.G p o a = some u
    rw [upd_ne (ne_of_none h hg)]
    exact h, Nat.le_refl _, fun _ _ => rfl⟩
theorem SR.g_none {st : Store} (S : SR A K w st H) {p : Addr} (h : H p = none) : w.G p = none := by
  cases q : w.G p with
  | none => rfl
  | some o =>
    have z := S.sub p o q
    rw [h] at z
    cases z
theorem SR.mu_ne {st : Store} (S : SR A K w st H) {p : Addr} (h : H p = none) : ∀ k, k < w.n → w.μ k ≠ p := fun k hk e => by
  have hk' : k < st.length := by rw [← S.len]; exact hk
  have c := S.cell k st[k] (by simp [hk'])
  rw [e, h] at c
  cases q : st[k] with
  | dk kvs =>
    rw [q] at c
    obtain ⟨gs, _, z⟩ := c
    cases z
  | lk xs =>
    rw [q] at c
    obtain ⟨vs, _, z⟩ := c
    cases z
  | dead =>
    rw [q] at c
    exact c rfl
/-- the heap grows by an object that is frozen at once -/
theorem ext_add {st : Store} (S : SR A K w st H) {p : Addr} {o : HO} (h : H p = none) : Ext no w H (w.add p o) (upd H p o) where
  le := add_le (S.g_none h)
  fr := fun a u q _ _ => by rw [upd_ne (ne_of_none q h)]; exact q
  th := fun a u q => ⟨u, by rw [upd_ne (ne_of_none q h)]; exact q⟩
  nw := fun a u q => by
    by_cases e : a = p
    · subst e
      exact .inr h
    · refine .inl ?_
      have q : upd w.G p o a = some u := q
      rw [upd_ne e] at q
      exact q
  mn := fun k h1 h2 => absurd (show k < w.n from h2) (Nat.not_lt.mpr h1)
theorem sr_add {st : Store} (S : SR A K w st H) {p : Addr} {o : HO} (h : H p = none) : SR A K (w.add p o) st (upd H p o) where
  sub := fun a u q => by
    have q : upd w.G p o a = some u := q
    by_cases e : a = p
    · subst e
      rw [upd_same] at q ⊢
      exact q
    · rw [upd_ne e] at q ⊢
      exact S.sub a u q
  len := S.len
  cell := fun k c q => by
    have hk : k < w.n := by
      rw [S.len]
      exact (List.getElem?_eq_some_iff.mp q).1
    have z := (S.cell k c q).mono (add_le (o := o) (S.g_none h))
    show CellR A K (w.add p o) c (upd H p o (w.μ k))
    rw [upd_ne (S.mu_ne h k hk)]
    exact z
  inj := S.inj
  nog := fun k hk => by
    show upd w.G p o (w.μ k) = none
    rw [upd_ne (S.mu_ne h k hk)]
    exact S.nog k hk
/-- .. that is not frozen (an owned list, an instance being made) -/
theorem ext_new {st : Store} {p : Addr} {o : HO} (h : H p = none) : Ext no w H w (upd H p o) where
  le := .refl w
  fr := fun a u q _ _ => by rw [upd_ne (ne_of_none q h)]; exact q
  th := fun a u q => ⟨u, by rw [upd_ne (ne_of_none q h)]; exact q⟩
  nw := fun _ _ q => .inl q
  mn := fun k h1 h2 => absurd h2 (Nat.not_lt.mpr h1)
theorem sr_new {st : Store} (S : SR A K w st H) {p : Addr} {o : HO} (h : H p = none) : SR A K w st (upd H p o) where
  sub := fun a u q => by
    have z := S.sub a u q
    rw [upd_ne (ne_of_none z h)]
    exact z
  len := S.len
  cell := fun k c q => by
    have hk : k < w.n := by
      rw [S.len]
      exact (List.getElem?_eq_some_iff.mp q).1
    rw [upd_ne (S.mu_ne h k hk)]
    exact S.cell k c q
  inj := S.inj
  nog := S.nog
theorem priv_new {st : Store} (S : SR A K w st H) {p : Addr} (h : H p = none) : Priv w p := ⟨S.g_none h, S.mu_ne h⟩
/-- a private object is written -/
theorem sr_write {st : Store} (S : SR A K w st H) {p : Addr} {o : HO} (q : Priv w p) : SR A K w st (upd H p o) where
  sub := fun a u z => by
    have ne : a ≠ p := fun e => by
      subst e
      rw [q.1] at z
      cases z
    rw [upd_ne ne]
    exact S.sub a u z
  len := S.len
  cell := fun k c z => by
    have hk : k < w.n := by
      rw [S.len]
      exact (List.getElem?_eq_some_iff.mp z).1
    rw [upd_ne (q.2 k hk)]
    exact S.cell k c z
  inj := S.inj
  nog := S.nog
end
section
variable {A : Ad} {K : PySem.W.Frag} {w w' : Wd} {H H' : Hp} {st : Store}
/-- a private object becomes frozen -/
theorem sr_frz {x : Addr} {o : HO} (S : SR A K w st H) (p : Priv w x) (h : H x = some o) : SR A K (w.add x o) st H where
  sub := fun a u q => by
    have q : upd w.G x o a = some u := q
    by_cases e : a = x
    · subst e
      rw [upd_same] at q
      rw [h]
      exact q
    · rw [upd_ne e] at q
      exact S.sub a u q
  len := S.len
  cell := fun k c q => (S.cell k c q).mono (add_le p.1)
  inj := S.inj
  nog := fun k hk => by
    show upd w.G x o (w.μ k) = none
    rw [upd_ne (p.2 k hk)]
    exact S.nog k hk
end
section
theorem ext_wr {ex : Addr → Prop} {w w' : Wd} {H H' : Hp} {a : Addr} {o : HO} (E : Ext ex w H w' H') (h : H a = none) : Ext ex w H w' (upd H' a o) where
  le := E.le
  fr := fun b u q n x => by rw [upd_ne (ne_of_none q h)]; exact E.fr b u q n x
  th := fun b u q => by rw [upd_ne (ne_of_none q h)]; exact E.th b u q
  nw := E.nw
  mn := E.mn
theorem ext_fz {ex : Addr → Prop} {w w' : Wd} {H H' : Hp} {a : Addr} {o : HO} (E : Ext ex w H w' H') (h : H a = none) (hp : w'.G a = none) : Ext ex w H (w'.add a o) H' where
  le := E.le.trans (add_le hp)
  fr := E.fr
  th := E.th
  nw := fun b u q => by
    by_cases e : b = a
    · subst e
      exact .inr h
    · have q : upd w'.G a o b = some u := q
      rw [upd_ne e] at q
      exact E.nw b u q
  mn := E.mn
/-- a list made anew since H -/
def FR (A : Ad) (K : PySem.W.Frag) (w' : Wd) (H H' : Hp) (d : D) (v : V) : Prop := ∃ xs a vs, d = .lst xs ∧ v = .ref a ∧ H' a = some (.lst vs) ∧ RDs A K w' xs vs ∧ Priv w' a ∧ H a = none
theorem FR.frz {A : Ad} {K : PySem.W.Frag} {ex : Addr → Prop} {w w' : Wd} {H H' : Hp} {st' : Store} {d : D} {v : V} (h : FR A K w' H H' d v) (S : SR A K w' st' H') (E : Ext ex w H w' H') : ∃ w'', Ext ex w H w'' H' ∧ SR A K w'' st' H' ∧ RD A K w'' d v := by
  obtain ⟨xs, a, vs, rfl, rfl, h1, r, p, n⟩ := h
  exact ⟨w'.add a (.lst vs), ext_fz E n p.1, sr_frz S p h1, .lst (SqL.of (show upd w'.G a _ a = _ from upd_same)) (r.mono (add_le p.1))⟩
end
end Eng

/-! What the forms of the text's expressions are good for. -/
namespace Eng
open PySem PySem.Spec PyProof.Rows L2

def shape : Expr → Bool
  | .Set .. | .Starred .. | .Slice .. | .Lambda .. | .Yield .. | .NamedExpr .. | .SetComp .. | .DictComp .. | .GeneratorExp .. | .Await .. | .YieldFrom .. => false
  | _ => true
def isLc : Expr → Bool
  | .ListComp .. => true
  | _ => false
theorem star_of {e : Expr} (es : List Expr) (env : PySem.Env) (h : shape e = true) : starEach (e :: es) env = (false, eval e env) :: starEach es env := by
  cases e <;> first | rfl | exact absurd h Bool.false_ne_true
theorem plain_of (pos : Pos) (env : PySem.Env) : ∀ (es : List Expr), es.all shape = true → (backTo pos (starEach es env)).any (·.1) = false
  | [], _ => rfl
  | e :: es, h => by
    rw [List.all_cons, Bool.and_eq_true] at h
    rw [star_of es env h.1]
    show (false || (backTo pos (starEach es env)).any (·.1)) = false
    rw [plain_of pos env es h.2]
    rfl
theorem allno_of (pos : Pos) (env : PySem.Env) : ∀ (es : List Expr), es.all shape = true → (backTo pos (starEach es env)).all (fun x => !x.1) = true
  | [], _ => rfl
  | e :: es, h => by
    rw [List.all_cons, Bool.and_eq_true] at h
    rw [star_of es env h.1]
    show (true && (backTo pos (starEach es env)).all (fun x => !x.1)) = true
    rw [allno_of pos env es h.2]
    rfl
theorem mark_of {e : Expr} (op : CmpOp) (h : shape e = true) : behindInMarks op e = false := by
  cases e <;> first | rfl | exact absurd h Bool.false_ne_true
theorem ix_of {e : Expr} (h : shape e = true) : PlainIx e := by
  intro o i
  cases e <;> first | rfl | exact absurd h Bool.false_ne_true
theorem swap_of {e : Expr} (t : Option Expr) (l : Nat) (env : PySem.Env) (h : shape e = true) (h2 : isLc e = false) : swapsWith e t l env = pure false := by
  cases e <;> first | rfl | exact absurd h Bool.false_ne_true | exact Bool.noConfusion h2
theorem fold_of {e : Expr} (env : PySem.Env) (h : shape e = true) (x : Value) : foldedSetIterable e env x = pure x := by
  cases e <;> first | rfl | exact absurd h Bool.false_ne_true
/-- the receiver of an attribute is no super() -/
def notSuper : Expr → Bool
  | .Call (.Name x _) [] [] _ => !(decide (x = ("super" : PySem.Str)))
  | _ => true
theorem base_of {e : Expr} (f : PySem.Str) (env : PySem.Env) (whole : Sem Value) (h : notSuper e = true) : attributeBase e f env whole = whole := by
  unfold attributeBase
  split
  · rename_i x p pos
    have hx : ¬ x = ("super" : PySem.Str) := by simpa [notSuper] using h
    have hb : (x != ("super" : PySem.Str)) = true := by simpa using hx
    rw [hb]
    simp only [Bool.true_or, if_true]
    first | done | exact bind_pure whole
  · rfl
/-- a test that is asked by its value's truth -/
def plainTest : Expr → Bool
  | .UnaryOp .Not .. | .BoolOp .. | .IfExp .. | .Compare .. => false
  | _ => true
theorem test_of {e : Expr} (env : PySem.Env) (h : plainTest e = true) (whole : Sem Value) : isTrue e env whole = (do let v ← whole; standAt e.pos; holding [v] (truthy v)) := by
  cases e with
  | UnaryOp op x p => cases op <;> first | rfl | exact Bool.noConfusion h
  | _ => first | rfl | exact Bool.noConfusion h

theorem PE.mono {X : Cx} {e : Expr} {t t' : TE} (h : PE X e t) (m : ∀ σ H Q, t' σ H Q → t σ H Q) : PE X e t' := ⟨fun pins s σ H Q I q => h.run pins s σ H Q I (m σ H Q q)⟩
theorem PT.mono {X : Cx} {e : Expr} {t t' : TT} (h : PT X e t) (m : ∀ σ H Q, t' σ H Q → t σ H Q) : PT X e t' := ⟨fun pins s σ H Q I q => h.run pins s σ H Q I (m σ H Q q)⟩
theorem PW.mono {X : Cx} {e : Expr} {t t' : TT} (h : PW X e t) (m : ∀ σ H Q, t' σ H Q → t σ H Q) : PW X e t' := ⟨fun wh pins s σ H Q I q => h.run wh pins s σ H Q I (m σ H Q q)⟩
theorem PA.mono {X : Cx} {e : List Expr} {t t' : TA} (h : PA X e t) (m : ∀ σ H Q, t' σ H Q → t σ H Q) : PA X e t' := ⟨fun pos pins s σ H Q I q => h.run pos pins s σ H Q I (m σ H Q q)⟩
theorem PS.mono {X : Cx} {e : Stmt} {t t' : TS} (h : PS X e t) (m : ∀ D σ H, t' D σ H → t D σ H) : PS X e t' := ⟨fun pins s σ H D I q => h.run pins s σ H D I (m D σ H q)⟩
theorem PSs.mono {X : Cx} {e : List Stmt} {t t' : TS} (h : PSs X e t) (m : ∀ D σ H, t' D σ H → t D σ H) : PSs X e t' := ⟨fun pins s σ H D I q => h.run pins s σ H D I (m D σ H q)⟩
theorem PG.mono {X : Cx} {e : Expr} {t t' : TG} (h : PG X e t) (m : ∀ v σ H Q, t' v σ H Q → t v σ H Q) : PG X e t' := ⟨fun pins s σ H v u Q I r q => h.run pins s σ H v u Q I r (m v σ H Q q)⟩
theorem PI.mono {X : Cx} {tg e : Expr} {t t' : TI} (h : PI X tg e t) (m : ∀ σ H Q, t' σ H Q → t σ H Q) : PI X tg e t' := by
  constructor
  intros
  apply h.run <;> first | assumption | (apply m; assumption)

/-! ### names by number -/
def nmOf (l : List PySem.Str) (i : Nat) : PySem.Str := match l[i]? with
  | some s => s
  | none => ⟨#[0, i]⟩
def nmOk (l : List PySem.Str) : Bool := decide l.Nodup && l.all fun s => decide (s.cps[0]? ≠ some 0)
theorem nmOf_inj {l : List PySem.Str} (h : nmOk l = true) : ∀ i j, nmOf l i = nmOf l j → i = j := by
  unfold nmOk at h
  rw [Bool.and_eq_true] at h
  have h1 : l.Nodup := of_decide_eq_true h.1
  have h2 : ∀ s ∈ l, s.cps[0]? ≠ some 0 := fun s hs => of_decide_eq_true (List.all_eq_true.mp h.2 s hs)
  intro i j e
  unfold nmOf at e
  cases hi : l[i]? with
  | none =>
    rw [hi] at e
    cases hj : l[j]? with
    | none =>
      rw [hj] at e
      have e : (#[0, i] : Array Nat) = #[0, j] := congrArg PySem.Str.cps e
      simpa using e
    | some t =>
      rw [hj] at e
      have e : (⟨#[0, i]⟩ : PySem.Str) = t := e
      exact absurd (by rw [← e]; rfl) (h2 t (List.mem_of_getElem? hj))
  | some s =>
    rw [hi] at e
    cases hj : l[j]? with
    | none =>
      rw [hj] at e
      have e : s = (⟨#[0, j]⟩ : PySem.Str) := e
      exact absurd (by rw [e]; rfl) (h2 s (List.mem_of_getElem? hi))
    | some t =>
      rw [hj] at e
      have e : s = t := e
      subst e
      exact nodup_ix h1 hi hj
end Eng

/-! The check of a text against the interpreter's terms, and that the terms tell what expressions do. -/
namespace Eng
open PySem PySem.Spec PyProof.Rows L2

theorem tab_cls (P : Prg) (c : Nat) : P.tab.cls[c]? = (P.cls[c]?).map fun k => ⟨k.init, k.flds, k.meth, k.prop⟩ := by
  unfold Prg.tab
  rw [List.getElem?_map]

/-- the same flat value -/
def fEq : D → D → Bool
  | .non, .non => true
  | .bl a, .bl b => a == b
  | .int a, .int b => decide (a = b)
  | .str a, .str b => decide (a = b)
  | _, _ => false
def fEqs : List D → List D → Bool
  | [], [] => true
  | a :: r, b :: s => fEq a b && fEqs r s
  | _, _ => false
theorem fEq_eq {a b : D} (h : fEq a b = true) : a = b := by
  cases a <;> cases b <;> simp [fEq] at h <;> first | rfl | (rw [h])
theorem fEqs_eq : ∀ {a b : List D}, fEqs a b = true → a = b
  | [], [], _ => rfl
  | [], _ :: _, h => by cases h
  | _ :: _, [], h => by cases h
  | a :: r, b :: s, h => by
    rw [fEqs, Bool.and_eq_true] at h
    rw [fEq_eq h.1, fEqs_eq h.2]
def C.isBor : C → Bool
  | .bor _ => true
  | _ => false

def Cs.noBor : Cs → Bool
  | .nil => true
  | .cons c r => !c.isBor && r.noBor

/-! ### the check -/
mutual
/-- a test that the rules for tests serve -/
def tokE : Expr → Bool
  | .UnaryOp .Not e _ => tokE e
  | .BoolOp _ es _ => tokEs es
  | .IfExp .. => false
  | _ => true
def tokEs : List Expr → Bool
  | [] => true
  | e :: es => tokE e && tokEs es
end
def boIs : Bo → Operator → Bool
  | .add, .Add => true
  | .sub, .Sub => true
  | .mul, .Mult => true
  | .fdiv, .FloorDiv => true
  | .mod, .Mod => true
  | .pow, .Pow => true
  | _, _ => false
def coIs : Co → CmpOp → Bool
  | .eq, .Eq => true
  | .ne, .NotEq => true
  | .lt, .Lt => true
  | .le, .LtE => true
  | .gt, .Gt => true
  | .ge, .GtE => true
  | .isin, .In => true
  | .notin, .NotIn => true
  | .isNone, .Is => true
  | .isNotNone, .IsNot => true
  | _, _ => false
def blName : Bl → PySem.Str
  | .len => "len"
  | .abs => "abs"
  | .int => "int"
  | .bool => "bool"
  | .list => "list"
  | .tuple => "tuple"
  | .sum => "sum"
  | .all => "all"
  | .any => "any"
  | .sorted => "sorted"
def visB (sc : Scope) (x : PySem.Str) : Bool := match sc.names.lookup x with
  | some .local | some .cell | some .free => true
  | _ => false
def glB (sc : Scope) (x : PySem.Str) : Bool := decide (sc.names.lookup x = some .globalImplicit) && !(x == ("__debug__" : PySem.Str)) && decide (x ≠ ("__name__" : PySem.Str))
def nameB (N : List PySem.Str) (sc : Scope) (i : Nat) (x : PySem.Str) : Bool := decide (N[i]? = some x) && visB sc x && !(x == ("__debug__" : PySem.Str)) && !(x == ("__classdict__" : PySem.Str))
def tyName (P : Prg) : Ty → PySem.Str
  | .int => "int"
  | .bool => "bool"
  | .str => "str"
  | .tuple => "tuple"
  | .list => "list"
  | .cls c => match P.cls[c]? with
    | some k => k.name
    | none => "None"
def tyOk (P : Prg) : Ty → Bool
  | .cls c => (P.cls[c]?).isSome
  | _ => true
def ownTy : Ty → Bool
  | .cls _ => true
  | _ => false
def targetsB (N : List PySem.Str) (ok : PySem.Str → Bool) : List Nat → List Expr → Bool
  | [], [] => true
  | i :: is, .Name x _ :: es => decide (N[i]? = some x) && ok x && targetsB N ok is es
  | _, _ => false
def targetB (N : List PySem.Str) (ok : PySem.Str → Bool) (tg : List Nat) : Expr → Bool
  | .Name x _ => (match tg with
    | [i] => decide (N[i]? = some x) && ok x
    | _ => false)
  | .Tuple es _ _ => decide (2 ≤ tg.length) && targetsB N ok tg es
  | _ => false
/-- a name of a comprehension's own -/
def ownB (scope : Scope) (x : PySem.Str) : Bool := match scope.names.lookup x with
  | some .local | some .cell => true
  | _ => false
/-- a def that needs to know that no repr runs around bears this name among its slots -/
def hotB (N : List PySem.Str) : Bool := N.contains "0"
section
variable (P : Prg) (N : List PySem.Str)
def hotOk (j : Nat) : Bool := match P.fns[j]? with
  | some f => !hotB f.N || hotB N
  | none => false
def kwB (j : Nat) : Bool := match P.fns[j]? with
  | some f => f.kw
  | none => false
def chkW : List PySem.Str → List Keyword → Bool
  | [], [] => true
  | x :: r, ⟨some y, _, _⟩ :: ks => decide (x = y) && chkW r ks
  | _, _ => false
def psOf (j : Nat) : List PySem.Str := match P.fns[j]? with
  | some f => f.ps
  | none => []
def dflB' : List D → List D → Bool
  | _, [] => true
  | fs, ds => decide (ds.length ≤ fs.length)
def fnB (j : Nat) (x : PySem.Str) (n : Nat) (ds : List D) : Bool := match P.fns[j]? with
  | some f => decide (f.glob = some x) && decide (f.init = none) && decide (n + ds.length = f.ps.length) && (ds.isEmpty || (decide (f.dfl.length = ds.length) && fEqs f.dfl ds && ds.all flat))
  | none => false
def clB (c : Nat) (x : PySem.Str) (n : Nat) (ds : List D) : Bool := match P.cls[c]? with
  | some k => decide (k.name = x) && (match P.fns[k.init]? with
    | some f => decide (f.init = some c) && decide (n + ds.length + 1 = f.ps.length) && (ds.isEmpty || (decide (f.dfl.length = ds.length) && plains f.dfl && plains ds && fEqs f.dfl ds && ds.all flat))
    | none => false)
  | none => false
/-- a comprehension over a list that a slot owns -/
def borI (sc : Scope) : It → Expr → Bool
  | .seq (.bor k), .Name x _ => nameB N sc k x
  | _, _ => false
def chkK : List Nat → List (Option Expr) → Bool
  | [], [] => true
  | k :: ks, some (.Constant (.str s) _ _) :: es => decide (nmOf P.nm k = s) && chkK ks es
  | _, _ => false
/-- a bound of a slice -/
def chkO (c : C) (f : Expr → Bool) : Option Expr → Bool
  | none => c.isNon
  | some e => !c.isNon && !c.isBor && shape e && f e
/-- the parts of a comprehension with two clauses and no test -/
def gen2 : List Comprehension → Option (Expr × Expr × Expr × Expr)
  | [⟨t, i, [], 0⟩, ⟨t2, i2, [], 0⟩] => some (t, i, t2, i2)
  | _ => none
theorem gen2_is {gs : List Comprehension} {g : Expr × Expr × Expr × Expr} (h : gen2 gs = some g) : gs = [⟨g.1, g.2.1, [], 0⟩, ⟨g.2.2.1, g.2.2.2, [], 0⟩] := by
  unfold gen2 at h
  split at h
  · cases h; rfl
  · cases h
mutual
def chkE (sc : Scope) : C → Expr → Bool
  | .var i, .Name x _ => nameB N sc i x
  | .bor i, .Name x _ => nameB N sc i x
  | .non, .Constant .none _ _ => true
  | .bl b, .Constant (.bool c) _ _ => b == c
  | .int i, .Constant (.int j) _ _ => decide (i = j)
  | .str s, .Constant (.str t) _ _ => decide (s = t)
  | .neg a, .UnaryOp .USub e _ => !a.isBor && shape e && chkE sc a e
  | .not a, .UnaryOp .Not e _ => !a.isBor && shape e && chkE sc a e
  | .bin op a b, .BinOp ea o eb _ => boIs op o && (!a.isBor && shape ea && chkE sc a ea) && (!b.isBor && shape eb && chkE sc b eb)
  | .cmp op a b, .Compare ea [o] [eb] _ => coIs op o && (shape ea && chkE sc a ea) && (shape eb && chkE sc b eb)
  | .chain o1 o2 a b c, .Compare ea [p1, p2] [eb, ec] _ => coIs o1 p1 && coIs o2 p2 && (!a.isBor && shape ea && chkE sc a ea) && (!b.isBor && shape eb && chkE sc b eb) && (!c.isBor && shape ec && chkE sc c ec)
  | .and as, .BoolOp .And es _ => chkEs sc as es && !es.isEmpty
  | .or as, .BoolOp .Or es _ => chkEs sc as es && !es.isEmpty
  | .ite t a b, .IfExp et ea eb _ => (tokE et && !t.isBor && shape et && chkE sc t et) && (!a.isBor && shape ea && chkE sc a ea) && (!b.isBor && shape eb && chkE sc b eb)
  | .tup as, .Tuple es _ _ => chkEs sc as es && decide (es.length ≤ 1000)
  | .lst as, .List es _ => chkEs sc as es && decide (es.length ≤ 1000)
  | .idx a b, .Subscript ea eb _ => (shape ea && chkE sc a ea) && (!b.isBor && shape eb && chkE sc b eb)
  | .sl a lo hi, .Subscript ea (.Slice l h none _) _ => (shape ea && chkE sc a ea) && chkO lo (fun e => chkE sc lo e) l && chkO hi (fun e => chkE sc hi e) h
  | .call j as ds, .Call (.Name x _) es [] _ => hotOk P N j && glB sc x && fnB P j x es.length ds && chkEs sc as es
  | .kcall j as, .Call (.Name x _) [] kws _ => hotOk P N j && glB sc x && fnB P j x kws.length [] && kwB P j && chkW (psOf P j) kws && !kws.isEmpty && chkKs sc as kws
  | .make c as ds, .Call (.Name x _) es [] _ => glB sc x && clB P c x es.length ds && chkEs sc as es
  | .meth m o as, .Call (.Attribute eo x apos) es [] pos => decide (nmOf P.nm m = x) && notSuper eo && (!o.isBor && shape eo && chkE sc o eo) && chkEs sc as es && decide (es.length < 29) && (apos.endLine == pos.line)
  | .attr f o, .Attribute eo x _ => decide (nmOf P.nm f = x) && notSuper eo && (!o.isBor && shape eo && chkE sc o eo)
  | .blt b a, .Call (.Name x _) [e] [] _ => decide (blName b = x) && glB sc x && P.blt.contains x && (shape e && chkE sc a e)
  | .isi a t, .Call (.Name x _) [e, .Name y _] [] _ => decide (x = ("isinstance" : PySem.Str)) && glB sc x && P.blt.contains x && decide (tyName P t = y) && tyOk P t && glB sc y && (ownTy t || P.blt.contains y) && (!a.isBor && shape e && chkE sc a e)
  | .lc elt tg it ifs, .ListComp e [⟨t, i, fs, n⟩] scope _ =>
      decide (n = 0) && blkC N sc scope ((tg.map fun k => N.getD k "").zip tg) && targetB N (ownB scope) tg t && decide tg.Nodup && decide (∀ k ∈ tg, k < N.length) && (chkI sc it i t || borI N sc it i) && shape i && chkIfs (relS scope sc) ifs fs && (!elt.isBor && shape e && chkE (relS scope sc) elt e)
  | .dict ks as, .Dict keys vals _ => chkK P ks keys && chkEs sc as vals && !keys.isEmpty && decide (keys.length ≤ 15) && decide (keys.length = vals.length)
  | .dget o k, .Subscript eo (.Constant (.str s) _ _) _ => decide (nmOf P.nm k = s) && (!o.isBor && shape eo && chkE sc o eo)
  | .catb i (.lst as), .BinOp (.Name x _) .Add (.List es _) _ => nameB N sc i x && chkEs sc as es && decide (es.length ≤ 1000)
  | .gco k, .Name x _ => glB sc x && (match P.con[k]? with
    | some p => decide (p.1 = x)
    | none => false)
  | .lrng a, .Call (.Name x _) [.Call (.Name y _) [e] [] _] [] _ => decide (x = ("list" : PySem.Str)) && decide (y = ("range" : PySem.Str)) && glB sc x && glB sc y && P.blt.contains x && P.blt.contains y && (!a.isBor && shape e && chkE sc a e)
  | .repl as n, .BinOp (.List es _) .Mult en _ => chkEs sc as es && decide (es.length ≤ 1000) && (!n.isBor && shape en && chkE sc n en)
  | .newc (.repl as n), .BinOp (.List es _) .Mult en _ => chkEs sc as es && decide (es.length ≤ 1000) && (!n.isBor && shape en && chkE sc n en)
  | .newc (.lst as), .List es _ => chkEs sc as es && decide (es.length ≤ 1000)
  | .newc (.blt .list a), .Call (.Name x _) [e] [] _ => decide (x = ("list" : PySem.Str)) && glB sc x && P.blt.contains x && (shape e && chkE sc a e)
  | .popc o i, .Call (.Attribute eo x apos) [e] [] pos => decide (x = ("pop" : PySem.Str)) && notSuper eo && (!o.isBor && shape eo && chkE sc o eo) && (!i.isBor && shape e && chkE sc i e) && (apos.endLine == pos.line)
  | .max2 a b, .Call (.Name x _) [ea, eb] [] _ => decide (x = ("max" : PySem.Str)) && glB sc x && P.blt.contains x && (!a.isBor && shape ea && chkE sc a ea) && (!b.isBor && shape eb && chkE sc b eb)
  | .ssort a, .Call (.Name x _) [.Call (.Name y _) [e] [] _] [] _ => decide (x = ("sorted" : PySem.Str)) && decide (y = ("set" : PySem.Str)) && glB sc x && glB sc y && P.blt.contains x && P.blt.contains y && (!a.isBor && shape e && chkE sc a e)
  | .repr a, .Call (.Name x _) [e] [] _ => decide (x = ("repr" : PySem.Str)) && hotB N && glB sc x && P.blt.contains x && (!a.isBor && shape e && chkE sc a e)
  | .callB j as, .Call (.Name x _) es [] _ => hotOk P N j && glB sc x && fnB P j x es.length [] && !es.isEmpty && chkBs sc as es
  | .lc2 elt tg it tg2 it2, .ListComp e gs scope _ => (match gen2 gs with
    | some g => blkC N sc scope (((tg ++ tg2).map fun k => N.getD k "").zip (tg ++ tg2)) && targetB N (ownB scope) tg g.1 && targetB N (ownB scope) tg2 g.2.2.1 && chkI sc it g.2.1 g.1 && shape g.2.1 && chkI (relS scope sc) it2 g.2.2.2 g.2.2.1 && shape g.2.2.2 && (!elt.isBor && shape e && chkE (relS scope sc) elt e)
    | none => false)
  | _, _ => false
def chkEs (sc : Scope) : Cs → List Expr → Bool
  | .nil, [] => true
  | .cons c r, e :: es => (!c.isBor && shape e && chkE sc c e) && chkEs sc r es
  | _, _ => false
def chkBs (sc : Scope) : Cs → List Expr → Bool
  | .nil, [] => true
  | .cons c r, e :: es => (shape e && chkE sc c e) && chkBs sc r es
  | _, _ => false
def chkKs (sc : Scope) : Cs → List Keyword → Bool
  | .nil, [] => true
  | .cons c r, ⟨_, e, _⟩ :: ks => (!c.isBor && shape e && chkE sc c e) && chkKs sc r ks
  | _, _ => false
def chkIfs (sc : Scope) : Cs → List Expr → Bool
  | .nil, [] => true
  | .cons c .nil, [e] => tokE e && !c.isBor && shape e && chkE sc c e
  | _, _ => false
def chkI (sc : Scope) : It → Expr → Expr → Bool
  | .seq c, e, _ => shape e && !c.isBor && chkE sc c e
  | .rng1 a, .Call (.Name x _) [e] [] _, _ => decide (x = ("range" : PySem.Str)) && glB sc x && P.blt.contains x && (!a.isBor && shape e && chkE sc a e)
  | .rng2 a b, .Call (.Name x _) [e, e2] [] _, _ => decide (x = ("range" : PySem.Str)) && glB sc x && P.blt.contains x && (!a.isBor && shape e && chkE sc a e) && (!b.isBor && shape e2 && chkE sc b e2)
  | .zip a b, .Call (.Name x _) [e, e2] [] _, .Tuple .. => decide (x = ("zip" : PySem.Str)) && glB sc x && P.blt.contains x && (!a.isBor && shape e && chkE sc a e) && (!b.isBor && shape e2 && chkE sc b e2)
  | .enum a, .Call (.Name x _) [e] [] _, .Tuple .. => decide (x = ("enumerate" : PySem.Str)) && glB sc x && P.blt.contains x && (!a.isBor && shape e && chkE sc a e)
  | _, _, _ => false
end
end
end Eng

/-! repr of data, where it is known that no repr runs around. -/
namespace Eng
open PySem PySem.Spec PyProof.Rows L2
theorem call_reprD {X : Cx} (hg : X.A.guards = some []) (hu : X.A.units + 64 < cLine) : CallR X (.builtin "repr") (fun xs H Q => ∃ x d, xs = [x] ∧ Dp X.K H x d ∧ isDisplay d = true ∧ d.showable = true ∧ d.hasDict = false ∧ d.depth ≤ 32 ∧ d.shown.length ≤ sizeLine ∧ Q (.str d.shown) H) := by
  intro pins s σ H xs us Q I r h
  obtain ⟨x, d, rfl, hd, h1, h2, h3, h4, h5, q⟩ := h
  cases r with
  | cons rx rr =>
    cases rr
    obtain ⟨as, r1⟩ := Dp.reads I d x _ hd rx
    obtain ⟨a, rfl⟩ := isRef_of_reads r1 h1
    exact repr_of_reads' r1 h2 (PyData.noDict_hsm h3) hg (by omega) (fun _ _ e => e) (fun h' u tk hk => ⟨.str _, H, I.kept hk, ⟨_, rfl⟩, q⟩) h5

/-! ### what a def promises where no repr runs around -/
structure FnG (P : Program) (w : World) (K : PySem.W.Frag) (mg : PySem.Str → Option Value) (base : Heap) (CX : CXT) (k : Nat) (f : Addr) (fd : FuncData) (ps : List PySem.Str) (sp : Sp) : Prop where
  len : ∀ vs H Q E, sp vs H Q E → vs.length = ps.length
  run : ∀ (A : Around) (outer : List PySem.Env) (s : Shared) (H : Hp) (args : Args) (us : List Value) (vs : List V) (Q : VK) (E : XK), A.guards = some [] → Room k A → Env0 P w K mg base A outer s H → BindsTo s fd args (ps.zip us) → Vals vs us → sp vs H Q E →
    codeAny (model P w) A (.call (.ref f) args) (CR CX outer P w H s Q E) s
theorem FnG.of {P : Program} {w : World} {K : PySem.W.Frag} {mg : PySem.Str → Option Value} {base : Heap} {CX : CXT} {k : Nat} {f : Addr} {fd : FuncData} {ps : List PySem.Str} {sp : Sp} (F : FnOk P w K mg base CX k f fd ps sp) : FnG P w K mg base CX k f fd ps sp :=
  ⟨F.len, fun A outer s H args us vs Q E _ hr e0 hb hv hs => F.run A outer s H args us vs Q E hr e0 hb hv hs⟩
section
variable {P : Program} {w : World} {K : PySem.W.Frag} {mg : PySem.Str → Option Value} {base : Heap} {x qual : PySem.Str} {params : Arguments} {body : List Stmt} {scope : Scope} {dvs : List V} {kws : List (PySem.Str × V)} {f : Addr} {fd : FuncData}
theorem FunD.okG {CX : CXT} {N ps : List PySem.Str} {k : Nat} {sp : Sp} (F : FunD K x qual params body scope dvs kws f fd) (S : FnScope N ps scope) (len : ∀ vs H Q E, sp vs H Q E → vs.length = ps.length)
    (hbody : ∀ (cdv : Value) (A : Around) (outer : List PySem.Env) (s : Shared) (H : Hp) (vs : List V) (Q : VK) (E : XK), A.guards = some [] → Room k (A.deeper (envOfC qual scope s.heap.objs.size f cdv)) → sp vs H Q E →
      ∃ t, PSs (cxOf CX P w K mg base N qual scope f cdv A outer s H E) body t ∧ t { nx := fun _ H' => Q .non H', rt := Q } (start N vs) H) : FnG P w K mg base CX (k + 1) f fd ps sp := by
  obtain ⟨oc, od, dV, kV, doc, pm, an, cdv, ct, osl, rfl, lk, hcd, _, _⟩ := F.ex
  refine ⟨len, fun A outer sh H args us vs Q E hga hro en hbi rv hsp => ?_⟩
  have hlen := len _ _ _ _ hsp
  have inK : K.In sh.heap := en.mod.kin.keeps fun b o z => (en.bs b o z).1
  have noL : sh.heap.NoLimit := en.mod.nolimit.keeps fun b o z => (en.bs b o z).1
  have kinds : ∀ y ∈ ps.zip us, scope.names.lookup y.1 = some .local ∨ (scope.names.lookup y.1 = some .cell ∧ ((cellsFrom (sh.heap.objs.size + 1) scope.names []).lookup y.1).isSome = true) := by
    rintro ⟨m, u⟩ hmem
    rcases S.par m (List.of_mem_zip hmem).1 with z | z
    · exact .inl z
    · exact .inr ⟨z, PySem.W.cellsFrom_some _ _ _ (.inl z)⟩
  refine codeAny_call_function hro.depth (inK _ _ lk) rfl S.co S.gen rfl (PySem.W.codeRec_of inK hcd) (hbi _ _ _ _ ?_)
  refine wpAny_newFunctionEnv_cells S.kind kinds fun env eenv sh1 ic => ?_
  subst eenv
  refine ⟨noL.keeps ic.toInCall.keep, codeAny_func ?_⟩
  obtain ⟨t, tps, tq⟩ := hbody cdv A outer sh H vs Q E hga (hro.deeper _) hsp
  have inv0 := inv_start (CX := CX) (E := E) S hro.hd en hlen rv ic
  refine wpAny_mono (tps.run [] sh1 (start N vs) H _ inv0 tq) (fun fl sh' post => ?_) fun _ _ post => post
  cases fl with
  | ret u =>
    obtain ⟨v, σ1, H1, inv1, rel, hq⟩ := post
    exact ⟨v, H1, inv1.os, inv1.bare, inv1.base, inv1.hok, rel, hq⟩
  | next =>
    obtain ⟨σ1, H1, inv1, hq⟩ := post
    exact ⟨V.non, H1, inv1.os, inv1.bare, inv1.base, inv1.hok, (rfl : RelV V.non Value.none), hq⟩
  | brk =>
    obtain ⟨_, _, _, hq⟩ := post
    exact hq.elim
  | cont =>
    obtain ⟨_, _, _, hq⟩ := post
    exact hq.elim
end
section
variable {X : Cx} {CX : CXT} {k : Nat} {f : Addr} {fd : FuncData} {ps : List PySem.Str} {sp : Sp} {dvs : List V} {ds : List Value} {E : XK} {x : PySem.Str} {p pos : Pos} {e : Expr} {es : List Expr} {t : TA}
theorem runG {pins : List (Addr × Obj)} {σ : L2.St} {H : Hp} {s : Shared} {Q : VK} {us : List Value} {vs : List V} (F : FnG X.prog X.w X.K X.mg X.base CX k f fd ps sp) (hga : X.A.guards = some []) (hro : Room k X.A) (hbi : Binds X.K fd ps ds) (hdv : Vals dvs ds) (hpa : Passes CX X E)
    (I : Inv X pins σ H s) (rv : Vals vs us) (hs : sp (vs ++ dvs) H Q E) : wpAny (model X.prog X.w) X.A (call (.ref f) us) (EP X pins σ Q) X.xe s := by
  have rv2 : Vals (vs ++ dvs) (us ++ ds) := rv.append hdv
  have hlen : (us ++ ds).length = ps.length := by rw [← rv2.length]; exact F.len _ _ _ _ hs
  refine wpAny_call (codeAny_mono (F.run X.A X.stack s H ⟨us, []⟩ (us ++ ds) (vs ++ dvs) Q E hga hro I.env0 (hbi s us I.kIn hlen) rv2 hs) fun out sh' post => ?_)
  match out, post with
  | .error ev, post => exact hpa pins σ H s ev sh' I post
  | .ok (.ret u), post => exact I.after post
  | .ok .next, post => exact post.elim
  | .ok .brk, post => exact post.elim
  | .ok .cont, post => exact post.elim
theorem pe_callG (F : FnG X.prog X.w X.K X.mg X.base CX k f fd ps sp) (hga : X.A.guards = some []) (hro : Room k X.A) (hgl : Gl X x) (hmg : X.mg x = some (.ref f)) (hkp : PySem.W.keepIn X.K (.ref f) = true) (hbi : Binds X.K fd ps ds) (hdv : Vals dvs ds) (hpa : Passes CX X E)
    (hpe : PA X (e :: es) t) (hdb : (x == ("__debug__" : PySem.Str)) = false) (hst : starEach (e :: es) X.env = (false, eval e X.env) :: starEach es X.env) (hpl : (backTo pos (starEach es X.env)).any (·.1) = false) :
    PE X (.Call (.Name x p) (e :: es) [] pos) (tCall sp dvs E t) := by
  refine ⟨fun pins s σ H Q I h => wpAny_Call_Name_kw (ld_glob I hgl hmg ?_ hdb)⟩
  refine PySem.W.callWith_K (h₀ := X.base) I.ok.mod.kin hkp (thn (hpe.run pos pins s σ H _ I h) fun us s1 ⟨vs, H1, I1, rv, q⟩ => ⟨I1.kIn, ?_⟩) hst hpl
  exact runG F hga hro hbi hdv hpa I1 rv q
theorem pe_callG0 (F : FnG X.prog X.w X.K X.mg X.base CX k f fd ps sp) (hga : X.A.guards = some []) (hro : Room k X.A) (hgl : Gl X x) (hmg : X.mg x = some (.ref f)) (hkp : PySem.W.keepIn X.K (.ref f) = true) (hbi : Binds X.K fd ps ds) (hdv : Vals dvs ds) (hpa : Passes CX X E)
    (hdb : (x == ("__debug__" : PySem.Str)) = false) : PE X (.Call (.Name x p) [] [] pos) (tCall sp dvs E tNil) := by
  refine ⟨fun pins s σ H Q I h => wpAny_Call_Name_kw (ld_glob I hgl hmg ?_ hdb)⟩
  exact PySem.W.callWith_K0 I.kIn hkp (runG (us := []) F hga hro hbi hdv hpa I .nil h)
end
end Eng

/-! The interpreter's terms tell what expressions do. -/
namespace Eng
open PySem PySem.Spec PyProof.Rows L2

def tyStr : List String := ["int", "bool", "str", "tuple", "list"]
structure ClsOK (P : Prg) (A : Ad) (K : PySem.W.Frag) (mg : PySem.Str → Option Value) (c : Nat) (k : ClsI) : Prop where
  gl : mg k.name = some (.ref (A.cls c))
  cl : L2.Cls K (A.cls c)
  mkr : Mk K (A.cls c) (A.fn k.init)
  sf : PySem.W.selfFirst K (A.cls c) = true
  me : ∀ m j, k.meth.lookup m = some j → Meth K (A.cls c) (A.nm m) (A.fn j)
  pr : ∀ m j, k.prop.lookup m = some j → ∃ p, PropOf K (A.cls c) (A.nm m) p (A.fn j)
  na : ∀ f, k.flds.contains f = true → NoAttr K (A.cls c) (A.nm f)
  mi : ∀ m j f, k.meth.lookup m = some j → P.fns[j]? = some f → f.init = none ∧ hotB f.N = false
  qi : ∀ m j f, k.prop.lookup m = some j → P.fns[j]? = some f → f.init = none ∧ hotB f.N = false
  rr : ∀ op : Operator, op = .Add ∨ op = .Sub ∨ op = .Mult → ∃ rc, PySem.W.findIn K (.ref (A.cls c)) (dunderR op.info.2) = some rc ∧ (rc = none ∨ ∃ g : Addr, rc = some (.ref g))
  si : PySem.W.subIn K (.type "int") (.ref (A.cls c)) = some false
  is : PySem.W.subIn K (.ref (A.cls c)) (.type "int") = some false
  so : PySem.W.subIn K (.ref (A.cls c)) (.type "object") = some true
  ne : PySem.W.findIn K (.ref (A.cls c)) "__ne__" = some (some (.builtin "object.__ne__"))
  ty : ∀ (H : Hp) (a dx : Addr) (fs : List (PySem.Str × V)), H a = some (.ins (A.cls c) dx fs) → TyOf K H (.ref a) (.ref (A.cls c))
  k1 : ∀ n ∈ tyStr, PySem.W.kitOne K (.ref (A.cls c)) (.type n) = some false
  k2 : ∀ n ∈ "NoneType" :: tyStr, PySem.W.kitOne K (.type n) (.ref (A.cls c)) = some false
/-- the names of the special methods -/
structure NmOK (A : Ad) : Prop where
  inj : Inj A
  add : A.nm nAdd = "__add__"
  radd : A.nm nRadd = "__radd__"
  sub : A.nm nSub = "__sub__"
  rsub : A.nm nRsub = "__rsub__"
  mul : A.nm nMul = "__mul__"
  rmul : A.nm nRmul = "__rmul__"
  neg : A.nm nNeg = "__neg__"
  abs : A.nm nAbs = "__abs__"
  bool : A.nm nBool = "__bool__"
  eq : A.nm nEq = "__eq__"
structure GOK (P : Prg) (A : Ad) (K : PySem.W.Frag) (mg : PySem.Str → Option Value) : Prop where
  nm : NmOK A
  nmE : ∀ i, A.nm i = nmOf P.nm i
  free : ∀ x, P.blt.contains x = true → mg x = none
  gfn : ∀ j f x, P.fns[j]? = some f → f.glob = some x → mg x = some (.ref (A.fn j))
  keep : ∀ j f, P.fns[j]? = some f → PySem.W.keepIn K (.ref (A.fn j)) = true
  cls : ∀ c k, P.cls[c]? = some k → ClsOK P A K mg c k
  con : ∀ (k : Nat) (p : PySem.Str × D), P.con[k]? = some p → ∃ u v, mg p.1 = some u ∧ RelV v u ∧ ∀ w, RD A K w p.2 v
  iops : ∀ op : Operator, op = .Add ∨ op = .Sub ∨ op = .Mult → ∃ fo ro : Option Value, PySem.W.findIn K (.type "int") (PySem.dunder op.info.2) = some fo ∧ PySem.W.findIn K (.type "int") (dunderR op.info.2) = some ro ∧ ((fo.isSome && !isSeqSlot fo) || (ro.isSome && !isSeqSlot ro)) = true

/-- the promise of a def -/
def spF (A : Ad) (K : PySem.W.Frag) (call : Nat → List D → Store → Res D) (j : Nat) (f : FnI) : Sp := match f.init with
  | none => fun vs H Q _ => vs.length = f.ps.length ∧ ∃ w ds st d st', RDs A K w ds vs ∧ SR A K w st H ∧ call j ds st = .ok d st' ∧ ∀ v H' w', Ext no w H w' H' → SR A K w' st' H' → (if f.fresh = true then FR A K w' H H' d v else RD A K w' d v) → Q v H'
  | some c => fun vs H Q _ => vs.length = f.ps.length ∧ ∃ x dx vs' w ds st fs st', vs = .ref x :: vs' ∧ H x = some (.ins (A.cls c) dx []) ∧ Priv w x ∧ RDs A K w ds vs' ∧ SR A K w st H ∧ call j ds st = .ok (.ins c fs) st' ∧
      ∀ H' w' gs dx', Ext (fun a => a = x) w H w' H' → SR A K w' st' H' → H' x = some (.ins (A.cls c) dx' gs) → RDf A K w' fs gs → Priv w' x → Q .non H'
structure Cxt (P : Prg) (A : Ad) (call : Nat → List D → Store → Res D) (fd : Nat → FuncData) (lv : Nat) (N : List PySem.Str) (sc : Scope) (X : Cx) : Prop where
  sc : X.env.scope = sc
  N : X.N = N
  nd : X.N.Nodup
  calm : X.calm = true
  room : Room (lv + 3) X.A
  gok : GOK P A X.K X.mg
  fok : ∀ j f, P.fns[j]? = some f → hotB f.N = false → FnOk X.prog X.w X.K X.mg X.base CX0 lv (A.fn j) (fd j) f.ps (spF A X.K call j f)
  fog : ∀ j f, P.fns[j]? = some f → FnG X.prog X.w X.K X.mg X.base CX0 lv (A.fn j) (fd j) f.ps (spF A X.K call j f)
  gd : hotB X.N = true → X.A.guards = some []
  ini : ∀ (j : Nat) (f : FnI), P.fns[j]? = some f → f.init.isSome = true → hotB f.N = false
  bnk : ∀ (j : Nat) (f : FnI), P.fns[j]? = some f → f.kw = true → ∀ (s : Shared) (us : List Value), us.length = f.ps.length → BindsTo s (fd j) ⟨[], f.ps.zip us⟩ (f.ps.zip us)
  cok : ∀ j ds st d st', call j ds st = .ok d st' → ∃ f, P.fns[j]? = some f ∧ ((f.init = none ∧ ds.length = f.ps.length) ∨ (∃ c fs, f.init = some c ∧ d = .ins c fs ∧ ds.length + 1 = f.ps.length))
  bnd : ∀ j f, P.fns[j]? = some f → Binds X.K (fd j) f.ps []
  bnF : ∀ j f ds, P.fns[j]? = some f → fEqs f.dfl ds = true → ds.all flat = true → f.dfl.length = ds.length → ∃ us vs, (∀ w, RDs A X.K w ds vs) ∧ Vals vs us ∧ Binds X.K (fd j) f.ps us

section
variable {P : Prg} {A : Ad} {call : Nat → List D → Store → Res D} {fd : Nat → FuncData} {lv : Nat} {N : List PySem.Str} {sc : Scope} {X : Cx}

/-- a value, or a list that a slot owns -/
def RX (A : Ad) (K : PySem.W.Frag) (w : Wd) (H : Hp) (d : D) (v : V) : Prop :=
  RD A K w d v ∨ ∃ xs a vs, d = .lst xs ∧ v = .ref a ∧ H a = some (.lst vs) ∧ RDs A K w xs vs ∧ Priv w a
def PV (A : Ad) (K : PySem.W.Frag) (c : C) (w : Wd) (H : Hp) (d : D) (v : V) : Prop := if c.isBor = true then RX A K w H d v else RD A K w d v
theorem PV.rx {K : PySem.W.Frag} {c : C} {w : Wd} {H : Hp} {d : D} {v : V} (h : PV A K c w H d v) : RX A K w H d v := by
  unfold PV at h
  split at h
  · exact h
  · exact .inl h
theorem PV.rd {K : PySem.W.Frag} {c : C} {w : Wd} {H : Hp} {d : D} {v : V} (h : PV A K c w H d v) (hc : (!c.isBor) = true) : RD A K w d v := by
  unfold PV at h
  rw [if_neg (by intro q; rw [q] at hc; cases hc)] at h
  exact h
theorem RX.ext {K : PySem.W.Frag} {w w' : Wd} {H H' : Hp} {d : D} {v : V} (h : RX A K w H d v) (e : Ext no w H w' H') : RX A K w' H' d v := by
  rcases h with h | ⟨xs, a, vs, h1, h2, h3, h4, h5⟩
  · exact .inl (h.mono e.le)
  · exact .inr ⟨xs, a, vs, h1, h2, e.fr a _ h3 h5.2 (fun z => z), h4.mono e.le, h5.ext h3 e⟩
/-- a list that may be read -/
theorem RX.list {K : PySem.W.Frag} {w : Wd} {H : Hp} {st : Store} {xs : List D} {v : V} (h : RX A K w H (.lst xs) v) (S : SR A K w st H) : ∃ a vs, v = .ref a ∧ SqL K H a vs ∧ RDs A K w xs vs := by
  rcases h with h | ⟨ys, a, vs, h1, h2, h3, h4, h5⟩
  · cases h with
    | lst h r => exact ⟨_, _, rfl, sqL_mono S.sub h, r⟩
  · cases h1
    exact ⟨a, vs, h2, SqL.of h3, h4⟩
theorem RD.tupl {K : PySem.W.Frag} {w : Wd} {H : Hp} {st : Store} {xs : List D} {v : V} (h : RD A K w (.tup xs) v) (S : SR A K w st H) : ∃ a vs, v = .ref a ∧ SqT K H a vs ∧ RDs A K w xs vs := by
  cases h with
  | tup h r => exact ⟨_, _, rfl, sqT_mono S.sub h, r⟩
theorem RX.tupl {K : PySem.W.Frag} {w : Wd} {H : Hp} {st : Store} {xs : List D} {v : V} (h : RX A K w H (.tup xs) v) (S : SR A K w st H) : ∃ a vs, v = .ref a ∧ SqT K H a vs ∧ RDs A K w xs vs := by
  rcases h with h | ⟨ys, a, vs, h1, _⟩
  · exact h.tupl S
  · cases h1

variable (P A call X)
def tE (c : C) : TE := fun σ H Q => ∃ w ρ st H0 ex d st', SR A X.K w st H ∧ RS A X.K H0 ex w ρ σ H ∧ ev P.tab call c ρ st = .ok d st' ∧ ∀ v H' w', Ext no w H w' H' → SR A X.K w' st' H' → PV A X.K c w' H' d v → Q v H'
def tAs (as : Cs) : TA := fun σ H Q => ∃ w ρ st H0 ex ds st', SR A X.K w st H ∧ RS A X.K H0 ex w ρ σ H ∧ evs P.tab call as ρ st = .ok ds st' ∧ ∀ vs H' w', Ext no w H w' H' → SR A X.K w' st' H' → RDs A X.K w' ds vs → Q vs H'
def tTst (c : C) : TT := fun σ H Q => ∃ w ρ st H0 ex k st', SR A X.K w st H ∧ RS A X.K H0 ex w ρ σ H ∧ evT P.tab call c ρ st = .ok k st' ∧ ∀ H' w', Ext no w H w' H' → SR A X.K w' st' H' → Q k H'
/-- a rule by the interpreter's own function of two values -/
def rSem (f : D → D → Store → Res D) : R2 := fun x y H Q => ∃ w d1 d2 st d st', SR A X.K w st H ∧ RX A X.K w H d1 x ∧ RX A X.K w H d2 y ∧ f d1 d2 st = .ok d st' ∧ ∀ v H' w', Ext no w H w' H' → SR A X.K w' st' H' → RD A X.K w' d v → Q v H'
def rSem1 (f : D → Store → Res D) : V → Hp → VK → Prop := fun x H Q => ∃ w d1 st d st', SR A X.K w st H ∧ RX A X.K w H d1 x ∧ f d1 st = .ok d st' ∧ ∀ v H' w', Ext no w H w' H' → SR A X.K w' st' H' → RD A X.K w' d v → Q v H'
def rSemT (f : D → Store → Res Bool) : V → Hp → (Bool → Hp → Prop) → Prop := fun x H Q => ∃ w d1 st k st', SR A X.K w st H ∧ RX A X.K w H d1 x ∧ f d1 st = .ok k st' ∧ ∀ H' w', Ext no w H w' H' → SR A X.K w' st' H' → Q k H'
variable {P A call X}

/-- two expressions, then a rule -/
theorem two_step {a b : C} {f : D → D → Store → Res D} {c : C} (hc : c.isBor = false) (he : ∀ ρ st, ev P.tab call c ρ st = (ev P.tab call a ρ st).bind fun x st1 => (ev P.tab call b ρ st1).bind fun y st2 => f x y st2) :
    ∀ σ H Q, tE P A call X c σ H Q → tOp (rSem A X f) (tE P A call X a) (tE P A call X b) σ H Q := by
  rintro σ H Q ⟨w, ρ, st, H0, ex, d, st', S, R, e, k⟩
  rw [he] at e
  obtain ⟨x, st1, e1, e⟩ := Res.bind_is e
  obtain ⟨y, st2, e2, e⟩ := Res.bind_is e
  refine ⟨w, ρ, st, H0, ex, x, st1, S, R, e1, fun v H1 w1 E1 S1 p1 => ⟨w1, ρ, st1, H0, ex, y, st2, S1, R.ext E1, e2, fun u H2 w2 E2 S2 p2 => ?_⟩⟩
  refine ⟨w2, x, y, st2, d, st', S2, p1.rx.ext E2, p2.rx, e, fun v' H3 w3 E3 S3 p3 => k v' H3 w3 (E1.trans (E2.trans E3)) S3 ?_⟩
  unfold PV
  rw [if_neg (by rw [hc]; exact Bool.false_ne_true)]
  exact p3
theorem one_step {a : C} {f : D → Store → Res D} {c : C} (hc : c.isBor = false) (he : ∀ ρ st, ev P.tab call c ρ st = (ev P.tab call a ρ st).bind fun x st1 => f x st1) :
    ∀ σ H Q, tE P A call X c σ H Q → tUn (rSem1 A X f) (tE P A call X a) σ H Q := by
  rintro σ H Q ⟨w, ρ, st, H0, ex, d, st', S, R, e, k⟩
  rw [he] at e
  obtain ⟨x, st1, e1, e⟩ := Res.bind_is e
  refine ⟨w, ρ, st, H0, ex, x, st1, S, R, e1, fun v H1 w1 E1 S1 p1 => ⟨w1, x, st1, d, st', S1, p1.rx, e, fun v' H3 w3 E3 S3 p3 => k v' H3 w3 (E1.trans E3) S3 ?_⟩⟩
  unfold PV
  rw [if_neg (by rw [hc]; exact Bool.false_ne_true)]
  exact p3
/-- an answer that changes nothing -/
theorem fin0 {w : Wd} {H : Hp} {st : Store} {d : D} {v : V} {Q : VK} (S : SR A X.K w st H) (r : RD A X.K w d v) (k : ∀ v H' w', Ext no w H w' H' → SR A X.K w' st H' → RD A X.K w' d v → Q v H') : Q v H := k v H w (.refl _ _ _) S r

/-! ### arithmetic -/
def opOf : Bo → Operator
  | .add => .Add
  | .sub => .Sub
  | .mul => .Mult
  | .fdiv => .FloorDiv
  | .mod => .Mod
  | .pow => .Pow
theorem boIs_eq {op : Bo} {o : Operator} (h : boIs op o = true) : o = opOf op := by
  cases op <;> cases o <;> first | rfl | exact Bool.noConfusion h
theorem rx_int {K : PySem.W.Frag} {w : Wd} {H : Hp} {i : Int} {v : V} (h : RX A K w H (.int i) v) : v = .int i := by
  rcases h with h | ⟨_, _, _, e, _⟩
  · cases h; rfl
  · cases e
theorem rx_bl {K : PySem.W.Frag} {w : Wd} {H : Hp} {i : Bool} {v : V} (h : RX A K w H (.bl i) v) : v = .bl i := by
  rcases h with h | ⟨_, _, _, e, _⟩
  · cases h; rfl
  · cases e
theorem rx_ins {K : PySem.W.Frag} {w : Wd} {H : Hp} {st : Store} {c : Nat} {fs : List (Nat × D)} {v : V} (h : RX A K w H (.ins c fs) v) (S : SR A K w st H) : ∃ a dx gs, v = .ref a ∧ H a = some (.ins (A.cls c) dx gs) ∧ RDf A K w fs gs ∧ RD A K w (.ins c fs) (.ref a) := by
  rcases h with h | ⟨_, _, _, e, _⟩
  · cases h with
    | ins h r => exact ⟨_, _, _, rfl, S.sub _ _ h, r, .ins h r⟩
  · cases e
theorem meth_of {c m j : Nat} (h : methOf P.tab c m = some j) : ∃ k, P.cls[c]? = some k ∧ k.meth.lookup m = some j := by
  unfold methOf at h
  rw [tab_cls] at h
  cases q : P.cls[c]? with
  | none => rw [q] at h; cases h
  | some k => rw [q] at h; exact ⟨k, rfl, h⟩
/-- a def's promise from the interpreter's call -/
theorem sp_of {j : Nat} {f : FnI} {w : Wd} {ds : List D} {vs : List V} {st st' : Store} {d : D} {H : Hp} {Q : VK} (hi : f.init = none) (hl : vs.length = f.ps.length) (r : RDs A X.K w ds vs) (S : SR A X.K w st H) (e : call j ds st = .ok d st')
    (k : ∀ v H' w', Ext no w H w' H' → SR A X.K w' st' H' → RD A X.K w' d v → Q v H') : spF A X.K call j f vs H Q E0 := by
  unfold spF
  rw [hi]
  refine ⟨hl, w, ds, st, d, st', r, S, e, fun v H' w' E' S' q => ?_⟩
  split at q
  · obtain ⟨w2, E2, S2, q2⟩ := q.frz S' E'
    exact k v H' w2 E2 S2 q2
  · exact k v H' w' E' S' q

/-- a method's def, called by the interpreter -/
theorem meth_sp (cx : Cxt P A call fd lv N sc X) {c m j : Nat} {ds : List D} {vs : List V} {st st' : Store} {d : D} {H : Hp} {Q : VK} {w : Wd} (hm : methOf P.tab c m = some j) (r : RDs A X.K w ds vs) (S : SR A X.K w st H) (e : call j ds st = .ok d st')
    (k : ∀ v H' w', Ext no w H w' H' → SR A X.K w' st' H' → RD A X.K w' d v → Q v H') : ∃ kl f, P.cls[c]? = some kl ∧ kl.meth.lookup m = some j ∧ P.fns[j]? = some f ∧ hotB f.N = false ∧ spF A X.K call j f vs H Q E0 := by
  obtain ⟨kl, hk, hl⟩ := meth_of hm
  obtain ⟨f, hf, hc⟩ := cx.cok j ds st d st' e
  obtain ⟨hi, hcd⟩ := (cx.gok.cls c kl hk).mi m j f hl hf
  rcases hc with ⟨_, hlen⟩ | ⟨c', fs, h', _⟩
  · exact ⟨kl, f, hk, hl, hf, hcd, sp_of hi (by rw [← r.length, hlen]) r S e k⟩
  · rw [hi] at h'
    cases h'
theorem spc_of (cx : Cxt P A call fd lv N sc X) {c m j : Nat} {kl : ClsI} (hk : P.cls[c]? = some kl) (hl : kl.meth.lookup m = some j) : Spc X.K (A.cls c) (A.nm m) (A.fn j) := by
  have h := (cx.gok.cls c kl hk).me m j hl
  exact ⟨h.1, h.2⟩

theorem wide_lt' {i : Int} (h : wide i = true) : i.natAbs < 2 ^ 4096 := of_decide_eq_true h
theorem opr_int (op : Bo) : OpR X (binaryOp (opOf op)) (fun x y H Q => ∃ i j d st, x = .int i ∧ y = .int j ∧ intOp op i j st = .ok d st ∧ ∃ n, d = .int n ∧ Q (.int n) H) := by
  intro pins s σ H x y v u Q I rx ry h
  obtain ⟨i, j, d, st, rfl, rfl, e, n, rfl, q⟩ := h
  cases op with
  | add =>
    unfold intOp at e
    cases e
    exact op_add pins s σ H _ _ v u Q I rx ry ⟨i, j, rfl, rfl, q⟩
  | sub =>
    unfold intOp at e
    cases e
    exact op_sub pins s σ H _ _ v u Q I rx ry ⟨i, j, rfl, rfl, q⟩
  | mul =>
    unfold intOp at e
    dsimp only at e
    split at e
    · rename_i hw
      rw [Bool.and_eq_true] at hw
      cases e
      exact op_mulW pins s σ H _ _ v u Q I rx ry ⟨i, j, rfl, rfl, wide_mul (wide_lt' hw.1) (wide_lt' hw.2) (by decide) (by decide) (by decide), q⟩
    · cases e
  | fdiv =>
    unfold intOp at e
    dsimp only at e
    split at e
    · rename_i hw
      rw [Bool.and_eq_true, Bool.or_eq_true] at hw
      cases e
      have h0 : 0 < j := of_decide_eq_true hw.1
      rcases hw.2 with h1 | h1
      · exact op_fdiv pins s σ H _ _ v u Q I rx ry ⟨i, j, rfl, rfl, ⟨h0, of_decide_eq_true h1⟩, q⟩
      · rw [Bool.and_eq_true] at h1
        exact op_fdivW pins s σ H _ _ v u Q I rx ry ⟨i, j, rfl, rfl, wide_div h0 (wide_lt' h1.2) (by decide) (by decide), q⟩
    · cases e
  | mod =>
    unfold intOp at e
    dsimp only at e
    split at e
    · rename_i hw
      cases e
      exact op_modN pins s σ H _ _ v u Q I rx ry ⟨i, j, rfl, rfl, of_decide_eq_true hw, q⟩
    · cases e
  | pow =>
    unfold intOp at e
    dsimp only at e
    split at e
    · rename_i hw
      cases e
      exact op_pow pins s σ H _ _ v u Q I rx ry ⟨i, j, rfl, rfl, (show 0 ≤ j ∧ j ≤ 1000000 ∧ i.natAbs < 2 ^ 64 from of_decide_eq_true hw), q⟩
    · cases e
theorem intOp_st {op : Bo} {i j : Int} {st st' : Store} {d : D} (e : intOp op i j st = .ok d st') : st' = st ∧ ∃ n, d = .int n := by
  cases op <;> unfold intOp at e <;> dsimp only at e <;> (try split at e) <;> cases e <;> exact ⟨rfl, _, rfl⟩
end
end Eng

namespace Eng
open PySem PySem.Spec PyProof.Rows L2
section
variable {P : Prg} {A : Ad} {call : Nat → List D → Store → Res D} {fd : Nat → FuncData} {lv : Nat} {N : List PySem.Str} {sc : Scope} {X : Cx}

theorem room0 (cx : Cxt P A call fd lv N sc X) : Room lv X.A := cx.room.mono (by omega)
theorem room1 (cx : Cxt P A call fd lv N sc X) : Room (lv + 1) X.A := cx.room.mono (by omega)
theorem room2 (cx : Cxt P A call fd lv N sc X) : Room (lv + 2) X.A := cx.room.mono (by omega)
theorem rd_of {w : Wd} {H : Hp} {d : D} {v : V} (h : RX A X.K w H d v) (hd : ∀ xs, d ≠ .lst xs) : RD A X.K w d v := by
  rcases h with h | ⟨xs, _, _, e, _⟩
  · exact h
  · exact absurd e (hd xs)
/-- how the three operators go over -/
structure Op3 (op : Bo) (m r : Nat) : Prop where
  n : opN op = some (m, r)
  o : opOf op = .Add ∨ opOf op = .Sub ∨ opOf op = .Mult
theorem op3_of {op : Bo} {m r : Nat} (h : opN op = some (m, r)) : Op3 op m r := by
  refine ⟨h, ?_⟩
  cases op <;> first | exact .inl rfl | exact .inr (.inl rfl) | exact .inr (.inr rfl) | cases h
theorem nm_op (cx : Cxt P A call fd lv N sc X) {op : Bo} {m r : Nat} (h : opN op = some (m, r)) : A.nm m = PySem.dunder (opOf op).info.2 ∧ A.nm r = dunderR (opOf op).info.2 := by
  have n := cx.gok.nm
  cases op <;> first | (cases h; exact ⟨n.add, n.radd⟩) | (cases h; exact ⟨n.sub, n.rsub⟩) | (cases h; exact ⟨n.mul, n.rmul⟩) | cases h
theorem opr_own2 (cx : Cxt P A call fd lv N sc X) (op : Bo) {m r : Nat} (h3 : opN op = some (m, r)) {pins : List (Addr × Obj)} {s : Shared} {σ : L2.St} {H : Hp} {x y : V} {v u : Value} {Q : VK} (I : Inv X pins σ H s) (rx : RelV x v) (ry : RelV y u)
    {w : Wd} {c j : Nat} {fs gs : List (Nat × D)} {st st' : Store} {d : D} (S : SR A X.K w st H) (r1 : RX A X.K w H (.ins c fs) x) (r2 : RX A X.K w H (.ins c gs) y) (hm : methOf P.tab c m = some j) (e : call j [.ins c fs, .ins c gs] st = .ok d st')
    (k : ∀ v H' w', Ext no w H w' H' → SR A X.K w' st' H' → RD A X.K w' d v → Q v H') : wpAny (model X.prog X.w) X.A (binaryOp (opOf op) v u) (EP X pins σ Q) X.xe s := by
  obtain ⟨a, dx, ga, rfl, ha, _, ra⟩ := rx_ins r1 S
  obtain ⟨b, dy, gb, rfl, hb, _, rb⟩ := rx_ins r2 S
  obtain ⟨kl, f, hk, hl, hf, hcd, sp⟩ := meth_sp cx hm (.cons ra (.cons rb .nil)) S e k
  have hs := spc_of cx hk hl
  rw [(nm_op cx h3).1] at hs
  exact op_own2 (cx.gok.cls c kl hk).sf hs (cx.fok j f hf hcd) (room0 cx) (cx.bnd j f hf) pins s σ H _ _ v u Q I rx ry ⟨a, dx, ga, b, dy, gb, rfl, rfl, ha, hb, sp⟩
theorem opr_ownI (cx : Cxt P A call fd lv N sc X) (op : Bo) {m r : Nat} (h3 : opN op = some (m, r)) {pins : List (Addr × Obj)} {s : Shared} {σ : L2.St} {H : Hp} {x y : V} {v u : Value} {Q : VK} (I : Inv X pins σ H s) (rx : RelV x v) (ry : RelV y u)
    {w : Wd} {c j : Nat} {fs : List (Nat × D)} {i : Int} {st st' : Store} {d : D} (S : SR A X.K w st H) (r1 : RX A X.K w H (.ins c fs) x) (r2 : RX A X.K w H (.int i) y) (hm : methOf P.tab c m = some j) (e : call j [.ins c fs, .int i] st = .ok d st')
    (k : ∀ v H' w', Ext no w H w' H' → SR A X.K w' st' H' → RD A X.K w' d v → Q v H') : wpAny (model X.prog X.w) X.A (binaryOp (opOf op) v u) (EP X pins σ Q) X.xe s := by
  obtain ⟨a, dx, ga, rfl, ha, _, ra⟩ := rx_ins r1 S
  obtain rfl := rx_int r2
  obtain ⟨kl, f, hk, hl, hf, hcd, sp⟩ := meth_sp cx hm (.cons ra (.cons (.int i) .nil)) S e k
  have hs := spc_of cx hk hl
  rw [(nm_op cx h3).1] at hs
  have hc := cx.gok.cls c kl hk
  obtain ⟨rc, h1, h2⟩ := hc.rr _ (op3_of h3).o
  obtain ⟨fo, ro, h4, h5, _⟩ := cx.gok.iops _ (op3_of h3).o
  exact op_ownI hc.sf hs h1 h2 h4 h5 hc.si (cx.fok j f hf hcd) (room0 cx) (cx.bnd j f hf) pins s σ H _ _ v u Q I rx ry ⟨a, dx, ga, i, rfl, rfl, ha, sp⟩
theorem opr_reflI (cx : Cxt P A call fd lv N sc X) (op : Bo) {m r : Nat} (h3 : opN op = some (m, r)) {pins : List (Addr × Obj)} {s : Shared} {σ : L2.St} {H : Hp} {x y : V} {v u : Value} {Q : VK} (I : Inv X pins σ H s) (rx : RelV x v) (ry : RelV y u)
    {w : Wd} {c j j0 : Nat} {fs : List (Nat × D)} {i : Int} {st st' : Store} {d : D} (S : SR A X.K w st H) (r1 : RX A X.K w H (.int i) x) (r2 : RX A X.K w H (.ins c fs) y) (hm : methOf P.tab c r = some j) (hm0 : methOf P.tab c m = some j0) (e : call j [.ins c fs, .int i] st = .ok d st')
    (k : ∀ v H' w', Ext no w H w' H' → SR A X.K w' st' H' → RD A X.K w' d v → Q v H') : wpAny (model X.prog X.w) X.A (binaryOp (opOf op) v u) (EP X pins σ Q) X.xe s := by
  obtain ⟨a, dx, ga, rfl, ha, _, ra⟩ := rx_ins r2 S
  obtain rfl := rx_int r1
  obtain ⟨kl, f, hk, hl, hf, hcd, sp⟩ := meth_sp cx hm (.cons ra (.cons (.int i) .nil)) S e k
  obtain ⟨kl0, hk0, hl0⟩ := meth_of hm0
  have hs := spc_of cx hk hl
  have hs0 := spc_of cx hk0 hl0
  rw [(nm_op cx h3).2] at hs
  rw [(nm_op cx h3).1] at hs0
  have hc := cx.gok.cls c kl hk
  obtain ⟨fo, ro, h4, h5, h6⟩ := cx.gok.iops _ (op3_of h3).o
  cases op with
  | add => exact op_reflI (op := .Add) PySem.F.slot_int_add PySem.F.entry_int_add PySem.F.args_int_add_2 hc.sf hs0 hs h4 h5 h6 hc.is (cx.fok j f hf hcd) (room0 cx) (cx.bnd j f hf) pins s σ H _ _ v u Q I rx ry ⟨i, a, dx, ga, rfl, rfl, ha, sp⟩
  | sub => exact op_reflI (op := .Sub) PySem.F.slot_int_sub PySem.F.entry_int_sub PySem.F.args_int_sub_2 hc.sf hs0 hs h4 h5 h6 hc.is (cx.fok j f hf hcd) (room0 cx) (cx.bnd j f hf) pins s σ H _ _ v u Q I rx ry ⟨i, a, dx, ga, rfl, rfl, ha, sp⟩
  | mul => exact op_reflI (op := .Mult) PySem.F.slot_int_mul PySem.F.entry_int_mul PySem.F.args_int_mul_2 hc.sf hs0 hs h4 h5 h6 hc.is (cx.fok j f hf hcd) (room0 cx) (cx.bnd j f hf) pins s σ H _ _ v u Q I rx ry ⟨i, a, dx, ga, rfl, rfl, ha, sp⟩
  | fdiv => cases h3
  | mod => cases h3
  | pow => cases h3
/-- two lists, wherever they lie -/
def rCatS (K : PySem.W.Frag) : R2 := fun x y H Q => ∃ a b xs ys, x = .ref a ∧ y = .ref b ∧ SqL K H a xs ∧ SqL K H b ys ∧ xs.length + ys.length ≤ sizeLine ∧ ∀ p, H p = none → Q (.ref p) (upd H p (.lst (xs ++ ys)))
theorem op_catS : OpR X (binaryOp .Add) (rCatS X.K) := by
  intro pins s σ H x y v u Q I rx ry h
  obtain ⟨a, b, xs, ys, rfl, rfl, ha, hb, hz, q⟩ := h
  obtain rfl : v = Value.ref a := rx
  obtain rfl : u = Value.ref b := ry
  obtain ⟨is1, v1, ⟨⟨c1, d1, t1, s1⟩, n1, g1, e1, f1, k1⟩, z1⟩ := I.list ha
  obtain ⟨is2, v2, ⟨⟨c2, d2, t2, s2⟩, n2, g2, e2, f2, k2⟩, z2⟩ := I.list hb
  dsimp only at e1 f1 k1 e2 f2 k2
  subst e1 f1 k1 e2 f2 k2
  have l1 := v1.length
  have l2 := v2.length
  refine concat_meets ⟨_, g1, rfl⟩ ⟨_, g2, rfl⟩ noFill_list_add seq_list_add PySem.F.slot_list_add PySem.F.entry_list_add (PySem.F.args_list_add_2 _ _) (PyProof.Rows.list_addW a b is1.toArray is2.toArray n1 n2 _ _ s1 s2 (by rw [List.size_toArray, List.size_toArray]; omega)) ⟨g1, g2, ?_⟩
  rw [show is1.toArray ++ is2.toArray = (is1 ++ is2).toArray by simp]
  exact ⟨.ref _, _, I.lnew (t' := s.toks) (v1.append v2) (by rw [List.length_append]; omega), rfl, q _ I.fresh⟩
theorem opr_bin (cx : Cxt P A call fd lv N sc X) (op : Bo) : OpR X (binaryOp (opOf op)) (rSem A X (binD P.tab call op)) := by
  intro pins s σ H x y v u Q I rx ry h
  obtain ⟨w, d1, d2, st, d, st', S, r1, r2, e, k⟩ := h
  cases d1 with
  | int i =>
    cases d2 with
    | int j =>
      have e : intOp op i j st = .ok d st' := e
      obtain ⟨rfl, n, rfl⟩ := intOp_st e
      refine opr_int op pins s σ H x y v u Q I rx ry ⟨i, j, _, _, rx_int r1, rx_int r2, e, n, rfl, ?_⟩
      exact k _ H w (.refl _ _ _) S (.int n)
    | ins c fs =>
      unfold binD at e
      dsimp only at e
      cases h3 : opN op with
      | none => rw [h3] at e; cases e
      | some mr =>
        obtain ⟨m, r⟩ := mr
        rw [h3] at e
        dsimp only at e
        cases hm : methOf P.tab c r with
        | none => rw [hm] at e; cases e
        | some j =>
          cases hm0 : methOf P.tab c m with
          | none => rw [hm, hm0] at e; cases e
          | some j0 =>
            rw [hm, hm0] at e
            exact opr_reflI cx op h3 I rx ry S r1 r2 hm hm0 e k
    | _ => cases e
  | ins c fs =>
    unfold binD at e
    dsimp only at e
    cases h3 : opN op with
    | none => rw [h3] at e; cases e
    | some mr =>
      obtain ⟨m, r⟩ := mr
      rw [h3] at e
      dsimp only at e
      cases hm : methOf P.tab c m with
      | none => rw [hm] at e; cases e
      | some j =>
        rw [hm] at e
        cases d2 with
        | int i => exact opr_ownI cx op h3 I rx ry S r1 r2 hm e k
        | ins c' gs =>
          dsimp only at e
          split at e
          · rename_i hc
            subst hc
            exact opr_own2 cx op h3 I rx ry S r1 r2 hm e k
          · cases e
        | _ => cases e
  | tup xs =>
    cases d2 with
    | tup ys =>
      cases op with
      | add =>
        unfold binD at e
        dsimp only at e
        split at e
        · rename_i hl
          cases e
          obtain ⟨a, vs, rfl, qa, ra⟩ := (rd_of r1 (fun _ z => nomatch z)).tupl S
          obtain ⟨b, us, rfl, qb, rb⟩ := (rd_of r2 (fun _ z => nomatch z)).tupl S
          have hz : vs.length + us.length ≤ sizeLine := by
            rw [← ra.length, ← rb.length, sizeLine_eq]
            omega
          refine op_catA pins s σ H _ _ v u Q I rx ry ⟨a, b, vs, us, rfl, rfl, qa, qb, hz, fun z => ?_, fun z1 z2 => ?_, fun z1 z2 p hp => ?_⟩
          · subst z
            cases ra
            exact k _ H w (.refl _ _ _) S (rd_of r2 (fun _ z => nomatch z))
          · subst z2
            cases rb
            rw [List.append_nil] at k
            exact k _ H w (.refl _ _ _) S (rd_of r1 (fun _ z => nomatch z))
          · have rr := ra.append rb
            exact k (.ref p) (upd H p (.tup (vs ++ us))) (w.add p (.tup (vs ++ us))) (ext_add S hp) (sr_add S hp) (.tup (SqT.of (show upd w.G p _ p = _ from upd_same)) (rr.mono (add_le (S.g_none hp))))
        · cases e
      | _ => cases e
    | _ => cases e
  | lst xs =>
    cases d2 with
    | lst ys =>
      cases op with
      | add =>
        unfold binD at e
        dsimp only at e
        split at e
        · rename_i hl
          cases e
          obtain ⟨a, vs, rfl, qa, ra⟩ := r1.list S
          obtain ⟨b, us, rfl, qb, rb⟩ := r2.list S
          refine op_catS pins s σ H _ _ v u Q I rx ry ⟨a, b, vs, us, rfl, rfl, qa, qb, by rw [← ra.length, ← rb.length, sizeLine_eq]; omega, fun p hp => ?_⟩
          exact k (.ref p) (upd H p (.lst (vs ++ us))) (w.add p (.lst (vs ++ us))) (ext_add S hp) (sr_add S hp) (.lst (SqL.of (show upd w.G p _ p = _ from upd_same)) ((ra.append rb).mono (add_le (S.g_none hp))))
        · cases e
      | _ => cases e
    | _ => cases e
  | _ => cases e
end
end Eng

namespace Eng
open PySem PySem.Spec PyProof.Rows L2
/-! ### data and the library's data -/
mutual
theorem can_of : ∀ d : D, plain d = true → (toP d).canLay0 = true
  | .non, _ => by simp only [toP, PyData.canLay0]
  | .bl _, _ => by simp only [toP, PyData.canLay0]
  | .int _, _ => by simp only [toP, PyData.canLay0]
  | .str s, h => by simpa only [toP, PyData.canLay0, PyData.strOk, plain] using h
  | .tup xs, h => by
    simp only [toP, PyData.canLay0]
    exact cans_of xs (by simpa only [plain] using h)
  | .lst xs, h => by
    simp only [toP, PyData.canLay0]
    exact cans_of xs (by simpa only [plain] using h)
  | .ins _ _, h => by simp [plain] at h
  | .fn _, h => by simp [plain] at h
  | .ref _, h => by simp [plain] at h
theorem cans_of : ∀ ds : List D, plains ds = true → PyData.canLayAll0 (toPs ds) = true
  | [], _ => by simp only [toPs, PyData.canLayAll0]
  | d :: r, h => by
    simp only [plains, Bool.and_eq_true] at h
    simp only [toPs, PyData.canLayAll0, Bool.and_eq_true]
    exact ⟨can_of d h.1, cans_of r h.2⟩
end
mutual
theorem depth_of : ∀ d : D, plain d = true → (toP d).depth = deep d
  | .non, _ => by simp only [toP, PyData.depth, deep]
  | .bl _, _ => by simp only [toP, PyData.depth, deep]
  | .int _, _ => by simp only [toP, PyData.depth, deep]
  | .str s, h => by simp only [toP, PyData.depth, deep]
  | .tup xs, h => by
    simp only [toP, PyData.depth, deep]
    rw [depths_of xs (by simpa only [plain] using h)]
  | .lst xs, h => by
    simp only [toP, PyData.depth, deep]
    rw [depths_of xs (by simpa only [plain] using h)]
  | .ins _ _, h => by simp [plain] at h
  | .fn _, h => by simp [plain] at h
  | .ref _, h => by simp [plain] at h
theorem depths_of : ∀ ds : List D, plains ds = true → PyData.depthAll (toPs ds) = deeps ds
  | [], _ => by simp only [toPs, PyData.depthAll, deeps]
  | d :: r, h => by
    simp only [plains, Bool.and_eq_true] at h
    simp only [toPs, PyData.depthAll, deeps]
    rw [depth_of d h.1, depths_of r h.2]
end
mutual
theorem eqv_of : ∀ a b : D, plain a = true → plain b = true → PyData.eqv (toP a) (toP b) = eqD a b
  | a, b, ha, hb => by
    cases a <;> cases b <;> first
      | (simp [plain] at ha; done)
      | (simp [plain] at hb; done)
      | (simp only [toP, PyData.eqv, eqD]; done)
      | (rename_i xs ys
         simp only [toP, PyData.eqv, eqD]
         exact eqvs_of xs ys (by simpa only [plain] using ha) (by simpa only [plain] using hb))
theorem eqvs_of : ∀ a b : List D, plains a = true → plains b = true → PyData.eqvAll (toPs a) (toPs b) = eqDs a b
  | [], [], _, _ => by simp only [toPs, PyData.eqvAll, eqDs]
  | [], _ :: _, _, _ => by simp only [toPs, PyData.eqvAll, eqDs]
  | _ :: _, [], _, _ => by simp only [toPs, PyData.eqvAll, eqDs]
  | a :: as, b :: bs, ha, hb => by
    simp only [plains, Bool.and_eq_true] at ha hb
    simp only [toPs, PyData.eqvAll, eqDs]
    rw [eqv_of a b ha.1 hb.1, eqvs_of as bs ha.2 hb.2]
end
section
variable {A : Ad} {K : PySem.W.Frag} {w : Wd} {H : Hp} {st : Store}
mutual
theorem dp_of (S : SR A K w st H) : ∀ {d : D} {v : V}, plain d = true → RD A K w d v → Dp K H v (toP d)
  | _, _, _, .non => by simp only [toP]; exact .non
  | _, _, _, .bl b => by simp only [toP]; exact .bl b
  | _, _, _, .int i => by simp only [toP]; exact .int i
  | _, _, _, .str s => by simp only [toP]; exact .str s
  | _, _, h, .tup q r => by
    simp only [toP]
    exact .tup (sqT_mono S.sub q) (dps_of S (by simpa only [plain] using h) r)
  | _, _, h, .lst q r => by
    simp only [toP]
    exact .lst (sqL_mono S.sub q) (dps_of S (by simpa only [plain] using h) r)
  | _, _, h, .ins _ _ => by simp [plain] at h
  | _, _, h, .fn _ => by simp [plain] at h
  | _, _, h, .ref _ => by simp [plain] at h
theorem dps_of (S : SR A K w st H) : ∀ {ds : List D} {vs : List V}, plains ds = true → RDs A K w ds vs → DpAll K H vs (toPs ds)
  | _, _, _, .nil => by simp only [toPs]; exact .nil
  | _, _, h, .cons q r => by
    simp only [plains, Bool.and_eq_true] at h
    simp only [toPs]
    exact .cons (dp_of S h.1 q) (dps_of S h.2 r)
end
theorem dpx_of (S : SR A K w st H) {d : D} {v : V} (h : plain d = true) (r : RX A K w H d v) : Dp K H v (toP d) := by
  rcases r with r | ⟨xs, a, vs, rfl, rfl, h3, h4, _⟩
  · exact dp_of S h r
  · simp only [toP]
    exact .lst (SqL.of h3) (dps_of S (by simpa only [plain] using h) h4)
theorem shaped_of {d : D} (h : plain d = true) (hd : deep d ≤ 32) : SeqAt.shaped (toP d) = true := by
  unfold SeqAt.shaped
  rw [can_of d h, depth_of d h]
  simp
  omega
theorem flat_rel {d : D} {v : V} (h : flat d = true) (r : RD A K w d v) : flatV v = true := by
  cases r <;> first | rfl | (simp [flat] at h)
theorem flats_rel : ∀ {ds : List D} {vs : List V}, ds.all flat = true → RDs A K w ds vs → vs.all flatV = true
  | _, _, _, .nil => rfl
  | _, _, h, .cons q r => by
    rw [List.all_cons, Bool.and_eq_true] at h ⊢
    exact ⟨flat_rel h.1 q, flats_rel h.2 r⟩
theorem eqV_of {a b : D} {x y : V} (ha : flat a = true) (hb : flat b = true) (r : RD A K w a x) (q : RD A K w b y) : eqV y x = eqD a b := by
  cases r <;> cases q <;> first
    | (simp [flat] at ha; done)
    | (simp [flat] at hb; done)
    | (simp only [eqV, eqD]; done)
    | (simp only [eqV, eqD]; exact Bool.beq_comm)
    | (simp only [eqV, eqD]; rw [Bool.beq_comm]; done)
    | (simp only [eqV, eqD, beq_comm]; done)
theorem inV_of {a : D} {x : V} (ha : flat a = true) (r : RD A K w a x) : ∀ {ds : List D} {vs : List V}, ds.all flat = true → RDs A K w ds vs → inV x vs = ds.any fun z => eqD a z
  | _, _, _, .nil => rfl
  | _, _, h, .cons q t => by
    rw [List.all_cons, Bool.and_eq_true] at h
    unfold inV
    rw [List.any_cons, List.any_cons, eqV_of ha h.1 r q]
    congr 1
    exact inV_of ha r h.2 t
end
section
variable {P : Prg} {A : Ad} {call : Nat → List D → Store → Res D} {fd : Nat → FuncData} {lv : Nat} {N : List PySem.Str} {sc : Scope} {X : Cx}

theorem unr_neg (cx : Cxt P A call fd lv N sc X) : UnR X (unaryOp .USub) (rSem1 A X (negD P.tab call)) := by
  intro pins s σ H x v Q I rx h
  obtain ⟨w, d1, st, d, st', S, r1, e, k⟩ := h
  cases d1 with
  | int i =>
    cases e
    obtain rfl := rx_int r1
    exact un_neg pins s σ H _ v Q I rx ⟨i, rfl, k _ H w (.refl _ _ _) S (.int _)⟩
  | ins c fs =>
    unfold negD at e
    dsimp only at e
    cases hm : methOf P.tab c nNeg with
    | none => rw [hm] at e; cases e
    | some j =>
      rw [hm] at e
      obtain ⟨a, dx, ga, rfl, ha, _, ra⟩ := rx_ins r1 S
      obtain ⟨kl, f, hk, hl, hf, hcd, sp⟩ := meth_sp cx hm (.cons ra .nil) S e k
      have hs := spc_of cx hk hl
      rw [cx.gok.nm.neg] at hs
      exact un_own hs (cx.fok j f hf hcd) (room0 cx) (cx.bnd j f hf) pins s σ H _ v Q I rx ⟨a, dx, ga, rfl, ha, sp⟩
  | _ => cases e
theorem tru_sem (cx : Cxt P A call fd lv N sc X) : TruR X (rSemT A X (truD P.tab call)) := by
  intro pins s σ H x v Q I rx h
  obtain ⟨w, d1, st, b, st', S, r1, e, k⟩ := h
  cases d1 with
  | non =>
    cases e
    have r1 := rd_of r1 (by intro _ z; cases z)
    cases r1
    exact tru_ok pins s σ H _ v Q I rx ⟨false, rfl, k H w (.refl _ _ _) S⟩
  | bl c =>
    cases e
    obtain rfl := rx_bl r1
    exact tru_ok pins s σ H _ v Q I rx ⟨_, rfl, k H w (.refl _ _ _) S⟩
  | int i =>
    cases e
    obtain rfl := rx_int r1
    exact tru_ok pins s σ H _ v Q I rx ⟨_, rfl, k H w (.refl _ _ _) S⟩
  | ins c fs =>
    unfold truD at e
    dsimp only at e
    cases hm : methOf P.tab c nBool with
    | none => rw [hm] at e; cases e
    | some j =>
      rw [hm] at e
      obtain ⟨d2, st1, e1, e2⟩ := Res.bind_is e
      cases d2 with
      | bl c2 =>
        cases e2
        obtain ⟨a, dx, ga, rfl, ha, _, ra⟩ := rx_ins r1 S
        obtain ⟨kl, f, hk, hl, hf, hcd, sp⟩ := meth_sp cx (Q := fun v H' => ∃ c, v = .bl c ∧ Q c H') hm (.cons ra .nil) S e1 (fun v' H' w' E' S' r' => by
          cases r'
          exact ⟨_, rfl, k H' w' E' S'⟩)
        have hs := spc_of cx hk hl
        rw [cx.gok.nm.bool] at hs
        exact tru_own hs (cx.fok j f hf hcd) (room0 cx) (cx.bnd j f hf) pins s σ H _ v Q I rx ⟨a, dx, ga, rfl, ha, sp⟩
      | _ => cases e2
  | _ => cases e
end
end Eng

namespace Eng
open PySem PySem.Spec PyProof.Rows L2
section
variable {P : Prg} {A : Ad} {call : Nat → List D → Store → Res D} {fd : Nat → FuncData} {lv : Nat} {N : List PySem.Str} {sc : Scope} {X : Cx}

theorem rsem_mono {f : Value → Value → Sem Value} {r r' : R2} (h : OpR X f r) (m : ∀ x y H Q, r' x y H Q → r x y H Q) : OpR X f r' := fun pins s σ H x y v u Q I rx ry q => h pins s σ H x y v u Q I rx ry (m x y H Q q)
/-- the plain arm of == -/
theorem eqR_plain {x y : D} {st st' : Store} {b : Bool} (hx : ∀ c fs, x ≠ .ins c fs) (e : eqR P.tab call x y st = .ok b st') : plain x = true ∧ plain y = true ∧ deep x ≤ 32 ∧ deep y ≤ 32 ∧ b = eqD x y ∧ st' = st := by
  unfold eqR at e
  split at e
  · rename_i c fs
    exact absurd rfl (hx c fs)
  · split at e
    · rename_i h
      simp only [Bool.and_eq_true, decide_eq_true_eq] at h
      cases e
      exact ⟨h.1.1.1, h.1.1.2, h.1.2, h.2, rfl, rfl⟩
    · cases e
theorem eqR_own {c : Nat} {fs : List (Nat × D)} {y : D} {st st' : Store} {b : Bool} (e : eqR P.tab call (.ins c fs) y st = .ok b st') : ∃ j c' gs, methOf P.tab c nEq = some j ∧ y = .ins c' gs ∧ c' = c ∧ call j [.ins c fs, y] st = .ok (.bl b) st' := by
  unfold eqR at e
  dsimp only at e
  cases hm : methOf P.tab c nEq with
  | none => rw [hm] at e; cases e
  | some j =>
    rw [hm] at e
    cases y with
    | ins c' gs =>
      dsimp only at e
      split at e
      · rename_i hc
        obtain ⟨d2, st1, e1, e2⟩ := Res.bind_is e
        cases d2 with
        | bl c2 =>
          cases e2
          exact ⟨j, c', gs, rfl, rfl, hc, e1⟩
        | _ => cases e2
      · cases e
    | _ => cases e
theorem opr_eq (cx : Cxt P A call fd lv N sc X) : OpR X (compareOp .Eq) (rSem A X (cmpD P.tab call .eq)) := by
  intro pins s σ H x y v u Q I rx ry h
  obtain ⟨w, d1, d2, st, d, st', S, r1, r2, e, k⟩ := h
  have e : (eqR P.tab call d1 d2 st).bind (fun b st1 => .ok (.bl b) st1) = .ok d st' := e
  obtain ⟨b, st1, e1, e2⟩ := Res.bind_is e
  cases e2
  by_cases hi : ∃ c fs, d1 = .ins c fs
  · obtain ⟨c, fs, rfl⟩ := hi
    obtain ⟨j, c', gs, hm, rfl, rfl, e3⟩ := eqR_own e1
    obtain ⟨a, dx, ga, rfl, ha, _, ra⟩ := rx_ins r1 S
    obtain ⟨b', dy, gb, rfl, hb, _, rb⟩ := rx_ins r2 S
    obtain ⟨kl, f, hk, hl, hf, hcd, sp⟩ := meth_sp cx hm (.cons ra (.cons rb .nil)) S e3 k
    have hs := spc_of cx hk hl
    rw [cx.gok.nm.eq] at hs
    exact op_eqOwn hs (cx.fok j f hf hcd) (room0 cx) (cx.bnd j f hf) pins s σ H _ _ v u Q I rx ry ⟨a, dx, ga, rfl, ha, ⟨b', dy, gb, rfl, hb⟩, sp⟩
  · obtain ⟨p1, p2, q1, q2, rfl, rfl⟩ := eqR_plain (fun c fs z => hi ⟨c, fs, z⟩) e1
    refine op_eqD cx.room.units pins s σ H x y v u Q I rx ry ⟨toP d1, toP d2, dpx_of S p1 r1, dpx_of S p2 r2, shaped_of p1 q1, shaped_of p2 q2, ?_⟩
    rw [eqv_of d1 d2 p1 p2]
    exact k _ H w (.refl _ _ _) S (.bl _)
theorem opr_ne (cx : Cxt P A call fd lv N sc X) : OpR X (compareOp .NotEq) (rSem A X (cmpD P.tab call .ne)) := by
  intro pins s σ H x y v u Q I rx ry h
  obtain ⟨w, d1, d2, st, d, st', S, r1, r2, e, k⟩ := h
  have e : (eqR P.tab call d1 d2 st).bind (fun b st1 => .ok (.bl (!b)) st1) = .ok d st' := e
  obtain ⟨b, st1, e1, e2⟩ := Res.bind_is e
  cases e2
  by_cases hi : ∃ c fs, d1 = .ins c fs
  · obtain ⟨c, fs, rfl⟩ := hi
    obtain ⟨j, c', gs, hm, rfl, rfl, e3⟩ := eqR_own e1
    obtain ⟨a, dx, ga, rfl, ha, _, ra⟩ := rx_ins r1 S
    obtain ⟨b', dy, gb, rfl, hb, _, rb⟩ := rx_ins r2 S
    obtain ⟨kl, f, hk, hl, hf, hcd, sp⟩ := meth_sp cx (Q := fun v H' => ∃ c, v = .bl c ∧ Q (.bl (!c)) H') hm (.cons ra (.cons rb .nil)) S e3 (fun v' H' w' E' S' r' => by
      cases r'
      exact ⟨_, rfl, k _ H' w' E' S' (.bl _)⟩)
    have hs := spc_of cx hk hl
    rw [cx.gok.nm.eq] at hs
    have hc := cx.gok.cls _ kl hk
    exact op_neOwn hs hc.ne hc.so (cx.fok j f hf hcd) (room1 cx) (cx.bnd j f hf) pins s σ H _ _ v u Q I rx ry ⟨a, dx, ga, rfl, ha, ⟨b', dy, gb, rfl, hb⟩, sp⟩
  · obtain ⟨p1, p2, q1, q2, rfl, rfl⟩ := eqR_plain (fun c fs z => hi ⟨c, fs, z⟩) e1
    refine op_neD cx.room.units pins s σ H x y v u Q I rx ry ⟨toP d1, toP d2, dpx_of S p1 r1, dpx_of S p2 r2, shaped_of p1 q1, shaped_of p2 q2, ?_⟩
    rw [eqv_of d1 d2 p1 p2]
    exact k _ H w (.refl _ _ _) S (.bl _)
theorem any_eqv : ∀ {ys : List D} {x : D}, plains ys = true → plain x = true → ((toPs ys).any fun z => PyData.eqv z (toP x)) = ys.any fun z => eqD z x
  | [], _, _, _ => rfl
  | y :: ys, x, h, p => by
    simp only [plains, Bool.and_eq_true] at h
    show (PyData.eqv (toP y) (toP x) || _) = (eqD y x || _)
    rw [eqv_of y x h.1 p, any_eqv h.2 p]
theorem opr_in (cx : Cxt P A call fd lv N sc X) : OpR X (compareOp .In) (rSem A X (cmpD P.tab call .isin)) := by
  intro pins s σ H x y v u Q I rx ry h
  obtain ⟨w, d1, d2, st, d, st', S, r1, r2, e, k⟩ := h
  cases d2 with
  | tup ys =>
    unfold cmpD at e
    dsimp only at e
    split at e
    · rename_i hf
      rw [Bool.and_eq_true] at hf
      cases e
      obtain ⟨a, vs, rfl, hq, rr⟩ := r2.tupl S
      have r1 := rd_of r1 (by intro xs z; subst z; cases hf.1)
      refine op_in_seq pins s σ H x _ v u Q I rx ry ⟨a, vs, rfl, .inr hq, flat_rel hf.1 r1, flats_rel hf.2 rr, ?_⟩
      show Q (.bl (inV x vs)) H
      rw [inV_of hf.1 r1 hf.2 rr]
      exact k _ H w (.refl _ _ _) S (.bl _)
    · cases e
  | lst ys =>
    unfold cmpD at e
    dsimp only at e
    split at e
    · rename_i hf
      rw [Bool.and_eq_true] at hf
      cases e
      obtain ⟨a, vs, rfl, hq, rr⟩ := r2.list S
      have r1 := rd_of r1 (by intro xs z; subst z; cases hf.1)
      refine op_in_seq pins s σ H x _ v u Q I rx ry ⟨a, vs, rfl, .inl hq, flat_rel hf.1 r1, flats_rel hf.2 rr, ?_⟩
      show Q (.bl (inV x vs)) H
      rw [inV_of hf.1 r1 hf.2 rr]
      exact k _ H w (.refl _ _ _) S (.bl _)
    · unfold inD at e
      split at e
      · rename_i hc
        simp only [Bool.and_eq_true, decide_eq_true_eq] at hc
        cases e
        have pl : plain (.lst ys) = true := by simp only [plain]; exact hc.1.1.2
        refine op_inD (by have := cx.room.un; omega) pins s σ H x y v u Q I rx ry ⟨toP d1, toPs ys, dpx_of S hc.1.1.1 r1, by have z := dpx_of S pl r2; rw [toP] at z; exact z, shaped_of hc.1.1.1 hc.1.2, by have z := shaped_of pl (by simp only [deep]; omega); rw [toP] at z; exact z, ?_⟩
        rw [any_eqv hc.1.1.2 hc.1.1.1]
        exact k _ H w (.refl _ _ _) S (.bl _)
      · cases e
  | _ => cases e
theorem opr_notin (cx : Cxt P A call fd lv N sc X) : OpR X (compareOp .NotIn) (rSem A X (cmpD P.tab call .notin)) := by
  intro pins s σ H x y v u Q I rx ry h
  obtain ⟨w, d1, d2, st, d, st', S, r1, r2, e, k⟩ := h
  cases d2 with
  | tup ys =>
    unfold cmpD at e
    dsimp only at e
    split at e
    · rename_i hf
      rw [Bool.and_eq_true] at hf
      cases e
      obtain ⟨a, vs, rfl, hq, rr⟩ := r2.tupl S
      have r1 := rd_of r1 (by intro xs z; subst z; cases hf.1)
      refine op_notIn_seq pins s σ H x _ v u Q I rx ry ⟨a, vs, rfl, .inr hq, flat_rel hf.1 r1, flats_rel hf.2 rr, ?_⟩
      show Q (.bl (!inV x vs)) H
      rw [inV_of hf.1 r1 hf.2 rr]
      exact k _ H w (.refl _ _ _) S (.bl _)
    · cases e
  | lst ys =>
    unfold cmpD at e
    dsimp only at e
    split at e
    · rename_i hf
      rw [Bool.and_eq_true] at hf
      cases e
      obtain ⟨a, vs, rfl, hq, rr⟩ := r2.list S
      have r1 := rd_of r1 (by intro xs z; subst z; cases hf.1)
      refine op_notIn_seq pins s σ H x _ v u Q I rx ry ⟨a, vs, rfl, .inl hq, flat_rel hf.1 r1, flats_rel hf.2 rr, ?_⟩
      show Q (.bl (!inV x vs)) H
      rw [inV_of hf.1 r1 hf.2 rr]
      exact k _ H w (.refl _ _ _) S (.bl _)
    · unfold ninD at e
      split at e
      · rename_i hc
        simp only [Bool.and_eq_true, decide_eq_true_eq] at hc
        cases e
        have pl : plain (.lst ys) = true := by simp only [plain]; exact hc.1.1.2
        refine op_notInD (by have := cx.room.un; omega) pins s σ H x y v u Q I rx ry ⟨toP d1, toPs ys, dpx_of S hc.1.1.1 r1, by have z := dpx_of S pl r2; rw [toP] at z; exact z, shaped_of hc.1.1.1 hc.1.2, by have z := shaped_of pl (by simp only [deep]; omega); rw [toP] at z; exact z, ?_⟩
        rw [any_eqv hc.1.1.2 hc.1.1.1]
        exact k _ H w (.refl _ _ _) S (.bl _)
      · cases e
  | _ => cases e
theorem opr_ord {op : CmpOp} {g : Int → Int → Bool} {c : Co} (ho : OpR X (compareOp op) (rI0 fun i j => .bl (g i j))) (he : ∀ x y st d st', cmpD P.tab call c x y st = .ok d st' → ∃ i j, x = .int i ∧ y = .int j ∧ d = .bl (g i j) ∧ st' = st) :
    OpR X (compareOp op) (rSem A X (cmpD P.tab call c)) := by
  refine rsem_mono ho fun x y H Q h => ?_
  obtain ⟨w, d1, d2, st, d, st', S, r1, r2, e, k⟩ := h
  obtain ⟨i, j, rfl, rfl, rfl, rfl⟩ := he _ _ _ _ _ e
  exact ⟨i, j, rx_int r1, rx_int r2, k _ H w (.refl _ _ _) S (.bl _)⟩
theorem opr_lt : OpR X (compareOp .Lt) (rSem A X (cmpD P.tab call .lt)) := opr_ord op_lt fun x y st d st' e => by
  unfold cmpD at e
  cases x <;> cases y <;> cases e
  exact ⟨_, _, rfl, rfl, rfl, rfl⟩
theorem opr_le : OpR X (compareOp .LtE) (rSem A X (cmpD P.tab call .le)) := opr_ord op_le fun x y st d st' e => by
  unfold cmpD at e
  cases x <;> cases y <;> cases e
  exact ⟨_, _, rfl, rfl, rfl, rfl⟩
theorem opr_gt : OpR X (compareOp .Gt) (rSem A X (cmpD P.tab call .gt)) := opr_ord (g := fun i j => decide (j < i)) op_gt fun x y st d st' e => by
  unfold cmpD at e
  cases x <;> cases y <;> cases e
  exact ⟨_, _, rfl, rfl, rfl, rfl⟩
theorem opr_ge : OpR X (compareOp .GtE) (rSem A X (cmpD P.tab call .ge)) := opr_ord (g := fun i j => decide (j ≤ i)) op_ge fun x y st d st' e => by
  unfold cmpD at e
  cases x <;> cases y <;> cases e
  exact ⟨_, _, rfl, rfl, rfl, rfl⟩
def isNonD : D → Bool
  | .non => true
  | _ => false
theorem rd_non {K : PySem.W.Frag} {w : Wd} {d : D} {v : V} (r : RD A K w d v) : decide (v = V.non) = isNonD d := by
  cases r <;> rfl
theorem rx_non {K : PySem.W.Frag} {w : Wd} {H : Hp} {d : D} {v : V} (r : RX A K w H d v) : decide (v = V.non) = isNonD d := by
  rcases r with r | ⟨xs, a, vs, rfl, rfl, _⟩
  · exact rd_non r
  · rfl
theorem opr_isN : OpR X (compareOp .Is) (rSem A X (cmpD P.tab call .isNone)) := by
  refine rsem_mono op_isN fun x y H Q h => ?_
  obtain ⟨w, d1, d2, st, d, st', S, r1, r2, e, k⟩ := h
  cases d2 with
  | non =>
    have r2 := rd_of r2 (by intro _ z; cases z)
    cases r2
    refine ⟨rfl, ?_⟩
    rw [rx_non r1]
    cases d1 <;> cases e <;> exact k _ H w (.refl _ _ _) S (.bl _)
  | _ => cases d1 <;> cases e
theorem opr_notN : OpR X (compareOp .IsNot) (rSem A X (cmpD P.tab call .isNotNone)) := by
  refine rsem_mono op_notN fun x y H Q h => ?_
  obtain ⟨w, d1, d2, st, d, st', S, r1, r2, e, k⟩ := h
  cases d2 with
  | non =>
    have r2 := rd_of r2 (by intro _ z; cases z)
    cases r2
    refine ⟨rfl, ?_⟩
    rw [rx_non r1]
    cases d1 <;> cases e <;> exact k _ H w (.refl _ _ _) S (.bl _)
  | _ => cases d1 <;> cases e
def coOf : Co → CmpOp
  | .eq => .Eq
  | .ne => .NotEq
  | .lt => .Lt
  | .le => .LtE
  | .gt => .Gt
  | .ge => .GtE
  | .isin => .In
  | .notin => .NotIn
  | .isNone => .Is
  | .isNotNone => .IsNot
theorem coIs_eq {op : Co} {o : CmpOp} (h : coIs op o = true) : o = coOf op := by
  cases op <;> cases o <;> first | rfl | exact Bool.noConfusion h
theorem opr_cmp (cx : Cxt P A call fd lv N sc X) (op : Co) : OpR X (compareOp (coOf op)) (rSem A X (cmpD P.tab call op)) := by
  cases op with
  | eq => exact opr_eq cx
  | ne => exact opr_ne cx
  | lt => exact opr_lt
  | le => exact opr_le
  | gt => exact opr_gt
  | ge => exact opr_ge
  | isin => exact opr_in cx
  | notin => exact opr_notin cx
  | isNone => exact opr_isN
  | isNotNone => exact opr_notN
end
end Eng

namespace Eng
open PySem PySem.Spec PyProof.Rows L2
section
variable {P : Prg} {A : Ad} {call : Nat → List D → Store → Res D} {fd : Nat → FuncData} {lv : Nat} {N : List PySem.Str} {sc : Scope} {X : Cx}

/-! ### new frozen objects -/
theorem new_lst {w : Wd} {H : Hp} {st : Store} {xs : List D} {vs : List V} {Q : VK} {l : Addr} (S : SR A X.K w st H) (r : RDs A X.K w xs vs) (hl : H l = none) (k : ∀ v H' w', Ext no w H w' H' → SR A X.K w' st H' → RD A X.K w' (.lst xs) v → Q v H') : Q (.ref l) (upd H l (.lst vs)) :=
  k (.ref l) _ (w.add l (.lst vs)) (ext_add S hl) (sr_add S hl) (.lst (SqL.of upd_same) (r.mono (add_le (S.g_none hl))))
theorem new_tup {w : Wd} {H : Hp} {st : Store} {xs : List D} {vs : List V} {Q : VK} {l : Addr} (S : SR A X.K w st H) (r : RDs A X.K w xs vs) (hl : H l = none) (k : ∀ v H' w', Ext no w H w' H' → SR A X.K w' st H' → RD A X.K w' (.tup xs) v → Q v H') : Q (.ref l) (upd H l (.tup vs)) :=
  k (.ref l) _ (w.add l (.tup vs)) (ext_add S hl) (sr_add S hl) (.tup (SqT.of upd_same) (r.mono (add_le (S.g_none hl))))

/-- a list of the store -/
theorem cellL {K : PySem.W.Frag} {w : Wd} {H : Hp} {st : Store} {n : Nat} {xs : List D} {v : V} (S : SR A K w st H) (h : getL st n = some xs) (r : RX A K w H (.ref n) v) : ∃ vs, v = .ref (w.μ n) ∧ n < w.n ∧ H (w.μ n) = some (.lst vs) ∧ RDs A K w xs vs := by
  have hr : v = .ref (w.μ n) ∧ n < w.n := by
    rcases r with r | ⟨ys, a, vs, z, _⟩
    · cases r with
      | ref h => exact ⟨rfl, h⟩
    · cases z
  unfold getL at h
  cases q : st[n]? with
  | none => rw [q] at h; cases h
  | some c =>
    rw [q] at h
    cases c with
    | lk ys =>
      cases h
      obtain ⟨vs, r1, e⟩ := S.cell n _ q
      exact ⟨vs, hr.1, hr.2, e, r1⟩
    | dk _ => cases h
    | dead => cases h
/-! ### built-in functions of one argument -/
def rC (f : D → Store → Res D) (A : Ad) (X : Cx) : List V → Hp → VK → Prop := fun xs H Q => ∃ x, xs = [x] ∧ rSem1 A X f x H Q
theorem callr_mono {f : Value} {r r' : List V → Hp → VK → Prop} (h : CallR X f r) (m : ∀ xs H Q, r' xs H Q → r xs H Q) : CallR X f r' := fun pins s σ H xs us Q I rx q => h pins s σ H xs us Q I rx (m xs H Q q)
theorem bl_len : CallR X (.builtin "len") (rC (bltD P.tab call .len) A X) := by
  refine callr_mono call_len_seq fun xs H Q h => ?_
  obtain ⟨x, rfl, w, d1, st, d, st', S, r1, e, k⟩ := h
  cases d1 with
  | lst ys =>
    cases e
    obtain ⟨a, vs, rfl, hq, rr⟩ := r1.list S
    refine ⟨a, vs, rfl, .inl hq, ?_⟩
    rw [← rr.length]
    exact k _ H w (.refl _ _ _) S (.int _)
  | tup ys =>
    cases e
    obtain ⟨a, vs, rfl, hq, rr⟩ := r1.tupl S
    refine ⟨a, vs, rfl, .inr hq, ?_⟩
    rw [← rr.length]
    exact k _ H w (.refl _ _ _) S (.int _)
  | ref n =>
    unfold bltD at e
    dsimp only at e
    cases hg : getL st n with
    | none => rw [hg] at e; cases e
    | some ys =>
      rw [hg] at e
      cases e
      obtain ⟨vs, rfl, _, hq, rr⟩ := cellL S hg r1
      refine ⟨_, vs, rfl, .inl (SqL.of hq), ?_⟩
      rw [← rr.length]
      exact k _ H w (.refl _ _ _) S (.int _)
  | _ => cases e
theorem bl_abs (cx : Cxt P A call fd lv N sc X) : CallR X (.builtin "abs") (rC (bltD P.tab call .abs) A X) := by
  intro pins s σ H xs us Q I rx h
  obtain ⟨x, rfl, w, d1, st, d, st', S, r1, e, k⟩ := h
  cases d1 with
  | int i =>
    cases e
    obtain rfl := rx_int r1
    exact call_abs pins s σ H _ us Q I rx ⟨i, rfl, k _ H w (.refl _ _ _) S (.int _)⟩
  | ins c fs =>
    unfold bltD at e
    dsimp only at e
    cases hm : methOf P.tab c nAbs with
    | none => rw [hm] at e; cases e
    | some j =>
      rw [hm] at e
      obtain ⟨a, dx, ga, rfl, ha, _, ra⟩ := rx_ins r1 S
      obtain ⟨kl, f, hk, hl, hf, hcd, sp⟩ := meth_sp cx hm (.cons ra .nil) S e k
      have hs := spc_of cx hk hl
      rw [cx.gok.nm.abs] at hs
      exact call_absOwn hs (cx.fok j f hf hcd) (room1 cx) (cx.bnd j f hf) pins s σ H _ us Q I rx ⟨a, dx, ga, rfl, ha, sp⟩
  | _ => cases e
theorem bl_int : CallR X (.type "int") (rC (bltD P.tab call .int) A X) := by
  refine callr_mono call_int1 fun xs H Q h => ?_
  obtain ⟨x, rfl, w, d1, st, d, st', S, r1, e, k⟩ := h
  cases d1 with
  | int i =>
    cases e
    obtain rfl := rx_int r1
    exact .inl ⟨i, rfl, k _ H w (.refl _ _ _) S (.int _)⟩
  | bl b =>
    cases e
    obtain rfl := rx_bl r1
    exact .inr ⟨b, rfl, k _ H w (.refl _ _ _) S (.int _)⟩
  | _ => cases e
theorem bl_bool (cx : Cxt P A call fd lv N sc X) : CallR X (.type "bool") (rC (bltD P.tab call .bool) A X) := by
  intro pins s σ H xs us Q I rx h
  obtain ⟨x, rfl, w, d1, st, d, st', S, r1, e, k⟩ := h
  cases d1 with
  | int i =>
    cases e
    obtain rfl := rx_int r1
    exact call_bool1 pins s σ H _ us Q I rx (.inl ⟨i, rfl, k _ H w (.refl _ _ _) S (.bl _)⟩)
  | bl b =>
    cases e
    obtain rfl := rx_bl r1
    exact call_bool1 pins s σ H _ us Q I rx (.inr ⟨b, rfl, k _ H w (.refl _ _ _) S (.bl _)⟩)
  | ins c fs =>
    have e : (truD P.tab call (.ins c fs) st).bind (fun b st1 => .ok (.bl b) st1) = .ok d st' := e
    obtain ⟨b, st1, e1, e2⟩ := Res.bind_is e
    cases e2
    unfold truD at e1
    dsimp only at e1
    cases hm : methOf P.tab c nBool with
    | none => rw [hm] at e1; cases e1
    | some j =>
      rw [hm] at e1
      obtain ⟨d2, st2, e3, e4⟩ := Res.bind_is e1
      cases d2 with
      | bl c2 =>
        cases e4
        obtain ⟨a, dx, ga, rfl, ha, _, ra⟩ := rx_ins r1 S
        obtain ⟨kl, f, hk, hl, hf, hcd, sp⟩ := meth_sp cx (Q := fun v H' => ∃ c, v = .bl c ∧ Q (.bl c) H') hm (.cons ra .nil) S e3 (fun v' H' w' E' S' r' => by
          cases r'
          exact ⟨_, rfl, k _ H' w' E' S' (.bl _)⟩)
        have hs := spc_of cx hk hl
        rw [cx.gok.nm.bool] at hs
        exact call_boolOwn hs (cx.fok j f hf hcd) (room2 cx) (cx.bnd j f hf) pins s σ H _ us Q I rx ⟨a, dx, ga, rfl, ha, sp⟩
      | _ => cases e4
  | _ => cases e
theorem bl_list : CallR X (.type "list") (rC (bltD P.tab call .list) A X) := by
  refine callr_mono call_list_of fun xs H Q h => ?_
  obtain ⟨x, rfl, w, d1, st, d, st', S, r1, e, k⟩ := h
  cases d1 with
  | lst ys =>
    cases e
    obtain ⟨a, vs, rfl, hq, rr⟩ := r1.list S
    exact ⟨a, vs, rfl, .inl hq, fun l hl => new_lst S rr hl k⟩
  | tup ys =>
    cases e
    obtain ⟨a, vs, rfl, hq, rr⟩ := r1.tupl S
    exact ⟨a, vs, rfl, .inr hq, fun l hl => new_lst S rr hl k⟩
  | _ => cases e
theorem bl_tuple : CallR X (.type "tuple") (rC (bltD P.tab call .tuple) A X) := by
  refine callr_mono call_tuple_of fun xs H Q h => ?_
  obtain ⟨x, rfl, w, d1, st, d, st', S, r1, e, k⟩ := h
  cases d1 with
  | lst ys =>
    cases e
    obtain ⟨a, vs, rfl, hq, rr⟩ := r1.list S
    exact ⟨a, vs, rfl, .inl ⟨hq, fun l hl => new_tup S rr hl k⟩⟩
  | tup ys =>
    cases e
    have r2 := rd_of r1 (by intro _ z; cases z)
    obtain ⟨a, vs, rfl, hq, rr⟩ := r1.tupl S
    exact ⟨a, vs, rfl, .inr ⟨hq, k _ H w (.refl _ _ _) S r2⟩⟩
  | ref n =>
    unfold bltD at e
    dsimp only at e
    cases hg : getL st n with
    | none => rw [hg] at e; cases e
    | some ys =>
      rw [hg] at e
      cases e
      obtain ⟨vs, rfl, _, hq, rr⟩ := cellL S hg r1
      exact ⟨_, vs, rfl, .inl ⟨SqL.of hq, fun l hl => new_tup S rr hl k⟩⟩
  | _ => cases e
theorem sum_of {K : PySem.W.Frag} {w : Wd} : ∀ {xs : List D} {vs : List V} {a n : Int}, RDs A K w xs vs → sumD xs a = some n → ∃ ns : List Int, vs = ns.map V.int ∧ a + ns.sum = n
  | _, _, a, n, .nil, e => ⟨[], rfl, by cases e; simp⟩
  | _, _, a, n, .cons (d := d) h r, e => by
    cases d with
    | int i =>
      cases h
      obtain ⟨ns, rfl, h2⟩ := sum_of r (show sumD _ (a + i) = some n from e)
      exact ⟨i :: ns, rfl, by rw [List.sum_cons]; omega⟩
    | _ => cases e
theorem bl_sum (cx : Cxt P A call fd lv N sc X) : CallR X (.builtin "sum") (rC (bltD P.tab call .sum) A X) := by
  refine callr_mono (cr_sum cx.calm) fun xs H Q h => ?_
  obtain ⟨x, rfl, w, d1, st, d, st', S, r1, e, k⟩ := h
  cases d1 with
  | lst ys =>
    unfold bltD at e
    dsimp only at e
    obtain ⟨a, vs, rfl, hq, rr⟩ := r1.list S
    cases hs : sumD ys 0 with
    | none => rw [hs] at e; cases e
    | some n =>
      rw [hs] at e
      cases e
      obtain ⟨ns, rfl, h2⟩ := sum_of rr hs
      refine ⟨a, ns, rfl, hq, ?_⟩
      have : ns.sum = n := by omega
      rw [this]
      exact k _ H w (.refl _ _ _) S (.int _)
  | _ => cases e
theorem bools_of {K : PySem.W.Frag} {w : Wd} : ∀ {xs : List D} {vs : List V} {bs : List Bool}, RDs A K w xs vs → boolsD xs = some bs → vs = bs.map V.bl
  | _, _, _, .nil, e => by cases e; rfl
  | _, _, bs, .cons (d := d) (ds := ds) h r, e => by
    cases d with
    | bl b =>
      cases h
      cases q : boolsD ds with
      | none => simp [boolsD, q] at e
      | some cs =>
        simp [boolsD, q] at e
        subst e
        rw [bools_of r q]
        rfl
    | _ => cases e
theorem bl_all (cx : Cxt P A call fd lv N sc X) : CallR X (.builtin "all") (rC (bltD P.tab call .all) A X) := by
  refine callr_mono (cr_all cx.calm) fun xs H Q h => ?_
  obtain ⟨x, rfl, w, d1, st, d, st', S, r1, e, k⟩ := h
  cases d1 with
  | lst ys =>
    unfold bltD at e
    dsimp only at e
    obtain ⟨a, vs, rfl, hq, rr⟩ := r1.list S
    cases hs : boolsD ys with
    | none => rw [hs] at e; cases e
    | some bs =>
      rw [hs] at e
      cases e
      rw [bools_of rr hs] at hq
      exact ⟨a, bs, rfl, hq, k _ H w (.refl _ _ _) S (.bl _)⟩
  | _ => cases e
theorem bl_any (cx : Cxt P A call fd lv N sc X) : CallR X (.builtin "any") (rC (bltD P.tab call .any) A X) := by
  refine callr_mono (cr_any cx.calm) fun xs H Q h => ?_
  obtain ⟨x, rfl, w, d1, st, d, st', S, r1, e, k⟩ := h
  cases d1 with
  | lst ys =>
    unfold bltD at e
    dsimp only at e
    obtain ⟨a, vs, rfl, hq, rr⟩ := r1.list S
    cases hs : boolsD ys with
    | none => rw [hs] at e; cases e
    | some bs =>
      rw [hs] at e
      cases e
      rw [bools_of rr hs] at hq
      exact ⟨a, bs, rfl, hq, k _ H w (.refl _ _ _) S (.bl _)⟩
  | _ => cases e

theorem rds_strs {K : PySem.W.Frag} {w : Wd} : ∀ {ss : List PySem.Str} {vs : List V}, RDs A K w (ss.map .str) vs → vs = ss.map V.str
  | [], _, .nil => rfl
  | s :: r, _, .cons (.str _) q => by rw [rds_strs q]; rfl
theorem rds_str {K : PySem.W.Frag} {w : Wd} : ∀ ss : List PySem.Str, RDs A K w (ss.map .str) (ss.map V.str)
  | [] => .nil
  | s :: r => .cons (.str s) (rds_str r)
theorem rds_ints {K : PySem.W.Frag} {w : Wd} : ∀ {ss : List Int} {vs : List V}, RDs A K w (ss.map .int) vs → vs = ss.map V.int
  | [], _, .nil => rfl
  | s :: r, _, .cons (.int _) q => by rw [rds_ints q]; rfl
theorem rds_int {K : PySem.W.Frag} {w : Wd} : ∀ ss : List Int, RDs A K w (ss.map .int) (ss.map V.int)
  | [] => .nil
  | s :: r => .cons (.int s) (rds_int r)
theorem kys_map : ∀ {xs : List D} {ks : List Ky}, kysD xs = some ks → xs = ks.map kyV
  | [], _, h => by cases h; rfl
  | d :: r, ks, h => by
    unfold kysD at h
    cases hk : kyD d with
    | none => rw [hk] at h; cases h
    | some k =>
      cases hr : kysD r with
      | none => rw [hk, hr] at h; cases h
      | some l =>
        rw [hk, hr] at h
        cases h
        rw [List.map_cons, ← kys_map hr]
        congr 1
        cases d <;> simp [kyD] at hk <;> subst hk <;> rfl
theorem tks_map : ∀ {xs : List D} {ks : List (List Ky)}, tksD xs = some ks → xs = ks.map tkV
  | [], _, h => by cases h; rfl
  | d :: r, ks, h => by
    unfold tksD at h
    cases hk : tkD d with
    | none => rw [hk] at h; cases h
    | some k =>
      cases hr : tksD r with
      | none => rw [hk, hr] at h; cases h
      | some l =>
        rw [hk, hr] at h
        cases h
        rw [List.map_cons, ← tks_map hr]
        congr 1
        cases d <;> simp [tkD] at hk
        rw [tkV, ← kys_map hk]
theorem rds_kys {K : PySem.W.Frag} {w : Wd} : ∀ {ks : List Ky} {vs : List V}, RDs A K w (ks.map kyV) vs → vs = ks.map kV
  | [], _, .nil => rfl
  | .inl i :: r, _, .cons (.int _) q => by rw [rds_kys q]; rfl
  | .inr i :: r, _, .cons (.str _) q => by rw [rds_kys q]; rfl
theorem rds_tks {K : PySem.W.Frag} {w : Wd} : ∀ {ks : List (List Ky)} {vs : List V}, RDs A K w (ks.map tkV) vs → Paired (fun x k => RD A K w (tkV k) x) vs ks
  | [], _, .nil => .nil
  | k :: r, _, .cons h q => .cons h (rds_tks q)
theorem tks_rds {K : PySem.W.Frag} {w : Wd} : ∀ {ks : List (List Ky)} {vs : List V}, Paired (fun x k => RD A K w (tkV k) x) vs ks → RDs A K w (ks.map tkV) vs
  | [], _, .nil => .nil
  | k :: r, _, .cons h q => .cons h (tks_rds q)
theorem bl_sorted : CallR X (.builtin "sorted") (rC (bltD P.tab call .sorted) A X) := by
  intro pins s σ H xs us Q I rr0 h
  obtain ⟨x, rfl, w, d1, st, d, st', S, r1, e, k⟩ := h
  cases d1 with
  | lst ys =>
    unfold bltD at e
    dsimp only at e
    cases hs : strsD ys with
    | none =>
      rw [hs] at e
      dsimp only at e
      cases ht : tksD ys with
      | none => rw [ht] at e; cases e
      | some ks =>
        rw [ht] at e
        dsimp only at e
        split at e
        · rename_i hc
          rw [Bool.and_eq_true] at hc
          cases e
          obtain ⟨a, vs, rfl, hq, rr⟩ := r1.list S
          obtain rfl := tks_map ht
          refine cr_sortedK pins s σ H _ us Q I rr0 ⟨a, vs, ks, fun x k => RD A X.K w (tkV k) x, rfl, hq, fun x k hk => ?_, rds_tks rr, hc.2, fun zs p hp hn => new_lst S (tks_rds hp) hn k⟩
          unfold tkV at hk
          obtain ⟨t, us', rfl, hq', rr'⟩ := hk.tupl S
          rw [rds_kys rr'] at hq'
          exact ⟨t, rfl, hq'⟩
        · cases e
    | some ss =>
      rw [hs] at e
      dsimp only at e
      split at e
      · rename_i h64
        cases e
        obtain ⟨a, vs, rfl, hq, rr⟩ := r1.list S
        obtain rfl := strsD_map hs
        obtain rfl := rds_strs rr
        refine cr_sortedS pins s σ H _ us Q I rr0 ⟨a, ss, rfl, hq, h64, fun zs p hp hso hn => ?_⟩
        obtain rfl := sortS_is hp hso
        exact new_lst S (rds_str _) hn k
      · cases e
  | _ => cases e
/-! ### items, slices -/
theorem at_of' {K : PySem.W.Frag} {w : Wd} {xs : List D} {vs : List V} {i : Int} {d : D} (r : RDs A K w xs vs) (h : atD xs i = some d) : ∃ v, atI vs i = some v ∧ RD A K w d v := by
  have hl := r.length
  unfold atD at h
  unfold atI ixN
  split at h
  · rename_i h0
    obtain ⟨v, e, q⟩ := r.get h
    have hlt := (List.getElem?_eq_some_iff.mp h).1
    refine ⟨v, ?_, q⟩
    rw [if_pos h0, if_pos (by omega)]
    exact e
  · rename_i h0
    split at h
    · rename_i h1
      obtain ⟨v, e, q⟩ := r.get h
      refine ⟨v, ?_, q⟩
      rw [if_neg h0, if_pos (by omega)]
      rw [hl] at e
      exact e
    · cases h
theorem ixr_sem : IxR X (rSem A X (fun x y st => idxD x y st)) := by
  intro value slice pins s σ H x y v u Q I rx ry h hs
  obtain ⟨w, d1, d2, st, d, st', S, r1, r2, e, k⟩ := h
  cases d1 with
  | lst xs =>
    cases d2 with
    | int i =>
      obtain rfl := rx_int r2
      obtain ⟨a, vs, rfl, hq, rr⟩ := r1.list S
      unfold idxD at e
      dsimp only at e
      cases ha : atD xs i with
      | none => rw [ha] at e; cases e
      | some d' =>
        rw [ha] at e
        cases e
        obtain ⟨z, h1, h2⟩ := at_of' rr ha
        exact ix_list value slice pins s σ H _ _ v u Q I rx ry ⟨a, vs, i, z, rfl, rfl, hq, h1, k _ H w (.refl _ _ _) S h2⟩ hs
    | _ => cases e
  | tup xs =>
    cases d2 with
    | int i =>
      obtain rfl := rx_int r2
      obtain ⟨a, vs, rfl, hq, rr⟩ := r1.tupl S
      unfold idxD at e
      dsimp only at e
      cases ha : atD xs i with
      | none => rw [ha] at e; cases e
      | some d' =>
        rw [ha] at e
        cases e
        obtain ⟨z, h1, h2⟩ := at_of' rr ha
        exact ix_tup value slice pins s σ H _ _ v u Q I rx ry ⟨a, vs, i, z, rfl, rfl, hq, h1, k _ H w (.refl _ _ _) S h2⟩ hs
    | _ => cases e
  | ref n =>
    cases d2 with
    | int i =>
      obtain rfl := rx_int r2
      unfold idxD at e
      dsimp only at e
      cases hg : getL st n with
      | none => rw [hg] at e; cases e
      | some ys =>
        rw [hg] at e
        dsimp only at e
        obtain ⟨vs, rfl, _, hq, rr⟩ := cellL S hg r1
        cases ha : atD ys i with
        | none => rw [ha] at e; cases e
        | some d' =>
          rw [ha] at e
          cases e
          obtain ⟨z, h1, h2⟩ := at_of' rr ha
          exact ix_list value slice pins s σ H _ _ v u Q I rx ry ⟨_, vs, i, z, rfl, rfl, SqL.of hq, h1, k _ H w (.refl _ _ _) S h2⟩ hs
    | _ => cases e
  | _ => cases d2 <;> cases e
theorem cutAt_eq (n d : Nat) (o : Option Int) : cutAt n d o = HT.sIx n d o := by
  cases o <;> rfl
theorem cut_of {K : PySem.W.Frag} {w : Wd} {xs : List D} {vs : List V} (lo hi : Option Int) (r : RDs A K w xs vs) : RDs A K w (cutD xs lo hi) (cutV vs lo hi) := by
  unfold cutD cutV
  rw [cutAt_eq, cutAt_eq, r.length]
  exact (r.drop _).take _
end
end Eng

namespace Eng
open PySem PySem.Spec PyProof.Rows L2
section
variable {P : Prg} {A : Ad} {call : Nat → List D → Store → Res D} {fd : Nat → FuncData} {lv : Nat} {N : List PySem.Str} {sc : Scope} {X : Cx}

theorem pv_rd {c : C} {w : Wd} {H : Hp} {d : D} {v : V} (hc : c.isBor = false) (r : RD A X.K w d v) : PV A X.K c w H d v := by
  unfold PV
  rw [if_neg (by rw [hc]; exact Bool.false_ne_true)]
  exact r
/-! ### names, constants -/
theorem name_of {i : Nat} {x : PySem.Str} (h : nameB N sc i x = true) : N[i]? = some x ∧ Vis sc x ∧ (x == ("__debug__" : PySem.Str)) = false ∧ (x == ("__classdict__" : PySem.Str)) = false := by
  unfold nameB at h
  simp only [Bool.and_eq_true, decide_eq_true_eq, Bool.not_eq_true'] at h
  refine ⟨h.1.1.1, ?_, h.1.2, h.2⟩
  have q := h.1.1.2
  unfold visB at q
  unfold Vis
  split at q <;> first | exact .inl (by assumption) | exact .inr (.inl (by assumption)) | exact .inr (.inr (by assumption)) | cases q
theorem gl_of (cx : Cxt P A call fd lv N sc X) {x : PySem.Str} (h : glB sc x = true) : Gl X x ∧ (x == ("__debug__" : PySem.Str)) = false ∧ x ≠ ("__name__" : PySem.Str) := by
  unfold glB at h
  simp only [Bool.and_eq_true, decide_eq_true_eq, Bool.not_eq_true'] at h
  refine ⟨?_, h.1.2, h.2⟩
  unfold Gl
  show X.env.scope.names.lookup x = some .globalImplicit
  rw [cx.sc]
  exact h.1.1
theorem snd_var (cx : Cxt P A call fd lv N sc X) {i : Nat} {x : PySem.Str} {pos : Pos} (h : nameB N sc i x = true) : PE X (.Name x pos) (tE P A call X (.var i)) := by
  obtain ⟨h1, h2, h3, h4⟩ := name_of h
  refine PE.mono (pe_var (by rw [cx.N]; exact h1) (by rw [cx.sc]; exact h2) h3 h4) fun σ H Q t => ?_
  obtain ⟨w, ρ, st, H0, ex, d, st', S, R, e, k⟩ := t
  simp only [ev] at e
  cases q : slotV ρ i with
  | none => rw [q] at e; cases e
  | some d' =>
    rw [q] at e
    cases e
    unfold slotV at q
    split at q
    · rename_i d2 hs
      cases q
      obtain ⟨v, hv, hr⟩ := R.sl i _ hs
      exact ⟨v, hv, k v H w (.refl _ _ _) S (pv_rd rfl hr)⟩
    · cases q
theorem snd_bor (cx : Cxt P A call fd lv N sc X) {i : Nat} {x : PySem.Str} {pos : Pos} (h : nameB N sc i x = true) : PE X (.Name x pos) (tE P A call X (.bor i)) := by
  obtain ⟨h1, h2, h3, h4⟩ := name_of h
  refine PE.mono (pe_var (by rw [cx.N]; exact h1) (by rw [cx.sc]; exact h2) h3 h4) fun σ H Q t => ?_
  obtain ⟨w, ρ, st, H0, ex, d, st', S, R, e, k⟩ := t
  simp only [ev] at e
  cases q : slotO ρ i with
  | none => rw [q] at e; cases e
  | some d' =>
    rw [q] at e
    cases e
    unfold slotO at q
    split at q
    · rename_i d2 hs
      cases q
      obtain ⟨v, hv, a, vs, rfl, h5, h6, h7, _⟩ := R.sl i _ hs
      refine ⟨_, hv, k _ H w (.refl _ _ _) S ?_⟩
      unfold PV
      rw [if_pos (show C.isBor (.bor i) = true from rfl)]
      exact .inr ⟨_, a, vs, rfl, rfl, h5, h6, h7⟩
    · cases q
theorem snd_const {c : C} {v : V} {d : D} {e : Expr} (hc : c.isBor = false) (he : ∀ ρ st, ev P.tab call c ρ st = .ok d st) (r : ∀ w, RD A X.K w d v) (h : PE X e (tC v)) : PE X e (tE P A call X c) := by
  refine PE.mono h fun σ H Q t => ?_
  obtain ⟨w, ρ, st, H0, ex, d', st', S, R, e, k⟩ := t
  rw [he] at e
  cases e
  exact k v H w (.refl _ _ _) S (pv_rd hc (r w))
/-! ### displays -/
theorem snd_nil : PA X [] (tAs P A call X .nil) := by
  refine PA.mono pa_nil fun σ H Q t => ?_
  obtain ⟨w, ρ, st, H0, ex, ds, st', S, R, e, k⟩ := t
  simp only [evs] at e
  cases e
  exact k [] H w (.refl _ _ _) S .nil
theorem snd_cons {c : C} {r : Cs} {e : Expr} {es : List Expr} (hb : (!c.isBor) = true) (hs : shape e = true) (h1 : PE X e (tE P A call X c)) (h2 : PA X es (tAs P A call X r)) : PA X (e :: es) (tAs P A call X (.cons c r)) := by
  refine PA.mono (pa_cons h1 h2 (star_of es X.env hs)) fun σ H Q t => ?_
  obtain ⟨w, ρ, st, H0, ex, ds, st', S, R, e, k⟩ := t
  simp only [evs] at e
  obtain ⟨x, st1, e1, e⟩ := Res.bind_is e
  obtain ⟨xs, st2, e2, e⟩ := Res.bind_is e
  cases e
  refine ⟨w, ρ, st, H0, ex, x, st1, S, R, e1, fun v H1 w1 E1 S1 p1 => ⟨w1, ρ, st1, H0, ex, xs, st', S1, R.ext E1, e2, fun vs H2 w2 E2 S2 p2 => k (v :: vs) H2 w2 (E1.trans E2) S2 (.cons ((p1.rd hb).mono E2.le) p2)⟩⟩
theorem small_of {w : Wd} {H : Hp} {xs : List D} {vs : List V} (r : RDs A X.K w xs vs) (h : xs.length ≤ 1000000) : vs.length ≤ sizeLine := by
  rw [← r.length, sizeLine_eq]
  omega
def csLen : Cs → Nat
  | .nil => 0
  | .cons _ r => csLen r + 1
theorem evs_len : ∀ {as : Cs} {ρ : Env} {st st' : Store} {ds : List D}, evs P.tab call as ρ st = .ok ds st' → ds.length = csLen as
  | .nil, _, _, _, _, e => by simp only [evs] at e; cases e; rfl
  | .cons c r, _, _, _, _, e => by
    simp only [evs] at e
    obtain ⟨x, st1, e1, e⟩ := Res.bind_is e
    obtain ⟨xs, st2, e2, e⟩ := Res.bind_is e
    cases e
    simp only [csLen, List.length_cons, evs_len e2]
theorem chk_len {N' : List PySem.Str} : ∀ {as : Cs} {es : List Expr}, chkEs P N' sc as es = true → es.length = csLen as
  | .nil, [], _ => rfl
  | .nil, _ :: _, h => by simp [chkEs] at h
  | .cons _ _, [], h => by simp [chkEs] at h
  | .cons c r, e :: es, h => by
    simp only [chkEs, Bool.and_eq_true] at h
    simp only [csLen, List.length_cons, chk_len h.2]
theorem snd_tup {as : Cs} {es : List Expr} {kk : Nat} {pos : Pos} (hl : csLen as ≤ 1000000) (h : PA X es (tAs P A call X as)) : PE X (.Tuple es kk pos) (tE P A call X (.tup as)) := by
  refine PE.mono (pe_tup h) fun σ H Q t => ?_
  obtain ⟨w, ρ, st, H0, ex, d, st', S, R, e, k⟩ := t
  simp only [ev] at e
  obtain ⟨xs, st1, e1, e⟩ := Res.bind_is e
  cases e
  refine ⟨w, ρ, st, H0, ex, xs, st', S, R, e1, fun vs H1 w1 E1 S1 p1 => ⟨small_of (H := H1) p1 (by rw [evs_len e1]; exact hl), fun p hp => ?_⟩⟩
  exact new_tup S1 p1 hp fun v H2 w2 E2 S2 r2 => k v H2 w2 (E1.trans E2) S2 (pv_rd rfl r2)
theorem snd_lst {as : Cs} {es : List Expr} {pos : Pos} (hl : csLen as ≤ 1000000) (h : PA X es (tAs P A call X as)) : PE X (.List es pos) (tE P A call X (.lst as)) := by
  refine PE.mono (pe_lst h) fun σ H Q t => ?_
  obtain ⟨w, ρ, st, H0, ex, d, st', S, R, e, k⟩ := t
  simp only [ev] at e
  obtain ⟨xs, st1, e1, e⟩ := Res.bind_is e
  cases e
  refine ⟨w, ρ, st, H0, ex, xs, st', S, R, e1, fun vs H1 w1 E1 S1 p1 => ⟨small_of (H := H1) p1 (by rw [evs_len e1]; exact hl), fun p hp => ?_⟩⟩
  exact new_lst S1 p1 hp fun v H2 w2 E2 S2 r2 => k v H2 w2 (E1.trans E2) S2 (pv_rd rfl r2)
/-! ### operators, items -/
theorem snd_bin (cx : Cxt P A call fd lv N sc X) {op : Bo} {a b : C} {o : Operator} {ea eb : Expr} {pos : Pos} (ho : boIs op o = true) (ha : PE X ea (tE P A call X a)) (hb : PE X eb (tE P A call X b)) : PE X (.BinOp ea o eb pos) (tE P A call X (.bin op a b)) := by
  rw [boIs_eq ho]
  exact PE.mono (pe_op (opr_bin cx op) ha hb) (two_step rfl fun ρ st => by simp only [ev])
theorem snd_neg (cx : Cxt P A call fd lv N sc X) {a : C} {ea : Expr} {pos : Pos} (ha : PE X ea (tE P A call X a)) : PE X (.UnaryOp .USub ea pos) (tE P A call X (.neg a)) :=
  PE.mono (pe_un (unr_neg cx) ha) (one_step rfl fun ρ st => by simp only [ev])
theorem snd_cmp (cx : Cxt P A call fd lv N sc X) {op : Co} {a b : C} {o : CmpOp} {ea eb : Expr} {pos : Pos} (ho : coIs op o = true) (hs : shape eb = true) (ha : PE X ea (tE P A call X a)) (hb : PE X eb (tE P A call X b)) : PE X (.Compare ea [o] [eb] pos) (tE P A call X (.cmp op a b)) := by
  rw [coIs_eq ho]
  exact PE.mono (pe_cmpR (opr_cmp cx op) ha hb (mark_of _ hs)) (two_step rfl fun ρ st => by simp only [ev])
theorem snd_idx {a b : C} {ea eb : Expr} {pos : Pos} (hs : shape eb = true) (ha : PE X ea (tE P A call X a)) (hb : PE X eb (tE P A call X b)) : PE X (.Subscript ea eb pos) (tE P A call X (.idx a b)) :=
  PE.mono (pe_ix ixr_sem ha hb (ix_of hs)) (two_step rfl fun ρ st => by simp only [ev])
theorem cmp_bl {op : Co} {x y d : D} {st st' : Store} (e : cmpD P.tab call op x y st = .ok d st') : ∃ b, d = .bl b := by
  unfold cmpD at e
  cases op <;> dsimp only at e
  · obtain ⟨b, st1, e1, e2⟩ := Res.bind_is e
    cases e2
    exact ⟨_, rfl⟩
  · obtain ⟨b, st1, e1, e2⟩ := Res.bind_is e
    cases e2
    exact ⟨_, rfl⟩
  all_goals (try unfold inD at e) <;> (try unfold ninD at e)
  all_goals
    repeat' (split at e)
    all_goals first | cases e; exact ⟨_, rfl⟩ | cases e
theorem snd_chain (cx : Cxt P A call fd lv N sc X) {o1 o2 : Co} {a b c : C} {p1 p2 : CmpOp} {ea eb ec : Expr} {pos : Pos} (h1 : coIs o1 p1 = true) (h2 : coIs o2 p2 = true) (hs : shape ec = true)
    (ha : PE X ea (tE P A call X a)) (hb : PE X eb (tE P A call X b)) (hc : PE X ec (tE P A call X c)) : PE X (.Compare ea [p1, p2] [eb, ec] pos) (tE P A call X (.chain o1 o2 a b c)) := by
  rw [coIs_eq h1, coIs_eq h2]
  refine PE.mono (pe_chain (opr_cmp cx o1) (opr_cmp cx o2) ha hb hc (mark_of _ hs)) fun σ H Q t => ?_
  obtain ⟨w, ρ, st, H0, ex, d, st', S, R, e, k⟩ := t
  simp only [ev] at e
  obtain ⟨x, st1, e1, e⟩ := Res.bind_is e
  obtain ⟨y, st2, e2, e⟩ := Res.bind_is e
  obtain ⟨r, st3, e3, e⟩ := Res.bind_is e
  refine ⟨w, ρ, st, H0, ex, x, st1, S, R, e1, fun v H1 w1 E1 S1 q1 => ⟨w1, ρ, st1, H0, ex, y, st2, S1, R.ext E1, e2, fun u H2 w2 E2 S2 q2 => ?_⟩⟩
  refine ⟨w2, x, y, st2, r, st3, S2, q1.rx.ext E2, q2.rx, e3, fun z H3 w3 E3 S3 q3 => ?_⟩
  obtain ⟨b, rfl⟩ := cmp_bl e3
  cases q3
  refine ⟨b, rfl, ?_⟩
  cases b with
  | true =>
    refine iteT ?_
    dsimp only at e
    obtain ⟨z, st4, e4, e⟩ := Res.bind_is e
    refine ⟨w3, ρ, st3, H0, ex, z, st4, S3, (R.ext E1).ext (E2.trans E3), e4, fun v4 H4 w4 E4 S4 q4 => ⟨w4, y, z, st4, d, st', S4, (q2.rx.ext E3).ext E4, q4.rx, e, fun v5 H5 w5 E5 S5 q5 => ?_⟩⟩
    exact k v5 H5 w5 (E1.trans (E2.trans (E3.trans (E4.trans E5)))) S5 (pv_rd rfl q5)
  | false =>
    refine iteF ?_
    cases e
    exact k _ H3 w3 (E1.trans (E2.trans E3)) S3 (pv_rd rfl (.bl _))
theorem snd_not {a : C} {ea : Expr} {pos : Pos} (ha : PE X ea (tE P A call X a)) (hb : (!a.isBor) = true) : PE X (.UnaryOp .Not ea pos) (tE P A call X (.not a)) := by
  refine PE.mono (pe_not ha) fun σ H Q t => ?_
  obtain ⟨w, ρ, st, H0, ex, d, st', S, R, e, k⟩ := t
  simp only [ev] at e
  obtain ⟨x, st1, e1, e⟩ := Res.bind_is e
  refine ⟨w, ρ, st, H0, ex, x, st1, S, R, e1, fun v H1 w1 E1 S1 q1 => ?_⟩
  cases x with
  | bl b =>
    cases e
    have q := q1.rd hb
    cases q
    exact ⟨b, rfl, k _ H1 w1 E1 S1 (pv_rd rfl (.bl _))⟩
  | _ => cases e
/-! ### slices -/
def tOpt (P : Prg) (A : Ad) (call : Nat → List D → Store → Res D) (X : Cx) (c : C) : TO := fun σ H Q => ∃ w ρ st H0 ex d st' o, SR A X.K w st H ∧ RS A X.K H0 ex w ρ σ H ∧ ev P.tab call c ρ st = .ok d st' ∧ bndD c.isNon d = some o ∧ ∀ H' w', Ext no w H w' H' → SR A X.K w' st' H' → Q o H'
theorem PO.mono {e : Option Expr} {t t' : TO} (h : PO X e t) (m : ∀ σ H Q, t' σ H Q → t σ H Q) : PO X e t' := ⟨fun pins s σ H Q I q => h.run pins s σ H Q I (m σ H Q q)⟩
theorem snd_none : PO X none (tOpt P A call X .non) := by
  refine PO.mono po_none fun σ H Q t => ?_
  obtain ⟨w, ρ, st, H0, ex, d, st', o, S, R, e, ho, k⟩ := t
  simp only [ev] at e
  cases e
  cases ho
  exact k H w (.refl _ _ _) S
theorem snd_some {c : C} {e : Expr} (hb : (!c.isBor) = true) (hn : c.isNon = false) (h : PE X e (tE P A call X c)) : PO X (some e) (tOpt P A call X c) := by
  refine PO.mono (po_some h) fun σ H Q t => ?_
  obtain ⟨w, ρ, st, H0, ex, d, st', o, S, R, e, ho, k⟩ := t
  refine ⟨w, ρ, st, H0, ex, d, st', S, R, e, fun v H1 w1 E1 S1 q1 => ?_⟩
  have q := q1.rd hb
  unfold bndD at ho
  rw [hn, if_neg Bool.false_ne_true] at ho
  cases d with
  | int i =>
    cases q
    cases ho
    exact ⟨i, rfl, k H1 w1 E1 S1⟩
  | _ => cases ho
theorem sl_both : SlR X (fun x lo hi H Q => rSlL X.K x lo hi H Q ∨ rSlA X.K x lo hi H Q) := SlR.or sl_list sl_tupA
theorem snd_sl {a lo hi : C} {ea : Expr} {l h : Option Expr} {p2 pos : Pos} (ha : PE X ea (tE P A call X a)) (hl : PO X l (tOpt P A call X lo)) (hh : PO X h (tOpt P A call X hi)) : PE X (.Subscript ea (.Slice l h none p2) pos) (tE P A call X (.sl a lo hi)) := by
  refine PE.mono (pe_slice sl_both ha hl hh) fun σ H Q t => ?_
  obtain ⟨w, ρ, st, H0, ex, d, st', S, R, e, k⟩ := t
  simp only [ev] at e
  obtain ⟨x, st1, e1, e⟩ := Res.bind_is e
  obtain ⟨y, st2, e2, e⟩ := Res.bind_is e
  obtain ⟨z, st3, e3, e⟩ := Res.bind_is e
  unfold slD at e
  cases x with
  | lst xs =>
    cases h1 : bndD lo.isNon y with
    | none => rw [h1] at e; cases e
    | some o1 =>
      cases h2 : bndD hi.isNon z with
      | none => rw [h1, h2] at e; cases e
      | some o2 =>
        rw [h1, h2] at e
        cases e
        refine ⟨w, ρ, st, H0, ex, _, st1, S, R, e1, fun v H1 w1 E1 S1 q1 => ⟨w1, ρ, st1, H0, ex, y, st2, o1, S1, R.ext E1, e2, h1, fun H2 w2 E2 S2 => ⟨w2, ρ, st2, H0, ex, z, st', o2, S2, (R.ext E1).ext E2, e3, h2, fun H3 w3 E3 S3 => ?_⟩⟩⟩
        obtain ⟨b, vs, rfl, hq, rr⟩ := ((q1.rx.ext E2).ext E3).list S3
        refine .inl ⟨b, vs, rfl, hq, fun p hp => ?_⟩
        exact new_lst S3 (cut_of o1 o2 rr) hp fun v H4 w4 E4 S4 r4 => k v H4 w4 (E1.trans (E2.trans (E3.trans E4))) S4 (pv_rd rfl r4)
  | tup xs =>
    cases h1 : bndD lo.isNon y with
    | none => rw [h1] at e; cases e
    | some o1 =>
      cases h2 : bndD hi.isNon z with
      | none => rw [h1, h2] at e; cases e
      | some o2 =>
        rw [h1, h2] at e
        cases e
        refine ⟨w, ρ, st, H0, ex, _, st1, S, R, e1, fun v H1 w1 E1 S1 q1 => ⟨w1, ρ, st1, H0, ex, y, st2, o1, S1, R.ext E1, e2, h1, fun H2 w2 E2 S2 => ⟨w2, ρ, st2, H0, ex, z, st', o2, S2, (R.ext E1).ext E2, e3, h2, fun H3 w3 E3 S3 => ?_⟩⟩⟩
        have rx := (q1.rx.ext E2).ext E3
        obtain ⟨b, vs, rfl, hq, rr⟩ := rx.tupl S3
        refine .inr ⟨b, vs, rfl, hq, fun hz => ?_, fun hz p hp => ?_⟩
        · have ec : cutD xs o1 o2 = xs := by
            unfold cutD
            rw [cutAt_eq, cutAt_eq, rr.length, hz.1, hz.2, List.drop_zero, Nat.sub_zero, ← rr.length, List.take_length]
          refine k _ H3 w3 (E1.trans (E2.trans E3)) S3 (pv_rd rfl ?_)
          rw [ec]
          exact rd_of rx (fun _ z => nomatch z)
        · exact new_tup S3 (cut_of o1 o2 rr) hp fun v H4 w4 E4 S4 r4 => k v H4 w4 (E1.trans (E2.trans (E3.trans E4))) S4 (pv_rd rfl r4)
  | _ => cases e
end
end Eng

namespace Eng
open PySem PySem.Spec PyProof.Rows L2
section
variable {P : Prg} {A : Ad} {call : Nat → List D → Store → Res D} {fd : Nat → FuncData} {lv : Nat} {N : List PySem.Str} {sc : Scope} {X : Cx}

/-! ### calls -/
theorem call_step {j : Nat} {f : FnI} {as : Cs} {ds : List D} {dvs : List V} (cx : Cxt P A call fd lv N sc X) (hf : P.fns[j]? = some f) (hi : f.init = none) (hd : ∀ w, RDs A X.K w ds dvs) :
    ∀ σ H Q, tE P A call X (.call j as ds) σ H Q → tCall (spF A X.K call j f) dvs E0 (tAs P A call X as) σ H Q := by
  rintro σ H Q ⟨w, ρ, st, H0, ex, d, st', S, R, e, k⟩
  simp only [ev] at e
  obtain ⟨xs, st1, e1, e⟩ := Res.bind_is e
  refine ⟨w, ρ, st, H0, ex, xs, st1, S, R, e1, fun vs H1 w1 E1 S1 p1 => ?_⟩
  show spF A X.K call j f (vs ++ dvs) H1 Q E0
  have p2 : RDs A X.K w1 (xs ++ ds) (vs ++ dvs) := p1.append (hd w1)
  obtain ⟨f', hf', hc⟩ := cx.cok j (xs ++ ds) st1 d st' e
  rw [hf] at hf'
  cases hf'
  rcases hc with ⟨_, hlen⟩ | ⟨c', fs, h', _⟩
  · exact sp_of hi (by rw [← p2.length, hlen]) p2 S1 e fun v H2 w2 E2 S2 r2 => k v H2 w2 (E1.trans E2) S2 (pv_rd rfl r2)
  · rw [hi] at h'
    cases h'
theorem fn_of' {j : Nat} {x : PySem.Str} {n : Nat} {ds : List D} (h : fnB P j x n ds = true) : ∃ f, P.fns[j]? = some f ∧ f.glob = some x ∧ f.init = none ∧ (ds = [] ∨ (f.dfl.length = ds.length ∧ fEqs f.dfl ds = true ∧ ds.all flat = true)) := by
  unfold fnB at h
  cases q : P.fns[j]? with
  | none => rw [q] at h; cases h
  | some f =>
    rw [q] at h
    simp only [Bool.and_eq_true, Bool.or_eq_true, decide_eq_true_eq] at h
    refine ⟨f, rfl, h.1.1.1, h.1.1.2, ?_⟩
    rcases h.2 with z | z
    · exact .inl (List.isEmpty_iff.mp z)
    · exact .inr ⟨z.1.1, z.1.2, z.2⟩
/-- what the call leaves to the defaults -/
theorem dfl_of (cx : Cxt P A call fd lv N sc X) {j : Nat} {f : FnI} {ds : List D} (hf : P.fns[j]? = some f) (h : ds = [] ∨ (f.dfl.length = ds.length ∧ fEqs f.dfl ds = true ∧ ds.all flat = true)) : ∃ us vs, (∀ w, RDs A X.K w ds vs) ∧ Vals vs us ∧ Binds X.K (fd j) f.ps us := by
  rcases h with rfl | ⟨h1, h2, h3⟩
  · exact ⟨[], [], fun _ => .nil, .nil, cx.bnd j f hf⟩
  · exact cx.bnF j f ds hf h2 h3 h1
theorem hot_of (cx : Cxt P A call fd lv N sc X) {j : Nat} {f : FnI} (hf : P.fns[j]? = some f) (h : hotOk P N j = true) : hotB f.N = false ∨ X.A.guards = some [] := by
  unfold hotOk at h
  rw [hf] at h
  dsimp only at h
  cases q : hotB f.N with
  | false => exact .inl rfl
  | true =>
    rw [q] at h
    exact .inr (cx.gd (by rw [cx.N]; exact h))
/-- a call of a plain def -/
theorem call_pos (cx : Cxt P A call fd lv N sc X) {j : Nat} {f : FnI} {x : PySem.Str} {p pos : Pos} {e : Expr} {es : List Expr} {t : TA} {us : List Value} {dvs : List V} (hf : P.fns[j]? = some f) (hh : hotOk P N j = true) (hdv : Vals dvs us) (hbi : Binds X.K (fd j) f.ps us) (g1 : Gl X x) (hm : X.mg x = some (.ref (A.fn j))) (g2 : (x == ("__debug__" : PySem.Str)) = false) (ha : PA X (e :: es) t)
    (h1 : starEach (e :: es) X.env = (false, eval e X.env) :: starEach es X.env) (h2 : (backTo pos (starEach es X.env)).any (·.1) = false) : PE X (.Call (.Name x p) (e :: es) [] pos) (tCall (spF A X.K call j f) dvs E0 t) := by
  rcases hot_of cx hf hh with q | q
  · exact pe_call (cx.fok j f hf q) (room0 cx) g1 hm (cx.gok.keep j f hf) hbi hdv pass0 ha g2 h1 h2
  · exact pe_callG (cx.fog j f hf) q (room0 cx) g1 hm (cx.gok.keep j f hf) hbi hdv pass0 ha g2 h1 h2
theorem call_zero (cx : Cxt P A call fd lv N sc X) {j : Nat} {f : FnI} {x : PySem.Str} {p pos : Pos} {us : List Value} {dvs : List V} (hf : P.fns[j]? = some f) (hh : hotOk P N j = true) (hdv : Vals dvs us) (hbi : Binds X.K (fd j) f.ps us) (g1 : Gl X x) (hm : X.mg x = some (.ref (A.fn j))) (g2 : (x == ("__debug__" : PySem.Str)) = false) : PE X (.Call (.Name x p) [] [] pos) (tCall (spF A X.K call j f) dvs E0 tNil) := by
  rcases hot_of cx hf hh with q | q
  · exact pe_call0 (cx.fok j f hf q) (room0 cx) g1 hm (cx.gok.keep j f hf) hbi hdv pass0 g2
  · exact pe_callG0 (cx.fog j f hf) q (room0 cx) g1 hm (cx.gok.keep j f hf) hbi hdv pass0 g2
theorem snd_call (cx : Cxt P A call fd lv N sc X) {j : Nat} {as : Cs} {ds : List D} {x : PySem.Str} {p pos : Pos} {es : List Expr} (hhot : hotOk P N j = true) (hg : glB sc x = true) (hfb : fnB P j x es.length ds = true) (hs : es.all shape = true) (ha : PA X es (tAs P A call X as)) (hc : chkEs P N sc as es = true) :
    PE X (.Call (.Name x p) es [] pos) (tE P A call X (.call j as ds)) := by
  obtain ⟨f, hf, hgl, hi, hds⟩ := fn_of' hfb
  obtain ⟨us, dvs, hd, hdv, hbi⟩ := dfl_of cx hf hds
  obtain ⟨g1, g2, g3⟩ := gl_of cx hg
  have hm := cx.gok.gfn j f x hf hgl
  cases es with
  | nil =>
    cases as with
    | nil =>
      refine PE.mono (call_zero cx hf hhot hdv hbi g1 hm g2) fun σ H Q t => ?_
      obtain ⟨w, ρ, st, H0, ex, xs, st', S, R, e, k⟩ := call_step cx hf hi hd σ H Q t
      simp only [evs] at e
      cases e
      exact k [] H w (.refl _ _ _) S .nil
    | cons c r => simp [chkEs] at hc
  | cons e es =>
    rw [List.all_cons, Bool.and_eq_true] at hs
    exact PE.mono (call_pos cx hf hhot hdv hbi g1 hm g2 ha (star_of es X.env hs.1) (plain_of pos X.env es hs.2)) (call_step cx hf hi hd)
theorem snd_gco (cx : Cxt P A call fd lv N sc X) {k : Nat} {x : PySem.Str} {pos : Pos} {p : PySem.Str × D} (hg : glB sc x = true) (hk : P.con[k]? = some p) (hx : p.1 = x) : PE X (.Name x pos) (tE P A call X (.gco k)) := by
  obtain ⟨g1, g2, g3⟩ := gl_of cx hg
  obtain ⟨u, v, hm, rv, hr⟩ := cx.gok.con k p hk
  rw [hx] at hm
  refine snd_const (v := v) (d := p.2) rfl (fun ρ st => ?_) hr (pe_glob g1 hm rv (hd := g2))
  show (match P.tab.con[k]? with
    | some d => Res.ok d st
    | none => .bad) = _
  have e : P.tab.con[k]? = some p.2 := by
    show (P.con.map (·.2))[k]? = _
    rw [List.getElem?_map, hk]
    rfl
  rw [e]
/-! ### new instances -/
theorem cl_of {c : Nat} {x : PySem.Str} {n : Nat} {ds : List D} (h : clB P c x n ds = true) : ∃ k f, P.cls[c]? = some k ∧ k.name = x ∧ P.fns[k.init]? = some f ∧ f.init = some c ∧ (ds = [] ∨ (f.dfl.length = ds.length ∧ fEqs f.dfl ds = true ∧ ds.all flat = true)) := by
  unfold clB at h
  cases q : P.cls[c]? with
  | none => rw [q] at h; cases h
  | some k =>
    rw [q] at h
    dsimp only at h
    rw [Bool.and_eq_true] at h
    cases q2 : P.fns[k.init]? with
    | none =>
      have h2 := h.2
      rw [q2] at h2
      cases h2
    | some f =>
      have h2 := h.2
      rw [q2] at h2
      simp only [Bool.and_eq_true, Bool.or_eq_true, decide_eq_true_eq] at h2
      refine ⟨k, f, rfl, of_decide_eq_true h.1, q2, h2.1.1, ?_⟩
      rcases h2.2 with z | z
      · exact .inl (List.isEmpty_iff.mp z)
      · exact .inr ⟨z.1.1.1.1, z.1.2, z.2⟩
theorem ext_made {w w' : Wd} {H1 H' : Hp} {st : Store} {x dx : Addr} {C : Addr} {o : HO} (S : SR A X.K w st H1) (hx : H1 x = none) (hd : H1 dx = none) (p : Priv w' x) (hx' : H' x = some o) (E : Ext (fun a => a = x) w (upd (upd H1 dx (.own x)) x (.ins C dx [])) w' H') : Ext no w H1 (w'.add x o) H' where
  le := E.le.trans (add_le p.1)
  fr := fun a u q n _ => by
    have n1 : a ≠ x := ne_of_none q hx
    have n2 : a ≠ dx := ne_of_none q hd
    exact E.fr a u (by rw [upd_ne n1, upd_ne n2]; exact q) n n1
  th := fun a u q => by
    have n1 : a ≠ x := ne_of_none q hx
    have n2 : a ≠ dx := ne_of_none q hd
    exact E.th a u (by rw [upd_ne n1, upd_ne n2]; exact q)
  nw := fun a u q => by
    have q : upd w'.G x o a = some u := q
    by_cases e : a = x
    · subst e
      exact .inr hx
    · rw [upd_ne e] at q
      rcases E.nw a u q with z | z
      · exact .inl z
      · rw [upd_ne e] at z
        by_cases e2 : a = dx
        · subst e2
          exact .inr hd
        · rw [upd_ne e2] at z
          exact .inr z
  mn := fun k h1 h2 => by
    have z := E.mn k h1 h2
    show H1 (w'.μ k) = none
    by_cases e : w'.μ k = x
    · rw [e]; exact hx
    · by_cases e2 : w'.μ k = dx
      · rw [e2]; exact hd
      · rw [upd_ne e, upd_ne e2] at z
        exact z
theorem make_step {c : Nat} {kl : ClsI} {f : FnI} {as : Cs} {ds : List D} {dvs : List V} (cx : Cxt P A call fd lv N sc X) (hk : P.cls[c]? = some kl) (hf : P.fns[kl.init]? = some f) (hi : f.init = some c) (hd : ∀ w, RDs A X.K w ds dvs) :
    ∀ σ H Q, tE P A call X (.make c as ds) σ H Q → tMake (A.cls c) (spF A X.K call kl.init f) dvs E0 (tAs P A call X as) σ H Q := by
  rintro σ H Q ⟨w, ρ, st, H0, ex, d, st', S, R, e, k⟩
  simp only [ev] at e
  obtain ⟨xs, st1, e1, e⟩ := Res.bind_is e
  rw [tab_cls, hk] at e
  have e : call kl.init (xs ++ ds) st1 = .ok d st' := e
  refine ⟨w, ρ, st, H0, ex, xs, st1, S, R, e1, fun vs H1 w1 E1 S1 p1 x dx hx hdx ne => ?_⟩
  obtain ⟨f', hf', hc⟩ := cx.cok kl.init (xs ++ ds) st1 d st' e
  rw [hf] at hf'
  cases hf'
  rcases hc with ⟨z, _⟩ | ⟨c', fs, h', rfl, hlen⟩
  · rw [hi] at z
    cases z
  · rw [hi] at h'
    cases h'
    unfold spF
    rw [hi]
    have rr := p1.append (hd w1)
    have hxd : upd H1 dx (.own x) x = none := by rw [upd_ne (Ne.symm ne)]; exact hx
    refine ⟨by rw [List.length_cons, ← rr.length, hlen], x, dx, vs ++ dvs, w1, xs ++ ds, st1, fs, st', rfl, upd_same, ⟨S1.g_none hx, S1.mu_ne hx⟩, rr, sr_new (sr_new S1 hdx) hxd, e, fun H2 w2 gs dx' E2 S2 hx2 r2 pr => ⟨rfl, ?_⟩⟩
    refine k (.ref x) H2 (w2.add x (.ins (A.cls c) dx' gs)) (E1.trans (ext_made S1 hx hdx pr hx2 E2)) (sr_frz S2 pr hx2) (pv_rd rfl ?_)
    exact .ins (show upd w2.G x _ x = _ from upd_same) (r2.mono (add_le pr.1))
theorem snd_make (cx : Cxt P A call fd lv N sc X) {c : Nat} {as : Cs} {ds : List D} {x : PySem.Str} {p pos : Pos} {es : List Expr} (hg : glB sc x = true) (hfb : clB P c x es.length ds = true) (hs : es.all shape = true) (ha : PA X es (tAs P A call X as)) (hc : chkEs P N sc as es = true) :
    PE X (.Call (.Name x p) es [] pos) (tE P A call X (.make c as ds)) := by
  obtain ⟨kl, f, hk, hn, hf, hi, hd⟩ := cl_of hfb
  obtain ⟨g1, g2, g3⟩ := gl_of cx hg
  have co := cx.gok.cls c kl hk
  have hm := co.gl
  rw [hn] at hm
  obtain ⟨us, dvs, hr, hv, hb⟩ : ∃ us dvs, (∀ w, RDs A X.K w ds dvs) ∧ Vals dvs us ∧ Binds X.K (fd kl.init) f.ps us := by
    rcases hd with rfl | ⟨h1, h2, h3⟩
    · exact ⟨[], [], fun _ => .nil, .nil, cx.bnd _ f hf⟩
    · exact cx.bnF kl.init f ds hf h2 h3 h1
  cases es with
  | nil =>
    cases as with
    | nil =>
      refine PE.mono (pe_make0 co.mkr (cx.fok _ f hf (cx.ini _ f hf (by rw [hi]; rfl))) (room1 cx) g1 hm hb hv pass0 g2) fun σ H Q t => ?_
      obtain ⟨w, ρ, st, H0, ex, ds, st', S, R, e, k⟩ := make_step cx hk hf hi hr σ H Q t
      simp only [evs] at e
      cases e
      exact k [] H w (.refl _ _ _) S .nil
    | cons c r => simp [chkEs] at hc
  | cons e es =>
    rw [List.all_cons, Bool.and_eq_true] at hs
    exact PE.mono (pe_make co.mkr (cx.fok _ f hf (cx.ini _ f hf (by rw [hi]; rfl))) (room1 cx) g1 hm hb hv pass0 ha g2 (star_of es X.env hs.1) (plain_of pos X.env es hs.2)) (make_step cx hk hf hi hr)
/-! ### attributes -/
theorem prop_of {c m j : Nat} (h : propOf P.tab c m = some j) : ∃ k, P.cls[c]? = some k ∧ k.prop.lookup m = some j := by
  unfold propOf at h
  rw [tab_cls] at h
  cases q : P.cls[c]? with
  | none => rw [q] at h; cases h
  | some k => rw [q] at h; exact ⟨k, rfl, h⟩
theorem fld_of {c m : Nat} (h : fldOf P.tab c m = true) : ∃ k, P.cls[c]? = some k ∧ k.flds.contains m = true := by
  unfold fldOf at h
  rw [tab_cls] at h
  cases q : P.cls[c]? with
  | none => rw [q] at h; cases h
  | some k => rw [q] at h; exact ⟨k, rfl, h⟩
theorem snd_attr (cx : Cxt P A call fd lv N sc X) {f : Nat} {o : C} {eo : Expr} {x : PySem.Str} {pos : Pos} (hx : nmOf P.nm f = x) (hn : notSuper eo = true) (ho : PE X eo (tE P A call X o)) : PE X (.Attribute eo x pos) (tE P A call X (.attr f o)) := by
  refine ⟨fun pins s σ H Q I t => ?_⟩
  obtain ⟨w, ρ, st, H0, ex, d, st', S, R, e, k⟩ := t
  simp only [ev] at e
  obtain ⟨y, st1, e1, e⟩ := Res.bind_is e
  refine attr_of (base_of x X.env _ hn) (thn (ho.run pins s σ H (fun v H1 => ∃ w1, Ext no w H w1 H1 ∧ SR A X.K w1 st1 H1 ∧ RX A X.K w1 H1 y v) I ⟨w, ρ, st, H0, ex, y, st1, S, R, e1, fun v H1 w1 E1 S1 q1 => ⟨w1, E1, S1, q1.rx⟩⟩) fun u s1 hh => ?_)
  obtain ⟨v, H1, I1, rv, w1, E1, S1, q1⟩ := hh
  have hnm : A.nm f = x := (cx.gok.nmE f).trans hx
  cases y with
  | ins c fs =>
    obtain ⟨a, dx, ga, rfl, ha, rf, ra⟩ := rx_ins q1 S1
    obtain rfl : u = Value.ref a := rv
    unfold attrD at e
    dsimp only at e
    cases hp : propOf P.tab c f with
    | some j =>
      rw [hp] at e
      obtain ⟨kl, hk, hl⟩ := prop_of hp
      have co := cx.gok.cls c kl hk
      obtain ⟨p, hpr⟩ := co.pr f j hl
      rw [hnm] at hpr
      obtain ⟨f', hf', hc⟩ := cx.cok j [.ins c fs] st1 d st' e
      obtain ⟨hi, hcd⟩ := co.qi f j f' hl hf'
      have hlen : [V.ref a].length = f'.ps.length := by
        rcases hc with ⟨_, hlen⟩ | ⟨c', fs', h', _⟩
        · exact hlen
        · rw [hi] at h'
          cases h'
      exact getprop_ok (E := E0) I1 ha co.cl hpr (cx.fok j f' hf' hcd) (room1 cx) (cx.bnd j f' hf') .nil pass0 (sp_of hi hlen (.cons ra .nil) S1 e fun v H2 w2 E2 S2 r2 => k v H2 w2 (E1.trans E2) S2 (pv_rd rfl r2))
    | none =>
      rw [hp] at e
      dsimp only at e
      cases hl : fs.lookup f with
      | none => rw [hl] at e; cases e
      | some d' =>
        cases hfl : fldOf P.tab c f with
        | false => rw [hl, hfl] at e; cases e
        | true =>
          rw [hl, hfl] at e
          cases e
          obtain ⟨kl, hk, hct⟩ := fld_of hfl
          have co := cx.gok.cls c kl hk
          have na := co.na f hct
          obtain ⟨v', hv', rv'⟩ := rf.lookup cx.gok.nm.inj hl
          rw [hnm] at na hv'
          exact getattr_ok I1 ha co.cl na hv' fun u s' I' ru => ⟨v', H1, I', ru, k v' H1 w1 E1 S1 (pv_rd rfl rv')⟩
  | _ => cases e
/-! ### methods -/
theorem meth_eq {o : Expr} {m : PySem.Str} {apos pos : Pos} {es : List Expr} {env : PySem.Env} (hn : notSuper o = true) (hs : es.all shape = true) (hl : es.length < 29) (hline : (apos.endLine == pos.line) = true) :
    eval (.Call (.Attribute o m apos) es [] pos) env = (do
      let ov ← eval o env
      standAt apos.atName
      let (f, first) ← holding [ov] (getMethod ov m (plainOf o env))
      callWith pos f first (backTo pos (starEach es env)) (backToKw pos (keywordEach [] env))) := by
  have e1 : eval (.Call (.Attribute o m apos) es [] pos) env = (do
      let ov ← attributeBase o m env (eval o env)
      standAt apos.atName
      methodCall o m apos pos env ov (es.length + ([] : List Keyword).length) (backTo pos (starEach es env)) (backToKw pos (keywordEach [] env))) := by rfl
  rw [e1, base_of m env _ hn]
  congr 1
  funext ov
  congr 1
  funext _
  refine mcall_line ?_ hline
  unfold methodCallForm
  rw [allno_of pos env es hs]
  have e2 : (backToKw pos (keywordEach [] env)) = [] := rfl
  rw [e2]
  simp
  omega
theorem snd_meth (cx : Cxt P A call fd lv N sc X) {m : Nat} {o : C} {as : Cs} {eo : Expr} {x : PySem.Str} {apos pos : Pos} {es : List Expr} (hx : nmOf P.nm m = x) (hn : notSuper eo = true) (ho : PE X eo (tE P A call X o)) (hs : es.all shape = true) (hl : es.length < 29) (hline : (apos.endLine == pos.line) = true)
    (ha : PA X es (tAs P A call X as)) (hc : chkEs P N sc as es = true) : PE X (.Call (.Attribute eo x apos) es [] pos) (tE P A call X (.meth m o as)) := by
  refine ⟨fun pins s σ H Q I t => ?_⟩
  obtain ⟨w, ρ, st, H0, ex, d, st', S, R, e, k⟩ := t
  simp only [ev] at e
  obtain ⟨y, st1, e1, e⟩ := Res.bind_is e
  obtain ⟨xs, st2, e2, e⟩ := Res.bind_is e
  refine PySem.W.methodCall_KW (pl := plainOf eo X.env) (thn (ho.run pins s σ H (fun v H1 => ∃ w1, Ext no w H w1 H1 ∧ SR A X.K w1 st1 H1 ∧ RX A X.K w1 H1 y v) I ⟨w, ρ, st, H0, ex, y, st1, S, R, e1, fun v H1 w1 E1 S1 q1 => ⟨w1, E1, S1, q1.rx⟩⟩) fun u s1 hh => ?_) (meth_eq hn hs hl hline)
  obtain ⟨v, H1, I1, rv, w1, E1, S1, q1⟩ := hh
  have hnm : A.nm m = x := (cx.gok.nmE m).trans hx
  cases y with
  | ins c fs =>
    obtain ⟨a, dx, ga, rfl, ha', rf, ra⟩ := rx_ins q1 S1
    obtain rfl : u = Value.ref a := rv
    unfold methD at e
    dsimp only at e
    cases hm : methOf P.tab c m with
    | none => rw [hm] at e; cases e
    | some j =>
      cases hlk : fs.lookup m with
      | some z => rw [hm, hlk] at e; cases e
      | none =>
        rw [hm, hlk] at e
        have e : call j (.ins c fs :: xs) st2 = .ok d st' := e
        obtain ⟨kl, hk, hml⟩ := meth_of hm
        have co := cx.gok.cls c kl hk
        have me := co.me m j hml
        have hno := rf.lookup_none cx.gok.nm.inj hlk
        rw [hnm] at me hno
        obtain ⟨f', hf', hcc⟩ := cx.cok j (.ins c fs :: xs) st2 d st' e
        obtain ⟨hi, hcd⟩ := co.mi m j f' hml hf'
        have hlen : (D.ins c fs :: xs).length = f'.ps.length := by
          rcases hcc with ⟨_, hlen⟩ | ⟨c', fs', h', _⟩
          · exact hlen
          · rw [hi] at h'
            cases h'
        refine getmeth_ok I1 ha' co.cl me hno ?_
        have R1 := R.ext E1
        cases es with
        | nil =>
          cases as with
          | nil =>
            simp only [evs] at e2
            cases e2
            exact PySem.W.callWith_K0 (first := [.ref a]) I1.kIn me.kp (run_fn (us := [.ref a]) (vs := [.ref a]) (cx.fok j f' hf' hcd) (room0 cx) (cx.bnd j f' hf') .nil pass0 I1 (.cons rfl .nil)
              (sp_of hi hlen (.cons ra .nil) S1 e fun v H2 w2 E2 S2 r2 => k v H2 w2 (E1.trans E2) S2 (pv_rd rfl r2)))
          | cons c r => simp [chkEs] at hc
        | cons e0 es =>
          rw [List.all_cons, Bool.and_eq_true] at hs
          refine PySem.W.callWith_K (first := [.ref a]) (h₀ := X.base) I.ok.mod.kin me.kp (thn (ha.run pos pins s1 σ H1 (fun vs H2 => ∃ w2, Ext no w1 H1 w2 H2 ∧ SR A X.K w2 st2 H2 ∧ RDs A X.K w2 xs vs) I1 ⟨w1, ρ, st1, H0, ex, xs, st2, S1, R1, e2, fun vs H2 w2 E2 S2 p2 => ⟨w2, E2, S2, p2⟩⟩) fun us s2 hh => ?_) (star_of es X.env hs.1) (plain_of pos X.env es hs.2)
          obtain ⟨vs, H2, I2, r, w2, E2, S2, p2⟩ := hh
          refine ⟨I2.kIn, ?_⟩
          refine run_fn (us := .ref a :: us) (vs := .ref a :: vs) (cx.fok j f' hf' hcd) (room0 cx) (cx.bnd j f' hf') .nil pass0 I2 (.cons rfl r) ?_
          rw [List.append_nil]
          exact sp_of hi (by rw [← hlen, List.length_cons, List.length_cons, p2.length]) (.cons (ra.mono E2.le) p2) S2 e fun v H3 w3 E3 S3 r3 => k v H3 w3 (E1.trans (E2.trans E3)) S3 (pv_rd rfl r3)
  | _ => cases e
end
end Eng

namespace Eng
open PySem PySem.Spec PyProof.Rows L2
section
variable {P : Prg} {A : Ad} {call : Nat → List D → Store → Res D} {fd : Nat → FuncData} {lv : Nat} {N : List PySem.Str} {sc : Scope} {X : Cx}

/-! ### built-in functions -/
theorem blt_step {b : Bl} {a : C} : ∀ σ H Q, tE P A call X (.blt b a) σ H Q → tCB (rC (bltD P.tab call b) A X) (tCons (tE P A call X a) tNil) σ H Q := by
  rintro σ H Q ⟨w, ρ, st, H0, ex, d, st', S, R, e, k⟩
  simp only [ev] at e
  obtain ⟨x, st1, e1, e⟩ := Res.bind_is e
  refine ⟨w, ρ, st, H0, ex, x, st1, S, R, e1, fun v H1 w1 E1 S1 p1 => ⟨v, rfl, w1, x, st1, d, st', S1, p1.rx, e, fun v' H2 w2 E2 S2 r2 => k v' H2 w2 (E1.trans E2) S2 (pv_rd rfl r2)⟩⟩
theorem snd_blt (cx : Cxt P A call fd lv N sc X) {b : Bl} {a : C} {e : Expr} {x : PySem.Str} {p pos : Pos} (hx : blName b = x) (hg : glB sc x = true) (hf : P.blt.contains x = true) (hs : shape e = true) (ha : PE X e (tE P A call X a)) : PE X (.Call (.Name x p) [e] [] pos) (tE P A call X (.blt b a)) := by
  obtain ⟨g1, g2, g3⟩ := gl_of cx hg
  have hm := cx.gok.free x hf
  have ha' : PA X [e] (tCons (tE P A call X a) tNil) := pa_cons ha pa_nil (star_of [] X.env hs)
  subst hx
  cases b with
  | len => exact PE.mono (pe_callB bl_len g1 hm (by decide +kernel) ha' g3 g2 (star_of [] X.env hs) rfl) blt_step
  | abs => exact PE.mono (pe_callB (bl_abs cx) g1 hm (by decide +kernel) ha' g3 g2 (star_of [] X.env hs) rfl) blt_step
  | int => exact PE.mono (pe_callTy bl_int g1 hm (by decide +kernel) ha' g3 g2 (star_of [] X.env hs) rfl) blt_step
  | bool => exact PE.mono (pe_callTy (bl_bool cx) g1 hm (by decide +kernel) ha' g3 g2 (star_of [] X.env hs) rfl) blt_step
  | list => exact PE.mono (pe_callTy bl_list g1 hm (by decide +kernel) ha' g3 g2 (star_of [] X.env hs) rfl) blt_step
  | tuple => exact PE.mono (pe_callTy bl_tuple g1 hm (by decide +kernel) ha' g3 g2 (star_of [] X.env hs) rfl) blt_step
  | sum => exact PE.mono (pe_callB (bl_sum cx) g1 hm (by decide +kernel) ha' g3 g2 (star_of [] X.env hs) rfl) blt_step
  | all => exact PE.mono (pe_callB (bl_all cx) g1 hm (by decide +kernel) ha' g3 g2 (star_of [] X.env hs) rfl) blt_step
  | sorted => exact PE.mono (pe_callB bl_sorted g1 hm (by decide +kernel) ha' g3 g2 (star_of [] X.env hs) rfl) blt_step
  | any => exact PE.mono (pe_callB (bl_any cx) g1 hm (by decide +kernel) ha' g3 g2 (star_of [] X.env hs) rfl) blt_step
/-! ### isinstance -/
def tyVal (A : Ad) : Ty → V
  | .int => .ty "int"
  | .bool => .ty "bool"
  | .str => .ty "str"
  | .tuple => .ty "tuple"
  | .list => .ty "list"
  | .cls c => .ref (A.cls c)
def dTy : D → Option String
  | .non => some "NoneType"
  | .bl _ => some "bool"
  | .int _ => some "int"
  | .str _ => some "str"
  | .tup _ => some "tuple"
  | .lst _ => some "list"
  | _ => none
theorem tyx_of {K : PySem.W.Frag} {w : Wd} {H : Hp} {st : Store} {d : D} {v : V} {n : String} (S : SR A K w st H) (r : RD A K w d v) (h : dTy d = some n) : TyX K H v (.type n) := by
  cases r with
  | non => cases h; exact .base .non
  | bl b => cases h; exact .base (.bl b)
  | int i => cases h; exact .base (.int i)
  | str s => cases h; exact .base (.str s)
  | tup q _ =>
    cases h
    rcases q with (q | ⟨o, q⟩) | ⟨o, its, m, q1, q2, _⟩
    · exact .base (.tup (S.sub _ _ q))
    · exact .fTuple (S.sub _ _ q)
    · exact .kTuple q1 q2
  | lst q _ =>
    cases h
    rcases q with (q | ⟨o, q⟩) | ⟨o, its, m, q1, q2, _⟩
    · exact .base (.lst (S.sub _ _ q))
    · exact .base (.frz (S.sub _ _ q))
    · exact .kList q1 q2
  | ins _ _ => cases h
  | fn _ => cases h
  | ref _ => cases h
def tyN : Ty → Option String
  | .int => some "int"
  | .bool => some "bool"
  | .str => some "str"
  | .tuple => some "tuple"
  | .list => some "list"
  | .cls _ => none
theorem kit_plain {K : PySem.W.Frag} {d : D} {t : Ty} {n m : String} {b : Bool} (hn : dTy d = some n) (hm : tyN t = some m) (h : isiD P.tab d t = some b) : PySem.W.kitOne K (.type n) (.type m) = some b := by
  cases d <;> cases hn <;> cases t <;> cases hm <;> (unfold isiD at h; cases h) <;> exact kit_ty (by decide +kernel)
theorem isi_ok (cx : Cxt P A call fd lv N sc X) {w : Wd} {H : Hp} {st : Store} {d : D} {v : V} {t : Ty} {b : Bool} (S : SR A X.K w st H) (r : RD A X.K w d v) (h : isiD P.tab d t = some b) (ht : ∀ c, t = .cls c → (P.cls[c]?).isSome = true) :
    ∃ tv u, ClsV (tyVal A t) u ∧ TyX X.K H v tv ∧ PySem.W.kitOne X.K tv u = some b := by
  cases hd : dTy d with
  | some n =>
    cases htn : tyN t with
    | some m =>
      refine ⟨.type n, .type m, ?_, tyx_of S r hd, kit_plain hd htn h⟩
      cases t <;> cases htn <;> exact .ty _
    | none =>
      cases t with
      | cls c =>
        obtain ⟨k, hk⟩ := Option.isSome_iff_exists.mp (ht c rfl)
        have co := cx.gok.cls c k hk
        refine ⟨.type n, .ref (A.cls c), .own _, tyx_of S r hd, ?_⟩
        have hb : b = false := by cases d <;> cases hd <;> (unfold isiD at h; cases h) <;> rfl
        subst hb
        refine co.k2 n ?_
        cases d <;> cases hd <;> simp [tyStr]
      | _ => cases htn
  | none =>
    cases d with
    | ins c fs =>
      cases r with
      | ins q rf =>
        have hH := S.sub _ _ q
        cases t with
        | cls c' =>
          unfold isiD at h
          dsimp only at h
          split at h
          · rename_i hc
            subst hc
            cases h
            obtain ⟨k, hk⟩ := Option.isSome_iff_exists.mp (ht c rfl)
            have co := cx.gok.cls c k hk
            refine ⟨.ref (A.cls c), .ref (A.cls c), .own _, .base (co.ty H _ _ _ hH), ?_⟩
            unfold PySem.W.kitOne
            simp
          · cases h
        | _ =>
          cases hk : P.cls[c]? with
          | none => simp [isiD, tab_cls, hk] at h
          | some k =>
            have co := cx.gok.cls c k hk
            simp only [isiD, tab_cls, hk] at h
            cases h
            exact ⟨_, _, .ty _, .base (co.ty H _ _ _ hH), co.k1 _ (by simp [tyStr])⟩
    | _ => cases hd <;> cases t <;> (unfold isiD at h; cases h)
end
end Eng

namespace Eng
open PySem PySem.Spec PyProof.Rows L2
section
variable {P : Prg} {A : Ad} {call : Nat → List D → Store → Res D} {fd : Nat → FuncData} {lv : Nat} {N : List PySem.Str} {sc : Scope} {X : Cx}

theorem snd_isi (cx : Cxt P A call fd lv N sc X) {a : C} {t : Ty} {e : Expr} {x y : PySem.Str} {p p2 pos : Pos} (hx : x = ("isinstance" : PySem.Str)) (hg : glB sc x = true) (hf : P.blt.contains x = true) (hy : tyName P t = y) (hto : tyOk P t = true) (hgy : glB sc y = true) (hfy : (ownTy t || P.blt.contains y) = true)
    (hb : (!a.isBor) = true) (hs : shape e = true) (ha : PE X e (tE P A call X a)) : PE X (.Call (.Name x p) [e, .Name y p2] [] pos) (tE P A call X (.isi a t)) := by
  obtain ⟨g1, g2, g3⟩ := gl_of cx hg
  obtain ⟨y1, y2, y3⟩ := gl_of cx hgy
  have hm := cx.gok.free x hf
  subst hx
  have hc : ∀ c, t = .cls c → (P.cls[c]?).isSome = true := fun c e => by subst e; exact hto
  · have hY : PE X (.Name y p2) (tC (tyVal A t)) := by
      cases t with
      | cls c =>
        obtain ⟨k, hk⟩ := Option.isSome_iff_exists.mp (hc c rfl)
        have co := cx.gok.cls c k hk
        have : k.name = y := by
          rw [← hy]
          show k.name = (match P.cls[c]? with | some k => k.name | none => ("None" : PySem.Str))
          rw [hk]
        have hg := co.gl
        rw [this] at hg
        exact pe_glob y1 hg rfl y2
      | int =>
        subst hy
        exact pe_bltn y1 (cx.gok.free _ (by simpa [ownTy] using hfy)) (show bootBuiltins (Str.ofString "int") = some (.type "int") by decide +kernel) rfl y3 y2
      | bool =>
        subst hy
        exact pe_bltn y1 (cx.gok.free _ (by simpa [ownTy] using hfy)) (show bootBuiltins (Str.ofString "bool") = some (.type "bool") by decide +kernel) rfl y3 y2
      | str =>
        subst hy
        exact pe_bltn y1 (cx.gok.free _ (by simpa [ownTy] using hfy)) (show bootBuiltins (Str.ofString "str") = some (.type "str") by decide +kernel) rfl y3 y2
      | tuple =>
        subst hy
        exact pe_bltn y1 (cx.gok.free _ (by simpa [ownTy] using hfy)) (show bootBuiltins (Str.ofString "tuple") = some (.type "tuple") by decide +kernel) rfl y3 y2
      | list =>
        subst hy
        exact pe_bltn y1 (cx.gok.free _ (by simpa [ownTy] using hfy)) (show bootBuiltins (Str.ofString "list") = some (.type "list") by decide +kernel) rfl y3 y2
    refine PE.mono (pe_callB call_isi g1 hm (by decide +kernel) (pa_cons ha (pa_cons hY pa_nil rfl) (star_of _ X.env hs)) g3 g2 (star_of _ X.env hs) rfl) fun σ H Q tt => ?_
    obtain ⟨w, ρ, st, H0, ex, d, st', S, R, e, k⟩ := tt
    simp only [ev] at e
    obtain ⟨z, st1, e1, e⟩ := Res.bind_is e
    cases hi : isiD P.tab z t with
    | none => rw [hi] at e; cases e
    | some b =>
      rw [hi] at e
      cases e
      refine ⟨w, ρ, st, H0, ex, z, st', S, R, e1, fun v H1 w1 E1 S1 q1 => ?_⟩
      obtain ⟨tv, u, h1, h2, h3⟩ := isi_ok cx S1 (q1.rd hb) hi hc
      exact ⟨v, tyVal A t, tv, u, b, rfl, h1, h2, h3, k _ H1 w1 E1 S1 (pv_rd rfl (.bl _))⟩

/-! ### dicts -/
theorem rd_ref {K : PySem.W.Frag} {w : Wd} {k : Nat} {v : V} (r : RD A K w (.ref k) v) : v = .ref (w.μ k) ∧ k < w.n := by
  cases r with
  | ref h => exact ⟨rfl, h⟩
theorem valV_of {K : PySem.W.Frag} {w : Wd} (hA : Inj A) {k : Nat} {d : D} : ∀ {fs : List (Nat × D)} {gs : List (PySem.Str × V)}, RDf A K w fs gs → fs.lookup k = some d → ∃ v, valV (gs.map fun p => ((Sum.inr p.1 : Key), p.2)) (Sum.inr (A.nm k)) = some v ∧ RD A K w d v
  | _, _, .nil, e => by simp at e
  | _, _, .cons (k := j) h r, e => by
    by_cases hj : k = j
    · subst hj
      simp [List.lookup] at e
      subst e
      exact ⟨_, valV_pos rfl, h⟩
    · have hb : (k == j) = false := by simpa using hj
      simp only [List.lookup, hb] at e
      obtain ⟨v, h1, h2⟩ := valV_of hA r e
      refine ⟨v, ?_, h2⟩
      rw [List.map_cons]
      have hne : ¬ ((Sum.inr (A.nm j) : Key) = Sum.inr (A.nm k)) := fun q => hj (hA _ _ (Sum.inr.inj q)).symm
      unfold valV
      rw [List.find?_cons]
      simp only [decide_eq_false hne]
      exact h1
theorem cell_of {K : PySem.W.Frag} {w : Wd} {H : Hp} {st : Store} {r : Nat} {kvs : List (Nat × D)} (S : SR A K w st H) (h : getCell st r = some kvs) : ∃ gs : List (PySem.Str × V), RDf A K w kvs gs ∧ H (w.μ r) = some (.dK (gs.map fun p => ((Sum.inr p.1 : Key), p.2))) ∧ r < st.length := by
  unfold getCell at h
  cases q : st[r]? with
  | none => rw [q] at h; cases h
  | some c =>
    rw [q] at h
    cases c with
    | dk kvs' =>
      cases h
      obtain ⟨gs, r1, e⟩ := S.cell r _ q
      exact ⟨gs, r1, e, (List.getElem?_eq_some_iff.mp q).1⟩
    | lk _ => cases h
    | dead => cases h
theorem snd_dget (cx : Cxt P A call fd lv N sc X) {o : C} {k : Nat} {eo : Expr} {s : PySem.Str} {kk : Nat} {p2 pos : Pos} (hk : nmOf P.nm k = s) (hb : (!o.isBor) = true) (ho : PE X eo (tE P A call X o)) : PE X (.Subscript eo (.Constant (.str s) kk p2) pos) (tE P A call X (.dget o k)) := by
  refine PE.mono (pe_dget (hu_of cx.room) ho pe_str (fun _ _ => rfl)) fun σ H Q t => ?_
  obtain ⟨w, ρ, st, H0, ex, d, st', S, R, e, kq⟩ := t
  simp only [ev] at e
  obtain ⟨x, st1, e1, e⟩ := Res.bind_is e
  refine ⟨w, ρ, st, H0, ex, x, st1, S, R, e1, fun v H1 w1 E1 S1 q1 => ?_⟩
  cases x with
  | ref r =>
    unfold dgetD at e
    dsimp only at e
    cases hc : getCell st1 r with
    | none => rw [hc] at e; cases e
    | some kvs =>
      rw [hc] at e
      dsimp only at e
      cases hl : kvs.lookup k with
      | none => rw [hl] at e; cases e
      | some d' =>
        rw [hl] at e
        cases e
        obtain ⟨rfl, hr⟩ := rd_ref (q1.rd hb)
        obtain ⟨gs, rf, hH, _⟩ := cell_of S1 hc
        obtain ⟨v', h1, h2⟩ := valV_of cx.gok.nm.inj rf hl
        rw [cx.gok.nmE k, hk] at h1
        refine ⟨w1.μ r, v', rfl, ?_, kq v' H1 w1 E1 S1 (pv_rd rfl h2)⟩
        rw [← h1]
        exact DGet.k (k := Sum.inr s) hH
  | _ => cases e
/-- a new cell of the store -/
def Wd.cell (w : Wd) (p : Addr) : Wd := ⟨w.G, fun k => if k = w.n then p else w.μ k, w.n + 1⟩
theorem cell_le {w : Wd} (p : Addr) : w.le (w.cell p) := ⟨fun _ _ h => h, Nat.le_succ _, fun k h => by
  show (if k = w.n then p else w.μ k) = w.μ k
  rw [if_neg (by omega)]⟩
theorem merge_new : ∀ (more acc : List (Key × V)), (∀ p ∈ more, ∀ q ∈ acc, q.1 ≠ p.1) → (more.map (·.1)).Nodup → mergeK acc more = acc ++ more
  | [], acc, _, _ => by simp [mergeK]
  | p :: r, acc, h, nd => by
    have hn : putK acc p.1 p.2 = acc ++ [(p.1, p.2)] := by
      unfold putK
      rw [if_neg]
      intro q
      obtain ⟨z, hz, hz2⟩ := List.any_eq_true.mp q
      exact h p List.mem_cons_self z hz (of_decide_eq_true hz2)
    rw [List.map_cons, List.nodup_cons] at nd
    show mergeK (putK acc p.1 p.2) r = _
    rw [hn, merge_new r (acc ++ [(p.1, p.2)]) (fun a ha b hb => ?_) nd.2]
    · simp
    · rcases List.mem_append.mp hb with hb | hb
      · exact h a (List.mem_cons_of_mem _ ha) b hb
      · have : b = (p.1, p.2) := by simpa using hb
        subst this
        intro z
        exact nd.1 (List.mem_map.mpr ⟨a, ha, z.symm⟩)
def trsOf (P : Prg) (A : Ad) (call : Nat → List D → Store → Res D) (X : Cx) : List Nat → Cs → List (TE × TE)
  | k :: ks, .cons c r => (tC (.str (nmOf P.nm k)), tE P A call X c) :: trsOf P A call X ks r
  | _, _ => []
theorem pairs_step {σ : L2.St} : ∀ {ks : List Nat} {as : Cs} {w : Wd} {ρ : Env} {st st' : Store} {H0 : Hp} {ex : Addr → Prop} {ds : List D} {H : Hp} {Q : List (V × V) → Hp → Prop}, csLen as = ks.length → (∀ c r, as = .cons c r → True) → (asNB : as.noBor = true) → SR A X.K w st H → RS A X.K H0 ex w ρ σ H → evs P.tab call as ρ st = .ok ds st' →
    (∀ vs H' w', Ext no w H w' H' → SR A X.K w' st' H' → RDs A X.K w' ds vs → Q ((ks.map fun k => V.str (nmOf P.nm k)).zip vs) H') → tPairs (trsOf P A call X ks as) σ H Q
  | [], .nil, w, ρ, st, st', H0, ex, ds, H, Q, _, _, _, S, R, e, k => by
    simp only [evs] at e
    cases e
    exact k [] H w (.refl _ _ _) S .nil
  | [], .cons _ _, _, _, _, _, _, _, _, _, _, h, _, _, _, _, _, _ => by simp [csLen] at h
  | _ :: _, .nil, _, _, _, _, _, _, _, _, _, h, _, _, _, _, _, _ => by simp [csLen] at h
  | k :: ks, .cons c r, w, ρ, st, st', H0, ex, ds, H, Q, h, _, nb, S, R, e, kq => by
    simp only [evs] at e
    obtain ⟨x, st1, e1, e⟩ := Res.bind_is e
    obtain ⟨xs, st2, e2, e⟩ := Res.bind_is e
    cases e
    simp only [Cs.noBor, Bool.and_eq_true] at nb
    show tPairs ((tC (.str (nmOf P.nm k)), tE P A call X c) :: trsOf P A call X ks r) σ H Q
    refine ⟨w, ρ, st, H0, ex, x, st1, S, R, e1, fun v H1 w1 E1 S1 q1 => ?_⟩
    refine pairs_step (by simpa [csLen] using h) (fun _ _ _ => trivial) nb.2 S1 (R.ext E1) e2 fun vs H2 w2 E2 S2 q2 => ?_
    exact kq (v :: vs) H2 w2 (E1.trans E2) S2 (.cons ((q1.rd nb.1).mono E2.le) q2)
end
end Eng

namespace Eng
open PySem PySem.Spec PyProof.Rows L2
section
variable {P : Prg} {A : Ad} {call : Nat → List D → Store → Res D} {fd : Nat → FuncData} {lv : Nat} {N : List PySem.Str} {sc : Scope} {X : Cx}

theorem chk_nb {N' : List PySem.Str} : ∀ {as : Cs} {es : List Expr}, chkEs P N' sc as es = true → as.noBor = true
  | .nil, [], _ => rfl
  | .nil, _ :: _, h => by simp [chkEs] at h
  | .cons _ _, [], h => by simp [chkEs] at h
  | .cons c r, e :: es, h => by
    simp only [chkEs, Bool.and_eq_true] at h
    simp only [Cs.noBor, Bool.and_eq_true]
    exact ⟨h.1.1.1, chk_nb h.2⟩
theorem chk_sh {N' : List PySem.Str} : ∀ {as : Cs} {es : List Expr}, chkEs P N' sc as es = true → es.all shape = true
  | .nil, [], _ => rfl
  | .nil, _ :: _, h => by simp [chkEs] at h
  | .cons _ _, [], h => by simp [chkEs] at h
  | .cons c r, e :: es, h => by
    simp only [chkEs, Bool.and_eq_true] at h
    rw [List.all_cons, Bool.and_eq_true]
    exact ⟨h.1.1.2, chk_sh h.2⟩
/-! ### a dict display -/
theorem rdf_zip {K : PySem.W.Frag} {w : Wd} (hE : ∀ i, A.nm i = nmOf P.nm i) : ∀ {ks : List Nat} {ds : List D} {vs : List V}, ks.length = ds.length → RDs A K w ds vs → RDf A K w (ks.zip ds) ((ks.map (nmOf P.nm)).zip vs)
  | [], _, _, _, .nil => .nil
  | [], _, _, h, .cons _ _ => by simp at h
  | _ :: _, _, _, h, .nil => by simp at h
  | k :: ks, _, _, h, .cons q r => by
    simp only [List.zip_cons_cons, List.map_cons]
    rw [← hE k]
    exact .cons q (rdf_zip hE (by simpa using h) r)
theorem cell_new {w1 : Wd} {st1 : Store} {H1 : Hp} {p : Addr} {kvs : List (Nat × D)} {gs : List (PySem.Str × V)} (S1 : SR A X.K w1 st1 H1) (pr1 : Priv w1 p) (rf : RDf A X.K w1 kvs gs) :
    SR A X.K (w1.cell p) (st1 ++ [.dk kvs]) (upd H1 p (.dK (gs.map fun q => ((Sum.inr q.1 : Key), q.2)))) where
  sub := fun a o q => by
    have ne : a ≠ p := fun z => by
      subst z
      have q : w1.G a = some o := q
      rw [pr1.1] at q
      cases q
    rw [upd_ne ne]
    exact S1.sub a o q
  len := by
    show w1.n + 1 = (st1 ++ [_]).length
    rw [S1.len, List.length_append]
    rfl
  cell := fun k' c q => by
    have hn := S1.len
    show CellR A X.K (w1.cell p) c (upd H1 p _ (if k' = w1.n then p else w1.μ k'))
    by_cases hk' : k' = w1.n
    · rw [if_pos hk', upd_same]
      rw [hk', hn, List.getElem?_append_right (Nat.le_refl _), Nat.sub_self] at q
      cases q
      exact ⟨gs, rf.mono (cell_le p), rfl⟩
    · rw [if_neg hk']
      have hlt : k' < st1.length := by
        have := (List.getElem?_eq_some_iff.mp q).1
        rw [List.length_append] at this
        have : k' < st1.length + 1 := this
        omega
      rw [List.getElem?_append_left hlt] at q
      rw [upd_ne (pr1.2 k' (by omega))]
      exact (S1.cell k' c q).mono (cell_le p)
  inj := fun i j hi hj e => by
    have hi : i < w1.n + 1 := hi
    have hj : j < w1.n + 1 := hj
    have e : (if i = w1.n then p else w1.μ i) = (if j = w1.n then p else w1.μ j) := e
    by_cases h1 : i = w1.n
    · by_cases h2 : j = w1.n
      · omega
      · rw [if_pos h1, if_neg h2] at e
        exact absurd e.symm (pr1.2 j (by omega))
    · by_cases h2 : j = w1.n
      · rw [if_neg h1, if_pos h2] at e
        exact absurd e (pr1.2 i (by omega))
      · rw [if_neg h1, if_neg h2] at e
        exact S1.inj i j (by omega) (by omega) e
  nog := fun k' hk' => by
    have hk' : k' < w1.n + 1 := hk'
    show w1.G (if k' = w1.n then p else w1.μ k') = none
    split
    · exact pr1.1
    · exact S1.nog k' (by omega)
theorem snd_dict (cx : Cxt P A call fd lv N sc X) {ks : List Nat} {as : Cs} {keys : List (Option Expr)} {vals : List Expr} {pos : Pos} (h : PPs X pos keys vals (trsOf P A call X ks as)) (hall : keys.all (·.isSome) = true) (hl : keys.length = vals.length) (h0 : keys ≠ []) (h15 : keys.length ≤ 15)
    (hlen : csLen as = ks.length) (hk : ks.length = keys.length) (nb : as.noBor = true) : PE X (.Dict keys vals pos) (tE P A call X (.dict ks as)) := by
  refine PE.mono (pe_disp h hall hl h0 h15) fun σ H Q t => ?_
  obtain ⟨w, ρ, st, H0, ex, d, st', S, R, e, k⟩ := t
  simp only [ev] at e
  obtain ⟨xs, st1, e1, e⟩ := Res.bind_is e
  unfold dictD at e
  split at e
  · rename_i hc
    simp only [Bool.and_eq_true, decide_eq_true_eq] at hc
    cases e
    intro p hp
    have E0' : Ext no w H w (upd H p (.dK [])) := ext_new (st := st) hp
    have S0 := sr_new S (o := .dK []) hp
    refine pairs_step hlen (fun _ _ _ => trivial) nb S0 (R.ext E0') e1 fun vs H1 w1 E1 S1 q1 => ?_
    have pr : Priv w p := priv_new S hp
    have hp1 : H1 p = some (.dK []) := E1.fr p _ upd_same pr.2 (fun z => z)
    have pr1 : Priv w1 p := pr.ext (H := upd H p (.dK [])) upd_same E1
    have hvl : vs.length = ks.length := by rw [← q1.length]; exact hc.1.1.symm
    have rf := rdf_zip cx.gok.nmE (by rw [q1.length, hvl]) q1 (ks := ks)
    refine ⟨hp1, ((ks.map (nmOf P.nm)).zip vs).map (fun q => ((Sum.inr q.1 : Key), q.2)), ?_, ?_, ?_⟩
    · rw [List.map_map]
      have : ∀ (ks : List Nat) (vs : List V), (ks.map fun k => V.str (nmOf P.nm k)).zip vs = ((ks.map (nmOf P.nm)).zip vs).map ((fun kv : Key × V => (kV kv.1, kv.2)) ∘ fun q => ((Sum.inr q.1 : Key), q.2)) := by
        intro ks
        induction ks with
        | nil => intro vs; rfl
        | cons a r ih =>
          intro vs
          cases vs with
          | nil => rfl
          | cons v vs =>
            simp only [List.map_cons, List.zip_cons_cons]
            rw [ih]
            rfl
      exact this ks vs
    · simp only [List.length_map, List.length_zip]
      omega
    · have nd : (((ks.map (nmOf P.nm)).zip vs).map fun q => ((Sum.inr q.1 : Key), q.2)).map (·.1) = ks.map fun k => (Sum.inr (nmOf P.nm k) : Key) := by
        rw [List.map_map]
        have : ∀ (ks : List Nat) (vs : List V), vs.length = ks.length → ((ks.map (nmOf P.nm)).zip vs).map ((fun x : Key × V => x.1) ∘ fun q => ((Sum.inr q.1 : Key), q.2)) = ks.map fun k => (Sum.inr (nmOf P.nm k) : Key) := by
          intro ks
          induction ks with
          | nil => intro vs _; rfl
          | cons a r ih =>
            intro vs hv
            cases vs with
            | nil => simp at hv
            | cons v vs =>
              simp only [List.map_cons, List.zip_cons_cons]
              rw [ih vs (by simpa using hv)]
              rfl
        exact this ks vs hvl
      have nd2 : (ks.map fun k => (Sum.inr (nmOf P.nm k) : Key)).Nodup := by
        refine List.pairwise_map.mpr (List.Pairwise.imp ?_ hc.2)
        intro a b hab hq
        have := Sum.inr.inj hq
        rw [← cx.gok.nmE, ← cx.gok.nmE] at this
        exact hab (cx.gok.nm.inj _ _ this)
      rw [merge_new _ [] (fun _ _ _ h => nomatch h) (by rw [nd]; exact nd2), List.nil_append]
      have hn : w1.n = st1.length := S1.len
      have E01 := E0'.trans E1
      refine k (.ref p) _ (w1.cell p) ?_ ?_ (pv_rd rfl ?_)
      · exact ⟨E01.le.trans (cell_le p), fun a o q n _ => by rw [upd_ne (ne_of_none q hp)]; exact E01.fr a o q n (fun z => z), fun a o q => by rw [upd_ne (ne_of_none q hp)]; exact E01.th a o q, E01.nw, fun k' h1 h2 => by
          show H (if k' = w1.n then p else w1.μ k') = none
          split
          · exact hp
          · exact E01.mn k' h1 (by have : k' < w1.n + 1 := h2; omega)⟩
      · exact cell_new S1 pr1 rf
      · rw [← hn]
        have : (w1.cell p).μ w1.n = p := by
          show (if w1.n = w1.n then p else _) = p
          rw [if_pos rfl]
        have r : RD A X.K (w1.cell p) (.ref w1.n) (.ref ((w1.cell p).μ w1.n)) := .ref (Nat.lt_succ_self _)
        rw [this] at r
        exact r
  · cases e
end
end Eng

namespace Eng
open PySem PySem.Spec PyProof.Rows L2
section
variable {P : Prg} {A : Ad} {call : Nat → List D → Store → Res D} {fd : Nat → FuncData} {lv : Nat} {N : List PySem.Str} {sc : Scope} {X : Cx}

/-! ### and, or as values -/
theorem snd_and1 {c : C} {e : Expr} {pos : Pos} (hb : (!c.isBor) = true) (h : PE X e (tE P A call X c)) : PE X (.BoolOp .And [e] pos) (tE P A call X (.and (.cons c .nil))) := by
  refine PE.mono (pe_one h) fun σ H Q t => ?_
  obtain ⟨w, ρ, st, H0, ex, d, st', S, R, e, k⟩ := t
  simp only [ev, evAnd] at e
  exact ⟨w, ρ, st, H0, ex, d, st', S, R, e, fun v H1 w1 E1 S1 q1 => k v H1 w1 E1 S1 (pv_rd rfl (q1.rd hb))⟩
theorem snd_or1 {c : C} {e : Expr} {pos : Pos} (hb : (!c.isBor) = true) (h : PE X e (tE P A call X c)) : PE X (.BoolOp .Or [e] pos) (tE P A call X (.or (.cons c .nil))) := by
  refine PE.mono (pe_one h) fun σ H Q t => ?_
  obtain ⟨w, ρ, st, H0, ex, d, st', S, R, e, k⟩ := t
  simp only [ev, evOr] at e
  exact ⟨w, ρ, st, H0, ex, d, st', S, R, e, fun v H1 w1 E1 S1 q1 => k v H1 w1 E1 S1 (pv_rd rfl (q1.rd hb))⟩
theorem snd_and {c c2 : C} {r : Cs} {e e2 : Expr} {es : List Expr} {pos : Pos} (hb : (!c.isBor) = true) (h : PE X e (tE P A call X c)) (h2 : PE X (.BoolOp .And (e2 :: es) pos) (tE P A call X (.and (.cons c2 r)))) : PE X (.BoolOp .And (e :: e2 :: es) pos) (tE P A call X (.and (.cons c (.cons c2 r)))) := by
  refine PE.mono (pe_and h h2) fun σ H Q t => ?_
  obtain ⟨w, ρ, st, H0, ex, d, st', S, R, e, k⟩ := t
  simp only [ev, evAnd] at e
  obtain ⟨x, st1, e1, e⟩ := Res.bind_is e
  refine ⟨w, ρ, st, H0, ex, x, st1, S, R, e1, fun v H1 w1 E1 S1 q1 => ?_⟩
  cases x with
  | bl b =>
    have q := q1.rd hb
    cases q
    refine ⟨b, rfl, ?_⟩
    cases b with
    | true =>
      refine iteT ⟨w1, ρ, st1, H0, ex, d, st', S1, R.ext E1, by simp only [ev]; exact e, fun v2 H2 w2 E2 S2 q2 => k v2 H2 w2 (E1.trans E2) S2 (pv_rd rfl (q2.rd rfl))⟩
    | false =>
      cases e
      exact iteF (k _ H1 w1 E1 S1 (pv_rd rfl (.bl _)))
  | _ => cases e
theorem snd_or {c c2 : C} {r : Cs} {e e2 : Expr} {es : List Expr} {pos : Pos} (hb : (!c.isBor) = true) (h : PE X e (tE P A call X c)) (h2 : PE X (.BoolOp .Or (e2 :: es) pos) (tE P A call X (.or (.cons c2 r)))) : PE X (.BoolOp .Or (e :: e2 :: es) pos) (tE P A call X (.or (.cons c (.cons c2 r)))) := by
  refine PE.mono (pe_or h h2) fun σ H Q t => ?_
  obtain ⟨w, ρ, st, H0, ex, d, st', S, R, e, k⟩ := t
  simp only [ev, evOr] at e
  obtain ⟨x, st1, e1, e⟩ := Res.bind_is e
  refine ⟨w, ρ, st, H0, ex, x, st1, S, R, e1, fun v H1 w1 E1 S1 q1 => ?_⟩
  cases x with
  | bl b =>
    have q := q1.rd hb
    cases q
    refine ⟨b, rfl, ?_⟩
    cases b with
    | false =>
      refine iteF ⟨w1, ρ, st1, H0, ex, d, st', S1, R.ext E1, by simp only [ev]; exact e, fun v2 H2 w2 E2 S2 q2 => k v2 H2 w2 (E1.trans E2) S2 (pv_rd rfl (q2.rd rfl))⟩
    | true =>
      cases e
      exact iteT (k _ H1 w1 E1 S1 (pv_rd rfl (.bl _)))
  | _ => cases e
/-! ### tests -/
theorem tst_val (cx : Cxt P A call fd lv N sc X) {c : C} {e : Expr} (ht : plainTest e = true) (h : PE X e (tE P A call X c)) : PT X e (tTst P A call X c) := by
  refine ⟨fun pins s σ H Q I t => ?_⟩
  obtain ⟨w, ρ, st, H0, ex, b, st', S, R, e, k⟩ := t
  unfold evT at e
  obtain ⟨x, st1, e1, e⟩ := Res.bind_is e
  refine isTrue_plain (thn (h.run pins s σ H (fun v H1 => rSemT A X (truD P.tab call) v H1 Q) I ⟨w, ρ, st, H0, ex, x, st1, S, R, e1, fun v H1 w1 E1 S1 q1 => ?_⟩) fun v s1 hh => ?_) (test_of X.env ht _)
  · exact ⟨w1, x, st1, b, st', S1, q1.rx, e, fun H2 w2 E2 S2 => k H2 w2 (E1.trans E2) S2⟩
  · obtain ⟨x', H1, I1, r1, q1⟩ := hh
    exact tru_sem cx pins s1 σ H1 x' v Q I1 r1 q1
/-- a test whose value is a truth value -/
theorem tst_tt {c : C} {t : TE} (h : ∀ σ H Q, tE P A call X c σ H Q → t σ H Q) (hb : (!c.isBor) = true) (hc : ∀ ρ st d st', ev P.tab call c ρ st = .ok d st' → ∃ b, d = .bl b) : ∀ σ H Q, tTst P A call X c σ H Q → tTest t σ H Q := by
  rintro σ H Q ⟨w, ρ, st, H0, ex, b, st', S, R, e, k⟩
  unfold evT at e
  obtain ⟨x, st1, e1, e⟩ := Res.bind_is e
  obtain ⟨b', rfl⟩ := hc ρ st x st1 e1
  cases e
  refine h σ H _ ⟨w, ρ, st, H0, ex, _, st', S, R, e1, fun v H1 w1 E1 S1 q1 => ?_⟩
  have q := q1.rd hb
  cases q
  exact ⟨_, rfl, k H1 w1 E1 S1⟩
theorem tst_cmp (cx : Cxt P A call fd lv N sc X) {op : Co} {a b : C} {o : CmpOp} {ea eb : Expr} {pos : Pos} (ho : coIs op o = true) (hs : shape eb = true) (ha : PE X ea (tE P A call X a)) (hb : PE X eb (tE P A call X b)) : PT X (.Compare ea [o] [eb] pos) (tTst P A call X (.cmp op a b)) := by
  rw [coIs_eq ho]
  refine PT.mono (pt_cmpR (opr_cmp cx op) ha hb (mark_of _ hs)) (tst_tt (two_step rfl fun ρ st => by simp only [ev]) rfl fun ρ st d st' e => ?_)
  simp only [ev] at e
  obtain ⟨x, st1, e1, e⟩ := Res.bind_is e
  obtain ⟨y, st2, e2, e⟩ := Res.bind_is e
  exact cmp_bl e
theorem chain_step (cx : Cxt P A call fd lv N sc X) {o1 o2 : Co} {a b c : C} : ∀ σ H Q, tE P A call X (.chain o1 o2 a b c) σ H Q → tChain (rSem A X (cmpD P.tab call o1)) (rSem A X (cmpD P.tab call o2)) (tE P A call X a) (tE P A call X b) (tE P A call X c) σ H Q := by
  intro σ H Q t
  obtain ⟨w, ρ, st, H0, ex, d, st', S, R, e, k⟩ := t
  simp only [ev] at e
  obtain ⟨x, st1, e1, e⟩ := Res.bind_is e
  obtain ⟨y, st2, e2, e⟩ := Res.bind_is e
  obtain ⟨r, st3, e3, e⟩ := Res.bind_is e
  refine ⟨w, ρ, st, H0, ex, x, st1, S, R, e1, fun v H1 w1 E1 S1 q1 => ⟨w1, ρ, st1, H0, ex, y, st2, S1, R.ext E1, e2, fun u H2 w2 E2 S2 q2 => ?_⟩⟩
  refine ⟨w2, x, y, st2, r, st3, S2, q1.rx.ext E2, q2.rx, e3, fun z H3 w3 E3 S3 q3 => ?_⟩
  obtain ⟨b, rfl⟩ := cmp_bl e3
  cases q3
  refine ⟨b, rfl, ?_⟩
  cases b with
  | true =>
    refine iteT ?_
    dsimp only at e
    obtain ⟨z, st4, e4, e⟩ := Res.bind_is e
    refine ⟨w3, ρ, st3, H0, ex, z, st4, S3, (R.ext E1).ext (E2.trans E3), e4, fun v4 H4 w4 E4 S4 q4 => ⟨w4, y, z, st4, d, st', S4, (q2.rx.ext E3).ext E4, q4.rx, e, fun v5 H5 w5 E5 S5 q5 => ?_⟩⟩
    exact k v5 H5 w5 (E1.trans (E2.trans (E3.trans (E4.trans E5)))) S5 (pv_rd rfl q5)
  | false =>
    refine iteF ?_
    cases e
    exact k _ H3 w3 (E1.trans (E2.trans E3)) S3 (pv_rd rfl (.bl _))
theorem tst_chain (cx : Cxt P A call fd lv N sc X) {o1 o2 : Co} {a b c : C} {p1 p2 : CmpOp} {ea eb ec : Expr} {pos : Pos} (h1 : coIs o1 p1 = true) (h2 : coIs o2 p2 = true) (hs : shape ec = true)
    (ha : PE X ea (tE P A call X a)) (hb : PE X eb (tE P A call X b)) (hc : PE X ec (tE P A call X c)) : PT X (.Compare ea [p1, p2] [eb, ec] pos) (tTst P A call X (.chain o1 o2 a b c)) := by
  rw [coIs_eq h1, coIs_eq h2]
  refine PT.mono (pt_chain (opr_cmp cx o1) (opr_cmp cx o2) ha hb hc (mark_of _ hs)) (tst_tt (chain_step cx) rfl fun ρ st d st' e => ?_)
  simp only [ev] at e
  obtain ⟨x, st1, e1, e⟩ := Res.bind_is e
  obtain ⟨y, st2, e2, e⟩ := Res.bind_is e
  obtain ⟨r, st3, e3, e⟩ := Res.bind_is e
  obtain ⟨b, rfl⟩ := cmp_bl e3
  cases b with
  | true =>
    dsimp only at e
    obtain ⟨z, st4, e4, e⟩ := Res.bind_is e
    exact cmp_bl e
  | false =>
    cases e
    exact ⟨_, rfl⟩
theorem tst_not {a : C} {e : Expr} {pos : Pos} (h : PT X e (tTst P A call X a)) : PT X (.UnaryOp .Not e pos) (tTst P A call X (.not a)) := by
  refine PT.mono (pt_not h) fun σ H Q t => ?_
  obtain ⟨w, ρ, st, H0, ex, b, st', S, R, e, k⟩ := t
  unfold evT at e
  simp only [ev] at e
  obtain ⟨x, st1, e1, e⟩ := Res.bind_is e
  obtain ⟨y, st2, e2, e1⟩ := Res.bind_is e1
  cases y with
  | bl c =>
    cases e1
    cases e
    exact ⟨w, ρ, st, H0, ex, c, st', S, R, by unfold evT; rw [e2]; rfl, fun H1 w1 E1 S1 => k H1 w1 E1 S1⟩
  | _ => cases e1
theorem tst_and1 {c : C} {e : Expr} {pos : Pos} (h : PT X e (tTst P A call X c)) : PW X (.BoolOp .And [e] pos) (tTst P A call X (.and (.cons c .nil))) := by
  refine PW.mono (pw_and1 h) fun σ H Q t => ?_
  obtain ⟨w, ρ, st, H0, ex, b, st', S, R, e, k⟩ := t
  unfold evT at e
  simp only [ev, evAnd] at e
  exact ⟨w, ρ, st, H0, ex, b, st', S, R, e, k⟩
theorem tst_or1 {c : C} {e : Expr} {pos : Pos} (h : PT X e (tTst P A call X c)) : PW X (.BoolOp .Or [e] pos) (tTst P A call X (.or (.cons c .nil))) := by
  refine PW.mono (pw_or1 h) fun σ H Q t => ?_
  obtain ⟨w, ρ, st, H0, ex, b, st', S, R, e, k⟩ := t
  unfold evT at e
  simp only [ev, evOr] at e
  exact ⟨w, ρ, st, H0, ex, b, st', S, R, e, k⟩
theorem tst_and {c c2 : C} {r : Cs} {e e2 : Expr} {es : List Expr} {pos : Pos} (h : PT X e (tTst P A call X c)) (h2 : PW X (.BoolOp .And (e2 :: es) pos) (tTst P A call X (.and (.cons c2 r)))) : PW X (.BoolOp .And (e :: e2 :: es) pos) (tTst P A call X (.and (.cons c (.cons c2 r)))) := by
  refine PW.mono (pw_and h h2) fun σ H Q t => ?_
  obtain ⟨w, ρ, st, H0, ex, b, st', S, R, e, k⟩ := t
  unfold evT at e
  simp only [ev, evAnd] at e
  obtain ⟨y, st2, e0, e⟩ := Res.bind_is e
  obtain ⟨x, st1, e1, e0⟩ := Res.bind_is e0
  cases x with
  | bl a =>
    refine ⟨w, ρ, st, H0, ex, a, st1, S, R, by unfold evT; rw [e1]; rfl, fun H1 w1 E1 S1 => ?_⟩
    cases a with
    | true => exact iteT ⟨w1, ρ, st1, H0, ex, b, st', S1, R.ext E1, by unfold evT; simp only [ev]; rw [show evAnd P.tab call (.cons c2 r) ρ st1 = _ from e0]; exact e, fun H2 w2 E2 S2 => k H2 w2 (E1.trans E2) S2⟩
    | false =>
      cases e0
      cases e
      exact iteF (k H1 w1 E1 S1)
  | _ => cases e0
theorem tst_or {c c2 : C} {r : Cs} {e e2 : Expr} {es : List Expr} {pos : Pos} (h : PT X e (tTst P A call X c)) (h2 : PW X (.BoolOp .Or (e2 :: es) pos) (tTst P A call X (.or (.cons c2 r)))) : PW X (.BoolOp .Or (e :: e2 :: es) pos) (tTst P A call X (.or (.cons c (.cons c2 r)))) := by
  refine PW.mono (pw_or h h2) fun σ H Q t => ?_
  obtain ⟨w, ρ, st, H0, ex, b, st', S, R, e, k⟩ := t
  unfold evT at e
  simp only [ev, evOr] at e
  obtain ⟨y, st2, e0, e⟩ := Res.bind_is e
  obtain ⟨x, st1, e1, e0⟩ := Res.bind_is e0
  cases x with
  | bl a =>
    refine ⟨w, ρ, st, H0, ex, a, st1, S, R, by unfold evT; rw [e1]; rfl, fun H1 w1 E1 S1 => ?_⟩
    cases a with
    | false => exact iteF ⟨w1, ρ, st1, H0, ex, b, st', S1, R.ext E1, by unfold evT; simp only [ev]; rw [show evOr P.tab call (.cons c2 r) ρ st1 = _ from e0]; exact e, fun H2 w2 E2 S2 => k H2 w2 (E1.trans E2) S2⟩
    | true =>
      cases e0
      cases e
      exact iteT (k H1 w1 E1 S1)
  | _ => cases e0
theorem snd_ite {t a b : C} {et ea eb : Expr} {pos : Pos} (hba : (!a.isBor) = true) (hbb : (!b.isBor) = true) (ht : PT X et (tTst P A call X t)) (ha : PE X ea (tE P A call X a)) (hb : PE X eb (tE P A call X b)) : PE X (.IfExp et ea eb pos) (tE P A call X (.ite t a b)) := by
  refine PE.mono (pe_ifExp ht ha hb) fun σ H Q tt => ?_
  obtain ⟨w, ρ, st, H0, ex, d, st', S, R, e, k⟩ := tt
  simp only [ev] at e
  obtain ⟨x, st1, e1, e⟩ := Res.bind_is e
  obtain ⟨b', st2, e2, e⟩ := Res.bind_is e
  refine ⟨w, ρ, st, H0, ex, b', st2, S, R, by unfold evT; rw [e1]; exact e2, fun H1 w1 E1 S1 => ?_⟩
  cases b' with
  | true => exact iteT ⟨w1, ρ, st2, H0, ex, d, st', S1, R.ext E1, e, fun v H2 w2 E2 S2 q2 => k v H2 w2 (E1.trans E2) S2 (pv_rd rfl (q2.rd hba))⟩
  | false => exact iteF ⟨w1, ρ, st2, H0, ex, d, st', S1, R.ext E1, e, fun v H2 w2 E2 S2 q2 => k v H2 w2 (E1.trans E2) S2 (pv_rd rfl (q2.rd hbb))⟩
end
end Eng

namespace Eng
open PySem PySem.Spec PyProof.Rows L2
/-! ### slots stored -/
def setV : List Nat → List V → L2.St → L2.St
  | i :: is, v :: vs, σ => setV is vs (σ.set i (some v))
  | _, _, σ => σ
section
variable {A : Ad} {K : PySem.W.Frag} {H0 : Hp} {ex : Addr → Prop} {w : Wd} {ρ ρ' : Env} {σ : L2.St} {H : Hp}
theorem RS.set (R : RS A K H0 ex w ρ σ H) {i : Nat} {s : Slot} {v : V} (hi : i < ρ.length) (hs : SlotR A K H0 ex w H s v) (hm : s.mine = true → ∀ (j : Nat) (t : Slot) (a : Addr), j ≠ i → ρ[j]? = some (some t) → t.mine = true → v = .ref a → σ[j]? ≠ some (some (.ref a))) :
    RS A K H0 ex w (ρ.set i (some s)) (σ.set i (some v)) H where
  len := by rw [List.length_set, List.length_set]; exact R.len
  sl := fun j t q => by
    by_cases e : j = i
    · subst e
      rw [List.getElem?_set_self hi] at q
      cases q
      refine ⟨v, ?_, hs⟩
      rw [List.getElem?_set_self (by rw [R.len]; exact hi)]
    · rw [List.getElem?_set_ne (Ne.symm e)] at q
      obtain ⟨v', h1, h2⟩ := R.sl j t q
      exact ⟨v', by rw [List.getElem?_set_ne (Ne.symm e)]; exact h1, h2⟩
  ds := fun j k s1 t1 a hjk q1 m1 q2 m2 v1 v2 => by
    by_cases e : j = i
    · subst e
      rw [List.getElem?_set_self hi] at q1
      rw [List.getElem?_set_self (by rw [R.len]; exact hi)] at v1
      cases q1
      have hv : v = .ref a := Option.some.inj (Option.some.inj v1)
      rw [List.getElem?_set_ne hjk] at q2 v2
      exact hm m1 k t1 a (Ne.symm hjk) q2 m2 hv v2
    · by_cases e2 : k = i
      · subst e2
        rw [List.getElem?_set_self hi] at q2
        rw [List.getElem?_set_self (by rw [R.len]; exact hi)] at v2
        cases q2
        have hv : v = .ref a := Option.some.inj (Option.some.inj v2)
        rw [List.getElem?_set_ne (Ne.symm hjk)] at q1 v1
        exact hm m2 j s1 a hjk q1 m1 hv v1
      · rw [List.getElem?_set_ne (Ne.symm e)] at q1 v1
        rw [List.getElem?_set_ne (Ne.symm e2)] at q2 v2
        exact R.ds j k s1 t1 a hjk q1 m1 q2 m2 v1 v2
theorem RS.setv (R : RS A K H0 ex w ρ σ H) {i : Nat} {d : D} {v : V} (hi : i < ρ.length) (r : RD A K w d v) : RS A K H0 ex w (ρ.set i (some (.v d))) (σ.set i (some v)) H :=
  R.set hi r (fun z => nomatch z)
theorem rs_sets : ∀ {is : List Nat} {ds : List D} {vs : List V} {ρ ρ' : Env} {σ : L2.St}, RS A K H0 ex w ρ σ H → Eng.setAll is ds ρ = some ρ' → RDs A K w ds vs → RS A K H0 ex w ρ' (setV is vs σ) H
  | [], [], _, _, _, _, R, e, .nil => by cases e; exact R
  | [], _ :: _, _, _, _, _, _, e, _ => by simp [Eng.setAll] at e
  | _ :: _, [], _, _, _, _, _, e, _ => by simp [Eng.setAll] at e
  | i :: is, d :: ds, _, ρ, ρ', σ, R, e, .cons q r => by
    unfold Eng.setAll at e
    split at e
    · rename_i hi
      have z := rs_sets (R.setv hi q) e r
      exact z
    · cases e
theorem RS.wipe1 (R : RS A K H0 ex w ρ σ H) (i : Nat) : RS A K H0 ex w (ρ.set i none) (σ.set i none) H where
  len := by rw [List.length_set, List.length_set]; exact R.len
  sl := fun j t q => by
    by_cases e : j = i
    · subst e
      by_cases hi : j < ρ.length
      · rw [List.getElem?_set_self hi] at q
        cases q
      · rw [List.getElem?_eq_none (by rw [List.length_set]; omega)] at q
        cases q
    · rw [List.getElem?_set_ne (Ne.symm e)] at q
      obtain ⟨v', h1, h2⟩ := R.sl j t q
      exact ⟨v', by rw [List.getElem?_set_ne (Ne.symm e)]; exact h1, h2⟩
  ds := fun j k s1 t1 a hjk q1 m1 q2 m2 v1 v2 => by
    have h1 : j ≠ i := fun e => by
      subst e
      by_cases hi : j < ρ.length
      · rw [List.getElem?_set_self hi] at q1
        cases q1
      · rw [List.getElem?_eq_none (by rw [List.length_set]; omega)] at q1
        cases q1
    have h2 : k ≠ i := fun e => by
      subst e
      by_cases hi : k < ρ.length
      · rw [List.getElem?_set_self hi] at q2
        cases q2
      · rw [List.getElem?_eq_none (by rw [List.length_set]; omega)] at q2
        cases q2
    rw [List.getElem?_set_ne (Ne.symm h1)] at q1 v1
    rw [List.getElem?_set_ne (Ne.symm h2)] at q2 v2
    exact R.ds j k s1 t1 a hjk q1 m1 q2 m2 v1 v2
theorem RS.wipe (R : RS A K H0 ex w ρ σ H) : ∀ is : List Nat, RS A K H0 ex w (wipeE ρ is) (L2.wipe σ is) H
  | [] => R
  | i :: is => (RS.wipe R is).wipe1 i
end
theorem wipe_comm {σ : L2.St} {i : Nat} {x : Option V} : ∀ {vs : List Nat}, i ∉ vs → wipe (σ.set i x) vs = (wipe σ vs).set i x
  | [], _ => rfl
  | v :: vs, h => by
    have h1 : i ≠ v := fun e => h (by rw [e]; exact List.mem_cons_self)
    have h2 : i ∉ vs := fun e => h (List.mem_cons_of_mem _ e)
    show (wipe (σ.set i x) vs).set v none = ((wipe σ vs).set v none).set i x
    rw [wipe_comm h2, List.set_comm _ _ h1]
theorem wipe_set {σ : L2.St} {i : Nat} {x : Option V} : ∀ {vs : List Nat}, i ∈ vs → wipe (σ.set i x) vs = wipe σ vs
  | [], h => nomatch h
  | v :: vs, h => by
    show (wipe (σ.set i x) vs).set v none = (wipe σ vs).set v none
    by_cases h2 : i ∈ vs
    · rw [wipe_set h2]
    · have e : i = v := by
        rcases List.mem_cons.mp h with e | e
        · exact e
        · exact absurd e h2
      subst e
      rw [wipe_comm h2, List.set_set]
theorem wipe_sets {tg : List Nat} : ∀ {is : List Nat} {vs : List V} {σ : L2.St}, (∀ i ∈ is, i ∈ tg) → wipe (setV is vs σ) tg = wipe σ tg
  | [], _, _, _ => rfl
  | _ :: _, [], _, _ => rfl
  | i :: is, v :: vs, σ, h => by
    show wipe (setV is vs (σ.set i (some v))) tg = wipe σ tg
    rw [wipe_sets fun j hj => h j (List.mem_cons_of_mem _ hj), wipe_set (h i List.mem_cons_self)]
section
variable {P : Prg} {A : Ad} {call : Nat → List D → Store → Res D} {fd : Nat → FuncData} {lv : Nat} {N : List PySem.Str} {sc : Scope} {X : Cx}
/-! ### targets -/
def gSets (is : List Nat) : TGs := fun vs σ H Q => vs.length = is.length ∧ Q (setV is vs σ) H
def gTg (K : PySem.W.Frag) (tg : List Nat) : TG := match tg with
  | [i] => gName i
  | is => gTup K is.length (gSets is)
theorem PGs.mono {es : List Expr} {t t' : TGs} (h : PGs X es t) (m : ∀ v σ H Q, t' v σ H Q → t v σ H Q) : PGs X es t' := ⟨fun pins s σ H v u Q I r q => h.run pins s σ H v u Q I r (m v σ H Q q)⟩
theorem assign_name (es : List Expr) (x : PySem.Str) (p : Pos) (env : PySem.Env) : assignEach (.Name x p :: es) env = (false, assign (.Name x p) env) :: assignEach es env := rfl
theorem pgs_sets {ok : PySem.Str → Bool} (nd : X.N.Nodup) (hN : X.N = N) (hL : ∀ x, ok x = true → Loc X.env.scope x ∧ (X.fn x = true ∨ X.env.scope.names.lookup x = some .local)) : ∀ {is : List Nat} {es : List Expr}, targetsB N ok is es = true → PGs X es (gSets is) ∧ (assignEach es X.env).length = is.length ∧ (assignEach es X.env).findIdx? (·.1) = none
  | [], [], _ => ⟨PGs.mono pgs_nil fun v σ H Q h => ⟨List.length_eq_zero_iff.mp h.1, by
      have : v = [] := List.length_eq_zero_iff.mp h.1
      subst this
      exact h.2⟩, rfl, rfl⟩
  | [], _ :: _, h => by simp [targetsB] at h
  | _ :: _, [], h => by simp [targetsB] at h
  | i :: is, e :: es, h => by
    cases e with
    | Name x p =>
      simp only [targetsB, Bool.and_eq_true, decide_eq_true_eq] at h
      obtain ⟨h1, h2, h3⟩ := pgs_sets nd hN hL h.2
      obtain ⟨hl, hf⟩ := hL x h.1.2
      refine ⟨PGs.mono (pgs_cons (pg_name nd (by rw [hN]; exact h.1.1) hl hf) h1 (by rw [assign_name]; rfl)) fun v σ H Q hq => ?_, by rw [assign_name]; simp [h2], by rw [assign_name, List.findIdx?_cons]; simp [h3]⟩
      obtain ⟨hq1, hq2⟩ := hq
      cases v with
      | nil => simp at hq1
      | cons a r => exact ⟨a, r, rfl, by simpa using hq1, hq2⟩
    | _ => simp [targetsB] at h
theorem pg_tg {ok : PySem.Str → Bool} (calm : X.calm = true) (nd : X.N.Nodup) (hN : X.N = N) (hL : ∀ x, ok x = true → Loc X.env.scope x ∧ (X.fn x = true ∨ X.env.scope.names.lookup x = some .local)) {tg : List Nat} {t : Expr} (h : targetB N ok tg t = true) : PG X t (gTg X.K tg) := by
  cases t with
  | Name x p =>
    unfold targetB at h
    cases tg with
    | nil => cases h
    | cons i r =>
      cases r with
      | nil =>
        simp only [Bool.and_eq_true, decide_eq_true_eq] at h
        obtain ⟨hl, hf⟩ := hL x h.2
        exact pg_name nd (by rw [hN]; exact h.1) hl hf
      | cons _ _ => cases h
  | Tuple es k p =>
    simp only [targetB, Bool.and_eq_true, decide_eq_true_eq] at h
    obtain ⟨h1, h2, h3⟩ := pgs_sets nd hN hL h.2
    have hp := pg_tup (pos := p) (k := k) calm h1 h2 h3
    cases tg with
    | nil => simp at h
    | cons i r =>
      cases r with
      | nil => simp at h
      | cons j r => exact hp
  | _ => simp [targetB] at h
theorem setAll_len : ∀ {is : List Nat} {ds : List D} {ρ ρ' : Env}, setAll is ds ρ = some ρ' → ds.length = is.length
  | [], [], _, _, _ => rfl
  | [], _ :: _, _, _, e => by simp [setAll] at e
  | _ :: _, [], _, _, e => by simp [setAll] at e
  | i :: is, d :: ds, ρ, ρ', e => by
    unfold setAll at e
    split at e
    · simp [setAll_len e]
    · cases e
/-- a target bound as the interpreter binds it -/
theorem bind_step {tg : List Nat} {d : D} {v : V} {w : Wd} {st : Store} {H0 : Hp} {ex : Addr → Prop} {ρ ρ' : Env} {σ : L2.St} {H : Hp} {Q : L2.St → Hp → Prop} (S : SR A X.K w st H) (R : RS A X.K H0 ex w ρ σ H) (r : RD A X.K w d v) (e : bindT tg d ρ = some ρ')
    (k : ∀ σ', RS A X.K H0 ex w ρ' σ' H → (∀ vs, (∀ i ∈ tg, i ∈ vs) → wipe σ' vs = wipe σ vs) → Q σ' H) : gTg X.K tg v σ H Q := by
  unfold bindT at e
  split at e
  · rename_i i
    split at e
    · rename_i hi
      cases e
      exact k _ (R.setv hi r) fun vs hv => wipe_set (hv i List.mem_cons_self)
    · cases e
  · rename_i hne
    cases d with
    | tup ds =>
      obtain ⟨a, vs, rfl, hq, rr⟩ := r.tupl S
      have hlen : ds.length = tg.length := by
        exact setAll_len e
      have fin : gTup X.K tg.length (gSets tg) (.ref a) σ H Q := ⟨a, vs, rfl, hq, by rw [← rr.length, hlen], by rw [← rr.length, hlen], k _ (rs_sets R e rr) fun vs' hv => wipe_sets hv⟩
      unfold gTg
      split
      · rename_i i
        exact absurd rfl (hne i)
      · exact fin
    | _ => cases e
end
end Eng

namespace Eng
open PySem PySem.Spec PyProof.Rows L2
/-! ### what is walked -/
def WkD (A : Ad) (K : PySem.W.Frag) (w1 : Wd) (J : L2.It) (xs : List D) : Prop := ∃ (G : Hp → Prop) (Y : Nat → Hp → V → Hp → Prop), Walk J xs.length G Y ∧ (∀ w2 st2 H2, w1.le w2 → SR A K w2 st2 H2 → G H2) ∧
  ∀ i H x H' w2 st2, i < xs.length → w1.le w2 → SR A K w2 st2 H → Y i H x H' → ∃ w3 d, xs[i]? = some d ∧ Ext no w2 H w3 H' ∧ SR A K w3 st2 H' ∧ RD A K w3 d x
/-- the same where nothing that stands is changed meanwhile -/
def WkC (A : Ad) (K : PySem.W.Frag) (w1 : Wd) (H1 : Hp) (J : L2.It) (xs : List D) : Prop := ∃ (G : Hp → Prop) (Y : Nat → Hp → V → Hp → Prop), Walk J xs.length G Y ∧ (∀ w2 st2 H2, Ext no w1 H1 w2 H2 → SR A K w2 st2 H2 → G H2) ∧
  ∀ i H x H' w2 st2, i < xs.length → Ext no w1 H1 w2 H → SR A K w2 st2 H → Y i H x H' → ∃ w3 d, xs[i]? = some d ∧ Ext no w2 H w3 H' ∧ SR A K w3 st2 H' ∧ RD A K w3 d x
theorem WkD.c {A : Ad} {K : PySem.W.Frag} {w1 : Wd} {H1 : Hp} {J : L2.It} {xs : List D} (h : WkD A K w1 J xs) : WkC A K w1 H1 J xs := by
  obtain ⟨G, Y, h1, h2, h3⟩ := h
  exact ⟨G, Y, h1, fun w2 st2 H2 E S => h2 w2 st2 H2 E.le S, fun i H x H' w2 st2 hi E S y => h3 i H x H' w2 st2 hi E.le S y⟩
section
variable {P : Prg} {A : Ad} {call : Nat → List D → Store → Res D} {fd : Nat → FuncData} {lv : Nat} {N : List PySem.Str} {sc : Scope} {X : Cx}
theorem wk_priv {K : PySem.W.Frag} {w1 : Wd} {H1 : Hp} {a : Addr} {xs : List D} {vs : List V} (h : H1 a = some (.lst vs)) (p : Priv w1 a) (r : RDs A K w1 xs vs) : WkC A K w1 H1 (Itl K a) xs := by
  refine ⟨fun H => SqL K H a vs, YAt vs, by rw [r.length]; exact walk_list, fun w2 st2 H2 E S => SqL.of (E.fr a _ h p.2 (fun z => z)), ?_⟩
  rintro i H x H' w2 st2 hi E S ⟨rfl, y⟩
  obtain ⟨d, h1, h2⟩ := r.getV y
  exact ⟨w2, d, h1, .refl _ _ _, S, h2.mono E.le⟩
theorem wk_list {K : PySem.W.Frag} {w1 : Wd} {a : Addr} {xs : List D} {vs : List V} (h : SqL K w1.G a vs) (r : RDs A K w1 xs vs) : WkD A K w1 (Itl K a) xs := by
  refine ⟨fun H => SqL K H a vs, YAt vs, by rw [r.length]; exact walk_list, fun w2 st2 H2 l S => sqL_mono (fun b o q => S.sub b o (l.g b o q)) h, ?_⟩
  rintro i H x H' w2 st2 hi l S ⟨rfl, y⟩
  obtain ⟨d, h1, h2⟩ := r.getV y
  exact ⟨w2, d, h1, .refl _ _ _, S, h2.mono l⟩
theorem wk_tup {K : PySem.W.Frag} {w1 : Wd} {a : Addr} {xs : List D} {vs : List V} (h : SqT K w1.G a vs) (r : RDs A K w1 xs vs) : WkD A K w1 (Itt K a) xs := by
  refine ⟨fun H => SqT K H a vs, YAt vs, by rw [r.length]; exact walk_tup, fun w2 st2 H2 l S => sqT_mono (fun b o q => S.sub b o (l.g b o q)) h, ?_⟩
  rintro i H x H' w2 st2 hi l S ⟨rfl, y⟩
  obtain ⟨d, h1, h2⟩ := r.getV y
  exact ⟨w2, d, h1, .refl _ _ _, S, h2.mono l⟩
theorem rng_len (lo : Int) (n : Nat) : (rngD lo n).length = n := by simp [rngD]
theorem rng_get (lo : Int) (n i : Nat) (h : i < n) : (rngD lo n)[i]? = some (.int (lo + (i : Nat))) := by simp [rngD, h]
theorem wk_range {K : PySem.W.Frag} {w1 : Wd} {lo : Int} {n : Nat} : WkD A K w1 (Itr lo n) (rngD lo n) := by
  refine ⟨fun _ => True, YFn fun i => .int (lo + i), by rw [rng_len]; exact walk_range, fun _ _ _ _ _ => trivial, ?_⟩
  rintro i H x H' w2 st2 hi l S ⟨rfl, rfl⟩
  rw [rng_len] at hi
  exact ⟨w2, _, rng_get lo n i hi, .refl _ _ _, S, .int _⟩
theorem enum_len (xs : List D) : (enumD xs).length = xs.length := by simp [enumD]
theorem enum_get {xs : List D} {i : Nat} {d : D} (h : xs[i]? = some d) : (enumD xs)[i]? = some (.tup [.int (i : Nat), d]) := by
  unfold enumD
  rw [List.getElem?_map, List.getElem?_zipIdx, h]
  simp
theorem wk_enum {K : PySem.W.Frag} {w1 : Wd} {a : Addr} {xs : List D} {vs : List V} (h : SqL K w1.G a vs) (r : RDs A K w1 xs vs) : WkD A K w1 (Ite K a) (enumD xs) := by
  refine ⟨fun H => SqL K H a vs, YPair (fun i => some (.int (i : Nat))) (fun i => vs[i]?), by rw [enum_len, r.length]; exact walk_enum, fun w2 st2 H2 l S => sqL_mono (fun b o q => S.sub b o (l.g b o q)) h, ?_⟩
  rintro i H x H' w2 st2 hi l S ⟨T, x1, y1, rfl, hT, rfl, q1, q2⟩
  cases q1
  obtain ⟨d, h1, h2⟩ := r.getV q2
  have E := ext_add (o := .tup [.int (i : Nat), y1]) S hT
  refine ⟨w2.add T (.tup [.int (i : Nat), y1]), _, enum_get h1, E, sr_add S hT, .tup (SqT.of (show upd w2.G T _ T = _ from upd_same)) (.cons (.int _) (.cons ((h2.mono l).mono E.le) .nil))⟩
variable (P A call X)
def tI (it : Eng.It) : TI := fun σ H R => ∃ w ρ st H0 ex xs st', SR A X.K w st H ∧ RS A X.K H0 ex w ρ σ H ∧ evIt P.tab call it ρ st = .ok xs st' ∧ ∀ J H1 w1, Ext no w H w1 H1 → SR A X.K w1 st' H1 → WkD A X.K w1 J xs → R J H1
def tIC (it : Eng.It) : TI := fun σ H R => ∃ w ρ st H0 ex xs st', SR A X.K w st H ∧ RS A X.K H0 ex w ρ σ H ∧ evIt P.tab call it ρ st = .ok xs st' ∧ ∀ J H1 w1, Ext no w H w1 H1 → SR A X.K w1 st' H1 → WkC A X.K w1 H1 J xs → R J H1
def tIfs (cs : Cs) : TT := fun σ H Q => ∃ w ρ st H0 ex k st', SR A X.K w st H ∧ RS A X.K H0 ex w ρ σ H ∧ evIfs P.tab call cs ρ st = .ok k st' ∧ ∀ H' w', Ext no w H w' H' → SR A X.K w' st' H' → Q k H'
variable {P A call X}
theorem pi_c {it : Eng.It} {tg e : Expr} (h : PI X tg e (tI P A call X it)) : PI X tg e (tIC P A call X it) := by
  constructor
  rintro pins s σ H R I ⟨w, ρ, st, H0, ex, xs, st', S, RR, e1, k⟩
  exact h.run pins s σ H R I ⟨w, ρ, st, H0, ex, xs, st', S, RR, e1, fun J H1 w1 E1 S1 W => k J H1 w1 E1 S1 W.c⟩
theorem pi_bor (cx : Cxt P A call fd lv N sc X) {i : Nat} {x : PySem.Str} {tg : Expr} {p : Pos} (h : nameB N sc i x = true) : PI X tg (.Name x p) (tIC P A call X (.seq (.bor i))) := by
  constructor
  rintro pins s σ H R I ⟨w, ρ, st, H0, ex, xs, st', S, RR, e1, k⟩
  simp only [evIt] at e1
  obtain ⟨y, st1, e2, e3⟩ := Res.bind_is e1
  have e4 := e2
  simp only [ev] at e2
  split at e2
  · rename_i ys hs
    cases e2
    cases e3
    refine (pi_list (snd_bor cx h)).run pins s σ H R I ⟨w, ρ, st, H0, ex, _, st, S, RR, e4, fun v H1 w1 E1 S1 q => ?_⟩
    have q := q.rx
    rcases q with z | ⟨zs, a, vs, z1, rfl, z3, z4, z5⟩
    · cases z with
      | lst hz rz => exact ⟨_, rfl, ⟨_, sqL_mono S1.sub hz⟩, k _ _ _ E1 S1 (wk_list hz rz).c⟩
    · cases z1
      exact ⟨_, rfl, ⟨_, SqL.of z3⟩, k _ _ _ E1 S1 (wk_priv z3 z5 z4)⟩
  · cases e2
theorem bor_i (cx : Cxt P A call fd lv N sc X) {it : Eng.It} {tg e : Expr} (h : borI N sc it e = true) : PI X tg e (tIC P A call X it) := by
  unfold borI at h
  split at h
  · exact pi_bor cx h
  · cases h
theorem pi_seq {c : C} {tg e : Expr} (hb : (!c.isBor) = true) (h : PE X e (tE P A call X c)) : PI X tg e (tI P A call X (.seq c)) := by
  constructor
  intro pins s σ H R I q
  obtain ⟨w, ρ, st, H0, ex, xs, st', S, RR, e1, k⟩ := q
  simp only [evIt] at e1
  obtain ⟨x, st1, e2, e3⟩ := Res.bind_is e1
  cases x with
  | lst ys =>
    cases e3
    refine (pi_list h).run pins s σ H R I ⟨w, ρ, st, H0, ex, _, st', S, RR, e2, fun v H1 w1 E1 S1 p => ?_⟩
    have r := p.rd hb
    cases r with
    | lst q r => exact ⟨_, rfl, ⟨_, sqL_mono S1.sub q⟩, k _ _ _ E1 S1 (wk_list q r)⟩
  | tup ys =>
    cases e3
    refine (pi_tup h).run pins s σ H R I ⟨w, ρ, st, H0, ex, _, st', S, RR, e2, fun v H1 w1 E1 S1 p => ?_⟩
    have r := p.rd hb
    cases r with
    | tup q r => exact ⟨_, rfl, ⟨_, sqT_mono S1.sub q⟩, k _ _ _ E1 S1 (wk_tup q r)⟩
  | _ => cases e3
theorem gl_rng (cx : Cxt P A call fd lv N sc X) {x : PySem.Str} (hg : glB sc x = true) (hf : P.blt.contains x = true) : Gl X x ∧ X.mg x = none := ⟨(gl_of cx hg).1, cx.gok.free x hf⟩
theorem pi_r1 (cx : Cxt P A call fd lv N sc X) {a : C} {tg e : Expr} {x : PySem.Str} {p pos : Pos} (hx : x = ("range" : PySem.Str)) (hg : glB sc x = true) (hf : P.blt.contains x = true) (hb : (!a.isBor) = true) (hs : shape e = true) (h : PE X e (tE P A call X a)) : PI X tg (.Call (.Name x p) [e] [] pos) (tI P A call X (.rng1 a)) := by
  subst hx
  obtain ⟨g1, g2⟩ := gl_rng cx hg hf
  refine PI.mono (pi_range1 g1 g2 (pa_cons h pa_nil (star_of [] _ hs)) (by rw [star_of [] _ hs]; rfl)) ?_
  rintro σ H R ⟨w, ρ, st, H0, ex, xs, st', S, RR, e1, k⟩
  simp only [evIt] at e1
  obtain ⟨y, st1, e2, e3⟩ := Res.bind_is e1
  refine ⟨w, ρ, st, H0, ex, y, st1, S, RR, e2, fun v H1 w1 E1 S1 pv => ?_⟩
  have r := pv.rd hb
  cases y with
  | int n =>
    dsimp only at e3
    split at e3
    · rename_i hw
      rw [Bool.and_eq_true] at hw
      cases e3
      cases r
      refine ⟨n, rfl, of_decide_eq_true hw.1, of_decide_eq_true hw.2, k _ _ _ E1 S1 wk_range⟩
    · cases e3
  | _ => cases e3
theorem pi_r2 (cx : Cxt P A call fd lv N sc X) {a b : C} {tg e e2 : Expr} {x : PySem.Str} {p pos : Pos} (hx : x = ("range" : PySem.Str)) (hg : glB sc x = true) (hf : P.blt.contains x = true) (hb : (!a.isBor) = true) (hs : shape e = true) (h : PE X e (tE P A call X a)) (hb2 : (!b.isBor) = true) (hs2 : shape e2 = true) (h2 : PE X e2 (tE P A call X b)) :
    PI X tg (.Call (.Name x p) [e, e2] [] pos) (tI P A call X (.rng2 a b)) := by
  subst hx
  obtain ⟨g1, g2⟩ := gl_rng cx hg hf
  refine PI.mono (pi_range2 g1 g2 (pa_cons h (pa_cons h2 pa_nil (star_of [] _ hs2)) (star_of [e2] _ hs)) (by rw [star_of [e2] _ hs, star_of [] _ hs2]; rfl) (by rw [star_of [] _ hs2]; rfl)) ?_
  rintro σ H R ⟨w, ρ, st, H0, ex, xs, st', S, RR, e1, k⟩
  simp only [evIt] at e1
  obtain ⟨y, st1, q2, e3⟩ := Res.bind_is e1
  obtain ⟨z, st2, q3, e3⟩ := Res.bind_is e3
  refine ⟨w, ρ, st, H0, ex, y, st1, S, RR, q2, fun v H1 w1 E1 S1 pv => ⟨w1, ρ, st1, H0, ex, z, st2, S1, RR.ext E1, q3, fun u H2 w2 E2 S2 pu => ?_⟩⟩
  have r := pv.rd hb
  have r2 := pu.rd hb2
  cases y with
  | int i =>
    cases z with
    | int j =>
      dsimp only at e3
      split at e3
      · rename_i hw
        simp only [Bool.and_eq_true, decide_eq_true_eq] at hw
        cases e3
        cases r
        cases r2
        exact ⟨i, j, rfl, ⟨hw.1.1.1, hw.1.1.2, hw.1.2, hw.2⟩, k _ _ _ (E1.trans E2) S2 wk_range⟩
      · cases e3
    | _ => cases e3
  | _ => cases e3
/-! ### a private list is written, is frozen -/
theorem zip_snd (f : Nat → PySem.Str) : ∀ tg : List Nat, ((tg.map f).zip tg).map (·.2) = tg
  | [] => rfl
  | i :: r => by simp [zip_snd f r]
theorem cxt_blk (cx : Cxt P A call fd lv N sc X) {scope : Scope} (s : Shared) (H : Hp) (Cc : Addr) (cl : List (PySem.Str × Addr)) (fp : List Addr) : Cxt P A call fd lv N (relS scope sc) (X.blk s H scope (compEnvC scope cl Cc X.env) fp) where
  sc := by
    show relS scope X.env.scope = _
    rw [cx.sc]
  N := cx.N
  nd := cx.nd
  calm := cx.calm
  room := cx.room
  gok := cx.gok
  fok := cx.fok
  fog := cx.fog
  gd := cx.gd
  ini := cx.ini
  bnk := cx.bnk
  cok := cx.cok
  bnd := cx.bnd
  bnF := cx.bnF
theorem own_loc {scope : Scope} {x : PySem.Str} (h : ownB scope x = true) : Loc (relS scope sc) x ∧ ((scope.names.lookup x == some .cell) = true ∨ (relS scope sc).names.lookup x = some .local) := by
  unfold ownB at h
  split at h
  · rename_i e
    have z := lookup_relS_keep (sc := sc) (by decide) e
    exact ⟨.inl z, .inr z⟩
  · rename_i e
    have z := lookup_relS_keep (sc := sc) (by decide) e
    exact ⟨.inr z, .inl (by rw [e]; rfl)⟩
  · cases h
theorem wipe_wipe' (σ : L2.St) (tg : List Nat) : ∀ vs : List Nat, (∀ i ∈ vs, i ∈ tg) → wipe (wipe σ vs) tg = wipe σ tg
  | [], _ => rfl
  | v :: vs, h => by
    show wipe ((wipe σ vs).set v none) tg = wipe σ tg
    rw [wipe_set (h v List.mem_cons_self), wipe_wipe' σ tg vs fun i hi => h i (List.mem_cons_of_mem _ hi)]
theorem wipe_wipe (σ : L2.St) (tg : List Nat) : wipe (wipe σ tg) tg = wipe σ tg := wipe_wipe' σ tg tg fun _ h => h
variable (P A call X) in
/-- an expression that makes a list anew -/
def tF (c : C) : TE := fun σ H Q => ∃ w ρ st H0 ex d st', SR A X.K w st H ∧ RS A X.K H0 ex w ρ σ H ∧ ev P.tab call c ρ st = .ok d st' ∧ ∀ v H' w', Ext no w H w' H' → SR A X.K w' st' H' → FR A X.K w' H H' d v → Q v H'
theorem te_tf {c : C} (hc : c.isBor = false) : ∀ σ H Q, tE P A call X c σ H Q → tF P A call X c σ H Q := by
  rintro σ H Q ⟨w, ρ, st, H0, ex, d, st', S, R, e, k⟩
  refine ⟨w, ρ, st, H0, ex, d, st', S, R, e, fun v H' w' E' S' f => ?_⟩
  obtain ⟨w2, E2, S2, q2⟩ := f.frz S' E'
  exact k v H' w2 E2 S2 (pv_rd hc q2)
/-- the comprehension's turns -/
theorem lc_stepF (elt : C) (tg : List Nat) (it : Eng.It) (ifs : Cs) (hbe : (!elt.isBor) = true) : ∀ σ H Q, tF P A call X (.lc elt tg it ifs) σ H Q → tLc (tIC P A call X it) (gTg X.K tg) (tIfs P A call X ifs) (tE P A call X elt) tg σ H Q := by
  rintro σ H Q ⟨w, ρ, st, H0, ex, d, st', S, R, e, k⟩
  simp only [ev] at e
  obtain ⟨xs, st1, e1, e⟩ := Res.bind_is e
  split at e
  · cases e
  rename_i hlen
  obtain ⟨ys, st2, e2, e3⟩ := Res.bind_is e
  cases e3
  refine ⟨w, ρ, st, H0, ex, xs, st1, S, R, e1, fun J H1 w1 E1 S1 W => fun L hL => ?_⟩
  obtain ⟨G, Y, wk, hG, hY⟩ := W
  generalize hf : (fun d st2 => match bindT tg d (wipeE ρ tg) with
      | some ρ1 => (evIfs P.tab call ifs ρ1 st2).bind fun k st3 => if k then (ev P.tab call elt ρ1 st3).bind fun y st4 => .ok (some y) st4 else .ok none st3
      | none => (.bad : Res (Option D))) = f at e2
  refine lc_it wk (fun i H => ∃ w2 sti acc vs rest, Ext no w1 H1 w2 H ∧ SR A X.K w2 sti H ∧ Priv w2 L ∧ H L = some (.lst vs) ∧ RDs A X.K w2 acc vs ∧ acc.length ≤ i ∧ mapR f (xs.drop i) sti = .ok rest st' ∧ ys = acc ++ rest) ?_ ?_ ?_ ?_
  · exact ⟨w1, st1, [], [], ys, ext_new (st := st1) hL, sr_new S1 hL, priv_new S1 hL, upd_same, .nil, Nat.le_refl _, by simpa using e2, rfl⟩
  · rintro i H2 _ ⟨w2, sti, acc, vs, rest, E2, S2, _⟩
    exact hG w2 sti H2 E2 S2
  · rintro i x H2 H3 hi ⟨w2, sti, acc, vs, rest, E2, S2, pr, hq, ra, hacc, em, hys⟩ y
    obtain ⟨w3, d, hd, E3, S3, rd⟩ := hY i H2 x H3 w2 sti hi E2 S2 y
    have hdrop : xs.drop i = d :: xs.drop (i + 1) := by
      have hi' := (List.getElem?_eq_some_iff.mp hd)
      obtain ⟨h1, h2⟩ := hi'
      rw [List.drop_eq_getElem_cons h1, h2]
    rw [hdrop] at em
    simp only [mapR] at em
    obtain ⟨o, st3, f1, em⟩ := Res.bind_is em
    obtain ⟨rest', st4, f2, em⟩ := Res.bind_is em
    have R3 : RS A X.K H0 ex w3 (wipeE ρ tg) (wipe σ tg) H3 := (R.ext (E1.trans (E2.trans E3))).wipe tg
    rw [← hf] at f1
    dsimp only at f1
    cases hb : bindT tg d (wipeE ρ tg) with
    | none => rw [hb] at f1; cases f1
    | some ρ1 =>
      rw [hb] at f1
      dsimp only at f1
      obtain ⟨kb, st5, f3, f1⟩ := Res.bind_is f1
      refine bind_step S3 R3 rd hb fun σ2 R4 hw => ⟨?_, w3, ρ1, sti, H0, ex, kb, st5, S3, R4, f3, fun H5 w5 E5 S5 => ?_⟩
      · rw [hw tg fun i hi => hi]
        exact wipe_wipe _ _
      have q5 := E5.fr L _ (E3.fr L _ hq pr.2 (fun z => z)) (pr.ext hq E3).2 (fun z => z)
      have p5 := (pr.ext hq E3).ext (E3.fr L _ hq pr.2 (fun z => z)) E5
      have r5 := (ra.mono E3.le).mono E5.le
      cases kb with
      | false =>
        simp only [Bool.false_eq_true, if_false] at f1 ⊢
        cases f1
        cases em
        exact ⟨w5, _, acc, vs, _, E2.trans (E3.trans E5), S5, p5, q5, r5, Nat.le_succ_of_le hacc, f2, hys⟩
      | true =>
        simp only [if_true] at f1 ⊢
        obtain ⟨y1, st6, f4, f1⟩ := Res.bind_is f1
        cases f1
        cases em
        refine ⟨w5, ρ1, st5, H0, ex, y1, _, S5, R4.ext E5, f4, fun v H6 w6 E6 S6 pv => ?_⟩
        have rv := pv.rd hbe
        have q6 := E6.fr L _ q5 p5.2 (fun z => z)
        have p6 := p5.ext q5 E6
        refine ⟨vs, q6, ?_, w6, _, acc ++ [y1], vs ++ [v], rest', ext_wr (E2.trans (E3.trans (E5.trans E6))) hL, sr_write S6 p6, p6, upd_same, (r5.mono E6.le).append (.cons rv .nil), by simp; omega, f2, by rw [hys]; simp⟩
        rw [← ra.length, sizeLine_eq]
        omega
  · rintro H2 ⟨w2, sti, acc, vs, rest, E2, S2, pr, hq, ra, hacc, em, hys⟩
    rw [List.drop_length] at em
    cases em
    rw [List.append_nil] at hys
    subst hys
    exact k _ _ w2 (E1.trans E2) S2 ⟨_, L, vs, rfl, rfl, hq, ra, pr, E1.none_of hL⟩
theorem lc_step (elt : C) (tg : List Nat) (it : Eng.It) (ifs : Cs) (hbe : (!elt.isBor) = true) : ∀ σ H Q, tE P A call X (.lc elt tg it ifs) σ H Q → tLc (tIC P A call X it) (gTg X.K tg) (tIfs P A call X ifs) (tE P A call X elt) tg σ H Q :=
  fun σ H Q h => lc_stepF elt tg it ifs hbe σ H Q (te_tf rfl σ H Q h)
end
end Eng

/-! zip of two things, each a list or a tuple. -/
namespace Eng
open PySem
/-- true: a list; false: a tuple -/
def SqB (g : Bool) (h : Heap) (l : Addr) (xs : Array Value) : Prop := if g = true then h.IsList l xs else h.IsTuple l xs
def ItB (g : Bool) (h : Heap) (a l : Addr) (i : Nat) : Prop := if g = true then h.IsListIter a l i else h.IsTupleIter a l i
theorem SqB.but {g : Bool} {h h' : Heap} {c l : Addr} {xs : Array Value} (q : SqB g h l xs) (e : Heap.ExtBut c h h') (ne : l ≠ c) : SqB g h' l xs := by
  cases g
  · exact Heap.IsTuple.extBut (show h.IsTuple l xs from q) e ne
  · exact Heap.IsList.extBut (show h.IsList l xs from q) e ne
theorem ItB.but {g : Bool} {h h' : Heap} {c a l : Addr} {i : Nat} (q : ItB g h a l i) (e : Heap.ExtBut c h h') (ne : a ≠ c) : ItB g h' a l i := by
  cases g
  · exact Heap.IsTupleIter.extBut (show h.IsTupleIter a l i from q) e ne
  · exact Heap.IsListIter.extBut (show h.IsListIter a l i from q) e ne
theorem ItB.to {g : Bool} {h h' : Heap} {a l : Addr} {i : Nat} (q : ItB g h a l i) (e : ∀ o, h.get? a = some o → h'.get? a = some o) : ItB g h' a l i := by
  cases g
  · exact Heap.IsTupleIter.at (show h.IsTupleIter a l i from q) e
  · exact Heap.IsListIter.at (show h.IsListIter a l i from q) e
theorem ItB.obj {g : Bool} {h : Heap} {a l : Addr} {i : Nat} (q : ItB g h a l i) : ∃ o, h.get? a = some o ∧ ∀ v, o.data ≠ .cell v := by
  cases g
  · obtain ⟨o, e, _, d⟩ := (show h.IsTupleIter a l i from q)
    exact ⟨o, e, fun v z => by rw [d] at z; cases z⟩
  · obtain ⟨o, e, _, d⟩ := (show h.IsListIter a l i from q)
    exact ⟨o, e, fun v z => by rw [d] at z; cases z⟩
section
variable {prog : Program} {w : World} {A : Around} {E : Value → Shared → Prop} {s : Shared}
theorem nextB_item {g : Bool} {a l : Addr} {i : Nat} {items : Array Value} {x : Value} {Q : Value → Shared → Prop} (hi : ItB g s.heap a l i) (hs : SqB g s.heap l items) (hx : items[i]? = some x)
    (post : ∀ h', ItB g h' a l (i + 1) → Heap.SameBut a s.heap h' → Q x { s with heap := h' }) : wpAny (model prog w) A (Builtin.SmallTypes.nextOf (.ref a)) Q E s := by
  cases g
  · exact RZ.nextOf_tuple_item hi hs hx post
  · exact wpAny_nextOf_list_item hi hs hx post
theorem nextB_end {g : Bool} {a l : Addr} {i : Nat} {items : Array Value} {Q : Value → Shared → Prop} (hh : A.handled = none) (hi : ItB g s.heap a l i) (hs : SqB g s.heap l items) (hx : items[i]? = none)
    (post : ∀ h' e, Heap.ExtBut a s.heap h' → (∃ o, h'.get? e = some o ∧ o.cls = .type "StopIteration") → E (.ref e) { s with heap := h' }) : wpAny (model prog w) A (Builtin.SmallTypes.nextOf (.ref a)) Q E s := by
  cases g
  · exact RZ.nextOf_tuple_end hh hi hs hx post
  · exact wpAny_nextOf_list_end hh hi hs hx post
theorem zipB_item {g1 g2 : Bool} {zp ti to j1 j2 m1 m2 : Addr} {k1 k2 : Nat} {xs ys : Array Value} {x y p q : Value} {Q : Value → Shared → Prop} (ap : ZipApart zp ti to j1 j2 m1 m2)
    (z0 : IsZip s.heap zp ti to .none) (t0 : IsPair s.heap ti (.ref j1) (.ref j2)) (u0 : IsPair s.heap to p q)
    (a1 : ItB g1 s.heap j1 m1 k1) (a2 : ItB g2 s.heap j2 m2 k2) (b1 : SqB g1 s.heap m1 xs) (b2 : SqB g2 s.heap m2 ys) (hx : xs[k1]? = some x) (hy : ys[k2]? = some y)
    (post : ∀ h', IsZip h' zp ti to (rawInt s.heap.objs.size) → IsPair h' to x y → ItB g1 h' j1 m1 (k1 + 1) → ItB g2 h' j2 m2 (k2 + 1) → IsPair h' s.heap.objs.size x y → h'.objs.size = s.heap.objs.size + 1 →
      (∀ c o, c ≠ zp → c ≠ to → c ≠ j1 → c ≠ j2 → s.heap.get? c = some o → h'.get? c = some o) → Q (.ref s.heap.objs.size) { s with heap := h' }) :
    wpAny (model prog w) A (Builtin.«zip.__next__» ⟨[.ref zp], []⟩) (fun fin s' => ∃ v, fin = .done (.ret v) ∧ Q v s') E s := by
  show wpAny _ _ (field (.ref zp) 2 >>= _) _ _ _
  refine wpAny_bind (wpAny_field z0 rfl (x := .bool false) rfl ?_)
  show wpAny _ _ (field (.ref zp) 3 >>= _) _ _ _
  refine wpAny_bind (wpAny_field z0 rfl (x := .ref ti) rfl ?_)
  refine wpAny_bind (wpAny_seqItems t0 rfl ?_)
  show wpAny _ _ (Builtin.SmallTypes.ownedTupleIsFree (.ref zp) >>= _) _ _ _
  refine wpAny_bind ?_
  simp only [Builtin.SmallTypes.ownedTupleIsFree]
  refine wpAny_bind (wpAny_field z0 rfl (x := .none) rfl (wpAny_pure ?_))
  simp only [if_true]
  refine wpAny_bind (wpAny_rule ?_)
  refine wpAny_bind (wpAny_field z0 rfl (x := .ref to) rfl ?_)
  refine wpAny_bind (wpAny_setField_rec z0 (by simp) fun f1 z1 e1 => ?_)
  replace z1 : IsZip f1 zp ti to .ellipsis := z1
  refine wpAny_bind ?_
  simp only [List.zipIdx_cons, List.forIn_cons, List.zipIdx_nil, List.forIn_nil]
  refine wpAny_bind (wpAny_bind (wpAny_onRaise ?_))
  show wpAny _ _ (Builtin.SmallTypes.nextOf (.ref j1) >>= _) _ _ _
  refine wpAny_bind (nextB_item (a1.but e1.extBut ap.i1z) (b1.but e1.extBut ap.l1z) hx fun f2 a1' e2 => wpAny_pure ?_)
  have u2 : IsPair f2 to p q := e2.extBut _ _ ap.TOi1 (e1.extBut _ _ ap.TOz u0)
  refine wpAny_bind (wpAny_seqItems u2 rfl ?_)
  refine wpAny_bind (wpAny_updateSeq_pair u2 fun f3 u3 e3 => ?_)
  replace u3 : IsPair f3 to x q := u3
  refine wpAny_bind (wpAny_letGo (wpAny_pure ?_))
  refine wpAny_bind (wpAny_bind (wpAny_onRaise ?_))
  show wpAny _ _ (Builtin.SmallTypes.nextOf (.ref j2) >>= _) _ _ _
  refine wpAny_bind (nextB_item (((a2.but e1.extBut ap.i2z).but e2.extBut ap.i12.symm).but e3.extBut ap.TOi2.symm) (((b2.but e1.extBut ap.l2z).but e2.extBut ap.l2i1).but e3.extBut ap.l2TO) hy fun f4 a2' e4 => wpAny_pure ?_)
  have u4 : IsPair f4 to x q := e4.extBut _ _ ap.TOi2 u3
  refine wpAny_bind (wpAny_seqItems u4 rfl ?_)
  refine wpAny_bind (wpAny_updateSeq_pair u4 fun f5 u5 e5 => ?_)
  replace u5 : IsPair f5 to x y := u5
  refine wpAny_bind (wpAny_letGo (wpAny_pure (wpAny_pure ?_)))
  refine wpAny_bind (wpAny_seqItems u5 rfl ?_)
  refine wpAny_bind (wpAny_newTuple ?_)
  have size5 : f5.objs.size = s.heap.objs.size := by rw [e5.1, e4.1, e3.1, e2.1, e1.1]
  have z5 : IsZip f5 zp ti to .ellipsis := e5.extBut _ _ ap.TOz.symm (e4.extBut _ _ ap.i2z.symm (e3.extBut _ _ ap.TOz.symm (e2.extBut _ _ ap.i1z.symm z1)))
  have kept5 : ∀ c o, c ≠ zp → c ≠ to → c ≠ j1 → c ≠ j2 → s.heap.get? c = some o → f5.get? c = some o := fun c o n1 n2 n3 n4 e =>
    e5.extBut _ _ n2 (e4.extBut _ _ n4 (e3.extBut _ _ n2 (e2.extBut _ _ n3 (e1.extBut _ _ n1 e))))
  have c1 : ItB g1 f5 j1 m1 (k1 + 1) := ((a1'.but e3.extBut ap.TOi1.symm).but e4.extBut ap.i12).but e5.extBut ap.TOi1.symm
  have c2 : ItB g2 f5 j2 m2 (k2 + 1) := a2'.but e5.extBut ap.TOi2.symm
  have ltz : zp < f5.objs.size := Heap.lt_size z5
  show wpAny _ _ (Builtin.SmallTypes.ownedTupleHandOut (.ref zp) (.ref f5.objs.size) >>= _) _ _ _
  refine wpAny_bind ?_
  simp only [Builtin.SmallTypes.ownedTupleHandOut]
  have z6 : IsZip (f5.push { cls := .type "tuple", data := .seq #[x, y] }) zp ti to .ellipsis := Heap.get?_push_of_some _ z5
  refine wpAny_bind (wpAny_setField_rec z6 (by simp) fun f7 z7 e7 => ?_)
  replace z7 : IsZip f7 zp ti to (rawInt f5.objs.size) := z7
  refine wpAny_setField_rec z7 (by simp) fun f8 z8 e8 => ?_
  replace z8 : IsZip f8 zp ti to (rawInt f5.objs.size) := z8
  have up : ∀ c o, c ≠ zp → f5.get? c = some o → f8.get? c = some o := fun c o n1 e => e8.extBut _ _ n1 (e7.extBut _ _ n1 (Heap.get?_push_of_some _ e))
  have t8 : IsPair f8 f5.objs.size x y := e8.extBut _ _ (Nat.ne_of_gt ltz) (e7.extBut _ _ (Nat.ne_of_gt ltz) (Heap.get?_push_size _ rfl))
  have size8 : f8.objs.size = f5.objs.size + 1 := by rw [e8.1, e7.1, Heap.size_push]
  rw [size5] at z8 t8 size8
  refine wpAny_pure ⟨_, rfl, ?_⟩
  show Q (.ref f5.objs.size) _
  rw [size5]
  exact post f8 z8 (up _ _ ap.TOz u5) (c1.to fun o e => up _ o ap.i1z e) (c2.to fun o e => up _ o ap.i2z e) t8 size8 fun c o n1 n2 n3 n4 e => up c o n1 (kept5 c o n1 n2 n3 n4 e)
theorem zipB_end {g1 g2 : Bool} {zp ti to j1 j2 m1 m2 : Addr} {k1 k2 : Nat} {xs ys : Array Value} {p q : Value} {Q : PySem.Fin → Shared → Prop} (hh : A.handled = none) (ap : ZipApart zp ti to j1 j2 m1 m2)
    (z0 : IsZip s.heap zp ti to .none) (t0 : IsPair s.heap ti (.ref j1) (.ref j2)) (u0 : IsPair s.heap to p q)
    (a1 : ItB g1 s.heap j1 m1 k1) (a2 : ItB g2 s.heap j2 m2 k2) (b1 : SqB g1 s.heap m1 xs) (b2 : SqB g2 s.heap m2 ys) (fin : xs[k1]? = none ∨ ys[k2]? = none)
    (post : ∀ h' e, (∀ c o, c ≠ zp → c ≠ to → c ≠ j1 → c ≠ j2 → s.heap.get? c = some o → h'.get? c = some o) → (∃ o, h'.get? e = some o ∧ o.cls = .type "StopIteration") → E (.ref e) { s with heap := h' }) :
    wpAny (model prog w) A (Builtin.«zip.__next__» ⟨[.ref zp], []⟩) Q E s := by
  show wpAny _ _ (field (.ref zp) 2 >>= _) _ _ _
  refine wpAny_bind (wpAny_field z0 rfl (x := .bool false) rfl ?_)
  show wpAny _ _ (field (.ref zp) 3 >>= _) _ _ _
  refine wpAny_bind (wpAny_field z0 rfl (x := .ref ti) rfl ?_)
  refine wpAny_bind (wpAny_seqItems t0 rfl ?_)
  show wpAny _ _ (Builtin.SmallTypes.ownedTupleIsFree (.ref zp) >>= _) _ _ _
  refine wpAny_bind ?_
  simp only [Builtin.SmallTypes.ownedTupleIsFree]
  refine wpAny_bind (wpAny_field z0 rfl (x := .none) rfl (wpAny_pure ?_))
  simp only [if_true]
  refine wpAny_bind (wpAny_rule ?_)
  refine wpAny_bind (wpAny_field z0 rfl (x := .ref to) rfl ?_)
  refine wpAny_bind (wpAny_setField_rec z0 (by simp) fun f1 z1 e1 => ?_)
  replace z1 : IsZip f1 zp ti to .ellipsis := z1
  refine wpAny_bind ?_
  simp only [List.zipIdx_cons, List.forIn_cons, List.zipIdx_nil, List.forIn_nil]
  refine wpAny_bind (wpAny_bind (wpAny_onRaise ?_))
  show wpAny _ _ (Builtin.SmallTypes.nextOf (.ref j1) >>= _) _ _ _
  cases hx : xs[k1]? with
  | none =>
    refine wpAny_bind (nextB_end hh (a1.but e1.extBut ap.i1z) (b1.but e1.extBut ap.l1z) hx fun f2 e e2 he => ?_)
    obtain ⟨oe, hoe, hce⟩ := he
    have z2 : IsZip f2 zp ti to .ellipsis := e2 _ _ ap.i1z.symm z1
    have nez : e ≠ zp := fun eq => by subst eq; rw [z2] at hoe; cases hoe; simp at hce
    exact wpAny_setField_rec z2 (by simp) fun f3 _ e3 => post f3 e (fun c o n1 _ n3 _ eq => e3.extBut _ _ n1 (e2 _ _ n3 (e1.extBut _ _ n1 eq))) ⟨oe, e3.extBut _ _ nez hoe, hce⟩
  | some x =>
    have hy : ys[k2]? = none := by
      rcases fin with r | r
      · rw [hx] at r; cases r
      · exact r
    refine wpAny_bind (nextB_item (a1.but e1.extBut ap.i1z) (b1.but e1.extBut ap.l1z) hx fun f2 a1' e2 => wpAny_pure ?_)
    have u2 : IsPair f2 to p q := e2.extBut _ _ ap.TOi1 (e1.extBut _ _ ap.TOz u0)
    refine wpAny_bind (wpAny_seqItems u2 rfl ?_)
    refine wpAny_bind (wpAny_updateSeq_pair u2 fun f3 u3 e3 => ?_)
    refine wpAny_bind (wpAny_letGo (wpAny_pure ?_))
    refine wpAny_bind (wpAny_bind (wpAny_onRaise ?_))
    show wpAny _ _ (Builtin.SmallTypes.nextOf (.ref j2) >>= _) _ _ _
    refine wpAny_bind (nextB_end hh (((a2.but e1.extBut ap.i2z).but e2.extBut ap.i12.symm).but e3.extBut ap.TOi2.symm) (((b2.but e1.extBut ap.l2z).but e2.extBut ap.l2i1).but e3.extBut ap.l2TO) hy fun f4 e e4 he => ?_)
    obtain ⟨oe, hoe, hce⟩ := he
    have z4 : IsZip f4 zp ti to .ellipsis := e4 _ _ ap.i2z.symm (e3.extBut _ _ ap.TOz.symm (e2.extBut _ _ ap.i1z.symm z1))
    have nez : e ≠ zp := fun eq => by subst eq; rw [z4] at hoe; cases hoe; simp at hce
    exact wpAny_setField_rec z4 (by simp) fun f5 _ e5 => post f5 e (fun c o n1 n2 n3 n4 eq => e5.extBut _ _ n1 (e4 _ _ n4 (e3.extBut _ _ n2 (e2.extBut _ _ n3 (e1.extBut _ _ n1 eq))))) ⟨oe, e5.extBut _ _ nez hoe, hce⟩
theorem nextZ_item {g1 g2 : Bool} {zp ti to j1 j2 m1 m2 : Addr} {k1 k2 : Nat} {xs ys : Array Value} {x y p q : Value} {Q : Option Value → Shared → Prop} (ap : ZipApart zp ti to j1 j2 m1 m2)
    (z0 : IsZip s.heap zp ti to .none) (t0 : IsPair s.heap ti (.ref j1) (.ref j2)) (u0 : IsPair s.heap to p q)
    (a1 : ItB g1 s.heap j1 m1 k1) (a2 : ItB g2 s.heap j2 m2 k2) (b1 : SqB g1 s.heap m1 xs) (b2 : SqB g2 s.heap m2 ys) (hx : xs[k1]? = some x) (hy : ys[k2]? = some y)
    (post : ∀ h', IsZip h' zp ti to (rawInt s.heap.objs.size) → IsPair h' to x y → ItB g1 h' j1 m1 (k1 + 1) → ItB g2 h' j2 m2 (k2 + 1) → IsPair h' s.heap.objs.size x y → h'.objs.size = s.heap.objs.size + 1 →
      (∀ c o, c ≠ zp → c ≠ to → c ≠ j1 → c ≠ j2 → s.heap.get? c = some o → h'.get? c = some o) → Q (some (.ref s.heap.objs.size)) { s with heap := h' }) :
    wpAny (model prog w) A (pyNext (.ref zp)) Q E s := by
  have ty : s.TypeIs (.ref zp) "zip" := ⟨_, z0, rfl⟩
  unfold pyNext
  refine wpAny_bind (wpAny_attempt (wpAny_callSpecial?_slot (name := Str.ofString "__next__") ty F.slot_zip_next (wpAny_call_entry F.slot_zip_next ty F.entry_zip_next ?_ (F.args_zip_next_1 _))))
  exact zipB_item ap z0 t0 u0 a1 a2 b1 b2 hx hy fun h' r1 r2 r3 r4 r5 r6 r7 => wpAny_pure (post h' r1 r2 r3 r4 r5 r6 r7)
theorem nextZ_end {g1 g2 : Bool} {zp ti to j1 j2 m1 m2 : Addr} {k1 k2 : Nat} {xs ys : Array Value} {p q : Value} {Q : Option Value → Shared → Prop} (hh : A.handled = none) (ap : ZipApart zp ti to j1 j2 m1 m2)
    (z0 : IsZip s.heap zp ti to .none) (t0 : IsPair s.heap ti (.ref j1) (.ref j2)) (u0 : IsPair s.heap to p q)
    (a1 : ItB g1 s.heap j1 m1 k1) (a2 : ItB g2 s.heap j2 m2 k2) (b1 : SqB g1 s.heap m1 xs) (b2 : SqB g2 s.heap m2 ys) (fin : xs[k1]? = none ∨ ys[k2]? = none)
    (post : ∀ h', (∀ c o, c ≠ zp → c ≠ to → c ≠ j1 → c ≠ j2 → s.heap.get? c = some o → h'.get? c = some o) → Q none { s with heap := h' }) : wpAny (model prog w) A (pyNext (.ref zp)) Q E s := by
  have ty : s.TypeIs (.ref zp) "zip" := ⟨_, z0, rfl⟩
  unfold pyNext
  refine wpAny_bind (wpAny_attempt (wpAny_callSpecial?_slot (name := Str.ofString "__next__") ty F.slot_zip_next (wpAny_call_entry F.slot_zip_next ty F.entry_zip_next ?_ (F.args_zip_next_1 _))))
  refine zipB_end hh ap z0 t0 u0 a1 a2 b1 b2 fin fun h' e kept he => ?_
  obtain ⟨o, ho, hc⟩ := he
  exact wpAny_bind (wpAny_isInstance (T := "StopIteration") (b := true) ⟨o, ho, hc⟩ isSubtype_stop (wpAny_pure (post _ kept)))
end
def itName (g : Bool) : String := if g = true then "list_iterator" else "tuple_iterator"
abbrev zH1 (g1 : Bool) (h : Heap) (m1 : Addr) : Heap := h.push { cls := .type (itName g1), data := .fields #[.ref m1, .int 0 0] }
abbrev zH2 (g1 g2 : Bool) (h : Heap) (m1 m2 : Addr) : Heap := (zH1 g1 h m1).push { cls := .type (itName g2), data := .fields #[.ref m2, .int 0 0] }
abbrev zH3 (g1 g2 : Bool) (h : Heap) (m1 m2 : Addr) : Heap := (zH2 g1 g2 h m1 m2).push { cls := .type "tuple", data := .seq #[.ref h.objs.size, .ref (zH1 g1 h m1).objs.size] }
abbrev zH4 (g1 g2 : Bool) (h : Heap) (m1 m2 : Addr) : Heap := (zH3 g1 g2 h m1 m2).push { cls := .type "tuple", data := .seq #[.none, .none] }
abbrev zH5 (g1 g2 : Bool) (h : Heap) (m1 m2 : Addr) : Heap := (zH4 g1 g2 h m1 m2).push { cls := .type "zip", data := .fields #[.none, .bool false, .bool false, .ref (zH2 g1 g2 h m1 m2).objs.size, .ref (zH3 g1 g2 h m1 m2).objs.size] }
theorem zipNew_lt (m1 m2 : Addr) (xs ys : Array Value) :
    Meets (Builtin.«zip.__new__» ⟨[.type "zip", .ref m1, .ref m2], []⟩) (fun _ R s => s.heap.IsList m1 xs ∧ s.heap.IsTuple m2 ys ∧ R (.ok (.ret (.ref (zH4 true false s.heap m1 m2).objs.size))) { s with heap := zH5 true false s.heap m1 m2 }) :=
  .of_wp fun prog w A R s h => by
    obtain ⟨hp, g, d, tk, os⟩ := s; obtain ⟨hl1, hl2, h⟩ := h
    have hsub := sub_zip
    have q1 : Heap.IsList (Shared.heap ⟨hp, g, d, tk, os⟩) m1 xs := hl1
    have q2 : Heap.IsTuple (Shared.heap ⟨hp.push { cls := .type "list_iterator", data := .fields #[.ref m1, .int 0 0] }, g, d, tk, os⟩) m2 ys := Heap.IsTuple.push hl2 _
    wp_walk using wpAny_pyIter_list q1, wpAny_pyIter_tuple q2
    exact ⟨_, rfl, h⟩
theorem zipNew_tl (m1 m2 : Addr) (xs ys : Array Value) :
    Meets (Builtin.«zip.__new__» ⟨[.type "zip", .ref m1, .ref m2], []⟩) (fun _ R s => s.heap.IsTuple m1 xs ∧ s.heap.IsList m2 ys ∧ R (.ok (.ret (.ref (zH4 false true s.heap m1 m2).objs.size))) { s with heap := zH5 false true s.heap m1 m2 }) :=
  .of_wp fun prog w A R s h => by
    obtain ⟨hp, g, d, tk, os⟩ := s; obtain ⟨hl1, hl2, h⟩ := h
    have hsub := sub_zip
    have q1 : Heap.IsTuple (Shared.heap ⟨hp, g, d, tk, os⟩) m1 xs := hl1
    have q2 : Heap.IsList (Shared.heap ⟨hp.push { cls := .type "tuple_iterator", data := .fields #[.ref m1, .int 0 0] }, g, d, tk, os⟩) m2 ys := Heap.IsList.push hl2 _
    wp_walk using wpAny_pyIter_tuple q1, wpAny_pyIter_list q2
    exact ⟨_, rfl, h⟩
section
variable {prog : Program} {w : World} {A : Around} {E : Value → Shared → Prop} {s : Shared}
theorem callZ {g1 g2 : Bool} {m1 m2 : Addr} {xs ys : Array Value} {Q : Value → Shared → Prop} (b1 : SqB g1 s.heap m1 xs) (b2 : SqB g2 s.heap m2 ys)
    (post : ∀ h', IsZip h' (s.heap.objs.size + 4) (s.heap.objs.size + 2) (s.heap.objs.size + 3) .none → IsPair h' (s.heap.objs.size + 2) (.ref s.heap.objs.size) (.ref (s.heap.objs.size + 1)) →
      IsPair h' (s.heap.objs.size + 3) .none .none → ItB g1 h' s.heap.objs.size m1 0 → ItB g2 h' (s.heap.objs.size + 1) m2 0 →
      (∀ c o, s.heap.get? c = some o → h'.get? c = some o) → Q (.ref (s.heap.objs.size + 4)) { s with heap := h' }) :
    wpAny (model prog w) A (call (.type "zip") [.ref m1, .ref m2]) Q E s := by
  have fin : Q (.ref (zH4 g1 g2 s.heap m1 m2).objs.size) { s with heap := zH5 g1 g2 s.heap m1 m2 } ∧ (zH5 g1 g2 s.heap m1 m2).get? (zH4 g1 g2 s.heap m1 m2).objs.size = some { cls := .type "zip", data := .fields #[.none, .bool false, .bool false, .ref (zH2 g1 g2 s.heap m1 m2).objs.size, .ref (zH3 g1 g2 s.heap m1 m2).objs.size] } := by
    have n1 : (zH1 g1 s.heap m1).objs.size = s.heap.objs.size + 1 := Heap.size_push ..
    have n2 : (zH2 g1 g2 s.heap m1 m2).objs.size = s.heap.objs.size + 2 := by rw [Heap.size_push, n1]
    have n3 : (zH3 g1 g2 s.heap m1 m2).objs.size = s.heap.objs.size + 3 := by rw [Heap.size_push, n2]
    have n4 : (zH4 g1 g2 s.heap m1 m2).objs.size = s.heap.objs.size + 4 := by rw [Heap.size_push, n3]
    have o5 : (zH5 g1 g2 s.heap m1 m2).get? (zH4 g1 g2 s.heap m1 m2).objs.size = some _ := Heap.get?_push_size _ rfl
    have o4 : (zH5 g1 g2 s.heap m1 m2).get? (zH3 g1 g2 s.heap m1 m2).objs.size = some _ := Heap.get?_push_of_some _ (Heap.get?_push_size _ rfl)
    have o3 : (zH5 g1 g2 s.heap m1 m2).get? (zH2 g1 g2 s.heap m1 m2).objs.size = some _ := Heap.get?_push_of_some _ (Heap.get?_push_of_some _ (Heap.get?_push_size _ rfl))
    have o2 : (zH5 g1 g2 s.heap m1 m2).get? (zH1 g1 s.heap m1).objs.size = some { cls := .type (itName g2), data := .fields #[.ref m2, .int 0 0] } := Heap.get?_push_of_some _ (Heap.get?_push_of_some _ (Heap.get?_push_of_some _ (Heap.get?_push_size _ rfl)))
    have o1 : (zH5 g1 g2 s.heap m1 m2).get? s.heap.objs.size = some { cls := .type (itName g1), data := .fields #[.ref m1, .int 0 0] } := Heap.get?_push_of_some _ (Heap.get?_push_of_some _ (Heap.get?_push_of_some _ (Heap.get?_push_of_some _ (Heap.get?_push_size _ rfl))))
    refine ⟨?_, o5⟩
    rw [n2, n3, n4] at o5
    rw [n1, n2] at o3
    rw [n3] at o4
    rw [n1] at o2
    rw [n4]
    refine post _ o5 o3 o4 ?_ ?_ fun c o eq => Heap.get?_push_of_some _ (Heap.get?_push_of_some _ (Heap.get?_push_of_some _ (Heap.get?_push_of_some _ (Heap.get?_push_of_some _ eq))))
    · cases g1
      · exact ⟨_, o1, rfl, rfl⟩
      · exact ⟨_, o1, rfl, rfl⟩
    · cases g2
      · exact ⟨_, o2, rfl, rfl⟩
      · exact ⟨_, o2, rfl, rfl⟩
  cases g1 <;> cases g2
  · exact RZ.call_zipT b1 b2 fun h' r1 r2 r3 r4 r5 _ r6 => post h' r1 r2 r3 r4 r5 r6
  · exact callType_new F.called_zip (by decide) (F.typeCall_zip_2 _ _) (F.newCall_zip_2 _ _) (fun obj => F.args_object_init_3 obj _ _) F.entry_zip_new (zipNew_tl m1 m2 xs ys) ⟨b1, b2, ⟨⟨_, fin.2, rfl⟩, fin.1⟩⟩
  · exact callType_new F.called_zip (by decide) (F.typeCall_zip_2 _ _) (F.newCall_zip_2 _ _) (fun obj => F.args_object_init_3 obj _ _) F.entry_zip_new (zipNew_lt m1 m2 xs ys) ⟨b1, b2, ⟨⟨_, fin.2, rfl⟩, fin.1⟩⟩
  · exact call_zip_2 b1 b2 fun h' r1 r2 r3 r4 r5 _ r6 => post h' r1 r2 r3 r4 r5 r6
end
end Eng

/-! A walk over zip(a, b), each a list or a tuple. -/
namespace Eng
open PySem PySem.Spec PyProof.Rows L2
def SqG (g : Bool) (K : PySem.W.Frag) (H : Hp) (a : Addr) (xs : List V) : Prop := if g = true then SqL K H a xs else SqT K H a xs
theorem SqG.inj {X : Cx} {pins : List (Addr × Obj)} {σ : L2.St} {H : Hp} {s : Shared} (I : Inv X pins σ H s) {g : Bool} {a : Addr} {xs ys : List V} (p : SqG g X.K H a xs) (q : SqG g X.K H a ys) : xs = ys := by
  cases g
  · exact I.tuple_inj p q
  · exact I.list_inj p q
theorem SqG.here {X : Cx} {pins : List (Addr × Obj)} {σ : L2.St} {H : Hp} {s : Shared} (I : Inv X pins σ H s) {g : Bool} {a : Addr} {xs : List V} (p : SqG g X.K H a xs) : ∃ its : List Value, Vals xs its ∧ SqB g s.heap a its.toArray := by
  cases g
  · obtain ⟨its, rv, q, _⟩ := I.tuple p
    exact ⟨its, rv, q⟩
  · obtain ⟨its, rv, q, _⟩ := I.list p
    exact ⟨its, rv, q.isList⟩
theorem SqB.lt {g : Bool} {h : Heap} {a : Addr} {xs : Array Value} (q : SqB g h a xs) : a < h.objs.size := by
  cases g
  · obtain ⟨o, e, _⟩ := (show h.IsTuple a xs from q)
    exact Heap.lt_size e
  · obtain ⟨o, e, _⟩ := (show h.IsList a xs from q)
    exact Heap.lt_size e
def ItZ (g1 g2 : Bool) (K : PySem.W.Frag) (a b : Addr) : L2.It :=
  ⟨fun i H => ∃ (xs ys : List V) (x y : V), SqG g1 K H a xs ∧ SqG g2 K H b ys ∧ xs[i]? = some x ∧ ys[i]? = some y,
    fun i H v H' => ∃ t x y, v = .ref t ∧ H t = none ∧ H' = upd H t (.tup [x, y]) ∧ (∀ xs, SqG g1 K H a xs → xs[i]? = some x) ∧ ∀ ys, SqG g2 K H b ys → ys[i]? = some y,
    fun i H => ∃ xs ys : List V, SqG g1 K H a xs ∧ SqG g2 K H b ys ∧ (xs.length ≤ i ∨ ys.length ≤ i)⟩
theorem five {c zp ti to j1 j2 : Addr} (h : c ∈ [zp, ti, to, j1, j2]) : c = zp ∨ c = ti ∨ c = to ∨ c = j1 ∨ c = j2 := by simpa using h
theorem turnZ {P : Program} {w : World} {K : PySem.W.Frag} {elts : List Expr} {kk : Nat} {tpos : Pos} {g1 g2 : Bool} {a b zp ti to j1 j2 : Addr} (ap : ZipApart zp ti to j1 j2 a b) :
    Turn P w K (.Tuple elts kk tpos) (ItZ g1 g2 K a b) [zp, ti, to, j1, j2] zp (fun i h => IsZip h zp ti to .none ∧ IsPair h ti (.ref j1) (.ref j2) ∧ (∃ x y, IsPair h to x y) ∧ ItB g1 h j1 a i ∧ ItB g2 h j2 b i) where
  mem := List.mem_cons_self
  obj := fun i h st c hc => by
    obtain ⟨z0, t0, ⟨x, y, u0⟩, a1, a2⟩ := st
    rcases five hc with q | q | q | q | q <;> subst q
    · exact ⟨_, z0, fun v q => nomatch q⟩
    · exact ⟨_, t0, fun v q => nomatch q⟩
    · exact ⟨_, u0, fun v q => nomatch q⟩
    · exact a1.obj
    · exact a2.obj
  keep := fun i h h' st k => by
    obtain ⟨z0, t0, ⟨x, y, u0⟩, a1, a2⟩ := st
    refine ⟨k zp ?_ _ z0, k ti ?_ _ t0, ⟨x, y, k to ?_ _ u0⟩, a1.to fun o q => k j1 ?_ o q, a2.to fun o q => k j2 ?_ o q⟩ <;> simp
  item := by
    intro X hP hw hK hc i pins s σ H E I hf st hg
    subst hP hw hK
    obtain ⟨z0, t0, ⟨x0, y0, u0⟩, a1, a2⟩ := st
    obtain ⟨xs, ys, x, y, hqx, hqy, hx, hy⟩ := hg
    obtain ⟨its, rv, b1⟩ := hqx.here I
    obtain ⟨its2, rv2, b2⟩ := hqy.here I
    obtain ⟨v1, hv1, rel1⟩ := rv.get hx
    obtain ⟨v2, hv2, rel2⟩ := rv2.get hy
    have ltz : zp < s.heap.objs.size := Heap.lt_size z0
    refine nextZ_item ap z0 t0 u0 a1 a2 b1 b2 (x := v1) (y := v2) (by simpa using hv1) (by simpa using hv2) fun f1 z1 u1 c1 c2 pr hsz kept => ?_
    refine ⟨_, rfl, wpAny_letOwnedTupleGo_zip (s := { s with heap := f1 }) z1 fun f2 z2 sb => ?_⟩
    have pr2 : f2.get? s.heap.objs.size = some { cls := .type "tuple", data := .seq #[v1, v2] } := (sb.2 _ (Nat.ne_of_gt ltz)).trans pr
    have new : ObjOk X.prog X.w (upd H s.heap.objs.size (.tup [x, y])) f2 s.heap.objs.size (.tup [x, y]) := ⟨by show 2 ≤ sizeLine; decide, [v1, v2], .cons rel1 (.cons rel2 .nil), ⟨_, pr2, rfl, _, rfl⟩⟩
    have I1 : Inv X pins σ (upd H s.heap.objs.size (.tup [x, y])) { s with heap := f2 } := by
      refine I.turnedNew (t' := s.toks) (ch := [zp, ti, to, j1, j2]) (fun c o hb q => ?_) hf (Nat.le_refl _) new
      refine (sb.2 c (fun e => hb (by simp [e]))).trans (kept c o ?_ ?_ ?_ ?_ q) <;> exact fun e => hb (by simp [e])
    refine ⟨.ref s.heap.objs.size, _, I1, rfl, ⟨_, x, y, rfl, I.hok.fresh (Nat.le_refl _), rfl, fun l hl => by rw [hl.inj I hqx]; exact hx, fun l hl => by rw [hl.inj I hqy]; exact hy⟩, ⟨z2, ?_, ⟨v1, v2, ?_⟩, ?_, ?_⟩, fun c hcm => ?_⟩
    · exact (sb.2 _ ap.TIz).trans (kept _ _ ap.TIz ap.TITO ap.TIi1 ap.TIi2 t0)
    · exact (sb.2 _ ap.TOz).trans u1
    · exact c1.to fun o q => (sb.2 _ ap.i1z).trans q
    · exact c2.to fun o q => (sb.2 _ ap.i2z).trans q
    · have lt : c < s.heap.objs.size := by
        rcases five hcm with q | q | q | q | q <;> subst q
        · exact ltz
        · exact Heap.lt_size t0
        · exact Heap.lt_size u0
        · obtain ⟨o, e, _⟩ := a1.obj; exact Heap.lt_size e
        · obtain ⟨o, e, _⟩ := a2.obj; exact Heap.lt_size e
      rw [upd_ne (Nat.ne_of_lt lt)]
      exact (hf c hcm).1
  done := by
    intro X hP hw hK hc i pins s σ H E I hf st hg
    subst hP hw hK
    obtain ⟨z0, t0, ⟨x0, y0, u0⟩, a1, a2⟩ := st
    obtain ⟨xs, ys, hqx, hqy, hend⟩ := hg
    obtain ⟨its, rv, b1⟩ := hqx.here I
    obtain ⟨its2, rv2, b2⟩ := hqy.here I
    have len1 := rv.length
    have len2 := rv2.length
    have fin : its.toArray[i]? = none ∨ its2.toArray[i]? = none := by
      rcases hend with q | q
      · left; simp; omega
      · right; simp; omega
    refine nextZ_end (I.ok.hd hc) ap z0 t0 u0 a1 a2 b1 b2 fin fun f1 kept => ⟨rfl, I.turnedL (t' := s.toks) (ch := [zp, ti, to, j1, j2]) (fun c o hb q => kept c o ?_ ?_ ?_ ?_ q) hf⟩ <;> exact fun e => hb (by simp [e])
  self := fun A i s Q E st h => wpAny_pyIter_zip st.1 h
def iZipG (K : PySem.W.Frag) (ta : TA) : TI := fun σ H R => ta σ H fun vs H1 => ∃ g1 g2 a b xs ys, vs = [.ref a, .ref b] ∧ SqG g1 K H1 a xs ∧ SqG g2 K H1 b ys ∧ R (ItZ g1 g2 K a b) H1
theorem pi_zipG {X : Cx} {e e2 : Expr} {ta : TA} {p pos tpos : Pos} {elts : List Expr} {kk : Nat} (hgl : Gl X "zip") (hmg : X.mg "zip" = none) (hpa : PA X [e, e2] ta)
    (hst : starEach [e, e2] X.env = (false, eval e X.env) :: starEach [e2] X.env) (hpl : (backTo pos (starEach [e2] X.env)).any (·.1) = false) :
    PI X (.Tuple elts kk tpos) (.Call (.Name "zip" p) [e, e2] [] pos) (iZipG X.K ta) := by
  refine ⟨fun pins s σ H R I h => ?_⟩
  refine Call_ (ld_blt I hgl hmg PyProof.Rows.boot_zip (PyProof.Rows.callWith_type1 (thn (hpa.run pos pins s σ H _ I h) fun us s1 ⟨vs, H1, I1, r1, q1⟩ => ?_) hst hpl))
  obtain ⟨g1, g2, a, b, xs, ys, ex, q1, q2, q⟩ := q1
  subst ex
  cases r1 with
  | cons r rr =>
   cases rr with
   | cons r' rr =>
    cases rr
    cases r
    cases r'
    have fresh : ∀ c, c ∈ [s1.heap.objs.size + 4, s1.heap.objs.size + 2, s1.heap.objs.size + 3, s1.heap.objs.size, s1.heap.objs.size + 1] → FpOk X pins H1 c := fun c hcm => by
      have le : s1.heap.objs.size ≤ c := by
        rcases five hcm with z | z | z | z | z <;> rw [z] <;> first | exact Nat.le_add_right _ _ | exact Nat.le_refl _
      exact I1.fpOk le (I1.hok.fresh le)
    obtain ⟨its, rv, b1⟩ := q1.here I1
    obtain ⟨its2, rv2, b2⟩ := q2.here I1
    refine callZ b1 b2 fun f1 z1 t1 u1 c1 c2 kept => wpAny_pyIter_zip z1 ?_
    have I2 : Inv X pins σ H1 { s1 with heap := f1 } := I1.kept (t' := s1.toks) kept
    exact ⟨s1.heap.objs.size + 4, [s1.heap.objs.size + 4, s1.heap.objs.size + 2, s1.heap.objs.size + 3, s1.heap.objs.size, s1.heap.objs.size + 1], _, _, H1, rfl, I2, turnZ (PySem.W.ktu_apart s1.heap.objs.size a b b1.lt b2.lt), ⟨z1, t1, ⟨_, _, u1⟩, c1, c2⟩, fresh, q⟩
end Eng

/-! set([..]) of ints: the kit has it for tuples. -/
namespace Eng
open PySem PySem.Spec PyProof.Rows L2
abbrev fset (w : World) : Obj := { cls := .type "set", dict := none, data := .set #[] 0 (.fresh 0 0 (!w.params.followText "set-order")) }
section
variable {P : Program} {w : World} {A : Around} {E : Value → Shared → Prop} {s : Shared}
theorem callSetL {l : Addr} {items : Array Value} (ns : List Int) {Q : Value → Shared → Prop} (hh : A.handled = none) (hli0 : s.heap.IsList l items) (hints : IntsAre items.toList ns) (hbnd : ns.length + 1 < scanBound)
    (post : ∀ (h' : Heap) (tk c : Nat), SetR w h' s.heap.objs.size (fun j => decide (j ∈ ns)) c → c ≤ ns.length → (∀ b o, s.heap.get? b = some o → h'.get? b = some o) → Q (.ref s.heap.objs.size) { s with heap := h', toks := tk }) :
    wpAny (model P w) A (call (.type "set") [.ref l]) Q E s := by
  have hcount : items.size = ns.length := by
    have z := IntsAre.length hints
    rwa [Array.length_toList] at z
  obtain ⟨c0, tl0, hmro⟩ := F.called_set.mro
  have hmade := F.called_set.made
  have hsub := F.called_set.sub
  refine wpAny_call (codeAny_of_tree ?_)
  show wpAny _ _ (callAny (.type "set") _) _ _ _
  refine wpAny_pure ⟨Code.quiet_builtin _ (by decide +kernel), codeAny_builtin F.entry_type_call ?_⟩
  rw [Around.under_plain (weight_type_call_type "set" [.ref l] []) rfl]
  have h1 := F.called_set.notType
  have h2 := F.called_set.canCreate
  have hct := F.typeCall_set_1 (.ref l)
  repeat (any_goals (first | assumption | wp_step))
  refine codeAny_mono (code_set_led1 (.ref l) (E := E) (Q₁ := fun obj s1 => obj = .ref s.heap.objs.size ∧ s1 = { s with heap := s.heap.push (fset w) }) ⟨rfl, rfl⟩) fun out s1 hout => ?_
  match out, hout with
  | .error e, hout => exact hout
  | .ok .next, hout => exact hout.elim
  | .ok .brk, hout => exact hout.elim
  | .ok .cont, hout => exact hout.elim
  | .ok (.ret obj), hout =>
    obtain ⟨rfl, rfl⟩ := hout
    have gS : (s.heap.push (fset w)).get? s.heap.objs.size = some (fset w) := Heap.get?_push_size _ rfl
    have tyS : Shared.TypeIs { s with heap := s.heap.push (fset w) } (.ref s.heap.objs.size) "set" := ⟨_, gS, rfl⟩
    have hli := F.called_set.init.lookup
    have hbi := F.called_set.init.bind (.ref s.heap.objs.size)
    repeat (any_goals (first | assumption | wp_step))
    refine codeAny_mono (codeAny_call_builtin (R := wants (fun r s2 => r = .none ∧ ∃ h' tk c, s2 = { s with heap := h', toks := tk } ∧ SetR w h' s.heap.objs.size (fun j => decide (j ∈ ns)) c ∧ c ≤ ns.length ∧ (∀ b o, s.heap.get? b = some o → h'.get? b = some o)) E) F.called_set.init.plain F.entry_set_init (check_set_init_1 tyS ?_)) fun out2 s2 hout2 => ?_
    · obtain ⟨ol, gl, ecl, nl, edl⟩ := hli0
      obtain ⟨ocls, odict, odata, oslots⟩ := ol
      simp only at ecl edl
      subst ecl
      subst edl
      have gl' : (s.heap.push (fset w)).get? l = some { cls := .type "list", dict := odict, data := .seq items nl, slots := oslots } := Heap.get?_push_of_some _ gl
      have hsls := F.sub_list_set
      have hslf := F.sub_list_frozenset
      have hne : (Value.type "list" == Value.type "dict") = false := by decide
      have il : (s.heap.push (fset w)).IsList l items := ⟨_, gl', rfl, nl, rfl⟩
      unfold Builtin.«set.__init__» noKeywords Builtin.Frozenset.updateFrom
      generalize hPI : pyIter = PI
      wp_walk
      subst hPI
      refine wpAny_pyIter_list il ?_
      refine wpAny_bind (wpAny_runValue ?_)
      have ltl : l < s.heap.objs.size := Heap.lt_size gl
      have hh3 : A.in1.in1.in1.handled = none := by simp [hh]
      have sz1 : (s.heap.push (fset w)).objs.size = s.heap.objs.size + 1 := Heap.size_push ..
      have neI : l ≠ (s.heap.push (fset w)).objs.size := by
        rw [sz1]
        exact Nat.ne_of_lt (Nat.lt_succ_of_lt ltl)
      have out_fp : s.heap.objs.size ∉ [(s.heap.push (fset w)).objs.size, l] := by
        rw [sz1]
        simp only [List.mem_cons, List.mem_singleton, List.not_mem_nil, or_false, not_or]
        exact ⟨Nat.ne_of_lt (Nat.lt_succ_self _), Nat.ne_of_gt ltl⟩
      have vals : ∀ (i : Nat) (v : Value), items[i]? = some v → ∃ k t, ns[i]? = some k ∧ v = .int k t := fun i v hv => by
        have hi : i < ns.length := by rw [← hcount]; exact (Array.getElem?_eq_some_iff.mp hv).1
        obtain ⟨t, e⟩ := PyProof.Rows.IntsAre.int_at hints i v (by rw [Array.getElem?_toList]; exact hv)
        refine ⟨ns[i], t, List.getElem?_eq_getElem hi, ?_⟩
        rw [e, List.getD_eq_getElem?_getD, List.getElem?_eq_getElem hi] <;> rfl
      refine set_update_ints ((Walks.list hh3 _ l neI items).toS) s.heap.objs.size out_fp ns hcount hbnd vals (items.size - 0) 0 _ (by omega) (Nat.zero_le _) ⟨⟨_, Heap.get?_push_size _ rfl, rfl, rfl⟩, (il.push _)⟩ ?start ?fin
      case start => exact ⟨0, Nat.le_refl 0, setR_new_at (Heap.get?_push_of_some _ gS)⟩
      case fin =>
        intro s3 c3 hm le3 set3
        obtain ⟨h', g2, d2, tk2, os2⟩ := s3
        obtain rfl : g2 = s.gens := hm.gens
        obtain rfl : d2 = s.drawn := hm.drawn
        obtain rfl : os2 = s.os := hm.os
        show wpAny _ _ _ _ _ _
        refine wpAny_pure ?_
        show wpAny _ _ (ret Value.none) _ _ _
        rw [hcount] at le3
        refine wpAny_pure ⟨rfl, h', tk2, c3, rfl, set3, le3, fun b o e => ?_⟩
        have lt0 : b < s.heap.objs.size := Heap.lt_size e
        refine hm.heap b o ?_ (Heap.get?_push_of_some _ (Heap.get?_push_of_some _ e))
        rw [sz1]
        simp only [List.mem_cons, List.mem_singleton, List.not_mem_nil, or_false, not_or]
        exact ⟨Nat.ne_of_lt lt0, Nat.ne_of_lt (Nat.lt_succ_of_lt lt0)⟩
    · match out2, hout2 with
      | .error e, hout2 => exact hout2
      | .ok .next, hout2 => exact hout2.elim
      | .ok .brk, hout2 => exact hout2.elim
      | .ok .cont, hout2 => exact hout2.elim
      | .ok (.ret r), hout2 =>
        obtain ⟨rfl, h', tk, c3, rfl, set3, le3, kept⟩ := hout2
        repeat (any_goals (first | assumption | wp_step))
        exact post _ _ _ set3 le3 kept
end
/-- set(e) of a list of ints -/
def rSetI (K : PySem.W.Frag) (w : World) : List V → Hp → VK → Prop := fun xs H Q => ∃ (l : Addr) (ns : List Int), xs = [.ref l] ∧ SqL K H l (ns.map V.int) ∧ ns.length < 64 ∧
  ∀ p c, H p = none → c ≤ ns.length → Q (.ref p) (upd H p (SetO w p (fun j => decide (j ∈ ns)) c))
theorem cr_setI {X : Cx} (hc : X.calm = true) : CallR X (.type "set") (rSetI X.K X.w) := by
  intro pins s σ H xs us Q I r h
  obtain ⟨l, ns, rfl, hq, hl, q⟩ := h
  cases r with
  | cons r rr =>
    cases rr
    cases r
    obtain ⟨its, rv, pl, hz⟩ := I.list hq
    refine callSetL ns (I.ok.hd hc) pl.isList (by simpa using RZ.intsAre_vals rv) (by unfold scanBound; omega) fun h' tk c hS hcl hk => ?_
    exact ⟨.ref _, upd H s.heap.objs.size (SetO X.w s.heap.objs.size (fun j => decide (j ∈ ns)) c), I.laid (t' := tk) hk (Nat.le_refl _) (setO_new hS), rfl, q _ c (I.hok.fresh (Nat.le_refl _)) hcl⟩
end Eng

/-! enumerate(t) of a tuple. -/
namespace Eng
open PySem PySem.Spec PyProof.Rows L2
open PySem.AutoSeq1 (wpAny_loadPart')
abbrev tupIt (l : Addr) : Obj := { cls := .type "tuple_iterator", data := .fields #[.ref l, .int 0 0] }
abbrev enumOb (i : Addr) : Obj := { cls := .type "enumerate", data := .fields #[.none, .bool false, .ref i, rawInt 0, .none, .none] }
theorem enumNewT (l : Addr) (items : Array Value) (n : Nat) (dct : Option Addr) (sl : Array (Option Value)) :
    Meets (Builtin.«enumerate.__new__» ⟨[.type "enumerate", .ref l], []⟩) (fun _ R s => s.heap.get? l = some { cls := .type "tuple", dict := dct, data := .seq items n, slots := sl } ∧
      R (.ok (.ret (.ref (s.heap.push (tupIt l)).objs.size))) { s with heap := (s.heap.push (tupIt l)).push (enumOb s.heap.objs.size) }) :=
  .of_wp fun prog w A R s h => by
    obtain ⟨hp, g, d, tk, os⟩ := s; obtain ⟨hl, h⟩ := h
    have hsub := sub_enumerate
    have q : Heap.IsTuple (Shared.heap ⟨hp, g, d, tk, os⟩) l items := ⟨_, hl, rfl, n, rfl⟩
    wp_walk using wpAny_loadPart' hl
    refine wpAny_stack_any fun st => wpAny_pure ?_
    split
    · rename_i c _ _ _ _ _
      cases (c == Value.type "enumerate")
      · wp_walk using wpAny_loadPart' hl, wpAny_pyIter_tuple q
        exact ⟨_, rfl, h⟩
      · wp_walk using wpAny_loadPart' hl, wpAny_pyIter_tuple q
        exact ⟨_, rfl, h⟩
    · wp_walk using wpAny_loadPart' hl, wpAny_pyIter_tuple q
      exact ⟨_, rfl, h⟩
section
variable {prog : Program} {w : World} {A : Around} {E : Value → Shared → Prop} {s : Shared}
theorem callEnumT {l : Addr} {items : Array Value} {Q : Value → Shared → Prop} (hT : s.heap.IsTuple l items)
    (post : ∀ h', IsEnum h' (s.heap.objs.size + 1) s.heap.objs.size 0 .none → h'.IsTupleIter s.heap.objs.size l 0 → (∀ b o, s.heap.get? b = some o → h'.get? b = some o) → Q (.ref (s.heap.objs.size + 1)) { s with heap := h' }) :
    wpAny (model prog w) A (call (.type "enumerate") [.ref l]) Q E s := by
  obtain ⟨⟨c, dct, dt, sl⟩, gl, ec, n, ed⟩ := hT
  obtain rfl : c = .type "tuple" := ec
  obtain rfl : dt = .seq items n := ed
  refine callType_new F.called_enumerate (by decide) (F.typeCall_enumerate_1 _) (F.newCall_enumerate_1 _) (fun obj => F.args_object_init_2 obj _) F.entry_enumerate_new (enumNewT l items n dct sl) ⟨gl, ?_⟩
  have sz : (s.heap.push (tupIt l)).objs.size = s.heap.objs.size + 1 := Heap.size_push ..
  have ge : ((s.heap.push (tupIt l)).push (enumOb s.heap.objs.size)).get? (s.heap.push (tupIt l)).objs.size = some (enumOb s.heap.objs.size) := Heap.get?_push_size _ rfl
  show _ ∧ _
  rw [sz] at ge ⊢
  exact ⟨⟨_, ge, rfl⟩, post _ ge ⟨_, Heap.get?_push_of_some _ (Heap.get?_push_size _ rfl), rfl, rfl⟩ fun b o x => Heap.get?_push_of_some _ (Heap.get?_push_of_some _ x)⟩
end
theorem drawsT {prog : Program} {w : World} {A : Around} (hh : A.handled = none) (it l : Addr) (hne : l ≠ it) (items : Array Value) :
    Draws prog w A it [it, l] items.size (fun i v => items[i]? = some v) (fun i h => h.IsTupleIter it l i ∧ h.IsTuple l items) where
  live := fun _ _ st => by obtain ⟨o, ho, _⟩ := st.1; exact ⟨o, ho⟩
  frame := fun _ _ _ st hk => ⟨st.1.at fun o e => hk it (by simp) o e, by
    obtain ⟨o, ho, r⟩ := st.2
    exact ⟨o, hk l (by simp) o ho, r⟩⟩
  item := fun i s Q E hi st hQ => by
    refine RZ.nextOf_tuple_item st.1 st.2 (x := items[i]) (by simp [hi]) fun h' hit' hs' => ?_
    exact hQ _ h' s.toks (by simp [hi]) ⟨hit', st.2.extBut hs'.extBut hne⟩ hs'
  done := fun s Q E st hE => RZ.nextOf_tuple_end hh st.1 st.2 (by simp) hE
def ItE (K : PySem.W.Frag) (a : Addr) : L2.It :=
  ⟨fun i H => ∃ (xs : List V) (x : V), SqT K H a xs ∧ xs[i]? = some x, fun i H v H' => ∃ t x, v = .ref t ∧ H t = none ∧ H' = upd H t (.tup [.int (i : Nat), x]) ∧ ∀ xs, SqT K H a xs → xs[i]? = some x, fun i H => ∃ xs : List V, SqT K H a xs ∧ xs.length = i⟩
theorem turnE {P : Program} {w : World} {K : PySem.W.Frag} {elts : List Expr} {kk : Nat} {tpos : Pos} (a e it : Addr) (hea : e ≠ a) (hai : a ≠ it) :
    Turn P w K (.Tuple elts kk tpos) (ItE K a) [e, it] e (fun i h => (∃ old, IsEnum h e it ((i : Nat) : Int) old) ∧ h.IsTupleIter it a i ∧ e ≠ it) where
  mem := List.mem_cons_self
  obj := fun i h st b hb => by
    obtain ⟨⟨old, he⟩, ⟨o, ho, hc, hd⟩, _⟩ := st
    rcases (by simpa using hb : b = e ∨ b = it) with z | z <;> subst z
    · exact ⟨_, he, fun v q => nomatch q⟩
    · exact ⟨o, ho, fun v q => by rw [hd] at q; cases q⟩
  keep := fun i h h' st k => by
    obtain ⟨⟨old, he⟩, hi, hne⟩ := st
    exact ⟨⟨old, k e (by simp) _ he⟩, hi.at fun o q => k it (by simp) o q, hne⟩
  item := by
    intro X hP hw hK hc i pins s σ H E I hf st hg
    subst hP hw hK
    obtain ⟨⟨old, he⟩, hit, hne⟩ := st
    obtain ⟨xs, x, hq, hx⟩ := hg
    obtain ⟨its, rv, pt, hz⟩ := I.tuple hq
    obtain ⟨u, hu, ru⟩ := rv.get hx
    have lte : e < s.heap.objs.size := Heap.lt_size he
    have lti : it < s.heap.objs.size := by obtain ⟨_, q, _⟩ := hit; exact Heap.lt_size q
    have hlt : i < its.toArray.size := by
      rw [List.size_toArray]
      exact (List.getElem?_eq_some_iff.mp hu).1
    refine wpAny_pyNext_enum_itemD (drawsT (A := X.A.in1) (show X.A.in1.handled = none from I.ok.hd hc) it a hai its.toArray) he ⟨hit, pt⟩ hlt hne (by simp [hne, hea]) fun y f1 tk py oe st' gT hsz kept => ?_
    obtain rfl : y = u := by
      have z : its.toArray[i]? = some y := py
      rw [List.getElem?_toArray, hu] at z
      exact (Option.some.inj z).symm
    refine ⟨_, rfl, wpAny_letOwnedTupleGo_enum (s := { s with heap := f1, toks := tk + 1 }) oe fun f2 he2 sb => ?_⟩
    have gT2 : f2.get? s.heap.objs.size = some { cls := .type "tuple", data := .seq #[.int i tk, y] } := (sb.2 _ (Nat.ne_of_gt lte)).trans gT
    have new : ObjOk X.prog X.w (upd H s.heap.objs.size (.tup [.int (i : Nat), x])) f2 s.heap.objs.size (.tup [.int (i : Nat), x]) := ⟨by show 2 ≤ sizeLine; decide, [.int i tk, y], .cons ⟨_, rfl⟩ (.cons ru .nil), ⟨_, gT2, rfl, _, rfl⟩⟩
    have I1 : Inv X pins σ (upd H s.heap.objs.size (.tup [.int (i : Nat), x])) { s with heap := f2, toks := tk + 1 } := by
      refine I.turnedNew (ch := [e, it]) (fun b ob hb q => ?_) hf (Nat.le_refl _) new
      refine (sb.2 b (fun z => hb (by simp [z]))).trans (kept b ob ?_ ?_ q) <;> exact fun z => hb (by simp [z])
    refine ⟨.ref s.heap.objs.size, _, I1, rfl, ⟨_, x, rfl, I.hok.fresh (Nat.le_refl _), rfl, fun ys hy => by rw [I.tuple_inj hy hq]; exact hx⟩, ⟨⟨y, ?_⟩, st'.1.at fun o q => (sb.2 it (Ne.symm hne)).trans q, hne⟩, fun b hb => ?_⟩
    · have e1 : ((i + 1 : Nat) : Int) = (i : Int) + 1 := by omega
      rw [e1]
      exact he2
    · have lt : b < s.heap.objs.size := by
        rcases (by simpa using hb : b = e ∨ b = it) with z | z <;> rw [z] <;> assumption
      rw [upd_ne (Nat.ne_of_lt lt)]
      exact (hf b hb).1
  done := by
    intro X hP hw hK hc i pins s σ H E I hf st hg
    subst hP hw hK
    obtain ⟨⟨old, he⟩, hit, hne⟩ := st
    obtain ⟨xs, hq, hx⟩ := hg
    obtain ⟨its, rv, pt, hz⟩ := I.tuple hq
    obtain ⟨f0, f1, f2, f3, f4, f5⟩ := hf it (by simp)
    have hl := rv.length
    have hn : its.toArray.size = i := by rw [List.size_toArray]; omega
    refine wpAny_pyNext_enum_endD (drawsT (A := X.A.in1) (show X.A.in1.handled = none from I.ok.hd hc) it a hai its.toArray) he ⟨by rw [hn]; exact hit, pt⟩ fun f1 eb => ?_
    exact ⟨rfl, I.turned (t' := s.toks) (fun b o hb q => eb b o hb q) f0 ‹_› f3 f4 f5⟩
  self := fun A i s Q E st h => by
    obtain ⟨⟨_, he⟩, _⟩ := st
    exact wpAny_pyIter_enum he h
def iEnumT (K : PySem.W.Frag) (ta : TA) : TI := fun σ H R => ta σ H fun vs H1 => ∃ a xs, vs = [.ref a] ∧ SqT K H1 a xs ∧ R (ItE K a) H1
theorem pi_enumT {X : Cx} {e : Expr} {ta : TA} {p pos tpos : Pos} {elts : List Expr} {kk : Nat} (hgl : Gl X "enumerate") (hmg : X.mg "enumerate" = none) (hpa : PA X [e] ta) (hst : starEach [e] X.env = [(false, eval e X.env)]) :
    PI X (.Tuple elts kk tpos) (.Call (.Name "enumerate" p) [e] [] pos) (iEnumT X.K ta) := by
  refine ⟨fun pins s σ H R I h => ?_⟩
  refine Call_ (ld_blt I hgl hmg boot_enumerate (PyProof.Rows.callWith_type1 (thn (hpa.run pos pins s σ H _ I h) fun us s1 ⟨vs, H1, I1, r1, q1⟩ => ?_) hst rfl))
  obtain ⟨a, xs, ex, hq, q⟩ := q1
  subst ex
  cases r1 with
  | cons r rr =>
    cases rr
    cases r
    obtain ⟨its, rv, pt, hz⟩ := I1.tuple hq
    have lta : a < s1.heap.objs.size := by
      obtain ⟨o, ho, _⟩ := (show s1.heap.IsTuple a its.toArray from pt)
      exact Heap.lt_size ho
    refine callEnumT (show s1.heap.IsTuple a its.toArray from pt) fun f1 he hit kept => wpAny_pyIter_enum he ?_
    have I2 : Inv X pins σ H1 { s1 with heap := f1 } := I1.kept (t' := s1.toks) kept
    refine ⟨s1.heap.objs.size + 1, [s1.heap.objs.size + 1, s1.heap.objs.size], _, _, H1, rfl, I2, turnE a (s1.heap.objs.size + 1) s1.heap.objs.size (Nat.ne_of_gt (Nat.lt_succ_of_lt lta)) (Nat.ne_of_lt lta), ⟨⟨.none, he⟩, hit, Nat.succ_ne_self _⟩, fun b hb => ?_, q⟩
    have le : s1.heap.objs.size ≤ b := by
      rcases (by simpa using hb : b = s1.heap.objs.size + 1 ∨ b = s1.heap.objs.size) with z | z <;> rw [z] <;> first | exact Nat.le_add_right _ _ | exact Nat.le_refl _
    exact I1.fpOk le (I1.hok.fresh le)
end Eng

namespace Eng
open PySem PySem.Spec PyProof.Rows L2
/-! ### lists of the store -/
section
variable {A : Ad} {K : PySem.W.Frag} {w : Wd} {H : Hp} {st : Store}
theorem ext_at {r : Nat} {o : HO} (S : SR A K w st H) (hr : r < w.n) : Ext no w H w (upd H (w.μ r) o) where
  le := .refl _
  fr := fun a u q n _ => by rw [upd_ne (fun e => n r hr e.symm)]; exact q
  th := fun a u q => by
    by_cases e : a = w.μ r
    · exact ⟨o, by rw [e]; exact upd_same⟩
    · exact ⟨u, by rw [upd_ne e]; exact q⟩
  nw := fun _ _ q => .inl q
  mn := fun k h1 h2 => absurd h2 (Nat.not_lt.mpr h1)
theorem sr_at {r : Nat} {c : Cell} {o : HO} (S : SR A K w st H) (hr : r < w.n) (hc : CellR A K w c (some o)) : SR A K w (st.set r c) (upd H (w.μ r) o) where
  sub := fun a u q => by
    have ne : a ≠ w.μ r := fun e => by
      rw [e, S.nog r hr] at q
      cases q
    rw [upd_ne ne]
    exact S.sub a u q
  len := by rw [List.length_set]; exact S.len
  cell := fun k c' q => by
    by_cases e : k = r
    · rw [e, List.getElem?_set_self (by rw [← S.len]; exact hr)] at q
      cases q
      rw [e, upd_same]
      exact hc
    · rw [List.getElem?_set_ne (Ne.symm e)] at q
      have hk : k < w.n := by rw [S.len]; exact (List.getElem?_eq_some_iff.mp q).1
      rw [upd_ne (fun z => e (S.inj k r hk hr z))]
      exact S.cell k c' q
  inj := S.inj
  nog := S.nog
/-- a new list of the store -/
theorem cell_lst {p : Addr} {xs : List D} {vs : List V} (S : SR A K w st H) (hp : H p = none) (r : RDs A K w xs vs) : SR A K (w.cell p) (st ++ [.lk xs]) (upd H p (.lst vs)) ∧ Ext no w H (w.cell p) (upd H p (.lst vs)) ∧ RD A K (w.cell p) (.ref st.length) (.ref p) := by
  have pr : Priv w p := priv_new S hp
  have hn := S.len
  refine ⟨⟨fun a o q => ?_, ?_, fun k' c q => ?_, fun i j hi hj e => ?_, fun k' hk' => ?_⟩, ⟨cell_le p, fun a o q _ _ => by rw [upd_ne (ne_of_none q hp)]; exact q, fun a o q => ⟨o, by rw [upd_ne (ne_of_none q hp)]; exact q⟩, fun _ _ q => .inl q, fun k' h1 h2 => ?_⟩, ?_⟩
  · have ne : a ≠ p := fun z => by
      rw [z] at q
      have q : w.G p = some o := q
      rw [pr.1] at q
      cases q
    rw [upd_ne ne]
    exact S.sub a o q
  · show w.n + 1 = (st ++ [_]).length
    rw [hn, List.length_append]
    rfl
  · show CellR A K (w.cell p) c (upd H p _ (if k' = w.n then p else w.μ k'))
    by_cases hk' : k' = w.n
    · rw [if_pos hk', upd_same]
      rw [hk', hn, List.getElem?_append_right (Nat.le_refl _), Nat.sub_self] at q
      cases q
      exact ⟨vs, r.mono (cell_le p), rfl⟩
    · rw [if_neg hk']
      have hlt : k' < st.length := by
        have := (List.getElem?_eq_some_iff.mp q).1
        rw [List.length_append] at this
        have : k' < st.length + 1 := this
        omega
      rw [List.getElem?_append_left hlt] at q
      rw [upd_ne (pr.2 k' (by omega))]
      exact (S.cell k' c q).mono (cell_le p)
  · have hi : i < w.n + 1 := hi
    have hj : j < w.n + 1 := hj
    have e : (if i = w.n then p else w.μ i) = (if j = w.n then p else w.μ j) := e
    by_cases h1 : i = w.n
    · by_cases h2 : j = w.n
      · omega
      · rw [if_pos h1, if_neg h2] at e
        exact absurd e.symm (pr.2 j (by omega))
    · by_cases h2 : j = w.n
      · rw [if_neg h1, if_pos h2] at e
        exact absurd e (pr.2 i (by omega))
      · rw [if_neg h1, if_neg h2] at e
        exact S.inj i j (by omega) (by omega) e
  · have hk' : k' < w.n + 1 := hk'
    show w.G (if k' = w.n then p else w.μ k') = none
    split
    · exact pr.1
    · exact S.nog k' (by omega)
  · show H (if k' = w.n then p else w.μ k') = none
    have h2 : k' < w.n + 1 := h2
    rw [if_pos (by omega)]
    exact hp
  · rw [← hn]
    have z : (w.cell p).μ w.n = p := if_pos rfl
    have q : RD A K (w.cell p) (.ref w.n) (.ref ((w.cell p).μ w.n)) := .ref (Nat.lt_succ_self _)
    rw [z] at q
    exact q
theorem RDs.erase : ∀ (n : Nat) {a : List D} {u : List V}, RDs A K w a u → RDs A K w (a.eraseIdx n) (u.eraseIdx n)
  | _, _, _, .nil => .nil
  | 0, _, _, .cons _ t => t
  | n + 1, _, _, .cons h t => .cons h (RDs.erase n t)
theorem RDs.put {d : D} {v : V} (q : RD A K w d v) : ∀ (n : Nat) {a : List D} {u : List V}, RDs A K w a u → RDs A K w (a.set n d) (u.set n v)
  | _, _, _, .nil => .nil
  | 0, _, _, .cons _ t => .cons q t
  | n + 1, _, _, .cons h t => .cons h (RDs.put q n t)
end
/-! ### how long a repr is -/
theorem disp_of {d : D} (h : dispD d = true) : isDisplay (toP d) = true := by
  cases d <;> first | rfl | cases h
mutual
theorem show_of : ∀ d : D, shortD d = true → plain d = true → (toP d).showable = true
  | .non, _, _ => by simp [toP, PyData.showable]
  | .bl _, _, _ => by simp [toP, PyData.showable]
  | .int _, h, _ => by simpa [toP, PyData.showable, shortD] using h
  | .str _, _, _ => by simp [toP, PyData.showable]
  | .tup xs, h, p => by
    simp only [toP, PyData.showable]
    exact shows_of xs (by simpa [shortD] using h) (by simpa [plain] using p)
  | .lst xs, h, p => by
    simp only [toP, PyData.showable]
    exact shows_of xs (by simpa [shortD] using h) (by simpa [plain] using p)
  | .ins _ _, _, h => by simp [plain] at h
  | .fn _, _, h => by simp [plain] at h
  | .ref _, _, h => by simp [plain] at h
theorem shows_of : ∀ ds : List D, shortsD ds = true → plains ds = true → PyData.showableAll (toPs ds) = true
  | [], _, _ => rfl
  | d :: r, h, p => by
    simp only [shortsD, Bool.and_eq_true] at h
    simp only [plains, Bool.and_eq_true] at p
    simp only [toPs, PyData.showableAll, Bool.and_eq_true]
    exact ⟨show_of d h.1 p.1, shows_of r h.2 p.2⟩
end
mutual
theorem wt_of : ∀ d : D, plain d = true → ((toP d).shown).length ≤ wtD d
  | .non, _ => by
    simp only [toP, PyData.shown, wtD]
    decide
  | .bl b, _ => by
    simp only [toP, PyData.shown, wtD]
    cases b <;> decide
  | .int i, _ => by
    simp only [toP, PyData.shown, wtD]
    have e := int_text_length_le (a := i) (k := i.natAbs.log2 + 1) (Nat.succ_pos _) (Nat.lt_succ_self _)
    show (PySem.Str.ofString (toString i)).length ≤ _
    rw [PySem.ofString_length]
    omega
  | .str s, h => by
    simp only [toP, PyData.shown, wtD]
    have hp : s.cps.all (fun c => decide (c < 0x110000)) = true := by simpa [plain] using h
    exact StrLaws.reprText_len s fun c hc => by
      have z := Array.all_eq_true_iff_forall_mem.mp hp c (Array.mem_toList_iff.mp hc)
      have z := of_decide_eq_true z
      have e : (16 : Nat) ^ 8 = 4294967296 := by decide
      omega
  | .tup xs, h => by
    simp only [toP, PyData.shown, wtD]
    have e := tupleText_len_le (PyData.shownAll (toPs xs))
    have q := wts_of xs (by simpa [plain] using h)
    omega
  | .lst xs, h => by
    simp only [toP, PyData.shown, wtD]
    have e := listText_len_le (PyData.shownAll (toPs xs))
    have q := wts_of xs (by simpa [plain] using h)
    omega
  | .ins _ _, h => by simp [plain] at h
  | .fn _, h => by simp [plain] at h
  | .ref _, h => by simp [plain] at h
theorem wts_of : ∀ ds : List D, plains ds = true → ((PyData.shownAll (toPs ds)).map (·.length)).sum + 2 * (PyData.shownAll (toPs ds)).length ≤ wtsD ds
  | [], _ => Nat.le_refl _
  | d :: r, h => by
    simp only [plains, Bool.and_eq_true] at h
    have h1 := wt_of d h.1
    have h2 := wts_of r h.2
    simp only [toPs, PyData.shownAll, List.map_cons, List.sum_cons, List.length_cons, wtsD]
    omega
end
section
variable {P : Prg} {A : Ad} {call : Nat → List D → Store → Res D} {fd : Nat → FuncData} {lv : Nat} {N : List PySem.Str} {sc : Scope} {X : Cx}
theorem snd_newL {as : Cs} {es : List Expr} {pos : Pos} (hl : csLen as ≤ 1000000) (h : PA X es (tAs P A call X as)) : PE X (.List es pos) (tE P A call X (.newc (.lst as))) := by
  refine PE.mono (pe_lst h) fun σ H Q t => ?_
  obtain ⟨w, ρ, st, H0, ex, d, st', S, R, e, k⟩ := t
  simp only [ev] at e
  obtain ⟨x, st1, e1, e⟩ := Res.bind_is e
  obtain ⟨xs, st2, e2, e3⟩ := Res.bind_is e1
  cases e3
  cases e
  refine ⟨w, ρ, st, H0, ex, xs, _, S, R, e2, fun vs H1 w1 E1 S1 p1 => ⟨small_of (H := H1) p1 (by rw [evs_len e2]; exact hl), fun p hp => ?_⟩⟩
  obtain ⟨c1, c2, c3⟩ := cell_lst S1 hp p1
  exact k _ _ _ (E1.trans c2) c1 (pv_rd rfl c3)
theorem snd_newT (cx : Cxt P A call fd lv N sc X) {a : C} {e : Expr} {x : PySem.Str} {p pos : Pos} (hx : x = ("list" : PySem.Str)) (hg : glB sc x = true) (hf : P.blt.contains x = true) (hs : shape e = true) (ha : PE X e (tE P A call X a)) : PE X (.Call (.Name x p) [e] [] pos) (tE P A call X (.newc (.blt .list a))) := by
  subst hx
  obtain ⟨g1, g2, g3⟩ := gl_of cx hg
  have hm := cx.gok.free _ hf
  have ha' : PA X [e] (tCons (tE P A call X a) tNil) := pa_cons ha pa_nil (star_of [] X.env hs)
  refine PE.mono (pe_callTy call_list_of g1 hm (by decide +kernel) ha' g3 g2 (star_of [] X.env hs) rfl) fun σ H Q t => ?_
  obtain ⟨w, ρ, st, H0, ex, d, st', S, R, e, k⟩ := t
  simp only [ev] at e
  obtain ⟨x, st1, e1, e⟩ := Res.bind_is e
  obtain ⟨y, st2, e2, e3⟩ := Res.bind_is e1
  refine ⟨w, ρ, st, H0, ex, y, st2, S, R, e2, fun v H1 w1 E1 S1 p1 => ?_⟩
  cases y with
  | lst ys =>
    cases e3
    cases e
    obtain ⟨b, vs, rfl, hq, rr⟩ := p1.rx.list S1
    refine ⟨b, vs, rfl, .inl hq, fun l hl => ?_⟩
    obtain ⟨c1, c2, c3⟩ := cell_lst S1 hl rr
    exact k _ _ _ (E1.trans c2) c1 (pv_rd rfl c3)
  | tup ys =>
    cases e3
    cases e
    obtain ⟨b, vs, rfl, hq, rr⟩ := p1.rx.tupl S1
    refine ⟨b, vs, rfl, .inr hq, fun l hl => ?_⟩
    obtain ⟨c1, c2, c3⟩ := cell_lst S1 hl rr
    exact k _ _ _ (E1.trans c2) c1 (pv_rd rfl c3)
  | _ => cases e3
theorem snd_popc (cx : Cxt P A call fd lv N sc X) {o i : C} {eo e : Expr} {x : PySem.Str} {apos pos : Pos} (hx : x = ("pop" : PySem.Str)) (hsup : notSuper eo = true) (hbo : (!o.isBor) = true) (ho : PE X eo (tE P A call X o)) (hbi : (!i.isBor) = true) (hs : shape e = true) (hi : PE X e (tE P A call X i)) (hline : (apos.endLine == pos.line) = true) :
    PE X (.Call (.Attribute eo x apos) [e] [] pos) (tE P A call X (.popc o i)) := by
  subst hx
  have hall : [e].all shape = true := by simp [hs]
  refine PE.mono (pe_bm PySem.F.plainAttrs_list PySem.F.slot_list_pop PySem.F.type_list_pop mt_popAt ho (pa_cons hi pa_nil (star_of [] _ hs)) (base_of _ _ _ hsup) (by rw [allno_of pos X.env [e] hall]; rfl) hline (star_of [] _ hs) rfl) fun σ H Q t => ?_
  obtain ⟨w, ρ, st, H0, ex, d, st', S, R, e, k⟩ := t
  simp only [ev] at e
  obtain ⟨y, st1, e1, e⟩ := Res.bind_is e
  split at e
  rotate_left
  · cases e
  rename_i hlk
  obtain ⟨z, st2, e2, e⟩ := Res.bind_is e
  refine ⟨w, ρ, st, H0, ex, y, st1, S, R, e1, fun v H1 w1 E1 S1 p1 => ?_⟩
  unfold popD at e
  cases y with
  | ref n =>
    cases z with
    | int m =>
      dsimp only at e
      cases hg : getL st2 n with
      | none => rw [hg] at e; cases e
      | some xs =>
        rw [hg] at e
        dsimp only at e
        cases hj : itIx xs.length m with
        | none => rw [hj] at e; cases e
        | some j =>
          rw [hj] at e
          dsimp only at e
          cases hx : xs[j]? with
          | none => rw [hx] at e; cases e
          | some d' =>
            rw [hx] at e
            dsimp only at e
            split at e
            · rename_i hlen
              cases e
              unfold isLk at hlk
              dsimp only at hlk
              obtain ⟨ys, hys⟩ := Option.isSome_iff_exists.mp hlk
              obtain ⟨vs0, rfl, hn, hq0, _⟩ := cellL S1 hys p1.rx
              refine ⟨.inl ⟨rfl, vs0, SqL.of hq0⟩, w1, ρ, st1, H0, ex, _, st2, S1, R.ext E1, e2, fun u H2 w2 E2 S2 p2 => ?_⟩
              have rr := (p1.rd hbo).mono E2.le
              obtain ⟨vs, hv, hn2, hq, rs⟩ := cellL S2 hg (.inl rr)
              obtain ⟨ix1, ix2, ix3, ix4⟩ := ixN_seq (show ixN xs.length m = some j from hj)
              have hu : u = .int m := rx_int p2.rx
              subst hu
              obtain ⟨vj, hvj, rj⟩ := rs.get hx
              have hw : V.ref (w1.μ n) = V.ref (w2.μ n) := hv
              refine ⟨w2.μ n, vs, m, j, vj, hw, rfl, hq, by omega, by omega, by rw [← rs.length]; exact ix1, hvj, ?_⟩
              exact k _ _ w2 (E1.trans (E2.trans (ext_at S2 hn2))) (sr_at S2 hn2 ⟨_, rs.erase j, rfl⟩) (pv_rd rfl rj)
            · cases e
    | _ => cases e
  | _ => cases z <;> cases e
theorem pa2 {a b : C} {ea eb : Expr} (h1 : shape ea = true) (h2 : shape eb = true) (ha : PE X ea (tE P A call X a)) (hb : PE X eb (tE P A call X b)) : PA X [ea, eb] (tCons (tE P A call X a) (tCons (tE P A call X b) tNil)) :=
  pa_cons ha (pa_cons hb pa_nil (star_of [] _ h2)) (star_of [eb] _ h1)
theorem snd_max2 (cx : Cxt P A call fd lv N sc X) {a b : C} {ea eb : Expr} {x : PySem.Str} {p pos : Pos} (hx : x = ("max" : PySem.Str)) (hg : glB sc x = true) (hf : P.blt.contains x = true) (h1 : shape ea = true) (h2 : shape eb = true) (ha : PE X ea (tE P A call X a)) (hb : PE X eb (tE P A call X b)) :
    PE X (.Call (.Name x p) [ea, eb] [] pos) (tE P A call X (.max2 a b)) := by
  subst hx
  obtain ⟨g1, g2, g3⟩ := gl_of cx hg
  have hm := cx.gok.free _ hf
  refine PE.mono (pe_callB (call_max2 cx.calm) g1 hm (by decide +kernel) (pa2 h1 h2 ha hb) g3 g2 (star_of [eb] _ h1) (by rw [star_of [] _ h2]; rfl)) fun σ H Q t => ?_
  obtain ⟨w, ρ, st, H0, ex, d, st', S, R, e, k⟩ := t
  simp only [ev] at e
  obtain ⟨y, st1, e1, e⟩ := Res.bind_is e
  obtain ⟨z, st2, e2, e⟩ := Res.bind_is e
  refine ⟨w, ρ, st, H0, ex, y, st1, S, R, e1, fun v H1 w1 E1 S1 p1 => ⟨w1, ρ, st1, H0, ex, z, st2, S1, R.ext E1, e2, fun u H2 w2 E2 S2 p2 => ?_⟩⟩
  unfold max2D at e
  cases y with
  | int i =>
    cases z with
    | int j =>
      cases e
      obtain rfl := rx_int p1.rx
      obtain rfl := rx_int p2.rx
      exact ⟨i, j, rfl, k _ H2 w2 (E1.trans E2) S2 (pv_rd rfl (.int _))⟩
    | _ => cases e
  | _ => cases z <;> cases e
theorem snd_repr (cx : Cxt P A call fd lv N sc X) {a : C} {ea : Expr} {x : PySem.Str} {p pos : Pos} (hx : x = ("repr" : PySem.Str)) (hhot : hotB N = true) (hg : glB sc x = true) (hf : P.blt.contains x = true) (hb : (!a.isBor) = true) (h1 : shape ea = true) (ha : PE X ea (tE P A call X a)) :
    PE X (.Call (.Name x p) [ea] [] pos) (tE P A call X (.repr a)) := by
  subst hx
  obtain ⟨g1, g2, g3⟩ := gl_of cx hg
  have hm := cx.gok.free _ hf
  have hga : X.A.guards = some [] := cx.gd (by rw [cx.N]; exact hhot)
  have hu : X.A.units + 64 < cLine := by have := cx.room.un; omega
  have two : CallR X (.builtin "repr") (fun xs H Q => (∃ x d, xs = [x] ∧ Dp X.K H x d ∧ isDisplay d = true ∧ d.showable = true ∧ d.hasDict = false ∧ d.depth ≤ 32 ∧ d.shown.length ≤ sizeLine ∧ Q (.str d.shown) H) ∨ ∃ i, xs = [.int i] ∧ i.natAbs.log2 < 1920 ∧ Q (.str (toString i)) H) := by
    intro pins s σ H xs us Q I r h
    rcases h with h | h
    · exact call_reprD hga hu pins s σ H xs us Q I r h
    · exact SkE.call_repr_int pins s σ H xs us Q I r h
  refine PE.mono (pe_callB two g1 hm (by decide +kernel) (pa_cons ha pa_nil (star_of [] X.env h1)) g3 g2 (star_of [] _ h1) rfl) fun σ H Q t => ?_
  obtain ⟨w, ρ, st, H0, ex, d, st', S, R, e, k⟩ := t
  simp only [ev] at e
  obtain ⟨y, st1, e1, e⟩ := Res.bind_is e
  refine ⟨w, ρ, st, H0, ex, y, st1, S, R, e1, fun v H1 w1 E1 S1 p1 => ?_⟩
  unfold reprD at e
  split at e
  · rename_i i
    split at e
    · rename_i hi
      cases e
      have q := p1.rd hb
      cases q
      exact .inr ⟨i, rfl, hi, k _ H1 w1 E1 S1 (pv_rd rfl (.str _))⟩
    · cases e
  · split at e
    · rename_i hc
      simp only [Bool.and_eq_true, decide_eq_true_eq] at hc
      cases e
      refine .inl ⟨v, toP y, rfl, dpx_of S1 hc.1.1.1.2 p1.rx, disp_of hc.1.1.1.1, show_of y hc.1.2 hc.1.1.1.2, PyData.hasDict_of_canLay _ (can_of y hc.1.1.1.2), ?_, ?_, k _ H1 w1 E1 S1 (pv_rd rfl (.str _))⟩
      · rw [depth_of y hc.1.1.1.2]; exact hc.1.1.2
      · have := wt_of y hc.1.1.1.2
        rw [sizeLine_eq]
        omega
    · cases e
theorem snd_ssort (cx : Cxt P A call fd lv N sc X) {a : C} {ea : Expr} {x y : PySem.Str} {p p2 q pos : Pos} (hx : x = ("sorted" : PySem.Str)) (hy : y = ("set" : PySem.Str)) (hg : glB sc x = true) (hgy : glB sc y = true) (hf : P.blt.contains x = true) (hfy : P.blt.contains y = true) (h1 : shape ea = true) (ha : PE X ea (tE P A call X a)) :
    PE X (.Call (.Name x p) [.Call (.Name y p2) [ea] [] q] [] pos) (tE P A call X (.ssort a)) := by
  subst hx
  subst hy
  obtain ⟨g1, g2, g3⟩ := gl_of cx hg
  obtain ⟨k1, k2, k3⟩ := gl_of cx hgy
  have hm := cx.gok.free _ hf
  have hmy := cx.gok.free _ hfy
  have hin := pe_callTy (p := p2) (pos := q) (cr_setI cx.calm) k1 hmy (by decide +kernel) (pa_cons ha pa_nil (star_of [] X.env h1)) k3 k2 (star_of [] _ h1) rfl
  refine PE.mono (pe_callB (cr_sortedSet cx.calm) g1 hm (by decide +kernel) (pa_cons hin pa_nil rfl) g3 g2 rfl rfl) fun σ H Q t => ?_
  obtain ⟨w, ρ, st, H0, ex, d, st', S, R, e, k⟩ := t
  simp only [ev] at e
  obtain ⟨z, st1, e1, e⟩ := Res.bind_is e
  refine ⟨w, ρ, st, H0, ex, z, st1, S, R, e1, fun v H1 w1 E1 S1 p1 => ?_⟩
  unfold ssortD at e
  cases z with
  | lst xs =>
    dsimp only at e
    cases hs : intsD xs with
    | none => rw [hs] at e; cases e
    | some ns =>
      rw [hs] at e
      dsimp only at e
      split at e
      · rename_i h64
        cases e
        obtain ⟨b, vs, rfl, hq, rr⟩ := p1.rx.list S1
        obtain rfl := intsD_map hs
        obtain rfl := rds_ints rr
        refine ⟨b, ns, rfl, hq, h64, fun p c hp hc => ?_⟩
        refine ⟨p, _, c, rfl, upd_same, by omega, fun out p' ho hm hl hn => ?_⟩
        have : out = setI ns := setI_is ho fun k => by rw [hm k]; simp
        subst this
        have S2 := sr_new S1 (o := SetO X.w p (fun j => decide (j ∈ ns)) c) hp
        have E2 : Ext no w1 H1 w1 (upd H1 p (SetO X.w p (fun j => decide (j ∈ ns)) c)) := ext_new (st := st') hp
        exact new_lst S2 (rds_int _) hn fun v3 H3 w3 E3 S3 r3 => k v3 H3 w3 (E1.trans (E2.trans E3)) S3 (pv_rd rfl r3)
      · cases e
  | _ => cases e
/-! ### calls by keywords alone, in the parameters' order -/
theorem PK.mono {ks : List Keyword} {t t' : TA} (h : PK X ks t) (m : ∀ σ H Q, t' σ H Q → t σ H Q) : PK X ks t' := ⟨fun pos pins s σ H Q I q => h.run pos pins s σ H Q I (m σ H Q q)⟩
theorem snd_knil : PK X [] (tAs P A call X .nil) := by
  refine PK.mono pk_nil fun σ H Q t => ?_
  obtain ⟨w, ρ, st, H0, ex, ds, st', S, R, e, k⟩ := t
  simp only [evs] at e
  cases e
  exact k [] H w (.refl _ _ _) S .nil
theorem snd_kcons {c : C} {r : Cs} {nm : Option PySem.Str} {e : Expr} {kp : Pos} {ks : List Keyword} (hb : (!c.isBor) = true) (h1 : PE X e (tE P A call X c)) (h2 : PK X ks (tAs P A call X r)) : PK X (⟨nm, e, kp⟩ :: ks) (tAs P A call X (.cons c r)) := by
  refine PK.mono (pk_cons h1 h2) fun σ H Q t => ?_
  obtain ⟨w, ρ, st, H0, ex, ds, st', S, R, e, k⟩ := t
  simp only [evs] at e
  obtain ⟨x, st1, e1, e⟩ := Res.bind_is e
  obtain ⟨xs, st2, e2, e⟩ := Res.bind_is e
  cases e
  refine ⟨w, ρ, st, H0, ex, x, st1, S, R, e1, fun v H1 w1 E1 S1 p1 => ⟨w1, ρ, st1, H0, ex, xs, st', S1, R.ext E1, e2, fun vs H2 w2 E2 S2 p2 => k (v :: vs) H2 w2 (E1.trans E2) S2 (.cons ((p1.rd hb).mono E2.le) p2)⟩⟩
theorem kw_all (pos : Pos) (env : PySem.Env) : ∀ {ps : List PySem.Str} {ks : List Keyword}, chkW ps ks = true → (backToKw pos (keywordEach ks env)).all (·.1.isSome) = true ∧ (backToKw pos (keywordEach ks env)).any (·.1.isNone) = false ∧ (backToKw pos (keywordEach ks env)).filterMap (·.1) = ps
  | [], [], _ => ⟨rfl, rfl, rfl⟩
  | [], _ :: _, h => by cases h
  | _ :: _, [], h => by cases h
  | x :: r, ⟨some y, e, kp⟩ :: ks, h => by
    simp only [chkW, Bool.and_eq_true, decide_eq_true_eq] at h
    obtain ⟨h1, h2, h3⟩ := kw_all pos env h.2
    obtain rfl := h.1
    refine ⟨?_, ?_, ?_⟩
    · show (true && (backToKw pos (keywordEach ks env)).all (·.1.isSome)) = true
      rw [h1]; rfl
    · show (false || (backToKw pos (keywordEach ks env)).any (·.1.isNone)) = false
      rw [h2]; rfl
    · show x :: (backToKw pos (keywordEach ks env)).filterMap (·.1) = x :: r
      rw [h3]
  | _ :: _, ⟨none, _, _⟩ :: _, h => by simp [chkW] at h
theorem snd_kcall (cx : Cxt P A call fd lv N sc X) {j : Nat} {as : Cs} {x : PySem.Str} {p pos : Pos} {ks : List Keyword} (hhot : hotOk P N j = true) (hg : glB sc x = true) (hfb : fnB P j x ks.length [] = true) (hkw : kwB P j = true) (hw : chkW (psOf P j) ks = true) (ha : PK X ks (tAs P A call X as)) :
    PE X (.Call (.Name x p) [] ks pos) (tE P A call X (.kcall j as)) := by
  obtain ⟨f, hf, hgl, hi, _⟩ := fn_of' hfb
  obtain ⟨g1, g2, g3⟩ := gl_of cx hg
  have hm := cx.gok.gfn j f x hf hgl
  have hps : psOf P j = f.ps := by unfold psOf; rw [hf]
  have hk : f.kw = true := by unfold kwB at hkw; rw [hf] at hkw; exact hkw
  rw [hps] at hw
  obtain ⟨w1, w2, w3⟩ := kw_all pos X.env hw
  constructor
  intro pins s σ H Q I t
  obtain ⟨w, ρ, st, H0, ex, d, st', S, R, e, k⟩ := t
  simp only [ev] at e
  obtain ⟨xs, st1, e1, e⟩ := Res.bind_is e
  refine wpAny_Call_Name_kw (ld_glob I g1 hm ?_ g2)
  refine PySem.W.callWith_KW0 (h₀ := X.base) I.ok.mod.kin (cx.gok.keep j f hf) w1 (thn (ha.run pos pins s σ H (fun vs H1 => spF A X.K call j f vs H1 Q E0) I ⟨w, ρ, st, H0, ex, xs, st1, S, R, e1, fun vs H1 w1 E1 S1 p1 => ?_⟩) fun us s2 ⟨vs, H2, I2, rv, q⟩ => ⟨I2.kIn, ?_⟩) (by rw [w2]; rfl)
  · obtain ⟨f', hf', hc⟩ := cx.cok j xs st1 d st' e
    rw [hf] at hf'
    cases hf'
    rcases hc with ⟨_, hlen⟩ | ⟨c', fs, h', _⟩
    · exact sp_of hi (by rw [← p1.length, hlen]) p1 S1 e fun v H2 w2 E2 S2 r2 => k v H2 w2 (E1.trans E2) S2 (pv_rd rfl r2)
    · rw [hi] at h'
      cases h'
  · rw [w3]
    have hlen : us.length = f.ps.length := by rw [← rv.length]; exact (cx.fog j f hf).len _ _ _ _ q
    have hb := cx.bnk j f hf hk s2 us hlen
    have main : codeAny (model X.prog X.w) X.A (.call (.ref (A.fn j)) ⟨[], f.ps.zip us⟩) (CR CX0 X.stack X.prog X.w H2 s2 Q E0) s2 := by
      rcases hot_of cx hf hhot with z | z
      · exact (cx.fok j f hf z).run X.A X.stack s2 H2 ⟨[], f.ps.zip us⟩ us vs Q E0 (room0 cx) I2.env0 hb rv q
      · exact (cx.fog j f hf).run X.A X.stack s2 H2 ⟨[], f.ps.zip us⟩ us vs Q E0 z (room0 cx) I2.env0 hb rv q
    refine wpAny_call (codeAny_mono main fun out sh' post => ?_)
    match out, post with
    | .error ev, post => exact pass0 pins σ H2 s2 ev sh' I2 post
    | .ok (.ret u), post => exact I2.after post
    | .ok .next, post => exact post.elim
    | .ok .brk, post => exact post.elim
    | .ok .cont, post => exact post.elim
/-! ### zip -/
theorem zip_len : ∀ (xs ys : List D), (zipD xs ys).length = min xs.length ys.length
  | [], _ => by simp [zipD]
  | _ :: _, [] => by simp [zipD]
  | x :: r, y :: s => by simp [zipD, zip_len r s]
theorem zip_get : ∀ {xs ys : List D} {i : Nat} {a b : D}, xs[i]? = some a → ys[i]? = some b → (zipD xs ys)[i]? = some (.tup [a, b])
  | [], _, _, _, _, h, _ => by simp at h
  | _ :: _, [], _, _, _, _, h => by simp at h
  | x :: r, y :: s, 0, a, b, h1, h2 => by
    simp at h1 h2
    subst h1
    subst h2
    rfl
  | x :: r, y :: s, i + 1, a, b, h1, h2 => by
    simp only [zipD, List.getElem?_cons_succ] at h1 h2 ⊢
    exact zip_get h1 h2
theorem walkZ {K : PySem.W.Frag} {g1 g2 : Bool} {a b : Addr} {xs ys : List V} {n : Nat} (hn : n = min xs.length ys.length) : Walk (ItZ g1 g2 K a b) n (fun H => SqG g1 K H a xs ∧ SqG g2 K H b ys) (YPair (fun i => xs[i]?) (fun i => ys[i]?)) := by
  subst hn
  refine ⟨fun i _ hi q => ?_, fun _ q => ⟨xs, ys, q.1, q.2, by omega⟩, fun i H v H' _ q y => ?_⟩
  · have l1 : i < xs.length := by omega
    have l2 : i < ys.length := by omega
    exact ⟨xs, ys, xs[i], ys[i], q.1, q.2, List.getElem?_eq_getElem l1, List.getElem?_eq_getElem l2⟩
  · obtain ⟨t, x, z, q1, q2, q3, q4, q5⟩ := y
    exact ⟨t, x, z, q1, q2, q3, q4 xs q.1, q5 ys q.2⟩
theorem sqG_mono {K : PySem.W.Frag} {G G' : Hp} {g : Bool} {a : Addr} {xs : List V} (h : ∀ a o, G a = some o → G' a = some o) (q : SqG g K G a xs) : SqG g K G' a xs := by
  cases g
  · exact sqT_mono h q
  · exact sqL_mono h q
theorem wk_zip {K : PySem.W.Frag} {w1 : Wd} {g1 g2 : Bool} {a b : Addr} {xs ys : List D} {us vs : List V} (h1 : SqG g1 K w1.G a us) (h2 : SqG g2 K w1.G b vs) (r1 : RDs A K w1 xs us) (r2 : RDs A K w1 ys vs) : WkD A K w1 (ItZ g1 g2 K a b) (zipD xs ys) := by
  refine ⟨fun H => SqG g1 K H a us ∧ SqG g2 K H b vs, YPair (fun i => us[i]?) (fun i => vs[i]?), walkZ (by rw [zip_len, r1.length, r2.length]), fun w2 st2 H2 l S => ⟨sqG_mono (fun b o q => S.sub b o (l.g b o q)) h1, sqG_mono (fun b o q => S.sub b o (l.g b o q)) h2⟩, ?_⟩
  rintro i H x H' w2 st2 hi l S ⟨T, x1, y1, rfl, hT, rfl, q1, q2⟩
  obtain ⟨d1, e1, f1⟩ := r1.getV q1
  obtain ⟨d2, e2, f2⟩ := r2.getV q2
  have E := ext_add (o := .tup [x1, y1]) S hT
  exact ⟨w2.add T (.tup [x1, y1]), _, zip_get e1 e2, E, sr_add S hT, .tup (SqT.of (show upd w2.G T _ T = _ from upd_same)) (.cons ((f1.mono l).mono E.le) (.cons ((f2.mono l).mono E.le) .nil))⟩
theorem pi_zp (cx : Cxt P A call fd lv N sc X) {a b : C} {e e2 : Expr} {x : PySem.Str} {p pos tpos : Pos} {elts : List Expr} {kk : Nat} (hx : x = ("zip" : PySem.Str)) (hg : glB sc x = true) (hf : P.blt.contains x = true) (hb : (!a.isBor) = true) (hs : shape e = true) (h : PE X e (tE P A call X a)) (hb2 : (!b.isBor) = true) (hs2 : shape e2 = true) (h2 : PE X e2 (tE P A call X b)) :
    PI X (.Tuple elts kk tpos) (.Call (.Name x p) [e, e2] [] pos) (tI P A call X (.zip a b)) := by
  subst hx
  obtain ⟨g1, g2⟩ := gl_rng cx hg hf
  refine PI.mono (pi_zipG g1 g2 (pa2 hs hs2 h h2) (star_of [e2] _ hs) (by rw [star_of [] _ hs2]; rfl)) ?_
  rintro σ H R ⟨w, ρ, st, H0, ex, zs, st', S, RR, e1, k⟩
  simp only [evIt] at e1
  obtain ⟨y, st1, q1, e3⟩ := Res.bind_is e1
  obtain ⟨z, st2, q2, e3⟩ := Res.bind_is e3
  refine ⟨w, ρ, st, H0, ex, y, st1, S, RR, q1, fun v H1 w1 E1 S1 pv => ⟨w1, ρ, st1, H0, ex, z, st2, S1, RR.ext E1, q2, fun u H2 w2 E2 S2 pu => ?_⟩⟩
  have ry := (pv.rd hb).mono E2.le
  have rz := pu.rd hb2
  cases y with
  | lst ys =>
    cases ry with
    | lst s1 r1 =>
      cases z with
      | lst us =>
        cases e3
        cases rz with
        | lst s2 r2 => exact ⟨true, true, _, _, _, _, rfl, sqL_mono S2.sub s1, sqL_mono S2.sub s2, k _ _ _ (E1.trans E2) S2 (wk_zip (g1 := true) (g2 := true) s1 s2 r1 r2)⟩
      | tup us =>
        cases e3
        cases rz with
        | tup s2 r2 => exact ⟨true, false, _, _, _, _, rfl, sqL_mono S2.sub s1, sqT_mono S2.sub s2, k _ _ _ (E1.trans E2) S2 (wk_zip (g1 := true) (g2 := false) s1 s2 r1 r2)⟩
      | _ => cases e3
  | tup ys =>
    cases ry with
    | tup s1 r1 =>
      cases z with
      | lst us =>
        cases e3
        cases rz with
        | lst s2 r2 => exact ⟨false, true, _, _, _, _, rfl, sqT_mono S2.sub s1, sqL_mono S2.sub s2, k _ _ _ (E1.trans E2) S2 (wk_zip (g1 := false) (g2 := true) s1 s2 r1 r2)⟩
      | tup us =>
        cases e3
        cases rz with
        | tup s2 r2 => exact ⟨false, false, _, _, _, _, rfl, sqT_mono S2.sub s1, sqT_mono S2.sub s2, k _ _ _ (E1.trans E2) S2 (wk_zip (g1 := false) (g2 := false) s1 s2 r1 r2)⟩
      | _ => cases e3
  | _ => cases z <;> cases e3
/-! ### enumerate -/
theorem walkE {K : PySem.W.Frag} {a : Addr} {xs : List V} : Walk (ItE K a) xs.length (fun H => SqT K H a xs) (YPair (fun i => some (.int (i : Nat))) (fun i => xs[i]?)) := by
  refine ⟨fun i _ hi q => ⟨xs, xs[i], q, List.getElem?_eq_getElem hi⟩, fun _ q => ⟨xs, q, rfl⟩, fun i H v H' _ q y => ?_⟩
  obtain ⟨t, x, q1, q2, q3, q4⟩ := y
  exact ⟨t, .int (i : Nat), x, q1, q2, q3, rfl, q4 xs q⟩
theorem wk_enumT {K : PySem.W.Frag} {w1 : Wd} {a : Addr} {xs : List D} {vs : List V} (h : SqT K w1.G a vs) (r : RDs A K w1 xs vs) : WkD A K w1 (ItE K a) (enumD xs) := by
  refine ⟨fun H => SqT K H a vs, YPair (fun i => some (.int (i : Nat))) (fun i => vs[i]?), by rw [enum_len, r.length]; exact walkE, fun w2 st2 H2 l S => sqT_mono (fun b o q => S.sub b o (l.g b o q)) h, ?_⟩
  rintro i H x H' w2 st2 hi l S ⟨T, x1, y1, rfl, hT, rfl, q1, q2⟩
  cases q1
  obtain ⟨d, h1, h2⟩ := r.getV q2
  have E := ext_add (o := .tup [.int (i : Nat), y1]) S hT
  exact ⟨w2.add T (.tup [.int (i : Nat), y1]), _, enum_get h1, E, sr_add S hT, .tup (SqT.of (show upd w2.G T _ T = _ from upd_same)) (.cons (.int _) (.cons ((h2.mono l).mono E.le) .nil))⟩
theorem pi_en (cx : Cxt P A call fd lv N sc X) {a : C} {e : Expr} {x : PySem.Str} {p pos tpos : Pos} {elts : List Expr} {kk : Nat} (hx : x = ("enumerate" : PySem.Str)) (hg : glB sc x = true) (hf : P.blt.contains x = true) (hb : (!a.isBor) = true) (hs : shape e = true) (h : PE X e (tE P A call X a)) : PI X (.Tuple elts kk tpos) (.Call (.Name x p) [e] [] pos) (tI P A call X (.enum a)) := by
  subst hx
  obtain ⟨g1, g2⟩ := gl_rng cx hg hf
  constructor
  intro pins s σ H R I q
  obtain ⟨w, ρ, st, H0, ex, xs, st', S, RR, e1, k⟩ := q
  simp only [evIt] at e1
  obtain ⟨y, st1, e2, e3⟩ := Res.bind_is e1
  cases y with
  | lst ys =>
    cases e3
    refine (pi_enum g1 g2 (pa_cons h pa_nil (star_of [] _ hs)) (by rw [star_of [] _ hs]; rfl)).run pins s σ H R I ⟨w, ρ, st, H0, ex, _, st', S, RR, e2, fun v H1 w1 E1 S1 pv => ?_⟩
    have r := pv.rd hb
    cases r with
    | lst q r => exact ⟨_, _, rfl, sqL_mono S1.sub q, k _ _ _ E1 S1 (wk_enum q r)⟩
  | tup ys =>
    cases e3
    refine (pi_enumT g1 g2 (pa_cons h pa_nil (star_of [] _ hs)) (by rw [star_of [] _ hs]; rfl)).run pins s σ H R I ⟨w, ρ, st, H0, ex, _, st', S, RR, e2, fun v H1 w1 E1 S1 pv => ?_⟩
    have r := pv.rd hb
    cases r with
    | tup q r => exact ⟨_, _, rfl, sqT_mono S1.sub q, k _ _ _ E1 S1 (wk_enumT q r)⟩
  | _ => cases e3
/-! ### a list that a slot owns, and a new one behind it -/
theorem RS.own {K : PySem.W.Frag} {H0 : Hp} {ex : Addr → Prop} {w : Wd} {ρ : Env} {σ : L2.St} {H : Hp} {i : Nat} {xs : List D} (R : RS A K H0 ex w ρ σ H) (h : slotO ρ i = some xs) : ∃ a vs, σ[i]? = some (some (.ref a)) ∧ H a = some (.lst vs) ∧ RDs A K w xs vs := by
  unfold slotO at h
  split at h
  · rename_i ys q
    cases h
    obtain ⟨v, h1, a, vs, rfl, h2, h3, _⟩ := R.sl i _ q
    exact ⟨a, vs, h1, h2, h3⟩
  · cases h
theorem snd_catb (cx : Cxt P A call fd lv N sc X) {i : Nat} {as : Cs} {x : PySem.Str} {px p2 pos : Pos} {es : List Expr} (hn : nameB N sc i x = true) (hl : csLen as ≤ 1000000) (h : PA X es (tAs P A call X as)) : PE X (.BinOp (.Name x px) .Add (.List es p2) pos) (tE P A call X (.catb i (.lst as))) := by
  obtain ⟨h1, h2, h3, h4⟩ := name_of hn
  refine PE.mono (pe_op op_cat (pe_var (by rw [cx.N]; exact h1) (by rw [cx.sc]; exact h2) h3 h4) (pe_lst h)) fun σ H Q t => ?_
  obtain ⟨w, ρ, st, H0, ex, d, st', S, R, e, k⟩ := t
  simp only [ev] at e
  obtain ⟨y, st1, e1, e⟩ := Res.bind_is e
  obtain ⟨ys, st2, e2, e3⟩ := Res.bind_is e1
  cases e3
  cases ho : slotO ρ i with
  | none => rw [ho] at e; cases e
  | some xs =>
    rw [ho] at e
    dsimp only at e
    split at e
    · rename_i hlen
      cases e
      obtain ⟨a, vs, f1, f2, f3⟩ := R.own ho
      refine ⟨_, f1, w, ρ, st, H0, ex, ys, _, S, R, e2, fun us H1 w1 E1 S1 p1 => ⟨small_of (H := H1) p1 (by rw [evs_len e2]; exact hl), fun p hp => ?_⟩⟩
      obtain ⟨a', vs', k1, k2, k3⟩ := (R.ext E1).own ho
      rw [f1] at k1
      cases k1
      have S2 := sr_new S1 (o := .lst us) hp
      have E2 : Ext no w1 H1 w1 (upd H1 p (.lst us)) := ext_new (st := st') hp
      have ne : a ≠ p := fun z => by rw [z, hp] at k2; cases k2
      refine ⟨a, p, vs', us, rfl, rfl, by rw [upd_ne ne]; exact k2, upd_same, by rw [← k3.length, ← p1.length, sizeLine_eq]; omega, fun r hr => ?_⟩
      exact new_lst S2 (k3.append p1) hr fun v3 H3 w3 E3 S3 r3 => k v3 H3 w3 (E1.trans (E2.trans E3)) S3 (pv_rd rfl r3)
    · cases e
end
end Eng

namespace Eng
open PySem PySem.Spec PyProof.Rows L2
/-! ### a display, many times -/
section
variable {P : Prg} {A : Ad} {call : Nat → List D → Store → Res D} {fd : Nat → FuncData} {lv : Nat} {N : List PySem.Str} {sc : Scope} {X : Cx}
theorem RDs.rep {K : PySem.W.Frag} {w : Wd} {xs : List D} {vs : List V} (r : RDs A K w xs vs) : ∀ n : Nat, RDs A K w (List.replicate n xs).flatten (List.replicate n vs).flatten
  | 0 => .nil
  | n + 1 => by
    rw [List.replicate_succ, List.replicate_succ, List.flatten_cons, List.flatten_cons]
    exact r.append (RDs.rep r n)
theorem replD_is {xs : List D} {y d : D} {st st' : Store} (e : replD xs y st = .ok d st') : ∃ k : Int, y = .int k ∧ -1000 ≤ k ∧ k ≤ 1000 ∧ xs.length ≤ 1000 ∧ d = .lst (List.replicate k.toNat xs).flatten ∧ st' = st := by
  unfold replD at e
  split at e
  · rename_i k
    split at e
    · rename_i h
      cases e
      exact ⟨k, rfl, h.1, h.2.1, h.2.2, rfl, rfl⟩
    · cases e
  · cases e
theorem repl_step {as : Cs} {n : C} {σ : L2.St} {H H0 : Hp} {ex : Addr → Prop} {w : Wd} {ρ : Env} {st st' : Store} {d : D} {Q : VK} (hb : (!n.isBor) = true) (S : SR A X.K w st H) (R : RS A X.K H0 ex w ρ σ H) (e : ev P.tab call (.repl as n) ρ st = .ok d st')
    (k : ∀ xs vs H2 w2 p, d = .lst xs → Ext no w H w2 H2 → SR A X.K w2 st' H2 → RDs A X.K w2 xs vs → H2 p = none → Q (.ref p) (upd H2 p (.lst vs))) : tOp rRep (tLst (tAs P A call X as)) (tE P A call X n) σ H Q := by
  simp only [ev] at e
  obtain ⟨xs, st1, e1, e⟩ := Res.bind_is e
  obtain ⟨y, st2, e2, e⟩ := Res.bind_is e
  obtain ⟨i, rfl, b1, b2, b3, rfl, rfl⟩ := replD_is e
  refine ⟨w, ρ, st, H0, ex, xs, st1, S, R, e1, fun vs H1 w1 E1 S1 p1 => ⟨small_of (H := H1) p1 (by omega), fun p hp => ?_⟩⟩
  have E2 : Ext no w H w1 (upd H1 p (.lst vs)) := E1.trans (ext_new (st := st1) hp)
  have pr : Priv w1 p := priv_new S1 hp
  refine ⟨w1, ρ, st1, H0, ex, _, _, sr_new S1 hp, R.ext E2, e2, fun u H2 w2 E3 S2 p2 => ?_⟩
  have hu := p2.rd hb
  cases hu
  have hq : H2 p = some (.lst vs) := E3.fr p _ upd_same pr.2 (fun z => z)
  have lv := p1.length
  refine ⟨p, i, vs, rfl, rfl, hq, by omega, by omega, ?_, fun q hn => k _ _ H2 w2 q rfl (E2.trans E3) S2 ((p1.mono E3.le).rep i.toNat) hn⟩
  rw [sizeLine_eq]
  have h1 : vs.length ≤ 1000 := by omega
  have h2 : i.toNat ≤ 1000 := by omega
  have := Nat.mul_le_mul h1 h2
  omega
theorem snd_repl {as : Cs} {n : C} {es : List Expr} {en : Expr} {p pos : Pos} (hb : (!n.isBor) = true) (h : PA X es (tAs P A call X as)) (hn : PE X en (tE P A call X n)) : PE X (.BinOp (.List es p) .Mult en pos) (tE P A call X (.repl as n)) := by
  refine PE.mono (pe_op op_rep (pe_lst h) hn) fun σ H Q t => ?_
  obtain ⟨w, ρ, st, H0, ex, d, st', S, R, e, k⟩ := t
  refine repl_step hb S R e fun xs vs H2 w2 q hd E2 S2 r hq => ?_
  subst hd
  exact new_lst S2 r hq fun v H3 w3 E3 S3 r3 => k v H3 w3 (E2.trans E3) S3 (pv_rd rfl r3)
theorem snd_newR {as : Cs} {n : C} {es : List Expr} {en : Expr} {p pos : Pos} (hb : (!n.isBor) = true) (h : PA X es (tAs P A call X as)) (hn : PE X en (tE P A call X n)) : PE X (.BinOp (.List es p) .Mult en pos) (tE P A call X (.newc (.repl as n))) := by
  refine PE.mono (pe_op op_rep (pe_lst h) hn) fun σ H Q t => ?_
  obtain ⟨w, ρ, st, H0, ex, d, st', S, R, e, k⟩ := t
  rw [ev] at e
  obtain ⟨x, st1, e1, e⟩ := Res.bind_is e
  refine repl_step hb S R e1 fun xs vs H2 w2 q hd E2 S2 r hq => ?_
  subst hd
  cases e
  obtain ⟨c1, c2, c3⟩ := cell_lst S2 hq r
  exact k _ _ _ (E2.trans c2) c1 (pv_rd rfl c3)
theorem rds_rg {K : PySem.W.Frag} {w : Wd} (n : Int) : RDs A K w ((List.range n.toNat).map fun i => D.int ((0 : Int) + (i : Nat))) (rgV 0 n) := by
  have h : ∀ l : List Nat, RDs A K w (l.map fun i => D.int ((0 : Int) + (i : Nat))) (l.map fun i => V.int ((0 : Int) + (i : Nat))) := fun l => by
    induction l with
    | nil => exact .nil
    | cons a r ih => exact .cons (.int _) ih
  have e : rgV 0 n = (List.range n.toNat).map fun i => V.int ((0 : Int) + (i : Nat)) := by
    unfold rgV
    simp
  rw [e]
  exact h _
theorem snd_lrng (cx : Cxt P A call fd lv N sc X) {a : C} {e : Expr} {x y : PySem.Str} {p p2 pos pos2 : Pos} (hx : x = ("list" : PySem.Str)) (hy : y = ("range" : PySem.Str)) (hg : glB sc x = true) (hg2 : glB sc y = true) (hf : P.blt.contains x = true) (hf2 : P.blt.contains y = true) (hb : (!a.isBor) = true) (hs : shape e = true) (ha : PE X e (tE P A call X a)) :
    PE X (.Call (.Name x p) [.Call (.Name y p2) [e] [] pos2] [] pos) (tE P A call X (.lrng a)) := by
  subst hx
  subst hy
  obtain ⟨g1, g2, g3⟩ := gl_of cx hg
  obtain ⟨k1, k2, k3⟩ := gl_of cx hg2
  refine PE.mono (pe_listRg cx.calm g1 (cx.gok.free _ hf) (prg_1 k1 (cx.gok.free _ hf2) ha (star_of [] X.env hs)) rfl) fun σ H Q t => ?_
  obtain ⟨w, ρ, st, H0, ex, d, st', S, R, e, k⟩ := t
  simp only [ev] at e
  obtain ⟨z, st1, e1, e⟩ := Res.bind_is e
  unfold lrngD at e
  split at e
  · rename_i i
    split at e
    · rename_i hc
      cases e
      refine ⟨w, ρ, st, H0, ex, _, _, S, R, e1, fun v H1 w1 E1 S1 p1 => ?_⟩
      have hv := p1.rd hb
      cases hv
      refine ⟨i, rfl, ⟨by omega, by omega, by omega, by omega, by omega⟩, fun q hq => ?_⟩
      exact new_lst S1 (rds_rg i) hq fun u H2 w2 E2 S2 r2 => k u H2 w2 (E1.trans E2) S2 (pv_rd rfl r2)
    · cases e
  · cases e
end
end Eng

namespace Eng
open PySem PySem.Spec PyProof.Rows L2
theorem it_gen {J : L2.It} {n : Nat} {G : Hp → Prop} {Y : Nat → Hp → V → Hp → Prop} (w : Walk J n G Y) {Body : V → Hp → (Hp → Prop) → Prop} {H1 : Hp} {Qd : Hp → Prop} (Pv : Nat → Hp → Prop) (h0 : Pv 0 H1) (hG : ∀ i H, i ≤ n → Pv i H → G H)
    (hs : ∀ i x H H', i < n → Pv i H → Y i H x H' → Body x H' (Pv (i + 1))) (hd : ∀ H, Pv n H → Qd H) :
    ∃ W : Nat → Nat → Hp → Prop, (∃ m, W 0 m H1) ∧ ∀ i m H, W i m H → (J.stop i H ∧ Qd H) ∨ (J.go i H ∧ ∃ Nx : Hp → Prop, (∀ H', Nx H' → ∃ m', m' < m ∧ W (i + 1) m' H') ∧ ∀ x H', J.yld i H x H' → Body x H' Nx) := by
  refine ⟨fun i m H => m = n - i ∧ i ≤ n ∧ Pv i H, ⟨n, by simp, Nat.zero_le _, h0⟩, ?_⟩
  rintro i m H ⟨rfl, hi, p⟩
  have q := hG i H hi p
  by_cases hlt : i < n
  · exact .inr ⟨w.goes i H hlt q, Pv (i + 1), fun H' p' => ⟨n - (i + 1), by omega, rfl, hlt, p'⟩, fun x H' y => hs i x H H' hlt p (w.yields i H x H' hlt q y)⟩
  · have e : i = n := by omega
    subst e
    exact .inl ⟨w.stops H q, hd H p⟩
theorem wipe_sub (σ : L2.St) : ∀ (a b : List Nat), wipe (wipe σ b) a = wipe (wipe σ a) b
  | [], b => rfl
  | x :: a, b => by
    have h : ∀ (b : List Nat) (τ : L2.St), wipe (τ.set x none) b = (wipe τ b).set x none := by
      intro b
      induction b with
      | nil => intro τ; rfl
      | cons y b ih =>
        intro τ
        show (wipe (τ.set x none) b).set y none = ((wipe τ b).set y none).set x none
        rw [ih]
        by_cases e : x = y
        · subst e; simp
        · rw [List.set_comm _ _ e]
    show (wipe (wipe σ b) a).set x none = wipe ((wipe σ a).set x none) b
    rw [h, wipe_sub σ a b]
section
variable {P : Prg} {A : Ad} {call : Nat → List D → Store → Res D} {fd : Nat → FuncData} {lv : Nat} {N : List PySem.Str} {sc : Scope} {X : Cx}
theorem ifs_nil {w : Wd} {ρ : Env} {st : Store} {H0 : Hp} {ex : Addr → Prop} {σ : L2.St} {H : Hp} {Q : Bool → Hp → Prop} (S : SR A X.K w st H) (R : RS A X.K H0 ex w ρ σ H) (k : Q true H) (q : ∀ H' w', Ext no w H w' H' → SR A X.K w' st H' → Q true H') : tIfs P A call X .nil σ H Q :=
  ⟨w, ρ, st, H0, ex, true, st, S, R, by simp only [evIfs], q⟩
theorem drop_at' {xs : List D} {i : Nat} {d : D} (hd : xs[i]? = some d) : xs.drop i = d :: xs.drop (i + 1) := by
  obtain ⟨h1, h2⟩ := List.getElem?_eq_some_iff.mp hd
  rw [List.drop_eq_getElem_cons h1, h2]
theorem bind_step2 {tg : List Nat} {d : D} {v : V} {w : Wd} {st : Store} {H0 : Hp} {ex : Addr → Prop} {ρ ρ' : Env} {σ : L2.St} {H : Hp} {Q : L2.St → Hp → Prop} (S : SR A X.K w st H) (R : RS A X.K H0 ex w ρ σ H) (r : RD A X.K w d v) (e : bindT tg d ρ = some ρ')
    (k : ∀ σ', (∀ w' H', w.le w' → RS A X.K H0 ex w' ρ σ H' → RS A X.K H0 ex w' ρ' σ' H') → (∀ vs, (∀ i ∈ tg, i ∈ vs) → wipe σ' vs = wipe σ vs) → Q σ' H) : gTg X.K tg v σ H Q := by
  unfold bindT at e
  split at e
  · rename_i i
    split at e
    · rename_i hi
      cases e
      exact k _ (fun w' H' l R' => R'.setv hi (r.mono l)) fun vs hv => wipe_set (hv i List.mem_cons_self)
    · cases e
  · rename_i hne
    cases d with
    | tup ds =>
      obtain ⟨a, vs, rfl, hq, rr⟩ := r.tupl S
      have hlen : ds.length = tg.length := setAll_len e
      have fin : gTup X.K tg.length (gSets tg) (.ref a) σ H Q := ⟨a, vs, rfl, hq, by rw [← rr.length, hlen], by rw [← rr.length, hlen], k _ (fun w' H' l R' => rs_sets R' e (rr.mono l)) fun vs' hv => wipe_sets hv⟩
      unfold gTg
      split
      · rename_i i
        exact absurd rfl (hne i)
      · exact fin
    | _ => cases e
theorem lc2_step (elt : C) (tg : List Nat) (it : Eng.It) (tg2 : List Nat) (it2 : Eng.It) (hbe : (!elt.isBor) = true) : ∀ σ H Q, tE P A call X (.lc2 elt tg it tg2 it2) σ H Q →
    tLc2 (tI P A call X it) (gTg X.K tg) (tIfs P A call X .nil) (tI P A call X it2) (gTg X.K tg2) (tIfs P A call X .nil) (tE P A call X elt) (tg ++ tg2) tg2 σ H Q := by
  intro σ H Q h
  obtain ⟨w, ρ, st, H0, ex, d, st', S, R, e, k⟩ := te_tf (c := .lc2 elt tg it tg2 it2) rfl σ H Q h
  simp only [ev] at e
  obtain ⟨xs, st1, e1, e⟩ := Res.bind_is e
  split at e
  · cases e
  rename_i hlen
  obtain ⟨ys, st2, e2, e3⟩ := Res.bind_is e
  cases e3
  refine ⟨w, ρ, st, H0, ex, xs, st1, S, R, e1, fun J H1 w1 E1 S1 W => fun L hL => ?_⟩
  obtain ⟨G, Y, wk, hG, hY⟩ := W
  generalize hf : (fun d st2 => match bindT tg d (wipeE ρ (tg ++ tg2)) with
      | some ρ1 => (evIt P.tab call it2 ρ1 st2).bind fun ys st3 => if 1000 < ys.length then (.bad : Res (List D)) else mapR (fun e st4 => match bindT tg2 e (wipeE ρ1 tg2) with
          | some ρ2 => (ev P.tab call elt ρ2 st4).bind fun y st5 => .ok (some y) st5
          | none => .bad) ys st3
      | none => .bad) = f at e2
  refine it_gen wk (Body := fun x H' Nx => gTg X.K tg x (wipe σ (tg ++ tg2)) H' fun σ2 H2 => wipe σ2 (tg ++ tg2) = wipe σ (tg ++ tg2) ∧ tIfs P A call X .nil σ2 H2 fun b H3 =>
    if b = true then tI P A call X it2 σ2 H3 fun J1 H4 => ∃ W1 : Nat → Nat → Hp → Prop, (∃ m, W1 0 m H4) ∧ ∀ j k H, W1 j k H →
      (J1.stop j H ∧ Nx H) ∨ (J1.go j H ∧ ∃ Nx1 : Hp → Prop, (∀ H', Nx1 H' → ∃ k', k' < k ∧ W1 (j + 1) k' H') ∧ ∀ x H', J1.yld j H x H' → gTg X.K tg2 x (wipe σ2 tg2) H' fun σ3 H5 => wipe σ3 tg2 = wipe σ2 tg2 ∧ tIfs P A call X .nil σ3 H5 fun b H6 =>
        if b = true then tE P A call X elt σ3 H6 fun y H7 => ∃ acc, H7 L = some (.lst acc) ∧ acc.length < sizeLine ∧ Nx1 (upd H7 L (.lst (acc ++ [y]))) else Nx1 H6)
    else Nx H3)
    (fun i H => ∃ w2 sti acc vs rest, Ext no w1 H1 w2 H ∧ SR A X.K w2 sti H ∧ Priv w2 L ∧ H L = some (.lst vs) ∧ RDs A X.K w2 acc vs ∧ acc.length ≤ 1000 * i ∧ flatR f (xs.drop i) sti = .ok rest st' ∧ ys = acc ++ rest) ?_ ?_ ?_ ?_
  · exact ⟨w1, st1, [], [], ys, ext_new (st := st1) hL, sr_new S1 hL, priv_new S1 hL, upd_same, .nil, Nat.zero_le _, by simpa using e2, rfl⟩
  · rintro i H2 _ ⟨w2, sti, acc, vs, rest, E2, S2, _⟩
    exact hG w2 sti H2 E2.le S2
  · rintro i x H2 H3 hi ⟨w2, sti, acc, vs, rest, E2, S2, pr, hq, ra, hacc, em, hys⟩ y
    obtain ⟨w3, d, hd, E3, S3, rd⟩ := hY i H2 x H3 w2 sti hi E2.le S2 y
    rw [drop_at' hd] at em
    simp only [flatR] at em
    obtain ⟨zs, st3, f1, em⟩ := Res.bind_is em
    obtain ⟨rest', st4, f2, em⟩ := Res.bind_is em
    cases em
    have R3 : RS A X.K H0 ex w3 (wipeE ρ (tg ++ tg2)) (wipe σ (tg ++ tg2)) H3 := (R.ext (E1.trans (E2.trans E3))).wipe (tg ++ tg2)
    rw [← hf] at f1
    dsimp only at f1
    cases hb : bindT tg d (wipeE ρ (tg ++ tg2)) with
    | none => rw [hb] at f1; cases f1
    | some ρ1 =>
      rw [hb] at f1
      dsimp only at f1
      obtain ⟨us, st5, f3, f1⟩ := Res.bind_is f1
      split at f1
      · cases f1
      rename_i hlen2
      refine bind_step2 S3 R3 rd hb fun σ2 HR hw => ?_
      have R4 := HR w3 H3 (.refl _) R3
      refine ⟨?_, w3, ρ1, sti, H0, ex, true, sti, S3, R4, by simp only [evIfs], fun H5 w5 E5 S5 => ?_⟩
      · rw [hw (tg ++ tg2) fun i hi => List.mem_append_left _ hi]
        exact wipe_wipe _ _
      dsimp only
      rw [if_pos rfl]
      have q5 := E5.fr L _ (E3.fr L _ hq pr.2 (fun z => z)) (pr.ext hq E3).2 (fun z => z)
      have p5 := (pr.ext hq E3).ext (E3.fr L _ hq pr.2 (fun z => z)) E5
      have r5 := (ra.mono E3.le).mono E5.le
      refine ⟨w5, ρ1, sti, H0, ex, us, st5, S5, R4.ext E5, f3, fun J1 H6 w6 E6 S6 W1 => ?_⟩
      obtain ⟨G1, Y1, wk1, hG1, hY1⟩ := W1
      have q6 := E6.fr L _ q5 p5.2 (fun z => z)
      have p6 := p5.ext q5 E6
      have r6 := r5.mono E6.le
      have E06 := E2.trans (E3.trans (E5.trans E6))
      generalize hg : (fun e st4 => match bindT tg2 e (wipeE ρ1 tg2) with
          | some ρ2 => (ev P.tab call elt ρ2 st4).bind fun y st5 => .ok (some y) st5
          | none => (.bad : Res (Option D))) = g at f1
      refine it_gen wk1 (Body := fun x H' Nx1 => gTg X.K tg2 x (wipe σ2 tg2) H' fun σ3 H5 => wipe σ3 tg2 = wipe σ2 tg2 ∧ tIfs P A call X .nil σ3 H5 fun b H6 =>
        if b = true then tE P A call X elt σ3 H6 fun y H7 => ∃ acc, H7 L = some (.lst acc) ∧ acc.length < sizeLine ∧ Nx1 (upd H7 L (.lst (acc ++ [y]))) else Nx1 H6)
        (fun j H => ∃ w7 stj don vs7 rest7, Ext no w1 H1 w7 H ∧ w6.le w7 ∧ SR A X.K w7 stj H ∧ Priv w7 L ∧ H L = some (.lst vs7) ∧ RDs A X.K w7 (acc ++ don) vs7 ∧ don.length ≤ j ∧ mapR g (us.drop j) stj = .ok rest7 st3 ∧ zs = don ++ rest7) ?_ ?_ ?_ ?_
      · exact ⟨w6, st5, [], vs, zs, E06, .refl _, S6, p6, q6, by simpa using r6, Nat.le_refl _, by simpa using f1, rfl⟩
      · rintro j H7 _ ⟨w7, stj, don, vs7, rest7, E7, l7, S7, _⟩
        exact hG1 w7 stj H7 l7 S7
      · rintro j x2 H7 H8 hj ⟨w7, stj, don, vs7, rest7, E7, l7, S7, p7, q7, r7, hdon, em7, hz⟩ y2
        obtain ⟨w8, d2, hd2, E8, S8, rd2⟩ := hY1 j H7 x2 H8 w7 stj hj l7 S7 y2
        rw [drop_at' hd2] at em7
        simp only [mapR] at em7
        obtain ⟨o, st6, g1, em7⟩ := Res.bind_is em7
        obtain ⟨rest8, st7, g2, em7⟩ := Res.bind_is em7
        have R8 : RS A X.K H0 ex w8 (wipeE ρ1 tg2) (wipe σ2 tg2) H8 := (HR w8 H8 (E5.le.trans (E6.le.trans (l7.trans E8.le))) ((R.ext (E1.trans (E7.trans E8))).wipe (tg ++ tg2))).wipe tg2
        rw [← hg] at g1
        dsimp only at g1
        cases hb2 : bindT tg2 d2 (wipeE ρ1 tg2) with
        | none => rw [hb2] at g1; cases g1
        | some ρ2 =>
          rw [hb2] at g1
          dsimp only at g1
          obtain ⟨y1, st8, g3, g1⟩ := Res.bind_is g1
          cases g1
          cases em7
          refine bind_step S8 R8 rd2 hb2 fun σ3 R9 hw2 => ⟨?_, w8, ρ2, stj, H0, ex, true, stj, S8, R9, by simp only [evIfs], fun H9 w9 E9 S9 => ?_⟩
          · rw [hw2 tg2 fun i hi => hi]
            exact wipe_wipe _ _
          dsimp only
          rw [if_pos rfl]
          have q8 := E8.fr L _ q7 p7.2 (fun z => z)
          have p8 := p7.ext q7 E8
          have q9 := E9.fr L _ q8 p8.2 (fun z => z)
          have p9 := p8.ext q8 E9
          refine ⟨w9, ρ2, stj, H0, ex, y1, _, S9, R9.ext E9, g3, fun v H10 w10 E10 S10 pv => ?_⟩
          have rv := pv.rd hbe
          have q10 := E10.fr L _ q9 p9.2 (fun z => z)
          have p10 := p9.ext q9 E10
          have r10 := ((r7.mono E8.le).mono E9.le).mono E10.le
          have hlu : us.length ≤ 1000 := by omega
          have hlx : xs.length ≤ 1000 := by omega
          refine ⟨vs7, q10, ?_, w10, _, don ++ [y1], vs7 ++ [v], rest8, ext_wr (E7.trans (E8.trans (E9.trans E10))) hL, l7.trans (E8.le.trans (E9.le.trans E10.le)), sr_write S10 p10, p10, upd_same, by rw [← List.append_assoc]; exact r10.append (.cons rv .nil), by simp; omega, g2, by rw [hz]; simp⟩
          · have := r7.length
            rw [List.length_append] at this
            rw [← this, sizeLine_eq]
            have : 1000 * i ≤ 1000 * 1000 := Nat.mul_le_mul_left _ (by omega)
            omega
      · rintro H7 ⟨w7, stj, don, vs7, rest7, E7, l7, S7, p7, q7, r7, hdon, em7, hz⟩
        rw [List.drop_length] at em7
        cases em7
        rw [List.append_nil] at hz
        subst hz
        exact ⟨w7, _, acc ++ zs, vs7, rest', E7, S7, p7, q7, r7, by rw [List.length_append]; omega, f2, by rw [hys]; simp⟩
  · rintro H2 ⟨w2, sti, acc, vs, rest, E2, S2, pr, hq, ra, hacc, em, hys⟩
    rw [List.drop_length] at em
    cases em
    rw [List.append_nil] at hys
    subst hys
    exact k _ _ w2 (E1.trans E2) S2 ⟨_, L, vs, rfl, rfl, hq, ra, pr, E1.none_of hL⟩
end
/-! ### a call that only reads, with owned lists among its arguments -/
section
variable {A : Ad} {K : PySem.W.Frag} {w : Wd}
mutual
theorem rd_pl {w0 : Wd} (g : ∀ a o, w.G a = some o → w0.G a = some o) : ∀ {d : D} {v : V}, RD A K w d v → plain d = true → RD A K w0 d v
  | _, _, .non, _ => .non
  | _, _, .bl b, _ => .bl b
  | _, _, .int i, _ => .int i
  | _, _, .str s, _ => .str s
  | _, _, .tup h r, p => .tup (sqT_mono g h) (rds_pl g r (by simpa only [plain] using p))
  | _, _, .lst h r, p => .lst (sqL_mono g h) (rds_pl g r (by simpa only [plain] using p))
  | _, _, .ins h r, p => by simp [plain] at p
  | _, _, .fn j, p => by simp [plain] at p
  | _, _, .ref h, p => by simp [plain] at p
theorem rds_pl {w0 : Wd} (g : ∀ a o, w.G a = some o → w0.G a = some o) : ∀ {d : List D} {v : List V}, RDs A K w d v → plains d = true → RDs A K w0 d v
  | _, _, .nil, _ => .nil
  | _, _, .cons h r, p => by
    simp only [plains, Bool.and_eq_true] at p
    exact .cons (rd_pl g h p.1) (rds_pl g r p.2)
end
theorem flat_any {w0 : Wd} {d : D} {v : V} (h : RD A K w d v) (p : flat d = true) : RD A K w0 d v := by
  cases h <;> first | (simp [flat] at p; done) | constructor
inductive RXs (A : Ad) (K : PySem.W.Frag) (w : Wd) (H : Hp) : List D → List V → Prop where
  | nil : RXs A K w H [] []
  | cons {d : D} {v : V} {ds : List D} {vs : List V} (h : RX A K w H d v) (r : RXs A K w H ds vs) : RXs A K w H (d :: ds) (v :: vs)
theorem RXs.ext {w' : Wd} {H H' : Hp} (e : Ext no w H w' H') : ∀ {ds : List D} {vs : List V}, RXs A K w H ds vs → RXs A K w' H' ds vs
  | _, _, .nil => .nil
  | _, _, .cons h r => .cons (h.ext e) (RXs.ext e r)
theorem RXs.length {H : Hp} : ∀ {ds : List D} {vs : List V}, RXs A K w H ds vs → ds.length = vs.length
  | _, _, .nil => rfl
  | _, _, .cons _ r => congrArg Nat.succ r.length
theorem rxs_frz {st : Store} {H : Hp} (S : SR A K w st H) : ∀ {ds : List D} {vs : List V}, RXs A K w H ds vs → plains ds = true → RDs A K ⟨H, fun _ => 0, 0⟩ ds vs
  | _, _, .nil, _ => .nil
  | _, _, .cons h r, p => by
    simp only [plains, Bool.and_eq_true] at p
    refine .cons ?_ (rxs_frz S r p.2)
    rcases h with h | ⟨xs, a, vs, rfl, rfl, h3, h4, h5⟩
    · exact rd_pl (w0 := ⟨H, fun _ => 0, 0⟩) S.sub h p.1
    · exact .lst (SqL.of h3) (rds_pl (w0 := ⟨H, fun _ => 0, 0⟩) S.sub h4 (by simpa only [plain] using p.1))
end
section
variable {P : Prg} {A : Ad} {call : Nat → List D → Store → Res D} {fd : Nat → FuncData} {lv : Nat} {N : List PySem.Str} {sc : Scope} {X : Cx}
variable (P A call X) in
def tBs (as : Cs) : TA := fun σ H Q => ∃ w ρ st H0 ex ds st', SR A X.K w st H ∧ RS A X.K H0 ex w ρ σ H ∧ evs P.tab call as ρ st = .ok ds st' ∧ ∀ vs H' w', Ext no w H w' H' → SR A X.K w' st' H' → RXs A X.K w' H' ds vs → Q vs H'
theorem snd_bnil : PA X [] (tBs P A call X .nil) := by
  refine PA.mono pa_nil fun σ H Q t => ?_
  obtain ⟨w, ρ, st, H0, ex, ds, st', S, R, e, k⟩ := t
  simp only [evs] at e
  cases e
  exact k [] H w (.refl _ _ _) S .nil
theorem snd_bcons {c : C} {r : Cs} {e : Expr} {es : List Expr} (hs : shape e = true) (h : PE X e (tE P A call X c)) (hr : PA X es (tBs P A call X r)) : PA X (e :: es) (tBs P A call X (.cons c r)) := by
  refine PA.mono (pa_cons h hr (star_of es X.env hs)) fun σ H Q t => ?_
  obtain ⟨w, ρ, st, H0, ex, ds, st', S, R, e, k⟩ := t
  simp only [evs] at e
  obtain ⟨x, st1, e1, e⟩ := Res.bind_is e
  obtain ⟨xs, st2, e2, e⟩ := Res.bind_is e
  cases e
  exact ⟨w, ρ, st, H0, ex, x, st1, S, R, e1, fun v H1 w1 E1 S1 p1 => ⟨w1, ρ, st1, H0, ex, xs, st', S1, R.ext E1, e2, fun vs H2 w2 E2 S2 p2 => k (v :: vs) H2 w2 (E1.trans E2) S2 (.cons (p1.rx.ext E2) p2)⟩⟩
theorem callB_step {j : Nat} {f : FnI} {as : Cs} (cx : Cxt P A call fd lv N sc X) (hf : P.fns[j]? = some f) (hi : f.init = none) :
    ∀ σ H Q, tE P A call X (.callB j as) σ H Q → tCall (spF A X.K call j f) [] E0 (tBs P A call X as) σ H Q := by
  rintro σ H Q ⟨w, ρ, st, H0, ex, d, st', S, R, e, k⟩
  simp only [ev] at e
  obtain ⟨xs, st1, e1, e⟩ := Res.bind_is e
  split at e
  rotate_left
  · cases e
  rename_i hp
  split at e
  rotate_left
  · cases e
  rename_i d' hcall
  split at e
  rotate_left
  · cases e
  rename_i hfl
  cases e
  refine ⟨w, ρ, st, H0, ex, xs, st', S, R, e1, fun vs H1 w1 E1 S1 p1 => ?_⟩
  show spF A X.K call j f (vs ++ []) H1 Q E0
  rw [List.append_nil]
  obtain ⟨f', hf', hc⟩ := cx.cok j xs [] d [] hcall
  rw [hf] at hf'
  cases hf'
  rcases hc with ⟨_, hlen⟩ | ⟨c', fs, h', _⟩
  · have S0 : SR A X.K ⟨H1, fun _ => 0, 0⟩ [] H1 := ⟨fun _ _ h => h, rfl, fun k c q => by simp at q, fun i j hi => absurd hi (Nat.not_lt_zero _), fun k hk => absurd hk (Nat.not_lt_zero _)⟩
    refine sp_of hi (by rw [← p1.length, hlen]) (rxs_frz S1 p1 hp) S0 hcall fun v H2 w2 E2 S2 r2 => ?_
    have keep : ∀ a o, H1 a = some o → H2 a = some o := fun a o q => E2.fr a o q (fun k hk => absurd hk (Nat.not_lt_zero _)) (fun z => z)
    have S3 : SR A X.K w1 st' H2 := by
      refine ⟨fun a o q => keep a o (S1.sub a o q), S1.len, fun k c q => ?_, S1.inj, S1.nog⟩
      have z := S1.cell k c q
      cases c with
      | dk kvs =>
        obtain ⟨gs, z1, z2⟩ := z
        exact ⟨gs, z1, keep _ _ z2⟩
      | lk ys =>
        obtain ⟨gs, z1, z2⟩ := z
        exact ⟨gs, z1, keep _ _ z2⟩
      | dead =>
        have z : H1 (w1.μ k) ≠ none := z
        obtain ⟨o, ho⟩ := Option.ne_none_iff_exists'.mp z
        show H2 (w1.μ k) ≠ none
        rw [keep _ _ ho]
        exact fun q => nomatch q
    have E3 : Ext no w1 H1 w1 H2 := ⟨.refl _, fun a o q _ _ => keep a o q, fun a o q => ⟨o, keep a o q⟩, fun _ _ q => .inl q, fun k h1 h2 => absurd h2 (Nat.not_lt.mpr h1)⟩
    exact k v H2 w1 (E1.trans E3) S3 (pv_rd rfl (flat_any r2 hfl))
  · rw [hi] at h'
    cases h'
theorem snd_callB (cx : Cxt P A call fd lv N sc X) {j : Nat} {as : Cs} {x : PySem.Str} {p pos : Pos} {e : Expr} {es : List Expr} (hhot : hotOk P N j = true) (hg : glB sc x = true) (hfb : fnB P j x (e :: es).length [] = true) (hs : (e :: es).all shape = true) (ha : PA X (e :: es) (tBs P A call X as)) :
    PE X (.Call (.Name x p) (e :: es) [] pos) (tE P A call X (.callB j as)) := by
  obtain ⟨f, hf, hgl, hi, hds⟩ := fn_of' hfb
  obtain ⟨g1, g2, g3⟩ := gl_of cx hg
  have hm := cx.gok.gfn j f x hf hgl
  rw [List.all_cons, Bool.and_eq_true] at hs
  exact PE.mono (call_pos cx hf hhot (dvs := []) .nil (cx.bnd j f hf) g1 hm g2 ha (star_of es X.env hs.1) (plain_of pos X.env es hs.2)) (callB_step cx hf hi)
end
end Eng

namespace Eng
open PySem PySem.Spec PyProof.Rows L2
section
variable {P : Prg} {A : Ad} {call : Nat → List D → Store → Res D} {fd : Nat → FuncData} {lv : Nat} {N : List PySem.Str}
def BE (P : Prg) (A : Ad) (call : Nat → List D → Store → Res D) (X : Cx) (c : C) (e : Expr) : Prop := PE X e (tE P A call X c) ∧ (tokE e = true → PT X e (tTst P A call X c))
theorem be_val {sc : Scope} {X : Cx} {c : C} {e : Expr} (cx : Cxt P A call fd lv N sc X) (ht : plainTest e = true) (h : PE X e (tE P A call X c)) : BE P A call X c e := ⟨h, fun _ => tst_val cx ht h⟩
theorem be_nt {X : Cx} {c : C} {e : Expr} (ht : tokE e = false) (h : PE X e (tE P A call X c)) : BE P A call X c e := ⟨h, fun z => by rw [ht] at z; cases z⟩
theorem o_of {sc : Scope} {X : Cx} {c : C} {o : Option Expr} (hs : ∀ e, chkE P N sc c e = true → PE X e (tE P A call X c)) (h : chkO c (fun e => chkE P N sc c e) o = true) : PO X o (tOpt P A call X c) := by
  cases o with
  | none =>
    cases c with
    | non => exact snd_none
    | _ => exact absurd h Bool.false_ne_true
  | some e =>
    simp only [chkO, Bool.and_eq_true] at h
    exact snd_some h.1.1.2 (by simpa using h.1.1.1) (hs _ h.2)
theorem lc2_inv {sc : Scope} {elt : C} {tg tg2 : List Nat} {it it2 : Eng.It} {e : Expr} (h : chkE P N sc (.lc2 elt tg it tg2 it2) e = true) : ∃ ee t i t2 i2 scope pos, e = .ListComp ee [⟨t, i, [], 0⟩, ⟨t2, i2, [], 0⟩] scope pos ∧ blkC N sc scope (((tg ++ tg2).map fun k => N.getD k "").zip (tg ++ tg2)) = true ∧ targetB N (ownB scope) tg t = true ∧ targetB N (ownB scope) tg2 t2 = true ∧ chkI P N sc it i t = true ∧ shape i = true ∧ chkI P N (relS scope sc) it2 i2 t2 = true ∧ shape i2 = true ∧ (!elt.isBor) = true ∧ chkE P N (relS scope sc) elt ee = true := by
  cases e with
  | ListComp ee gs scope pos =>
    simp only [chkE] at h
    split at h
    · rename_i g hg
      obtain rfl := gen2_is hg
      simp only [Bool.and_eq_true] at h
      obtain ⟨⟨⟨⟨⟨⟨⟨h1, h2⟩, h3⟩, h4⟩, h5⟩, h6⟩, h7⟩, ⟨h8, h9⟩, h10⟩ := h
      exact ⟨ee, _, _, _, _, scope, pos, rfl, h1, h2, h3, h4, h5, h6, h7, h8, h10⟩
    · cases h
  | _ => simp [chkE] at h
theorem ifs_nil' {X : Cx} : PTs X [] (tIfs P A call X .nil) := by
  refine ⟨fun pins s σ H Q I q => pts_nil.run pins s σ H Q I ?_⟩
  obtain ⟨w, ρ, st, H0, ex, k, st', S, R, e, kk⟩ := q
  simp only [evIfs] at e
  cases e
  exact kk _ _ (.refl _ _ _) S
theorem snd_lc2 {sc : Scope} {X : Cx} (cx : Cxt P A call fd lv N sc X) {elt : C} {tg tg2 : List Nat} {it it2 : Eng.It} {ee t i t2 i2 : Expr} {scope : Scope} {pos : Pos} (h1 : blkC N sc scope (((tg ++ tg2).map fun k => N.getD k "").zip (tg ++ tg2)) = true) (h2 : targetB N (ownB scope) tg t = true) (h3 : targetB N (ownB scope) tg2 t2 = true) (h5 : shape i = true) (h7 : shape i2 = true) (h8 : (!elt.isBor) = true)
    (hi : PI X t i (tI P A call X it)) (hi2 : ∀ (s : Shared) (H : Hp) (C : Addr) (cl : List (PySem.Str × Addr)) (fp : List Addr), PI (X.blk s H scope (compEnvC scope cl C X.env) fp) t2 i2 (tI P A call X it2)) (he : ∀ (s : Shared) (H : Hp) (C : Addr) (cl : List (PySem.Str × Addr)) (fp : List Addr), PE (X.blk s H scope (compEnvC scope cl C X.env) fp) ee (tE P A call X elt)) :
    PE X (.ListComp ee [⟨t, i, [], 0⟩, ⟨t2, i2, [], 0⟩] scope pos) (tE P A call X (.lc2 elt tg it tg2 it2)) := by
  have hpe := pe_lc2 (pos := pos) (g := gTg X.K tg) (g1 := gTg X.K tg2) (tt := tIfs P A call X .nil) (tt1 := tIfs P A call X .nil) (te := tE P A call X elt) (vs1 := tg2) (wi1 := tI P A call X it2) cx.calm cx.nd hi (own := ((tg ++ tg2).map fun k => N.getD k "").zip (tg ++ tg2)) (blkOk_by (by rw [cx.N, cx.sc]; exact h1))
    (fun i hi => by rw [zip_snd]; exact List.mem_append_right _ hi)
    (fun s H Cc cl fp => pg_tg (N := N) (cxt_blk cx s H Cc cl fp).calm (cxt_blk cx s H Cc cl fp).nd (cxt_blk cx s H Cc cl fp).N (fun x hx => by
      rw [(cxt_blk (scope := scope) cx s H Cc cl fp).sc]
      exact own_loc hx) h2)
    (fun s H Cc cl fp => ifs_nil') hi2
    (fun s H Cc cl fp => pg_tg (N := N) (cxt_blk cx s H Cc cl fp).calm (cxt_blk cx s H Cc cl fp).nd (cxt_blk cx s H Cc cl fp).N (fun x hx => by
      rw [(cxt_blk (scope := scope) cx s H Cc cl fp).sc]
      exact own_loc hx) h3)
    (fun s H Cc cl fp => ifs_nil') he (fun x => fold_of _ h5 x) (fun env x => fold_of env h7 x)
  rw [zip_snd] at hpe
  exact PE.mono hpe (lc2_step elt tg it tg2 it2 h8)
/-- what is known of smaller terms -/
structure IHE (P : Prg) (A : Ad) (call : Nat → List D → Store → Res D) (fd : Nat → FuncData) (lv : Nat) (N : List PySem.Str) (n : Nat) : Prop where
  run : ∀ (c : C) {sc : Scope} {X : Cx} {e : Expr}, sizeOf c < n → Cxt P A call fd lv N sc X → chkE P N sc c e = true → BE P A call X c e
theorem sndKs0 {n : Nat} (ih : IHE P A call fd lv N n) : ∀ (as : Cs) {sc : Scope} {X : Cx} {ks : List Keyword}, sizeOf as ≤ n → Cxt P A call fd lv N sc X → chkKs P N sc as ks = true → PK X ks (tAs P A call X as)
  | .nil, sc, X, ks, hn, cx, h => by
    cases ks with
    | nil => exact snd_knil
    | cons _ _ => simp [chkKs] at h
  | .cons c r, sc, X, ks, hn, cx, h => by
    cases ks with
    | nil => simp [chkKs] at h
    | cons k ks =>
      obtain ⟨nm, e, kp⟩ := k
      simp only [chkKs, Bool.and_eq_true] at h
      exact snd_kcons h.1.1.1 (ih.run c (by simp at hn; omega) cx h.1.2).1 (sndKs0 ih r (by simp at hn; omega) cx h.2)
theorem sndEs0 {n : Nat} (ih : IHE P A call fd lv N n) : ∀ (as : Cs) {sc : Scope} {X : Cx} {es : List Expr}, sizeOf as ≤ n → Cxt P A call fd lv N sc X → chkEs P N sc as es = true → PA X es (tAs P A call X as)
  | .nil, sc, X, es, hn, cx, h => by
    cases es with
    | nil => exact snd_nil
    | cons _ _ => simp [chkEs] at h
  | .cons c r, sc, X, es, hn, cx, h => by
    cases es with
    | nil => simp [chkEs] at h
    | cons e es =>
      simp only [chkEs, Bool.and_eq_true] at h
      exact snd_cons h.1.1.1 h.1.1.2 (ih.run c (by simp at hn; omega) cx h.1.2).1 (sndEs0 ih r (by simp at hn; omega) cx h.2)
theorem sndPs0 {n : Nat} (ih : IHE P A call fd lv N n) : ∀ (as : Cs) (ks : List Nat) (pos : Pos) {sc : Scope} {X : Cx} {keys : List (Option Expr)} {vals : List Expr}, sizeOf as ≤ n → Cxt P A call fd lv N sc X → chkK P ks keys = true → chkEs P N sc as vals = true → keys.length = vals.length → PPs X pos keys vals (trsOf P A call X ks as) ∧ keys.all (·.isSome) = true ∧ keys.length = ks.length
  | .nil, ks, pos, sc, X, keys, vals, hn, cx, h1, h2, hl => by
    cases vals with
    | cons _ _ => simp [chkEs] at h2
    | nil =>
      match ks, keys, h1, hl with
      | [], [], _, _ => exact ⟨pps_nil, rfl, rfl⟩
      | [], _ :: _, h1, _ => simp [chkK] at h1
      | _ :: _, [], h1, _ => simp [chkK] at h1
      | k :: ks, ke :: keys, _, hl => simp at hl
  | .cons c r, ks, pos, sc, X, keys, vals, hn, cx, h1, h2, hl => by
    cases vals with
    | nil => simp [chkEs] at h2
    | cons e es =>
      simp only [chkEs, Bool.and_eq_true] at h2
      match ks, keys, h1, hl with
      | [], [], _, hl => simp at hl
      | [], _ :: _, h1, _ => simp [chkK] at h1
      | _ :: _, [], h1, _ => simp [chkK] at h1
      | k :: ks, none :: keys, h1, _ => simp [chkK] at h1
      | k :: ks, some ek :: keys, h1, hl =>
        cases ek with
        | Constant kc kk p2 =>
          cases kc with
          | str s =>
            simp only [chkK, Bool.and_eq_true, decide_eq_true_eq] at h1
            obtain ⟨z1, z2, z3⟩ := sndPs0 ih r ks pos (by simp at hn; omega) cx h1.2 h2.2 (by simpa using hl)
            refine ⟨?_, by simp [z2], by simp [z3]⟩
            have q := pps_cons (pos := pos) (pe_str (X := X) (x := s) (j := kk) (pos := p2)) (ih.run c (by simp at hn; omega) cx h2.1.2).1 z1
            have hk := h1.1
            subst hk
            exact q
          | _ => simp [chkK] at h1
        | _ => simp [chkK] at h1
theorem sndAnd0 {n : Nat} (ih : IHE P A call fd lv N n) : ∀ (as : Cs) (pos : Pos) {sc : Scope} {X : Cx} {es : List Expr}, sizeOf as ≤ n → Cxt P A call fd lv N sc X → chkEs P N sc as es = true → es ≠ [] → PE X (.BoolOp .And es pos) (tE P A call X (.and as)) ∧ (tokEs es = true → PW X (.BoolOp .And es pos) (tTst P A call X (.and as)))
  | .nil, pos, sc, X, es, hz, cx, h, hn => by
    cases es with
    | nil => exact absurd rfl hn
    | cons _ _ => simp [chkEs] at h
  | .cons c .nil, pos, sc, X, es, hz, cx, h, hn => by
    match es, h with
    | [e], h =>
      simp only [chkEs, Bool.and_eq_true] at h
      obtain ⟨z1, z2⟩ := ih.run c (by simp at hz; omega) cx h.1.2
      exact ⟨snd_and1 h.1.1.1 z1, fun t => tst_and1 (z2 (by simp only [tokEs, Bool.and_eq_true] at t; exact t.1))⟩
    | [], h => exact absurd rfl hn
    | _ :: _ :: _, h => simp [chkEs] at h
  | .cons c (.cons c2 r), pos, sc, X, es, hz, cx, h, hn => by
    match es, h with
    | e :: e2 :: es, h =>
      simp only [chkEs, Bool.and_eq_true] at h
      obtain ⟨z1, z2⟩ := ih.run c (by simp at hz; omega) cx h.1.2
      obtain ⟨y1, y2⟩ := sndAnd0 ih (.cons c2 r) pos (by simp at hz ⊢; omega) cx (es := e2 :: es) (by simp only [chkEs, Bool.and_eq_true]; exact h.2) (by simp)
      exact ⟨snd_and h.1.1.1 z1 y1, fun t => by
        rw [tokEs, Bool.and_eq_true] at t
        exact tst_and (z2 t.1) (y2 t.2)⟩
    | [], h => exact absurd rfl hn
    | [_], h => simp [chkEs] at h
theorem sndOr0 {n : Nat} (ih : IHE P A call fd lv N n) : ∀ (as : Cs) (pos : Pos) {sc : Scope} {X : Cx} {es : List Expr}, sizeOf as ≤ n → Cxt P A call fd lv N sc X → chkEs P N sc as es = true → es ≠ [] → PE X (.BoolOp .Or es pos) (tE P A call X (.or as)) ∧ (tokEs es = true → PW X (.BoolOp .Or es pos) (tTst P A call X (.or as)))
  | .nil, pos, sc, X, es, hz, cx, h, hn => by
    cases es with
    | nil => exact absurd rfl hn
    | cons _ _ => simp [chkEs] at h
  | .cons c .nil, pos, sc, X, es, hz, cx, h, hn => by
    match es, h with
    | [e], h =>
      simp only [chkEs, Bool.and_eq_true] at h
      obtain ⟨z1, z2⟩ := ih.run c (by simp at hz; omega) cx h.1.2
      exact ⟨snd_or1 h.1.1.1 z1, fun t => tst_or1 (z2 (by simp only [tokEs, Bool.and_eq_true] at t; exact t.1))⟩
    | [], h => exact absurd rfl hn
    | _ :: _ :: _, h => simp [chkEs] at h
  | .cons c (.cons c2 r), pos, sc, X, es, hz, cx, h, hn => by
    match es, h with
    | e :: e2 :: es, h =>
      simp only [chkEs, Bool.and_eq_true] at h
      obtain ⟨z1, z2⟩ := ih.run c (by simp at hz; omega) cx h.1.2
      obtain ⟨y1, y2⟩ := sndOr0 ih (.cons c2 r) pos (by simp at hz ⊢; omega) cx (es := e2 :: es) (by simp only [chkEs, Bool.and_eq_true]; exact h.2) (by simp)
      exact ⟨snd_or h.1.1.1 z1 y1, fun t => by
        rw [tokEs, Bool.and_eq_true] at t
        exact tst_or (z2 t.1) (y2 t.2)⟩
    | [], h => exact absurd rfl hn
    | [_], h => simp [chkEs] at h
theorem sndIfs0 {n : Nat} (ih : IHE P A call fd lv N n) : ∀ (cs : Cs) {sc : Scope} {X : Cx} {fs : List Expr}, sizeOf cs ≤ n → Cxt P A call fd lv N sc X → chkIfs P N sc cs fs = true → PTs X fs (tIfs P A call X cs)
  | .nil, sc, X, fs, hn, cx, h => by
    cases fs with
    | nil =>
      refine ⟨fun pins s σ H Q I q => pts_nil.run pins s σ H Q I ?_⟩
      obtain ⟨w, ρ, st, H0, ex, k, st', S, R, e, kk⟩ := q
      simp only [evIfs] at e
      cases e
      exact kk _ _ (.refl _ _ _) S
    | cons _ _ => simp [chkIfs] at h
  | .cons c .nil, sc, X, fs, hn, cx, h => by
    match fs, h with
    | [e], h =>
      simp only [chkIfs, Bool.and_eq_true] at h
      refine ⟨fun pins s σ H Q I q => (pts_one ((ih.run c (by simp at hn; omega) cx h.2).2 h.1.1.1)).run pins s σ H Q I ?_⟩
      obtain ⟨w, ρ, st, H0, ex, k, st', S, R, e, kk⟩ := q
      simp only [evIfs] at e
      exact ⟨w, ρ, st, H0, ex, k, st', S, R, e, kk⟩
    | [], h => simp [chkIfs] at h
    | _ :: _ :: _, h => simp [chkIfs] at h
  | .cons c (.cons _ _), sc, X, fs, hn, cx, h => by simp [chkIfs] at h
theorem sndI0 {n : Nat} (ih : IHE P A call fd lv N n) : ∀ (it : Eng.It) {sc : Scope} {X : Cx} {e t : Expr}, sizeOf it ≤ n → Cxt P A call fd lv N sc X → chkI P N sc it e t = true → PI X t e (tI P A call X it)
  | .seq c, sc, X, e, t, hn, cx, h => by
    simp only [chkI, Bool.and_eq_true] at h
    exact pi_seq h.1.2 (ih.run c (by simp at hn; omega) cx h.2).1
  | .rng1 a, sc, X, e, t, hn, cx, h => by
    cases e with
    | Call f es ks pos =>
      cases f with
      | Name x p =>
        match es, ks, h with
        | [ea], [], h =>
          simp only [chkI, Bool.and_eq_true, decide_eq_true_eq] at h
          exact pi_r1 cx h.1.1.1 h.1.1.2 h.1.2 h.2.1.1 h.2.1.2 (ih.run a (by simp at hn; omega) cx h.2.2).1
        | [], _, h => simp [chkI] at h
        | _ :: _ :: _, _, h => simp [chkI] at h
        | [_], _ :: _, h => simp [chkI] at h
      | _ => simp [chkI] at h
    | _ => simp [chkI] at h
  | .rng2 a b, sc, X, e, t, hn, cx, h => by
    cases e with
    | Call f es ks pos =>
      cases f with
      | Name x p =>
        match es, ks, h with
        | [ea, eb], [], h =>
          simp only [chkI, Bool.and_eq_true, decide_eq_true_eq] at h
          exact pi_r2 cx h.1.1.1.1 h.1.1.1.2 h.1.1.2 h.1.2.1.1 h.1.2.1.2 (ih.run a (by simp at hn; omega) cx h.1.2.2).1 h.2.1.1 h.2.1.2 (ih.run b (by simp at hn; omega) cx h.2.2).1
        | [], _, h => simp [chkI] at h
        | [_], _, h => simp [chkI] at h
        | _ :: _ :: _ :: _, _, h => simp [chkI] at h
        | [_, _], _ :: _, h => simp [chkI] at h
      | _ => simp [chkI] at h
    | _ => simp [chkI] at h
  | .zip a b, sc, X, e, t, hn, cx, h => by
    cases e with
    | Call f es ks pos =>
      cases f with
      | Name x p =>
        match es, ks, h with
        | [ea, eb], [], h =>
          cases t with
          | Tuple elts kk tpos =>
            simp only [chkI, Bool.and_eq_true, decide_eq_true_eq] at h
            exact pi_zp cx h.1.1.1.1 h.1.1.1.2 h.1.1.2 h.1.2.1.1 h.1.2.1.2 (ih.run a (by simp at hn; omega) cx h.1.2.2).1 h.2.1.1 h.2.1.2 (ih.run b (by simp at hn; omega) cx h.2.2).1
          | _ => exact absurd h Bool.false_ne_true
        | [], _, h => cases t <;> exact absurd h Bool.false_ne_true
        | [_], _, h => cases t <;> exact absurd h Bool.false_ne_true
        | _ :: _ :: _ :: _, _, h => cases t <;> exact absurd h Bool.false_ne_true
        | [_, _], _ :: _, h => cases t <;> exact absurd h Bool.false_ne_true
      | _ => cases t <;> exact absurd h Bool.false_ne_true
    | _ => cases t <;> exact absurd h Bool.false_ne_true
  | .enum a, sc, X, e, t, hn, cx, h => by
    cases e with
    | Call f es ks pos =>
      cases f with
      | Name x p =>
        match es, ks, h with
        | [ea], [], h =>
          cases t with
          | Tuple elts kk tpos =>
            simp only [chkI, Bool.and_eq_true, decide_eq_true_eq] at h
            exact pi_en cx h.1.1.1 h.1.1.2 h.1.2 h.2.1.1 h.2.1.2 (ih.run a (by simp at hn; omega) cx h.2.2).1
          | _ => exact absurd h Bool.false_ne_true
        | [], _, h => cases t <;> exact absurd h Bool.false_ne_true
        | _ :: _ :: _, _, h => cases t <;> exact absurd h Bool.false_ne_true
        | [_], _ :: _, h => cases t <;> exact absurd h Bool.false_ne_true
      | _ => cases t <;> exact absurd h Bool.false_ne_true
    | _ => cases t <;> exact absurd h Bool.false_ne_true
theorem chkB_sh {sc : Scope} : ∀ {as : Cs} {es : List Expr}, chkBs P N sc as es = true → es.all shape = true
  | .nil, [], _ => rfl
  | .nil, _ :: _, h => by simp [chkBs] at h
  | .cons _ _, [], h => by simp [chkBs] at h
  | .cons c r, e :: es, h => by
    simp only [chkBs, Bool.and_eq_true] at h
    rw [List.all_cons, Bool.and_eq_true]
    exact ⟨h.1.1, chkB_sh h.2⟩
theorem sndBs0 {n : Nat} (ih : IHE P A call fd lv N n) : ∀ (as : Cs) {sc : Scope} {X : Cx} {es : List Expr}, sizeOf as ≤ n → Cxt P A call fd lv N sc X → chkBs P N sc as es = true → PA X es (tBs P A call X as)
  | .nil, sc, X, es, hn, cx, h => by
    cases es with
    | nil => exact snd_bnil
    | cons _ _ => simp [chkBs] at h
  | .cons c r, sc, X, es, hn, cx, h => by
    cases es with
    | nil => simp [chkBs] at h
    | cons e es =>
      simp only [chkBs, Bool.and_eq_true] at h
      exact snd_bcons h.1.1 (ih.run c (by simp at hn; omega) cx h.1.2).1 (sndBs0 ih r (by simp at hn; omega) cx h.2)
theorem sndE0 (c : C) {sc : Scope} {X : Cx} {e : Expr} (ih : IHE P A call fd lv N (sizeOf c)) (cx : Cxt P A call fd lv N sc X) (h : chkE P N sc c e = true) : BE P A call X c e := by
  cases c with
  | var i =>
    cases e with
    | Name x p => exact be_val cx rfl (snd_var cx (by simpa only [chkE] using h))
    | _ => simp [chkE] at h
  | bor i =>
    cases e with
    | Name x p => exact be_val cx rfl (snd_bor cx (by simpa only [chkE] using h))
    | _ => simp [chkE] at h
  | non =>
    cases e with
    | Constant k n p =>
      cases k with
      | none => exact be_val cx rfl (snd_const rfl (fun _ _ => by simp only [ev]) (fun _ => .non) pe_non)
      | _ => simp [chkE] at h
    | _ => simp [chkE] at h
  | bl b =>
    cases e with
    | Constant k n p =>
      cases k with
      | bool c =>
        have hb : b = c := by simpa [chkE] using h
        subst hb
        exact be_val cx rfl (snd_const rfl (fun _ _ => by simp only [ev]) (fun _ => .bl b) pe_bl)
      | _ => simp [chkE] at h
    | _ => simp [chkE] at h
  | int i =>
    cases e with
    | Constant k n p =>
      cases k with
      | int c =>
        have hb : i = c := by simpa [chkE] using h
        subst hb
        exact be_val cx rfl (snd_const rfl (fun _ _ => by simp only [ev]) (fun _ => .int i) pe_int)
      | _ => simp [chkE] at h
    | _ => simp [chkE] at h
  | str s =>
    cases e with
    | Constant k n p =>
      cases k with
      | str c =>
        have hb : s = c := by simpa [chkE] using h
        subst hb
        exact be_val cx rfl (snd_const rfl (fun _ _ => by simp only [ev]) (fun _ => .str s) pe_str)
      | _ => simp [chkE] at h
    | _ => simp [chkE] at h
  | gfn j =>
    simp [chkE] at h
  | gco k =>
    cases e with
    | Name x p =>
      simp only [chkE, Bool.and_eq_true] at h
      cases q : P.con[k]? with
      | none => rw [q] at h; cases h.2
      | some r =>
        rw [q] at h
        exact be_val cx rfl (snd_gco cx h.1 q (of_decide_eq_true h.2))
    | _ => simp [chkE] at h
  | callV j as =>
    simp [chkE] at h
  | neg a =>
    cases e with
    | UnaryOp op ea p =>
      cases op with
      | USub =>
        simp only [chkE, Bool.and_eq_true] at h
        exact be_val cx rfl (snd_neg cx (ih.run a (by simp <;> omega) cx h.2).1)
      | _ => simp [chkE] at h
    | _ => simp [chkE] at h
  | not a =>
    cases e with
    | UnaryOp op ea p =>
      cases op with
      | Not =>
        simp only [chkE, Bool.and_eq_true] at h
        exact ⟨snd_not (ih.run a (by simp <;> omega) cx h.2).1 h.1.1, fun t => tst_not ((ih.run a (by simp <;> omega) cx h.2).2 (by simpa only [tokE] using t))⟩
      | _ => simp [chkE] at h
    | _ => simp [chkE] at h
  | bin op a b =>
    cases e with
    | BinOp ea o eb pos =>
      simp only [chkE, Bool.and_eq_true] at h
      exact be_val cx rfl (snd_bin cx h.1.1 (ih.run a (by simp <;> omega) cx h.1.2.2).1 (ih.run b (by simp <;> omega) cx h.2.2).1)
    | _ => simp [chkE] at h
  | cmp op a b =>
    cases e with
    | Compare ea os es pos =>
      match os, es, h with
      | [o], [eb], h =>
        simp only [chkE, Bool.and_eq_true] at h
        exact ⟨snd_cmp cx h.1.1 h.2.1 (ih.run a (by simp <;> omega) cx h.1.2.2).1 (ih.run b (by simp <;> omega) cx h.2.2).1, fun _ => tst_cmp cx h.1.1 h.2.1 (ih.run a (by simp <;> omega) cx h.1.2.2).1 (ih.run b (by simp <;> omega) cx h.2.2).1⟩
      | [], _, h => simp [chkE] at h
      | _ :: _ :: _, _, h => simp [chkE] at h
      | [_], [], h => simp [chkE] at h
      | [_], _ :: _ :: _, h => simp [chkE] at h
    | _ => simp [chkE] at h
  | chain o1 o2 a b c =>
    cases e with
    | Compare ea os es pos =>
      match os, es, h with
      | [p1, p2], [eb, ec], h =>
        simp only [chkE, Bool.and_eq_true] at h
        exact ⟨snd_chain cx h.1.1.1.1 h.1.1.1.2 h.2.1.2 (ih.run a (by simp <;> omega) cx h.1.1.2.2).1 (ih.run b (by simp <;> omega) cx h.1.2.2).1 (ih.run c (by simp <;> omega) cx h.2.2).1, fun _ => tst_chain cx h.1.1.1.1 h.1.1.1.2 h.2.1.2 (ih.run a (by simp <;> omega) cx h.1.1.2.2).1 (ih.run b (by simp <;> omega) cx h.1.2.2).1 (ih.run c (by simp <;> omega) cx h.2.2).1⟩
      | [], _, h => simp [chkE] at h
      | [_], _, h => simp [chkE] at h
      | _ :: _ :: _ :: _, _, h => simp [chkE] at h
      | [_, _], [], h => simp [chkE] at h
      | [_, _], [_], h => simp [chkE] at h
      | [_, _], _ :: _ :: _ :: _, h => simp [chkE] at h
    | _ => simp [chkE] at h
  | and as =>
    cases e with
    | BoolOp o es pos =>
      cases o with
      | And =>
        simp only [chkE, Bool.and_eq_true] at h
        obtain ⟨z1, z2⟩ := sndAnd0 ih as pos (by simp <;> omega) cx h.1 (by rintro rfl; simp at h)
        exact ⟨z1, fun t => (z2 (by simpa only [tokE] using t)).pt⟩
      | Or => simp [chkE] at h
    | _ => simp [chkE] at h
  | or as =>
    cases e with
    | BoolOp o es pos =>
      cases o with
      | Or =>
        simp only [chkE, Bool.and_eq_true] at h
        obtain ⟨z1, z2⟩ := sndOr0 ih as pos (by simp <;> omega) cx h.1 (by rintro rfl; simp at h)
        exact ⟨z1, fun t => (z2 (by simpa only [tokE] using t)).pt⟩
      | And => simp [chkE] at h
    | _ => simp [chkE] at h
  | ite t a b =>
    cases e with
    | IfExp et ea eb pos =>
      simp only [chkE, Bool.and_eq_true] at h
      exact be_nt rfl (snd_ite h.1.2.1.1 h.2.1.1 ((ih.run t (by simp <;> omega) cx h.1.1.2).2 h.1.1.1.1.1) (ih.run a (by simp <;> omega) cx h.1.2.2).1 (ih.run b (by simp <;> omega) cx h.2.2).1)
    | _ => simp [chkE] at h
  | tup as =>
    cases e with
    | Tuple es k pos =>
      simp only [chkE, Bool.and_eq_true, decide_eq_true_eq] at h
      exact be_val cx rfl (snd_tup (by rw [← chk_len h.1]; omega) (sndEs0 ih as (by simp <;> omega) cx h.1))
    | _ => simp [chkE] at h
  | lst as =>
    cases e with
    | List es pos =>
      simp only [chkE, Bool.and_eq_true, decide_eq_true_eq] at h
      exact be_val cx rfl (snd_lst (by rw [← chk_len h.1]; omega) (sndEs0 ih as (by simp <;> omega) cx h.1))
    | _ => simp [chkE] at h
  | idx a b =>
    cases e with
    | Subscript ea eb pos =>
      have h' : ((shape ea && chkE P N sc a ea) && (!b.isBor && shape eb && chkE P N sc b eb)) = true := by simpa only [chkE] using h
      simp only [Bool.and_eq_true] at h'
      exact be_val cx rfl (snd_idx h'.2.1.2 (ih.run a (by simp <;> omega) cx h'.1.2).1 (ih.run b (by simp <;> omega) cx h'.2.2).1)
    | _ => simp [chkE] at h
  | sl a lo hi =>
    cases e with
    | Subscript ea eb pos =>
      cases eb with
      | Slice l u s p2 =>
        cases s with
        | none =>
          simp only [chkE, Bool.and_eq_true] at h
          exact be_val cx rfl (snd_sl (ih.run a (by simp <;> omega) cx h.1.1.2).1 (o_of (fun _ z => (ih.run lo (by simp <;> omega) cx z).1) h.1.2) (o_of (fun _ z => (ih.run hi (by simp <;> omega) cx z).1) h.2))
        | some _ => simp [chkE] at h
      | _ => simp [chkE] at h
    | _ => simp [chkE] at h
  | call j as ds =>
    cases e with
    | Call f es ks pos =>
      cases f with
      | Name x p =>
        cases ks with
        | nil =>
          simp only [chkE, Bool.and_eq_true] at h
          exact be_val cx rfl (snd_call cx h.1.1.1 h.1.1.2 h.1.2 (chk_sh h.2) (sndEs0 ih as (by simp <;> omega) cx h.2) h.2)
        | cons _ _ => simp [chkE] at h
      | _ => simp [chkE] at h
    | _ => simp [chkE] at h
  | make c as ds =>
    cases e with
    | Call f es ks pos =>
      cases f with
      | Name x p =>
        cases ks with
        | nil =>
          simp only [chkE, Bool.and_eq_true] at h
          exact be_val cx rfl (snd_make cx h.1.1 h.1.2 (chk_sh h.2) (sndEs0 ih as (by simp <;> omega) cx h.2) h.2)
        | cons _ _ => simp [chkE] at h
      | _ => simp [chkE] at h
    | _ => simp [chkE] at h
  | meth m o as =>
    cases e with
    | Call f es ks pos =>
      cases f with
      | Attribute eo x apos =>
        cases ks with
        | nil =>
          simp only [chkE, Bool.and_eq_true, decide_eq_true_eq] at h
          exact be_val cx rfl (snd_meth cx h.1.1.1.1.1 h.1.1.1.1.2 (ih.run o (by simp <;> omega) cx h.1.1.1.2.2).1 (chk_sh h.1.1.2) h.1.2 h.2 (sndEs0 ih as (by simp <;> omega) cx h.1.1.2) h.1.1.2)
        | cons _ _ => simp [chkE] at h
      | _ => simp [chkE] at h
    | _ => simp [chkE] at h
  | attr f o =>
    cases e with
    | Attribute eo x p =>
      simp only [chkE, Bool.and_eq_true, decide_eq_true_eq] at h
      exact be_val cx rfl (snd_attr cx h.1.1 h.1.2 (ih.run o (by simp <;> omega) cx h.2.2).1)
    | _ => simp [chkE] at h
  | blt b a =>
    cases e with
    | Call f es ks pos =>
      cases f with
      | Name x p =>
        match es, ks, h with
        | [ea], [], h =>
          simp only [chkE, Bool.and_eq_true, decide_eq_true_eq] at h
          exact be_val cx rfl (snd_blt cx h.1.1.1 h.1.1.2 h.1.2 h.2.1 (ih.run a (by simp <;> omega) cx h.2.2).1)
        | [], _, h => simp [chkE] at h
        | _ :: _ :: _, _, h => simp [chkE] at h
        | [_], _ :: _, h => simp [chkE] at h
      | _ => simp [chkE] at h
    | _ => simp [chkE] at h
  | isi a t =>
    cases e with
    | Call f es ks pos =>
      cases f with
      | Name x p =>
        match es, ks, h with
        | [ea, e2], [], h =>
          cases e2 with
          | Name y p2 =>
            simp only [chkE, Bool.and_eq_true, decide_eq_true_eq] at h
            exact be_val cx rfl (snd_isi cx h.1.1.1.1.1.1.1 h.1.1.1.1.1.1.2 h.1.1.1.1.1.2 h.1.1.1.1.2 h.1.1.1.2 h.1.1.2 h.1.2 h.2.1.1 h.2.1.2 (ih.run a (by simp <;> omega) cx h.2.2).1)
          | _ => simp [chkE] at h
        | [], _, h => simp [chkE] at h
        | [_], _, h => simp [chkE] at h
        | _ :: _ :: _ :: _, _, h => simp [chkE] at h
        | [_, _], _ :: _, h => simp [chkE] at h
      | _ => simp [chkE] at h
    | _ => simp [chkE] at h
  | lc elt tg it ifs =>
    cases e with
    | ListComp e gs scope pos =>
      match gs, h with
      | [⟨t, i, fs, n⟩], h =>
        simp only [chkE, Bool.and_eq_true, decide_eq_true_eq] at h
        obtain ⟨⟨⟨⟨⟨⟨⟨⟨h0, h1⟩, h2⟩, h3⟩, h4⟩, h5⟩, h6⟩, h7⟩, ⟨h8, h9⟩, h10⟩ := h
        subst h0
        refine be_val cx rfl ?_
        have hI : PI X t i (tIC P A call X it) := by
          rw [Bool.or_eq_true] at h5
          rcases h5 with h5 | h5
          · exact pi_c (sndI0 ih it (by simp <;> omega) cx h5)
          · exact bor_i cx h5
        have hpe := pe_lc (pos := pos) (g := gTg X.K tg) (tt := tIfs P A call X ifs) (te := tE P A call X elt) cx.calm cx.nd hI (own := (tg.map fun k => N.getD k "").zip tg) (blkOk_by (by rw [cx.N, cx.sc]; exact h1))
          (fun s H Cc cl fp => pg_tg (N := N) (cxt_blk cx s H Cc cl fp).calm (cxt_blk cx s H Cc cl fp).nd (cxt_blk cx s H Cc cl fp).N (fun x hx => by
            rw [(cxt_blk (scope := scope) cx s H Cc cl fp).sc]
            exact own_loc hx) h2)
          (fun s H Cc cl fp => sndIfs0 ih ifs (by simp <;> omega) (cxt_blk cx s H Cc cl fp) h7) (fun s H Cc cl fp => (ih.run elt (by simp <;> omega) (cxt_blk cx s H Cc cl fp) h10).1) (fun x => fold_of _ h6 x)
        rw [zip_snd] at hpe
        exact PE.mono hpe (lc_step elt tg it ifs h8)
      | [], h => simp [chkE] at h
      | _ :: _ :: _, h => simp [chkE] at h
    | _ => simp [chkE] at h
  | lc2 elt tg it tg2 it2 =>
    obtain ⟨ee, t, i, t2, i2, scope, pos, rfl, h1, h2, h3, h4, h5, h6, h7, h8, h10⟩ := lc2_inv h
    exact be_val cx rfl (snd_lc2 cx h1 h2 h3 h5 h7 h8 (sndI0 ih it (by simp <;> omega) cx h4) (fun s H Cc cl fp => sndI0 ih it2 (by simp <;> omega) (cxt_blk cx s H Cc cl fp) h6) (fun s H Cc cl fp => (ih.run elt (by simp <;> omega) (cxt_blk cx s H Cc cl fp) h10).1))
  | dget o k =>
    cases e with
    | Subscript eo ek pos =>
      cases ek with
      | Constant kc kk p2 =>
        cases kc with
        | str s =>
          simp only [chkE, Bool.and_eq_true, decide_eq_true_eq] at h
          exact be_val cx rfl (snd_dget cx h.1 h.2.1.1 (ih.run o (by simp <;> omega) cx h.2.2).1)
        | _ => simp [chkE] at h
      | _ => simp [chkE] at h
    | _ => simp [chkE] at h
  | dict ks as =>
    cases e with
    | Dict keys vals pos =>
      simp only [chkE, Bool.and_eq_true, decide_eq_true_eq] at h
      obtain ⟨⟨⟨⟨h1, h2⟩, h3⟩, h4⟩, h5⟩ := h
      obtain ⟨z1, z2, z3⟩ := sndPs0 ih as ks pos (by simp <;> omega) cx h1 h2 h5
      refine be_val cx rfl (snd_dict cx z1 z2 h5 (by rintro rfl; simp at h3) h4 (by rw [← chk_len h2, ← h5, z3]) z3.symm (chk_nb h2))
    | _ => simp [chkE] at h
  | lrng a =>
    cases e with
    | Call f es ks pos =>
      cases f with
      | Name x p =>
        match es, ks, h with
        | [e1], [], h =>
          cases e1 with
          | Call f2 es2 ks2 q =>
            cases f2 with
            | Name y p2 =>
              match es2, ks2, h with
              | [ea], [], h =>
                simp only [chkE, Bool.and_eq_true, decide_eq_true_eq] at h
                obtain ⟨⟨⟨⟨⟨⟨h1, h2⟩, h3⟩, h4⟩, h5⟩, h6⟩, ⟨h7, h8⟩, h9⟩ := h
                exact be_val cx rfl (snd_lrng cx h1 h2 h3 h4 h5 h6 h7 h8 (ih.run a (by simp <;> omega) cx h9).1)
              | [], _, h => simp [chkE] at h
              | _ :: _ :: _, _, h => simp [chkE] at h
              | [_], _ :: _, h => simp [chkE] at h
            | _ => simp [chkE] at h
          | _ => simp [chkE] at h
        | [], _, h => simp [chkE] at h
        | _ :: _ :: _, _, h => simp [chkE] at h
        | [_], _ :: _, h => simp [chkE] at h
      | _ => simp [chkE] at h
    | _ => simp [chkE] at h
  | repl as n =>
    cases e with
    | BinOp ea o eb pos =>
      cases ea with
      | List es p =>
        cases o with
        | Mult =>
          simp only [chkE, Bool.and_eq_true, decide_eq_true_eq] at h
          exact be_val cx rfl (snd_repl h.2.1.1 (sndEs0 ih as (by simp <;> omega) cx h.1.1) (ih.run n (by simp <;> omega) cx h.2.2).1)
        | _ => simp [chkE] at h
      | _ => simp [chkE] at h
    | _ => simp [chkE] at h
  | popc o i =>
    cases e with
    | Call f es ks pos =>
      cases f with
      | Attribute eo x apos =>
        match es, ks, h with
        | [ea], [], h =>
          simp only [chkE, Bool.and_eq_true, decide_eq_true_eq] at h
          exact be_val cx rfl (snd_popc cx h.1.1.1.1 h.1.1.1.2 h.1.1.2.1.1 (ih.run o (by simp <;> omega) cx h.1.1.2.2).1 h.1.2.1.1 h.1.2.1.2 (ih.run i (by simp <;> omega) cx h.1.2.2).1 h.2)
        | [], _, h => simp [chkE] at h
        | _ :: _ :: _, _, h => simp [chkE] at h
        | [_], _ :: _, h => simp [chkE] at h
      | _ => simp [chkE] at h
    | _ => simp [chkE] at h
  | max2 a b =>
    cases e with
    | Call f es ks pos =>
      cases f with
      | Name x p =>
        match es, ks, h with
        | [ea, eb], [], h =>
          simp only [chkE, Bool.and_eq_true, decide_eq_true_eq] at h
          exact be_val cx rfl (snd_max2 cx h.1.1.1.1 h.1.1.1.2 h.1.1.2 h.1.2.1.2 h.2.1.2 (ih.run a (by simp <;> omega) cx h.1.2.2).1 (ih.run b (by simp <;> omega) cx h.2.2).1)
        | [], _, h => simp [chkE] at h
        | [_], _, h => simp [chkE] at h
        | _ :: _ :: _ :: _, _, h => simp [chkE] at h
        | [_, _], _ :: _, h => simp [chkE] at h
      | _ => simp [chkE] at h
    | _ => simp [chkE] at h
  | ssort a =>
    cases e with
    | Call f es ks pos =>
      cases f with
      | Name x p =>
        match es, ks, h with
        | [e1], [], h =>
          cases e1 with
          | Call f2 es2 ks2 q =>
            cases f2 with
            | Name y p2 =>
              match es2, ks2, h with
              | [ea], [], h =>
                simp only [chkE, Bool.and_eq_true, decide_eq_true_eq] at h
                obtain ⟨⟨⟨⟨⟨⟨h1, h2⟩, h3⟩, h4⟩, h5⟩, h6⟩, ⟨h7, h8⟩, h9⟩ := h
                exact be_val cx rfl (snd_ssort cx h1 h2 h3 h4 h5 h6 h8 (ih.run a (by simp <;> omega) cx h9).1)
              | [], _, h => simp [chkE] at h
              | _ :: _ :: _, _, h => simp [chkE] at h
              | [_], _ :: _, h => simp [chkE] at h
            | _ => simp [chkE] at h
          | _ => simp [chkE] at h
        | [], _, h => simp [chkE] at h
        | _ :: _ :: _, _, h => simp [chkE] at h
        | [_], _ :: _, h => simp [chkE] at h
      | _ => simp [chkE] at h
    | _ => simp [chkE] at h
  | repr a =>
    cases e with
    | Call f es ks pos =>
      cases f with
      | Name x p =>
        match es, ks, h with
        | [ea], [], h =>
          simp only [chkE, Bool.and_eq_true, decide_eq_true_eq] at h
          exact be_val cx rfl (snd_repr cx h.1.1.1.1 h.1.1.1.2 h.1.1.2 h.1.2 h.2.1.1 h.2.1.2 (ih.run a (by simp <;> omega) cx h.2.2).1)
        | [], _, h => simp [chkE] at h
        | _ :: _ :: _, _, h => simp [chkE] at h
        | [_], _ :: _, h => simp [chkE] at h
      | _ => simp [chkE] at h
    | _ => simp [chkE] at h
  | kcall j as =>
    cases e with
    | Call f es ks pos =>
      cases f with
      | Name x p =>
        cases es with
        | nil =>
          simp only [chkE, Bool.and_eq_true] at h
          obtain ⟨⟨⟨⟨⟨⟨h1, h2⟩, h3⟩, h4⟩, h5⟩, h6⟩, h7⟩ := h
          exact be_val cx rfl (snd_kcall cx h1 h2 h3 h4 h5 (sndKs0 ih as (by simp <;> omega) cx h7))
        | cons _ _ => simp [chkE] at h
      | _ => simp [chkE] at h
    | _ => simp [chkE] at h
  | callB j as =>
    cases e with
    | Call f es ks pos =>
      cases f with
      | Name x p =>
        cases ks with
        | nil =>
          simp only [chkE, Bool.and_eq_true] at h
          cases es with
          | nil => simp at h
          | cons e es => exact be_val cx rfl (snd_callB cx h.1.1.1.1 h.1.1.1.2 h.1.1.2 (chkB_sh h.2) (sndBs0 ih as (by simp <;> omega) cx h.2))
        | cons _ _ => simp [chkE] at h
      | _ => simp [chkE] at h
    | _ => simp [chkE] at h
  | newc z =>
    cases z with
    | repl as n =>
      cases e with
      | BinOp ea o eb pos =>
        cases ea with
        | List es p =>
          cases o with
          | Mult =>
            simp only [chkE, Bool.and_eq_true, decide_eq_true_eq] at h
            exact be_val cx rfl (snd_newR h.2.1.1 (sndEs0 ih as (by simp <;> omega) cx h.1.1) (ih.run n (by simp <;> omega) cx h.2.2).1)
          | _ => simp [chkE] at h
        | _ => simp [chkE] at h
      | _ => simp [chkE] at h
    | lst as =>
      cases e with
      | List es pos =>
        simp only [chkE, Bool.and_eq_true, decide_eq_true_eq] at h
        exact be_val cx rfl (snd_newL (by rw [← chk_len h.1]; omega) (sndEs0 ih as (by simp <;> omega) cx h.1))
      | _ => simp [chkE] at h
    | blt b a =>
      cases b with
      | list =>
        cases e with
        | Call f es ks pos =>
          cases f with
          | Name x p =>
            match es, ks, h with
            | [ea], [], h =>
              simp only [chkE, Bool.and_eq_true, decide_eq_true_eq] at h
              exact be_val cx rfl (snd_newT cx h.1.1.1 h.1.1.2 h.1.2 h.2.1 (ih.run a (by simp <;> omega) cx h.2.2).1)
            | [], _, h => simp [chkE] at h
            | _ :: _ :: _, _, h => simp [chkE] at h
            | [_], _ :: _, h => simp [chkE] at h
          | _ => simp [chkE] at h
        | _ => simp [chkE] at h
      | _ => simp [chkE] at h
    | _ => simp [chkE] at h
  | catb i z =>
    cases z with
    | lst as =>
      cases e with
      | BinOp ea o eb pos =>
        cases ea with
        | Name x px =>
          cases o with
          | Add =>
            cases eb with
            | List es p2 =>
              simp only [chkE, Bool.and_eq_true, decide_eq_true_eq] at h
              exact be_val cx rfl (snd_catb cx h.1.1 (by rw [← chk_len h.1.2]; omega) (sndEs0 ih as (by simp <;> omega) cx h.1.2))
            | _ => simp [chkE] at h
          | _ => simp [chkE] at h
        | _ => simp [chkE] at h
      | _ => simp [chkE] at h
    | _ => simp [chkE] at h
theorem sndE_n : ∀ n : Nat, IHE P A call fd lv N n
  | 0 => ⟨fun c _ _ _ hc => absurd hc (Nat.not_lt_zero _)⟩
  | n + 1 => ⟨fun c _ _ _ hc cx h => sndE0 c ⟨fun c' _ _ _ hc' => (sndE_n n).run c' (by omega)⟩ cx h⟩
theorem sndE (c : C) {sc : Scope} {X : Cx} {e : Expr} (cx : Cxt P A call fd lv N sc X) (h : chkE P N sc c e = true) : BE P A call X c e := (sndE_n (sizeOf c + 1)).run c (Nat.lt_succ_self _) cx h
theorem sndEs (as : Cs) {sc : Scope} {X : Cx} {es : List Expr} (cx : Cxt P A call fd lv N sc X) (h : chkEs P N sc as es = true) : PA X es (tAs P A call X as) := sndEs0 (sndE_n _) as (Nat.le_refl _) cx h
theorem sndIfs (cs : Cs) {sc : Scope} {X : Cx} {fs : List Expr} (cx : Cxt P A call fd lv N sc X) (h : chkIfs P N sc cs fs = true) : PTs X fs (tIfs P A call X cs) := sndIfs0 (sndE_n _) cs (Nat.le_refl _) cx h
theorem sndI (it : Eng.It) {sc : Scope} {X : Cx} {e t : Expr} (cx : Cxt P A call fd lv N sc X) (h : chkI P N sc it e t = true) : PI X t e (tI P A call X it) := sndI0 (sndE_n _) it (Nat.le_refl _) cx h
end
end Eng

namespace Eng
open PySem PySem.Spec PyProof.Rows L2
section
variable {P : Prg} {A : Ad} {call : Nat → List D → Store → Res D} {fd : Nat → FuncData} {lv : Nat} {N : List PySem.Str} {sc : Scope} {X : Cx}
/-! ### lists made anew -/
def freshC (P : Prg) : C → Bool
  | .lst _ => true
  | .lc .. => true
  | .call j _ _ => (match P.fns[j]? with
    | some f => f.fresh
    | none => false)
  | .repl _ _ => true
  | .ite _ a b => freshC P a && freshC P b
  | _ => false
theorem snd_lstF {as : Cs} {es : List Expr} {pos : Pos} (hl : csLen as ≤ 1000000) (h : PA X es (tAs P A call X as)) : PE X (.List es pos) (tF P A call X (.lst as)) := by
  refine PE.mono (pe_lst h) fun σ H Q t => ?_
  obtain ⟨w, ρ, st, H0, ex, d, st', S, R, e, k⟩ := t
  simp only [ev] at e
  obtain ⟨xs, st1, e1, e⟩ := Res.bind_is e
  cases e
  refine ⟨w, ρ, st, H0, ex, xs, st', S, R, e1, fun vs H1 w1 E1 S1 p1 => ⟨small_of (H := H1) p1 (by rw [evs_len e1]; exact hl), fun p hp => ?_⟩⟩
  exact k _ _ w1 (E1.trans (ext_new (st := st') hp)) (sr_new S1 hp) ⟨xs, p, vs, rfl, rfl, upd_same, p1, priv_new S1 hp, E1.none_of hp⟩
theorem call_stepF {j : Nat} {f : FnI} {as : Cs} {ds : List D} {dvs : List V} (cx : Cxt P A call fd lv N sc X) (hf : P.fns[j]? = some f) (hi : f.init = none) (hfr : f.fresh = true) (hd : ∀ w, RDs A X.K w ds dvs) :
    ∀ σ H Q, tF P A call X (.call j as ds) σ H Q → tCall (spF A X.K call j f) dvs E0 (tAs P A call X as) σ H Q := by
  rintro σ H Q ⟨w, ρ, st, H0, ex, d, st', S, R, e, k⟩
  simp only [ev] at e
  obtain ⟨xs, st1, e1, e⟩ := Res.bind_is e
  refine ⟨w, ρ, st, H0, ex, xs, st1, S, R, e1, fun vs H1 w1 E1 S1 p1 => ?_⟩
  show spF A X.K call j f (vs ++ dvs) H1 Q E0
  have p2 : RDs A X.K w1 (xs ++ ds) (vs ++ dvs) := p1.append (hd w1)
  obtain ⟨f', hf', hc⟩ := cx.cok j (xs ++ ds) st1 d st' e
  rw [hf] at hf'
  cases hf'
  rcases hc with ⟨_, hlen⟩ | ⟨c', fs, h', _⟩
  · unfold spF
    rw [hi]
    refine ⟨by rw [← p2.length, hlen], w1, xs ++ ds, st1, d, st', p2, S1, e, fun v H2 w2 E2 S2 r2 => k v H2 w2 (E1.trans E2) S2 ?_⟩
    rw [if_pos hfr] at r2
    obtain ⟨ys, a, us, q1, q2, q3, q4, q5, q6⟩ := r2
    exact ⟨ys, a, us, q1, q2, q3, q4, q5, E1.none_of q6⟩
  · rw [hi] at h'
    cases h'
theorem snd_callF (cx : Cxt P A call fd lv N sc X) {j : Nat} {as : Cs} {ds : List D} {x : PySem.Str} {p pos : Pos} {es : List Expr} {f : FnI} (hf : P.fns[j]? = some f) (hfr : f.fresh = true) (hhot : hotOk P N j = true) (hg : glB sc x = true) (hfb : fnB P j x es.length ds = true) (hs : es.all shape = true) (ha : PA X es (tAs P A call X as)) (hc : chkEs P N sc as es = true) :
    PE X (.Call (.Name x p) es [] pos) (tF P A call X (.call j as ds)) := by
  obtain ⟨f', hf', hgl, hi, hds⟩ := fn_of' hfb
  rw [hf] at hf'
  cases hf'
  obtain ⟨us, dvs, hd, hdv, hbi⟩ := dfl_of cx hf hds
  obtain ⟨g1, g2, g3⟩ := gl_of cx hg
  have hm := cx.gok.gfn j f x hf hgl
  cases es with
  | nil =>
    cases as with
    | nil =>
      refine PE.mono (call_zero cx hf hhot hdv hbi g1 hm g2) fun σ H Q t => ?_
      obtain ⟨w, ρ, st, H0, ex, xs, st', S, R, e, k⟩ := call_stepF cx hf hi hfr hd σ H Q t
      simp only [evs] at e
      cases e
      exact k [] H w (.refl _ _ _) S .nil
    | cons c r => simp [chkEs] at hc
  | cons e es =>
    rw [List.all_cons, Bool.and_eq_true] at hs
    exact PE.mono (call_pos cx hf hhot hdv hbi g1 hm g2 ha (star_of es X.env hs.1) (plain_of pos X.env es hs.2)) (call_stepF cx hf hi hfr hd)
/-- the parts of a comprehension's rule -/
theorem lc_parts (cx : Cxt P A call fd lv N sc X) {elt : C} {tg : List Nat} {it : Eng.It} {ifs : Cs} {e t i : Expr} {fs : List Expr} {n : Int} {scope : Scope} {pos : Pos} (h : chkE P N sc (.lc elt tg it ifs) (.ListComp e [⟨t, i, fs, n⟩] scope pos) = true) :
    n = 0 ∧ PI X t i (tIC P A call X it) ∧ BlkOk X.N X.env.scope scope ((tg.map fun k => N.getD k "").zip tg) ∧
    (∀ (s : Shared) (H : Hp) (Cc : Addr) (cl : List (PySem.Str × Addr)) (fp : List Addr), PG (X.blk s H scope (compEnvC scope cl Cc X.env) fp) t (gTg X.K tg)) ∧
    (∀ (s : Shared) (H : Hp) (Cc : Addr) (cl : List (PySem.Str × Addr)) (fp : List Addr), PTs (X.blk s H scope (compEnvC scope cl Cc X.env) fp) fs (tIfs P A call X ifs)) ∧
    (∀ (s : Shared) (H : Hp) (Cc : Addr) (cl : List (PySem.Str × Addr)) (fp : List Addr), PE (X.blk s H scope (compEnvC scope cl Cc X.env) fp) e (tE P A call X elt)) ∧ shape i = true ∧ (!elt.isBor) = true := by
  simp only [chkE, Bool.and_eq_true, decide_eq_true_eq] at h
  obtain ⟨⟨⟨⟨⟨⟨⟨⟨h0, h1⟩, h2⟩, h3⟩, h4⟩, h5⟩, h6⟩, h7⟩, ⟨h8, h9⟩, h10⟩ := h
  have hI : PI X t i (tIC P A call X it) := by
    rw [Bool.or_eq_true] at h5
    rcases h5 with h5 | h5
    · exact pi_c (sndI it cx h5)
    · exact bor_i cx h5
  refine ⟨h0, hI, blkOk_by (by rw [cx.N, cx.sc]; exact h1), fun s H Cc cl fp => pg_tg (N := N) (cxt_blk cx s H Cc cl fp).calm (cxt_blk cx s H Cc cl fp).nd (cxt_blk cx s H Cc cl fp).N (fun x hx => by
    rw [(cxt_blk (scope := scope) cx s H Cc cl fp).sc]
    exact own_loc hx) h2, fun s H Cc cl fp => sndIfs ifs (cxt_blk cx s H Cc cl fp) h7, fun s H Cc cl fp => (sndE elt (cxt_blk cx s H Cc cl fp) h10).1, h6, h8⟩
theorem lc_inv {elt : C} {tg : List Nat} {it : Eng.It} {ifs : Cs} {e : Expr} (h : chkE P N sc (.lc elt tg it ifs) e = true) : ∃ ee t i fs n scope pos, e = .ListComp ee [⟨t, i, fs, n⟩] scope pos := by
  cases e with
  | ListComp ee gs scope pos =>
    match gs, h with
    | [⟨t, i, fs, n⟩], h => exact ⟨ee, t, i, fs, n, scope, pos, rfl⟩
    | [], h => simp [chkE] at h
    | _ :: _ :: _, h => simp [chkE] at h
  | _ => simp [chkE] at h
theorem snd_iteF {t a b : C} {et ea eb : Expr} {pos : Pos} (ht : PT X et (tTst P A call X t)) (ha : PE X ea (tF P A call X a)) (hb : PE X eb (tF P A call X b)) : PE X (.IfExp et ea eb pos) (tF P A call X (.ite t a b)) := by
  refine PE.mono (pe_ifExp ht ha hb) fun σ H Q z => ?_
  obtain ⟨w, ρ, st, H0, ex, d, st', S, R, e, k⟩ := z
  simp only [ev] at e
  obtain ⟨x, st1, e1, e⟩ := Res.bind_is e
  obtain ⟨kk, st2, e2, e⟩ := Res.bind_is e
  refine ⟨w, ρ, st, H0, ex, kk, st2, S, R, by unfold evT; rw [e1, Res.bind_ok]; exact e2, fun H1 w1 E1 S1 => ?_⟩
  cases kk with
  | true =>
    exact ⟨w1, ρ, st2, H0, ex, d, st', S1, R.ext E1, e, fun v H2 w2 E2 S2 r => k v H2 w2 (E1.trans E2) S2 (by
      obtain ⟨ys, c, us, q1, q2, q3, q4, q5, q6⟩ := r
      exact ⟨ys, c, us, q1, q2, q3, q4, q5, E1.none_of q6⟩)⟩
  | false =>
    exact ⟨w1, ρ, st2, H0, ex, d, st', S1, R.ext E1, e, fun v H2 w2 E2 S2 r => k v H2 w2 (E1.trans E2) S2 (by
      obtain ⟨ys, c, us, q1, q2, q3, q4, q5, q6⟩ := r
      exact ⟨ys, c, us, q1, q2, q3, q4, q5, E1.none_of q6⟩)⟩
theorem sndF (cx : Cxt P A call fd lv N sc X) : ∀ {c : C} {e : Expr}, freshC P c = true → chkE P N sc c e = true → PE X e (tF P A call X c)
  | .lst as, e, hc, h => by
    cases e with
    | List es pos =>
      simp only [chkE, Bool.and_eq_true, decide_eq_true_eq] at h
      exact snd_lstF (by rw [← chk_len h.1]; omega) (sndEs as cx h.1)
    | _ => simp [chkE] at h
  | .lc elt tg it ifs, e, hc, h => by
    obtain ⟨ee, t, i, fs, n, scope, pos, rfl⟩ := lc_inv h
    obtain ⟨rfl, h1, h2, h3, h4, h5, h6, h7⟩ := lc_parts cx h
    have hpe := pe_lc (pos := pos) cx.calm cx.nd h1 h2 h3 h4 h5 (fun x => fold_of _ h6 x)
    rw [zip_snd] at hpe
    exact PE.mono hpe (lc_stepF elt tg it ifs h7)
  | .repl as n, e, hc, h => by
    cases e with
    | BinOp ea o eb pos =>
      cases ea with
      | List es p =>
        cases o with
        | Mult =>
          simp only [chkE, Bool.and_eq_true, decide_eq_true_eq] at h
          refine PE.mono (pe_op op_rep (pe_lst (sndEs as cx h.1.1)) (sndE n cx h.2.2).1) fun σ H Q t => ?_
          obtain ⟨w, ρ, st, H0, ex, d, st', S, R, e, k⟩ := t
          refine repl_step h.2.1.1 S R e fun xs vs H2 w2 q hd E2 S2 r hq => ?_
          exact k _ _ w2 (E2.trans (ext_new (st := st') hq)) (sr_new S2 hq) ⟨xs, q, vs, hd, rfl, upd_same, r, priv_new S2 hq, E2.none_of hq⟩
        | _ => simp [chkE] at h
      | _ => simp [chkE] at h
    | _ => simp [chkE] at h
  | .ite t a b, e, hc, h => by
    cases e with
    | IfExp et ea eb pos =>
      simp only [chkE, Bool.and_eq_true] at h
      simp only [freshC, Bool.and_eq_true] at hc
      exact snd_iteF ((sndE t cx h.1.1.2).2 h.1.1.1.1.1) (sndF cx hc.1 h.1.2.2) (sndF cx hc.2 h.2.2)
    | _ => simp [chkE] at h
  | .call j as ds, e, hc, h => by
    cases e with
    | Call f es ks pos =>
      cases f with
      | Name x p =>
        cases ks with
        | nil =>
          simp only [chkE, Bool.and_eq_true] at h
          simp only [freshC] at hc
          cases q : P.fns[j]? with
          | none => rw [q] at hc; cases hc
          | some f =>
            rw [q] at hc
            exact snd_callF cx q hc h.1.1.1 h.1.1.2 h.1.2 (chk_sh h.2) (sndEs as cx h.2) h.2
        | cons _ _ => simp [chkE] at h
      | _ => simp [chkE] at h
    | _ => simp [chkE] at h
  | .var _, _, hc, _ | .bor _, _, hc, _ | .non, _, hc, _ | .bl _, _, hc, _ | .int _, _, hc, _ | .str _, _, hc, _ | .gfn _, _, hc, _ | .gco _, _, hc, _ | .neg _, _, hc, _ | .not _, _, hc, _ | .bin _ _ _, _, hc, _ | .cmp _ _ _, _, hc, _ | .chain _ _ _ _ _, _, hc, _ | .and _, _, hc, _ | .or _, _, hc, _ | .tup _, _, hc, _ | .idx _ _, _, hc, _ | .sl _ _ _, _, hc, _ | .callV _ _, _, hc, _ | .make _ _ _, _, hc, _ | .meth _ _ _, _, hc, _ | .attr _ _, _, hc, _ | .blt _ _, _, hc, _ | .isi _ _, _, hc, _ | .dget _ _, _, hc, _ | .dict _ _, _, hc, _ | .newc _, _, hc, _ | .popc _ _, _, hc, _ | .max2 _ _, _, hc, _ | .ssort _, _, hc, _ | .kcall _ _, _, hc, _ | .repr _, _, hc, _ | .catb _ _, _, hc, _ | .lrng _, _, hc, _ | .lc2 _ _ _ _ _, _, hc, _ | .callB _ _, _, hc, _ => by simp [freshC] at hc
/-! ### statements -/
structure SI (A : Ad) (K : PySem.W.Frag) (w0 : Wd) (H0 : Hp) (ex : Addr → Prop) (w : Wd) (ρ : Env) (st : Store) (σ : L2.St) (H : Hp) : Prop where
  ext : Ext ex w0 H0 w H
  sr : SR A K w st H
  rs : RS A K H0 ex w ρ σ H
theorem SI.step {K : PySem.W.Frag} {w0 w w' : Wd} {H0 H H' : Hp} {ex : Addr → Prop} {ρ : Env} {st st' : Store} {σ : L2.St} (I : SI A K w0 H0 ex w ρ st σ H) (E : Ext no w H w' H') (S' : SR A K w' st' H') : SI A K w0 H0 ex w' ρ st' σ H' :=
  ⟨I.ext.trans E.weak, S', I.rs.ext E⟩
/-- what a statement's flow owes to its ends -/
def KF (A : Ad) (K : PySem.W.Frag) (fr : Bool) (w0 : Wd) (H0 : Hp) (ex : Addr → Prop) (ws : Wd) (Dn : Ends) : Fl → Prop
  | .nx ρ st => ∀ σ H w, ws.le w → SI A K w0 H0 ex w ρ st σ H → Dn.nx σ H
  | .bk ρ st => ∀ σ H w, ws.le w → SI A K w0 H0 ex w ρ st σ H → Dn.bk σ H
  | .ct ρ st => ∀ σ H w, ws.le w → SI A K w0 H0 ex w ρ st σ H → Dn.ct σ H
  | .rt d st => ∀ v H w, Ext ex w0 H0 w H → SR A K w st H → (if fr = true then FR A K w H0 H d v else RD A K w d v) → Dn.rt v H
  | _ => False
theorem KF.le {K : PySem.W.Frag} {fr : Bool} {w0 ws ws' : Wd} {H0 : Hp} {ex : Addr → Prop} {Dn : Ends} {f : Fl} (h : KF A K fr w0 H0 ex ws Dn f) (l : ws.le ws') : KF A K fr w0 H0 ex ws' Dn f := by
  cases f with
  | nx ρ st => exact fun σ H w q => h σ H w (l.trans q)
  | bk ρ st => exact fun σ H w q => h σ H w (l.trans q)
  | ct ρ st => exact fun σ H w q => h σ H w (l.trans q)
  | rt d st => exact h
  | exc k fs st => exact h
  | bad => exact h
variable (P A call X) in
def tS (wf : Nat) (fr : Bool) (s : S) : TS := fun Dn σ H => ∃ w0 H0 ex w ρ st, SI A X.K w0 H0 ex w ρ st σ H ∧ KF A X.K fr w0 H0 ex w Dn (evS P.tab call wf s ρ st)
variable (P A call X) in
def tSs (wf : Nat) (fr : Bool) (s : Ss) : TS := fun Dn σ H => ∃ w0 H0 ex w ρ st, SI A X.K w0 H0 ex w ρ st σ H ∧ KF A X.K fr w0 H0 ex w Dn (evSs P.tab call wf s ρ st)
structure SCxt (P : Prg) (A : Ad) (call : Nat → List D → Store → Res D) (fd : Nat → FuncData) (lv : Nat) (N : List PySem.Str) (sc : Scope) (X : Cx) : Prop extends Cxt P A call fd lv N sc X where
  fnT : ∀ x, X.fn x = true
  kind : X.env.scope.kind = .function
  pas : PassesOwn (model X.prog X.w) X.A X.env X.xe
variable {wf : Nat} {fr : Bool}
/-- an expression's end, seen from a statement -/
theorem e_step {c : C} {w0 H0 ex w ρ st σ H} {Q : VK} {f : D → Store → Fl} (I : SI A X.K w0 H0 ex w ρ st σ H) {Dn : Ends} (hb : (!c.isBor) = true)
    (hk : KF A X.K fr w0 H0 ex w Dn ((ev P.tab call c ρ st).fl f))
    (k : ∀ d st1 v H1 w1, w.le w1 → SI A X.K w0 H0 ex w1 ρ st1 σ H1 → RD A X.K w1 d v → KF A X.K fr w0 H0 ex w1 Dn (f d st1) → Q v H1) : tE P A call X c σ H Q := by
  cases q : ev P.tab call c ρ st with
  | ok d st1 =>
    rw [q] at hk
    exact ⟨w, ρ, st, H0, ex, d, st1, I.sr, I.rs, q, fun v H1 w1 E1 S1 p => k d st1 v H1 w1 E1.le (I.step E1 S1) (p.rd hb) (hk.le E1.le)⟩
  | exc k' fs st1 =>
    rw [q] at hk
    exact hk.elim
  | bad =>
    rw [q] at hk
    exact hk.elim
theorem f_step {c : C} {w0 H0 ex w ρ st σ H} {Q : VK} {f : D → Store → Fl} (I : SI A X.K w0 H0 ex w ρ st σ H) {Dn : Ends}
    (hk : KF A X.K fr w0 H0 ex w Dn ((ev P.tab call c ρ st).fl f))
    (k : ∀ d st1 v H1 w1, w.le w1 → SI A X.K w0 H0 ex w1 ρ st1 σ H1 → FR A X.K w1 H H1 d v → KF A X.K fr w0 H0 ex w1 Dn (f d st1) → Q v H1) : tF P A call X c σ H Q := by
  cases q : ev P.tab call c ρ st with
  | ok d st1 =>
    rw [q] at hk
    exact ⟨w, ρ, st, H0, ex, d, st1, I.sr, I.rs, q, fun v H1 w1 E1 S1 p => k d st1 v H1 w1 E1.le (I.step E1 S1) p (hk.le E1.le)⟩
  | exc k' fs st1 =>
    rw [q] at hk
    exact hk.elim
  | bad =>
    rw [q] at hk
    exact hk.elim
theorem t_step {c : C} {w0 H0 ex w ρ st σ H} {Q : Bool → Hp → Prop} {f : Bool → Store → Fl} (I : SI A X.K w0 H0 ex w ρ st σ H) {Dn : Ends}
    (hk : KF A X.K fr w0 H0 ex w Dn ((evT P.tab call c ρ st).fl f))
    (k : ∀ b st1 H1 w1, w.le w1 → SI A X.K w0 H0 ex w1 ρ st1 σ H1 → KF A X.K fr w0 H0 ex w1 Dn (f b st1) → Q b H1) : tTst P A call X c σ H Q := by
  cases q : evT P.tab call c ρ st with
  | ok d st1 =>
    rw [q] at hk
    exact ⟨w, ρ, st, H0, ex, d, st1, I.sr, I.rs, q, fun H1 w1 E1 S1 => k d st1 H1 w1 E1.le (I.step E1 S1) (hk.le E1.le)⟩
  | exc k' fs st1 =>
    rw [q] at hk
    exact hk.elim
  | bad =>
    rw [q] at hk
    exact hk.elim
/-! ### stores -/
def setB (N : List PySem.Str) (sc : Scope) (i : Nat) (x : PySem.Str) : Bool := decide (N[i]? = some x) && ownB sc x
theorem own_is {x : PySem.Str} (h : ownB sc x = true) : Loc sc x := by
  unfold ownB at h
  split at h
  · rename_i e; exact .inl e
  · rename_i e; exact .inr e
  · cases h
/-- a comprehension's value is stored within its own block, or behind it -/
def lcB (sc : Scope) (x : PySem.Str) (px : Pos) : Expr → Bool
  | .ListComp _ gs scope pos => decide (sc.names.lookup x = some .cell) || (decide (gs.length = 1) && decide (sc.names.lookup x = some .local) && (px.line == pos.line) && !(scope.names.any fun (n, k) => n == x && (k == .local || k == .cell)))
  | _ => true
theorem swap_cell {e : Expr} {x : PySem.Str} {px : Pos} {l : Nat} {env : PySem.Env} (hs : shape e = true) (h : env.scope.names.lookup x = some .cell) : swapsWith e (some (.Name x px)) l env = pure false := by
  have ky : env.kindOf x = some .cell := h
  cases e <;> first | rfl | exact absurd hs Bool.false_ne_true | skip
  unfold swapsWith
  have z : ((some NameKind.cell : Option NameKind) == some .local) = false := by decide
  simp only [ky, z, Bool.and_false, Bool.false_and]
theorem set_core (cx : SCxt P A call fd lv N sc X) {c : C} {i : Nat} {x : PySem.Str} {px pos : Pos} {e : Expr} (hset : setB N sc i x = true) (hs : shape e = true) (h : chkE P N sc c e = true) (hl : lcB sc x px e = true) {t : TE} (hpe : PE X e t) (ht : t = tE P A call X c ∨ (freshC P c = true ∧ t = tF P A call X c)) :
    PS X (.Assign [.Name x px] e pos) (tAsg t (gName i)) := by
  unfold setB at hset
  rw [Bool.and_eq_true, decide_eq_true_eq] at hset
  have hi : X.N[i]? = some x := by rw [cx.N]; exact hset.1
  have hx : Loc X.env.scope x := by rw [cx.sc]; exact own_is hset.2
  by_cases hlc : isLc e = true
  · cases e with
    | ListComp ee gs scope cpos =>
      unfold lcB at hl
      simp only [Bool.or_eq_true, Bool.and_eq_true, decide_eq_true_eq] at hl
      rcases hl with hl | hl
      · exact ps_set cx.nd hi hx hpe (swap_cell hs (by rw [cx.sc]; exact hl)) (.inl (cx.fnT x))
      · have hyl : X.env.scope.names.lookup x = some .local := by rw [cx.sc]; exact hl.1.1.2
        have hsw := sw_true (elt := ee) (gs := gs) (l := pos.line) cx.kind hyl hl.1.2 (by simpa using hl.2)
        cases c with
        | lc elt tg it ifs =>
          obtain ⟨ee', t', i', fs, n, scope', pos', heq⟩ := lc_inv h
          cases heq
          obtain ⟨rfl, h1, h2, h3, h4, h5, h6, h7⟩ := lc_parts cx.toCxt h
          have hps := ps_setLc (spos := pos) cx.calm cx.nd hi hyl hsw h1 h2 h3 h4 h5 (fun x => fold_of _ h6 x)
          rw [zip_snd] at hps
          refine PS.mono hps fun Dn σ H q => ?_
          rcases ht with rfl | ⟨_, rfl⟩
          · exact lc_step elt tg it ifs h7 σ H _ q
          · exact lc_stepF elt tg it ifs h7 σ H _ q
        | lc2 elt tg it tg2 it2 =>
          exfalso
          have hone := hl.1.1.1
          simp only [chkE] at h
          split at h
          · rename_i g hg
            rw [gen2_is hg] at hone
            simp at hone
          · cases h
        | _ => simp [chkE] at h
    | _ => cases hlc
  · exact ps_set cx.nd hi hx hpe (swap_of _ _ _ hs (by simpa using hlc)) (.inl (cx.fnT x))
theorem st_set (cx : SCxt P A call fd lv N sc X) {c : C} {i : Nat} {x : PySem.Str} {px pos : Pos} {e : Expr} (hset : setB N sc i x = true) (hb : (!c.isBor) = true) (hs : shape e = true) (h : chkE P N sc c e = true) (hl : lcB sc x px e = true) : PS X (.Assign [.Name x px] e pos) (tS P A call X wf fr (.set i c)) := by
  refine PS.mono (set_core cx hset hs h hl (sndE c cx.toCxt h).1 (.inl rfl)) ?_
  rintro Dn σ H ⟨w0, H0, ex, w, ρ, st, I, k⟩
  simp only [evS] at k
  refine e_step I hb k fun d st1 v H1 w1 l1 I1 r k1 => ?_
  split at k1
  · rename_i hi
    exact k1 _ _ w1 (.refl _) ⟨I1.ext, I1.sr, I1.rs.setv hi r⟩
  · exact k1.elim
theorem own_flow {c : C} {i : Nat} : ∀ Dn σ H, tS P A call X wf fr (.own i c) Dn σ H → tAsg (tF P A call X c) (gName i) Dn σ H := by
  rintro Dn σ H ⟨w0, H0, ex, w, ρ, st, I, k⟩
  simp only [evS] at k
  refine f_step I k fun d st1 v H1 w1 l1 I1 r k1 => ?_
  obtain ⟨xs, a, vs, rfl, rfl, h1, h2, h3, h4⟩ := r
  dsimp only at k1
  split at k1
  · rename_i hi
    refine k1 _ _ w1 (.refl _) ⟨I1.ext, I1.sr, I1.rs.set hi ⟨a, vs, rfl, h1, h2, h3, I.ext.none_of h4⟩ ?_⟩
    intro _ j t b hj q1 q2 q3 q4
    cases q3
    obtain ⟨v, z1, z2⟩ := I.rs.sl j t q1
    rw [q4] at z1
    cases z1
    cases t with
    | v d => cases q2
    | own ys =>
      obtain ⟨a', vs', e1, e2, _⟩ := z2
      cases e1
      rw [h4] at e2
      cases e2
    | self c fs =>
      obtain ⟨a', dx, gs, e1, e2, _⟩ := z2
      cases e1
      rw [h4] at e2
      cases e2
  · exact k1.elim
theorem st_own (cx : SCxt P A call fd lv N sc X) {c : C} {i : Nat} {x : PySem.Str} {px pos : Pos} {e : Expr} (hset : setB N sc i x = true) (hf : freshC P c = true) (hs : shape e = true) (h : chkE P N sc c e = true) (hl : lcB sc x px e = true) : PS X (.Assign [.Name x px] e pos) (tS P A call X wf fr (.own i c)) := by
  exact PS.mono (set_core cx hset hs h hl (sndF cx.toCxt hf h) (.inr ⟨hf, rfl⟩)) own_flow
end
end Eng

namespace Eng
open PySem PySem.Spec PyProof.Rows L2
abbrev toK (gs : List (PySem.Str × V)) : List (Key × V) := gs.map fun p => ((Sum.inr p.1 : Key), p.2)
section
variable {A : Ad} {K : PySem.W.Frag} {w : Wd}
theorem any_eq (hA : Inj A) {k : Nat} : ∀ {kvs : List (Nat × D)} {gs : List (PySem.Str × V)}, RDf A K w kvs gs → ((toK gs).any fun kv => decide (kv.1 = (Sum.inr (A.nm k) : Key))) = (kvs.any fun p => decide (p.1 = k))
  | _, _, .nil => rfl
  | _, _, .cons (k := j) (v := v) h r => by
    have e : decide ((Sum.inr (A.nm j) : Key) = Sum.inr (A.nm k)) = decide (j = k) := by
      by_cases hj : j = k
      · subst hj; simp
      · have : ¬ A.nm j = A.nm k := fun q => hj (hA _ _ q)
        simp [hj, this]
    show (decide ((Sum.inr (A.nm j) : Key) = Sum.inr (A.nm k)) || _) = (decide (j = k) || _)
    rw [e, any_eq hA r]
theorem map_eq (hA : Inj A) {k : Nat} {d : D} {v : V} (h : RD A K w d v) : ∀ {kvs : List (Nat × D)} {gs : List (PySem.Str × V)}, RDf A K w kvs gs → ∃ gs', RDf A K w (kvs.map fun p => if p.1 = k then (p.1, d) else p) gs' ∧ (toK gs).map (fun kv => if kv.1 = (Sum.inr (A.nm k) : Key) then (kv.1, v) else kv) = toK gs'
  | _, _, .nil => ⟨[], .nil, rfl⟩
  | _, _, .cons (k := j) (v := v') h' r => by
    obtain ⟨gs', q1, q2⟩ := map_eq (k := k) hA h r
    by_cases hj : j = k
    · subst hj
      refine ⟨(A.nm j, v) :: gs', ?_, ?_⟩
      · simp only [List.map_cons, if_true]
        exact .cons h q1
      · simp only [toK, List.map_cons, if_true]
        exact congrArg _ q2
    · have hn : ¬ (Sum.inr (A.nm j) : Key) = Sum.inr (A.nm k) := fun q => hj (hA _ _ (Sum.inr.inj q))
      refine ⟨(A.nm j, v') :: gs', ?_, ?_⟩
      · simp only [List.map_cons, if_neg hj]
        exact .cons h' q1
      · simp only [toK, List.map_cons, if_neg hn]
        exact congrArg _ q2
theorem RDf.append : ∀ {a b : List (Nat × D)} {u v : List (PySem.Str × V)}, RDf A K w a u → RDf A K w b v → RDf A K w (a ++ b) (u ++ v)
  | _, _, _, _, .nil, r => r
  | _, _, _, _, .cons h t, r => .cons h (RDf.append t r)
theorem put_eq (hA : Inj A) {k : Nat} {d : D} {v : V} (h : RD A K w d v) {kvs : List (Nat × D)} {gs : List (PySem.Str × V)} (r : RDf A K w kvs gs) : ∃ gs', RDf A K w (putM k d kvs) gs' ∧ putK (toK gs) (Sum.inr (A.nm k) : Key) v = toK gs' := by
  unfold putM putK
  rw [any_eq hA r]
  split
  · exact map_eq hA h r
  · refine ⟨gs ++ [(A.nm k, v)], r.append (.cons h .nil), ?_⟩
    simp [toK]
theorem ext_put {st : Store} {H : Hp} {r : Nat} {o : HO} (S : SR A K w st H) (hr : r < w.n) : Ext no w H w (upd H (w.μ r) o) where
  le := .refl _
  fr := fun a u q n _ => by rw [upd_ne (fun e => n r hr e.symm)]; exact q
  th := fun a u q => by
    by_cases e : a = w.μ r
    · subst e; exact ⟨o, upd_same⟩
    · exact ⟨u, by rw [upd_ne e]; exact q⟩
  nw := fun _ _ q => .inl q
  mn := fun k h1 h2 => absurd h2 (Nat.not_lt.mpr h1)
theorem sr_put {st : Store} {H : Hp} {r : Nat} {kvs : List (Nat × D)} {gs : List (PySem.Str × V)} (S : SR A K w st H) (hr : r < w.n) (rf : RDf A K w kvs gs) : SR A K w (st.set r (.dk kvs)) (upd H (w.μ r) (.dK (toK gs))) where
  sub := fun a u q => by
    have ne : a ≠ w.μ r := fun e => by
      subst e
      rw [S.nog r hr] at q
      cases q
    rw [upd_ne ne]
    exact S.sub a u q
  len := by rw [List.length_set]; exact S.len
  cell := fun k c q => by
    by_cases e : k = r
    · subst e
      rw [List.getElem?_set_self (by rw [← S.len]; exact hr)] at q
      cases q
      rw [upd_same]
      exact ⟨gs, rf, rfl⟩
    · rw [List.getElem?_set_ne (Ne.symm e)] at q
      have hk : k < w.n := by rw [S.len]; exact (List.getElem?_eq_some_iff.mp q).1
      rw [upd_ne (fun z => e (S.inj k r hk hr z))]
      exact S.cell k c q
  inj := S.inj
  nog := S.nog
end
section
variable {P : Prg} {A : Ad} {call : Nat → List D → Store → Res D} {fd : Nat → FuncData} {lv : Nat} {N : List PySem.Str} {sc : Scope} {X : Cx} {wf : Nat} {fr : Bool}
theorem st_dput (cx : SCxt P A call fd lv N sc X) {o c : C} {k : Nat} {eo e : Expr} {s : PySem.Str} {kk : Nat} {p2 pos' pos : Pos} (hk : nmOf P.nm k = s) (hbo : (!o.isBor) = true) (ho : chkE P N sc o eo = true) (hb : (!c.isBor) = true) (hs : shape e = true) (hlc : isLc e = false) (h : chkE P N sc c e = true) :
    PS X (.Assign [.Subscript eo (.Constant (.str s) kk p2) pos'] e pos) (tS P A call X wf fr (.dput o k c)) := by
  refine PS.mono (ps_dput (hu_of cx.room) (sndE o cx.toCxt ho).1 pe_str (sndE c cx.toCxt h).1 (swap_of _ _ _ hs hlc)) ?_
  rintro Dn σ H ⟨w0, H0, ex, w, ρ, st, I, kf⟩
  simp only [evS] at kf
  refine e_step I hb kf fun d st1 v H1 w1 l1 I1 r k1 => ?_
  refine e_step I1 hbo k1 fun d2 st2 u H2 w2 l2 I2 r2 k2 => ?_
  cases d2 with
  | ref q =>
    unfold dputD at k2
    dsimp only at k2
    cases hc : getCell st2 q with
    | none => rw [hc] at k2; exact k2.elim
    | some kvs =>
      rw [hc] at k2
      dsimp only at k2
      split at k2
      · rename_i st3 hlen
        split at hlen
        · rename_i hlen'
          cases hlen
          obtain ⟨rfl, hr⟩ := rd_ref r2
          obtain ⟨gs, rf, hH, _⟩ := cell_of I2.sr hc
          obtain ⟨gs', rf', hput⟩ := put_eq cx.gok.nm.inj (k := k) (r.mono l2) rf
          have hz : (toK gs).length < sizeLine := by
            rw [List.length_map, ← rf.length, sizeLine_eq]
            omega
          have dp := DPut.k (k := (Sum.inr (A.nm k) : Key)) (v := v) hH hz
          rw [hput] at dp
          refine ⟨w2.μ q, _, rfl, by
            rw [← hk, ← cx.gok.nmE k]
            exact dp, ?_⟩
          exact k2 _ _ w2 (.refl _) (I2.step (ext_put I2.sr hr) (sr_put I2.sr hr rf'))
        · cases hlen
      · exact k2.elim
  | _ => exact k2.elim
theorem st_ex (cx : SCxt P A call fd lv N sc X) {c : C} {e : Expr} {pos : Pos} (hb : (!c.isBor) = true) (hs : shape e = true) (hlc : isLc e = false) (h : chkE P N sc c e = true) : PS X (.Expr e pos) (tS P A call X wf fr (.ex c)) := by
  refine PS.mono (ps_expr (sndE c cx.toCxt h).1 (swap_of _ _ _ hs hlc)) ?_
  rintro Dn σ H ⟨w0, H0, ex, w, ρ, st, I, kf⟩
  simp only [evS] at kf
  refine e_step I hb kf fun d st1 v H1 w1 l1 I1 r k1 => ?_
  exact k1 _ _ w1 (.refl _) I1
theorem st_ret (cx : SCxt P A call fd lv N sc X) {c : C} {e : Expr} {pos : Pos} (hf : fr = false) (hb : (!c.isBor) = true) (h : chkE P N sc c e = true) : PS X (.Return (some e) pos) (tS P A call X wf fr (.ret c)) := by
  refine PS.mono (ps_ret (sndE c cx.toCxt h).1) ?_
  rintro Dn σ H ⟨w0, H0, ex, w, ρ, st, I, kf⟩
  simp only [evS] at kf
  refine e_step I hb kf fun d st1 v H1 w1 l1 I1 r k1 => ?_
  exact k1 _ _ w1 I1.ext I1.sr (by rw [if_neg (by rw [hf]; exact Bool.false_ne_true)]; exact r)
theorem st_retF (cx : SCxt P A call fd lv N sc X) {c : C} {e : Expr} {pos : Pos} (hf : fr = true) (hb : freshC P c = true) (h : chkE P N sc c e = true) : PS X (.Return (some e) pos) (tS P A call X wf fr (.ret c)) := by
  refine PS.mono (ps_ret (sndF cx.toCxt hb h)) ?_
  rintro Dn σ H ⟨w0, H0, ex, w, ρ, st, I, kf⟩
  simp only [evS] at kf
  refine f_step I kf fun d st1 v H1 w1 l1 I1 r k1 => ?_
  obtain ⟨ys, a, us, q1, q2, q3, q4, q5, q6⟩ := r
  exact k1 _ _ w1 I1.ext I1.sr (by rw [if_pos hf]; exact ⟨ys, a, us, q1, q2, q3, q4, q5, I.ext.none_of q6⟩)
theorem st_retO (cx : SCxt P A call fd lv N sc X) {i : Nat} {x : PySem.Str} {p pos : Pos} (hf : fr = true) (h : nameB N sc i x = true) : PS X (.Return (some (.Name x p)) pos) (tS P A call X wf fr (.ret (.bor i))) := by
  obtain ⟨h1, h2, h3, h4⟩ := name_of h
  refine PS.mono (ps_ret (pe_var (by rw [cx.N]; exact h1) (by rw [cx.sc]; exact h2) h3 h4)) ?_
  rintro Dn σ H ⟨w0, H0, ex, w, ρ, st, I, kf⟩
  simp only [evS, ev] at kf
  cases q : slotO ρ i with
  | none => rw [q] at kf; exact kf.elim
  | some xs =>
    rw [q] at kf
    unfold slotO at q
    split at q
    · rename_i ys hs
      cases q
      obtain ⟨v, hv, a, vs, rfl, e1, e2, e3, e4⟩ := I.rs.sl i _ hs
      exact ⟨_, hv, kf _ _ w I.ext I.sr (by rw [if_pos hf]; exact ⟨_, a, vs, rfl, rfl, e1, e2, e3, e4⟩)⟩
    · cases q
theorem st_retN {pos : Pos} (hf : fr = false) : PS X (.Return none pos) (tS P A call X wf fr (.ret .non)) := by
  refine PS.mono ps_retN ?_
  rintro Dn σ H ⟨w0, H0, ex, w, ρ, st, I, kf⟩
  simp only [evS, ev] at kf
  exact kf _ _ w I.ext I.sr (by rw [if_neg (by rw [hf]; exact Bool.false_ne_true)]; exact .non)
theorem st_never {s : Stmt} : PS X s (tS P A call X wf fr .never) := by
  refine PS.mono ps_never ?_
  rintro Dn σ H ⟨w0, H0, ex, w, ρ, st, I, kf⟩
  simp only [evS] at kf
  exact kf
theorem st_next {s : Stmt} (h : PS X s tNext) : PS X s (tS P A call X wf fr .pass) := by
  refine PS.mono h ?_
  rintro Dn σ H ⟨w0, H0, ex, w, ρ, st, I, kf⟩
  simp only [evS] at kf
  exact kf _ _ w (.refl _) I
theorem st_brk {pos : Pos} : PS X (.Break pos) (tS P A call X wf fr .brk) := by
  refine PS.mono ps_break ?_
  rintro Dn σ H ⟨w0, H0, ex, w, ρ, st, I, kf⟩
  simp only [evS] at kf
  exact kf _ _ w (.refl _) I
theorem st_cont {pos : Pos} : PS X (.Continue pos) (tS P A call X wf fr .cont) := by
  refine PS.mono ps_continue ?_
  rintro Dn σ H ⟨w0, H0, ex, w, ρ, st, I, kf⟩
  simp only [evS] at kf
  exact kf _ _ w (.refl _) I
theorem st_ite {t : C} {a b : Ss} {et : Expr} {sa sb : List Stmt} {pos : Pos} (ht : PT X et (tTst P A call X t)) (ha : PSs X sa (tSs P A call X wf fr a)) (hb : PSs X sb (tSs P A call X wf fr b)) : PS X (.If et sa sb pos) (tS P A call X wf fr (.ite t a b)) := by
  refine PS.mono (ps_if ht ha hb) ?_
  rintro Dn σ H ⟨w0, H0, ex, w, ρ, st, I, kf⟩
  simp only [evS] at kf
  refine t_step I kf fun b st1 H1 w1 l1 I1 k1 => ?_
  cases b with
  | true => exact ⟨w0, H0, ex, w1, ρ, st1, I1, k1⟩
  | false => exact ⟨w0, H0, ex, w1, ρ, st1, I1, k1⟩
theorem ss_nil : PSs X [] (tSs P A call X wf fr .nil) := by
  refine PSs.mono pss_nil ?_
  rintro Dn σ H ⟨w0, H0, ex, w, ρ, st, I, kf⟩
  simp only [evSs] at kf
  exact kf _ _ w (.refl _) I
theorem ss_cons {s : S} {r : Ss} {x : Stmt} {xs : List Stmt} (h1 : PS X x (tS P A call X wf fr s)) (h2 : PSs X xs (tSs P A call X wf fr r)) : PSs X (x :: xs) (tSs P A call X wf fr (.cons s r)) := by
  refine PSs.mono (pss_cons h1 h2) ?_
  rintro Dn σ H ⟨w0, H0, ex, w, ρ, st, I, kf⟩
  simp only [evSs] at kf
  refine ⟨w0, H0, ex, w, ρ, st, I, ?_⟩
  cases q : evS P.tab call wf s ρ st with
  | nx ρ1 st1 =>
    rw [q] at kf
    exact fun σ1 H1 w1 l1 I1 => ⟨w0, H0, ex, w1, ρ1, st1, I1, kf.le l1⟩
  | rt d st1 => rw [q] at kf; exact kf
  | bk ρ1 st1 => rw [q] at kf; exact kf
  | ct ρ1 st1 => rw [q] at kf; exact kf
  | exc k fs st1 => rw [q] at kf; exact kf.elim
  | bad => rw [q] at kf; exact kf.elim
/-- an owned list is frozen -/
theorem SI.frz {K : PySem.W.Frag} {w0 w : Wd} {H0 H : Hp} {ex : Addr → Prop} {ρ : Env} {st : Store} {σ : L2.St} {i : Nat} {xs : List D} (I : SI A K w0 H0 ex w ρ st σ H) (q : ρ[i]? = some (some (.own xs))) : ∃ w', w.le w' ∧ SI A K w0 H0 ex w' (ρ.set i (some (.v (.lst xs)))) st σ H := by
  obtain ⟨v, hv, a, vs, rfl, e1, e2, e3, e4⟩ := I.rs.sl i _ q
  have hi : i < ρ.length := (List.getElem?_eq_some_iff.mp q).1
  have l : w.le (w.add a (.lst vs)) := add_le e3.1
  refine ⟨w.add a (.lst vs), l, ext_fz I.ext e4 e3.1, sr_frz I.sr e3 e1, ?_, fun j s hj => ?_, fun j k s t b hjk q1 m1 q2 m2 v1 v2 => ?_⟩
  · rw [List.length_set]; exact I.rs.len
  · by_cases e : j = i
    · subst e
      rw [List.getElem?_set_self hi] at hj
      cases hj
      exact ⟨_, hv, .lst (SqL.of (show upd w.G a _ a = _ from upd_same)) (e2.mono l)⟩
    · rw [List.getElem?_set_ne (Ne.symm e)] at hj
      obtain ⟨u, hu, hs⟩ := I.rs.sl j s hj
      refine ⟨u, hu, ?_⟩
      cases s with
      | v d => exact RD.mono l hs
      | own ys =>
        obtain ⟨b, us, rfl, f1, f2, f3, f4⟩ := hs
        have ne : b ≠ a := fun z => by
          subst z
          exact I.rs.ds j i _ _ b e hj rfl q rfl hu hv
        exact ⟨b, us, rfl, f1, f2.mono l, ⟨by show upd w.G a _ b = none; rw [upd_ne ne]; exact f3.1, f3.2⟩, f4⟩
      | self c fs =>
        obtain ⟨b, dx, gs, rfl, f1, f2, f3, f4⟩ := hs
        have ne : b ≠ a := fun z => by
          subst z
          exact I.rs.ds j i _ _ b e hj rfl q rfl hu hv
        exact ⟨b, dx, gs, rfl, f1, f2.mono l, ⟨by show upd w.G a _ b = none; rw [upd_ne ne]; exact f3.1, f3.2⟩, f4⟩
  · have h1 : j ≠ i := fun z => by
      subst z
      rw [List.getElem?_set_self hi] at q1
      cases q1
      cases m1
    have h2 : k ≠ i := fun z => by
      subst z
      rw [List.getElem?_set_self hi] at q2
      cases q2
      cases m2
    rw [List.getElem?_set_ne (Ne.symm h1)] at q1
    rw [List.getElem?_set_ne (Ne.symm h2)] at q2
    exact I.rs.ds j k s t b hjk q1 m1 q2 m2 v1 v2
theorem ss_frz {i : Nat} {r : Ss} {xs : List Stmt} (h2 : PSs X xs (tSs P A call X wf fr r)) : PSs X xs (tSs P A call X wf fr (.cons (.frz i) r)) := by
  refine PSs.mono h2 ?_
  rintro Dn σ H ⟨w0, H0, ex, w, ρ, st, I, kf⟩
  simp only [evSs, evS] at kf
  cases q : slotO ρ i with
  | none => rw [q] at kf; exact kf.elim
  | some ys =>
    rw [q] at kf
    dsimp only at kf
    unfold slotO at q
    split at q
    · rename_i zs hs
      cases q
      obtain ⟨w', l, I'⟩ := I.frz hs
      exact ⟨w0, H0, ex, w', _, st, I', kf.le l⟩
    · cases q
end
end Eng

namespace Eng
open PySem PySem.Spec PyProof.Rows L2
def notTup : Expr → Bool
  | .Tuple .. => false
  | _ => true
theorem sws_of {ts : List Expr} {k : Nat} {p : Pos} {e : Expr} {env : PySem.Env} (h : notTup e = true) : swappedStores [.Tuple ts k p] e env = pure none := by
  cases e <;> first | rfl | exact absurd h Bool.false_ne_true
def isStar : Expr → Bool
  | .Starred .. => true
  | _ => false
theorem star_sh {e : Expr} (h : shape e = true) : isStar e = false := by
  cases e <;> first | rfl | exact absurd h Bool.false_ne_true
def parB (sc : Scope) (x y : PySem.Str) (px py : Pos) (ea eb : Expr) : Bool := decide (sc.names.lookup x = some .local) && decide (sc.names.lookup y = some .local) && (py.line == px.line) && decide (x ≠ y) && !([ea, eb].all (foldedForSure 8)) && !([ea, eb].all (constantsAlone 8)) && shape ea && shape eb
theorem par_sw {x y : PySem.Str} {px py pt pt2 : Pos} {kt k2 : Nat} {ea eb : Expr} {env : PySem.Env} (hk : env.scope.kind = .function) (h : parB env.scope x y px py ea eb = true) : swappedStores [.Tuple [.Name x px, .Name y py] kt pt] (.Tuple [ea, eb] k2 pt2) env = pure (some [x, y]) := by
  unfold parB at h
  simp only [Bool.and_eq_true, decide_eq_true_eq] at h
  obtain ⟨⟨⟨⟨⟨⟨⟨h1, h2⟩, h3⟩, h4⟩, h5⟩, h6⟩, h7⟩, h8⟩ := h
  have kx : env.kindOf x = some .local := h1
  have ky : env.kindOf y = some .local := h2
  have hb : env.blockKind = .function := by unfold PySem.Env.blockKind; rw [hk]; rfl
  have hf : ([ea, eb].all (foldedForSure 8)) = false := Bool.not_eq_true' _ ▸ h5
  have hc : ([ea, eb].all (constantsAlone 8)) = false := Bool.not_eq_true' _ ▸ h6
  have hdup : ([x, y] : List PySem.Str).eraseDups.length = 2 := by
    have : (x == y) = false := by simpa using h4
    have h2 : (y == x) = false := by simpa using (Ne.symm h4)
    simp [List.eraseDups_cons, List.eraseDups_nil, List.filter, this, h2]
  have hst : ([ea, eb].any isStar) = false := by simp [star_sh h7, star_sh h8]
  have hn : ([Expr.Name x px, Expr.Name y py].filterMap fun t => match t with
    | .Name id pos => if (env.kindOf id == some .local && pos.line == px.line) = true then some id else none
    | _ => none) = [x, y] := by
    rw [List.filterMap_cons_some (b := x) (by simp [kx]), List.filterMap_cons_some (b := y) (by simp only [ky, h3]; rfl), List.filterMap_nil]
  show (if (!(2 == 2 || 2 == 3) || 2 != 2 || env.blockKind != .function) = true then pure none else
    if ([ea, eb].any isStar) = true then pure none else
    if ((([Expr.Name x px, Expr.Name y py].filterMap fun t => match t with
    | .Name id pos => if (env.kindOf id == some .local && pos.line == px.line) = true then some id else none
    | _ => none).length != 2) || _) = true then pure none else _) = _
  rw [if_neg (by rw [hb]; decide), if_neg (by rw [hst]; exact Bool.false_ne_true), if_neg (by
    intro z
    rw [Bool.or_eq_true] at z
    rcases z with z | z
    · rw [hn] at z; exact absurd z (by simp)
    · revert z
      show ¬ (((List.filterMap _ _).eraseDups.length != (List.filterMap _ _).length) = true)
      erw [hn]
      rw [hdup]
      simp)]
  show (if ([ea, eb].all (foldedForSure 8)) = true then pure none else _) = _
  rw [if_neg (by rw [hf]; exact Bool.false_ne_true)]
  show (if ([ea, eb].all (constantsAlone 8)) = true then _ else _) = _
  rw [if_neg (by rw [hc]; exact Bool.false_ne_true)]
  show pure (some (List.filterMap _ _)) = _
  erw [hn]
section
variable {P : Prg} {A : Ad} {call : Nat → List D → Store → Res D} {fd : Nat → FuncData} {lv : Nat} {N : List PySem.Str} {sc : Scope} {X : Cx} {wf : Nat} {fr : Bool}
theorem hL_of (cx : SCxt P A call fd lv N sc X) : ∀ x, ownB sc x = true → Loc X.env.scope x ∧ (X.fn x = true ∨ X.env.scope.names.lookup x = some .local) := fun x h => ⟨by rw [cx.sc]; exact own_is h, .inl (cx.fnT x)⟩
theorem st_unp (cx : SCxt P A call fd lv N sc X) {is : List Nat} {c : C} {es : List Expr} {k : Nat} {p pos : Pos} {e : Expr} (ht : targetB N (ownB sc) is (.Tuple es k p) = true) (hb : (!c.isBor) = true) (hs : shape e = true) (hlc : isLc e = false) (hnt : notTup e = true) (h : chkE P N sc c e = true) : PS X (.Assign [.Tuple es k p] e pos) (tS P A call X wf fr (.unp is c)) := by
  have hg := pg_tg (X := X) (N := N) cx.calm cx.nd cx.N (hL_of cx) ht
  refine PS.mono (ps_asg (sndE c cx.toCxt h).1 hg (show swapsWith e (some (.Tuple es k p)) pos.line X.env = pure false from swap_of _ _ _ hs hlc) (sws_of hnt)) ?_
  rintro Dn σ H ⟨w0, H0, ex, w, ρ, st, I, kf⟩
  simp only [evS] at kf
  have hlen : 2 ≤ is.length := by
    simp only [targetB, Bool.and_eq_true, decide_eq_true_eq] at ht
    exact ht.1
  refine e_step I hb kf fun d st1 v H1 w1 l1 I1 r k1 => ?_
  cases d with
  | tup ds =>
    dsimp only at k1
    cases q : setAll is ds ρ with
    | none => rw [q] at k1; exact k1.elim
    | some ρ1 =>
      rw [q] at k1
      refine bind_step I1.sr I1.rs r (ρ' := ρ1) ?_ fun σ' R' _ => k1 _ _ w1 (.refl _) ⟨I1.ext, I1.sr, R'⟩
      unfold bindT
      split
      · simp at hlen
      · exact q
  | _ => exact k1.elim
theorem st_par (cx : SCxt P A call fd lv N sc X) {i j : Nat} {a b : C} {x y : PySem.Str} {px py pt pt2 pos : Pos} {kt k2 : Nat} {ea eb : Expr} (hi : N[i]? = some x) (hj : N[j]? = some y) (hij : i ≠ j) (hp : parB sc x y px py ea eb = true) (hba : (!a.isBor) = true) (ha : chkE P N sc a ea = true) (hbb : (!b.isBor) = true) (hb : chkE P N sc b eb = true) :
    PS X (.Assign [.Tuple [.Name x px, .Name y py] kt pt] (.Tuple [ea, eb] k2 pt2) pos) (tS P A call X wf fr (.par i j a b)) := by
  have hp' := hp
  unfold parB at hp'
  simp only [Bool.and_eq_true, decide_eq_true_eq] at hp'
  obtain ⟨⟨⟨⟨⟨⟨⟨h1, h2⟩, h3⟩, h4⟩, h5⟩, h6⟩, h7⟩, h8⟩ := hp'
  refine PS.mono (ps_par cx.calm cx.nd (by rw [cx.N]; exact hi) (by rw [cx.N]; exact hj) hij (by rw [cx.sc]; exact h1) (by rw [cx.sc]; exact h2) (pa_cons (sndE a cx.toCxt ha).1 (pa_cons (sndE b cx.toCxt hb).1 pa_nil (star_of [] _ h8)) (star_of [eb] _ h7)) (par_sw cx.kind (by rw [cx.sc]; exact hp))) ?_
  rintro Dn σ H ⟨w0, H0, ex, w, ρ, st, I, kf⟩
  simp only [evS] at kf
  refine e_step I hba kf fun d st1 v H1 w1 l1 I1 r k1 => ?_
  refine e_step I1 hbb k1 fun d2 st2 u H2 w2 l2 I2 r2 k2 => ?_
  split at k2
  · rename_i hb3
    exact ⟨v, u, rfl, k2 _ _ w2 (.refl _) ⟨I2.ext, I2.sr, (I2.rs.setv hb3.1 (r.mono l2)).setv (by rw [List.length_set]; exact hb3.2.1) r2⟩⟩
  · exact k2.elim
theorem RS.bor {K : PySem.W.Frag} {H0 : Hp} {ex : Addr → Prop} {w : Wd} {ρ : Env} {σ : L2.St} {H : Hp} {i : Nat} {xs : List D} (R : RS A K H0 ex w ρ σ H) (q : slotO ρ i = some xs) : ρ[i]? = some (some (.own xs)) ∧ ∃ a vs, σ[i]? = some (some (.ref a)) ∧ H a = some (.lst vs) ∧ RDs A K w xs vs ∧ Priv w a ∧ H0 a = none := by
  unfold slotO at q
  split at q
  · rename_i ys hs
    cases q
    obtain ⟨v, hv, a, vs, rfl, e1, e2, e3, e4⟩ := R.sl i _ hs
    exact ⟨hs, a, vs, hv, e1, e2, e3, e4⟩
  · cases q
/-- a private object in a slot is written -/
theorem SI.wr {K : PySem.W.Frag} {w0 w : Wd} {H0 H : Hp} {ex : Addr → Prop} {ρ : Env} {st : Store} {σ : L2.St} {i : Nat} {s s' : Slot} {a : Addr} {o : HO} (I : SI A K w0 H0 ex w ρ st σ H) (q : ρ[i]? = some (some s)) (hm : s.mine = true) (hm' : s'.mine = true) (hv : σ[i]? = some (some (.ref a))) (p : Priv w a) (hH : H0 a = none ∨ ex a) (hin : ∃ u, H a = some u) (hs : SlotR A K H0 ex w (upd H a o) s' (.ref a)) : SI A K w0 H0 ex w (ρ.set i (some s')) st σ (upd H a o) where
  ext := {
    le := I.ext.le
    fr := fun b u q n x => by
      have ne : b ≠ a := fun z => by
        subst z
        rcases hH with h | h
        · rw [h] at q; cases q
        · exact x h
      rw [upd_ne ne]
      exact I.ext.fr b u q n x
    th := fun b u q => by
      by_cases e : b = a
      · subst e; exact ⟨o, upd_same⟩
      · rw [upd_ne e]; exact I.ext.th b u q
    nw := I.ext.nw
    mn := I.ext.mn }
  sr := sr_write I.sr p
  rs := by
    have hi : i < ρ.length := (List.getElem?_eq_some_iff.mp q).1
    refine ⟨by rw [List.length_set]; exact I.rs.len, fun j t hj => ?_, fun j k s1 t1 b hjk q1 m1 q2 m2 v1 v2 => ?_⟩
    · by_cases e : j = i
      · subst e
        rw [List.getElem?_set_self hi] at hj
        cases hj
        exact ⟨_, hv, hs⟩
      · rw [List.getElem?_set_ne (Ne.symm e)] at hj
        obtain ⟨u, hu, hsl⟩ := I.rs.sl j t hj
        refine ⟨u, hu, ?_⟩
        cases t with
        | v d => exact hsl
        | own ys =>
          obtain ⟨b, us, rfl, f1, f2, f3, f4⟩ := hsl
          have ne : b ≠ a := fun z => by
            subst z
            exact I.rs.ds j i _ _ b e hj rfl q hm hu hv
          exact ⟨b, us, rfl, by rw [upd_ne ne]; exact f1, f2, f3, f4⟩
        | self c fs =>
          obtain ⟨b, dx, gs, rfl, f1, f2, f3, f4⟩ := hsl
          have ne : b ≠ a := fun z => by
            subst z
            exact I.rs.ds j i _ _ b e hj rfl q hm hu hv
          exact ⟨b, dx, gs, rfl, by rw [upd_ne ne]; exact f1, f2, f3, f4⟩
    · have old : ∀ (j : Nat) (s1 : Slot), (ρ.set i (some s'))[j]? = some (some s1) → s1.mine = true → ∃ s2, ρ[j]? = some (some s2) ∧ s2.mine = true := fun j s1 z m => by
        by_cases e : j = i
        · subst e; exact ⟨s, q, hm⟩
        · rw [List.getElem?_set_ne (Ne.symm e)] at z
          exact ⟨s1, z, m⟩
      obtain ⟨s2, z1, z2⟩ := old j s1 q1 m1
      obtain ⟨t2, y1, y2⟩ := old k t1 q2 m2
      exact I.rs.ds j k s2 t2 b hjk z1 z2 y1 y2 v1 v2
theorem st_app (cx : SCxt P A call fd lv N sc X) {i : Nat} {c : C} {x m : PySem.Str} {px apos cpos pos : Pos} {e : Expr} (hm : m = ("append" : PySem.Str)) (hn : nameB N sc i x = true) (hline : (apos.endLine == cpos.line) = true) (hb : (!c.isBor) = true) (hs : shape e = true) (h : chkE P N sc c e = true) :
    PS X (.Expr (.Call (.Attribute (.Name x px) m apos) [e] [] cpos) pos) (tS P A call X wf fr (.app i c)) := by
  subst hm
  obtain ⟨h1, h2, h3, h4⟩ := name_of hn
  have hall : [e].all shape = true := by simp [hs]
  refine PS.mono (ps_expr (pe_bm PySem.F.plainAttrs_list PySem.F.slot_list_append PySem.F.type_list_append mt_append (pe_var (by rw [cx.N]; exact h1) (by rw [cx.sc]; exact h2) h3 h4) (pa_cons (sndE c cx.toCxt h).1 pa_nil (star_of [] _ hs)) rfl (by rw [allno_of cpos X.env [e] hall]; rfl) hline (star_of [] _ hs) rfl)) ?_
  rintro Dn σ H ⟨w0, H0, ex, w, ρ, st, I, kf⟩
  simp only [evS] at kf
  have hev := kf
  cases q : slotO ρ i with
  | none =>
    exfalso
    cases z : ev P.tab call c ρ st with
    | ok d st1 =>
      rw [z, Res.fl_ok, q] at kf
      exact kf
    | exc k fs st1 => rw [z] at kf; exact kf
    | bad => rw [z] at kf; exact kf
  | some xs =>
    obtain ⟨hs1, a, vs, e1, e2, e3, e4, e5⟩ := I.rs.bor q
    refine ⟨_, e1, .inl ⟨rfl, vs, SqL.of e2⟩, ?_⟩
    refine e_step I hb kf fun d st1 v H1 w1 l1 I1 r k1 => ?_
    rw [q] at k1
    dsimp only at k1
    obtain ⟨hs2, a', vs', f1, f2, f3, f4, f5⟩ := I1.rs.bor q
    rw [e1] at f1
    cases f1
    split at k1
    · rename_i hlen
      refine ⟨a, vs', v, rfl, rfl, f2, by rw [← f3.length, sizeLine_eq]; omega, ?_⟩
      exact k1 _ _ w1 (.refl _) (I1.wr hs2 rfl rfl e1 f4 (.inl f5) ⟨_, f2⟩ ⟨a, vs' ++ [v], rfl, upd_same, f3.append (.cons r .nil), f4, f5⟩)
    · exact k1.elim
theorem st_fld (cx : SCxt P A call fd lv N sc X) {i f : Nat} {c : C} {x m : PySem.Str} {px pos' pos : Pos} {e : Expr} (hm : nmOf P.nm f = m) (hn : nameB N sc i x = true) (hb : (!c.isBor) = true) (hs : shape e = true) (hlc : isLc e = false) (h : chkE P N sc c e = true) :
    PS X (.Assign [.Attribute (.Name x px) m pos'] e pos) (tS P A call X wf fr (.fld i f c)) := by
  obtain ⟨h1, h2, h3, h4⟩ := name_of hn
  refine PS.mono (ps_fld (pe_var (by rw [cx.N]; exact h1) (by rw [cx.sc]; exact h2) h3 h4) (sndE c cx.toCxt h).1 (swap_of _ _ _ hs hlc)) ?_
  rintro Dn σ H ⟨w0, H0, ex, w, ρ, st, I, kf⟩
  simp only [evS] at kf
  refine e_step I hb kf fun d st1 v H1 w1 l1 I1 r k1 => ?_
  split at k1
  · rename_i cc fs hsl
    split at k1
    · rename_i hc
      obtain ⟨u, hu, a, dx, gs, rfl, e1, e2, e3, e4⟩ := I1.rs.sl i _ hsl
      obtain ⟨kl, hk, hfl⟩ := fld_of hc.2
      have co := cx.gok.cls cc kl hk
      refine ⟨_, hu, a, A.cls cc, dx, gs, rfl, e1, co.cl, ?_, by rw [← e2.length]; omega, ?_⟩
      · rw [← hm, ← cx.gok.nmE f]
        exact co.na f hfl
      · have z := k1 σ (upd H1 a (.ins (A.cls cc) dx (putF (A.nm f) v gs))) w1 (.refl _) (I1.wr hsl rfl rfl hu e3 (.inr e4) ⟨_, e1⟩ ⟨a, dx, _, rfl, upd_same, e2.put cx.gok.nm.inj r, e3, e4⟩)
        rw [← hm, ← cx.gok.nmE f]
        exact z
    · exact k1.elim
  · exact k1.elim
theorem st_for (cx : SCxt P A call fd lv N sc X) {tg : List Nat} {it : Eng.It} {body : Ss} {t e : Expr} {sts : List Stmt} {pos : Pos} (ht : targetB N (ownB sc) tg t = true) (hs : shape e = true) (h : chkI P N sc it e t = true) (hb : PSs X sts (tSs P A call X wf fr body)) :
    PS X (.For t e sts [] pos) (tS P A call X wf fr (.for tg it body)) := by
  have hg := pg_tg (X := X) (N := N) cx.calm cx.nd cx.N (hL_of cx) ht
  refine PS.mono (ps_for cx.pas cx.calm (sndI it cx.toCxt h) hg hb (fun x => fold_of _ hs x)) ?_
  rintro Dn σ H ⟨w0, H0, ex, w, ρ, st, I, kf⟩
  simp only [evS] at kf
  cases q : evIt P.tab call it ρ st with
  | exc k' fs st1 => rw [q] at kf; exact kf.elim
  | bad => rw [q] at kf; exact kf.elim
  | ok xs st1 =>
    rw [q, Res.fl_ok] at kf
    refine ⟨w, ρ, st, H0, ex, xs, st1, I.sr, I.rs, q, fun J H1 w1 E1 S1 W => ?_⟩
    have I1 := I.step E1 S1
    obtain ⟨G, Y, wk, hG, hY⟩ := W
    refine for_it wk (fun i σ H => ∃ w2 ρ2 st2, SI A X.K w0 H0 ex w2 ρ2 st2 σ H ∧ w1.le w2 ∧ KF A X.K fr w0 H0 ex w2 Dn (forR tg (evSs P.tab call wf body) (xs.drop i) ρ2 st2)) ⟨w1, ρ, st1, I1, .refl _, by simpa using kf.le E1.le⟩ ?_ ?_ ?_
    · rintro i σ2 H2 _ ⟨w2, ρ2, st2, I2, l2, _⟩
      exact hG w2 st2 H2 l2 I2.sr
    · rintro i x σ2 H2 H3 hi ⟨w2, ρ2, st2, I2, l2, k2⟩ y
      obtain ⟨w3, d, hd, E3, S3, rd⟩ := hY i H2 x H3 w2 st2 hi l2 I2.sr y
      have hdrop : xs.drop i = d :: xs.drop (i + 1) := by
        obtain ⟨h1, h2⟩ := List.getElem?_eq_some_iff.mp hd
        rw [List.drop_eq_getElem_cons h1, h2]
      rw [hdrop] at k2
      simp only [forR] at k2
      have I3 := I2.step E3 S3
      cases hbt : bindT tg d ρ2 with
      | none => rw [hbt] at k2; exact k2.elim
      | some ρ3 =>
        rw [hbt] at k2
        dsimp only at k2
        refine bind_step I3.sr I3.rs rd hbt fun σ3 R3 _ => ⟨w0, H0, ex, w3, ρ3, st2, ⟨I3.ext, I3.sr, R3⟩, ?_⟩
        cases qb : evSs P.tab call wf body ρ3 st2 with
        | nx ρ4 st4 =>
          rw [qb] at k2
          exact fun σ4 H4 w4 l4 I4 => ⟨w4, ρ4, st4, I4, (l2.trans E3.le).trans l4, k2.le (E3.le.trans l4)⟩
        | ct ρ4 st4 =>
          rw [qb] at k2
          exact fun σ4 H4 w4 l4 I4 => ⟨w4, ρ4, st4, I4, (l2.trans E3.le).trans l4, k2.le (E3.le.trans l4)⟩
        | bk ρ4 st4 =>
          rw [qb] at k2
          exact fun σ4 H4 w4 l4 I4 => k2 σ4 H4 w4 (E3.le.trans l4) I4
        | rt d4 st4 => rw [qb] at k2; exact k2
        | exc k4 fs st4 => rw [qb] at k2; exact k2.elim
        | bad => rw [qb] at k2; exact k2.elim
    · rintro σ2 H2 ⟨w2, ρ2, st2, I2, l2, k2⟩
      rw [List.drop_length] at k2
      exact k2 σ2 H2 w2 (.refl _) I2
theorem st_whl (cx : SCxt P A call fd lv N sc X) {t : C} {body : Ss} {et : Expr} {sts : List Stmt} {pos : Pos} (ht : PT X et (tTst P A call X t)) (hb : PSs X sts (tSs P A call X wf fr body)) :
    PS X (.While et sts [] pos) (tS P A call X wf fr (.whl t body)) := by
  refine PS.mono (ps_while cx.pas ht hb) ?_
  rintro Dn σ H ⟨w0, H0, ex, w, ρ, st, I, kf⟩
  simp only [evS] at kf
  refine ⟨fun m σ H => ∃ w2 ρ2 st2, SI A X.K w0 H0 ex w2 ρ2 st2 σ H ∧ KF A X.K fr w0 H0 ex w2 Dn (whlR (evT P.tab call t) (evSs P.tab call wf body) m ρ2 st2), ⟨wf, w, ρ, st, I, kf⟩, ?_⟩
  rintro m σ2 H2 ⟨w2, ρ2, st2, I2, k2⟩
  cases m with
  | zero => exact k2.elim
  | succ n =>
    simp only [whlR] at k2
    cases q : evT P.tab call t ρ2 st2 with
    | exc k' fs st1 => rw [q] at k2; exact k2.elim
    | bad => rw [q] at k2; exact k2.elim
    | ok b st3 =>
      rw [q] at k2
      refine ⟨w2, ρ2, st2, H0, ex, b, st3, I2.sr, I2.rs, q, fun H3 w3 E3 S3 => ?_⟩
      have I3 := I2.step E3 S3
      cases b with
      | false => exact k2 σ2 H3 w3 E3.le I3
      | true =>
        dsimp only at k2
        refine ⟨fun σ' H' => ∃ w2 ρ2 st2, SI A X.K w0 H0 ex w2 ρ2 st2 σ' H' ∧ KF A X.K fr w0 H0 ex w2 Dn (whlR (evT P.tab call t) (evSs P.tab call wf body) n ρ2 st2), fun σ' H' z => ⟨n, Nat.lt_succ_self n, z⟩, w0, H0, ex, w3, ρ2, st3, I3, ?_⟩
        cases qb : evSs P.tab call wf body ρ2 st3 with
        | nx ρ4 st4 =>
          rw [qb] at k2
          exact fun σ4 H4 w4 l4 I4 => ⟨w4, ρ4, st4, I4, k2.le (E3.le.trans l4)⟩
        | ct ρ4 st4 =>
          rw [qb] at k2
          exact fun σ4 H4 w4 l4 I4 => ⟨w4, ρ4, st4, I4, k2.le (E3.le.trans l4)⟩
        | bk ρ4 st4 =>
          rw [qb] at k2
          exact fun σ4 H4 w4 l4 I4 => k2 σ4 H4 w4 (E3.le.trans l4) I4
        | rt d4 st4 => rw [qb] at k2; exact k2
        | exc k4 fs st4 => rw [qb] at k2; exact k2.elim
        | bad => rw [qb] at k2; exact k2.elim
end
end Eng

namespace Eng
open PySem PySem.Spec PyProof.Rows L2
section
variable {P : Prg} {A : Ad} {call : Nat → List D → Store → Res D} {fd : Nat → FuncData} {lv : Nat} {N : List PySem.Str} {sc : Scope} {X : Cx} {wf : Nat} {fr : Bool}
theorem st_ext (cx : SCxt P A call fd lv N sc X) {i : Nat} {c : C} {x m : PySem.Str} {px apos cpos pos : Pos} {e : Expr} (hm : m = ("extend" : PySem.Str)) (hn : nameB N sc i x = true) (hline : (apos.endLine == cpos.line) = true) (hb : freshC P c = true) (hs : shape e = true) (h : chkE P N sc c e = true) :
    PS X (.Expr (.Call (.Attribute (.Name x px) m apos) [e] [] cpos) pos) (tS P A call X wf fr (.ext i c)) := by
  subst hm
  obtain ⟨h1, h2, h3, h4⟩ := name_of hn
  have hall : [e].all shape = true := by simp [hs]
  refine PS.mono (ps_expr (pe_bm PySem.F.plainAttrs_list PySem.F.slot_list_extend PySem.F.type_list_extend mt_extend (pe_var (by rw [cx.N]; exact h1) (by rw [cx.sc]; exact h2) h3 h4) (pa_cons (sndF cx.toCxt hb h) pa_nil (star_of [] _ hs)) rfl (by rw [allno_of cpos X.env [e] hall]; rfl) hline (star_of [] _ hs) rfl)) ?_
  rintro Dn σ H ⟨w0, H0, ex, w, ρ, st, I, kf⟩
  simp only [evS] at kf
  cases q : slotO ρ i with
  | none =>
    exfalso
    cases z : ev P.tab call c ρ st with
    | ok d st1 =>
      rw [z, Res.fl_ok, q] at kf
      cases d <;> exact kf
    | exc k fs st1 => rw [z] at kf; exact kf
    | bad => rw [z] at kf; exact kf
  | some xs =>
    obtain ⟨hs1, a, vs, e1, e2, e3, e4, e5⟩ := I.rs.bor q
    refine ⟨_, e1, .inl ⟨rfl, vs, SqL.of e2⟩, ?_⟩
    refine f_step I kf fun d st1 v H1 w1 l1 I1 r k1 => ?_
    rw [q] at k1
    obtain ⟨ys, b, us, rfl, rfl, r1, r2, r3, r4⟩ := r
    dsimp only at k1
    obtain ⟨hs2, a', vs', f1, f2, f3, f4, f5⟩ := I1.rs.bor q
    rw [e1] at f1
    cases f1
    split at k1
    · rename_i hlen
      refine ⟨a, b, vs', us, rfl, rfl, f2, r1, by rw [← f3.length, ← r2.length, sizeLine_eq]; omega, ?_⟩
      exact k1 _ _ w1 (.refl _) (I1.wr hs2 rfl rfl e1 f4 (.inl f5) ⟨_, f2⟩ ⟨a, vs' ++ us, rfl, upd_same, f3.append r2, f4, f5⟩)
    · exact k1.elim
theorem st_setc (cx : SCxt P A call fd lv N sc X) {o i c : C} {eo ei e : Expr} {pos' pos : Pos} (hbo : (!o.isBor) = true) (ho : chkE P N sc o eo = true) (hbi : (!i.isBor) = true) (hsi : shape ei = true) (hi : chkE P N sc i ei = true) (hb : (!c.isBor) = true) (hs : shape e = true) (hlc : isLc e = false) (h : chkE P N sc c e = true) :
    PS X (.Assign [.Subscript eo ei pos'] e pos) (tS P A call X wf fr (.setc o i c)) := by
  have hsw : swapsWith e (some (.Subscript eo ei pos')) pos.line X.env = pure false := swap_of _ _ _ hs hlc
  refine ⟨fun pins s σ H Dn I0 t => ?_⟩
  obtain ⟨w0, H0, ex, w, ρ, st, I, kf⟩ := t
  simp only [evS] at kf
  refine wpAny_Assign_Subscript (thn ((sndE c cx.toCxt h).1.run pins s σ H (fun v H1 => tE P A call X o σ H1 fun y H2 => tE P A call X i σ H2 fun z H3 => rSetL y z v H3 fun H4 => Dn.nx σ H4) I0 (e_step I hb kf fun d st1 v H1 w1 l1 I1 r k1 => ?_)) fun r s1 ⟨v, H1, J1, rv, q1⟩ => thn ((sndE o cx.toCxt ho).1.run pins s1 σ H1 _ J1 q1) fun u s2 ⟨y, H2, J2, ry, q2⟩ => thn ((sndE i cx.toCxt hi).1.run pins s2 σ H2 _ J2 q2) fun iv s3 ⟨z, H3, J3, rz, q3⟩ => ?_) hsw
  · refine e_step I1 hbo k1 fun d2 st2 y H2 w2 l2 I2 r2 k2 => ?_
    refine e_step I2 hbi k2 fun d3 st3 z H3 w3 l3 I3 r3 k3 => ?_
    unfold setD at k3
    cases d2 with
    | ref n =>
      cases d3 with
      | int m =>
        dsimp only at k3
        cases hg : getL st3 n with
        | none => rw [hg] at k3; exact k3.elim
        | some xs =>
          rw [hg] at k3
          dsimp only at k3
          cases hj : itIx xs.length m with
          | none => rw [hj] at k3; exact k3.elim
          | some j =>
            rw [hj] at k3
            dsimp only at k3
            obtain ⟨vs, hv, hn, hq, rs⟩ := cellL I3.sr hg (.inl (r2.mono l3))
            cases r3
            refine ⟨w3.μ n, vs, m, j, hv, rfl, hq, by rw [← rs.length]; exact hj, ?_⟩
            exact k3 _ _ w3 (.refl _) (I3.step (ext_at I3.sr hn) (sr_at I3.sr hn ⟨_, rs.put ((r.mono l2).mono l3) j, rfl⟩))
      | _ => exact k3.elim
    | _ => cases d3 <;> exact k3.elim
  · exact thn (set_list pins s3 σ H3 y z v u iv r (fun H4 => Dn.nx σ H4) J3 ry rz rv q3) fun _ s4 ⟨H4, J4, q4⟩ => ⟨σ, H4, J4, q4⟩
end
end Eng

namespace Eng
open PySem PySem.Spec PyProof.Rows L2
/-! ### several targets at once -/
section
variable {A : Ad} {K : PySem.W.Frag} {w w' : Wd} {H H1 H' H2 : Hp}
inductive ParR (A : Ad) (K : PySem.W.Frag) (w : Wd) (H H' : Hp) : List (Nat × Bool) → List D → List V → Prop where
  | nil : ParR A K w H H' [] [] []
  | val {i : Nat} {d : D} {v : V} {ts : List (Nat × Bool)} {ds : List D} {vs : List V} (h : RD A K w d v) (r : ParR A K w H H' ts ds vs) : ParR A K w H H' ((i, false) :: ts) (d :: ds) (v :: vs)
  | own {i : Nat} {d : D} {v : V} {ts : List (Nat × Bool)} {ds : List D} {vs : List V} (h : FR A K w H H' d v) (r : ParR A K w H H' ts ds vs) : ParR A K w H H' ((i, true) :: ts) (d :: ds) (v :: vs)
theorem ParR.back (h : ∀ a, H1 a = none → H a = none) : ∀ {ts : List (Nat × Bool)} {ds : List D} {vs : List V}, ParR A K w H1 H' ts ds vs → ParR A K w H H' ts ds vs
  | _, _, _, .nil => .nil
  | _, _, _, .val a r => .val a (ParR.back h r)
  | _, _, _, .own ⟨xs, a, vs, q1, q2, q3, q4, q5, q6⟩ r => .own ⟨xs, a, vs, q1, q2, q3, q4, q5, h a q6⟩ (ParR.back h r)
theorem ParR.len : ∀ {ts : List (Nat × Bool)} {ds : List D} {vs : List V}, ParR A K w H H' ts ds vs → vs.length = ts.length
  | _, _, _, .nil => rfl
  | _, _, _, .val _ r => congrArg Nat.succ r.len
  | _, _, _, .own _ r => congrArg Nat.succ r.len
theorem FR.ext {d : D} {v : V} (h : FR A K w H H' d v) (E : Ext no w H' w' H2) : FR A K w' H H2 d v := by
  obtain ⟨xs, a, vs, q1, q2, q3, q4, q5, q6⟩ := h
  exact ⟨xs, a, vs, q1, q2, E.fr a _ q3 q5.2 (fun z => z), q4.mono E.le, q5.ext q3 E, q6⟩
/-- one slot at most owns its list -/
def own1 : List (Nat × Bool) → Bool
  | [] => true
  | (_, false) :: r => own1 r
  | (_, true) :: r => !(r.any (·.2))
theorem own1_of : ∀ {ts : List (Nat × Bool)}, ts.any (·.2) = false → own1 ts = true
  | [], _ => rfl
  | (_, false) :: r, h => own1_of (ts := r) (by simpa using h)
  | (_, true) :: r, h => by simp at h
theorem rs_par {H0 : Hp} {ex : Addr → Prop} (h0 : ∀ a, H a = none → H0 a = none) : ∀ {ts : List (Nat × Bool)} {ds : List D} {vs : List V} {ρ ρ' : Env} {σ : L2.St}, RS A K H0 ex w ρ σ H' → setPar ts ds ρ = some ρ' → ParR A K w H H' ts ds vs → own1 ts = true →
    (ts.any (·.2) = true → ∀ (j : Nat) (t : Slot) (b : Addr), ρ[j]? = some (some t) → t.mine = true → σ[j]? = some (some (.ref b)) → H b ≠ none) → RS A K H0 ex w ρ' (setV (ts.map (·.1)) vs σ) H'
  | _, _, _, _, _, _, R, e, .nil, _, _ => by cases e; exact R
  | (i, false) :: ts, d :: ds, v :: vs, ρ, ρ', σ, R, e, .val h r, o, f => by
    unfold setPar at e
    split at e
    · rename_i hi
      show RS A K H0 ex w ρ' (setV (ts.map (·.1)) vs (σ.set i (some v))) H'
      refine rs_par h0 (ts := ts) (R.setv hi h) e r (by simpa [own1] using o) fun ha j t b q m z => ?_
      by_cases hj : j = i
      · subst hj
        rw [List.getElem?_set_self hi] at q
        cases q
        cases m
      · rw [List.getElem?_set_ne (Ne.symm hj)] at q z
        exact f (by simpa using ha) j t b q m z
    · cases e
  | (i, true) :: ts, d :: ds, v :: vs, ρ, ρ', σ, R, e, .own h r, o, f => by
    obtain ⟨xs, a, us, rfl, rfl, q3, q4, q5, q6⟩ := h
    unfold setPar at e
    split at e
    · rename_i hi
      have hn : ts.any (·.2) = false := by simpa [own1] using o
      show RS A K H0 ex w ρ' (setV (ts.map (·.1)) vs (σ.set i (some (.ref a)))) H'
      refine rs_par h0 (ts := ts) (R.set hi (s := .own xs) ⟨a, us, rfl, q3, q4, q5, h0 a q6⟩ fun _ j t b hj q1 q2 q7 q8 => ?_) e r (own1_of hn) (fun z => by rw [hn] at z; cases z)
      cases q7
      exact f (by simp) j t a q1 q2 q8 q6
    · cases e
end
section
variable {P : Prg} {A : Ad} {call : Nat → List D → Store → Res D} {fd : Nat → FuncData} {lv : Nat} {N : List PySem.Str} {sc : Scope} {X : Cx} {wf : Nat} {fr : Bool}
variable (P A call X) in
def tPs (ts : List (Nat × Bool)) (cs : Cs) : TA := fun σ H Q => ∃ w ρ st H0 ex ds st', SR A X.K w st H ∧ RS A X.K H0 ex w ρ σ H ∧ evs P.tab call cs ρ st = .ok ds st' ∧ ∀ vs H' w', Ext no w H w' H' → SR A X.K w' st' H' → ParR A X.K w' H H' ts ds vs → Q vs H'
variable (P N sc) in
def chkPs : List (Nat × Bool) → Cs → List Expr → Bool
  | [], .nil, [] => true
  | (_, false) :: r, .cons c cs, e :: es => !c.isBor && shape e && chkE P N sc c e && chkPs r cs es
  | (_, true) :: r, .cons c cs, e :: es => freshC P c && shape e && chkE P N sc c e && chkPs r cs es
  | _, _, _ => false
theorem chkPs_len : ∀ {ts : List (Nat × Bool)} {cs : Cs} {es : List Expr}, chkPs P N sc ts cs es = true → es.length = ts.length
  | [], .nil, [], _ => rfl
  | [], .nil, _ :: _, h => by simp [chkPs] at h
  | [], .cons _ _, _, h => by simp [chkPs] at h
  | _ :: _, .nil, _, h => by simp [chkPs] at h
  | _ :: _, .cons _ _, [], h => by simp [chkPs] at h
  | (_, false) :: r, .cons c cs, e :: es, h => by
    simp only [chkPs, Bool.and_eq_true] at h
    exact congrArg Nat.succ (chkPs_len h.2)
  | (_, true) :: r, .cons c cs, e :: es, h => by
    simp only [chkPs, Bool.and_eq_true] at h
    exact congrArg Nat.succ (chkPs_len h.2)
theorem snd_ps (cx : Cxt P A call fd lv N sc X) : ∀ {ts : List (Nat × Bool)} {cs : Cs} {es : List Expr}, chkPs P N sc ts cs es = true → PA X es (tPs P A call X ts cs)
  | [], .nil, [], _ => by
    refine PA.mono pa_nil fun σ H Q t => ?_
    obtain ⟨w, ρ, st, H0, ex, ds, st', S, R, e, k⟩ := t
    simp only [evs] at e
    cases e
    exact k [] H w (.refl _ _ _) S .nil
  | [], .nil, _ :: _, h => by simp [chkPs] at h
  | [], .cons _ _, _, h => by simp [chkPs] at h
  | _ :: _, .nil, _, h => by simp [chkPs] at h
  | _ :: _, .cons _ _, [], h => by simp [chkPs] at h
  | (_, false) :: r, .cons c cs, e :: es, h => by
    simp only [chkPs, Bool.and_eq_true] at h
    refine PA.mono (pa_cons (sndE c cx h.1.2).1 (snd_ps cx h.2) (star_of es X.env h.1.1.2)) fun σ H Q t => ?_
    obtain ⟨w, ρ, st, H0, ex, ds, st', S, R, e, k⟩ := t
    simp only [evs] at e
    obtain ⟨x, st1, e1, e⟩ := Res.bind_is e
    obtain ⟨xs, st2, e2, e⟩ := Res.bind_is e
    cases e
    exact ⟨w, ρ, st, H0, ex, x, st1, S, R, e1, fun v H1 w1 E1 S1 p1 => ⟨w1, ρ, st1, H0, ex, xs, st', S1, R.ext E1, e2, fun vs H2 w2 E2 S2 p2 => k (v :: vs) H2 w2 (E1.trans E2) S2 (.val ((p1.rd h.1.1.1).mono E2.le) (p2.back fun a z => E1.none_of z))⟩⟩
  | (_, true) :: r, .cons c cs, e :: es, h => by
    simp only [chkPs, Bool.and_eq_true] at h
    refine PA.mono (pa_cons (sndF cx h.1.1.1 h.1.2) (snd_ps cx h.2) (star_of es X.env h.1.1.2)) fun σ H Q t => ?_
    obtain ⟨w, ρ, st, H0, ex, ds, st', S, R, e, k⟩ := t
    simp only [evs] at e
    obtain ⟨x, st1, e1, e⟩ := Res.bind_is e
    obtain ⟨xs, st2, e2, e⟩ := Res.bind_is e
    cases e
    exact ⟨w, ρ, st, H0, ex, x, st1, S, R, e1, fun v H1 w1 E1 S1 p1 => ⟨w1, ρ, st1, H0, ex, xs, st', S1, R.ext E1, e2, fun vs H2 w2 E2 S2 p2 => k (v :: vs) H2 w2 (E1.trans E2) S2 (.own (p1.ext E2) (p2.back fun a z => E1.none_of z))⟩⟩
/-- what the flow owes to the values -/
theorem par_flow {ts : List (Nat × Bool)} {cs : Cs} {σ : L2.St} {H : Hp} {Dn : Ends} {w0 : Wd} {H0 : Hp} {ex : Addr → Prop} {w : Wd} {ρ : Env} {st : Store} {Q : List V → Hp → Prop} (I : SI A X.K w0 H0 ex w ρ st σ H) (ho : own1 ts = true)
    (kf : KF A X.K fr w0 H0 ex w Dn (evS P.tab call wf (.parN ts cs) ρ st))
    (k : ∀ (vs : List V) (H1 : Hp), vs.length = ts.length → (∀ H2, (∀ a o, H1 a = some o → H2 a = some o) → (∃ p o, H1 p = none ∧ H2 = upd H1 p o) → Dn.nx (setV (ts.map (·.1)) vs σ) H2) → Dn.nx (setV (ts.map (·.1)) vs σ) H1 → Q vs H1) : tPs P A call X ts cs σ H Q := by
  simp only [evS] at kf
  cases q : evs P.tab call cs ρ st with
  | exc k' fs st1 => rw [q] at kf; exact kf.elim
  | bad => rw [q] at kf; exact kf.elim
  | ok ds st1 =>
    rw [q, Res.fl_ok] at kf
    refine ⟨w, ρ, st, H0, ex, ds, st1, I.sr, I.rs, q, fun vs H1 w1 E1 S1 p1 => ?_⟩
    cases z : setPar ts ds ρ with
    | none => rw [z] at kf; exact kf.elim
    | some ρ1 =>
      rw [z] at kf
      have I1 := I.step E1 S1
      have R1 := rs_par (fun a h => I.ext.none_of h) I1.rs z p1 ho fun _ j t b y1 y2 y3 y4 => by
        obtain ⟨u, u1, u2⟩ := I.rs.sl j t y1
        rw [y3] at u1
        cases u1
        cases t with
        | v d => cases y2
        | own xs =>
          obtain ⟨a, us, h1, h2, _⟩ := u2
          cases h1
          rw [h2] at y4
          cases y4
        | self c fs =>
          obtain ⟨a, dx, gs, h1, h2, _⟩ := u2
          cases h1
          rw [h2] at y4
          cases y4
      refine k vs H1 p1.len (fun H2 hk hp => ?_) (kf _ _ w1 E1.le ⟨I1.ext, S1, R1⟩)
      obtain ⟨p, o, hp, rfl⟩ := hp
      have E2 : Ext no w1 H1 w1 (upd H1 p o) := ext_new (st := st1) hp
      exact kf _ _ w1 E1.le ⟨I1.ext.trans E2.weak, sr_new S1 hp, R1.ext E2⟩
/-! two names -/
theorem st_par2 (cx : SCxt P A call fd lv N sc X) {i j : Nat} {bi bj : Bool} {cs : Cs} {x y : PySem.Str} {px py pt pt2 pos : Pos} {kt k2 : Nat} {ea eb : Expr} (hi : N[i]? = some x) (hj : N[j]? = some y) (hij : i ≠ j) (hp : parB sc x y px py ea eb = true) (ho : own1 [(i, bi), (j, bj)] = true) (hc : chkPs P N sc [(i, bi), (j, bj)] cs [ea, eb] = true) :
    PS X (.Assign [.Tuple [.Name x px, .Name y py] kt pt] (.Tuple [ea, eb] k2 pt2) pos) (tS P A call X wf fr (.parN [(i, bi), (j, bj)] cs)) := by
  have hp' := hp
  unfold parB at hp'
  simp only [Bool.and_eq_true, decide_eq_true_eq] at hp'
  obtain ⟨⟨⟨⟨⟨⟨⟨h1, h2⟩, h3⟩, h4⟩, h5⟩, h6⟩, h7⟩, h8⟩ := hp'
  refine PS.mono (ps_par cx.calm cx.nd (by rw [cx.N]; exact hi) (by rw [cx.N]; exact hj) hij (by rw [cx.sc]; exact h1) (by rw [cx.sc]; exact h2) (snd_ps cx.toCxt hc) (par_sw cx.kind (by rw [cx.sc]; exact hp))) ?_
  rintro Dn σ H ⟨w0, H0, ex, w, ρ, st, I, kf⟩
  refine par_flow I ho kf fun vs H1 hl _ k => ?_
  match vs, hl, k with
  | [v, u], _, k => exact ⟨v, u, rfl, k⟩
/-! three names -/
def parB3 (sc : Scope) (x y z : PySem.Str) (px py pz : Pos) (ea eb ec : Expr) : Bool := decide (sc.names.lookup x = some .local) && decide (sc.names.lookup y = some .local) && decide (sc.names.lookup z = some .local) && (py.line == px.line) && (pz.line == px.line) && decide (x ≠ y) && decide (x ≠ z) && decide (y ≠ z) && !([ea, eb, ec].all (foldedForSure 8)) && !([ea, eb, ec].all (constantsAlone 8)) && shape ea && shape eb && shape ec
theorem par_sw3 {x y z : PySem.Str} {px py pz pt pt2 : Pos} {kt k2 : Nat} {ea eb ec : Expr} {env : PySem.Env} (hk : env.scope.kind = .function) (h : parB3 env.scope x y z px py pz ea eb ec = true) : swappedStores [.Tuple [.Name x px, .Name y py, .Name z pz] kt pt] (.Tuple [ea, eb, ec] k2 pt2) env = pure (some [x, y, z]) := by
  unfold parB3 at h
  simp only [Bool.and_eq_true, decide_eq_true_eq] at h
  obtain ⟨⟨⟨⟨⟨⟨⟨⟨⟨⟨⟨⟨h1, h2⟩, h3⟩, h4⟩, h5⟩, h6⟩, h7⟩, h8⟩, h9⟩, h10⟩, h11⟩, h12⟩, h13⟩ := h
  have kx : env.kindOf x = some .local := h1
  have ky : env.kindOf y = some .local := h2
  have kz : env.kindOf z = some .local := h3
  have hb : env.blockKind = .function := by unfold PySem.Env.blockKind; rw [hk]; rfl
  have hf : ([ea, eb, ec].all (foldedForSure 8)) = false := Bool.not_eq_true' _ ▸ h9
  have hc : ([ea, eb, ec].all (constantsAlone 8)) = false := Bool.not_eq_true' _ ▸ h10
  have hdup : ([x, y, z] : List PySem.Str).eraseDups.length = 3 := by
    have a1 : (y == x) = false := by simpa using (Ne.symm h6)
    have a2 : (z == x) = false := by simpa using (Ne.symm h7)
    have a3 : (z == y) = false := by simpa using (Ne.symm h8)
    simp [List.eraseDups_cons, List.eraseDups_nil, List.filter, a1, a2, a3]
  have hst : ([ea, eb, ec].any isStar) = false := by simp [star_sh h11, star_sh h12, star_sh h13]
  have hn : ([Expr.Name x px, Expr.Name y py, Expr.Name z pz].filterMap fun t => match t with
    | .Name id pos => if (env.kindOf id == some .local && pos.line == px.line) = true then some id else none
    | _ => none) = [x, y, z] := by
    rw [List.filterMap_cons_some (b := x) (by simp [kx]), List.filterMap_cons_some (b := y) (by simp only [ky, h4]; rfl), List.filterMap_cons_some (b := z) (by simp only [kz, h5]; rfl), List.filterMap_nil]
  show (if (!(3 == 2 || 3 == 3) || 3 != 3 || env.blockKind != .function) = true then pure none else
    if ([ea, eb, ec].any isStar) = true then pure none else
    if ((([Expr.Name x px, Expr.Name y py, Expr.Name z pz].filterMap fun t => match t with
    | .Name id pos => if (env.kindOf id == some .local && pos.line == px.line) = true then some id else none
    | _ => none).length != 3) || _) = true then pure none else _) = _
  rw [if_neg (by rw [hb]; decide), if_neg (by rw [hst]; exact Bool.false_ne_true), if_neg (by
    intro q
    rw [Bool.or_eq_true] at q
    rcases q with q | q
    · rw [hn] at q; exact absurd q (by simp)
    · revert q
      show ¬ (((List.filterMap _ _).eraseDups.length != (List.filterMap _ _).length) = true)
      erw [hn]
      rw [hdup]
      simp)]
  show (if ([ea, eb, ec].all (foldedForSure 8)) = true then pure none else _) = _
  rw [if_neg (by rw [hf]; exact Bool.false_ne_true)]
  show (if ([ea, eb, ec].all (constantsAlone 8)) = true then _ else _) = _
  rw [if_neg (by rw [hc]; exact Bool.false_ne_true)]
  show pure (some (List.filterMap _ _)) = _
  erw [hn]
theorem st_par3 (cx : SCxt P A call fd lv N sc X) {i j l : Nat} {bi bj bl : Bool} {cs : Cs} {x y z : PySem.Str} {px py pz pt pt2 pos : Pos} {kt k2 : Nat} {ea eb ec : Expr} (hi : N[i]? = some x) (hj : N[j]? = some y) (hl : N[l]? = some z) (hij : i ≠ j) (hil : i ≠ l) (hjl : j ≠ l) (hp : parB3 sc x y z px py pz ea eb ec = true) (ho : own1 [(i, bi), (j, bj), (l, bl)] = true) (hc : chkPs P N sc [(i, bi), (j, bj), (l, bl)] cs [ea, eb, ec] = true) :
    PS X (.Assign [.Tuple [.Name x px, .Name y py, .Name z pz] kt pt] (.Tuple [ea, eb, ec] k2 pt2) pos) (tS P A call X wf fr (.parN [(i, bi), (j, bj), (l, bl)] cs)) := by
  have hp' := hp
  unfold parB3 at hp'
  simp only [Bool.and_eq_true, decide_eq_true_eq] at hp'
  obtain ⟨⟨⟨⟨⟨⟨⟨⟨⟨⟨⟨⟨h1, h2⟩, h3⟩, h4⟩, h5⟩, h6⟩, h7⟩, h8⟩, h9⟩, h10⟩, h11⟩, h12⟩, h13⟩ := hp'
  refine PS.mono (ps_par3 cx.calm cx.nd (by rw [cx.N]; exact hi) (by rw [cx.N]; exact hj) (by rw [cx.N]; exact hl) hij hil hjl (by rw [cx.sc]; exact h1) (by rw [cx.sc]; exact h2) (by rw [cx.sc]; exact h3) (snd_ps cx.toCxt hc) (par_sw3 cx.kind (by rw [cx.sc]; exact hp))) ?_
  rintro Dn σ H ⟨w0, H0, ex, w, ρ, st, I, kf⟩
  refine par_flow I ho kf fun vs H1 hl _ k => ?_
  match vs, hl, k with
  | [v, u, t], _, k => exact ⟨v, u, t, rfl, k⟩
/-! by a tuple -/
/-- the stores are not swapped -/
def nonLoc (sc : Scope) : Expr → Bool
  | .Name x _ => !(sc.names.lookup x == some .local)
  | _ => true
def genB (sc : Scope) (ts vs : List Expr) : Bool := !(ts.length == 2 || ts.length == 3) || ts.any (nonLoc sc) || vs.all (foldedForSure 8)
theorem fm_lt {α β : Type} (f : α → Option β) : ∀ {l : List α}, (∃ a ∈ l, f a = none) → (l.filterMap f).length < l.length
  | [], h => by obtain ⟨a, h, _⟩ := h; cases h
  | x :: l, h => by
    obtain ⟨a, ha, hn⟩ := h
    rw [List.filterMap_cons]
    cases hx : f x with
    | none =>
      have := List.length_filterMap_le f l
      simp only [List.length_cons]
      omega
    | some b =>
      rcases List.mem_cons.mp ha with e | e
      · rw [← e, hn] at hx
        cases hx
      · have := fm_lt f ⟨a, e, hn⟩
        simp only [List.length_cons]
        omega
theorem sw_gen {ts vs : List Expr} {kt k2 : Nat} {pt pt2 : Pos} {env : PySem.Env} (h : genB env.scope ts vs = true) : swappedStores [.Tuple ts kt pt] (.Tuple vs k2 pt2) env = pure none := by
  show (if (!(ts.length == 2 || ts.length == 3) || vs.length != ts.length || env.blockKind != .function) = true then pure none else
    if (vs.any isStar) = true then pure none else
    if (((ts.filterMap fun t => match t with
    | .Name id pos => if (env.kindOf id == some .local && pos.line == (ts.head?.map (·.pos.line)).getD 0) = true then some id else none
    | _ => none).length != ts.length) || _) = true then pure none else
    if (vs.all (foldedForSure 8)) = true then pure none else _) = _
  unfold genB at h
  rw [Bool.or_eq_true, Bool.or_eq_true] at h
  rcases h with (h | h) | h
  · rw [if_pos (by rw [h]; rfl)]
  · split
    · rfl
    · split
      · rfl
      · rw [if_pos]
        rw [Bool.or_eq_true]
        refine .inl ?_
        obtain ⟨t, ht, hn⟩ := List.any_eq_true.mp h
        have := fm_lt (fun t => match t with
          | Expr.Name id pos => if (env.kindOf id == some .local && pos.line == (ts.head?.map (·.pos.line)).getD 0) = true then some id else none
          | _ => none) (l := ts) ⟨t, ht, by
            cases t with
            | Name x p =>
              have z : (env.kindOf x == some .local) = false := by
                have y : ¬ env.scope.names.lookup x = some .local := by simpa [nonLoc] using hn
                have y2 : ¬ env.kindOf x = some .local := y
                simpa using y2
              simp [z]
            | _ => rfl⟩
        rw [bne_iff_ne]
        exact Nat.ne_of_lt this
  · split
    · rfl
    · split
      · rfl
      · split
        · rfl
        · first | rfl | rw [if_pos h]
theorem st_parG (cx : SCxt P A call fd lv N sc X) {ts : List (Nat × Bool)} {cs : Cs} {tes es : List Expr} {kt k2 : Nat} {pt pt2 pos : Pos} (ht : targetB N (ownB sc) (ts.map (·.1)) (.Tuple tes kt pt) = true) (hg : genB sc tes es = true) (hl : ts.length ≤ 1000) (ho : own1 ts = true) (hc : chkPs P N sc ts cs es = true) :
    PS X (.Assign [.Tuple tes kt pt] (.Tuple es k2 pt2) pos) (tS P A call X wf fr (.parN ts cs)) := by
  have hpg := pg_tg (X := X) (N := N) cx.calm cx.nd cx.N (hL_of cx) ht
  refine PS.mono (ps_asg (pe_tup (snd_ps cx.toCxt hc)) hpg (show swapsWith (.Tuple es k2 pt2) (some (.Tuple tes kt pt)) pos.line X.env = pure false from rfl) (sw_gen (by rw [cx.sc]; exact hg))) ?_
  rintro Dn σ H ⟨w0, H0, ex, w, ρ, st, I, kf⟩
  refine par_flow I ho kf fun vs H1 hlen k _ => ⟨by rw [hlen, sizeLine_eq]; omega, fun p hp => ?_⟩
  have h2 : 2 ≤ (ts.map (·.1)).length := by
    simp only [targetB, Bool.and_eq_true, decide_eq_true_eq] at ht
    exact ht.1
  have fin : gTup X.K (ts.map (·.1)).length (gSets (ts.map (·.1))) (.ref p) σ (upd H1 p (.tup vs)) Dn.nx := by
    refine ⟨p, vs, rfl, SqT.of upd_same, by rw [List.length_map]; exact hlen, by rw [List.length_map]; exact hlen, k _ (fun a o q => ?_) ⟨p, _, hp, rfl⟩⟩
    rw [upd_ne (ne_of_none q hp)]
    exact q
  show gTg X.K (ts.map (·.1)) (.ref p) σ (upd H1 p (.tup vs)) Dn.nx
  have gen : ∀ is : List Nat, 2 ≤ is.length → gTup X.K is.length (gSets is) (.ref p) σ (upd H1 p (.tup vs)) Dn.nx → gTg X.K is (.ref p) σ (upd H1 p (.tup vs)) Dn.nx := fun is hl2 q => by
    match is, hl2, q with
    | [], hl2, _ => simp at hl2
    | [_], hl2, _ => simp at hl2
    | _ :: _ :: _, _, q => exact q
  exact gen _ h2 fin
theorem st_ins (cx : SCxt P A call fd lv N sc X) {i : Nat} {cp c : C} {x m : PySem.Str} {px apos cpos pos : Pos} {ep e : Expr} (hm : m = ("insert" : PySem.Str)) (hn : nameB N sc i x = true) (hline : (apos.endLine == cpos.line) = true) (hbp : (!cp.isBor) = true) (hsp : shape ep = true) (hp : chkE P N sc cp ep = true) (hb : (!c.isBor) = true) (hs : shape e = true) (h : chkE P N sc c e = true) :
    PS X (.Expr (.Call (.Attribute (.Name x px) m apos) [ep, e] [] cpos) pos) (tS P A call X wf fr (.ins i cp c)) := by
  subst hm
  obtain ⟨h1, h2, h3, h4⟩ := name_of hn
  have hall : [ep, e].all shape = true := by simp [hs, hsp]
  refine PS.mono (ps_expr (pe_bm PySem.F.plainAttrs_list PySem.F.slot_list_insert PySem.F.type_list_insert mt_insert (pe_var (by rw [cx.N]; exact h1) (by rw [cx.sc]; exact h2) h3 h4) (pa_cons (sndE cp cx.toCxt hp).1 (pa_cons (sndE c cx.toCxt h).1 pa_nil (star_of [] _ hs)) (star_of [e] _ hsp)) rfl (by rw [allno_of cpos X.env [ep, e] hall]; rfl) hline (star_of [e] X.env hsp) (hplain := plain_of cpos X.env [e] (by simp [hs]))) rfl) ?_
  rintro Dn σ H ⟨w0, H0, ex, w, ρ, st, I, kf⟩
  simp only [evS] at kf
  cases q : slotO ρ i with
  | none =>
    exfalso
    cases z : ev P.tab call cp ρ st with
    | ok d st1 =>
      rw [z, Res.fl_ok] at kf
      cases z2 : ev P.tab call c ρ st1 with
      | ok d2 st2 =>
        rw [z2, Res.fl_ok, q] at kf
        exact kf
      | exc k fs st1 => rw [z2] at kf; exact kf
      | bad => rw [z2] at kf; exact kf
    | exc k fs st1 => rw [z] at kf; exact kf
    | bad => rw [z] at kf; exact kf
  | some xs =>
    obtain ⟨hs1, a, vs, e1, e2, e3, e4, e5⟩ := I.rs.bor q
    refine ⟨_, e1, .inl ⟨rfl, vs, SqL.of e2⟩, ?_⟩
    refine e_step I hbp kf fun d st1 v H1 w1 l1 I1 r k1 => ?_
    refine e_step I1 hb k1 fun d2 st2 v2 H2 w2 l2 I2 r2 k2 => ?_
    rw [q] at k2
    cases d with
    | int k =>
      dsimp only at k2
      cases r
      obtain ⟨hs2, a', vs', f1, f2, f3, f4, f5⟩ := I2.rs.bor q
      rw [e1] at f1
      cases f1
      split at k2
      · rename_i hc
        have hlen : vs'.length < sizeLine := by rw [← f3.length, sizeLine_eq]; omega
        refine ⟨a, vs', k, v2, rfl, rfl, f2, hlen, hc.1, by omega, ?_⟩
        exact k2 _ _ w2 (.refl _) (I2.wr hs2 rfl rfl e1 f4 (.inl f5) ⟨_, f2⟩ ⟨a, vs'.take k.toNat ++ [v2] ++ vs'.drop k.toNat, rfl, upd_same, ((f3.take k.toNat).append (.cons r2 .nil)).append (f3.drop k.toNat), f4, f5⟩)
      · exact k2.elim
    | _ => exact k2.elim
/-! an item and a name -/
theorem sw_item {eo ei ea eb : Expr} {y : PySem.Str} {p1 py pt pt2 : Pos} {kt k2 : Nat} {env : PySem.Env} : swappedStores [.Tuple [.Subscript eo ei p1, .Name y py] kt pt] (.Tuple [ea, eb] k2 pt2) env = pure none := by
  show (if (!(2 == 2 || 2 == 3) || 2 != 2 || env.blockKind != .function) = true then pure none else
    if ([ea, eb].any isStar) = true then pure none else
    if ((([Expr.Subscript eo ei p1, Expr.Name y py].filterMap fun t => match t with
    | .Name id pos => if (env.kindOf id == some .local && pos.line == p1.line) = true then some id else none
    | _ => none).length != 2) || _) = true then pure none else _) = _
  split
  · rfl
  · split
    · rfl
    · rw [if_pos]
      rw [Bool.or_eq_true]
      refine .inl ?_
      rw [List.filterMap_cons_none rfl]
      rw [List.filterMap_cons]
      split <;> rfl
theorem item_eq {o i : Expr} {pos : Pos} {env : PySem.Env} (h : shape i = true) (v : Value) : assign (.Subscript o i pos) env v = (do let x ← holding [v] (eval o env); let y ← holding [v, x] (eval i env); standAt pos; holding [v, x, y] (setItem x y v); release [v, x, y] []) := by
  cases i <;> first | rfl | exact absurd h Bool.false_ne_true
theorem st_parc (cx : SCxt P A call fd lv N sc X) {o i a b : C} {j : Nat} {y : PySem.Str} {eo ei ea eb : Expr} {p1 py pt pt2 pos : Pos} {kt k2 : Nat} (hj : setB N sc j y = true) (hbo : (!o.isBor) = true) (ho : chkE P N sc o eo = true) (hbi : (!i.isBor) = true) (hsi : shape ei = true) (hi : chkE P N sc i ei = true) (hba : (!a.isBor) = true) (hsa : shape ea = true) (ha : chkE P N sc a ea = true) (hbb : (!b.isBor) = true) (hsb : shape eb = true) (hb : chkE P N sc b eb = true) :
    PS X (.Assign [.Tuple [.Subscript eo ei p1, .Name y py] kt pt] (.Tuple [ea, eb] k2 pt2) pos) (tS P A call X wf fr (.parc o i j a b)) := by
  unfold setB at hj
  rw [Bool.and_eq_true, decide_eq_true_eq] at hj
  obtain ⟨hlo, hfn⟩ := hL_of cx y hj.2
  have hpa := pa_cons (sndE a cx.toCxt ha).1 (pa_cons (sndE b cx.toCxt hb).1 pa_nil (star_of [] _ hsb)) (star_of [eb] _ hsa)
  have hpg : PG X (.Tuple [.Subscript eo ei p1, .Name y py] kt pt) (gTup X.K 2 (gCons (gSub (tE P A call X o) (tE P A call X i) rSetL) (gCons (gName j) gNil))) := pg_tup cx.calm (pgs_cons (pg_sub (sndE o cx.toCxt ho).1 (sndE i cx.toCxt hi).1 set_list (item_eq hsi)) (pgs_cons (pg_name cx.nd (by rw [cx.N]; exact hj.1) hlo hfn) pgs_nil))
  refine PS.mono (ps_asg (pe_tup hpa) hpg (show swapsWith (.Tuple [ea, eb] k2 pt2) (some (.Tuple [.Subscript eo ei p1, .Name y py] kt pt)) pos.line X.env = pure false from rfl) sw_item) ?_
  rintro Dn σ H ⟨w0, H0, ex, w, ρ, st, I, kf⟩
  simp only [evS] at kf
  refine e_step I hba kf fun d1 st1 v H1 w1 l1 I1 r1 k1 => ?_
  refine e_step I1 hbb k1 fun d2 st2 u H2 w2 l2 I2 r2 k2 => ⟨by show 2 ≤ sizeLine; rw [sizeLine_eq]; omega, fun p hp => ?_⟩
  refine ⟨p, [v, u], rfl, SqT.of upd_same, rfl, v, [u], rfl, ?_⟩
  have E3 : Ext no w2 H2 w2 (upd H2 p (.tup [v, u])) := ext_new (st := st2) hp
  have I3 := I2.step E3 (sr_new I2.sr hp)
  refine e_step I3 hbo k2 fun d3 st3 o' H4 w4 l4 I4 r4 k4 => ?_
  refine e_step I4 hbi k4 fun d4 st4 z H5 w5 l5 I5 r5 k5 => ?_
  unfold setD at k5
  cases d3 with
  | ref n =>
    cases d4 with
    | int m =>
      dsimp only at k5
      cases hg : getL st4 n with
      | none => rw [hg] at k5; exact k5.elim
      | some xs =>
        rw [hg] at k5
        dsimp only at k5
        cases hx : itIx xs.length m with
        | none => rw [hx] at k5; exact k5.elim
        | some q =>
          rw [hx] at k5
          dsimp only at k5
          split at k5
          · rename_i hjl
            obtain ⟨vs, hv, hn, hq, rs⟩ := cellL I5.sr hg (.inl (r4.mono l5))
            cases r5
            have rv := (((r1.mono l2).mono l4).mono l5)
            have ru := ((r2.mono l4).mono l5)
            have I6 := I5.step (ext_at (o := .lst (vs.set q v)) I5.sr hn) (sr_at (c := .lk (xs.set q d1)) (o := .lst (vs.set q v)) I5.sr hn ⟨_, rs.put rv q, rfl⟩)
            refine ⟨w5.μ n, vs, m, q, hv, rfl, hq, by rw [← rs.length]; exact hx, u, [], rfl, rfl, ?_⟩
            exact k5 _ _ w5 (.refl _) ⟨I6.ext, I6.sr, I6.rs.setv hjl ru⟩
          · exact k5.elim
    | _ => exact k5.elim
  | _ => cases d4 <;> exact k5.elim
/-! with a note of the kind -/
theorem st_ownA (cx : SCxt P A call fd lv N sc X) {c : C} {i : Nat} {x : PySem.Str} {px pos : Pos} {e ann : Expr} {sm : Int} (hset : setB N sc i x = true) (hf : freshC P c = true) (hs : shape e = true) (hlc : isLc e = false) (h : chkE P N sc c e = true) : PS X (.AnnAssign (.Name x px) ann (some e) sm pos) (tS P A call X wf fr (.own i c)) := by
  unfold setB at hset
  rw [Bool.and_eq_true, decide_eq_true_eq] at hset
  obtain ⟨hlo, hfn⟩ := hL_of cx x hset.2
  exact PS.mono (ps_ann (sndF cx.toCxt hf h) (pg_name cx.nd (by rw [cx.N]; exact hset.1) hlo hfn) (swap_of _ _ _ hs hlc)) own_flow
end
end Eng

namespace Eng
open PySem PySem.Spec PyProof.Rows L2
section
variable {P : Prg} {A : Ad} {call : Nat → List D → Store → Res D} {fd : Nat → FuncData} {lv : Nat} {N : List PySem.Str} {sc : Scope} {X : Cx} {wf : Nat} {fr : Bool}
/-- an item of an owned list is dropped -/
theorem st_popo (cx : SCxt P A call fd lv N sc X) {i : Nat} {c : C} {x m : PySem.Str} {px apos cpos pos : Pos} {e : Expr} (hm : m = ("pop" : PySem.Str)) (hn : nameB N sc i x = true) (hline : (apos.endLine == cpos.line) = true) (hb : (!c.isBor) = true) (hs : shape e = true) (h : chkE P N sc c e = true) :
    PS X (.Expr (.Call (.Attribute (.Name x px) m apos) [e] [] cpos) pos) (tS P A call X wf fr (.popo i c)) := by
  subst hm
  obtain ⟨h1, h2, h3, h4⟩ := name_of hn
  have hall : [e].all shape = true := by simp [hs]
  refine PS.mono (ps_expr (pe_bm PySem.F.plainAttrs_list PySem.F.slot_list_pop PySem.F.type_list_pop mt_popAt (pe_var (by rw [cx.N]; exact h1) (by rw [cx.sc]; exact h2) h3 h4) (pa_cons (sndE c cx.toCxt h).1 pa_nil (star_of [] _ hs)) rfl (by rw [allno_of cpos X.env [e] hall]; rfl) hline (star_of [] _ hs) rfl)) ?_
  rintro Dn σ H ⟨w0, H0, ex, w, ρ, st, I, kf⟩
  simp only [evS] at kf
  cases q : slotO ρ i with
  | none =>
    exfalso
    cases z : ev P.tab call c ρ st with
    | ok d st1 =>
      rw [z, Res.fl_ok, q] at kf
      exact kf
    | exc k fs st1 => rw [z] at kf; exact kf
    | bad => rw [z] at kf; exact kf
  | some xs =>
    obtain ⟨hs1, a, vs, e1, e2, e3, e4, e5⟩ := I.rs.bor q
    refine ⟨_, e1, .inl ⟨rfl, vs, SqL.of e2⟩, ?_⟩
    refine e_step I hb kf fun d st1 v H1 w1 l1 I1 r k1 => ?_
    rw [q] at k1
    obtain ⟨hs2, a', vs', f1, f2, f3, f4, f5⟩ := I1.rs.bor q
    rw [e1] at f1
    cases f1
    cases d with
    | int k =>
      cases r
      dsimp only at k1
      split at k1
      · rename_i hk
        have hlen := f3.length
        have hkl : k.toNat < vs'.length := by omega
        have hz : vs'.length ≤ 2 ^ 62 ∨ True := .inr trivial
        obtain ⟨ix1, ix2, ix3, ix4⟩ := ixN_seq (show ixN vs'.length k = some k.toNat by
          unfold ixN
          rw [if_pos hk.1, if_pos (by omega)])
        refine ⟨a, vs', k, k.toNat, vs'[k.toNat], rfl, rfl, f2, ?_, ?_, ?_, List.getElem?_eq_getElem hkl, ?_⟩
        · omega
        · omega
        · first | exact ix1 | exact ix2 | exact ix3 | exact ix4
        · exact k1 _ _ w1 (.refl _) (I1.wr hs2 rfl rfl e1 f4 (.inl f5) ⟨_, f2⟩ ⟨a, _, rfl, upd_same, f3.erase k.toNat, f4, f5⟩)
      · exact k1.elim
    | _ => exact k1.elim
/-! ### match by texts -/
def patB : PySem.Str → Pattern → Bool
  | s, .MatchValue (.Constant (.str t) _ _) _ => decide (s = t)
  | _, _ => false
def patsB : List PySem.Str → List Pattern → Bool
  | [], [] => true
  | s :: r, p :: ps => patB s p && patsB r ps
  | _, _ => false
def pattB (vs : List PySem.Str) (p : Pattern) : Bool := match vs, p with
  | [s], p => patB s p || (match p with
    | .MatchOr ps _ => patsB [s] ps
    | _ => false)
  | vs, .MatchOr ps _ => patsB vs ps
  | _, _ => false
theorem pat_run {pins : List (Addr × Obj)} {σ : L2.St} {H : Hp} {s : Shared} {x v : PySem.Str} {t : Tok} {p : Pattern} {Q : Option (List (PySem.Str × Value)) → Shared → Prop} (h : patB v p = true) (I : Inv X pins σ H s)
    (k : ∀ s1, Inv X pins σ H s1 → Q (if x = v then some [] else none) s1) : wpAny (model X.prog X.w) X.A (matchPattern p X.env (.str x t)) Q X.xe s := by
  unfold patB at h
  split at h
  · rename_i s' t' a b c
    have h : v = t' := of_decide_eq_true h
    subst h
    refine wpAny_matchPattern_Value (thn (pe_str.run pins s σ H (fun u H' => u = .str v ∧ H' = H) I ⟨rfl, rfl⟩) fun u s1 hu => ?_)
    obtain ⟨z, H', I1, r1, rfl, rfl⟩ := hu
    obtain ⟨t2, rfl⟩ := r1
    refine eq_str (wpAny_truthy_bool ?_)
    by_cases e : x = v
    · have z := k s1 I1
      rw [if_pos e] at z
      simpa [e] using z
    · have z := k s1 I1
      rw [if_neg e] at z
      simpa [e] using z
  · cases h
theorem pats_run {x : PySem.Str} {t : Tok} : ∀ {vs : List PySem.Str} {ps : List Pattern} {pins : List (Addr × Obj)} {σ : L2.St} {H : Hp} {s : Shared} {Q : Option (List (PySem.Str × Value)) → Shared → Prop}, patsB vs ps = true → Inv X pins σ H s →
    (∀ s1, Inv X pins σ H s1 → Q (if vs.contains x then some [] else none) s1) → wpAny (model X.prog X.w) X.A (matchFirst ps X.env (.str x t)) Q X.xe s
  | [], [], pins, σ, H, s, Q, _, I, k => wpAny_matchFirst_nil (k s I)
  | [], _ :: _, _, _, _, _, _, h, _, _ => by simp [patsB] at h
  | _ :: _, [], _, _, _, _, _, h, _, _ => by simp [patsB] at h
  | v :: vs, p :: ps, pins, σ, H, s, Q, h, I, k => by
    simp only [patsB, Bool.and_eq_true] at h
    refine wpAny_matchFirst_cons (pat_run h.1 I fun s1 I1 => ?_)
    by_cases e : x = v
    · rw [if_pos e]
      have z := k s1 I1
      simpa [e] using z
    · rw [if_neg e]
      refine pats_run h.2 I1 fun s2 I2 => ?_
      have z := k s2 I2
      simpa [e] using z
theorem patt_run {pins : List (Addr × Obj)} {σ : L2.St} {H : Hp} {s : Shared} {x : PySem.Str} {vs : List PySem.Str} {t : Tok} {p : Pattern} {Q : Option (List (PySem.Str × Value)) → Shared → Prop} (h : pattB vs p = true) (I : Inv X pins σ H s)
    (k : ∀ s1, Inv X pins σ H s1 → Q (if vs.contains x then some [] else none) s1) : wpAny (model X.prog X.w) X.A (matchPattern p X.env (.str x t)) Q X.xe s := by
  have orr : ∀ ps pos, p = .MatchOr ps pos → patsB vs ps = true → wpAny (model X.prog X.w) X.A (matchPattern p X.env (.str x t)) Q X.xe s := by
    rintro ps pos rfl hp
    refine wpAny_matchPattern_Or (pats_run hp I fun s1 I1 => ?_)
    have z := k s1 I1
    split at z
    · rename_i e
      rw [if_pos e]
      have hz : ∀ l : List PySem.Str, (l.filterMap fun n => (List.lookup n ([] : List (PySem.Str × Value))).map (n, ·)) = [] := fun l => by simp
      show Q (some _) s1
      rw [hz]
      exact z
    · rename_i e
      rw [if_neg e]
      exact z
  unfold pattB at h
  split at h
  · rename_i v p
    rw [Bool.or_eq_true] at h
    rcases h with h | h
    · refine pat_run h I fun s1 I1 => ?_
      have z := k s1 I1
      simpa using z
    · split at h
      · exact orr _ _ rfl h
      · cases h
  · exact orr _ _ rfl h
  · cases h
variable (P A call X) in
def tKs (wf : Nat) (fr : Bool) (ks : Ks) (x : PySem.Str) : TS := fun Dn σ H => ∃ w0 H0 ex w ρ st, SI A X.K w0 H0 ex w ρ st σ H ∧ KF A X.K fr w0 H0 ex w Dn (evKs P.tab call wf ks x ρ st)
theorem ks_run {chkB : Ss → List Stmt → Bool} {chkM : Ks → List MatchCase → Bool}
    (hnil : ∀ cs, chkM .nil cs = true → cs = []) (hcons : ∀ vs b r cs, chkM (.cons vs b r) cs = true → ∃ p body rest, cs = ⟨p, none, body⟩ :: rest ∧ pattB vs p = true ∧ chkB b body = true ∧ chkM r rest = true)
    (hwild : ∀ b cs, chkM (.wild b) cs = true → ∃ pos body, cs = [⟨.MatchAs none none pos, none, body⟩] ∧ chkB b body = true) {x : PySem.Str} {t : Tok} : ∀ (n : Nat) (ks : Ks) (cs : List MatchCase) (first : Bool), sizeOf ks ≤ n → chkM ks cs = true →
    (∀ (b : Ss) (sts : List Stmt), sizeOf b < n → chkB b sts = true → PSs X sts (tSs P A call X wf fr b)) → ∀ {pins : List (Addr × Obj)} {s : Shared} {σ : L2.St} {H : Hp} {Dn : Ends}, Inv X pins σ H s → tKs P A call X wf fr ks x Dn σ H →
    wpAny (model X.prog X.w) X.A (matchCases cs X.env (.str x t) first) (SP X pins Dn) X.xe s
  | 0, ks, cs, first, hn, _, _, _, _, _, _, _, _, _ => by cases ks <;> simp at hn
  | n + 1, .nil, cs, first, hn, h, rc, pins, s, σ, H, Dn, I, q => by
    obtain rfl := hnil _ h
    obtain ⟨w0, H0, ex, w, ρ, st, J, kf⟩ := q
    simp only [evKs] at kf
    exact wpAny_matchCases_nil ⟨σ, H, I, kf _ _ w (.refl _) J⟩
  | n + 1, .wild b, cs, first, hn, h, rc, pins, s, σ, H, Dn, I, q => by
    obtain ⟨pos, body, rfl, hb⟩ := hwild _ _ h
    obtain ⟨w0, H0, ex, w, ρ, st, J, kf⟩ := q
    simp only [evKs] at kf
    refine wpAny_matchCases_cons (wpAny_matchPattern_Capture ?_)
    exact wpAny_assignInOrder_none ((rc b body (by simp at hn; omega) hb).run pins s σ H Dn I ⟨w0, H0, ex, w, ρ, st, J, kf⟩)
  | n + 1, .cons vs b r, cs, first, hn, h, rc, pins, s, σ, H, Dn, I, q => by
    obtain ⟨p, body, rest, rfl, hp, hb, hr⟩ := hcons _ _ _ _ h
    obtain ⟨w0, H0, ex, w, ρ, st, J, kf⟩ := q
    simp only [evKs] at kf
    refine wpAny_matchCases_cons (patt_run hp I fun s1 I1 => ?_)
    by_cases e : vs.contains x = true
    · rw [if_pos e] at kf ⊢
      exact wpAny_assignInOrder_none ((rc b body (by simp at hn; omega) hb).run pins s1 σ H Dn I1 ⟨w0, H0, ex, w, ρ, st, J, kf⟩)
    · rw [if_neg e] at kf ⊢
      exact ks_run hnil hcons hwild n r rest false (by simp at hn; omega) hr (fun b sts hb => rc b sts (by omega)) I1 ⟨w0, H0, ex, w, ρ, st, J, kf⟩
theorem st_mtch (cx : SCxt P A call fd lv N sc X) {c : C} {ks : Ks} {e : Expr} {cs : List MatchCase} {pos : Pos} (hb : (!c.isBor) = true) (h : chkE P N sc c e = true)
    (hk : ∀ {x : PySem.Str} {t : Tok} {pins : List (Addr × Obj)} {s : Shared} {σ : L2.St} {H : Hp} {Dn : Ends}, Inv X pins σ H s → tKs P A call X wf fr ks x Dn σ H → wpAny (model X.prog X.w) X.A (matchCases cs X.env (.str x t) true) (SP X pins Dn) X.xe s) :
    PS X (.Match e cs pos) (tS P A call X wf fr (.mtch c ks)) := by
  refine ⟨fun pins s σ H Dn I q => ?_⟩
  obtain ⟨w0, H0, ex, w, ρ, st, J, kf⟩ := q
  simp only [evS] at kf
  refine wpAny_Match (thn ((sndE c cx.toCxt h).1.run pins s σ H (fun v H1 => ∃ x, v = .str x ∧ tKs P A call X wf fr ks x Dn σ H1) I (e_step J hb kf fun d st1 v H1 w1 l1 J1 r k1 => ?_)) fun u s1 hu => ?_)
  · cases d with
    | str x =>
      cases r
      exact ⟨x, rfl, w0, H0, ex, w1, ρ, st1, J1, k1⟩
    | _ => exact k1.elim
  · obtain ⟨v, H1, I1, r1, x, rfl, q1⟩ := hu
    obtain ⟨t, rfl⟩ := r1
    exact hk I1 q1
end
end Eng

namespace Eng
open PySem PySem.Spec PyProof.Rows L2
/-! ### the check of statements -/
def wildB : List MatchCase → Option (List Stmt)
  | [⟨.MatchAs none none _, none, body⟩] => some body
  | _ => none
theorem wildB_is {cs : List MatchCase} {body : List Stmt} (h : wildB cs = some body) : ∃ pos, cs = [⟨.MatchAs none none pos, none, body⟩] := by
  unfold wildB at h
  split at h
  · cases h; exact ⟨_, rfl⟩
  · cases h
section
variable (P : Prg) (N : List PySem.Str) (sc : Scope) (fr : Bool)
mutual
def chkS : S → Stmt → Bool
  | .set i c, .Assign [.Name x px] e _ => setB N sc i x && !c.isBor && shape e && chkE P N sc c e && lcB sc x px e
  | .own i c, .Assign [.Name x px] e _ => setB N sc i x && freshC P c && shape e && chkE P N sc c e && lcB sc x px e
  | .unp is c, .Assign [.Tuple es k p] e _ => targetB N (ownB sc) is (.Tuple es k p) && !c.isBor && shape e && !isLc e && notTup e && chkE P N sc c e
  | .par i j a b, .Assign [.Tuple [.Name x px, .Name y py] _ _] (.Tuple [ea, eb] _ _) _ => decide (N[i]? = some x) && decide (N[j]? = some y) && decide (i ≠ j) && parB sc x y px py ea eb && !a.isBor && chkE P N sc a ea && !b.isBor && chkE P N sc b eb
  | .fld i f c, .Assign [.Attribute (.Name x _) m _] e _ => decide (nmOf P.nm f = m) && nameB N sc i x && !c.isBor && shape e && !isLc e && chkE P N sc c e
  | .dput o k c, .Assign [.Subscript eo (.Constant (.str s) _ _) _] e _ => decide (nmOf P.nm k = s) && !o.isBor && chkE P N sc o eo && !c.isBor && shape e && !isLc e && chkE P N sc c e
  | .app i c, .Expr (.Call (.Attribute (.Name x _) m apos) [e] [] cpos) _ => decide (m = ("append" : PySem.Str)) && nameB N sc i x && (apos.endLine == cpos.line) && !c.isBor && shape e && chkE P N sc c e
  | .ext i c, .Expr (.Call (.Attribute (.Name x _) m apos) [e] [] cpos) _ => decide (m = ("extend" : PySem.Str)) && nameB N sc i x && (apos.endLine == cpos.line) && freshC P c && shape e && chkE P N sc c e
  | .setc o i c, .Assign [.Subscript eo ei _] e _ => !o.isBor && chkE P N sc o eo && !i.isBor && shape ei && chkE P N sc i ei && !c.isBor && shape e && !isLc e && chkE P N sc c e
  | .ins i cp c, .Expr (.Call (.Attribute (.Name x _) m apos) [ep, e] [] cpos) _ => decide (m = ("insert" : PySem.Str)) && nameB N sc i x && (apos.endLine == cpos.line) && !cp.isBor && shape ep && chkE P N sc cp ep && !c.isBor && shape e && chkE P N sc c e
  | .parN [(i, bi), (j, bj)] cs, .Assign [.Tuple [.Name x px, .Name y py] kt pt] (.Tuple [ea, eb] _ _) _ => decide (N[i]? = some x) && decide (N[j]? = some y) && decide (i ≠ j) && own1 [(i, bi), (j, bj)] && chkPs P N sc [(i, bi), (j, bj)] cs [ea, eb] && (parB sc x y px py ea eb || (targetB N (ownB sc) [i, j] (.Tuple [.Name x px, .Name y py] kt pt) && genB sc [.Name x px, .Name y py] [ea, eb]))
  | .parN [(i, bi), (j, bj), (l, bl)] cs, .Assign [.Tuple [.Name x px, .Name y py, .Name z pz] kt pt] (.Tuple [ea, eb, ec] _ _) _ => decide (N[i]? = some x) && decide (N[j]? = some y) && decide (N[l]? = some z) && decide (i ≠ j) && decide (i ≠ l) && decide (j ≠ l) && own1 [(i, bi), (j, bj), (l, bl)] && chkPs P N sc [(i, bi), (j, bj), (l, bl)] cs [ea, eb, ec] && (parB3 sc x y z px py pz ea eb ec || (targetB N (ownB sc) [i, j, l] (.Tuple [.Name x px, .Name y py, .Name z pz] kt pt) && genB sc [.Name x px, .Name y py, .Name z pz] [ea, eb, ec]))
  | .parN ts cs, .Assign [.Tuple tes kt pt] (.Tuple es _ _) _ => targetB N (ownB sc) (ts.map (·.1)) (.Tuple tes kt pt) && genB sc tes es && decide (ts.length ≤ 1000) && own1 ts && chkPs P N sc ts cs es
  | .parc o i j a b, .Assign [.Tuple [.Subscript eo ei _, .Name y _] _ _] (.Tuple [ea, eb] _ _) _ => setB N sc j y && !o.isBor && chkE P N sc o eo && !i.isBor && shape ei && chkE P N sc i ei && !a.isBor && shape ea && chkE P N sc a ea && !b.isBor && shape eb && chkE P N sc b eb
  | .own i c, .AnnAssign (.Name x _) _ (some e) _ _ => setB N sc i x && freshC P c && shape e && !isLc e && chkE P N sc c e
  | .popo i c, .Expr (.Call (.Attribute (.Name x _) m apos) [e] [] cpos) _ => decide (m = ("pop" : PySem.Str)) && nameB N sc i x && (apos.endLine == cpos.line) && !c.isBor && shape e && chkE P N sc c e
  | .mtch c ks, .Match e cs _ => !c.isBor && chkE P N sc c e && chkMs ks cs
  | .ex c, .Expr e _ => !c.isBor && shape e && !isLc e && chkE P N sc c e
  | .ite t a b, .If e sa sb _ => tokE e && chkE P N sc t e && chkSs a sa && chkSs b sb
  | .for tg it body, .For t e sts [] _ => targetB N (ownB sc) tg t && shape e && chkI P N sc it e t && chkSs body sts
  | .whl t body, .While e sts [] _ => tokE e && chkE P N sc t e && chkSs body sts
  | .ret c, .Return (some e) _ => (!fr && !c.isBor && chkE P N sc c e) || (fr && freshC P c && chkE P N sc c e) || (fr && (match c, e with
    | .bor i, .Name x _ => nameB N sc i x
    | _, _ => false))
  | .ret .non, .Return none _ => !fr
  | .never, _ => true
  | .pass, .Pass _ => true
  | .pass, .Expr (.Constant (.str _) _ _) _ => true
  | .brk, .Break _ => true
  | .cont, .Continue _ => true
  | _, _ => false
def chkSs : Ss → List Stmt → Bool
  | .nil, [] => true
  | .cons (.frz _) r, sts => chkSs r sts
  | .cons s r, st :: sts => chkS s st && chkSs r sts
  | _, _ => false
def chkMs : Ks → List MatchCase → Bool
  | .nil, cs => cs.isEmpty
  | .cons vs b r, ⟨p, none, body⟩ :: rest => pattB vs p && chkSs b body && chkMs r rest
  | .wild b, cs => (match wildB cs with
    | some body => chkSs b body
    | none => false)
  | _, _ => false
end
end
section
variable {P : Prg} {A : Ad} {call : Nat → List D → Store → Res D} {fd : Nat → FuncData} {lv : Nat} {N : List PySem.Str} {sc : Scope} {X : Cx} {wf : Nat} {fr : Bool}
theorem sndS0 (s : S) (st : Stmt) (cx : SCxt P A call fd lv N sc X) (h : chkS P N sc fr s st = true) (rc : ∀ (b : Ss) (sts : List Stmt), sizeOf b < sizeOf s → chkSs P N sc fr b sts = true → PSs X sts (tSs P A call X wf fr b)) : PS X st (tS P A call X wf fr s) := by
  unfold chkS at h
  split at h
  · simp only [Bool.and_eq_true] at h
    exact st_set cx h.1.1.1.1 h.1.1.1.2 h.1.1.2 h.1.2 h.2
  · simp only [Bool.and_eq_true] at h
    exact st_own cx h.1.1.1.1 h.1.1.1.2 h.1.1.2 h.1.2 h.2
  · simp only [Bool.and_eq_true] at h
    exact st_unp cx h.1.1.1.1.1 h.1.1.1.1.2 h.1.1.1.2 (by simpa using h.1.1.2) h.1.2 h.2
  · simp only [Bool.and_eq_true, decide_eq_true_eq] at h
    exact st_par cx h.1.1.1.1.1.1.1 h.1.1.1.1.1.1.2 h.1.1.1.1.1.2 h.1.1.1.1.2 h.1.1.1.2 h.1.1.2 h.1.2 h.2
  · simp only [Bool.and_eq_true, decide_eq_true_eq] at h
    exact st_fld cx h.1.1.1.1.1 h.1.1.1.1.2 h.1.1.1.2 h.1.1.2 (by simpa using h.1.2) h.2
  · simp only [Bool.and_eq_true, decide_eq_true_eq] at h
    exact st_dput cx h.1.1.1.1.1.1 h.1.1.1.1.1.2 h.1.1.1.1.2 h.1.1.1.2 h.1.1.2 (by simpa using h.1.2) h.2
  · simp only [Bool.and_eq_true, decide_eq_true_eq] at h
    exact st_app cx h.1.1.1.1.1 h.1.1.1.1.2 h.1.1.1.2 h.1.1.2 h.1.2 h.2
  · simp only [Bool.and_eq_true, decide_eq_true_eq] at h
    exact st_ext cx h.1.1.1.1.1 h.1.1.1.1.2 h.1.1.1.2 h.1.1.2 h.1.2 h.2
  · simp only [Bool.and_eq_true] at h
    obtain ⟨⟨⟨⟨⟨⟨⟨⟨h1, h2⟩, h3⟩, h4⟩, h5⟩, h6⟩, h7⟩, h8⟩, h9⟩ := h
    exact st_setc cx h1 h2 h3 h4 h5 h6 h7 (by simpa using h8) h9
  · simp only [Bool.and_eq_true, decide_eq_true_eq] at h
    obtain ⟨⟨⟨⟨⟨⟨⟨⟨h1, h2⟩, h3⟩, h4⟩, h5⟩, h6⟩, h7⟩, h8⟩, h9⟩ := h
    exact st_ins cx h1 h2 h3 h4 h5 h6 h7 h8 h9
  · simp only [Bool.and_eq_true, decide_eq_true_eq] at h
    obtain ⟨⟨⟨⟨⟨h1, h2⟩, h3⟩, h4⟩, h5⟩, h6⟩ := h
    rw [Bool.or_eq_true] at h6
    rcases h6 with h6 | h6
    · exact st_par2 cx h1 h2 h3 h6 h4 h5
    · rw [Bool.and_eq_true] at h6
      exact st_parG cx h6.1 h6.2 (Nat.le_of_ble_eq_true rfl) h4 h5
  · simp only [Bool.and_eq_true, decide_eq_true_eq] at h
    obtain ⟨⟨⟨⟨⟨⟨⟨⟨h1, h2⟩, h3⟩, h4⟩, h5⟩, h6⟩, h8⟩, h9⟩, h7⟩ := h
    rw [Bool.or_eq_true] at h7
    rcases h7 with h7 | h7
    · exact st_par3 cx h1 h2 h3 h4 h5 h6 h7 h8 h9
    · rw [Bool.and_eq_true] at h7
      exact st_parG cx h7.1 h7.2 (Nat.le_of_ble_eq_true rfl) h8 h9
  · simp only [Bool.and_eq_true, decide_eq_true_eq] at h
    obtain ⟨⟨⟨⟨h1, h2⟩, h3⟩, h4⟩, h5⟩ := h
    exact st_parG cx h1 h2 h3 h4 h5
  · simp only [Bool.and_eq_true] at h
    obtain ⟨⟨⟨⟨⟨⟨⟨⟨⟨⟨⟨h1, h2⟩, h3⟩, h4⟩, h5⟩, h6⟩, h7⟩, h8⟩, h9⟩, h10⟩, h11⟩, h12⟩ := h
    exact st_parc cx h1 h2 h3 h4 h5 h6 h7 h8 h9 h10 h11 h12
  · simp only [Bool.and_eq_true] at h
    obtain ⟨⟨⟨⟨h1, h2⟩, h3⟩, h4⟩, h5⟩ := h
    exact st_ownA cx h1 h2 h3 (by simpa using h4) h5
  · simp only [Bool.and_eq_true, decide_eq_true_eq] at h
    exact st_popo cx h.1.1.1.1.1 h.1.1.1.1.2 h.1.1.1.2 h.1.1.2 h.1.2 h.2
  · rename_i c ks e cs pos
    simp only [Bool.and_eq_true] at h
    refine st_mtch cx h.1.1 h.1.2 fun {x t pins s σ H Dn} I q => ks_run (chkB := chkSs P N sc fr) (chkM := chkMs P N sc fr) (fun cs h => ?_) (fun vs b r cs h => ?_) (fun b cs h => ?_) (sizeOf ks) ks cs true (Nat.le_refl _) h.2 (fun b sts hb hc => rc b sts (by simp; omega) hc) I q
    · simp only [chkMs] at h
      exact List.isEmpty_iff.mp h
    · cases cs with
      | nil => simp [chkMs] at h
      | cons m rest =>
        obtain ⟨p, g, body⟩ := m
        cases g with
        | some _ => simp [chkMs] at h
        | none =>
          simp only [chkMs, Bool.and_eq_true] at h
          exact ⟨p, body, rest, rfl, h.1.1, h.1.2, h.2⟩
    · simp only [chkMs] at h
      split at h
      · rename_i body hw
        obtain ⟨pos, rfl⟩ := wildB_is hw
        exact ⟨pos, body, rfl, h⟩
      · cases h
  · simp only [Bool.and_eq_true] at h
    exact st_ex cx h.1.1.1 h.1.1.2 (by simpa using h.1.2) h.2
  · simp only [Bool.and_eq_true] at h
    exact st_ite ((sndE _ cx.toCxt h.1.1.2).2 h.1.1.1) (rc _ _ (by simp; omega) h.1.2) (rc _ _ (by simp; omega) h.2)
  · simp only [Bool.and_eq_true] at h
    exact st_for cx h.1.1.1 h.1.1.2 h.1.2 (rc _ _ (by simp; omega) h.2)
  · simp only [Bool.and_eq_true] at h
    exact st_whl cx ((sndE _ cx.toCxt h.1.2).2 h.1.1) (rc _ _ (by simp; omega) h.2)
  · rw [Bool.or_eq_true, Bool.or_eq_true] at h
    rcases h with (h | h) | h
    · simp only [Bool.and_eq_true] at h
      exact st_ret cx (by simpa using h.1.1) h.1.2 h.2
    · simp only [Bool.and_eq_true] at h
      exact st_retF cx h.1.1 h.1.2 h.2
    · rw [Bool.and_eq_true] at h
      obtain ⟨h1, h2⟩ := h
      split at h2
      · exact st_retO cx h1 h2
      · cases h2
  · exact st_retN (by simpa using h)
  · exact st_never
  · exact st_next ps_pass
  · exact st_next ps_doc
  · exact st_brk
  · exact st_cont
  · cases h
theorem sndSs_n : ∀ (n : Nat) (s : Ss) (sts : List Stmt), sizeOf s ≤ n → SCxt P A call fd lv N sc X → chkSs P N sc fr s sts = true → PSs X sts (tSs P A call X wf fr s)
  | 0, s, sts, hn, cx, h => by cases s <;> simp at hn
  | n + 1, s, sts, hn, cx, h => by
    cases s with
    | nil =>
      cases sts with
      | nil => exact ss_nil
      | cons _ _ => simp [chkSs] at h
    | cons x r =>
      have hr : sizeOf r ≤ n := by simp at hn; omega
      have hx : sizeOf x ≤ n := by simp at hn; omega
      by_cases hf : ∃ i, x = .frz i
      · obtain ⟨i, rfl⟩ := hf
        rw [chkSs] at h
        exact ss_frz (sndSs_n n r sts hr cx h)
      · cases sts with
        | nil => cases x <;> first | exact absurd ⟨_, rfl⟩ hf | simp [chkSs] at h
        | cons st sts =>
          have h' : (chkS P N sc fr x st && chkSs P N sc fr r sts) = true := by
            cases x <;> first | exact absurd ⟨_, rfl⟩ hf | simpa only [chkSs] using h
          rw [Bool.and_eq_true] at h'
          exact ss_cons (sndS0 x st cx h'.1 fun b sts' hb hc => sndSs_n n b sts' (by omega) cx hc) (sndSs_n n r sts hr cx h'.2)
theorem sndSs {s : Ss} {sts : List Stmt} (cx : SCxt P A call fd lv N sc X) (h : chkSs P N sc fr s sts = true) : PSs X sts (tSs P A call X wf fr s) := sndSs_n _ s sts (Nat.le_refl _) cx h
end
end Eng

namespace Eng
open PySem PySem.Spec PyProof.Rows L2
/-- a def of the text as the head left it -/
structure FnD where
  x : PySem.Str
  qual : PySem.Str
  params : Arguments
  body : List Stmt
  scope : Scope
/-- the check of one def -/
def chkF (P : Prg) (f : FnI) (d : FnD) : Bool := chkSs P f.N d.scope f.fresh f.body d.body && (f.init.isNone || !f.fresh) && (f.init.isNone || !hotB f.N)
structure Facts (P : Prg) (A : Ad) (K : PySem.W.Frag) (mg : PySem.Str → Option Value) (fd : Nat → FuncData) (dd : Nat → FnD) : Prop where
  gok : GOK P A K mg
  fun_ : ∀ j f, P.fns[j]? = some f → ∃ dvs kws, FunD K (dd j).x (dd j).qual (dd j).params (dd j).body (dd j).scope dvs kws (A.fn j) (fd j)
  scp : ∀ j f, P.fns[j]? = some f → FnScope f.N f.ps (dd j).scope
  chk : ∀ j f, P.fns[j]? = some f → chkF P f (dd j) = true
  bnd : ∀ j f, P.fns[j]? = some f → Binds K (fd j) f.ps []
  bnk : ∀ (j : Nat) (f : FnI), P.fns[j]? = some f → f.kw = true → ∀ (s : Shared) (us : List Value), us.length = f.ps.length → BindsTo s (fd j) ⟨[], f.ps.zip us⟩ (f.ps.zip us)
  bnF : ∀ j f ds, P.fns[j]? = some f → fEqs f.dfl ds = true → ds.all flat = true → f.dfl.length = ds.length → ∃ us vs, (∀ w, RDs A K w ds vs) ∧ Vals vs us ∧ Binds K (fd j) f.ps us
theorem fn_get (P : Prg) (j : Nat) : P.fn[j]? = (P.fns[j]?).map fun f => ⟨f.N.length, f.ps.length, f.body, f.init, f.fresh⟩ := by
  unfold Prg.fn
  rw [List.getElem?_map]
section
variable {P : Prg} {A : Ad} {K : PySem.W.Frag} {mg : PySem.Str → Option Value} {fd : Nat → FuncData} {dd : Nat → FnD} {wf : Nat}
theorem run_cok {n j : Nat} {ds : List D} {st st' : Store} {d : D} (e : run P.tab P.fn wf n j ds st = .ok d st') : ∃ f, P.fns[j]? = some f ∧ ((f.init = none ∧ ds.length = f.ps.length) ∨ (∃ c fs, f.init = some c ∧ d = .ins c fs ∧ ds.length + 1 = f.ps.length)) := by
  cases n with
  | zero => cases e
  | succ n =>
    unfold run at e
    rw [fn_get] at e
    cases q : P.fns[j]? with
    | none => rw [q] at e; cases e
    | some f =>
      rw [q] at e
      dsimp only [Option.map] at e
      refine ⟨f, rfl, ?_⟩
      cases hi : f.init with
      | none =>
        rw [hi] at e
        dsimp only at e
        split at e
        · rename_i hl; exact .inl ⟨rfl, hl⟩
        · cases e
      | some c =>
        rw [hi] at e
        dsimp only at e
        split at e
        · rename_i hl
          refine .inr ⟨c, ?_⟩
          unfold endI at e
          split at e
          · split at e
            · split at e
              · rename_i hc
                cases e
                exact ⟨_, rfl, rfl, hl⟩
              · cases e
            · cases e
          · cases e
          · cases e
        · cases e
/-- the slots at a def's entry -/
theorem rs_start {H0 H : Hp} {ex : Addr → Prop} {w : Wd} {N : List PySem.Str} {ds : List D} {vs : List V} (r : RDs A K w ds vs) : RS A K H0 ex w (startE N.length ds) (L2.start N vs) H where
  len := by unfold L2.start startE; simp [r.length]
  sl := fun i s q => by
    unfold startE at q
    unfold L2.start
    by_cases hi : i < ds.length
    · rw [List.getElem?_append_left (by simpa using hi), List.getElem?_map] at q
      cases z : ds[i]? with
      | none => rw [z] at q; cases q
      | some d =>
        rw [z] at q
        cases q
        obtain ⟨v, h1, h2⟩ := r.get z
        refine ⟨v, ?_, h2⟩
        rw [List.getElem?_append_left (by rw [List.length_map, ← r.length]; exact hi), List.getElem?_map, h1]
        rfl
    · rw [List.getElem?_append_right (by simpa using hi), List.getElem?_replicate] at q
      split at q <;> cases q
  ds := fun i j s t a _ q m => by
    have z : s.mine = false := by
      unfold startE at q
      by_cases hi : i < ds.length
      · rw [List.getElem?_append_left (by simpa using hi), List.getElem?_map] at q
        cases z : ds[i]? with
        | none => rw [z] at q; cases q
        | some d =>
          rw [z] at q
          cases q
          rfl
      · rw [List.getElem?_append_right (by simpa using hi), List.getElem?_replicate] at q
        split at q <;> cases q
    rw [z] at m
    cases m
theorem rs_cons {H0 H : Hp} {ex : Addr → Prop} {w : Wd} {ρ : Env} {σ : L2.St} {s : Slot} {v : V} (R : RS A K H0 ex w ρ σ H) (hs : SlotR A K H0 ex w H s v) (hn : ∀ (i : Nat) (t : Slot), ρ[i]? = some (some t) → t.mine = false) : RS A K H0 ex w (some s :: ρ) (some v :: σ) H where
  len := by simp [R.len]
  sl := fun i t q => by
    cases i with
    | zero => cases q; exact ⟨v, rfl, hs⟩
    | succ i => exact R.sl i t q
  ds := fun i j t1 t2 a hij q1 m1 q2 m2 _ _ => by
    cases i with
    | zero =>
      cases j with
      | zero => exact absurd rfl hij
      | succ j => rw [hn j t2 q2] at m2; cases m2
    | succ i => rw [hn i t1 q1] at m1; cases m1
theorem start_mine {n : Nat} {ds : List D} {i : Nat} {t : Slot} (q : (startE n ds)[i]? = some (some t)) : t.mine = false := by
  unfold startE at q
  by_cases hi : i < ds.length
  · rw [List.getElem?_append_left (by simpa using hi), List.getElem?_map] at q
    cases z : ds[i]? with
    | none => rw [z] at q; cases q
    | some d =>
      rw [z] at q
      cases q
      rfl
  · rw [List.getElem?_append_right (by simpa using hi), List.getElem?_replicate] at q
    split at q <;> cases q
theorem ini_of (F : Facts P A K mg fd dd) {j : Nat} {f : FnI} (hf : P.fns[j]? = some f) (hi : f.init.isSome = true) : hotB f.N = false := by
  have h := F.chk j f hf
  unfold chkF at h
  rw [Bool.and_eq_true] at h
  have z := h.2
  cases q : f.init with
  | none => rw [q] at hi; cases hi
  | some c =>
    rw [q] at z
    simpa using z
theorem sp_none {j : Nat} {f : FnI} : ∀ vs H Q E, spF A K (run P.tab P.fn wf 0) j f vs H Q E → False := fun vs H Q E h => by
  unfold spF at h
  cases hi : f.init with
  | none =>
    rw [hi] at h
    obtain ⟨_, w, ds, st, d, st', _, _, e, _⟩ := h
    cases e
  | some c =>
    rw [hi] at h
    obtain ⟨_, x, dx, vs', w, ds, st, fs, st', _, _, _, _, _, e, _⟩ := h
    cases e
theorem sp_len {n j : Nat} {f : FnI} : ∀ vs H Q E, spF A K (run P.tab P.fn wf n) j f vs H Q E → vs.length = f.ps.length := fun vs H Q E h => by
  unfold spF at h
  cases hi : f.init with
  | none => rw [hi] at h; exact h.1
  | some c => rw [hi] at h; exact h.1
theorem body_ok {prog : Program} {wd : World} {base : Heap} (F : Facts P A K mg fd dd) {n j : Nat} {f : FnI} (hf : P.fns[j]? = some f)
    (ih : (∀ j f, P.fns[j]? = some f → hotB f.N = false → FnOk prog wd K mg base CX0 (4 * n) (A.fn j) (fd j) f.ps (spF A K (run P.tab P.fn wf n) j f)) ∧ (∀ j f, P.fns[j]? = some f → FnG prog wd K mg base CX0 (4 * n) (A.fn j) (fd j) f.ps (spF A K (run P.tab P.fn wf n) j f)))
    {cdv : Value} {A' : Around} {outer : List PySem.Env} {s : Shared} {H : Hp} {vs : List V} {Q : VK} {E : XK} (hga : hotB f.N = true → A'.guards = some []) (hr : Room (4 * n + 3) (A'.deeper (envOfC (dd j).qual (dd j).scope s.heap.objs.size (A.fn j) cdv))) (hsp : spF A K (run P.tab P.fn wf (n + 1)) j f vs H Q E) :
    ∃ t, PSs (cxOf CX0 prog wd K mg base f.N (dd j).qual (dd j).scope (A.fn j) cdv A' outer s H E) (dd j).body t ∧ t { nx := fun _ H' => Q .non H', rt := Q } (start f.N vs) H := by
  refine ⟨tSs P A (run P.tab P.fn wf n) (cxOf CX0 prog wd K mg base f.N (dd j).qual (dd j).scope (A.fn j) cdv A' outer s H E) wf f.fresh f.body, ?_, ?_⟩
  · refine sndSs (fd := fd) (lv := 4 * n) (N := f.N) (sc := (dd j).scope) ?_ ?_
    · exact { sc := rfl, N := rfl, nd := (F.scp j f hf).nd, calm := rfl, room := hr, gok := F.gok, fok := fun j' f' hf' => ih.1 j' f' hf', fog := ih.2, gd := hga, ini := fun j' f' hf' hi' => ini_of F hf' hi', bnk := F.bnk, cok := fun j' ds' st d st' e => run_cok e, bnd := F.bnd, bnF := F.bnF, fnT := fun _ => rfl, kind := (F.scp j f hf).kind, pas := passes_of rfl }
    · have := F.chk j f hf
      unfold chkF at this
      rw [Bool.and_eq_true] at this
      rw [Bool.and_eq_true] at this
      exact this.1.1
  · have hck := F.chk j f hf
    unfold chkF at hck
    rw [Bool.and_eq_true] at hck
    unfold spF at hsp
    cases hi : f.init with
    | none =>
      rw [hi] at hsp
      obtain ⟨hl, w, ds, st, d, st', r, S, e, k⟩ := hsp
      unfold run at e
      rw [fn_get, hf] at e
      dsimp only [Option.map] at e
      rw [hi] at e
      dsimp only at e
      split at e
      · refine ⟨w, H, no, w, startE f.N.length ds, st, ⟨.refl _ _ _, S, rs_start r⟩, ?_⟩
        show KF A K f.fresh w H no w _ (evSs P.tab (run P.tab P.fn wf n) wf f.body (startE f.N.length ds) st)
        cases q : evSs P.tab (run P.tab P.fn wf n) wf f.body (startE f.N.length ds) st with
        | nx ρ st1 =>
          rw [q] at e
          unfold endF at e
          dsimp only at e
          split at e
          · cases e
          · rename_i hfr
            cases e
            exact fun σ' H' w' l' I' => k .non H' w' I'.ext I'.sr (by rw [if_neg hfr]; exact .non)
        | rt d1 st1 =>
          rw [q] at e
          cases e
          exact fun v H' w' E' S' r' => k v H' w' E' S' r'
        | bk ρ st1 => rw [q] at e; cases e
        | ct ρ st1 => rw [q] at e; cases e
        | exc k1 fs st1 => rw [q] at e; cases e
        | bad => rw [q] at e; cases e
      · cases e
    | some c =>
      rw [hi] at hsp
      obtain ⟨hl, x, dx, vs', w, ds, st, fs, st', rfl, hx, px, r, S, e, k⟩ := hsp
      unfold run at e
      rw [fn_get, hf] at e
      dsimp only [Option.map] at e
      rw [hi] at e
      dsimp only at e
      split at e
      · have hst : L2.start f.N (.ref x :: vs') = some (.ref x) :: (vs'.map some ++ List.replicate (f.N.length - 1 - vs'.length) none) := by
          unfold L2.start
          rw [List.map_cons, List.cons_append, List.length_cons]
          congr 3
          omega
        rw [hst]
        have R0 : RS A K H (fun a => a = x) w (startE (f.N.length - 1) ds) (vs'.map some ++ List.replicate (f.N.length - 1 - vs'.length) none) H := by
          have z := rs_start (H0 := H) (H := H) (ex := fun a => a = x) (N := List.replicate (f.N.length - 1) "") r
          unfold L2.start at z
          rw [List.length_replicate] at z
          exact z
        refine ⟨w, H, fun a => a = x, w, some (.self c []) :: startE (f.N.length - 1) ds, st, ⟨.refl _ _ _, S, rs_cons R0 ⟨x, dx, [], rfl, hx, .nil, px, rfl⟩ fun i t z => start_mine z⟩, ?_⟩
        show KF A K f.fresh w H (fun a => a = x) w _ (evSs P.tab (run P.tab P.fn wf n) wf f.body (some (.self c []) :: startE (f.N.length - 1) ds) st)
        cases q : evSs P.tab (run P.tab P.fn wf n) wf f.body (some (.self c []) :: startE (f.N.length - 1) ds) st with
        | nx ρ st1 =>
          rw [q] at e
          unfold endI at e
          dsimp only at e
          split at e
          · rename_i c' fs' h0
            split at e
            · rename_i hc
              subst hc
              cases e
              intro σ' H' w' l' I'
              obtain ⟨v, hv, a, dx', gs, rfl, e1, e2, e3, e4⟩ := I'.rs.sl 0 _ h0
              subst e4
              exact k H' w' gs dx' I'.ext I'.sr e1 e2 e3
            · cases e
          · cases e
        | rt d1 st1 => rw [q] at e; cases e
        | bk ρ st1 => rw [q] at e; cases e
        | ct ρ st1 => rw [q] at e; cases e
        | exc k1 fs st1 => rw [q] at e; cases e
        | bad => rw [q] at e; cases e
      · cases e
theorem fns_ok {prog : Program} {wd : World} {base : Heap} (F : Facts P A K mg fd dd) : ∀ n : Nat, (∀ j f, P.fns[j]? = some f → hotB f.N = false → FnOk prog wd K mg base CX0 (4 * n) (A.fn j) (fd j) f.ps (spF A K (run P.tab P.fn wf n) j f)) ∧ (∀ j f, P.fns[j]? = some f → FnG prog wd K mg base CX0 (4 * n) (A.fn j) (fd j) f.ps (spF A K (run P.tab P.fn wf n) j f))
  | 0 => ⟨fun j f _ _ => ⟨fun vs H Q E h => (sp_none vs H Q E h).elim, fun A' outer s H args us vs Q E _ _ _ _ h => (sp_none vs H Q E h).elim⟩, fun j f _ => ⟨fun vs H Q E h => (sp_none vs H Q E h).elim, fun A' outer s H args us vs Q E _ _ _ _ _ h => (sp_none vs H Q E h).elim⟩⟩
  | n + 1 => by
    have ih := fns_ok (prog := prog) (wd := wd) (base := base) F n
    refine ⟨fun j f hf hc => ?_, fun j f hf => ?_⟩
    · obtain ⟨dvs, kws, FD⟩ := F.fun_ j f hf
      exact FunD.ok (k := 4 * n + 3) FD (F.scp j f hf) sp_len fun cdv A' outer s H vs Q E hr hsp => body_ok F hf ih (fun z => by rw [hc] at z; cases z) hr hsp
    · obtain ⟨dvs, kws, FD⟩ := F.fun_ j f hf
      exact FunD.okG (k := 4 * n + 3) FD (F.scp j f hf) sp_len fun cdv A' outer s H vs Q E hga hr hsp => body_ok F hf ih (fun _ => hga) hr hsp
end
end Eng

/-! The head's facts, told by one Bool over the part of the heap that the names reach. -/
namespace Eng
open PySem PySem.Spec PyProof.Rows L2
/-- where a def stands -/
inductive Pth where
  | glo (x : PySem.Str)
  | mt (c m : PySem.Str)
  | pr (c m : PySem.Str)
def Pth.at_ (p : Pth) (K : PySem.W.Frag) : Addr := match p with
  | .glo x => He.ga K x
  | .mt c m => He.ma K (He.ga K c) m
  | .pr c m => (match PySem.W.recIn K (He.ma K (He.ga K c) m) "property" with
    | some (.ref g :: _) => g
    | _ => 0)
def adOf (P : Prg) (ps : List Pth) (K : PySem.W.Frag) : Ad where
  cls := fun c => match P.cls[c]? with
    | some k => He.ga K k.name
    | none => 0
  fn := fun j => match ps[j]? with
    | some p => p.at_ K
    | none => 0
  nm := nmOf P.nm
def allI {α : Type} (l : List α) (f : Nat → α → Bool) : Bool := (List.range l.length).all fun i => match l[i]? with
  | some a => f i a
  | none => true
theorem allI_ok {α : Type} {l : List α} {f : Nat → α → Bool} (h : allI l f = true) : ∀ i a, l[i]? = some a → f i a = true := fun i a q => by
  have hi : i < l.length := (List.getElem?_eq_some_iff.mp q).1
  have z : (match l[i]? with
    | some a => f i a
    | none => true) = true := List.all_eq_true.mp h i (List.mem_range.mpr hi)
  rw [q] at z
  exact z
def isGl (K : PySem.W.Frag) (x : PySem.Str) (a : Addr) : Bool := He.eqO (PySem.W.nsIn K mainGlobals x) (some (some (.ref a)))
def ops3 : List Operator := [.Add, .Sub, .Mult]
def methB (K : PySem.W.Frag) (C : Addr) (m : PySem.Str) (f : Addr) : Bool := He.eqO (PySem.W.findIn K (.ref C) m) (some (some (.ref f))) && (PySem.W.isFn K (.ref f) && PySem.W.keepIn K (.ref f))
def propB (K : PySem.W.Frag) (C : Addr) (m : PySem.Str) (g : Addr) : Bool := match PySem.W.findIn K (.ref C) m with
  | some (some (.ref p)) => He.eqO (PySem.W.specialIn K (.ref p) "__get__") (some (some (.builtin "property.__get__"))) && (decide (PySem.W.takesIn K (.ref p) = some true) && (match PySem.W.recIn K p "property" with
    | some (.ref g' :: _) => decide (g' = g)
    | _ => false))
  | _ => false
def clsB (P : Prg) (A : Ad) (K : PySem.W.Frag) (c : Nat) (k : ClsI) : Bool := [isGl K k.name (A.cls c), PySem.W.plainGet K (A.cls c) Str.empty, PySem.W.hasDictIn K (A.cls c), PySem.W.plainOver K (A.cls c), He.eqO (PySem.W.findIn K (.ref (A.cls c)) "__setattr__") (some (some (.builtin "object.__setattr__"))),
  PySem.W.makesIn K (A.cls c), He.eqO (PySem.W.findIn K (.ref (A.cls c)) "__init__") (some (some (.ref (A.fn k.init)))), PySem.W.isFn K (.ref (A.fn k.init)), PySem.W.keepIn K (.ref (A.cls c)), PySem.W.selfFirst K (A.cls c),
  k.meth.all (fun q => methB K (A.cls c) (A.nm q.1) (A.fn q.2)), k.prop.all (fun q => propB K (A.cls c) (A.nm q.1) (A.fn q.2)), k.flds.all (fun f => He.eqO (PySem.W.findIn K (.ref (A.cls c)) (A.nm f)) (some none)),
  ops3.all (fun op => match PySem.W.findIn K (.ref (A.cls c)) (dunderR op.info.2) with
    | some none => true
    | some (some (.ref _)) => true
    | _ => false), decide (PySem.W.subIn K (.type "int") (.ref (A.cls c)) = some false), decide (PySem.W.subIn K (.ref (A.cls c)) (.type "int") = some false), decide (PySem.W.subIn K (.ref (A.cls c)) (.type "object") = some true),
  He.eqO (PySem.W.findIn K (.ref (A.cls c)) "__ne__") (some (some (.builtin "object.__ne__"))), tyStr.all (fun n => decide (PySem.W.kitOne K (.ref (A.cls c)) (.type n) = some false)), ("NoneType" :: tyStr).all (fun n => decide (PySem.W.kitOne K (.type n) (.ref (A.cls c)) = some false)),
  He.eqO (PySem.W.findIn K (.ref (A.cls c)) "__class__") (some (some (.builtin "object.__class__"))), He.eqO (PySem.W.specialIn K (.builtin "object.__class__") "__get__") (some (some (.builtin "getset_descriptor.__get__"))), decide (PySem.W.takesIn K (.builtin "object.__class__") = some true), decide (PySem.W.mroIn K (A.cls c) (.type "object") = some true),
  (k.meth ++ k.prop).all (fun q => match P.fns[q.2]? with
    | some f => f.init.isNone && !hotB f.N
    | none => true)].all id
theorem look_mem {m j : Nat} : ∀ {l : List (Nat × Nat)}, l.lookup m = some j → (m, j) ∈ l
  | [], h => by cases h
  | (a, b) :: r, h => by
    simp only [List.lookup] at h
    split at h
    · rename_i e
      have : m = a := by simpa using e
      cases h
      rw [this]
      exact List.mem_cons_self
    · exact List.mem_cons_of_mem _ (look_mem h)
section
variable {P : Prg} {K : PySem.W.Frag} {h : Heap} {mg : PySem.Str → Option Value} {A : Ad}
theorem gl_ok (X : K.In h) (G : h.Ns mainGlobals mg) {x : PySem.Str} {a : Addr} (c : isGl K x a = true) : mg x = some (.ref a) := PySem.W.mg_of X G (He.eqO_ok c)
theorem meth_okB {C f : Addr} {m : PySem.Str} (c : methB K C m f = true) : Meth K C m f := by
  obtain ⟨c1, c⟩ := He.ba c
  obtain ⟨c2, c3⟩ := He.ba c
  exact ⟨He.eqO_ok c1, c2, c3⟩
theorem prop_okB {C g : Addr} {m : PySem.Str} (c : propB K C m g = true) : ∃ p, PropOf K C m p g := by
  unfold propB at c
  split at c
  · rename_i p e
    obtain ⟨c1, c⟩ := He.ba c
    obtain ⟨c2, c3⟩ := He.ba c
    split at c3
    · rename_i g' rest e2
      have : g' = g := of_decide_eq_true c3
      subst this
      exact ⟨p, e, He.eqO_ok c1, of_decide_eq_true c2, rest, e2⟩
    · cases c3
  · cases c
theorem cls_okB (X : K.In h) (G : h.Ns mainGlobals mg) {c : Nat} {k : ClsI} (hh : clsB P A K c k = true) : ClsOK P A K mg c k := by
  unfold clsB at hh
  simp only [List.all_cons, List.all_nil, Bool.and_true, id, Bool.and_eq_true] at hh
  obtain ⟨h1, h2, h3, h4, h5, h6, h7, h8, h9, h10, h11, h12, h13, h14, h15, h16, h17, h18, h19, h20, h21, h22, h23, h24, h25⟩ := hh
  have cl : L2.Cls K (A.cls c) := ⟨h2, h3, h4, He.eqO_ok h5⟩
  refine { gl := gl_ok X G h1, cl := cl, mkr := ⟨h6, He.eqO_ok h7, h8, h9⟩, sf := h10, me := fun m j q => meth_okB (List.all_eq_true.mp h11 _ (look_mem q)), pr := fun m j q => prop_okB (List.all_eq_true.mp h12 _ (look_mem q)), na := fun f q => He.eqO_ok (List.all_eq_true.mp h13 f (by simpa using q)), mi := fun m j f q1 q2 => ?_, qi := fun m j f q1 q2 => ?_, rr := fun op ho => ?_, si := of_decide_eq_true h15, is := of_decide_eq_true h16, so := of_decide_eq_true h17, ne := He.eqO_ok h18, ty := fun H a dx fs e => .ins e cl (He.eqO_ok h21) (He.eqO_ok h22) (of_decide_eq_true h23) (of_decide_eq_true h24), k1 := fun n hn => ?_, k2 := fun n hn => ?_ }
  · have z := List.all_eq_true.mp h25 _ (List.mem_append_left _ (look_mem q1))
    dsimp only at z
    rw [q2] at z
    rw [Bool.and_eq_true] at z
    exact ⟨Option.isNone_iff_eq_none.mp z.1, by simpa using z.2⟩
  · have z := List.all_eq_true.mp h25 _ (List.mem_append_right _ (look_mem q1))
    dsimp only at z
    rw [q2] at z
    rw [Bool.and_eq_true] at z
    exact ⟨Option.isNone_iff_eq_none.mp z.1, by simpa using z.2⟩
  · simp only [ops3, List.all_cons, List.all_nil, Bool.and_true, Bool.and_eq_true] at h14
    have z : (match PySem.W.findIn K (.ref (A.cls c)) (dunderR op.info.2) with
      | some none => true
      | some (some (.ref _)) => true
      | _ => false) = true := by
      rcases ho with rfl | rfl | rfl
      · exact h14.1
      · exact h14.2.1
      · exact h14.2.2
    split at z
    · rename_i e
      exact ⟨none, e, .inl rfl⟩
    · rename_i g e
      exact ⟨_, e, .inr ⟨g, rfl⟩⟩
    · cases z
  · have z := List.all_eq_true.mp h19 n hn
    exact of_decide_eq_true z
  · have hh : (("NoneType" :: tyStr).all fun n => decide (PySem.W.kitOne K (.type n) (.ref (A.cls c)) = some false)) = true := by
      simp only [List.all_cons, Bool.and_eq_true]
      exact h20
    exact of_decide_eq_true (List.all_eq_true.mp hh n hn)
def spNames : List PySem.Str := ["__add__", "__radd__", "__sub__", "__rsub__", "__mul__", "__rmul__", "__neg__", "__abs__", "__bool__", "__eq__"]
/-- what does not look at the heap -/
def chkP (P : Prg) (ps : List Pth) : Bool := nmOk P.nm && (decide (P.nm.take 10 = spNames) && allI P.fns fun j f => match f.glob with
  | some x => (match ps[j]? with
    | some (.glo y) => decide (y = x)
    | _ => false)
  | none => true)
/-! the module's own constants -/
mutual
def valB (K : PySem.W.Frag) : D → Value → Bool
  | .int i, .int j _ => decide (i = j)
  | .bl a, .bool b => a == b
  | .non, .none => true
  | .str s, .str t _ => decide (s = t)
  | .tup xs, .ref a => (match K.lookup a with
    | some ⟨.type n, _, .seq its _, _⟩ => decide (n = "tuple") && decide (its.size ≤ 1000000) && valsB K xs its.toList
    | _ => false)
  | _, _ => false
def valsB (K : PySem.W.Frag) : List D → List Value → Bool
  | [], [] => true
  | d :: r, u :: s => valB K d u && valsB K r s
  | _, _ => false
end
mutual
theorem val_ok {A : Ad} {K : PySem.W.Frag} : ∀ {d : D} {u : Value}, valB K d u = true → ∃ v, RelV v u ∧ ∀ w, RD A K w d v
  | .int i, u, h => by
    cases u <;> simp only [valB, decide_eq_true_eq] at h <;> try cases h
    exact ⟨.int i, ⟨_, rfl⟩, fun _ => .int i⟩
  | .bl a, u, h => by
    cases u <;> simp only [valB, beq_iff_eq] at h <;> try cases h
    exact ⟨.bl a, rfl, fun _ => .bl a⟩
  | .non, u, h => by
    cases u <;> simp only [valB] at h <;> try cases h
    exact ⟨.non, rfl, fun _ => .non⟩
  | .str s, u, h => by
    cases u <;> simp only [valB, decide_eq_true_eq] at h <;> try cases h
    exact ⟨.str s, ⟨_, rfl⟩, fun _ => .str s⟩
  | .tup xs, u, h => by
    cases u with
    | ref a =>
      simp only [valB] at h
      split at h
      · rename_i n dd its m sl hk
        simp only [Bool.and_eq_true, decide_eq_true_eq] at h
        obtain ⟨⟨h1, h2⟩, h3⟩ := h
        obtain ⟨vs, r1, r2⟩ := vals_ok (A := A) h3
        subst h1
        exact ⟨.ref a, rfl, fun w => .tup (.inr ⟨_, its, m, hk, rfl, rfl, by rw [sizeLine_eq]; omega, r1⟩) (r2 w)⟩
      · cases h
    | _ => simp [valB] at h
  | .lst _, u, h => by cases u <;> simp [valB] at h
  | .ins _ _, u, h => by cases u <;> simp [valB] at h
  | .fn _, u, h => by cases u <;> simp [valB] at h
  | .ref _, u, h => by cases u <;> simp [valB] at h
theorem vals_ok {A : Ad} {K : PySem.W.Frag} : ∀ {ds : List D} {us : List Value}, valsB K ds us = true → ∃ vs, Vals vs us ∧ ∀ w, RDs A K w ds vs
  | [], [], _ => ⟨[], .nil, fun _ => .nil⟩
  | [], _ :: _, h => by simp [valsB] at h
  | _ :: _, [], h => by simp [valsB] at h
  | d :: r, u :: s, h => by
    simp only [valsB, Bool.and_eq_true] at h
    obtain ⟨v, h1, h2⟩ := val_ok (A := A) h.1
    obtain ⟨vs, h3, h4⟩ := vals_ok (A := A) h.2
    exact ⟨v :: vs, .cons h1 h3, fun w => .cons (h2 w) (h4 w)⟩
end
def conB (K : PySem.W.Frag) (p : PySem.Str × D) : Bool := match PySem.W.nsIn K mainGlobals p.1 with
  | some (some u) => valB K p.2 u
  | _ => false
def exB (P : Prg) (ps : List Pth) (K : PySem.W.Frag) : Bool :=
  (P.con.all fun p => conB K p) && ((P.blt.all fun x => He.eqO (PySem.W.nsIn K mainGlobals x) (some none)) && ((allI P.fns fun j f => PySem.W.keepIn K (.ref ((adOf P ps K).fn j)) && (match f.glob with
    | some x => isGl K x ((adOf P ps K).fn j)
    | none => true)) && ((allI P.cls fun c k => clsB P (adOf P ps K) K c k) && (ops3.all fun op => match PySem.W.findIn K (.type "int") (PySem.dunder op.info.2), PySem.W.findIn K (.type "int") (dunderR op.info.2) with
    | some fo, some ro => (fo.isSome && !isSeqSlot fo) || (ro.isSome && !isSeqSlot ro)
    | _, _ => false))))
theorem gok_of {ps : List Pth} (X : K.In h) (G : h.Ns mainGlobals mg) (hp : chkP P ps = true) (hx : exB P ps K = true) : GOK P (adOf P ps K) K mg := by
  unfold chkP at hp
  obtain ⟨p1, p2⟩ := He.ba hp
  obtain ⟨p2, p3⟩ := He.ba p2
  unfold exB at hx
  obtain ⟨x0, hx⟩ := He.ba hx
  obtain ⟨x1, hx⟩ := He.ba hx
  obtain ⟨x2, hx⟩ := He.ba hx
  obtain ⟨x3, x4⟩ := He.ba hx
  have hn : P.nm.take 10 = spNames := of_decide_eq_true p2
  have nmi : ∀ i (s : PySem.Str), spNames[i]? = some s → nmOf P.nm i = s := fun i s q => by
    rw [← hn] at q
    unfold nmOf
    rw [List.getElem?_take] at q
    split at q
    · rw [q]
    · cases q
  refine { nm := ⟨nmOf_inj p1, nmi 0 _ rfl, nmi 1 _ rfl, nmi 2 _ rfl, nmi 3 _ rfl, nmi 4 _ rfl, nmi 5 _ rfl, nmi 6 _ rfl, nmi 7 _ rfl, nmi 8 _ rfl, nmi 9 _ rfl⟩, nmE := fun _ => rfl, free := fun x q => PySem.W.mg_none_of X G (He.eqO_ok (List.all_eq_true.mp x1 x (by simpa using q))), gfn := fun j f x hf hg => ?_, keep := fun j f hf => (He.ba (allI_ok x2 j f hf)).1, cls := fun c k hk => cls_okB X G (allI_ok x3 c k hk), con := fun k p hk => ?_, iops := fun op ho => ?_ }
  · have z := (He.ba (allI_ok x2 j f hf)).2
    rw [hg] at z
    exact gl_ok X G z
  · have z := List.all_eq_true.mp x0 p (List.mem_of_getElem? hk)
    unfold conB at z
    split at z
    · rename_i u e
      obtain ⟨v, h1, h2⟩ := val_ok (A := adOf P ps K) z
      exact ⟨u, v, PySem.W.mg_of X G e, h1, h2⟩
    · cases z
  · simp only [ops3, List.all_cons, List.all_nil, Bool.and_true, Bool.and_eq_true] at x4
    have z : (match PySem.W.findIn K (.type "int") (PySem.dunder op.info.2), PySem.W.findIn K (.type "int") (dunderR op.info.2) with
      | some fo, some ro => (fo.isSome && !isSeqSlot fo) || (ro.isSome && !isSeqSlot ro)
      | _, _ => false) = true := by
      rcases ho with rfl | rfl | rfl
      · exact x4.1
      · exact x4.2.1
      · exact x4.2.2
    split at z
    · rename_i fo ro e1 e2
      exact ⟨fo, ro, e1, e2, z⟩
    · cases z
end
/-! ### the Hook -/
abbrev AlZ : Type := Bool × List He5.FnW
def obsZ (n : List Addr) (ex : PySem.W.Frag → Bool) (fn : List He5.DefA) (g : Addr → Option Obj) : AlZ :=
  (ex (He.frG g n) && fn.all (fun d => d.ok (He.frG g n)), fn.map fun d => He5.fnA (He.frG g n) (d.at_ (He.frG g n)))
structure SaysZ (ex : PySem.W.Frag → Bool) (fn : List He5.DefA) (K : PySem.W.Frag) : Prop where
  more : ex K = true
  ok : ∀ d ∈ fn, d.ok K = true
  at_ : (fn.map fun d => He5.fnA K (d.at_ K)) = fn.map He5.DefA.val
theorem saysZ_of {n : List Addr} {ex : PySem.W.Frag → Bool} {fn : List He5.DefA} {h : Heap} (e : obsZ n ex fn h.get? = (true, fn.map He5.DefA.val)) : SaysZ ex fn (He.frG h.get? n) := by
  have e1 := congrArg (fun z : AlZ => z.1) e
  have e2 := congrArg (fun z : AlZ => z.2) e
  obtain ⟨h1, h2⟩ := He.ba e1
  exact ⟨h1, fun d hd => List.all_eq_true.mp h2 d hd, e2⟩
def hookZ (n : List Addr) (ex : PySem.W.Frag → Bool) (fn : List He5.DefA) : PySem.W.Hook where
  α := AlZ
  obs := fun s => obsZ n ex fn s.heap.get?
  val := fun _ => (true, fn.map He5.DefA.val)
  says := fun _ h => ∃ K : PySem.W.Frag, K.In h ∧ SaysZ ex fn K
  of := fun _ _ e => ⟨_, He.frG_in, saysZ_of e⟩
  keeps := fun _ _ _ ⟨K, hK, c⟩ k => ⟨K, PySem.W.Frag.In.keeps hK k, c⟩
theorem obsZ_eq {n : List Addr} {ex : PySem.W.Frag → Bool} {fn : List He5.DefA} {g : Addr → Option Obj} {s : Shared} (h : ∀ a, g a = s.heap.get? a) : obsZ n ex fn g = (hookZ n ex fn).obs s := by
  have e : g = s.heap.get? := funext h
  rw [e] <;> rfl
theorem SaysZ.def_ {ex : PySem.W.Frag → Bool} {fn : List He5.DefA} {K : PySem.W.Frag} (c : SaysZ ex fn K) {i : Nat} {d : He5.DefA} (h : fn[i]? = some d) : ∃ fd, L2.FunD K d.name d.qual d.params d.body d.scope (d.dvs K) (d.kws K) (d.at_ K) fd := by
  have e2 : (fn.map fun d => He5.fnA K (d.at_ K))[i]? = (fn.map He5.DefA.val)[i]? := by rw [c.at_]
  rw [List.getElem?_map, List.getElem?_map, h] at e2
  exact He5.DefA.funD (Option.some.inj e2) (c.ok d (List.mem_of_getElem? h))
end Eng

/-! The law's own call, by a promise that asks that no repr runs around. -/
namespace Eng
open PySem PySem.Spec PyProof.Rows L2
theorem lawG {P : Program} {w : World} {K : PySem.W.Frag} {mg mb : PySem.Str → Option Value} {CX : CXT} {k : Nat} {fa a : Addr} {fd : FuncData} {x : PySem.Str} {sp : Sp} {s1 : Shared} {vs : List Value} {ns : List Int}
    (KX : K.In s1.heap) (hns : s1.heap.Ns mainGlobals mg) (hbl : s1.heap.Ns builtinsNs mb) (hbb : ∀ y : PySem.Str, y ≠ "__name__" → mb y = bootBuiltins y) (hlm : s1.heap.NoLimit) (hge : s1.gens = #[])
    (hat : s1.heap.get? a = some { cls := .type "list", data := .seq vs.toArray }) (hin : IntsAre vs ns) (hsz : ns.length ≤ sizeLine) (hro : Room k callerA)
    (F : ∀ base : Heap, K.In base → base.Ns mainGlobals mg → FnG P w K mg base CX k fa fd [x] sp) (hbd : ∀ (s : Shared) (u : Value), BindsTo s fd ⟨[u], []⟩ [(x, u)])
    (hsp : ∀ H : Hp, Only H → SqL K H a (ns.map V.int) → sp [.ref a] H (fun v _ => v = .bl true) fun _ _ _ => False)
    (hCX : ∀ H e s', CX [] H s1 (fun _ _ _ => False) e s' → False) :
    codeAny (model P w) callerA (.call (.ref fa) ⟨[.ref a], []⟩) (fun out s' => out = .ok (.ret (.bool true)) ∧ OldK s1.heap s'.heap ∧ s'.os = s1.os ∧ AllBare s'.gens) s1 := by
  have hvs := vals_ints hin
  have hvl := hin.length
  have main : ∀ T : Hp, Only T → SqL K T a (ns.map V.int) → HOk P w T s1.heap → (∀ b, T b ≠ none → b = a) → (T a ≠ none → K.lookup a = none) →
      codeAny (model P w) callerA (.call (.ref fa) ⟨[.ref a], []⟩) (fun out s' => out = .ok (.ret (.bool true)) ∧ OldK s1.heap s'.heap ∧ s'.os = s1.os ∧ AllBare s'.gens) s1 := by
    intro T only sq hok sole noK
    have isNone : ∀ {b : Addr}, b ≠ a → T b = none := fun {b} ne => by
      cases z : T b with
      | none => rfl
      | some u => exact absurd (sole b (by rw [z]; exact Option.some_ne_none u)) ne
    have keepB : ∀ {b : Addr} {o : Obj}, s1.heap.get? b = some o → T b = none → (hidT s1.heap T).get? b = some o := fun z nn => hidT_get z nn
    have dictN : ∀ {b : Addr} {o : Obj} {es : Array DictEntry} {ep : Nat}, s1.heap.get? b = some o → o.data = .dict es ep → T b = none := by
      intro b o es ep z dd
      refine isNone fun eq => ?_
      rw [eq, hat] at z
      obtain rfl := Option.some.inj z
      cases (show Data.seq vs.toArray _ = Data.dict es ep from dd)
    have nsB : ∀ {b : Addr} {m : PySem.Str → Option Value}, s1.heap.Ns b m → (hidT s1.heap T).Ns b m := by
      rintro b m ⟨o, es, ep, z, dd, rest⟩
      exact ⟨o, es, ep, keepB z (dictN z dd), dd, rest⟩
    have inB : K.In (hidT s1.heap T) := by
      intro b o z
      refine keepB (KX b o z) ?_
      cases q : T b with
      | none => rfl
      | some u =>
        have eq : b = a := sole b (by rw [q]; exact Option.some_ne_none u)
        rw [eq] at z q
        rw [noK (by rw [q]; exact Option.some_ne_none u)] at z
        cases z
    have modB : Mod K mg (hidT s1.heap T) := ⟨inB, nsB hns, ⟨mb, nsB hbl, hbb⟩, by obtain ⟨mc, q1, q2⟩ := hlm; exact ⟨mc, nsB q1, q2⟩⟩
    have env : Env0 P w K mg (hidT s1.heap T) callerA [] s1 T := ⟨rfl, modB, fun b o z => of_hidT z, Nat.le_of_eq (hidT_size _ _), trivial, fun b z => (List.not_mem_nil (show b ∈ ([] : List Addr) from z)).elim, hok, .of_eq hge⟩
    refine codeAny_mono ((F _ inB (nsB hns)).run callerA [] s1 T ⟨[.ref a], []⟩ [.ref a] [.ref a] _ _ rfl hro env (hbd s1 (.ref a)) (.cons rfl .nil) (hsp T only sq)) fun out s' post => ?_
    match out, post with
    | .error ev, post => exact (hCX T ev s' post).elim
    | .ok .next, post => exact post.elim
    | .ok .brk, post => exact post.elim
    | .ok .cont, post => exact post.elim
    | .ok (.ret u), post =>
      obtain ⟨v, T', os, bare, un, hok', rel, hv⟩ := post
      obtain rfl : v = .bl true := hv
      obtain rfl : u = Value.bool true := rel
      refine ⟨rfl, OldK.of_keep fun b o z => ?_, os, bare⟩
      cases q : T b with
      | none => exact un.keep b o z q (fun y => List.not_mem_nil (show b ∈ ([] : List Addr) from y)) (List.not_mem_nil)
      | some u =>
        rcases only b with y | ⟨ob, xs, y⟩
        · rw [q] at y
          cases y
        · obtain ⟨g1, _⟩ := hok b _ y
          obtain ⟨g2, _⟩ := hok' b _ (un.frzs b ob _ y)
          rw [z] at g1
          cases g1
          exact g2
  cases hk : K.lookup a with
  | some o =>
    have z := KX a o hk
    rw [hat] at z
    obtain rfl := Option.some.inj z
    exact main (fun _ => none) (fun _ => .inl rfl) (.inr ⟨_, vs.toArray, _, hk, rfl, rfl, rfl, by rw [List.size_toArray, hvl]; exact hsz, by simpa using hvs⟩) (fun b u y => by cases (show (none : Option HO) = some u from y)) (fun b y => (y rfl).elim) fun y => (y rfl).elim
  | none =>
    refine main (fun b => if b = a then some (.frz { cls := .type "list", data := .seq vs.toArray } (.lst (ns.map V.int))) else none) (fun b => ?_) (.inl (.inr ⟨{ cls := .type "list", data := .seq vs.toArray }, if_pos rfl⟩)) (fun b u y => ?_) (fun b y => ?_) fun _ => hk
    · by_cases eq : b = a
      · exact .inr ⟨_, _, if_pos eq⟩
      · exact .inl (if_neg eq)
    · by_cases eq : b = a
      · have y' := (if_pos eq).symm.trans y
        cases y'
        subst eq
        exact ⟨hat, by rw [List.length_map]; exact hsz, vs, _, hvs, hat⟩
      · have y' := (if_neg eq).symm.trans y
        cases y'
    · by_cases eq : b = a
      · exact eq
      · exact absurd (if_neg eq) y
theorem walkG {l : PySem.W.OpenLaw} {n k : Nat} {q : Program} {loose : List PySem.Str} {XP : (PySem.Str → Option Value) → Heap → Prop} {YP : World → Heap → Prop} {d : DefRec} {CX : CXT} {x : PySem.Str}
    (hmost : l.most = some n) (hn : n ≤ sizeLine) (hdfl : d.params.defaults = []) (hro : Room k callerA)
    (F : ∀ (w : World) (mg : PySem.Str → Option Value) (fa : Addr) (h : Heap), YP w h → h.Ns mainGlobals mg → mg d.name = some (.ref fa) →
      ∃ (K : PySem.W.Frag) (fd : FuncData) (sp : Sp), K.In h ∧ (∀ (s : Shared) (u : Value), BindsTo s fd ⟨[u], []⟩ [(x, u)]) ∧
        (∀ (H : Hp) (a : Addr) (ns : List Int), ns.length ≤ n → Only H → SqL K H a (ns.map V.int) → sp [.ref a] H (fun v _ => v = .bl true) fun _ _ _ => False) ∧
        ∀ base : Heap, K.In base → base.Ns mainGlobals mg → FnG l.prog w K mg base CX k fa fd [x] sp)
    (hCX : ∀ (H : Hp) (s : Shared) (e : Value) (s' : Shared), CX [] H s (fun _ _ _ => False) e s' → False) :
    PySem.W.WalkO q loose XP YP l.row.toRowW d [] (fun f vs => PySem.call f vs) := by
  refine Att.attach_call hmost hdfl fun w s0 s1 mg mb fa o pm cd doc a vs ns G Y ho hd hcd hmg hobj hints hlen hge => ?_
  obtain ⟨K, fd, sp, inK, hb, hsp, hF⟩ := F w mg fa _ Y G.T.g hmg
  exact lawG inK G.T.g G.T.b G.T.builtins G.T.nolimit hge hobj hints (Nat.le_trans hlen hn) hro hF hb (fun H hO hS => hsp H a ns hlen hO hS) fun H e s' => hCX H s1 e s'
end Eng

/-! A law holds if the interpreter says so. -/
namespace Eng
open PySem PySem.Spec PyProof.Rows L2
inductive All2 {α β : Type} (R : α → β → Prop) : List α → List β → Prop where
  | nil : All2 R [] []
  | cons {a : α} {b : β} {as : List α} {bs : List β} (h : R a b) (r : All2 R as bs) : All2 R (a :: as) (b :: bs)
theorem All2.get {α β : Type} {R : α → β → Prop} : ∀ {as : List α} {bs : List β} {i : Nat} {a : α}, All2 R as bs → as[i]? = some a → ∃ b, bs[i]? = some b ∧ R a b
  | _, _, _, _, .nil, e => by simp at e
  | _, _, 0, _, .cons h _, e => by simp at e; subst e; exact ⟨_, rfl, h⟩
  | _, _, i + 1, _, .cons _ r, e => by
    obtain ⟨b, h1, h2⟩ := All2.get (i := i) r (by simpa using e)
    exact ⟨b, by simpa using h1, h2⟩
/-- a def of the text: where it stands, its names, its statement, its defaults -/
structure Df where
  p : Pth
  x : PySem.Str
  qual : PySem.Str
  st : Stmt
  dfl : List He.Dv
def Df.toA (d : Df) : He5.DefA := ⟨d.p.at_, d.x, d.qual, defArgs d.st, defBody d.st, defScope d.st, d.dfl, []⟩
def Df.toD (d : Df) : FnD := ⟨d.x, d.qual, defArgs d.st, defBody d.st, defScope d.st⟩
def dvB : D → He.Dv → Bool
  | .non, .non => true
  | .bl a, .bl b => a == b
  | .int a, .int b => decide (a = b)
  | .str a, .str b => decide (a = b)
  | _, _ => false
def dvsB : List D → List He.Dv → Bool
  | [], [] => true
  | a :: r, b :: s => dvB a b && dvsB r s
  | _, _ => false
theorem dv_ok {A : Ad} {K : PySem.W.Frag} {w : Wd} {a : D} {b : He.Dv} (h : dvB a b = true) : RD A K w a (b.v K) := by
  cases a <;> cases b <;> simp [dvB] at h
  · exact .non
  · subst h; exact .bl _
  · subst h; exact .int _
  · subst h; exact .str _
theorem dvs_ok {A : Ad} {K : PySem.W.Frag} {w : Wd} : ∀ {a : List D} {b : List He.Dv}, dvsB a b = true → RDs A K w a (b.map (He.Dv.v K))
  | [], [], _ => .nil
  | [], _ :: _, h => by cases h
  | _ :: _, [], h => by cases h
  | a :: r, b :: s, h => by
    rw [dvsB, Bool.and_eq_true] at h
    exact .cons (dv_ok h.1) (dvs_ok h.2)
/-- how its parameters are bound -/
inductive BndD (ps : List PySem.Str) (d : Df) : Prop where
  | plain (e : d.dfl = []) (h : ∀ (kV doc pm : Value) (an : Option Addr) (cdv ct : Value) (us : List Value), us.length = ps.length → bindArgs (PySem.W.fnOf d.x d.qual (defArgs d.st) (defBody d.st) (defScope d.st) .none kV doc pm an cdv ct) ⟨us, []⟩ = pure (ps.zip us))
  | dfl (e : d.dfl ≠ []) (hl : d.dfl.length ≤ ps.length)
    (h : ∀ (T : Addr) (kV doc pm : Value) (an : Option Addr) (cdv ct : Value) (us its : List Value), us.length = ps.length → its.length = d.dfl.length →
      ∃ k, bindArgs (PySem.W.fnOf d.x d.qual (defArgs d.st) (defBody d.st) (defScope d.st) (.ref T) kV doc pm an cdv ct) ⟨us, []⟩ = seqItems? (.ref T) >>= k ∧ k (some its.toArray) = pure (ps.zip us))
    (h0 : ∀ (T : Addr) (kV doc pm : Value) (an : Option Addr) (cdv ct : Value) (us its : List Value), us.length + d.dfl.length = ps.length → its.length = d.dfl.length →
      ∃ k, bindArgs (PySem.W.fnOf d.x d.qual (defArgs d.st) (defBody d.st) (defScope d.st) (.ref T) kV doc pm an cdv ct) ⟨us, []⟩ = seqItems? (.ref T) >>= k ∧ k (some its.toArray) = pure (ps.zip (us ++ its)))
structure DefOK (P : Prg) (f : FnI) (d : Df) : Prop where
  scp : FnScope f.N f.ps (defScope d.st)
  chk : chkF P f d.toD = true
  bnd : BndD f.ps d
  dfl : dvsB f.dfl d.dfl = true
  kw : f.kw = true → d.dfl = [] ∧ ∀ (kV doc pm : Value) (an : Option Addr) (cdv ct : Value) (us : List Value), us.length = f.ps.length → bindArgs (PySem.W.fnOf d.x d.qual (defArgs d.st) (defBody d.st) (defScope d.st) .none kV doc pm an cdv ct) ⟨[], f.ps.zip us⟩ = pure (f.ps.zip us)
section
variable {P : Prg} {dfs : List Df} {K : PySem.W.Frag}
theorem bnd_of {f : FnI} {d : Df} {fa : Addr} {fd : FuncData} (h : DefOK P f d) (F : FunD K d.x d.qual (defArgs d.st) (defBody d.st) (defScope d.st) (d.toA.dvs K) (d.toA.kws K) fa fd) : Binds K fd f.ps [] := by
  cases h.bnd with
  | plain e q =>
    have z : d.toA.dvs K = [] := by show d.dfl.map _ = []; rw [e]; rfl
    rw [z] at F
    exact F.bindsN q
  | dfl e hl q q0 =>
    have z : (d.toA.dvs K).length = d.dfl.length := by show (d.dfl.map _).length = _; rw [List.length_map]
    have hne : d.toA.dvs K ≠ [] := fun y => e (List.length_eq_zero_iff.mp (by rw [← z, y]; rfl))
    obtain ⟨ds, h1, h2⟩ := FunD.binds1 (ps := f.ps) F f.ps.length (d.toA.dvs K).length hne (by omega) (fun T kV doc pm an cdv ct us its e1 e2 => by
      obtain ⟨k, k1, k2⟩ := q T kV doc pm an cdv ct us its e1 (by rw [e2, z])
      refine ⟨k, k1, ?_⟩
      rw [k2, ← e2, List.drop_length, List.append_nil])
    rw [List.drop_length] at h1
    cases h1
    exact h2
theorem bnF_of {A : Ad} {f : FnI} {d : Df} {fa : Addr} {fd : FuncData} (h : DefOK P f d) (hne : f.dfl ≠ []) (F : FunD K d.x d.qual (defArgs d.st) (defBody d.st) (defScope d.st) (d.toA.dvs K) (d.toA.kws K) fa fd) : ∃ us vs, (∀ w, RDs A K w f.dfl vs) ∧ Vals vs us ∧ Binds K fd f.ps us := by
  have hd := h.dfl
  cases h.bnd with
  | plain e q =>
    rw [e] at hd
    cases hf : f.dfl with
    | nil => exact absurd hf hne
    | cons a r => rw [hf] at hd; cases hd
  | dfl e hl q q0 =>
    have z : (d.toA.dvs K).length = d.dfl.length := by show (d.dfl.map _).length = _; rw [List.length_map]
    have hne' : d.toA.dvs K ≠ [] := fun y => e (List.length_eq_zero_iff.mp (by rw [← z, y]; rfl))
    obtain ⟨ds, h1, h2⟩ := FunD.binds1 (ps := f.ps) F (f.ps.length - d.dfl.length) 0 hne' (by omega) (fun T kV doc pm an cdv ct us its e1 e2 => by
      obtain ⟨k, k1, k2⟩ := q0 T kV doc pm an cdv ct us its (by omega) (by rw [e2, z])
      exact ⟨k, k1, by rw [k2, List.drop_zero]⟩)
    rw [List.drop_zero] at h1
    exact ⟨ds, d.toA.dvs K, fun w => dvs_ok hd, h1, h2⟩
theorem bindsK {x qual : PySem.Str} {params : Arguments} {body : List Stmt} {scope : Scope} {kws : List (PySem.Str × V)} {f : Addr} {fd : FuncData} {ps : List PySem.Str} (F : FunD K x qual params body scope [] kws f fd)
    (q : ∀ (kV doc pm : Value) (an : Option Addr) (cdv ct : Value) (us : List Value), us.length = ps.length → bindArgs (PySem.W.fnOf x qual params body scope .none kV doc pm an cdv ct) ⟨[], ps.zip us⟩ = pure (ps.zip us)) (s : Shared) (us : List Value) (hl : us.length = ps.length) : BindsTo s fd ⟨[], ps.zip us⟩ (ps.zip us) := by
  obtain ⟨oc, od, dV, kV, doc, pm, an, cdv, ct, osl, rfl, _, _, isD, _⟩ := F.ex
  rcases isD with ⟨_, rfl⟩ | ⟨ne, _⟩
  · exact .of_eq (q kV doc pm an cdv ct us hl)
  · exact (ne rfl).elim
theorem facts_of {h : Heap} {mg : PySem.Str → Option Value} (d0 : Df) (X : K.In h) (G : h.Ns mainGlobals mg) (hp : chkP P (dfs.map Df.p) = true) (hd : All2 (DefOK P) P.fns dfs) (c : SaysZ (exB P (dfs.map Df.p)) (dfs.map Df.toA) K) (ne : P.fns ≠ []) :
    ∃ fd : Nat → FuncData, Facts P (adOf P (dfs.map Df.p) K) K mg fd (fun j => (dfs.getD j d0).toD) ∧ ∀ j f, P.fns[j]? = some f → ∃ d, dfs[j]? = some d ∧ FunD K d.x d.qual (defArgs d.st) (defBody d.st) (defScope d.st) (d.toA.dvs K) (d.toA.kws K) ((adOf P (dfs.map Df.p) K).fn j) (fd j) := by
  have one : ∀ j f, P.fns[j]? = some f → ∃ d, dfs[j]? = some d ∧ DefOK P f d ∧ ∃ fd, FunD K d.x d.qual (defArgs d.st) (defBody d.st) (defScope d.st) (d.toA.dvs K) (d.toA.kws K) ((adOf P (dfs.map Df.p) K).fn j) fd := fun j f hf => by
    obtain ⟨d, h1, h2⟩ := hd.get hf
    obtain ⟨fd, F⟩ := c.def_ (i := j) (d := d.toA) (by rw [List.getElem?_map, h1]; rfl)
    refine ⟨d, h1, h2, fd, ?_⟩
    have e : (adOf P (dfs.map Df.p) K).fn j = d.toA.at_ K := by
      show (match (dfs.map Df.p)[j]? with
        | some p => p.at_ K
        | none => 0) = d.p.at_ K
      rw [List.getElem?_map, h1]
      rfl
    rw [e]
    exact F
  obtain ⟨fd0⟩ : Nonempty FuncData := by
    cases hf : P.fns with
    | nil => exact absurd hf ne
    | cons f r =>
      obtain ⟨d, _, _, fd, _⟩ := one 0 f (by rw [hf]; rfl)
      exact ⟨fd⟩
  have ch : ∀ j, ∃ fd, ∀ f, P.fns[j]? = some f → ∃ d, dfs[j]? = some d ∧ DefOK P f d ∧ FunD K d.x d.qual (defArgs d.st) (defBody d.st) (defScope d.st) (d.toA.dvs K) (d.toA.kws K) ((adOf P (dfs.map Df.p) K).fn j) fd := fun j => by
    cases hf : P.fns[j]? with
    | none => exact ⟨fd0, fun f z => by cases z⟩
    | some f =>
      obtain ⟨d, h1, h2, fd, F⟩ := one j f hf
      exact ⟨fd, fun f' z => by cases z; exact ⟨d, h1, h2, F⟩⟩
  have hfd := fun j => Classical.choose_spec (ch j)
  have gd : ∀ j d, dfs[j]? = some d → dfs.getD j d0 = d := fun j d q => by rw [List.getD_eq_getElem?_getD, q]; rfl
  refine ⟨fun j => Classical.choose (ch j), { gok := gok_of X G hp c.more, fun_ := fun j f hf => ?_, scp := fun j f hf => ?_, chk := fun j f hf => ?_, bnd := fun j f hf => ?_, bnk := fun j f hf hk s us hl => ?_, bnF := fun j f ds hf he hfl hlen => ?_ }, fun j f hf => ?_⟩
  · obtain ⟨d, h1, h2, F⟩ := hfd j f hf
    rw [gd j d h1]
    exact ⟨_, _, F⟩
  · obtain ⟨d, h1, h2, F⟩ := hfd j f hf
    rw [gd j d h1]
    exact h2.scp
  · obtain ⟨d, h1, h2, F⟩ := hfd j f hf
    rw [gd j d h1]
    exact h2.chk
  · obtain ⟨d, h1, h2, F⟩ := hfd j f hf
    exact bnd_of h2 F
  · obtain ⟨d, h1, h2, F⟩ := hfd j f hf
    obtain ⟨e, q⟩ := h2.kw hk
    have z : d.toA.dvs K = [] := by show d.dfl.map _ = []; rw [e]; rfl
    rw [z] at F
    exact bindsK F q s us hl
  · obtain ⟨d, h1, h2, F⟩ := hfd j f hf
    have e := fEqs_eq he
    subst e
    by_cases hne : f.dfl = []
    · rw [hne]
      exact ⟨[], [], fun _ => .nil, .nil, bnd_of h2 F⟩
    · exact bnF_of h2 hne F
  · obtain ⟨d, h1, h2, F⟩ := hfd j f hf
    exact ⟨d, h1, F⟩
theorem law_fin {prog : Program} {x : PySem.Str} {fl : FnI} {dl : Df} {jl wf fuel n : Nat} {M : List Addr} (hp : chkP P (dfs.map Df.p) = true) (hd : All2 (DefOK P) P.fns dfs) (hl : P.fns[jl]? = some fl) (hdl : dfs[jl]? = some dl) (hini : fl.init = none) (hfr : fl.fresh = false) (hps : fl.ps = [x]) (hgl : fl.glob = some "law") (hdf : dl.dfl = [])
    (hrun : ∀ ns : List Int, ns.length ≤ n → ∃ st', run P.tab P.fn wf fuel jl [.lst (ns.map .int)] [] = .ok (.bl true) st') :
    ∀ (w : World) (mg : PySem.Str → Option Value) (fa : Addr) (h : Heap), (hookZ M (exB P (dfs.map Df.p)) (dfs.map Df.toA)).says w h → h.Ns mainGlobals mg → mg "law" = some (.ref fa) →
      ∃ (K : PySem.W.Frag) (fd : FuncData) (sp : Sp), K.In h ∧ (∀ (s : Shared) (u : Value), BindsTo s fd ⟨[u], []⟩ [(x, u)]) ∧
        (∀ (H : Hp) (a : Addr) (ns : List Int), ns.length ≤ n → Only H → SqL K H a (ns.map V.int) → sp [.ref a] H (fun v _ => v = .bl true) fun _ _ _ => False) ∧
        ∀ base : Heap, K.In base → base.Ns mainGlobals mg → FnG prog w K mg base CX0 (4 * fuel) fa fd [x] sp := by
  rintro w mg fa h ⟨K, X, c⟩ G hmg
  obtain ⟨fd, F, hF⟩ := facts_of dl X G hp hd c (fun z => by rw [z] at hl; cases hl)
  have hfa := F.gok.gfn jl fl "law" hl hgl
  rw [hmg] at hfa
  cases hfa
  refine ⟨K, fd jl, spF (adOf P (dfs.map Df.p) K) K (run P.tab P.fn wf fuel) jl fl, X, fun s u => ?_, fun H a ns hlen _ hS => ?_, fun base _ _ => ?_⟩
  · obtain ⟨d, h1, FD⟩ := hF jl fl hl
    rw [hdl] at h1
    cases h1
    obtain ⟨d', h1', h2'⟩ := hd.get hl
    rw [hdl] at h1'
    cases h1'
    cases h2'.bnd with
    | plain e q =>
      have z : dl.toA.dvs K = [] := by show dl.dfl.map _ = []; rw [e]; rfl
      rw [z] at FD
      have b := FunD.bindsA (ps := fl.ps) FD q s [u] (by rw [hps]; rfl)
      rw [hps] at b
      exact b
    | dfl e _ _ _ => exact absurd hdf e
  · obtain ⟨st', hr⟩ := hrun ns hlen
    unfold spF
    rw [hini]
    refine ⟨by rw [hps]; rfl, ⟨fun b => if b = a then H b else none, fun _ => 0, 0⟩, [.lst (ns.map .int)], [], .bl true, st', .cons (.lst (xs := ns.map .int) (vs := ns.map V.int) ?_ ?_) .nil, ⟨fun b o q => ?_, rfl, fun k c q => by simp at q, fun i j hi => absurd hi (Nat.not_lt_zero _), fun k hk => absurd hk (Nat.not_lt_zero _)⟩, hr, fun v H' w' _ _ q => ?_⟩
    · rcases hS with (q | ⟨o, q⟩) | q
      · exact .inl (.inl (by show (if a = a then H a else none) = _; rw [if_pos rfl]; exact q))
      · exact .inl (.inr ⟨o, by show (if a = a then H a else none) = _; rw [if_pos rfl]; exact q⟩)
      · exact .inr q
    · clear hS hlen hr
      induction ns with
      | nil => exact .nil
      | cons i r ih => exact .cons (.int i) ih
    · have q : (if b = a then H b else none) = some o := q
      split at q
      · exact q
      · cases q
    · rw [if_neg (by rw [hfr]; exact Bool.false_ne_true)] at q
      cases q
      rfl
  · have z := fns_ok (prog := prog) (wd := w) (base := base) (wf := wf) F fuel
    have z := z.2 jl fl hl
    rw [hps] at z
    exact z
end
end Eng

/-! Plain lemmas about the interpreter. -/
namespace Eng
theorem ss_nx {T : Tab} {call : Nat → List D → Store → Res D} {wf : Nat} {s : S} {r : Ss} {ρ ρ1 : Env} {st st1 : Store} (h : evS T call wf s ρ st = .nx ρ1 st1) : evSs T call wf (.cons s r) ρ st = evSs T call wf r ρ1 st1 := by
  simp only [evSs, h]
theorem ss_rt {T : Tab} {call : Nat → List D → Store → Res D} {wf : Nat} {s : S} {r : Ss} {ρ : Env} {d : D} {st st1 : Store} (h : evS T call wf s ρ st = .rt d st1) : evSs T call wf (.cons s r) ρ st = .rt d st1 := by
  simp only [evSs, h]
theorem ss_for {T : Tab} {call : Nat → List D → Store → Res D} {wf : Nat} {tg : List Nat} {it : It} {b r : Ss} {ρ ρ1 : Env} {st st1 st2 : Store} {xs : List D} (hit : evIt T call it ρ st = .ok xs st1) (h : forR tg (evSs T call wf b) xs ρ st1 = .nx ρ1 st2) : evSs T call wf (.cons (.for tg it b) r) ρ st = evSs T call wf r ρ1 st2 := by
  refine ss_nx ?_
  rw [evS, hit]
  exact h
theorem forR_inv {tg : List Nat} {body : Env → Store → Fl} (P : Nat → Env → Store → Prop) : ∀ (xs : List D) (i : Nat) (ρ : Env) (st : Store), P i ρ st → (∀ (j : Nat) (d : D), xs[j]? = some d → ∀ (ρ : Env) (st : Store), P (i + j) ρ st → ∃ ρ1 ρ2 st2, bindT tg d ρ = some ρ1 ∧ body ρ1 st = .nx ρ2 st2 ∧ P (i + j + 1) ρ2 st2) → ∃ ρ' st', forR tg body xs ρ st = .nx ρ' st' ∧ P (i + xs.length) ρ' st'
  | [], i, ρ, st, h, _ => ⟨ρ, st, rfl, h⟩
  | d :: r, i, ρ, st, h, H => by
    obtain ⟨ρ1, ρ2, st2, e1, e2, h2⟩ := H 0 d rfl ρ st h
    obtain ⟨ρ', st', e3, h3⟩ := forR_inv P r (i + 1) ρ2 st2 h2 (fun j d' hj ρ st hp => by
      have := H (j + 1) d' hj ρ st (by rw [show i + (j + 1) = i + 1 + j by omega]; exact hp)
      rw [show i + (j + 1) + 1 = i + 1 + j + 1 by omega] at this
      exact this)
    refine ⟨ρ', st', ?_, by rw [List.length_cons, show i + (r.length + 1) = i + 1 + r.length by omega]; exact h3⟩
    simp only [forR, e1, e2, e3]
theorem mapR_is {f : D → Store → Res (Option D)} {g : D → Option D} {st : Store} : ∀ (xs : List D), (∀ d ∈ xs, f d st = .ok (g d) st) → mapR f xs st = .ok (xs.filterMap g) st
  | [], _ => rfl
  | d :: r, H => by
    simp only [mapR, H d (List.mem_cons_self ..), Res.bind_ok, mapR_is r (fun x hx => H x (List.mem_cons_of_mem _ hx))]
    cases e : g d <;> simp [List.filterMap_cons, e]
theorem lc_is {T : Tab} {call : Nat → List D → Store → Res D} {elt : C} {tg : List Nat} {it : It} {ifs : Cs} {ρ : Env} {st st1 : Store} {xs : List D} {g : D → Option D} (hit : evIt T call it ρ st = .ok xs st1) (hl : xs.length ≤ 1000000)
    (H : ∀ d ∈ xs, ∃ ρ1, bindT tg d (wipeE ρ tg) = some ρ1 ∧ (match g d with
      | some y => evIfs T call ifs ρ1 st1 = .ok true st1 ∧ ev T call elt ρ1 st1 = .ok y st1
      | none => evIfs T call ifs ρ1 st1 = .ok false st1)) : ev T call (.lc elt tg it ifs) ρ st = .ok (.lst (xs.filterMap g)) st1 := by
  rw [ev, hit]
  simp only [Res.bind_ok]
  rw [if_neg (by omega), mapR_is (g := g)]
  · rfl
  · intro d hd
    obtain ⟨ρ1, e1, e2⟩ := H d hd
    rw [e1]
    dsimp only
    cases hg : g d with
    | some y =>
      rw [hg] at e2
      rw [e2.1]
      simp only [Res.bind_ok, if_true, e2.2]
    | none =>
      rw [hg] at e2
      dsimp only at e2
      rw [e2]
      rfl
theorem it_rng1 {T : Tab} {call : Nat → List D → Store → Res D} {a : C} {ρ : Env} {st st1 : Store} {i : Int} (n : Nat) (h : ev T call a ρ st = .ok (.int i) st1) (e : i.toNat = n) (h1 : -4611686018427387904 ≤ i) (h2 : i < 4611686018427387904) : evIt T call (.rng1 a) ρ st = .ok (rngD 0 n) st1 := by
  subst e
  rw [evIt, h, Res.bind_ok]
  dsimp only
  rw [decide_eq_true (show -(2 ^ 62) ≤ i from h1), decide_eq_true (show i < 2 ^ 62 from h2)]
  rfl
theorem it_rng2 {T : Tab} {call : Nat → List D → Store → Res D} {a b : C} {ρ : Env} {st st1 st2 : Store} {i j : Int} (n : Nat) (h : ev T call a ρ st = .ok (.int i) st1) (h' : ev T call b ρ st1 = .ok (.int j) st2) (e : (j - i).toNat = n) (h1 : -4611686018427387904 ≤ i) (h2 : i < 4611686018427387904) (h3 : -4611686018427387904 ≤ j) (h4 : j < 4611686018427387904) : evIt T call (.rng2 a b) ρ st = .ok (rngD i n) st2 := by
  subst e
  rw [evIt, h, Res.bind_ok, h', Res.bind_ok]
  dsimp only
  rw [decide_eq_true (show -(2 ^ 62) ≤ i from h1), decide_eq_true (show i < 2 ^ 62 from h2), decide_eq_true (show -(2 ^ 62) ≤ j from h3), decide_eq_true (show j < 2 ^ 62 from h4)]
  rfl
theorem mem_rng {lo : Int} {n : Nat} {d : D} (h : d ∈ rngD lo n) : ∃ j : Nat, j < n ∧ d = .int (lo + (j : Int)) := by
  unfold rngD at h
  obtain ⟨j, hj, rfl⟩ := List.mem_map.mp h
  exact ⟨j, List.mem_range.mp hj, rfl⟩
theorem rng_at {lo : Int} {n j : Nat} {d : D} (h : (rngD lo n)[j]? = some d) : j < n ∧ d = .int (lo + (j : Int)) := by
  unfold rngD at h
  have hj : j < n := by
    have := (List.getElem?_eq_some_iff.mp h).1
    simpa using this
  rw [List.getElem?_map, List.getElem?_range hj] at h
  exact ⟨hj, (Option.some.inj h).symm⟩
theorem rngD_len (lo : Int) (n : Nat) : (rngD lo n).length = n := by simp [rngD]
/-- a comprehension whose parts keep J of the store -/
theorem mapR_inv {f : D → Store → Res (Option D)} {g : D → Option D} {J : Store → Prop} : ∀ (xs : List D) (st : Store), J st → (∀ d ∈ xs, ∀ st, J st → ∃ st', f d st = .ok (g d) st' ∧ J st') → ∃ st', mapR f xs st = .ok (xs.filterMap g) st' ∧ J st'
  | [], st, h, _ => ⟨st, rfl, h⟩
  | d :: r, st, h, H => by
    obtain ⟨st1, e1, h1⟩ := H d (List.mem_cons_self ..) st h
    obtain ⟨st2, e2, h2⟩ := mapR_inv r st1 h1 fun x hx => H x (List.mem_cons_of_mem _ hx)
    refine ⟨st2, ?_, h2⟩
    simp only [mapR, e1, Res.bind_ok, e2]
    cases e : g d <;> simp [List.filterMap_cons, e]
theorem lc_invJ {T : Tab} {call : Nat → List D → Store → Res D} {elt : C} {tg : List Nat} {it : It} {ifs : Cs} {ρ : Env} {st st1 : Store} {xs : List D} {g : D → Option D} {J : Store → Prop} (hit : evIt T call it ρ st = .ok xs st1) (hl : xs.length ≤ 1000000) (hJ : J st1)
    (H : ∀ d ∈ xs, ∀ st, J st → ∃ ρ1, bindT tg d (wipeE ρ tg) = some ρ1 ∧ (match g d with
      | some y => ∃ st2 st3, evIfs T call ifs ρ1 st = .ok true st2 ∧ ev T call elt ρ1 st2 = .ok y st3 ∧ J st3
      | none => ∃ st2, evIfs T call ifs ρ1 st = .ok false st2 ∧ J st2)) : ∃ st2, ev T call (.lc elt tg it ifs) ρ st = .ok (.lst (xs.filterMap g)) st2 ∧ J st2 := by
  have key : ∀ (xs : List D) (st : Store), J st → (∀ d ∈ xs, ∀ st, J st → ∃ ρ1, bindT tg d (wipeE ρ tg) = some ρ1 ∧ (match g d with
      | some y => ∃ st2 st3, evIfs T call ifs ρ1 st = .ok true st2 ∧ ev T call elt ρ1 st2 = .ok y st3 ∧ J st3
      | none => ∃ st2, evIfs T call ifs ρ1 st = .ok false st2 ∧ J st2)) → ∃ st2, mapR (fun d st2 => match bindT tg d (wipeE ρ tg) with
      | some ρ1 => (evIfs T call ifs ρ1 st2).bind fun k st3 => if k then (ev T call elt ρ1 st3).bind fun y st4 => .ok (some y) st4 else .ok none st3
      | none => .bad) xs st = .ok (xs.filterMap g) st2 ∧ J st2 := by
    intro xs
    induction xs with
    | nil => exact fun st h _ => ⟨st, rfl, h⟩
    | cons d r ih =>
      intro st h H
      obtain ⟨ρ1, e1, e2⟩ := H d (List.mem_cons_self ..) st h
      cases hg : g d with
      | some y =>
        rw [hg] at e2
        obtain ⟨st2, st3, q1, q2, q3⟩ := e2
        obtain ⟨st4, e3, h3⟩ := ih st3 q3 fun x hx => H x (List.mem_cons_of_mem _ hx)
        refine ⟨st4, ?_, h3⟩
        simp only [mapR, e1, q1, Res.bind_ok, if_true, q2, e3, List.filterMap_cons, hg]
      | none =>
        rw [hg] at e2
        obtain ⟨st2, q1, q2⟩ := e2
        obtain ⟨st4, e3, h3⟩ := ih st2 q2 fun x hx => H x (List.mem_cons_of_mem _ hx)
        refine ⟨st4, ?_, h3⟩
        simp only [mapR, e1, q1, Res.bind_ok, if_false, Bool.false_eq_true, e3, List.filterMap_cons, hg]
  obtain ⟨st2, e, h⟩ := key xs st1 hJ H
  refine ⟨st2, ?_, h⟩
  rw [ev, hit]
  simp only [Res.bind_ok]
  rw [if_neg (by omega)]
  exact congrArg (fun r => Res.bind r fun ys st2 => Res.ok (D.lst ys) st2) e
/-- a comprehension over things a, as values f a -/
theorem lc_mapJ {α : Type} {T : Tab} {call : Nat → List D → Store → Res D} {elt : C} {tg : List Nat} {it : It} {ifs : Cs} {ρ : Env} {st st1 : Store} (f : α → D) (g : α → Option D) (as : List α) {J : Store → Prop} (hit : evIt T call it ρ st = .ok (as.map f) st1) (hl : as.length ≤ 1000000) (hJ : J st1)
    (H : ∀ a ∈ as, ∀ st, J st → ∃ ρ1, bindT tg (f a) (wipeE ρ tg) = some ρ1 ∧ (match g a with
      | some y => ∃ st2 st3, evIfs T call ifs ρ1 st = .ok true st2 ∧ ev T call elt ρ1 st2 = .ok y st3 ∧ J st3
      | none => ∃ st2, evIfs T call ifs ρ1 st = .ok false st2 ∧ J st2)) : ∃ st2, ev T call (.lc elt tg it ifs) ρ st = .ok (.lst (as.filterMap g)) st2 ∧ J st2 := by
  have key : ∀ (as : List α) (st : Store), J st → (∀ a ∈ as, ∀ st, J st → ∃ ρ1, bindT tg (f a) (wipeE ρ tg) = some ρ1 ∧ (match g a with
      | some y => ∃ st2 st3, evIfs T call ifs ρ1 st = .ok true st2 ∧ ev T call elt ρ1 st2 = .ok y st3 ∧ J st3
      | none => ∃ st2, evIfs T call ifs ρ1 st = .ok false st2 ∧ J st2)) → ∃ st2, mapR (fun d st2 => match bindT tg d (wipeE ρ tg) with
      | some ρ1 => (evIfs T call ifs ρ1 st2).bind fun k st3 => if k then (ev T call elt ρ1 st3).bind fun y st4 => .ok (some y) st4 else .ok none st3
      | none => .bad) (as.map f) st = .ok (as.filterMap g) st2 ∧ J st2 := by
    intro as
    induction as with
    | nil => exact fun st h _ => ⟨st, rfl, h⟩
    | cons d r ih =>
      intro st h H
      obtain ⟨ρ1, e1, e2⟩ := H d (List.mem_cons_self ..) st h
      cases hg : g d with
      | some y =>
        rw [hg] at e2
        obtain ⟨st2, st3, q1, q2, q3⟩ := e2
        obtain ⟨st4, e3, h3⟩ := ih st3 q3 fun x hx => H x (List.mem_cons_of_mem _ hx)
        refine ⟨st4, ?_, h3⟩
        simp only [List.map_cons, mapR, e1, q1, Res.bind_ok, if_true, q2, e3, List.filterMap_cons, hg]
      | none =>
        rw [hg] at e2
        obtain ⟨st2, q1, q2⟩ := e2
        obtain ⟨st4, e3, h3⟩ := ih st2 q2 fun x hx => H x (List.mem_cons_of_mem _ hx)
        refine ⟨st4, ?_, h3⟩
        simp only [List.map_cons, mapR, e1, q1, Res.bind_ok, if_false, Bool.false_eq_true, e3, List.filterMap_cons, hg]
  obtain ⟨st2, e, h⟩ := key as st1 hJ H
  refine ⟨st2, ?_, h⟩
  rw [ev, hit]
  simp only [Res.bind_ok]
  rw [if_neg (by rw [List.length_map]; omega)]
  exact congrArg (fun r => Res.bind r fun ys st2 => Res.ok (D.lst ys) st2) e
theorem lc_map1 {α : Type} {T : Tab} {call : Nat → List D → Store → Res D} {elt : C} {tg : List Nat} {it : It} {ρ : Env} {st st1 : Store} (f : α → D) (g : α → D) (as : List α) (hit : evIt T call it ρ st = .ok (as.map f) st1) (hl : as.length ≤ 1000000)
    (H : ∀ a ∈ as, ∃ ρ1, bindT tg (f a) (wipeE ρ tg) = some ρ1 ∧ ev T call elt ρ1 st1 = .ok (g a) st1) : ev T call (.lc elt tg it .nil) ρ st = .ok (.lst (as.map g)) st1 := by
  obtain ⟨st2, e, h⟩ := lc_mapJ (ifs := .nil) (elt := elt) (tg := tg) (J := (· = st1)) f (fun a => some (g a)) as hit hl rfl fun a ha st hst => by
    subst hst
    obtain ⟨ρ1, e1, e2⟩ := H a ha
    exact ⟨ρ1, e1, st, st, by rw [evIfs], e2, rfl⟩
  rw [List.filterMap_eq_map'] at e
  rw [e, h]
theorem lc_flt {α : Type} {T : Tab} {call : Nat → List D → Store → Res D} {elt : C} {tg : List Nat} {it : It} {ifs : Cs} {ρ : Env} {st st1 : Store} (f : α → D) (p : α → Bool) (g : α → D) (as : List α) (hit : evIt T call it ρ st = .ok (as.map f) st1) (hl : as.length ≤ 1000000)
    (H : ∀ a ∈ as, ∃ ρ1, bindT tg (f a) (wipeE ρ tg) = some ρ1 ∧ evIfs T call ifs ρ1 st1 = .ok (p a) st1 ∧ (p a = true → ev T call elt ρ1 st1 = .ok (g a) st1)) : ev T call (.lc elt tg it ifs) ρ st = .ok (.lst ((as.filter p).map g)) st1 := by
  obtain ⟨st2, e, h⟩ := lc_mapJ (ifs := ifs) (elt := elt) (tg := tg) (J := (· = st1)) f (fun a => if p a then some (g a) else none) as hit hl rfl fun a ha st hst => by
    subst hst
    obtain ⟨ρ1, e1, e2, e3⟩ := H a ha
    refine ⟨ρ1, e1, ?_⟩
    by_cases hp : p a = true
    · simp only [hp, if_true]
      exact ⟨st, st, by rw [e2, hp], e3 hp, rfl⟩
    · have hf : p a = false := by simpa using hp
      simp only [hf, Bool.false_eq_true, if_false]
      exact ⟨st, by rw [e2, hf], rfl⟩
  rw [e, h]
  congr 2
  clear H e h hit hl
  induction as with
  | nil => rfl
  | cons a r ih => cases hp : p a <;> simp [List.filterMap_cons, List.filter_cons, hp, ih]
/-- one list's items and another's, one by one -/
inductive L2R {α β : Type} (R : α → β → Prop) : List α → List β → Prop where
  | nil : L2R R [] []
  | cons {a : α} {b : β} {as : List α} {bs : List β} (h : R a b) (r : L2R R as bs) : L2R R (a :: as) (b :: bs)
theorem L2R.length {α β : Type} {R : α → β → Prop} : ∀ {as : List α} {bs : List β}, L2R R as bs → as.length = bs.length
  | _, _, .nil => rfl
  | _, _, .cons _ r => congrArg Nat.succ r.length
/-- a comprehension without tests whose elements are known up to a relation; J counts the turns -/
theorem lc_rel {T : Tab} {call : Nat → List D → Store → Res D} {elt : C} {tg : List Nat} {it : It} {ρ : Env} {st st1 : Store} {xs : List D} {R : D → D → Prop} {J : Nat → Store → Prop} (hit : evIt T call it ρ st = .ok xs st1) (hl : xs.length ≤ 1000000) {i : Nat} (hJ : J i st1)
    (H : ∀ d ∈ xs, ∀ i st, J i st → ∃ ρ1 y st2, bindT tg d (wipeE ρ tg) = some ρ1 ∧ ev T call elt ρ1 st = .ok y st2 ∧ R d y ∧ J (i + 1) st2) : ∃ ys st2, ev T call (.lc elt tg it .nil) ρ st = .ok (.lst ys) st2 ∧ L2R R xs ys ∧ J (i + xs.length) st2 := by
  have key : ∀ (xs : List D) (i : Nat) (st : Store), J i st → (∀ d ∈ xs, ∀ i st, J i st → ∃ ρ1 y st2, bindT tg d (wipeE ρ tg) = some ρ1 ∧ ev T call elt ρ1 st = .ok y st2 ∧ R d y ∧ J (i + 1) st2) → ∃ ys st2, mapR (fun d st2 => match bindT tg d (wipeE ρ tg) with
      | some ρ1 => (evIfs T call .nil ρ1 st2).bind fun k st3 => if k then (ev T call elt ρ1 st3).bind fun y st4 => .ok (some y) st4 else .ok none st3
      | none => .bad) xs st = .ok ys st2 ∧ L2R R xs ys ∧ J (i + xs.length) st2 := by
    intro xs
    induction xs with
    | nil => exact fun i st h _ => ⟨[], st, rfl, .nil, h⟩
    | cons d r ih =>
      intro i st h H
      obtain ⟨ρ1, y, st2, e1, e2, q, h2⟩ := H d (List.mem_cons_self ..) i st h
      obtain ⟨ys, st3, e3, q3, h3⟩ := ih (i + 1) st2 h2 fun x hx => H x (List.mem_cons_of_mem _ hx)
      refine ⟨y :: ys, st3, ?_, .cons q q3, by rw [List.length_cons, show i + (r.length + 1) = i + 1 + r.length by omega]; exact h3⟩
      have hn : evIfs T call .nil ρ1 st = .ok true st := by rw [evIfs]
      simp only [mapR, e1, hn, Res.bind_ok, if_true, e2, e3]
  obtain ⟨ys, st2, e, q, h⟩ := key xs i st1 hJ H
  refine ⟨ys, st2, ?_, q, h⟩
  rw [ev, hit]
  simp only [Res.bind_ok]
  rw [if_neg (by omega)]
  exact congrArg (fun r => Res.bind r fun ys st2 => Res.ok (D.lst ys) st2) e
/-- the same, with the turn's number at hand -/
theorem lc_cnt {α : Type} {T : Tab} {call : Nat → List D → Store → Res D} {elt : C} {tg : List Nat} {it : It} {ρ : Env} {st st1 : Store} (f : α → D) (as : List α) {R : α → D → Prop} {J : Nat → Store → Prop} (hit : evIt T call it ρ st = .ok (as.map f) st1) (hl : as.length ≤ 1000000) (hJ : J 0 st1)
    (H : ∀ j a, as[j]? = some a → ∀ st, J j st → ∃ ρ1 y st2, bindT tg (f a) (wipeE ρ tg) = some ρ1 ∧ ev T call elt ρ1 st = .ok y st2 ∧ R a y ∧ J (j + 1) st2) : ∃ ys st2, ev T call (.lc elt tg it .nil) ρ st = .ok (.lst ys) st2 ∧ L2R R as ys ∧ J as.length st2 := by
  have key : ∀ (as : List α) (i : Nat) (st : Store), J i st → (∀ j a, as[j]? = some a → ∀ st, J (i + j) st → ∃ ρ1 y st2, bindT tg (f a) (wipeE ρ tg) = some ρ1 ∧ ev T call elt ρ1 st = .ok y st2 ∧ R a y ∧ J (i + j + 1) st2) → ∃ ys st2, mapR (fun d st2 => match bindT tg d (wipeE ρ tg) with
      | some ρ1 => (evIfs T call .nil ρ1 st2).bind fun k st3 => if k then (ev T call elt ρ1 st3).bind fun y st4 => .ok (some y) st4 else .ok none st3
      | none => .bad) (as.map f) st = .ok ys st2 ∧ L2R R as ys ∧ J (i + as.length) st2 := by
    intro as
    induction as with
    | nil => exact fun i st h _ => ⟨[], st, rfl, .nil, h⟩
    | cons d r ih =>
      intro i st h H
      obtain ⟨ρ1, y, st2, e1, e2, q, h2⟩ := H 0 d rfl st h
      obtain ⟨ys, st3, e3, q3, h3⟩ := ih (i + 1) st2 h2 fun j a hj st hst => by
        have := H (j + 1) a hj st (by rw [show i + (j + 1) = i + 1 + j by omega]; exact hst)
        rw [show i + (j + 1) + 1 = i + 1 + j + 1 by omega] at this
        exact this
      refine ⟨y :: ys, st3, ?_, .cons q q3, by rw [List.length_cons, show i + (r.length + 1) = i + 1 + r.length by omega]; exact h3⟩
      have hn : evIfs T call .nil ρ1 st = .ok true st := by rw [evIfs]
      simp only [List.map_cons, mapR, e1, hn, Res.bind_ok, if_true, e2, e3]
  obtain ⟨ys, st2, e, q, h⟩ := key as 0 st1 hJ (fun j a hj st hst => by
    rw [Nat.zero_add] at hst ⊢
    exact H j a hj st hst)
  rw [Nat.zero_add] at h
  refine ⟨ys, st2, ?_, q, h⟩
  rw [ev, hit]
  simp only [Res.bind_ok]
  rw [if_neg (by rw [List.length_map]; omega)]
  exact congrArg (fun r => Res.bind r fun ys st2 => Res.ok (D.lst ys) st2) e
theorem L2R.pull {α β : Type} {P : α → β → Prop} {f : β → D} : ∀ {as : List α} {ys : List D}, L2R (fun a y => ∃ b, y = f b ∧ P a b) as ys → ∃ bs, ys = bs.map f ∧ L2R P as bs
  | _, _, .nil => ⟨[], rfl, .nil⟩
  | _, _, .cons ⟨b, e, p⟩ r => by
    obtain ⟨bs, e2, p2⟩ := L2R.pull r
    exact ⟨b :: bs, by rw [e, e2]; rfl, .cons p p2⟩
theorem L2R.all {α β : Type} {R : α → β → Prop} : ∀ {as : List α} {bs : List β}, L2R R as bs → ∀ b ∈ bs, ∃ a ∈ as, R a b
  | _, _, .nil, b, h => by cases h
  | _, _, .cons p r, b, h => by
    rcases List.mem_cons.mp h with rfl | h
    · exact ⟨_, List.mem_cons_self .., p⟩
    · obtain ⟨a, ha, q⟩ := r.all b h
      exact ⟨a, List.mem_cons_of_mem _ ha, q⟩
end Eng

/-! What repr gives is plain text. -/
namespace Eng
open PySem PyProof
def okS (s : Str) : Prop := ∀ c ∈ s.cps, c < 0x110000
theorem okS_iff {s : Str} : (s.cps.all (· < 0x110000)) = true ↔ okS s := by
  rw [Array.all_eq_true_iff_forall_mem]
  exact ⟨fun h c hc => of_decide_eq_true (h c hc), fun h c hc => decide_eq_true (h c hc)⟩
theorem okS_app {a b : Str} (ha : okS a) (hb : okS b) : okS (a ++ b) := by
  intro c hc
  have hc : c ∈ a.cps ++ b.cps := hc
  rcases Array.mem_append.mp hc with h | h
  · exact ha c h
  · exact hb c h
theorem okS_of (s : String) : okS (Str.ofString s) := by
  intro c hc
  rw [Str.ofString_eq_toList] at hc
  simp only [List.mem_toArray, List.mem_map] at hc
  obtain ⟨x, _, rfl⟩ := hc
  have := x.valid
  unfold UInt32.isValidChar Nat.isValidChar at this
  show x.val.toNat < _
  omega
theorem okS_join {sep : Str} (h : okS sep) : ∀ {ts : List Str}, (∀ t ∈ ts, okS t) → okS (Str.join sep ts)
  | [], _ => fun c hc => by simp [Str.join, Str.empty] at hc
  | [x], H => H x (List.mem_cons_self ..)
  | x :: y :: r, H => okS_app (okS_app (H x (List.mem_cons_self ..)) h) (okS_join h fun t ht => H t (List.mem_cons_of_mem _ ht))
theorem okS_from : ∀ {ts : List Str} {k : Nat} {acc : Str}, okS acc → (∀ t ∈ ts, okS t) → okS (textFrom k acc ts)
  | [], _, _, h, _ => h
  | t :: r, k, acc, h, H => by
    rw [textFrom]
    exact okS_from (ts := r) (okS_app (okS_app h (okS_of _)) (H t (List.mem_cons_self ..))) fun u hu => H u (List.mem_cons_of_mem _ hu)
mutual
/-- texts whose repr is plain -/
def reprOk : D → Prop
  | .str s => okS (PyData.str s).shown
  | .tup xs | .lst xs => reprOks xs
  | _ => True
def reprOks : List D → Prop
  | [] => True
  | d :: r => reprOk d ∧ reprOks r
end
mutual
theorem okS_shown : ∀ d : D, reprOk d → okS (toP d).shown
  | .non, _ => by simp only [toP, PyData.shown]; exact okS_of _
  | .bl b, _ => by
    simp only [toP, PyData.shown]
    split <;> exact okS_of _
  | .int i, _ => by simp only [toP, PyData.shown]; exact okS_of _
  | .str s, h => by
    simp only [reprOk] at h
    exact h
  | .tup xs, h => by
    simp only [reprOk] at h
    simp only [toP, PyData.shown]
    exact okS_app (okS_app (okS_of _) (okS_join (okS_of _) (okS_showns xs h))) (okS_of _)
  | .lst xs, h => by
    simp only [reprOk] at h
    simp only [toP, PyData.shown]
    exact okS_app (okS_from (okS_of _) (okS_showns xs h)) (okS_of _)
  | .ins _ _, _ => by simp only [toP, PyData.shown]; exact okS_of _
  | .fn _, _ => by simp only [toP, PyData.shown]; exact okS_of _
  | .ref _, _ => by simp only [toP, PyData.shown]; exact okS_of _
theorem okS_showns : ∀ ds : List D, reprOks ds → ∀ t ∈ PyData.shownAll (toPs ds), okS t
  | [], _ => fun t ht => by simp [toPs, PyData.shownAll] at ht
  | d :: r, h => by
    simp only [reprOks] at h
    intro t ht
    simp only [toPs, PyData.shownAll, List.mem_cons] at ht
    rcases ht with rfl | ht
    · exact okS_shown d h.1
    · exact okS_showns r h.2 t ht
end
theorem reprOks_map {α : Type} (f : α → D) : ∀ (as : List α), (∀ a ∈ as, reprOk (f a)) → reprOks (as.map f)
  | [], _ => by simp [reprOks]
  | a :: r, H => by
    rw [List.map_cons, reprOks]
    exact ⟨H a (List.mem_cons_self ..), reprOks_map f r fun x hx => H x (List.mem_cons_of_mem _ hx)⟩
/-- the same text twice -/
theorem eq_str (T : Tab) (call : Nat → List D → Store → Res D) {s : Str} (h : okS s) (st : Store) : eqR T call (.str s) (.str s) st = .ok true st := by
  have h1 : plain (.str s) = true := by rw [plain]; exact okS_iff.mpr h
  unfold eqR
  dsimp only
  rw [if_pos (by simp [h1, deep])]
  simp [eqD]
theorem eq_str2 (T : Tab) (call : Nat → List D → Store → Res D) {s : Str} (h : okS s) (st : Store) : eqR T call (.lst [.str s, .str s]) (.lst [.str s, .str s]) st = .ok true st := by
  have h1 : plain (.str s) = true := by rw [plain]; exact okS_iff.mpr h
  have h2 : plain (.lst [.str s, .str s]) = true := by simp [plain, plains] at h1 ⊢; exact h1
  unfold eqR
  dsimp only
  rw [if_pos (by simp [h2, deep, deeps])]
  simp [eqD, eqDs]
end Eng

set_option exponentiation.threshold 5000
/-! What repr takes, and that the same data give the same text. -/
namespace Eng
open PySem PyProof
structure RG (h k : Nat) (d : D) : Prop where
  pl : plain d = true
  dp : deep d ≤ h
  sh : shortD d = true
  wt : wtD d ≤ k
  ok : reprOk d
theorem RG.le {h k h' k' : Nat} {d : D} (g : RG h k d) (e : h ≤ h') (e' : k ≤ k') : RG h' k' d := ⟨g.pl, Nat.le_trans g.dp e, g.sh, Nat.le_trans g.wt e', g.ok⟩
theorem lg2_lt {i : Int} {k : Nat} (h : i.natAbs < 2 ^ k) : i.natAbs.log2 ≤ k := by
  by_cases h0 : i.natAbs = 0
  · rw [h0]; simp [Nat.log2_zero]
  · have := (Nat.log2_lt h0).mpr h
    omega
theorem RG.int {m : Nat} {i : Int} (h : i.natAbs < 2 ^ m) (hm : m < 1920) : RG 0 (m + 3) (.int i) := by
  have := lg2_lt h
  refine ⟨rfl, Nat.le_refl _, ?_, ?_, trivial⟩
  · simp only [shortD]; exact decide_eq_true (by omega)
  · simp only [wtD]; omega
theorem RG.bl (b : Bool) : RG 0 5 (.bl b) := ⟨rfl, Nat.le_refl _, rfl, Nat.le_refl _, trivial⟩
theorem RG.non : RG 0 5 .non := ⟨rfl, Nat.le_refl _, rfl, Nat.le_refl _, trivial⟩
theorem RG.str {m : Nat} {s : Str} (h : plain (.str s) = true) (hs : s.cps.size ≤ m) (ho : okS (PyData.str s).shown) : RG 0 (10 * m + 2) (.str s) := ⟨h, Nat.le_refl _, rfl, by simp only [wtD]; omega, ho⟩
theorem RG.all {h k m : Nat} : ∀ {xs : List D}, (∀ d ∈ xs, RG h k d) → xs.length ≤ m → plains xs = true ∧ deeps xs ≤ h ∧ shortsD xs = true ∧ wtsD xs ≤ (k + 2) * xs.length ∧ reprOks xs
  | [], _, _ => ⟨rfl, Nat.zero_le _, rfl, by simp [wtsD], trivial⟩
  | d :: r, H, hm => by
    have g := H d List.mem_cons_self
    obtain ⟨a, b, c, e, f⟩ := RG.all (xs := r) (m := m) (fun x hx => H x (List.mem_cons_of_mem _ hx)) (by simp at hm; omega)
    refine ⟨?_, ?_, ?_, ?_, ?_⟩
    · simp only [plains, g.pl, a]; rfl
    · simp only [deeps]; have := g.dp; omega
    · simp only [shortsD, g.sh, c]; rfl
    · simp only [wtsD, List.length_cons, Nat.mul_succ]; have := g.wt; omega
    · simp only [reprOks]; exact ⟨g.ok, f⟩
theorem RG.tup {h k m : Nat} {xs : List D} (H : ∀ d ∈ xs, RG h k d) (hm : xs.length ≤ m) : RG (h + 1) ((k + 2) * m + 3) (.tup xs) := by
  obtain ⟨a, b, c, e, f⟩ := RG.all H hm
  refine ⟨by simp only [plain]; exact a, by simp only [deep]; omega, by simp only [shortD]; exact c, ?_, by simp only [reprOk]; exact f⟩
  simp only [wtD]
  have := Nat.mul_le_mul_left (k + 2) hm
  omega
theorem RG.lst {h k m : Nat} {xs : List D} (H : ∀ d ∈ xs, RG h k d) (hm : xs.length ≤ m) : RG (h + 1) ((k + 2) * m + 3) (.lst xs) := by
  obtain ⟨a, b, c, e, f⟩ := RG.all H hm
  refine ⟨by simp only [plain]; exact a, by simp only [deep]; omega, by simp only [shortD]; exact c, ?_, by simp only [reprOk]; exact f⟩
  simp only [wtD]
  have := Nat.mul_le_mul_left (k + 2) hm
  omega
theorem RG.map {α : Type} {h k : Nat} {f : α → D} {l : List α} (H : ∀ a ∈ l, RG h k (f a)) : ∀ d ∈ l.map f, RG h k d := fun d hd => by
  obtain ⟨a, ha, rfl⟩ := List.mem_map.mp hd
  exact H a ha
theorem repr_ok {h k : Nat} {d : D} {st : Store} (g : RG h k d) (hd : dispD d = true) (h1 : h ≤ 32) (h2 : k ≤ 1000000) : reprD d st = .ok (.str (toP d).shown) st := by
  unfold reprD
  split
  · simp [dispD] at hd
  · rw [if_pos]
    have := g.dp
    have := g.wt
    simp only [hd, g.pl, g.sh, Bool.and_eq_true, decide_eq_true_eq, true_and, and_true]
    exact ⟨by omega, by omega⟩
theorem repr_int {m : Nat} {i : Int} {st : Store} (h : i.natAbs < 2 ^ m) (hm : m < 1920) : reprD (.int i) st = .ok (.str (toString i : String)) st := by
  have := lg2_lt h
  simp only [reprD]
  rw [if_pos (by omega)]
theorem shown_ok {h k : Nat} {d : D} (g : RG h k d) : okS (toP d).shown := okS_shown d g.ok
theorem cmp_eqS (T : Tab) (call : Nat → List D → Store → Res D) {s : Str} (h : okS s) (st : Store) : cmpD T call .eq (.str s) (.str s) st = .ok (.bl true) st := by
  simp only [cmpD]
  rw [eq_str T call h st]
  rfl
theorem cmp_neS (T : Tab) (call : Nat → List D → Store → Res D) {s : Str} (h : okS s) (st : Store) : cmpD T call .ne (.str s) (.str s) st = .ok (.bl false) st := by
  simp only [cmpD]
  rw [eq_str T call h st]
  rfl
/-- two texts compared -/
theorem cmp_eqT (T : Tab) (call : Nat → List D → Store → Res D) {a b : Str} (ha : plain (.str a) = true) (hb : plain (.str b) = true) (st : Store) : cmpD T call .eq (.str a) (.str b) st = .ok (.bl (a == b)) st := by
  simp only [cmpD, eqR]
  rw [if_pos (by simp [ha, hb, deep])]
  simp only [eqD, Res.bind_ok]
theorem idx_map {α : Type} {f : α → D} {l : List α} {i : Nat} {a : α} (h : l[i]? = some a) (st : Store) : idxD (.tup (l.map f)) (.int (i : Nat)) st = .ok (f a) st := by
  have e : atD (l.map f) (i : Int) = some (f a) := by
    unfold atD
    rw [if_pos (Int.natCast_nonneg i), Int.toNat_natCast, List.getElem?_map, h]
    rfl
  simp only [idxD, e]
theorem flatR_is {f : D → Store → Res (List D)} {g : D → List D} {st : Store} : ∀ (xs : List D), (∀ d ∈ xs, f d st = .ok (g d) st) → flatR f xs st = .ok (xs.flatMap g) st
  | [], _ => rfl
  | d :: r, H => by
    simp only [flatR]
    rw [H d List.mem_cons_self, Res.bind_ok, flatR_is r fun x hx => H x (List.mem_cons_of_mem _ hx), Res.bind_ok, List.flatMap_cons]
/-- a sum of ints -/
def sumI : List Int → Int → Int
  | [], a => a
  | i :: r, a => sumI r (a + i)
theorem sumD_map {α : Type} (f : α → Int) : ∀ (l : List α) (a : Int), sumD (l.map fun x => .int (f x)) a = some (sumI (l.map f) a)
  | [], a => rfl
  | x :: r, a => by simp only [List.map_cons, sumD, sumI]; exact sumD_map f r _
theorem sumI_lt {k : Nat} : ∀ (l : List Int) (a : Int), (∀ i ∈ l, i.natAbs ≤ k) → (sumI l a).natAbs ≤ a.natAbs + k * l.length
  | [], a, _ => by simp [sumI]
  | i :: r, a, H => by
    have h1 := H i List.mem_cons_self
    have h2 := sumI_lt r (a + i) fun x hx => H x (List.mem_cons_of_mem _ hx)
    simp only [sumI, List.length_cons, Nat.mul_succ]
    omega
theorem tks_is {α : Type} (key : α → List Ky) : ∀ l : List α, tksD (l.map fun a => tkV (key a)) = some (l.map key)
  | [] => rfl
  | a :: r => by
    have hk : ∀ k : List Ky, kysD (k.map kyV) = some k := by
      intro k
      induction k with
      | nil => rfl
      | cons x r ih =>
        simp only [List.map_cons, kysD, ih]
        cases x <;> rfl
    simp only [List.map_cons, tksD, tkV, tkD, hk, Option.bind_some]
    have := tks_is key r
    unfold tkV at this
    rw [this]
    rfl
theorem insK_mem {x y : List Ky} : ∀ {l : List (List Ky)}, y ∈ insK x l ↔ y = x ∨ y ∈ l
  | [] => by simp [insK]
  | z :: r => by
    unfold insK
    split
    · simp only [List.mem_cons, insK_mem (l := r)]
      constructor
      · rintro (h | h | h) <;> simp [h]
      · rintro (h | h | h) <;> simp [h]
    · simp
theorem sortK_mem {y : List Ky} : ∀ {l : List (List Ky)}, y ∈ sortK l ↔ y ∈ l
  | [] => by simp [sortK]
  | x :: r => by simp only [sortK, insK_mem, sortK_mem (l := r), List.mem_cons]
theorem insK_len (x : List Ky) : ∀ l : List (List Ky), (insK x l).length = l.length + 1
  | [] => rfl
  | z :: r => by
    unfold insK
    split
    · simp [insK_len x r]
    · simp
theorem sortK_len : ∀ l : List (List Ky), (sortK l).length = l.length
  | [] => rfl
  | x :: r => by simp [sortK, insK_len, sortK_len r]
/-- the sorted keys are keys of things of the list -/
theorem sortK_pull {α : Type} (key : α → List Ky) (l : List α) : ∃ l' : List α, sortK (l.map key) = l'.map key ∧ (∀ a ∈ l', a ∈ l) ∧ l'.length = l.length := by
  have all : ∀ m : List (List Ky), (∀ k ∈ m, k ∈ l.map key) → ∃ l' : List α, m = l'.map key ∧ ∀ a ∈ l', a ∈ l := by
    intro m
    induction m with
    | nil => intro _; exact ⟨[], rfl, fun _ h => nomatch h⟩
    | cons k r ih =>
      intro H
      obtain ⟨l', e, h⟩ := ih fun x hx => H x (List.mem_cons_of_mem _ hx)
      obtain ⟨a, ha, rfl⟩ := List.mem_map.mp (H k List.mem_cons_self)
      refine ⟨a :: l', by rw [e]; rfl, fun b hb => ?_⟩
      rcases List.mem_cons.mp hb with rfl | hb
      · exact ha
      · exact h b hb
  obtain ⟨l', e, h⟩ := all (sortK (l.map key)) fun k hk => sortK_mem.mp hk
  refine ⟨l', e, h, ?_⟩
  have := congrArg List.length e
  rw [sortK_len, List.length_map, List.length_map] at this
  exact this.symm
theorem rng0 (n : Nat) : rngD 0 n = (List.range n).map fun i => D.int (i : Nat) := by simp [rngD]
theorem lrng0 {n : Nat} (h : n ≤ 1000000) (st : Store) : lrngD (.int (n : Nat)) st = .ok (.lst ((List.range n).map fun i => D.int (i : Nat))) st := by
  unfold lrngD
  dsimp only
  rw [if_pos ⟨by omega, by omega⟩]
  simp
theorem it_rngN {T : Tab} {call : Nat → List D → Store → Res D} {a : C} {ρ : Env} {st st1 : Store} {i : Int} (n : Nat) (h : ev T call a ρ st = .ok (.int i) st1) (e : i = (n : Nat)) (hn : n < 1000000) : evIt T call (.rng1 a) ρ st = .ok ((List.range n).map fun i => D.int (i : Nat)) st1 := by
  rw [← rng0]
  exact it_rng1 n h (by omega) (by omega) (by omega)
theorem it_seq {T : Tab} {call : Nat → List D → Store → Res D} {c : C} {ρ : Env} {st st1 : Store} {xs : List D} (h : ev T call c ρ st = .ok (.lst xs) st1 ∨ ev T call c ρ st = .ok (.tup xs) st1) : evIt T call (.seq c) ρ st = .ok xs st1 := by
  rw [evIt]
  rcases h with h | h <;> rw [h] <;> rfl
theorem lc2_map {α β : Type} {T : Tab} {call : Nat → List D → Store → Res D} {elt : C} {tg tg2 : List Nat} {it it2 : It} {ρ : Env} {st : Store} (f : α → D) (fb : β → D) (g : α → β → D) (as : List α) (bs : List β) (hit : evIt T call it ρ st = .ok (as.map f) st) (hl : as.length ≤ 1000) (hl2 : bs.length ≤ 1000)
    (H : ∀ a ∈ as, ∃ ρ1, bindT tg (f a) (wipeE ρ (tg ++ tg2)) = some ρ1 ∧ evIt T call it2 ρ1 st = .ok (bs.map fb) st ∧ ∀ b ∈ bs, ∃ ρ2, bindT tg2 (fb b) (wipeE ρ1 tg2) = some ρ2 ∧ ev T call elt ρ2 st = .ok (g a b) st) :
    ev T call (.lc2 elt tg it tg2 it2) ρ st = .ok (.lst (as.flatMap fun a => bs.map (g a))) st := by
  rw [ev, hit, Res.bind_ok, if_neg (by rw [List.length_map]; omega)]
  have key : ∀ as : List α, (∀ a ∈ as, ∃ ρ1, bindT tg (f a) (wipeE ρ (tg ++ tg2)) = some ρ1 ∧ evIt T call it2 ρ1 st = .ok (bs.map fb) st ∧ ∀ b ∈ bs, ∃ ρ2, bindT tg2 (fb b) (wipeE ρ1 tg2) = some ρ2 ∧ ev T call elt ρ2 st = .ok (g a b) st) →
      flatR (fun d st2 => match bindT tg d (wipeE ρ (tg ++ tg2)) with
      | some ρ1 => (evIt T call it2 ρ1 st2).bind fun ys st3 => if 1000 < ys.length then .bad else mapR (fun e st4 => match bindT tg2 e (wipeE ρ1 tg2) with
          | some ρ2 => (ev T call elt ρ2 st4).bind fun y st5 => .ok (some y) st5
          | none => .bad) ys st3
      | none => .bad) (as.map f) st = .ok (as.flatMap fun a => bs.map (g a)) st := by
    intro as
    induction as with
    | nil => intro _; rfl
    | cons a r ih =>
      intro H
      obtain ⟨ρ1, e1, e2, e3⟩ := H a List.mem_cons_self
      simp only [List.map_cons, flatR]
      rw [e1]
      dsimp only
      rw [e2, Res.bind_ok, if_neg (by rw [List.length_map]; omega)]
      have inner : ∀ bs : List β, (∀ b ∈ bs, ∃ ρ2, bindT tg2 (fb b) (wipeE ρ1 tg2) = some ρ2 ∧ ev T call elt ρ2 st = .ok (g a b) st) → mapR (fun e st4 => match bindT tg2 e (wipeE ρ1 tg2) with
          | some ρ2 => (ev T call elt ρ2 st4).bind fun y st5 => .ok (some y) st5
          | none => .bad) (bs.map fb) st = .ok (bs.map (g a)) st := by
        intro bs
        induction bs with
        | nil => intro _; rfl
        | cons b t ih2 =>
          intro H2
          obtain ⟨ρ2, q1, q2⟩ := H2 b List.mem_cons_self
          simp only [List.map_cons, mapR]
          rw [q1]
          dsimp only
          rw [q2, Res.bind_ok, Res.bind_ok, ih2 fun x hx => H2 x (List.mem_cons_of_mem _ hx), Res.bind_ok]
      rw [inner bs e3, Res.bind_ok, ih fun x hx => H x (List.mem_cons_of_mem _ hx), Res.bind_ok, List.flatMap_cons]
  exact congrArg (fun r : Res (List D) => r.bind fun ys st2 => Res.ok (D.lst ys) st2) (key as H)
theorem forR_nx {tg : List Nat} {body : Env → Store → Fl} {d : D} {r : List D} {ρ ρ1 ρ2 : Env} {st st2 : Store} (h1 : bindT tg d ρ = some ρ1) (h2 : body ρ1 st = .nx ρ2 st2) : forR tg body (d :: r) ρ st = forR tg body r ρ2 st2 := by
  rw [forR, h1]
  dsimp only
  rw [h2]
theorem ss_end {T : Tab} {call : Nat → List D → Store → Res D} {wf : Nat} {ρ : Env} {st : Store} : evSs T call wf .nil ρ st = .nx ρ st := by rw [evSs]
theorem ss_one {T : Tab} {call : Nat → List D → Store → Res D} {wf : Nat} {s : S} {ρ ρ1 : Env} {st st1 : Store} (h : evS T call wf s ρ st = .nx ρ1 st1) : evSs T call wf (.cons s .nil) ρ st = .nx ρ1 st1 := by
  rw [ss_nx h, ss_end]
theorem ext_is {T : Tab} {call : Nat → List D → Store → Res D} {wf i : Nat} {e : C} {ρ : Env} {st st1 : Store} {xs ys : List D} (h : ev T call e ρ st = .ok (.lst ys) st1) (hs : slotO ρ i = some xs) (hl : xs.length + ys.length ≤ 1000000) : evS T call wf (.ext i e) ρ st = .nx (ρ.set i (some (.own (xs ++ ys)))) st1 := by
  rw [evS, h, Res.fl_ok, hs]
  dsimp only
  rw [if_pos hl]
theorem app_is {T : Tab} {call : Nat → List D → Store → Res D} {wf i : Nat} {e : C} {ρ : Env} {st st1 : Store} {xs : List D} {y : D} (h : ev T call e ρ st = .ok y st1) (hs : slotO ρ i = some xs) (hl : xs.length < 1000000) : evS T call wf (.app i e) ρ st = .nx (ρ.set i (some (.own (xs ++ [y])))) st1 := by
  rw [evS, h, Res.fl_ok, hs]
  dsimp only
  rw [if_pos hl]
/-! calls of defs with variables as arguments -/
theorem call1 {T : Tab} {call : Nat → List D → Store → Res D} {j i : Nat} {ρ : Env} {d : D} {st : Store} (h : slotV ρ i = some d) : ev T call (.call j (.cons (.var i) .nil) []) ρ st = call j [d] st := by
  simp only [ev, evs, h, Res.bind_ok, List.append_nil]
theorem call2 {T : Tab} {call : Nat → List D → Store → Res D} {j i i2 : Nat} {ρ : Env} {d d2 : D} {st : Store} (h : slotV ρ i = some d) (h2 : slotV ρ i2 = some d2) : ev T call (.call j (.cons (.var i) (.cons (.var i2) .nil)) []) ρ st = call j [d, d2] st := by
  simp only [ev, evs, h, h2, Res.bind_ok, List.append_nil]
theorem call3 {T : Tab} {call : Nat → List D → Store → Res D} {j i i2 i3 : Nat} {ρ : Env} {d d2 d3 : D} {st : Store} (h : slotV ρ i = some d) (h2 : slotV ρ i2 = some d2) (h3 : slotV ρ i3 = some d3) : ev T call (.call j (.cons (.var i) (.cons (.var i2) (.cons (.var i3) .nil))) []) ρ st = call j [d, d2, d3] st := by
  simp only [ev, evs, h, h2, h3, Res.bind_ok, List.append_nil]
theorem callE {T : Tab} {call : Nat → List D → Store → Res D} {j : Nat} {as : Cs} {ρ : Env} {xs : List D} {st st1 : Store} (h : evs T call as ρ st = .ok xs st1) : ev T call (.call j as []) ρ st = call j xs st1 := by
  rw [ev, h, Res.bind_ok, List.append_nil]
/-- a comprehension whose test may draw -/
theorem lc_some {α : Type} {T : Tab} {call : Nat → List D → Store → Res D} {elt : C} {tg : List Nat} {it : It} {ifs : Cs} {ρ : Env} {st st1 : Store} (f g : α → D) (as : List α) {J : Nat → Store → Prop} (hit : evIt T call it ρ st = .ok (as.map f) st1) (hl : as.length ≤ 1000000) (hJ : J 0 st1)
    (H : ∀ j a, as[j]? = some a → ∀ st, J j st → ∃ ρ1 b st2, bindT tg (f a) (wipeE ρ tg) = some ρ1 ∧ evIfs T call ifs ρ1 st = .ok b st2 ∧ (b = true → ev T call elt ρ1 st2 = .ok (g a) st2) ∧ J (j + 1) st2) :
    ∃ (as' : List α) (st2 : Store), ev T call (.lc elt tg it ifs) ρ st = .ok (.lst (as'.map g)) st2 ∧ (∀ a ∈ as', a ∈ as) ∧ as'.length ≤ as.length ∧ J as.length st2 := by
  have key : ∀ (as : List α) (i : Nat) (st : Store), J i st → (∀ j a, as[j]? = some a → ∀ st, J (i + j) st → ∃ ρ1 b st2, bindT tg (f a) (wipeE ρ tg) = some ρ1 ∧ evIfs T call ifs ρ1 st = .ok b st2 ∧ (b = true → ev T call elt ρ1 st2 = .ok (g a) st2) ∧ J (i + j + 1) st2) → ∃ (as' : List α) (st2 : Store), mapR (fun d st2 => match bindT tg d (wipeE ρ tg) with
      | some ρ1 => (evIfs T call ifs ρ1 st2).bind fun k st3 => if k then (ev T call elt ρ1 st3).bind fun y st4 => .ok (some y) st4 else .ok none st3
      | none => .bad) (as.map f) st = .ok (as'.map g) st2 ∧ (∀ a ∈ as', a ∈ as) ∧ as'.length ≤ as.length ∧ J (i + as.length) st2 := by
    intro as
    induction as with
    | nil => intro i st h _; exact ⟨[], st, rfl, (fun _ h => h), Nat.le_refl _, h⟩
    | cons a r ih =>
      intro i st h H
      obtain ⟨ρ1, b, st2, e1, e2, e3, h2⟩ := H 0 a rfl st h
      obtain ⟨as', st3, q1, q2, q3, q4⟩ := ih (i + 1) st2 h2 (fun j x hj st hp => by
        obtain ⟨ρ2, b, st3, z1, z2, z3, z4⟩ := H (j + 1) x hj st (by rw [show i + (j + 1) = i + 1 + j by omega]; exact hp)
        exact ⟨ρ2, b, st3, z1, z2, z3, by rw [show i + 1 + j + 1 = i + (j + 1) + 1 by omega]; exact z4⟩)
      have q4' : J (i + (a :: r).length) st3 := by rw [List.length_cons, show i + (r.length + 1) = i + 1 + r.length by omega]; exact q4
      cases b with
      | true =>
        refine ⟨a :: as', st3, ?_, ?_, by simp; omega, q4'⟩
        · simp only [List.map_cons, mapR]
          rw [e1]
          dsimp only
          rw [e2, Res.bind_ok, if_pos rfl, e3 rfl, Res.bind_ok, Res.bind_ok, q1, Res.bind_ok]
        · intro x hx
          rcases List.mem_cons.mp hx with rfl | hx
          · exact List.mem_cons_self
          · exact List.mem_cons_of_mem _ (q2 x hx)
      | false =>
        refine ⟨as', st3, ?_, fun x hx => List.mem_cons_of_mem _ (q2 x hx), by simp; omega, q4'⟩
        simp only [List.map_cons, mapR]
        rw [e1]
        dsimp only
        rw [e2, Res.bind_ok, if_neg (by decide), Res.bind_ok, q1, Res.bind_ok]
  obtain ⟨as', st2, q1, q2, q3, q4⟩ := key as 0 st1 hJ (fun j a hj st hp => by
    rw [Nat.zero_add] at hp ⊢
    exact H j a hj st hp)
  refine ⟨as', st2, ?_, q2, q3, by rw [Nat.zero_add] at q4; exact q4⟩
  rw [ev, hit, Res.bind_ok, if_neg (by rw [List.length_map]; omega)]
  exact congrArg (fun r : Res (List D) => r.bind fun ys st2 => Res.ok (D.lst ys) st2) q1
theorem and2E {T : Tab} {call : Nat → List D → Store → Res D} {a b : C} {ρ : Env} {x y : Bool} {st st1 st2 : Store} (h1 : ev T call a ρ st = .ok (.bl x) st1) (h2 : x = true → ev T call b ρ st1 = .ok (.bl y) st2) (h3 : x = false → st2 = st1) : ev T call (.and (.cons a (.cons b .nil))) ρ st = .ok (.bl (x && y)) st2 := by
  rw [ev, evAnd, h1, Res.bind_ok]
  cases x with
  | true =>
    dsimp only
    rw [evAnd, h2 rfl]
    rfl
  | false => rw [h3 rfl]; rfl
theorem and3E {T : Tab} {call : Nat → List D → Store → Res D} {a b c : C} {ρ : Env} {x y z : Bool} {st : Store} (h1 : ev T call a ρ st = .ok (.bl x) st) (h2 : ev T call b ρ st = .ok (.bl y) st) (h3 : ev T call c ρ st = .ok (.bl z) st) : ev T call (.and (.cons a (.cons b (.cons c .nil)))) ρ st = .ok (.bl (x && (y && z))) st := by
  rw [ev, evAnd, h1, Res.bind_ok]
  cases x with
  | true =>
    dsimp only
    rw [evAnd, h2, Res.bind_ok]
    cases y with
    | true =>
      dsimp only
      rw [evAnd, h3]
      rfl
    | false => rfl
  | false => rfl
end Eng

set_option exponentiation.threshold 5000
/-! The package's Amounts in the interpreter, whatever their numbers in a law's tables: an Amount is a rational. -/
namespace Eng
/-! ### plain arithmetic -/
theorem fmod_lt (a : Int) {b : Int} (h : b ≠ 0) : (a.fmod b).natAbs < b.natAbs := by
  rw [Int.fmod_eq_emod]
  have h1 := Int.emod_nonneg a h
  have h2 := Int.emod_lt a h
  split
  · omega
  · rename_i q
    have q1 : b < 0 := by
      rcases Int.lt_or_le b 0 with z | z
      · exact z
      · exact absurd (.inl z) q
    have q2 : a % b ≠ 0 := fun z => q (.inr (Int.dvd_of_emod_eq_zero z))
    omega
theorem gcd_fmod (a : Int) (b : Int) : Int.gcd b (a.fmod b) = Int.gcd a b := by
  have e : a.fmod b = a - b * (a.fdiv b) := by
    have := Int.mul_fdiv_add_fmod a b
    omega
  rw [e, Int.gcd_comm a b]
  exact Int.gcd_sub_mul_left_right ..
/-- of k bits -/
def Sz (k : Nat) (r : Rat) : Prop := r.num.natAbs < 2 ^ k ∧ r.den < 2 ^ k
theorem Sz_le {k l : Nat} {r : Rat} (h : Sz k r) (e : k ≤ l) : Sz l r := ⟨Nat.lt_of_lt_of_le h.1 (Nat.pow_le_pow_right (by decide) e), Nat.lt_of_lt_of_le h.2 (Nat.pow_le_pow_right (by decide) e)⟩
theorem Sz_div {k : Nat} {a b : Int} (hb : b ≠ 0) (h1 : a.natAbs < 2 ^ k) (h2 : b.natAbs < 2 ^ k) : Sz k (Rat.divInt a b) := by
  constructor
  · rw [Rat.num_divInt]
    have e : (b.sign * a / (Int.gcd b a : Int)).natAbs ≤ (b.sign * a).natAbs := Int.natAbs_ediv_le_natAbs _ _
    rw [Int.natAbs_mul, Int.natAbs_sign_of_ne_zero hb, Nat.one_mul] at e
    omega
  · rw [Rat.den_divInt, if_neg hb]
    exact Nat.lt_of_le_of_lt (Nat.div_le_self _ _) h2
theorem mul_lt2 {a b k l : Nat} (h1 : a < 2 ^ k) (h2 : b < 2 ^ l) : a * b < 2 ^ (k + l) := by
  rw [Nat.pow_add]
  exact Nat.mul_lt_mul'' h1 h2
theorem add_isR (a b : Rat) : a + b = Rat.divInt (a.num * b.den + b.num * a.den) ((a.den : Int) * b.den) := by
  conv => lhs; rw [← Rat.num_divInt_den a, ← Rat.num_divInt_den b]
  rw [Rat.divInt_add_divInt _ _ (by have := a.den_nz; omega) (by have := b.den_nz; omega)]
theorem mul_isR (a b : Rat) : a * b = Rat.divInt (a.num * b.num) ((a.den : Int) * b.den) := by
  conv => lhs; rw [← Rat.num_divInt_den a, ← Rat.num_divInt_den b]
  rw [Rat.divInt_mul_divInt]
theorem den_neR (a b : Rat) : (a.den : Int) * b.den ≠ 0 := Int.mul_ne_zero (by have := a.den_nz; omega) (by have := b.den_nz; omega)
theorem den0R (r : Rat) : (r.den : Int) ≠ 0 := by have := r.den_nz; omega
theorem ndR {k : Nat} {r : Rat} (h : Sz k r) : (r.den : Int).natAbs < 2 ^ k := by rw [Int.natAbs_natCast]; exact h.2
theorem num_ltR {k l : Nat} {a b : Rat} (ha : Sz k a) (hb : Sz l b) : (a.num * b.den + b.num * a.den).natAbs < 2 ^ (k + l + 1) := by
  have h1 := mul_lt2 ha.1 hb.2
  have h2 := mul_lt2 hb.1 ha.2
  have e := Int.natAbs_add_le (a.num * b.den) (b.num * a.den)
  rw [Int.natAbs_mul, Int.natAbs_mul] at e
  have e2 : 2 ^ (k + l + 1) = 2 ^ (k + l) + 2 ^ (k + l) := by rw [Nat.pow_succ]; omega
  rw [Nat.add_comm l k] at h2
  simp only [Int.natAbs_natCast] at e
  omega
theorem Sz_add {k l : Nat} {a b : Rat} (ha : Sz k a) (hb : Sz l b) : Sz (k + l + 1) (a + b) := by
  rw [add_isR]
  refine Sz_div (den_neR a b) (num_ltR ha hb) ?_
  rw [Int.natAbs_mul]
  exact Nat.lt_of_lt_of_le (mul_lt2 ha.2 hb.2) (Nat.pow_le_pow_right (by decide) (by omega))
theorem Sz_mul {k l : Nat} {a b : Rat} (ha : Sz k a) (hb : Sz l b) : Sz (k + l) (a * b) := by
  rw [mul_isR]
  refine Sz_div (den_neR a b) ?_ ?_
  · rw [Int.natAbs_mul]; exact mul_lt2 ha.1 hb.1
  · rw [Int.natAbs_mul]; exact mul_lt2 (ndR ha) (ndR hb)
theorem neg_numR (a : Rat) : (-a).num = -a.num := rfl
theorem neg_denR (a : Rat) : (-a).den = a.den := rfl
theorem Sz_neg {k : Nat} {a : Rat} (ha : Sz k a) : Sz k (-a) := ⟨by rw [neg_numR, Int.natAbs_neg]; exact ha.1, ha.2⟩
theorem Sz_sub {k l : Nat} {a b : Rat} (ha : Sz k a) (hb : Sz l b) : Sz (k + l + 1) (a - b) := by
  rw [Rat.sub_eq_add_neg]
  exact Sz_add ha (Sz_neg hb)
theorem Sz_int {k : Nat} {i : Int} (h : i.natAbs < 2 ^ k) : Sz (k + 1) (i : Rat) := ⟨Nat.lt_of_lt_of_le h (Nat.pow_le_pow_right (by decide) (by omega)), by
  show 1 < 2 ^ (k + 1)
  have : 1 ≤ 2 ^ k := Nat.one_le_two_pow
  rw [Nat.pow_succ]; omega⟩
/-- -1, 0 or 1 -/
def cmpQ (a b : Rat) : Int := (if b < a then 1 else 0) - (if a < b then 1 else 0)
/-! ### the defs' terms -/
structure AmtI where
  c : Nat
  init : Nat
  isint : Nat
  cd : Nat
  asam : Nat
  fo : Nat
  fu : Nat
def tInit (ii cd fo fu : Nat) : Ss := (.cons (.ite (.not (.call ii (.cons (.var 1) .nil) [])) (.cons .never
  .nil) .nil)
  (.cons (.ite (.or (.cons (.not (.call ii (.cons (.var 2) .nil) [])) (.cons (.cmp .eq (.var 2) (.int 0)) .nil))) (.cons .never
  .nil) .nil)
  (.cons (.set 3 (.call cd (.cons (.var 1) (.cons (.var 2) .nil)) []))
  (.cons (.set 4 (.ite (.cmp .gt (.var 2) (.int 0)) (.int 1) (.neg (.int 1))))
  (.cons (.fld 0 fo (.bin .fdiv (.bin .mul (.var 4) (.var 1)) (.var 3)))
  (.cons (.fld 0 fu (.bin .fdiv (.bin .mul (.var 4) (.var 2)) (.var 3)))
  .nil))))))
def tIsInt : Ss := (.cons (.ret (.and (.cons (.isi (.var 0) .int) (.cons (.not (.isi (.var 0) .bool)) .nil))))
  .nil)
def tCd : Ss := (.cons (.whl (.cmp .ne (.var 1) (.int 0)) (.cons (.par 0 1 (.var 1) (.bin .mod (.var 0) (.var 1)))
  .nil))
  (.cons (.ret (.blt .abs (.var 0)))
  .nil))
def tAsA (c ii : Nat) : Ss := (.cons (.ite (.isi (.var 0) (.cls c)) (.cons (.ret (.var 0))
  .nil) .nil)
  (.cons (.ite (.not (.call ii (.cons (.var 0) .nil) [])) (.cons .never
  .nil) .nil)
  (.cons (.ret (.make c (.cons (.var 0) .nil) [(.int 1)]))
  .nil)))
def tPair (fo fu : Nat) : Ss := (.cons (.ret (.tup (.cons (.attr fo (.var 0)) (.cons (.attr fu (.var 0)) .nil))))
  .nil)
def tDown (fo fu : Nat) : Ss := (.cons (.ret (.bin .fdiv (.attr fo (.var 0)) (.attr fu (.var 0))))
  .nil)
def tUp (fo fu : Nat) : Ss := (.cons (.ret (.neg (.bin .fdiv (.neg (.attr fo (.var 0))) (.attr fu (.var 0)))))
  .nil)
def tCmp (as fo fu : Nat) : Ss := (.cons (.set 2 (.call as (.cons (.var 1) .nil) []))
  (.cons (.par 3 4 (.bin .mul (.attr fo (.var 0)) (.attr fu (.var 2))) (.bin .mul (.attr fo (.var 2)) (.attr fu (.var 0))))
  (.cons (.ret (.bin .sub (.blt .int (.cmp .gt (.var 3) (.var 4))) (.blt .int (.cmp .lt (.var 3) (.var 4)))))
  .nil)))
def tAdd (c as fo fu : Nat) : Ss := (.cons (.set 2 (.call as (.cons (.var 1) .nil) []))
  (.cons (.set 3 (.bin .add (.bin .mul (.attr fo (.var 0)) (.attr fu (.var 2))) (.bin .mul (.attr fo (.var 2)) (.attr fu (.var 0)))))
  (.cons (.ret (.make c (.cons (.var 3) (.cons (.bin .mul (.attr fu (.var 0)) (.attr fu (.var 2))) .nil)) []))
  .nil)))
def tRadd : Ss := (.cons (.ret (.bin .add (.var 0) (.var 1)))
  .nil)
def tSub (as : Nat) : Ss := (.cons (.ret (.bin .add (.var 0) (.neg (.call as (.cons (.var 1) .nil) []))))
  .nil)
def tRsub : Ss := (.cons (.ret (.bin .add (.neg (.var 0)) (.var 1)))
  .nil)
def tMul (c as fo fu : Nat) : Ss := (.cons (.set 2 (.call as (.cons (.var 1) .nil) []))
  (.cons (.ret (.make c (.cons (.bin .mul (.attr fo (.var 0)) (.attr fo (.var 2))) (.cons (.bin .mul (.attr fu (.var 0)) (.attr fu (.var 2))) .nil)) []))
  .nil))
def tRmul : Ss := (.cons (.ret (.bin .mul (.var 0) (.var 1)))
  .nil)
def tNeg (c fo fu : Nat) : Ss := (.cons (.ret (.make c (.cons (.neg (.attr fo (.var 0))) (.cons (.attr fu (.var 0)) .nil)) []))
  .nil)
def tAbs (c fo fu : Nat) : Ss := (.cons (.ret (.make c (.cons (.blt .abs (.attr fo (.var 0))) (.cons (.attr fu (.var 0)) .nil)) []))
  .nil)
def tBool (fo : Nat) : Ss := (.cons (.ret (.blt .bool (.attr fo (.var 0))))
  .nil)
def tEq (c np : Nat) : Ss := (.cons (.ret (.and (.cons (.isi (.var 1) (.cls c)) (.cons (.cmp .eq (.attr np (.var 0)) (.attr np (.var 1))) .nil))))
  .nil)
structure AmtOK (P : Prg) (I : AmtI) : Prop where
  cl : ∃ k, P.tab.cls[I.c]? = some k ∧ k.init = I.init
  pfo : propOf P.tab I.c I.fo = none
  pfu : propOf P.tab I.c I.fu = none
  ffo : fldOf P.tab I.c I.fo = true
  ffu : fldOf P.tab I.c I.fu = true
  ne : I.fo ≠ I.fu
  init : P.fn[I.init]? = some ⟨5, 3, tInit I.isint I.cd I.fo I.fu, some I.c, false⟩
  isint : P.fn[I.isint]? = some ⟨1, 1, tIsInt, none, false⟩
  cd : P.fn[I.cd]? = some ⟨2, 2, tCd, none, false⟩
  asam : P.fn[I.asam]? = some ⟨1, 1, tAsA I.c I.isint, none, false⟩
/-- a rational as the program holds it -/
def amD (I : AmtI) (r : Rat) : D := .ins I.c [(I.fo, .int r.num), (I.fu, .int r.den)]
abbrev rnP (P : Prg) (wf n : Nat) := run P.tab P.fn wf n
theorem run_fn' {P : Prg} {wf n j : Nat} {as : List D} {st : Store} {f : Fn} (h : P.fn[j]? = some f) (hi : f.init = none) (hl : as.length = f.pars) : rnP P wf (n + 1) j as st = endF f.fresh (evSs P.tab (rnP P wf n) wf f.body (startE f.slots as) st) := by
  unfold rnP
  rw [run, h]
  dsimp only
  rw [hi]
  dsimp only
  rw [if_pos hl]
theorem run_in' {P : Prg} {wf n j c : Nat} {as : List D} {st : Store} {f : Fn} (h : P.fn[j]? = some f) (hi : f.init = some c) (hl : as.length + 1 = f.pars) : rnP P wf (n + 1) j as st = endI c (evSs P.tab (rnP P wf n) wf f.body (some (.self c []) :: startE (f.slots - 1) as) st) := by
  unfold rnP
  rw [run, h]
  dsimp only
  rw [hi]
  dsimp only
  rw [if_pos hl]
theorem binI' {P : Prg} {st : Store} (call : Nat → List D → Store → Res D) (op : Bo) (i j : Int) : binD P.tab call op (.int i) (.int j) st = intOp op i j st := rfl
theorem addI' {st : Store} (i j : Int) : intOp .add i j st = .ok (.int (i + j)) st := rfl
theorem subI' {st : Store} (i j : Int) : intOp .sub i j st = .ok (.int (i - j)) st := rfl
theorem mulI' {st : Store} {i j : Int} (h1 : wide i = true) (h2 : wide j = true) : intOp .mul i j st = .ok (.int (i * j)) st := by simp [intOp, h1, h2]
theorem fdivI' {st : Store} {i j : Int} (h : 0 < j) (h1 : wide i = true) (h2 : wide j = true) : intOp .fdiv i j st = .ok (.int (i / j)) st := by simp [intOp, h, h1, h2]
theorem wide_of' {i : Int} (h : i.natAbs < 2 ^ 4096) : wide i = true := decide_eq_true h
theorem wideS' {k : Nat} {i : Int} (h : i.natAbs < 2 ^ k) (hk : k ≤ 4096) : wide i = true := wide_of' (Nat.lt_of_lt_of_le h (Nat.pow_le_pow_right (by decide) hk))
section
variable {P : Prg} {I : AmtI} {wf n : Nat} {st : Store}
theorem at_fo (K : AmtOK P I) (call : Nat → List D → Store → Res D) (r : Rat) : attrD P.tab call I.fo (amD I r) st = .ok (.int r.num) st := by
  unfold attrD amD
  dsimp only
  rw [K.pfo]
  simp [List.lookup, K.ffo]
theorem at_fu (K : AmtOK P I) (call : Nat → List D → Store → Res D) (r : Rat) : attrD P.tab call I.fu (amD I r) st = .ok (.int r.den) st := by
  unfold attrD amD
  dsimp only
  rw [K.pfu]
  have : (I.fu == I.fo) = false := by simpa using K.ne.symm
  simp [List.lookup, K.ffu, this]
theorem is_int' (K : AmtOK P I) (i : Int) : rnP P wf (n + 1) I.isint [.int i] st = .ok (.bl true) st := by
  rw [run_fn' K.isint rfl rfl]
  rfl
theorem loop' (T : Tab) (call : Nat → List D → Store → Res D) (w0 : Nat) : ∀ (m : Nat) (a b : Int), b.natAbs < m → ∃ c : Int, c.natAbs = Int.gcd a b ∧ whlR (evT T call (.cmp .ne (.var 1) (.int 0))) (evSs T call w0 (.cons (.par 0 1 (.var 1) (.bin .mod (.var 0) (.var 1))) .nil)) m [some (.v (.int a)), some (.v (.int b))] st = .nx [some (.v (.int c)), some (.v (.int 0))] st
  | 0, a, b, h => absurd h (Nat.not_lt_zero _)
  | m + 1, a, b, h => by
    have ht : evT T call (.cmp .ne (.var 1) (.int 0)) [some (.v (.int a)), some (.v (.int b))] st = .ok (!(b == 0)) st := rfl
    unfold whlR
    rw [ht]
    by_cases hb : b = 0
    · subst hb
      exact ⟨a, by rw [Int.gcd_zero_right], rfl⟩
    · have e : (!(b == 0)) = true := by simpa using hb
      rw [e]
      have hbd : evSs T call w0 (.cons (.par 0 1 (.var 1) (.bin .mod (.var 0) (.var 1))) .nil) [some (.v (.int a)), some (.v (.int b))] st = .nx [some (.v (.int b)), some (.v (.int (a.fmod b)))] st := by
        simp [evSs, evS, ev, slotV, binD, intOp, Res.fl, Res.bind, hb]
      dsimp only
      rw [hbd]
      obtain ⟨c, h1, h2⟩ := loop' T call w0 m b (a.fmod b) (by have := fmod_lt a hb; omega)
      exact ⟨c, by rw [h1, gcd_fmod], h2⟩
theorem cdiv' (K : AmtOK P I) (a b : Int) (h : b.natAbs < wf) : rnP P wf (n + 1) I.cd [.int a, .int b] st = .ok (.int (Int.gcd a b : Nat)) st := by
  obtain ⟨c, h1, h2⟩ := loop' (st := st) P.tab (rnP P wf n) wf wf a b h
  rw [run_fn' K.cd rfl rfl]
  show endF false (evSs P.tab (rnP P wf n) wf tCd [some (.v (.int a)), some (.v (.int b))] st) = _
  unfold tCd
  simp only [evSs, evS]
  simp only [evSs, evS] at h2
  rw [h2]
  simp only [ev, slotV, List.getElem?_cons_zero, Res.bind_ok, bltD, Res.fl_ok, endF]
  rw [← h1]
  congr 2
  split <;> omega
theorem pos_gcd' {a b : Int} (hb : b ≠ 0) : 0 < (Int.gcd a b : Int) := by
  have : Int.gcd a b ≠ 0 := fun z => hb (Int.gcd_eq_zero_iff.mp z).2
  omega
/-- Amount(a, b) -/
theorem make' (K : AmtOK P I) (hwf : 2 ^ 4096 ≤ wf) (a b : Int) (hb : b ≠ 0) (h1 : a.natAbs < 2 ^ 4095) (h2 : b.natAbs < 2 ^ 4095) : rnP P wf (n + 2) I.init [.int a, .int b] st = .ok (amD I (Rat.divInt a b)) st := by
  have p4 : 2 ^ 4095 ≤ 2 ^ 4096 := Nat.pow_le_pow_right (by decide) (by decide)
  have hg := pos_gcd' (a := a) hb
  have hgl : (Int.gcd a b : Int).natAbs ≤ b.natAbs := by
    rw [Int.natAbs_natCast]
    exact Nat.le_of_dvd (by omega) (Int.gcd_dvd_natAbs_right a b)
  rw [run_in' K.init rfl rfl]
  show endI I.c (evSs P.tab (rnP P wf (n + 1)) wf (tInit I.isint I.cd I.fo I.fu) [some (.self I.c []), some (.v (.int a)), some (.v (.int b)), none, none] st) = _
  unfold tInit
  have c1 := cdiv' (st := st) (n := n) (wf := wf) K a b (by omega)
  have i1 : ∀ i : Int, rnP P wf (n + 1) I.isint [.int i] st = .ok (.bl true) st := fun i => is_int' K i
  have hb' : (b == 0) = false := by simpa using hb
  have w1 : wide a = true := wide_of' (Nat.lt_of_lt_of_le h1 p4)
  have w2 : wide b = true := wide_of' (Nat.lt_of_lt_of_le h2 p4)
  have wg : wide (Int.gcd a b : Int) = true := wide_of' (by omega)
  have u1 : wide 1 = true := wide_of' (by decide)
  have u2 : wide (-1) = true := wide_of' (by decide)
  have n1 : wide (-a) = true := wide_of' (by rw [Int.natAbs_neg]; omega)
  have n2 : wide (-b) = true := wide_of' (by rw [Int.natAbs_neg]; omega)
  have ne := K.ne
  by_cases hp : 0 < b
  · have hdp : decide (0 < b) = true := decide_eq_true hp
    simp [evSs, evS, evT, ev, evs, evOr, evAnd, slotV, i1, c1, Res.fl, Res.bind, truD, cmpD, eqR, eqD, plain, deep, hb', hp, hdp, hb, binI', mulI', fdivI', u1, w1, w2, wg, hg, putL, K.ffo, K.ffu, ne, endI, amD]
    refine ⟨?_, ?_⟩
    · rw [Rat.num_divInt, Int.sign_eq_one_of_pos hp, Int.one_mul, Int.gcd_comm]
    · rw [Rat.den_divInt, if_neg hb, Int.natCast_ediv, Int.gcd_comm]
      congr 1
      omega
  · have hn : b < 0 := by omega
    have hdp : decide (0 < b) = false := decide_eq_false hp
    have m1 : intOp .mul (-1) a st = .ok (.int (-a)) st := by rw [mulI' u2 w1, Int.neg_one_mul]
    have m2 : intOp .mul (-1) b st = .ok (.int (-b)) st := by rw [mulI' u2 w2, Int.neg_one_mul]
    simp [evSs, evS, evT, ev, evs, evOr, evAnd, slotV, i1, c1, Res.fl, Res.bind, truD, cmpD, eqR, eqD, plain, deep, hb', hp, hdp, hb, negD, binI', m1, m2, fdivI', n1, n2, wg, hg, putL, K.ffo, K.ffu, ne, endI, amD]
    refine ⟨?_, ?_⟩
    · rw [Rat.num_divInt, Int.sign_eq_neg_one_of_neg hn, Int.neg_one_mul, Int.gcd_comm]
    · rw [Rat.den_divInt, if_neg hb, Int.natCast_ediv, Int.gcd_comm]
      congr 1
      omega
theorem make_ev (K : AmtOK P I) (call : Nat → List D → Store → Res D) (as : Cs) (ds : List D) (ρ : Env) : ev P.tab call (.make I.c as ds) ρ st = (evs P.tab call as ρ st).bind fun xs st1 => call I.init (xs ++ ds) st1 := by
  obtain ⟨k, h1, h2⟩ := K.cl
  simp only [ev, h1, h2]
theorem pw' {a k : Nat} (h : a < 2 ^ k) (hk : k ≤ 4095) : a < 2 ^ 4095 := Nat.lt_of_lt_of_le h (Nat.pow_le_pow_right (by decide) hk)
theorem isi_am (r : Rat) : isiD P.tab (amD I r) (.cls I.c) = some true := by simp [isiD, amD]
theorem as_am' (K : AmtOK P I) (r : Rat) : rnP P wf (n + 1) I.asam [amD I r] st = .ok (amD I r) st := by
  rw [run_fn' K.asam rfl rfl]
  show endF false (evSs P.tab (rnP P wf n) wf (tAsA I.c I.isint) [some (.v (amD I r))] st) = _
  unfold tAsA
  simp only [evSs, evS, evT, ev, slotV, List.getElem?_cons_zero, Res.bind_ok, isi_am, truD, Res.fl_ok, if_true, endF]
theorem as_int' (K : AmtOK P I) (hwf : 2 ^ 4096 ≤ wf) (i : Int) (h : i.natAbs < 2 ^ 4095) : rnP P wf (n + 3) I.asam [.int i] st = .ok (amD I (i : Rat)) st := by
  have m := make' (st := st) (n := n) K hwf i 1 (by decide) h (pw' (k := 1) (by decide) (by decide))
  have e : Rat.divInt i 1 = (i : Rat) := Rat.num_divInt_den (i : Rat)
  rw [e] at m
  have i1 : rnP P wf (n + 2) I.isint [.int i] st = .ok (.bl true) st := is_int' K i
  rw [run_fn' K.asam rfl rfl]
  show endF false (evSs P.tab (rnP P wf (n + 2)) wf (tAsA I.c I.isint) [some (.v (.int i))] st) = _
  have ei : isiD P.tab (.int i) (.cls I.c) = some false := rfl
  unfold tAsA
  simp only [evSs, evS, evT, make_ev K]
  simp [ev, evs, slotV, ei, i1, m, Res.fl, Res.bind, truD, endF]
/-- what an operand stands for -/
inductive OpQ (I : AmtI) : D → Rat → Prop where
  | am (r : Rat) : OpQ I (amD I r) r
  | int (i : Int) : OpQ I (.int i) i
theorem as_op' (K : AmtOK P I) (hwf : 2 ^ 4096 ≤ wf) {d : D} {r : Rat} {k : Nat} (o : OpQ I d r) (h : Sz k r) (hk : k ≤ 4095) : rnP P wf (n + 3) I.asam [d] st = .ok (amD I r) st := by
  cases o with
  | am r => exact as_am' K r
  | int i => exact as_int' K hwf i (pw' h.1 hk)
theorem add' (K : AmtOK P I) (hwf : 2 ^ 4096 ≤ wf) {j : Nat} (hj : P.fn[j]? = some ⟨4, 2, tAdd I.c I.asam I.fo I.fu, none, false⟩) {d : D} {a b : Rat} (o : OpQ I d b) (ha : Sz 1000 a) (hb : Sz 1000 b) : rnP P wf (n + 4) j [amD I a, d] st = .ok (amD I (a + b)) st := by
  have c := as_op' (st := st) (n := n) K hwf o hb (by decide)
  have m := make' (st := st) (n := n + 1) K hwf (a.num * b.den + b.num * a.den) ((a.den : Int) * b.den) (den_neR a b) (pw' (num_ltR ha hb) (by decide)) (pw' (by rw [Int.natAbs_mul]; exact mul_lt2 (ndR ha) (ndR hb)) (by decide))
  rw [← add_isR] at m
  have w1 := wideS' ha.1 (by decide)
  have w2 := wideS' hb.1 (by decide)
  have w3 := wideS' (ndR ha) (by decide)
  have w4 := wideS' (ndR hb) (by decide)
  rw [run_fn' hj rfl rfl]
  show endF false (evSs P.tab (rnP P wf (n + 3)) wf (tAdd I.c I.asam I.fo I.fu) [some (.v (amD I a)), some (.v d), none, none] st) = _
  unfold tAdd
  simp only [evSs, evS, make_ev K]
  simp [ev, evs, slotV, at_fo K, at_fu K, binI', addI', mulI', c, Res.fl, Res.bind, w1, w2, w3, w4, m, endF]
theorem mul' (K : AmtOK P I) (hwf : 2 ^ 4096 ≤ wf) {j : Nat} (hj : P.fn[j]? = some ⟨3, 2, tMul I.c I.asam I.fo I.fu, none, false⟩) {d : D} {a b : Rat} (o : OpQ I d b) (ha : Sz 1000 a) (hb : Sz 1000 b) : rnP P wf (n + 4) j [amD I a, d] st = .ok (amD I (a * b)) st := by
  have c := as_op' (st := st) (n := n) K hwf o hb (by decide)
  have m := make' (st := st) (n := n + 1) K hwf (a.num * b.num) ((a.den : Int) * b.den) (den_neR a b) (pw' (by rw [Int.natAbs_mul]; exact mul_lt2 ha.1 hb.1) (by decide)) (pw' (by rw [Int.natAbs_mul]; exact mul_lt2 (ndR ha) (ndR hb)) (by decide))
  rw [← mul_isR] at m
  have w1 := wideS' ha.1 (by decide)
  have w2 := wideS' hb.1 (by decide)
  have w3 := wideS' (ndR ha) (by decide)
  have w4 := wideS' (ndR hb) (by decide)
  rw [run_fn' hj rfl rfl]
  show endF false (evSs P.tab (rnP P wf (n + 3)) wf (tMul I.c I.asam I.fo I.fu) [some (.v (amD I a)), some (.v d), none] st) = _
  unfold tMul
  simp only [evSs, evS, make_ev K]
  simp [ev, evs, slotV, at_fo K, at_fu K, binI', addI', mulI', c, Res.fl, Res.bind, w1, w2, w3, w4, m, endF]
theorem neg' (K : AmtOK P I) (hwf : 2 ^ 4096 ≤ wf) {j : Nat} (hj : P.fn[j]? = some ⟨1, 1, tNeg I.c I.fo I.fu, none, false⟩) {a : Rat} (ha : Sz 1000 a) : rnP P wf (n + 3) j [amD I a] st = .ok (amD I (-a)) st := by
  have m := make' (st := st) (n := n) K hwf (-a.num) a.den (den0R a) (pw' (k := 1000) (by rw [Int.natAbs_neg]; exact ha.1) (by decide)) (pw' (ndR ha) (by decide))
  have e : Rat.divInt (-a.num) a.den = -a := by rw [← Rat.neg_divInt, Rat.num_divInt_den]
  rw [e] at m
  rw [run_fn' hj rfl rfl]
  show endF false (evSs P.tab (rnP P wf (n + 2)) wf (tNeg I.c I.fo I.fu) [some (.v (amD I a))] st) = _
  unfold tNeg
  simp only [evSs, evS, make_ev K]
  simp [ev, evs, slotV, at_fo K, at_fu K, negD, Res.fl, Res.bind, m, endF]
theorem cmp' (K : AmtOK P I) (hwf : 2 ^ 4096 ≤ wf) {j : Nat} (hj : P.fn[j]? = some ⟨5, 2, tCmp I.asam I.fo I.fu, none, false⟩) {d : D} {a b : Rat} (o : OpQ I d b) (ha : Sz 1000 a) (hb : Sz 1000 b) : rnP P wf (n + 4) j [amD I a, d] st = .ok (.int (cmpQ a b)) st := by
  have c := as_op' (st := st) (n := n) K hwf o hb (by decide)
  have w1 := wideS' ha.1 (by decide)
  have w2 := wideS' hb.1 (by decide)
  have w3 := wideS' (ndR ha) (by decide)
  have w4 := wideS' (ndR hb) (by decide)
  rw [run_fn' hj rfl rfl]
  show endF false (evSs P.tab (rnP P wf (n + 3)) wf (tCmp I.asam I.fo I.fu) [some (.v (amD I a)), some (.v d), none, none, none] st) = _
  unfold tCmp
  simp [evSs, evS, evT, ev, evs, slotV, at_fo K, at_fu K, binI', addI', subI', mulI', c, Res.fl, Res.bind, w1, w2, w3, w4, endF, cmpD, bltD, cmpQ, Rat.lt_iff]
theorem pair' (K : AmtOK P I) {j : Nat} (hj : P.fn[j]? = some ⟨1, 1, tPair I.fo I.fu, none, false⟩) (a : Rat) : rnP P wf (n + 1) j [amD I a] st = .ok (.tup [.int a.num, .int a.den]) st := by
  rw [run_fn' hj rfl rfl]
  show endF false (evSs P.tab (rnP P wf n) wf (tPair I.fo I.fu) [some (.v (amD I a))] st) = _
  unfold tPair
  simp [evSs, evS, ev, evs, slotV, at_fo K, at_fu K, Res.fl, Res.bind, endF]
theorem down' (K : AmtOK P I) {j : Nat} (hj : P.fn[j]? = some ⟨1, 1, tDown I.fo I.fu, none, false⟩) {a : Rat} (ha : Sz 1000 a) : rnP P wf (n + 1) j [amD I a] st = .ok (.int a.floor) st := by
  have w1 := wideS' ha.1 (by decide)
  have w3 := wideS' (ndR ha) (by decide)
  have p : 0 < (a.den : Int) := by have := a.den_pos; omega
  rw [run_fn' hj rfl rfl]
  show endF false (evSs P.tab (rnP P wf n) wf (tDown I.fo I.fu) [some (.v (amD I a))] st) = _
  unfold tDown
  simp only [evSs, evS, ev, slotV, at_fo K, at_fu K, binI', fdivI' p w1 w3, Res.fl, Res.bind, endF, List.getElem?_cons_zero, Rat.floor_def]
theorem up' (K : AmtOK P I) {j : Nat} (hj : P.fn[j]? = some ⟨1, 1, tUp I.fo I.fu, none, false⟩) {a : Rat} (ha : Sz 1000 a) : rnP P wf (n + 1) j [amD I a] st = .ok (.int (-(-a).floor)) st := by
  have w1 : wide (-a.num) = true := wideS' (k := 1000) (by rw [Int.natAbs_neg]; exact ha.1) (by decide)
  have w3 := wideS' (ndR ha) (by decide)
  have p : 0 < (a.den : Int) := by have := a.den_pos; omega
  rw [run_fn' hj rfl rfl]
  show endF false (evSs P.tab (rnP P wf n) wf (tUp I.fo I.fu) [some (.v (amD I a))] st) = _
  unfold tUp
  simp only [evSs, evS, ev, slotV, at_fo K, at_fu K, binI', negD, fdivI' p w1 w3, Res.fl, Res.bind, endF, List.getElem?_cons_zero, Rat.floor_def, neg_numR, neg_denR]
/-- an own method of two, by an operator -/
theorem bin_am (K : AmtOK P I) (call : Nat → List D → Store → Res D) {op : Bo} {m r j : Nat} (h : opN op = some (m, r)) (hm : methOf P.tab I.c m = some j) (a b : Rat) : binD P.tab call op (amD I a) (amD I b) st = call j [amD I a, amD I b] st := by
  unfold binD amD
  dsimp only
  rw [h]
  dsimp only
  rw [hm]
  simp
theorem bin_ai (K : AmtOK P I) (call : Nat → List D → Store → Res D) {op : Bo} {m r j : Nat} (h : opN op = some (m, r)) (hm : methOf P.tab I.c m = some j) (a : Rat) (i : Int) : binD P.tab call op (amD I a) (.int i) st = call j [amD I a, .int i] st := by
  unfold binD amD
  dsimp only
  rw [h]
  dsimp only
  rw [hm]
theorem bin_ia (K : AmtOK P I) (call : Nat → List D → Store → Res D) {op : Bo} {m r j j0 : Nat} (h : opN op = some (m, r)) (hr : methOf P.tab I.c r = some j) (hm : methOf P.tab I.c m = some j0) (a : Rat) (i : Int) : binD P.tab call op (.int i) (amD I a) st = call j [amD I a, .int i] st := by
  unfold binD amD
  dsimp only
  rw [h]
  dsimp only
  rw [hr, hm]
theorem neg_am (K : AmtOK P I) (call : Nat → List D → Store → Res D) {j : Nat} (hm : methOf P.tab I.c nNeg = some j) (a : Rat) : negD P.tab call (amD I a) st = call j [amD I a] st := by
  unfold negD amD
  dsimp only
  rw [hm]
theorem sub' (K : AmtOK P I) (hwf : 2 ^ 4096 ≤ wf) {j jn ja : Nat} (hj : P.fn[j]? = some ⟨2, 2, tSub I.asam, none, false⟩) (mn : methOf P.tab I.c nNeg = some jn) (hn : P.fn[jn]? = some ⟨1, 1, tNeg I.c I.fo I.fu, none, false⟩) (ma : methOf P.tab I.c nAdd = some ja) (hja : P.fn[ja]? = some ⟨4, 2, tAdd I.c I.asam I.fo I.fu, none, false⟩)
    {d : D} {a b : Rat} (o : OpQ I d b) (ha : Sz 1000 a) (hb : Sz 1000 b) : rnP P wf (n + 5) j [amD I a, d] st = .ok (amD I (a - b)) st := by
  have c := as_op' (st := st) (n := n + 1) K hwf o hb (by decide)
  have c2 := neg' (st := st) (n := n + 1) K hwf hn hb
  have c3 := add' (st := st) (n := n) K hwf hja (OpQ.am (-b)) ha (Sz_neg hb)
  rw [run_fn' hj rfl rfl]
  show endF false (evSs P.tab (rnP P wf (n + 4)) wf (tSub I.asam) [some (.v (amD I a)), some (.v d)] st) = _
  have e1 := neg_am (st := st) K (rnP P wf (n + 4)) mn b
  have e2 := bin_am (st := st) K (rnP P wf (n + 4)) (op := .add) rfl ma a (-b)
  unfold tSub
  simp only [evSs, evS, ev, evs, slotV, c, c2, c3, e1, e2, Res.fl, Res.bind, endF, List.getElem?_cons_zero, List.getElem?_cons_succ, List.append_nil, Rat.sub_eq_add_neg]
theorem rsub' (K : AmtOK P I) (hwf : 2 ^ 4096 ≤ wf) {j jn ja : Nat} (hj : P.fn[j]? = some ⟨2, 2, tRsub, none, false⟩) (mn : methOf P.tab I.c nNeg = some jn) (hn : P.fn[jn]? = some ⟨1, 1, tNeg I.c I.fo I.fu, none, false⟩) (ma : methOf P.tab I.c nAdd = some ja) (hja : P.fn[ja]? = some ⟨4, 2, tAdd I.c I.asam I.fo I.fu, none, false⟩)
    {i : Int} {a : Rat} (ha : Sz 1000 a) (hb : Sz 1000 (i : Rat)) : rnP P wf (n + 5) j [amD I a, .int i] st = .ok (amD I (-a + i)) st := by
  have c2 := neg' (st := st) (n := n + 1) K hwf hn ha
  have c3 := add' (st := st) (n := n) K hwf hja (OpQ.int i) (Sz_neg ha) hb
  rw [run_fn' hj rfl rfl]
  show endF false (evSs P.tab (rnP P wf (n + 4)) wf tRsub [some (.v (amD I a)), some (.v (.int i))] st) = _
  have e1 := neg_am (st := st) K (rnP P wf (n + 4)) mn a
  have e2 := bin_ai (st := st) K (rnP P wf (n + 4)) (op := .add) rfl ma (-a) i
  unfold tRsub
  simp only [evSs, evS, ev, evs, slotV, c2, c3, e1, e2, Res.fl, Res.bind, endF, List.getElem?_cons_zero, List.getElem?_cons_succ, List.append_nil]
end
end Eng

namespace K17
open Eng
/-- law -/
def b0 : Ss := (.cons (.set 1 (.call 1 (.cons (.var 0) .nil) []))
  (.cons (.ite (.not (.call 2 .nil [])) (.cons (.ret (.bl false))
  .nil) .nil)
  (.cons (.for [2] (.rng1 (.call 3 (.cons (.var 0) (.cons (.int 4) .nil)) [])) (.cons (.set 3 (.call 4 (.cons (.var 1) (.cons (.int 4) (.cons (.int 3) (.cons (.cmp .eq (.var 2) (.int 3)) .nil)))) []))
  (.cons (.set 4 (.call 5 (.cons (.var 1) (.cons (.var 3) .nil)) []))
  (.cons (.ite (.not (.call 6 (.cons (.var 3) (.cons (.var 4) .nil)) [])) (.cons (.ret (.bl false))
  .nil) .nil)
  (.cons (.set 5 (.blt .tuple (.lc (.blt .tuple (.lc (.bin .add (.var 7) (.bin .mul (.bin .mul (.int 9) (.bin .pow (.int 10) (.int 5))) (.call 7 (.cons (.var 1) (.cons (.int 2) .nil)) []))) [7] (.seq (.var 6)) .nil)) [6] (.seq (.var 4)) .nil)))
  (.cons (.ite (.not (.call 6 (.cons (.var 3) (.cons (.var 5) .nil)) [])) (.cons (.ret (.bl false))
  .nil) .nil)
  .nil))))))
  (.cons (.ret (.bl true))
  .nil))))
def f0 : FnI := ⟨some "law", ["_law_script", "_law_feed_here", "_law_attempt", "_law_place", "_law_coins", "_law_great", "_law_row", "_law_one", "0"], ["_law_script"], [], b0, none, false, false⟩
/-- _law_feed -/
def b1 : Ss := (.cons (.ret (.dict [10, 11, 12, 13] (.cons (.blt .list (.sl (.var 0) .non (.int 63))) (.cons (.int 0) (.cons (.int 0) (.cons (.int 0) .nil))))))
  .nil)
def f1 : FnI := ⟨some "_law_feed", ["_law_script"], ["_law_script"], [], b1, none, false, false⟩
/-- _law_by_hand -/
def b2 : Ss := (.cons (.parN [(5, false), (6, false)] (.cons (.tup (.cons (.int 1) (.cons (.int 2) .nil))) (.cons (.tup (.cons (.int 0) (.cons (.int 1) .nil))) .nil)))
  (.cons (.set 0 (.tup (.cons (.tup (.cons (.str "a") (.cons (.var 5) (.cons (.int 1) (.cons (.bl true) .nil))))) (.cons (.tup (.cons (.str "b") (.cons (.var 5) (.cons (.int 0) (.cons (.bl true) .nil))))) (.cons (.tup (.cons (.str "c") (.cons (.var 5) (.cons (.int 0) (.cons (.bl true) .nil))))) .nil)))))
  (.cons (.par 7 3 (.tup (.cons (.var 0) (.cons (.tup .nil) (.cons (.tup (.cons (.tup (.cons (.var 6) (.cons (.var 5) (.cons (.var 5) .nil)))) .nil)) .nil)))) (.tup (.cons (.str "account") (.cons (.int 0) .nil))))
  (.cons (.set 1 (.lst (.cons (.call 8 (.cons (.var 7) (.cons (.var 3) .nil)) []) (.cons (.call 9 (.cons (.var 7) (.cons (.var 3) .nil)) []) (.cons (.call 10 (.cons (.var 7) (.cons (.var 3) .nil)) []) (.cons (.call 11 (.cons (.var 7) (.cons (.var 3) .nil)) []) .nil))))))
  (.cons (.ite (.cmp .ne (.repr (.var 1)) (.repr (.lst (.cons (.tup (.cons (.int 5) (.cons (.int 2) .nil))) (.cons (.int 2) (.cons (.int 3) (.cons (.int 1) .nil))))))) (.cons (.ret (.bl false))
  .nil) .nil)
  (.cons (.set 2 (.tup (.cons (.tup (.cons (.tup (.cons (.str "a") (.cons (.tup (.cons (.int 7) (.cons (.int 3) .nil))) (.cons (.neg (.int 4)) (.cons (.bl true) .nil))))) (.cons (.tup (.cons (.str "b") (.cons (.tup (.cons (.int 9) (.cons (.int 1) .nil))) (.cons (.int 8) (.cons (.bl false) .nil))))) .nil))) (.cons (.tup (.cons (.tup (.cons (.str "a") (.cons (.str "b") .nil))) .nil)) (.cons (.tup (.cons (.tup (.cons (.tup (.cons (.int 2) (.cons (.int 3) .nil))) (.cons (.var 6) .nil))) .nil)) .nil)))))
  (.cons (.set 3 (.tup (.cons (.str "account") (.cons (.int 0) .nil))))
  (.cons (.set 1 (.lst (.cons (.call 8 (.cons (.var 2) (.cons (.var 3) .nil)) []) (.cons (.call 9 (.cons (.var 2) (.cons (.var 3) .nil)) []) (.cons (.call 10 (.cons (.var 2) (.cons (.var 3) .nil)) []) (.cons (.call 11 (.cons (.var 2) (.cons (.var 3) .nil)) []) .nil))))))
  (.cons (.set 1 (.bin .add (.var 1) (.lst (.cons (.call 8 (.cons (.var 2) (.cons (.tup (.cons (.str "line") (.cons (.int 1) (.cons (.int 0) .nil)))) .nil)) []) (.cons (.call 8 (.cons (.var 2) (.cons (.tup (.cons (.str "section") (.cons (.int 0) (.cons (.int 0) .nil)))) .nil)) []) (.cons (.call 11 (.cons (.var 2) (.cons (.tup (.cons (.str "day") (.cons (.int 0) .nil))) .nil)) []) .nil))))))
  (.cons (.ite (.cmp .ne (.repr (.var 1)) (.repr (.lst (.cons (.tup (.cons (.int 12) (.cons (.int 1) .nil))) (.cons (.int 12) (.cons (.int 12) (.cons (.int 4) (.cons (.tup (.cons (.int 9) (.cons (.int 1) .nil))) (.cons (.tup (.cons (.int 2) (.cons (.int 3) .nil))) (.cons (.int 0) .nil)))))))))) (.cons (.ret (.bl false))
  .nil) .nil)
  (.cons (.set 4 (.tup (.cons (.tup (.cons (.tup (.cons (.str "a") (.cons (.tup (.cons (.int 400000) (.cons (.int 1) .nil))) (.cons (.int 400000) (.cons (.bl true) .nil))))) (.cons (.tup (.cons (.str "b") (.cons (.tup (.cons (.int 999999) (.cons (.int 2) .nil))) (.cons (.int 500000) (.cons (.bl true) .nil))))) .nil))) (.cons (.tup .nil) (.cons (.tup (.cons (.tup (.cons (.var 6) (.cons (.var 5) .nil))) .nil)) .nil)))))
  (.cons (.own 1 (.lst (.cons (.call 8 (.cons (.var 4) (.cons (.var 3) .nil)) []) (.cons (.call 11 (.cons (.var 4) (.cons (.var 3) .nil)) []) (.cons (.call 12 (.cons (.var 4) (.cons (.tup (.cons (.tup (.cons (.int 0) (.cons (.int 0) .nil))) .nil)) (.cons (.var 3) .nil))) []) .nil)))))
  (.cons (.app 1 (.call 8 (.cons (.var 4) (.cons (.tup (.cons (.str "line") (.cons (.int 1) (.cons (.int 0) .nil)))) .nil)) []))
  (.cons (.frz 1)
  (.cons (.ret (.cmp .eq (.repr (.var 1)) (.repr (.lst (.cons (.tup (.cons (.int 900000) (.cons (.int 1) .nil))) (.cons (.int 900000) (.cons (.int 900000) (.cons (.tup (.cons (.int 500000) (.cons (.int 1) .nil))) .nil))))))))
  .nil)))))))))))))))
def f2 : FnI := ⟨some "_law_by_hand", ["_law_heads_here", "_law_found", "_law_ended", "_law_one", "_law_great", "_law_half", "_law_zero", "_law_place", "0"], [], [], b2, none, false, false⟩
/-- _law_laps -/
def b3 : Ss := (.cons (.ret (.ite (.cmp .ne (.var 0) (.lst .nil)) (.var 1) (.int 1)))
  .nil)
def f3 : FnI := ⟨some "_law_laps", ["_law_script", "_law_count"], ["_law_script", "_law_count"], [], b3, none, false, false⟩
/-- _law_case -/
def b4 : Ss := (.cons (.set 4 (.call 13 (.cons (.var 0) (.cons (.var 1) .nil)) []))
  (.cons (.set 5 (.call 14 (.cons (.var 0) (.cons (.var 4) (.cons (.var 3) .nil))) []))
  (.cons (.set 6 (.call 15 (.cons (.var 0) (.cons (.var 4) .nil)) []))
  (.cons (.ret (.tup (.cons (.var 5) (.cons (.var 6) (.cons (.call 16 (.cons (.var 0) (.cons (.var 5) (.cons (.call 7 (.cons (.var 0) (.cons (.bin .add (.var 2) (.int 1)) .nil)) []) .nil))) []) .nil)))))
  .nil))))
def f4 : FnI := ⟨some "_law_case", ["_law_feed_here", "_law_most_lines", "_law_most_days", "_law_is_fresh", "_law_names_here", "_law_heads_here", "_law_groups_here"], ["_law_feed_here", "_law_most_lines", "_law_most_days", "_law_is_fresh"], [], b4, none, false, false⟩
/-- _law_some_coins -/
def b5 : Ss := (.cons (.own 2 (.lst .nil))
  (.cons (.for [3] (.seq (.idx (.var 1) (.int 2))) (.cons (.app 2 (.blt .tuple (.lc (.call 17 (.cons (.var 0) (.cons (.lst (.cons (.call 18 (.cons (.var 4) .nil) []) (.cons (.call 19 (.cons (.var 4) .nil) []) .nil))) .nil)) []) [4] (.seq (.var 3)) .nil)))
  .nil))
  (.cons (.frz 2)
  (.cons (.ret (.blt .tuple (.var 2)))
  .nil))))
def f5 : FnI := ⟨some "_law_some_coins", ["_law_feed_here", "_law_place", "_law_found", "_law_row", "_law_one"], ["_law_feed_here", "_law_place"], [], b5, none, false, false⟩
/-- _law_agrees -/
def b6 : Ss := (.cons (.set 2 (.repr (.tup (.cons (.var 0) (.cons (.var 1) .nil)))))
  (.cons (.for [3, 4, 5, 6, 7] (.seq (.call 20 (.cons (.var 0) .nil) [])) (.cons (.set 8 (.lst (.cons (.call 8 (.cons (.var 0) (.cons (.var 3) .nil)) []) (.cons (.call 9 (.cons (.var 0) (.cons (.var 3) .nil)) []) (.cons (.call 10 (.cons (.var 0) (.cons (.var 3) .nil)) []) (.cons (.call 11 (.cons (.var 0) (.cons (.var 3) .nil)) []) .nil))))))
  (.cons (.ite (.cmp .ne (.repr (.var 8)) (.repr (.lst (.cons (.call 21 (.cons (.var 0) (.cons (.var 3) .nil)) []) (.cons (.var 5) (.cons (.var 6) (.cons (.var 7) .nil))))))) (.cons (.ret (.bl false))
  .nil) .nil)
  (.cons (.set 9 (.bin .add (.var 7) (.blt .sum (.lc (.idx (.idx (.var 1) (.var 10)) (.var 11)) [10, 11] (.seq (.var 4)) .nil))))
  (.cons (.ite (.cmp .ne (.repr (.call 12 (.cons (.var 0) (.cons (.var 1) (.cons (.var 3) .nil))) [])) (.repr (.var 9))) (.cons (.ret (.bl false))
  .nil) .nil)
  .nil)))))
  (.cons (.ret (.cmp .eq (.repr (.tup (.cons (.var 0) (.cons (.var 1) .nil)))) (.var 2)))
  .nil)))
def f6 : FnI := ⟨some "_law_agrees", ["_law_place", "_law_coins", "_law_before", "_law_one", "_law_inside_here", "_law_least", "_law_most", "_law_fixed_here", "_law_found", "_law_many", "_law_d", "_law_i", "0"], ["_law_place", "_law_coins"], [], b6, none, false, false⟩
/-- _law_draw -/
def b7 : Ss := (.cons (.dput (.var 0) 13 (.bin .add (.dget (.var 0) 13) (.int 1)))
  (.cons (.ite (.cmp .eq (.dget (.var 0) 10) (.lst .nil)) (.cons (.ret (.bin .mod (.dget (.var 0) 13) (.var 1)))
  .nil) .nil)
  (.cons (.ite (.cmp .gt (.dget (.var 0) 12) (.int 0)) (.cons (.set 5 (.bin .mod (.dget (.var 0) 12) (.var 1)))
  (.cons (.dput (.var 0) 12 (.bin .fdiv (.dget (.var 0) 12) (.var 1)))
  (.cons (.ret (.var 5))
  .nil))) .nil)
  (.cons (.set 2 (.dget (.var 0) 11))
  (.cons (.dput (.var 0) 11 (.bin .add (.var 2) (.int 1)))
  (.cons (.set 3 (.idx (.dget (.var 0) 10) (.bin .mod (.var 2) (.blt .len (.dget (.var 0) 10)))))
  (.cons (.ite (.and (.cons (.cmp .ge (.var 3) (.bin .pow (.int 10) (.int 18))) (.cons (.cmp .lt (.var 2) (.blt .len (.dget (.var 0) 10))) .nil))) (.cons (.dput (.var 0) 12 (.bin .fdiv (.var 3) (.var 1)))
  (.cons (.ret (.bin .mod (.var 3) (.var 1)))
  .nil)) .nil)
  (.cons (.set 4 (.bin .mod (.bin .add (.bin .add (.bin .mod (.var 3) (.int 1000001723)) (.bin .mul (.int 96293) (.dget (.var 0) 13))) (.int 617)) (.int 2147483587)))
  (.cons (.set 4 (.bin .mod (.bin .add (.bin .add (.bin .pow (.var 4) (.int 3)) (.bin .mul (.int 7400377) (.dget (.var 0) 13))) (.int 331)) (.int 2147483497)))
  (.cons (.ret (.bin .mod (.bin .fdiv (.bin .mod (.bin .add (.bin .pow (.var 4) (.int 3)) (.bin .mul (.int 323) (.var 4))) (.int 2147483489)) (.int 32)) (.var 1)))
  .nil))))))))))
def f7 : FnI := ⟨some "_law_draw", ["_law_feed_here", "_law_many", "_law_at", "_law_cell", "_law_mixed", "_law_figure"], ["_law_feed_here", "_law_many"], [], b7, none, false, false⟩
/-- exact_of -/
def b8 : Ss := (.cons (.ret (.attr 14 (.call 22 (.cons (.var 0) (.cons (.var 1) .nil)) [])))
  .nil)
def f8 : FnI := ⟨some "exact_of", ["sheet", "which"], ["sheet", "which"], [], b8, none, false, false⟩
/-- least_of -/
def b9 : Ss := (.cons (.ret (.attr 15 (.call 22 (.cons (.var 0) (.cons (.var 1) .nil)) [])))
  .nil)
def f9 : FnI := ⟨some "least_of", ["sheet", "which"], ["sheet", "which"], [], b9, none, false, false⟩
/-- most_of -/
def b10 : Ss := (.cons (.ret (.attr 16 (.call 22 (.cons (.var 0) (.cons (.var 1) .nil)) [])))
  .nil)
def f10 : FnI := ⟨some "most_of", ["sheet", "which"], ["sheet", "which"], [], b10, none, false, false⟩
/-- fixed_of -/
def b11 : Ss := (.cons (.ret (.blt .sum (.lc (.var 4) [2, 3, 4, 5] (.seq (.call 23 (.cons (.var 0) (.cons (.var 1) .nil)) [])) .nil)))
  .nil)
def f11 : FnI := ⟨some "fixed_of", ["sheet", "which", "name", "exact", "cents", "goes_on"], ["sheet", "which"], [], b11, none, false, false⟩
/-- cents_of -/
def b12 : Ss := (.cons (.ret (.bin .add (.call 11 (.cons (.var 0) (.cons (.var 2) .nil)) []) (.blt .sum (.lc (.idx (.idx (.var 1) (.var 3)) (.var 4)) [3, 4] (.seq (.call 24 (.cons (.var 0) (.cons (.var 2) .nil)) [])) .nil))))
  .nil)
def f12 : FnI := ⟨some "cents_of", ["sheet", "booking", "which", "d", "i"], ["sheet", "booking", "which"], [], b12, none, false, false⟩
/-- _law_names -/
def b13 : Ss := (.cons (.own 2 (.lst (.cons (.str "a") (.cons (.str "bb") (.cons (.str "day") (.cons (.str "ended") (.cons (.str "line") (.cons (.str "zzzzzzzz") .nil))))))))
  (.cons (.set 3 (.bin .add (.int 1) (.call 7 (.cons (.var 0) (.cons (.var 1) .nil)) [])))
  (.cons (.whl (.cmp .gt (.blt .len (.bor 2)) (.var 3)) (.cons (.popo 2 (.call 7 (.cons (.var 0) (.cons (.blt .len (.bor 2)) .nil)) []))
  .nil))
  (.cons (.ret (.bor 2))
  .nil))))
def f13 : FnI := ⟨some "_law_names", ["_law_feed_here", "_law_most", "_law_names_here", "_law_count"], ["_law_feed_here", "_law_most"], [], b13, none, true, false⟩
/-- _law_heads -/
def b14 : Ss := (.cons (.own 3 (.lst .nil))
  (.cons (.for [4] (.seq (.var 1)) (.cons (.par 6 7 (.call 25 (.cons (.var 0) .nil) []) (.call 17 (.cons (.var 0) (.cons (.lst (.cons (.int 0) (.cons (.int 0) (.cons (.int 0) (.cons (.int 1) (.cons (.neg (.int 1)) .nil)))))) .nil)) []))
  (.cons (.set 5 (.tup (.cons (.var 4) (.cons (.var 6) (.cons (.bin .add (.bin .add (.call 18 (.cons (.var 6) .nil) []) (.call 7 (.cons (.var 0) (.cons (.int 2) .nil)) [])) (.var 7)) (.cons (.cmp .gt (.call 7 (.cons (.var 0) (.cons (.int 5) .nil)) []) (.int 0)) .nil))))))
  (.cons (.app 3 (.ite (.var 2) (.tup (.cons (.var 4) (.cons (.tup (.cons (.int 0) (.cons (.int 1) .nil))) (.cons (.int 0) (.cons (.bl true) .nil))))) (.var 5)))
  .nil))))
  (.cons (.frz 3)
  (.cons (.ret (.blt .tuple (.var 3)))
  .nil))))
def f14 : FnI := ⟨some "_law_heads", ["_law_feed_here", "_law_names_here", "_law_is_fresh", "_law_found", "_law_name", "_law_row", "_law_worth", "_law_off"], ["_law_feed_here", "_law_names_here", "_law_is_fresh"], [], b14, none, false, false⟩
/-- _law_groups -/
def b15 : Ss := (.cons (.own 2 (.lst .nil))
  (.cons (.for [3] (.rng1 (.call 7 (.cons (.var 0) (.cons (.int 4) .nil)) [])) (.cons (.set 4 (.blt .tuple (.lc (.var 5) [5] (.seq (.var 1)) (.cons (.cmp .eq (.call 7 (.cons (.var 0) (.cons (.int 2) .nil)) []) (.int 0)) .nil))))
  (.cons (.ite (.and (.cons (.cmp .gt (.blt .len (.var 4)) (.int 1)) (.cons (.cmp .notin (.var 4) (.bor 2)) (.cons (.callB 26 (.cons (.var 4) (.cons (.bor 2) .nil))) .nil)))) (.cons (.app 2 (.var 4))
  .nil) .nil)
  .nil)))
  (.cons (.frz 2)
  (.cons (.ret (.blt .tuple (.blt .sorted (.var 2))))
  .nil))))
def f15 : FnI := ⟨some "_law_groups", ["_law_feed_here", "_law_names_here", "_law_found", "_law_lap", "_law_some", "_law_name"], ["_law_feed_here", "_law_names_here"], [], b15, none, false, false⟩
/-- _law_charges -/
def b16 : Ss := (.cons (.own 3 (.lst .nil))
  (.cons (.for [4] (.rng1 (.var 2)) (.cons (.own 5 (.lst .nil))
  (.cons (.for [6] (.seq (.var 1)) (.cons (.set 7 (.call 25 (.cons (.var 0) .nil) []))
  (.cons (.app 5 (.ite (.and (.cons (.idx (.var 6) (.int 3)) (.cons (.cmp .gt (.call 7 (.cons (.var 0) (.cons (.int 4) .nil)) []) (.int 0)) .nil))) (.var 7) (.tup (.cons (.int 0) (.cons (.int 1) .nil)))))
  .nil)))
  (.cons (.frz 5)
  (.cons (.app 3 (.blt .tuple (.var 5)))
  .nil)))))
  (.cons (.frz 3)
  (.cons (.ret (.blt .tuple (.var 3)))
  .nil))))
def f16 : FnI := ⟨some "_law_charges", ["_law_feed_here", "_law_heads_here", "_law_count", "_law_found", "_law_d", "_law_row", "_law_head", "_law_charge_here"], ["_law_feed_here", "_law_heads_here", "_law_count"], [], b16, none, false, false⟩
/-- _law_choice -/
def b17 : Ss := (.cons (.ret (.idx (.var 1) (.call 7 (.cons (.var 0) (.cons (.blt .len (.var 1)) .nil)) [])))
  .nil)
def f17 : FnI := ⟨some "_law_choice", ["_law_feed_here", "_law_some"], ["_law_feed_here", "_law_some"], [], b17, none, false, false⟩
/-- _law_down -/
def b18 : Ss := (.cons (.ret (.bin .fdiv (.idx (.var 0) (.int 0)) (.idx (.var 0) (.int 1))))
  .nil)
def f18 : FnI := ⟨some "_law_down", ["_law_worth"], ["_law_worth"], [], b18, none, false, false⟩
/-- _law_up -/
def b19 : Ss := (.cons (.ret (.bin .sub (.int 0) (.bin .fdiv (.bin .sub (.int 0) (.idx (.var 0) (.int 0))) (.idx (.var 0) (.int 1)))))
  .nil)
def f19 : FnI := ⟨some "_law_up", ["_law_worth"], ["_law_worth"], [], b19, none, false, false⟩
/-- _law_rows -/
def b20 : Ss := (.cons (.own 1 (.lst .nil))
  (.cons (.for [2] (.seq (.call 27 (.cons (.var 0) .nil) [])) (.cons (.set 3 (.call 21 (.cons (.var 0) (.cons (.var 2) .nil)) []))
  (.cons (.app 1 (.tup (.cons (.var 2) (.cons (.call 28 (.cons (.var 0) (.cons (.var 2) .nil)) []) (.cons (.call 18 (.cons (.var 3) .nil) []) (.cons (.call 19 (.cons (.var 3) .nil) []) (.cons (.call 29 (.cons (.var 0) (.cons (.var 2) .nil)) []) .nil)))))))
  .nil)))
  (.cons (.ret (.bor 1))
  .nil)))
def f20 : FnI := ⟨some "_law_rows", ["_law_place", "_law_found", "_law_one", "_law_worth"], ["_law_place"], [], b20, none, true, false⟩
/-- _law_exact -/
def b21 : Ss := (.cons (.set 2 (.tup (.cons (.int 0) (.cons (.int 1) .nil))))
  (.cons (.for [3] (.seq (.call 30 (.cons (.var 0) (.cons (.var 1) .nil)) [])) (.cons (.set 2 (.call 31 (.cons (.var 2) (.cons (.idx (.var 3) (.int 1)) .nil)) []))
  .nil))
  (.cons (.for [4, 5] (.seq (.call 28 (.cons (.var 0) (.cons (.var 1) .nil)) [])) (.cons (.set 2 (.call 31 (.cons (.var 2) (.cons (.idx (.idx (.idx (.var 0) (.int 2)) (.var 4)) (.var 5)) .nil)) []))
  .nil))
  (.cons (.ret (.var 2))
  .nil))))
def f21 : FnI := ⟨some "_law_exact", ["_law_place", "_law_one", "_law_worth", "_law_head", "_law_d", "_law_i"], ["_law_place", "_law_one"], [], b21, none, false, false⟩
/-- exact_amount -/
def b22 : Ss := (.cons (.set 2 (.make 0 (.cons (.int 0) .nil) [(.int 1)]))
  (.cons (.for [3, 4, 5, 6] (.seq (.call 23 (.cons (.var 0) (.cons (.var 1) .nil)) [])) (.cons (.set 2 (.bin .add (.var 2) (.make 0 (.cons (.idx (.var 4) (.int 0)) (.cons (.idx (.var 4) (.int 1)) .nil)) [])))
  .nil))
  (.cons (.for [7, 8] (.seq (.call 24 (.cons (.var 0) (.cons (.var 1) .nil)) [])) (.cons (.unp [9, 10] (.idx (.idx (.idx (.var 0) (.int 2)) (.var 7)) (.var 8)))
  (.cons (.set 2 (.bin .add (.var 2) (.make 0 (.cons (.var 9) (.cons (.var 10) .nil)) [])))
  .nil)))
  (.cons (.ret (.var 2))
  .nil))))
def f22 : FnI := ⟨some "exact_amount", ["sheet", "which", "found", "name", "exact", "cents", "goes_on", "d", "i", "over", "under"], ["sheet", "which"], [], b22, none, false, false⟩
/-- rows_in -/
def b23 : Ss := (.cons (.ite (.cmp .eq (.idx (.var 1) (.int 0)) (.str "account")) (.cons (.ret (.idx (.var 0) (.int 0)))
  .nil) .nil)
  (.cons (.ret (.ite (.cmp .eq (.idx (.var 1) (.int 0)) (.str "line")) (.tup (.cons (.idx (.idx (.var 0) (.int 0)) (.idx (.var 1) (.int 1))) .nil)) (.tup .nil)))
  .nil))
def f23 : FnI := ⟨some "rows_in", ["sheet", "which"], ["sheet", "which"], [], b23, none, false, false⟩
/-- entries_of -/
def b24 : Ss := (.cons (.unp [2, 3, 4] (.var 0))
  (.cons (.parN [(5, false), (6, false), (7, false)] (.cons (.lrng (.blt .len (.var 2))) (.cons (.idx (.var 1) (.int 0)) (.cons (.idx (.var 1) (.neg (.int 1))) .nil))))
  (.cons (.mtch (.var 6) (.cons ["account"] (.cons (.ret (.blt .tuple (.lc2 (.tup (.cons (.var 8) (.cons (.var 9) .nil))) [8] (.rng1 (.bin .add (.var 7) (.int 1))) [9] (.seq (.var 5)))))
  .nil) (.cons ["day"] (.cons (.ret (.blt .tuple (.lc (.tup (.cons (.var 7) (.cons (.var 9) .nil))) [9] (.seq (.var 5)) .nil)))
  .nil) (.cons ["line"] (.cons (.ret (.blt .tuple (.lc (.tup (.cons (.var 8) (.cons (.idx (.var 1) (.int 1)) .nil))) [8] (.rng1 (.bin .add (.var 7) (.int 1))) .nil)))
  .nil) (.cons ["section"] (.cons (.ret (.blt .tuple (.lc (.tup (.cons (.var 7) (.cons (.var 9) .nil))) [9] (.seq (.var 5)) (.cons (.cmp .isin (.idx (.idx (.var 2) (.var 9)) (.int 0)) (.idx (.var 3) (.idx (.var 1) (.int 1)))) .nil))))
  .nil) (.wild (.cons (.ret (.tup (.cons (.sl (.var 1) (.int 1) .non) .nil)))
  .nil)))))))
  .nil)))
def f24 : FnI := ⟨some "entries_of", ["sheet", "which", "state", "sections", "days", "lines", "word", "last", "d", "i"], ["sheet", "which"], [], b24, none, false, false⟩
/-- _law_charge -/
def b25 : Ss := (.cons (.set 1 (.call 17 (.cons (.var 0) (.cons (.lst (.cons (.int 2) (.cons (.int 1) (.cons (.int 2) (.cons (.int 3) (.cons (.int 4) (.cons (.int 10) .nil))))))) .nil)) []))
  (.cons (.set 2 (.call 7 (.cons (.var 0) (.cons (.bin .add (.bin .mul (.int 2) (.var 1)) (.int 1)) .nil)) []))
  (.cons (.ite (.cmp .eq (.call 7 (.cons (.var 0) (.cons (.int 15) .nil)) []) (.int 0)) (.cons (.ret (.call 17 (.cons (.var 0) (.cons (.lst (.cons (.tup (.cons (.int 990) (.cons (.int 1) .nil))) (.cons (.tup (.cons (.int 9999) (.cons (.int 10000) .nil))) (.cons (.tup (.cons (.int 999) (.cons (.int 10) .nil))) .nil)))) .nil)) []))
  .nil) .nil)
  (.cons (.ret (.call 32 (.cons (.var 2) (.cons (.var 1) .nil)) []))
  .nil))))
def f25 : FnI := ⟨some "_law_charge", ["_law_feed_here", "_law_under", "_law_over"], ["_law_feed_here"], [], b25, none, false, false⟩
/-- _law_fits -/
def b26 : Ss := (.cons (.for [2] (.seq (.var 1)) (.cons (.set 3 (.lc (.var 4) [4] (.seq (.var 0)) (.cons (.cmp .isin (.var 4) (.var 2)) .nil)))
  (.cons (.ite (.and (.cons (.cmp .ne (.var 3) (.lst .nil)) (.cons (.cmp .lt (.blt .len (.var 3)) (.blt .len (.var 0))) (.cons (.cmp .lt (.blt .len (.var 3)) (.blt .len (.var 2))) .nil)))) (.cons (.ret (.bl false))
  .nil) .nil)
  .nil)))
  (.cons (.ret (.bl true))
  .nil))
def f26 : FnI := ⟨some "_law_fits", ["_law_some", "_law_others", "_law_other", "_law_common", "_law_name"], ["_law_some", "_law_others"], [], b26, none, false, false⟩
/-- _law_places -/
def b27 : Ss := (.cons (.parN [(2, false), (3, true)] (.cons (.blt .len (.idx (.var 0) (.int 0))) (.cons (.lst .nil) .nil)))
  (.cons (.for [1] (.rng1 (.blt .len (.idx (.var 0) (.int 2)))) (.cons (.ext 3 (.lst (.cons (.tup (.cons (.str "account") (.cons (.var 1) .nil))) (.cons (.tup (.cons (.str "day") (.cons (.var 1) .nil))) .nil))))
  (.cons (.ext 3 (.lc (.tup (.cons (.str "entry") (.cons (.var 1) (.cons (.var 4) .nil)))) [4] (.rng1 (.var 2)) .nil))
  (.cons (.ext 3 (.lc (.tup (.cons (.str "line") (.cons (.var 4) (.cons (.var 1) .nil)))) [4] (.rng1 (.var 2)) .nil))
  (.cons (.ext 3 (.lc (.tup (.cons (.str "section") (.cons (.var 5) (.cons (.var 1) .nil)))) [5] (.rng1 (.blt .len (.idx (.var 0) (.int 1)))) .nil))
  .nil)))))
  (.cons (.frz 3)
  (.cons (.ret (.blt .sorted (.var 3)))
  .nil))))
def f27 : FnI := ⟨some "_law_places", ["_law_place", "_law_d", "_law_many", "_law_found", "_law_i", "_law_s"], ["_law_place"], [], b27, none, false, false⟩
/-- _law_entries -/
def b28 : Ss := (.cons (.parN [(3, false), (4, true)] (.cons (.blt .len (.idx (.var 0) (.int 0))) (.cons (.lst .nil) .nil)))
  (.cons (.ite (.cmp .eq (.idx (.var 1) (.int 0)) (.str "entry")) (.cons (.ret (.lst (.cons (.tup (.cons (.idx (.var 1) (.int 1)) (.cons (.idx (.var 1) (.int 2)) .nil))) .nil)))
  .nil) .nil)
  (.cons (.ite (.cmp .eq (.idx (.var 1) (.int 0)) (.str "line")) (.cons (.ret (.lc (.tup (.cons (.var 2) (.cons (.idx (.var 1) (.int 1)) .nil))) [2] (.rng1 (.bin .add (.idx (.var 1) (.int 2)) (.int 1))) .nil))
  .nil) .nil)
  (.cons (.ite (.cmp .eq (.idx (.var 1) (.int 0)) (.str "day")) (.cons (.ret (.lc (.tup (.cons (.idx (.var 1) (.int 1)) (.cons (.var 5) .nil))) [5] (.rng1 (.var 3)) .nil))
  .nil) .nil)
  (.cons (.ite (.cmp .eq (.idx (.var 1) (.int 0)) (.str "section")) (.cons (.ret (.lc (.tup (.cons (.idx (.var 1) (.int 2)) (.cons (.var 5) .nil))) [5] (.rng1 (.var 3)) (.cons (.cmp .isin (.idx (.idx (.idx (.var 0) (.int 0)) (.var 5)) (.int 0)) (.idx (.idx (.var 0) (.int 1)) (.idx (.var 1) (.int 1)))) .nil)))
  .nil) .nil)
  (.cons (.for [2] (.rng1 (.bin .add (.idx (.var 1) (.int 1)) (.int 1))) (.cons (.ext 4 (.lc (.tup (.cons (.var 2) (.cons (.var 5) .nil))) [5] (.rng1 (.var 3)) .nil))
  .nil))
  (.cons (.ret (.bor 4))
  .nil)))))))
def f28 : FnI := ⟨some "_law_entries", ["_law_place", "_law_one", "_law_d", "_law_many", "_law_found", "_law_i"], ["_law_place", "_law_one"], [], b28, none, true, false⟩
/-- _law_fixed -/
def b29 : Ss := (.cons (.ret (.blt .sum (.lc (.idx (.var 2) (.int 2)) [2] (.seq (.call 30 (.cons (.var 0) (.cons (.var 1) .nil)) [])) .nil)))
  .nil)
def f29 : FnI := ⟨some "_law_fixed", ["_law_place", "_law_one", "_law_head"], ["_law_place", "_law_one"], [], b29, none, false, false⟩
/-- _law_inside -/
def b30 : Ss := (.cons (.ite (.cmp .eq (.idx (.var 1) (.int 0)) (.str "line")) (.cons (.ret (.lst (.cons (.idx (.idx (.var 0) (.int 0)) (.idx (.var 1) (.int 1))) .nil)))
  .nil) .nil)
  (.cons (.ret (.ite (.cmp .eq (.idx (.var 1) (.int 0)) (.str "account")) (.blt .list (.idx (.var 0) (.int 0))) (.lst .nil)))
  .nil))
def f30 : FnI := ⟨some "_law_inside", ["_law_place", "_law_one"], ["_law_place", "_law_one"], [], b30, none, false, false⟩
/-- _law_added -/
def b31 : Ss := (.cons (.ret (.call 32 (.cons (.bin .add (.bin .mul (.idx (.var 0) (.int 0)) (.idx (.var 1) (.int 1))) (.bin .mul (.idx (.var 1) (.int 0)) (.idx (.var 0) (.int 1)))) (.cons (.bin .mul (.idx (.var 0) (.int 1)) (.idx (.var 1) (.int 1))) .nil)) []))
  .nil)
def f31 : FnI := ⟨some "_law_added", ["_law_one", "_law_two"], ["_law_one", "_law_two"], [], b31, none, false, false⟩
/-- _law_lowest -/
def b32 : Ss := (.cons (.par 2 3 (.blt .abs (.var 0)) (.var 1))
  (.cons (.whl (.cmp .ne (.var 3) (.int 0)) (.cons (.par 2 3 (.var 3) (.bin .mod (.var 2) (.var 3)))
  .nil))
  (.cons (.ret (.tup (.cons (.bin .fdiv (.var 0) (.var 2)) (.cons (.bin .fdiv (.var 1) (.var 2)) .nil))))
  .nil)))
def f32 : FnI := ⟨some "_law_lowest", ["_law_over", "_law_under", "_law_one", "_law_two"], ["_law_over", "_law_under"], [], b32, none, false, false⟩
/-- __init__ -/
def b33 : Ss := (.cons (.ite (.not (.call 47 (.cons (.var 1) .nil) [])) (.cons .never
  .nil) .nil)
  (.cons (.ite (.or (.cons (.not (.call 47 (.cons (.var 2) .nil) [])) (.cons (.cmp .eq (.var 2) (.int 0)) .nil))) (.cons .never
  .nil) .nil)
  (.cons (.set 3 (.call 48 (.cons (.var 1) (.cons (.var 2) .nil)) []))
  (.cons (.set 4 (.ite (.cmp .gt (.var 2) (.int 0)) (.int 1) (.neg (.int 1))))
  (.cons (.fld 0 17 (.bin .fdiv (.bin .mul (.var 4) (.var 1)) (.var 3)))
  (.cons (.fld 0 18 (.bin .fdiv (.bin .mul (.var 4) (.var 2)) (.var 3)))
  .nil))))))
def f33 : FnI := ⟨none, ["self", "over", "under", "divisor", "sign"], ["self", "over", "under"], [(.int 1)], b33, some 0, false, false⟩
/-- pair -/
def b34 : Ss := (.cons (.ret (.tup (.cons (.attr 17 (.var 0)) (.cons (.attr 18 (.var 0)) .nil))))
  .nil)
def f34 : FnI := ⟨none, ["self"], ["self"], [], b34, none, false, false⟩
/-- down -/
def b35 : Ss := (.cons (.ret (.bin .fdiv (.attr 17 (.var 0)) (.attr 18 (.var 0))))
  .nil)
def f35 : FnI := ⟨none, ["self"], ["self"], [], b35, none, false, false⟩
/-- up -/
def b36 : Ss := (.cons (.ret (.neg (.bin .fdiv (.neg (.attr 17 (.var 0))) (.attr 18 (.var 0)))))
  .nil)
def f36 : FnI := ⟨none, ["self"], ["self"], [], b36, none, false, false⟩
/-- __add__ -/
def b37 : Ss := (.cons (.set 2 (.call 49 (.cons (.var 1) .nil) []))
  (.cons (.set 3 (.bin .add (.bin .mul (.attr 17 (.var 0)) (.attr 18 (.var 2))) (.bin .mul (.attr 17 (.var 2)) (.attr 18 (.var 0)))))
  (.cons (.ret (.make 0 (.cons (.var 3) (.cons (.bin .mul (.attr 18 (.var 0)) (.attr 18 (.var 2))) .nil)) []))
  .nil)))
def f37 : FnI := ⟨none, ["self", "other", "found", "over"], ["self", "other"], [], b37, none, false, false⟩
/-- __radd__ -/
def b38 : Ss := (.cons (.ret (.bin .add (.var 0) (.var 1)))
  .nil)
def f38 : FnI := ⟨none, ["self", "other"], ["self", "other"], [], b38, none, false, false⟩
/-- __sub__ -/
def b39 : Ss := (.cons (.ret (.bin .add (.var 0) (.neg (.call 49 (.cons (.var 1) .nil) []))))
  .nil)
def f39 : FnI := ⟨none, ["self", "other"], ["self", "other"], [], b39, none, false, false⟩
/-- __rsub__ -/
def b40 : Ss := (.cons (.ret (.bin .add (.neg (.var 0)) (.var 1)))
  .nil)
def f40 : FnI := ⟨none, ["self", "other"], ["self", "other"], [], b40, none, false, false⟩
/-- __mul__ -/
def b41 : Ss := (.cons (.set 2 (.call 49 (.cons (.var 1) .nil) []))
  (.cons (.ret (.make 0 (.cons (.bin .mul (.attr 17 (.var 0)) (.attr 17 (.var 2))) (.cons (.bin .mul (.attr 18 (.var 0)) (.attr 18 (.var 2))) .nil)) []))
  .nil))
def f41 : FnI := ⟨none, ["self", "other", "found"], ["self", "other"], [], b41, none, false, false⟩
/-- __rmul__ -/
def b42 : Ss := (.cons (.ret (.bin .mul (.var 0) (.var 1)))
  .nil)
def f42 : FnI := ⟨none, ["self", "other"], ["self", "other"], [], b42, none, false, false⟩
/-- __neg__ -/
def b43 : Ss := (.cons (.ret (.make 0 (.cons (.neg (.attr 17 (.var 0))) (.cons (.attr 18 (.var 0)) .nil)) []))
  .nil)
def f43 : FnI := ⟨none, ["self"], ["self"], [], b43, none, false, false⟩
/-- __abs__ -/
def b44 : Ss := (.cons (.ret (.make 0 (.cons (.blt .abs (.attr 17 (.var 0))) (.cons (.attr 18 (.var 0)) .nil)) []))
  .nil)
def f44 : FnI := ⟨none, ["self"], ["self"], [], b44, none, false, false⟩
/-- __bool__ -/
def b45 : Ss := (.cons (.ret (.blt .bool (.attr 17 (.var 0))))
  .nil)
def f45 : FnI := ⟨none, ["self"], ["self"], [], b45, none, false, false⟩
/-- __eq__ -/
def b46 : Ss := (.cons (.ret (.and (.cons (.isi (.var 1) (.cls 0)) (.cons (.cmp .eq (.attr 14 (.var 0)) (.attr 14 (.var 1))) .nil))))
  .nil)
def f46 : FnI := ⟨none, ["self", "other"], ["self", "other"], [], b46, none, false, false⟩
/-- is_integer -/
def b47 : Ss := (.cons (.ret (.and (.cons (.isi (.var 0) .int) (.cons (.not (.isi (.var 0) .bool)) .nil))))
  .nil)
def f47 : FnI := ⟨some "is_integer", ["thing"], ["thing"], [], b47, none, false, false⟩
/-- common_divisor -/
def b48 : Ss := (.cons (.whl (.cmp .ne (.var 1) (.int 0)) (.cons (.par 0 1 (.var 1) (.bin .mod (.var 0) (.var 1)))
  .nil))
  (.cons (.ret (.blt .abs (.var 0)))
  .nil))
def f48 : FnI := ⟨some "common_divisor", ["one", "other"], ["one", "other"], [], b48, none, false, false⟩
/-- as_amount -/
def b49 : Ss := (.cons (.ite (.isi (.var 0) (.cls 0)) (.cons (.ret (.var 0))
  .nil) .nil)
  (.cons (.ite (.not (.call 47 (.cons (.var 0) .nil) [])) (.cons .never
  .nil) .nil)
  (.cons (.ret (.make 0 (.cons (.var 0) .nil) [(.int 1)]))
  .nil)))
def f49 : FnI := ⟨some "as_amount", ["value"], ["value"], [], b49, none, false, false⟩
def prg : Prg := ⟨["__add__", "__radd__", "__sub__", "__rsub__", "__mul__", "__rmul__", "__neg__", "__abs__", "__bool__", "__eq__", "cells", "at", "left", "count", "pair", "down", "up", "over_held", "under_held"], [f0, f1, f2, f3, f4, f5, f6, f7, f8, f9, f10, f11, f12, f13, f14, f15, f16, f17, f18, f19, f20, f21, f22, f23, f24, f25, f26, f27, f28, f29, f30, f31, f32, f33, f34, f35, f36, f37, f38, f39, f40, f41, f42, f43, f44, f45, f46, f47, f48, f49], [⟨"Amount", 33, [17, 18], [(0, 37), (1, 38), (2, 39), (3, 40), (4, 41), (5, 42), (6, 43), (7, 44), (8, 45), (9, 46)], [(14, 34), (15, 35), (16, 36)]⟩], [], ["range", "tuple", "list", "repr", "sum", "len", "sorted", "abs", "bool", "isinstance", "int"]⟩
end K17

set_option exponentiation.threshold 5000
namespace K17
open Eng
abbrev I : AmtI := ⟨0, 33, 47, 48, 49, 17, 18⟩
theorem K : AmtOK prg I := ⟨⟨_, rfl, rfl⟩, rfl, rfl, rfl, rfl, by decide, rfl, rfl, rfl, rfl⟩
abbrev rn (wf n : Nat) := rnP prg wf n
/-- a fraction as the texts hold it -/
def frD (q : Rat) : D := .tup [.int q.num, .int q.den]
theorem idx0 {a b : D} (st : Store) : idxD (.tup [a, b]) (.int 0) st = .ok a st := rfl
theorem idx1 {a b : D} (st : Store) : idxD (.tup [a, b]) (.int 1) st = .ok b st := rfl
section
variable {wf n : Nat} {st : Store}
theorem loopL (T : Tab) (call : Nat → List D → Store → Res D) (w0 : Nat) (x y : Option Slot) : ∀ (m : Nat) (a b : Int), 0 ≤ a → 0 ≤ b → b.natAbs < m → whlR (evT T call (.cmp .ne (.var 3) (.int 0))) (evSs T call w0 (.cons (.par 2 3 (.var 3) (.bin .mod (.var 2) (.var 3))) .nil)) m [x, y, some (.v (.int a)), some (.v (.int b))] st = .nx [x, y, some (.v (.int (Int.gcd a b : Nat))), some (.v (.int 0))] st
  | 0, a, b, _, _, h => absurd h (Nat.not_lt_zero _)
  | m + 1, a, b, ha, hb0, h => by
    have ht : evT T call (.cmp .ne (.var 3) (.int 0)) [x, y, some (.v (.int a)), some (.v (.int b))] st = .ok (!(b == 0)) st := rfl
    unfold whlR
    rw [ht]
    by_cases hb : b = 0
    · subst hb
      rw [Int.gcd_zero_right]
      rw [show ((a.natAbs : Nat) : Int) = a by omega]
      rfl
    · have hp : 0 < b := by omega
      rw [show (!(b == 0)) = true by simpa using hb]
      have hbd : evSs T call w0 (.cons (.par 2 3 (.var 3) (.bin .mod (.var 2) (.var 3))) .nil) [x, y, some (.v (.int a)), some (.v (.int b))] st = .nx [x, y, some (.v (.int b)), some (.v (.int (a.fmod b)))] st := by
        simp [evSs, evS, ev, slotV, binD, intOp, Res.fl, Res.bind, hb]
      dsimp only
      rw [hbd]
      dsimp only
      rw [loopL T call w0 x y m b (a.fmod b) hb0 (Int.fmod_nonneg_of_pos a hp) (by have := fmod_lt a hb; omega), gcd_fmod]
theorem low_ (hwf : 2 ^ 4096 ≤ wf) {o u : Int} (hu : 0 < u) (h1 : o.natAbs < 2 ^ 4095) (h2 : u.natAbs < 2 ^ 4095) : rn wf (n + 1) 32 [.int o, .int u] st = .ok (frD (Rat.divInt o u)) st := by
  have p4 : 2 ^ 4095 ≤ 2 ^ 4096 := Nat.pow_le_pow_right (by decide) (by decide)
  have hg := pos_gcd' (a := o) (b := u) (by omega)
  have hgl : (Int.gcd o u : Int).natAbs ≤ u.natAbs := by
    rw [Int.natAbs_natCast]
    exact Nat.le_of_dvd (by omega) (Int.gcd_dvd_natAbs_right o u)
  have w1 : wide o = true := wide_of' (Nat.lt_of_lt_of_le h1 p4)
  have w2 : wide u = true := wide_of' (Nat.lt_of_lt_of_le h2 p4)
  have wg : wide (Int.gcd o u : Int) = true := wide_of' (by omega)
  show rnP prg wf (n + 1) 32 _ st = _
  rw [run_fn' (f := ⟨4, 2, b32, none, false⟩) rfl rfl rfl]
  show endF false (evSs prg.tab (rn wf n) wf b32 [some (.v (.int o)), some (.v (.int u)), none, none] st) = _
  have habs : (if o < 0 then -o else o) = (o.natAbs : Int) := by split <;> omega
  have l := loopL (st := st) prg.tab (rn wf n) wf (some (.v (.int o))) (some (.v (.int u))) wf (o.natAbs : Int) u (by omega) (by omega) (by omega)
  rw [show Int.gcd (o.natAbs : Int) u = Int.gcd o u from rfl] at l
  unfold b32
  have s1 : evS prg.tab (rn wf n) wf (.par 2 3 (.blt .abs (.var 0)) (.var 1)) [some (.v (.int o)), some (.v (.int u)), none, none] st = .nx [some (.v (.int o)), some (.v (.int u)), some (.v (.int (o.natAbs : Int))), some (.v (.int u))] st := by
    simp [evS, ev, slotV, bltD, Res.fl, Res.bind, habs]
  rw [ss_nx s1, ss_nx (show evS prg.tab (rn wf n) wf (.whl _ _) _ st = _ from l)]
  simp only [evSs, evS, ev, evs, slotV, List.getElem?_cons_zero, List.getElem?_cons_succ, Res.bind_ok, binI', fdivI' hg w1 wg, fdivI' hg w2 wg, Res.fl_ok, endF, frD]
  congr 4
  · congr 1
    rw [Rat.num_divInt, Int.sign_eq_one_of_pos hu, Int.one_mul, Int.gcd_comm]
  · congr 2
    rw [Rat.den_divInt, if_neg (by omega), Int.natCast_ediv, Int.gcd_comm]
    congr 1
    omega
end
end K17

set_option exponentiation.threshold 5000
namespace K17
open Eng
theorem run_f {wf n j : Nat} {as : List D} {st : Store} {f : Fn} (h : prg.fn[j]? = some f) (hi : f.init = none) (hl : as.length = f.pars) : rn wf (n + 1) j as st = endF f.fresh (evSs prg.tab (rn wf n) wf f.body (startE f.slots as) st) := run_fn' h hi hl
theorem sub_isR (a b : Rat) : a - b = Rat.divInt (a.num * b.den - b.num * a.den) ((a.den : Int) * b.den) := by
  rw [Rat.sub_eq_add_neg, add_isR, neg_numR, neg_denR, Int.neg_mul, Int.sub_eq_add_neg]
section
variable {wf n : Nat} {st : Store}
theorem plus_ (hwf : 2 ^ 4096 ≤ wf) {a b : Rat} (ha : Sz 1000 a) (hb : Sz 1000 b) : rn wf (n + 2) 31 [frD a, frD b] st = .ok (frD (a + b)) st := by
  have w1 := wideS' ha.1 (by decide)
  have w2 := wideS' hb.1 (by decide)
  have w3 := wideS' (ndR ha) (by decide)
  have w4 := wideS' (ndR hb) (by decide)
  have p : 0 < (a.den : Int) * b.den := Int.mul_pos (by have := a.den_pos; omega) (by have := b.den_pos; omega)
  have l := low_ (n := n) (st := st) hwf p (pw' (num_ltR ha hb) (by decide)) (pw' (by rw [Int.natAbs_mul]; exact mul_lt2 (ndR ha) (ndR hb)) (by decide))
  rw [← add_isR] at l
  rw [run_f (f := ⟨2, 2, b31, none, false⟩) rfl rfl rfl]
  show endF false (evSs prg.tab (rn wf (n + 1)) wf b31 [some (.v (frD a)), some (.v (frD b))] st) = _
  have e : ∀ q : Rat, frD q = .tup [.int q.num, .int q.den] := fun _ => rfl
  simp [b31, evSs, evS, ev, evs, slotV, e a, e b, idx0, idx1, binI', addI', subI', mulI' w1 w4, mulI' w2 w3, mulI' w3 w4, l, Res.fl, endF]
def ceilQ (a : Rat) : Int := -(-a).floor
theorem down_ {a : Rat} (ha : Sz 1000 a) : rn wf (n + 1) 18 [frD a] st = .ok (.int a.floor) st := by
  have w1 := wideS' ha.1 (by decide)
  have w3 := wideS' (ndR ha) (by decide)
  have p : 0 < (a.den : Int) := by have := a.den_pos; omega
  rw [run_f (f := ⟨1, 1, b18, none, false⟩) rfl rfl rfl]
  show endF false (evSs prg.tab (rn wf n) wf b18 [some (.v (frD a))] st) = _
  have e : ∀ q : Rat, frD q = .tup [.int q.num, .int q.den] := fun _ => rfl
  simp [b18, evSs, evS, ev, evs, slotV, e a, idx0, idx1, binI', fdivI' p w1 w3, Res.fl, endF, Rat.floor_def]
theorem up_ {a : Rat} (ha : Sz 1000 a) : rn wf (n + 1) 19 [frD a] st = .ok (.int (ceilQ a)) st := by
  have w1 : wide (-a.num) = true := wideS' (k := 1000) (by rw [Int.natAbs_neg]; exact ha.1) (by decide)
  have w3 := wideS' (ndR ha) (by decide)
  have p : 0 < (a.den : Int) := by have := a.den_pos; omega
  rw [run_f (f := ⟨1, 1, b19, none, false⟩) rfl rfl rfl]
  show endF false (evSs prg.tab (rn wf n) wf b19 [some (.v (frD a))] st) = _
  have e : ∀ q : Rat, frD q = .tup [.int q.num, .int q.den] := fun _ => rfl
  simp [b19, evSs, evS, ev, evs, slotV, e a, idx0, idx1, binI', subI', fdivI' p w1 w3, Res.fl, endF, Rat.floor_def, ceilQ, neg_numR, neg_denR]
/-! ### sums -/
def sumQ : List Rat → Rat → Rat
  | [], a => a
  | q :: r, a => sumQ r (a + q)
theorem Sz0 : Sz 1 (0 : Rat) := ⟨by decide, by decide⟩
theorem sum_sz {k : Nat} : ∀ (qs : List Rat) (a : Rat) (m : Nat), (∀ q ∈ qs, Sz k q) → Sz m a → Sz (m + (k + 1) * qs.length) (sumQ qs a)
  | [], a, m, _, h => h
  | q :: r, a, m, H, h => by
    have := sum_sz r (a + q) (m + k + 1) (fun x hx => H x (List.mem_cons_of_mem _ hx)) (Sz_add h (H q (List.mem_cons_self ..)))
    rw [show m + k + 1 + (k + 1) * r.length = m + (k + 1) * (q :: r).length by rw [List.length_cons, Nat.mul_succ]; omega] at this
    exact this
end
end K17

set_option exponentiation.threshold 5000
namespace K17
open Eng
/-! ### sheets and their sums -/
structure Row where
  nm : PySem.Str
  q : Rat
  c : Int
  g : Bool
structure Sheet where
  rs : List Row
  ss : List (List PySem.Str)
  ds : List (List Rat)
def rowD (r : Row) : D := .tup [.str r.nm, frD r.q, .int r.c, .bl r.g]
def secD (s : List PySem.Str) : D := .tup (s.map .str)
def dayD (d : List Rat) : D := .tup (d.map frD)
def shD (s : Sheet) : D := .tup [.tup (s.rs.map rowD), .tup (s.ss.map secD), .tup (s.ds.map dayD)]
inductive Pl where
  | acc (d : Nat) | day (d : Nat) | ent (d i : Nat) | lin (i d : Nat) | sec (k d : Nat)
def Pl.key : Pl → List Ky
  | .acc d => [.inr "account", .inl (d : Nat)]
  | .day d => [.inr "day", .inl (d : Nat)]
  | .ent d i => [.inr "entry", .inl (d : Nat), .inl (i : Nat)]
  | .lin i d => [.inr "line", .inl (i : Nat), .inl (d : Nat)]
  | .sec k d => [.inr "section", .inl (k : Nat), .inl (d : Nat)]
def plD (p : Pl) : D := tkV p.key
theorem plD_acc (d : Nat) : plD (.acc d) = .tup [.str "account", .int d] := rfl
theorem plD_day (d : Nat) : plD (.day d) = .tup [.str "day", .int d] := rfl
theorem plD_ent (d i : Nat) : plD (.ent d i) = .tup [.str "entry", .int d, .int i] := rfl
theorem plD_lin (i d : Nat) : plD (.lin i d) = .tup [.str "line", .int i, .int d] := rfl
theorem plD_sec (k d : Nat) : plD (.sec k d) = .tup [.str "section", .int k, .int d] := rfl
def Pl.ok (s : Sheet) : Pl → Prop
  | .acc d => d < s.ds.length
  | .day d => d < s.ds.length
  | .ent d i => d < s.ds.length ∧ i < s.rs.length
  | .lin i d => i < s.rs.length ∧ d < s.ds.length
  | .sec k d => k < s.ss.length ∧ d < s.ds.length
def rowsIn (s : Sheet) : Pl → List Row
  | .acc _ => s.rs
  | .lin i _ => (s.rs[i]?).toList
  | _ => []
def inSec (s : Sheet) (k i : Nat) : Bool := match s.rs[i]?, s.ss[k]? with
  | some r, some sc => (sc.map D.str).any fun z => eqD (.str r.nm) z
  | _, _ => false
def ents (s : Sheet) : Pl → List (Nat × Nat)
  | .acc d => (List.range (d + 1)).flatMap fun e => (List.range s.rs.length).map fun i => (e, i)
  | .day d => (List.range s.rs.length).map fun i => (d, i)
  | .ent d i => [(d, i)]
  | .lin i d => (List.range (d + 1)).map fun e => (e, i)
  | .sec k d => ((List.range s.rs.length).filter fun i => inSec s k i).map fun i => (d, i)
def entD (p : Nat × Nat) : D := .tup [.int (p.1 : Nat), .int (p.2 : Nat)]
def chg (s : Sheet) (p : Nat × Nat) : Rat := ((s.ds[p.1]?).bind (·[p.2]?)).getD 0
def exQ (s : Sheet) (p : Pl) : Rat := sumQ ((ents s p).map (chg s)) (sumQ ((rowsIn s p).map (·.q)) 0)
def fixC (s : Sheet) (p : Pl) : Int := sumI ((rowsIn s p).map (·.c)) 0
/-- a row, a sheet of bounded size -/
structure RowOK (r : Row) : Prop where
  q : Sz 20 r.q
  c : r.c.natAbs < 2 ^ 40
  n : RG 0 82 (.str r.nm)
structure OK (s : Sheet) : Prop where
  r1 : s.rs.length ≤ 4
  d1 : s.ds.length ≤ 3
  s1 : s.ss.length ≤ 3
  dl : ∀ d ∈ s.ds, d.length = s.rs.length
  rw : ∀ r ∈ s.rs, RowOK r
  dq : ∀ d ∈ s.ds, ∀ q ∈ d, Sz 20 q
  sn : ∀ sc ∈ s.ss, sc.length ≤ 6 ∧ ∀ x ∈ sc, RG 0 82 (.str x)
theorem ent_lt {s : Sheet} {p : Pl} (h : p.ok s) : ∀ e ∈ ents s p, e.1 < s.ds.length ∧ e.2 < s.rs.length := by
  intro e he
  cases p with
  | acc d =>
    simp only [Pl.ok] at h
    simp only [ents, List.mem_flatMap, List.mem_map, List.mem_range] at he
    obtain ⟨a, ha, b, hb, rfl⟩ := he
    exact ⟨by show a < _; omega, hb⟩
  | day d =>
    simp only [Pl.ok] at h
    simp only [ents, List.mem_map, List.mem_range] at he
    obtain ⟨b, hb, rfl⟩ := he
    exact ⟨h, hb⟩
  | ent d i =>
    simp only [Pl.ok] at h
    simp only [ents, List.mem_singleton] at he
    subst he
    exact h
  | lin i d =>
    simp only [Pl.ok] at h
    simp only [ents, List.mem_map, List.mem_range] at he
    obtain ⟨b, hb, rfl⟩ := he
    exact ⟨by show b < _; omega, h.1⟩
  | sec k d =>
    simp only [Pl.ok] at h
    simp only [ents, List.mem_map, List.mem_filter, List.mem_range] at he
    obtain ⟨b, hb, rfl⟩ := he
    exact ⟨h.2, hb.1⟩
theorem ents_len {s : Sheet} {p : Pl} (o : OK s) (h : p.ok s) : (ents s p).length ≤ 12 := by
  have h1 := o.r1
  have h2 := o.d1
  cases p with
  | acc d =>
    simp only [Pl.ok] at h
    simp only [ents, List.length_flatMap, List.length_map, List.length_range]
    rw [List.map_const', List.sum_replicate_nat, List.length_range]
    have : (d + 1) * s.rs.length ≤ 3 * 4 := Nat.mul_le_mul (by omega) h1
    omega
  | day d => simp only [ents, List.length_map, List.length_range]; omega
  | ent d i => simp [ents]
  | lin i d =>
    simp only [Pl.ok] at h
    simp only [ents, List.length_map, List.length_range]; omega
  | sec k d =>
    simp only [ents, List.length_map]
    have := List.length_filter_le (fun i => inSec s k i) (List.range s.rs.length)
    rw [List.length_range] at this
    omega
theorem rowsIn_mem {s : Sheet} {p : Pl} : ∀ r ∈ rowsIn s p, r ∈ s.rs := by
  intro r hr
  cases p with
  | acc d => exact hr
  | lin i d =>
    simp only [rowsIn, Option.mem_toList] at hr
    exact List.mem_of_getElem? hr
  | _ => simp [rowsIn] at hr
theorem rowsIn_len {s : Sheet} {p : Pl} (o : OK s) : (rowsIn s p).length ≤ 4 := by
  have h1 := o.r1
  cases p with
  | acc d => exact h1
  | lin i d =>
    simp only [rowsIn]
    cases s.rs[i]? <;> simp
  | _ => simp [rowsIn]
theorem chg_sz {s : Sheet} (o : OK s) (p : Nat × Nat) : Sz 20 (chg s p) := by
  unfold chg
  cases h : s.ds[p.1]? with
  | none => exact (show Sz 20 0 from ⟨by decide, by decide⟩)
  | some d =>
    simp only [Option.bind_some]
    cases h2 : d[p.2]? with
    | none => exact (show Sz 20 0 from ⟨by decide, by decide⟩)
    | some q => exact o.dq d (List.mem_of_getElem? h) q (List.mem_of_getElem? h2)
theorem rows_sz {s : Sheet} (o : OK s) (p : Pl) : Sz 85 (sumQ ((rowsIn s p).map (·.q)) 0) := by
  have h := sum_sz (k := 20) ((rowsIn s p).map (·.q)) 0 1 (fun q hq => by
    obtain ⟨r, hr, rfl⟩ := List.mem_map.mp hq
    exact (o.rw r (rowsIn_mem r hr)).q) Sz0
  refine Sz_le h ?_
  rw [List.length_map]
  have := rowsIn_len (p := p) o
  omega
theorem ex_sz {s : Sheet} (o : OK s) {p : Pl} (h : p.ok s) : Sz 340 (exQ s p) := by
  have h2 := sum_sz (k := 20) ((ents s p).map (chg s)) _ 85 (fun q hq => by
    obtain ⟨e, he, rfl⟩ := List.mem_map.mp hq
    exact chg_sz o e) (rows_sz o p)
  refine Sz_le h2 ?_
  rw [List.length_map]
  have := ents_len o h
  omega
/-- an entry's charge, in the interpreter -/
theorem day_at {s : Sheet} (o : OK s) {e : Nat × Nat} (h : e.1 < s.ds.length ∧ e.2 < s.rs.length) (st : Store) : ∃ d, s.ds[e.1]? = some d ∧ idxD (.tup (s.ds.map dayD)) (.int (e.1 : Nat)) st = .ok (dayD d) st ∧ idxD (dayD d) (.int (e.2 : Nat)) st = .ok (frD (chg s e)) st := by
  have h1 : s.ds[e.1]? = some s.ds[e.1] := List.getElem?_eq_getElem h.1
  have hl := o.dl s.ds[e.1] (List.getElem_mem h.1)
  have h2 : (s.ds[e.1])[e.2]? = some (s.ds[e.1])[e.2] := List.getElem?_eq_getElem (by omega)
  refine ⟨_, h1, idx_map h1 st, ?_⟩
  unfold dayD
  rw [idx_map h2 st]
  unfold chg
  rw [h1, Option.bind_some, h2]
  rfl
/-! words -/
theorem pw1 : plain (.str "account") = true := by decide +kernel
theorem pw2 : plain (.str "day") = true := by decide +kernel
theorem pw3 : plain (.str "entry") = true := by decide +kernel
theorem pw4 : plain (.str "line") = true := by decide +kernel
theorem pw5 : plain (.str "section") = true := by decide +kernel
theorem w12 : (("account" : PySem.Str) == "day") = false := by decide +kernel
theorem w13 : (("account" : PySem.Str) == "entry") = false := by decide +kernel
theorem w14 : (("account" : PySem.Str) == "line") = false := by decide +kernel
theorem w15 : (("account" : PySem.Str) == "section") = false := by decide +kernel
theorem w21 : (("day" : PySem.Str) == "account") = false := by decide +kernel
theorem w23 : (("day" : PySem.Str) == "entry") = false := by decide +kernel
theorem w24 : (("day" : PySem.Str) == "line") = false := by decide +kernel
theorem w25 : (("day" : PySem.Str) == "section") = false := by decide +kernel
theorem w31 : (("entry" : PySem.Str) == "account") = false := by decide +kernel
theorem w32 : (("entry" : PySem.Str) == "day") = false := by decide +kernel
theorem w34 : (("entry" : PySem.Str) == "line") = false := by decide +kernel
theorem w35 : (("entry" : PySem.Str) == "section") = false := by decide +kernel
theorem w41 : (("line" : PySem.Str) == "account") = false := by decide +kernel
theorem w42 : (("line" : PySem.Str) == "day") = false := by decide +kernel
theorem w43 : (("line" : PySem.Str) == "entry") = false := by decide +kernel
theorem w45 : (("line" : PySem.Str) == "section") = false := by decide +kernel
theorem w51 : (("section" : PySem.Str) == "account") = false := by decide +kernel
theorem w52 : (("section" : PySem.Str) == "day") = false := by decide +kernel
theorem w53 : (("section" : PySem.Str) == "entry") = false := by decide +kernel
theorem w54 : (("section" : PySem.Str) == "line") = false := by decide +kernel
section
variable {wf n : Nat} {st : Store}
theorem tup3_0 {a b c : D} (st : Store) : idxD (.tup [a, b, c]) (.int 0) st = .ok a st := rfl
theorem tup3_1 {a b c : D} (st : Store) : idxD (.tup [a, b, c]) (.int 1) st = .ok b st := rfl
theorem tup3_2 {a b c : D} (st : Store) : idxD (.tup [a, b, c]) (.int 2) st = .ok c st := rfl
theorem tup3_m {a b c : D} (st : Store) : idxD (.tup [a, b, c]) (.int (-1)) st = .ok c st := rfl
theorem tup2_m {a b : D} (st : Store) : idxD (.tup [a, b]) (.int (-1)) st = .ok b st := rfl
theorem rowsin_ {s : Sheet} {p : Pl} (h : p.ok s) : rn wf (n + 1) 23 [shD s, plD p] st = .ok (.tup ((rowsIn s p).map rowD)) st := by
  rw [run_f (f := ⟨2, 2, b23, none, false⟩) rfl rfl rfl]
  show endF false (evSs prg.tab (rn wf n) wf b23 [some (.v (shD s)), some (.v (plD p))] st) = _
  cases p with
  | acc d => simp [b23, evSs, evS, evT, ev, evs, slotV, shD, plD_acc, idx0, idx1, tup3_0, tup3_1, cmp_eqT, pw1, truD, Res.fl, endF, rowsIn]
  | day d => simp [b23, evSs, evS, evT, ev, evs, slotV, shD, plD_day, idx0, idx1, tup3_0, tup3_1, cmp_eqT, pw1, pw2, pw4, w21, w24, truD, Res.fl, endF, rowsIn]
  | ent d i => simp [b23, evSs, evS, evT, ev, evs, slotV, shD, plD_ent, idx0, idx1, tup3_0, tup3_1, cmp_eqT, pw1, pw3, pw4, w31, w34, truD, Res.fl, endF, rowsIn]
  | lin i d =>
    simp only [Pl.ok] at h
    have h1 : s.rs[i]? = some s.rs[i] := List.getElem?_eq_getElem h.1
    simp [b23, evSs, evS, evT, ev, evs, slotV, shD, plD_lin, idx0, idx1, tup3_0, tup3_1, cmp_eqT, pw1, pw4, w41, truD, Res.fl, endF, rowsIn, idx_map h1, h1]
  | sec k d => simp [b23, evSs, evS, evT, ev, evs, slotV, shD, plD_sec, idx0, idx1, tup3_0, tup3_1, cmp_eqT, pw1, pw5, pw4, w51, w54, truD, Res.fl, endF, rowsIn]
theorem inside_ {s : Sheet} {p : Pl} (h : p.ok s) : rn wf (n + 1) 30 [shD s, plD p] st = .ok (.lst ((rowsIn s p).map rowD)) st := by
  rw [run_f (f := ⟨2, 2, b30, none, false⟩) rfl rfl rfl]
  show endF false (evSs prg.tab (rn wf n) wf b30 [some (.v (shD s)), some (.v (plD p))] st) = _
  cases p with
  | acc d => simp [b30, evSs, evS, evT, ev, evs, slotV, shD, plD_acc, idx0, idx1, tup3_0, tup3_1, cmp_eqT, pw1, pw4, w14, truD, Res.fl, endF, rowsIn, bltD]
  | day d => simp [b30, evSs, evS, evT, ev, evs, slotV, shD, plD_day, idx0, idx1, tup3_0, tup3_1, cmp_eqT, pw1, pw2, pw4, w21, w24, truD, Res.fl, endF, rowsIn]
  | ent d i => simp [b30, evSs, evS, evT, ev, evs, slotV, shD, plD_ent, idx0, idx1, tup3_0, tup3_1, cmp_eqT, pw1, pw3, pw4, w31, w34, truD, Res.fl, endF, rowsIn]
  | lin i d =>
    simp only [Pl.ok] at h
    have h1 : s.rs[i]? = some s.rs[i] := List.getElem?_eq_getElem h.1
    simp [b30, evSs, evS, evT, ev, evs, slotV, shD, plD_lin, idx0, idx1, tup3_0, tup3_1, cmp_eqT, pw1, pw4, w41, truD, Res.fl, endF, rowsIn, idx_map h1, h1]
  | sec k d => simp [b30, evSs, evS, evT, ev, evs, slotV, shD, plD_sec, idx0, idx1, tup3_0, tup3_1, cmp_eqT, pw1, pw5, pw4, w51, w54, truD, Res.fl, endF, rowsIn]
end
end K17

set_option exponentiation.threshold 5000
namespace K17
open Eng
section
variable {wf n : Nat} {st : Store}
theorem ret1 {T : Tab} {call : Nat → List D → Store → Res D} {e : C} {ρ : Env} {d : D} {st st1 : Store} {r : Ss} (h : ev T call e ρ st = .ok d st1) : evSs T call wf (.cons (.ret e) r) ρ st = .rt d st1 := by
  rw [evSs, evS, h]
  rfl
theorem tupE {T : Tab} {call : Nat → List D → Store → Res D} {e : C} {ρ : Env} {xs : List D} {st st1 : Store} (h : ev T call e ρ st = .ok (.lst xs) st1) : ev T call (.blt .tuple e) ρ st = .ok (.tup xs) st1 := by
  rw [ev, h]
  rfl
theorem mtch_ {T : Tab} {call : Nat → List D → Store → Res D} {i : Nat} {ks : Ks} {ρ : Env} {w : PySem.Str} (h : slotV ρ i = some (.str w)) : evS T call wf (.mtch (.var i) ks) ρ st = evKs T call wf ks w ρ st := by
  rw [evS, ev, h]
  rfl
theorem flat_str (x : PySem.Str) : flat (.str x) = true := rfl
theorem all_flat (l : List PySem.Str) : (l.map D.str).all flat = true := by
  rw [List.all_eq_true]
  intro d hd
  obtain ⟨x, _, rfl⟩ := List.mem_map.mp hd
  rfl
theorem in_sec (call : Nat → List D → Store → Res D) (x : PySem.Str) (l : List PySem.Str) (st : Store) : cmpD prg.tab call .isin (.str x) (secD l) st = .ok (.bl ((l.map D.str).any fun z => eqD (.str x) z)) st := by
  unfold secD cmpD
  dsimp only
  rw [if_pos (by rw [flat_str, all_flat]; rfl)]
theorem row0 (r : Row) (st : Store) : idxD (rowD r) (.int 0) st = .ok (.str r.nm) st := rfl
theorem row1 (r : Row) (st : Store) : idxD (rowD r) (.int 1) st = .ok (frD r.q) st := rfl
theorem row2 (r : Row) (st : Store) : idxD (rowD r) (.int 2) st = .ok (.int r.c) st := rfl
theorem row3 (r : Row) (st : Store) : idxD (rowD r) (.int 3) st = .ok (.bl r.g) st := rfl
/-! ### the entries of a sum, by the package -/
abbrev rsD (s : Sheet) : D := .tup (s.rs.map rowD)
abbrev ssD (s : Sheet) : D := .tup (s.ss.map secD)
abbrev dsD (s : Sheet) : D := .tup (s.ds.map dayD)
abbrev rgL (n : Nat) : D := .lst ((List.range n).map fun i => D.int (i : Nat))
theorem blen_rs (call : Nat → List D → Store → Res D) (s : Sheet) (st : Store) : bltD prg.tab call .len (rsD s) st = .ok (.int (s.rs.length : Nat)) st := by simp [bltD]
theorem entries_ {s : Sheet} {p : Pl} (o : OK s) (h : p.ok s) : rn wf (n + 1) 24 [shD s, plD p] st = .ok (.tup ((ents s p).map entD)) st := by
  have r1 := o.r1
  have d1 := o.d1
  rw [run_f (f := ⟨10, 2, b24, none, false⟩) rfl rfl rfl]
  show endF false (evSs prg.tab (rn wf n) wf b24 [some (.v (shD s)), some (.v (plD p)), none, none, none, none, none, none, none, none] st) = _
  unfold b24
  have s1 : evS prg.tab (rn wf n) wf (.unp [2, 3, 4] (.var 0)) [some (.v (shD s)), some (.v (plD p)), none, none, none, none, none, none, none, none] st = .nx [some (.v (shD s)), some (.v (plD p)), some (.v (rsD s)), some (.v (ssD s)), some (.v (dsD s)), none, none, none, none, none] st := rfl
  rw [ss_nx s1]
  have lr := lrng0 (n := s.rs.length) (by omega) st
  have ss : ∀ (w : PySem.Str) (last : Nat), idxD (plD p) (.int 0) st = .ok (.str w) st → idxD (plD p) (.int (-1)) st = .ok (.int last) st →
      evS prg.tab (rn wf n) wf (.parN [(5, false), (6, false), (7, false)] (.cons (.lrng (.blt .len (.var 2))) (.cons (.idx (.var 1) (.int 0)) (.cons (.idx (.var 1) (.neg (.int 1))) .nil)))) [some (.v (shD s)), some (.v (plD p)), some (.v (rsD s)), some (.v (ssD s)), some (.v (dsD s)), none, none, none, none, none] st
      = .nx [some (.v (shD s)), some (.v (plD p)), some (.v (rsD s)), some (.v (ssD s)), some (.v (dsD s)), some (.v (rgL s.rs.length)), some (.v (.str w)), some (.v (.int last)), none, none] st := by
    intro w last h1 h2
    simp [evS, ev, evs, slotV, blen_rs, lr, h1, negD, h2, Res.fl, setPar]
  cases p with
  | acc d =>
    simp only [Pl.ok] at h
    rw [ss_nx (ss "account" d rfl rfl)]
    have lc := lc2_map (T := prg.tab) (call := rn wf n) (elt := .tup (.cons (.var 8) (.cons (.var 9) .nil))) (tg := [8]) (tg2 := [9]) (it := .rng1 (.bin .add (.var 7) (.int 1))) (it2 := .seq (.var 5)) (ρ := [some (.v (shD s)), some (.v (plD (.acc d))), some (.v (rsD s)), some (.v (ssD s)), some (.v (dsD s)), some (.v (rgL s.rs.length)), some (.v (.str "account")), some (.v (.int d)), none, none]) (st := st)
      (fun i : Nat => D.int (i : Nat)) (fun i : Nat => D.int (i : Nat)) (fun a b => entD (a, b)) (List.range (d + 1)) (List.range s.rs.length) (it_rngN (i := (d : Int) + 1) (d + 1) rfl rfl (by omega)) (by simp; omega) (by simp; omega) (fun a ha => ⟨_, rfl, rfl, fun b hb => ⟨_, rfl, rfl⟩⟩)
    rw [ss_rt (d := .tup ((ents s (.acc d)).map entD)) (st1 := st)]
    · rfl
    · rw [mtch_ rfl, evKs, if_pos (by decide +kernel)]
      refine ret1 (tupE ?_)
      rw [lc]
      simp only [ents, List.map_flatMap, List.map_map]
      rfl
  | day d =>
    simp only [Pl.ok] at h
    rw [ss_nx (ss "day" d rfl rfl)]
    have lc := lc_map1 (T := prg.tab) (call := rn wf n) (elt := .tup (.cons (.var 7) (.cons (.var 9) .nil))) (tg := [9]) (it := .seq (.var 5)) (ρ := [some (.v (shD s)), some (.v (plD (.day d))), some (.v (rsD s)), some (.v (ssD s)), some (.v (dsD s)), some (.v (rgL s.rs.length)), some (.v (.str "day")), some (.v (.int d)), none, none]) (st := st) (st1 := st)
      (fun i : Nat => D.int (i : Nat)) (fun b => entD (d, b)) (List.range s.rs.length) rfl (by simp; omega) (fun a ha => ⟨_, rfl, rfl⟩)
    rw [ss_rt (d := .tup ((ents s (.day d)).map entD)) (st1 := st)]
    · rfl
    · rw [mtch_ rfl, evKs, if_neg (by decide +kernel), evKs, if_pos (by decide +kernel)]
      refine ret1 (tupE ?_)
      rw [lc]
      simp only [ents, List.map_map]
      rfl
  | ent d i =>
    simp only [Pl.ok] at h
    rw [ss_nx (ss "entry" i rfl rfl)]
    rw [ss_rt (d := .tup ((ents s (.ent d i)).map entD)) (st1 := st)]
    · rfl
    · rw [mtch_ rfl, evKs, if_neg (by decide +kernel), evKs, if_neg (by decide +kernel), evKs, if_neg (by decide +kernel), evKs, if_neg (by decide +kernel), evKs]
      refine ret1 ?_
      simp [ev, evs, slotV, slD, C.isNon, bndD, plD_ent, cutD, cutAt, ents, entD]
  | lin i d =>
    simp only [Pl.ok] at h
    rw [ss_nx (ss "line" d rfl rfl)]
    have lc := lc_map1 (T := prg.tab) (call := rn wf n) (elt := .tup (.cons (.var 8) (.cons (.idx (.var 1) (.int 1)) .nil))) (tg := [8]) (it := .rng1 (.bin .add (.var 7) (.int 1))) (ρ := [some (.v (shD s)), some (.v (plD (.lin i d))), some (.v (rsD s)), some (.v (ssD s)), some (.v (dsD s)), some (.v (rgL s.rs.length)), some (.v (.str "line")), some (.v (.int d)), none, none]) (st := st) (st1 := st)
      (fun i : Nat => D.int (i : Nat)) (fun b => entD (b, i)) (List.range (d + 1)) (it_rngN (i := (d : Int) + 1) (d + 1) rfl rfl (by omega)) (by simp; omega) (fun a ha => ⟨_, rfl, rfl⟩)
    rw [ss_rt (d := .tup ((ents s (.lin i d)).map entD)) (st1 := st)]
    · rfl
    · rw [mtch_ rfl, evKs, if_neg (by decide +kernel), evKs, if_neg (by decide +kernel), evKs, if_pos (by decide +kernel)]
      refine ret1 (tupE ?_)
      rw [lc]
      simp only [ents, List.map_map]
      rfl
  | sec k d =>
    simp only [Pl.ok] at h
    have hk : s.ss[k]? = some s.ss[k] := List.getElem?_eq_getElem h.1
    rw [ss_nx (ss "section" d rfl rfl)]
    have lc := lc_flt (T := prg.tab) (call := rn wf n) (elt := .tup (.cons (.var 7) (.cons (.var 9) .nil))) (tg := [9]) (it := .seq (.var 5)) (ifs := .cons (.cmp .isin (.idx (.idx (.var 2) (.var 9)) (.int 0)) (.idx (.var 3) (.idx (.var 1) (.int 1)))) .nil) (ρ := [some (.v (shD s)), some (.v (plD (.sec k d))), some (.v (rsD s)), some (.v (ssD s)), some (.v (dsD s)), some (.v (rgL s.rs.length)), some (.v (.str "section")), some (.v (.int d)), none, none]) (st := st) (st1 := st)
      (fun i : Nat => D.int (i : Nat)) (fun i => inSec s k i) (fun b => entD (d, b)) (List.range s.rs.length) rfl (by simp; omega) (fun a ha => ⟨_, rfl, by
        have hlt := List.mem_range.mp ha
        have hr : s.rs[a]? = some s.rs[a] := List.getElem?_eq_getElem hlt
        have e1 := idx_map (f := rowD) hr st
        have e2 := idx_map (f := secD) hk st
        simp only [evIfs, ev, slotV, wipeE, List.getElem?_set, List.length_set, List.length_cons, List.getElem?_cons_succ, List.getElem?_cons_zero, Res.bind_ok]
        simp [slotV, e1, e2, plD_sec, tup3_1, row0, in_sec, truD, inSec, hr, hk], fun _ => rfl⟩)
    rw [ss_rt (d := .tup ((ents s (.sec k d)).map entD)) (st1 := st)]
    · rfl
    · rw [mtch_ rfl, evKs, if_neg (by decide +kernel), evKs, if_neg (by decide +kernel), evKs, if_neg (by decide +kernel), evKs, if_pos (by decide +kernel)]
      refine ret1 (tupE ?_)
      rw [lc]
      simp only [ents, List.map_map]
      rfl
end
end K17

set_option exponentiation.threshold 5000
namespace K17
open Eng
section
variable {wf n : Nat} {st : Store}
abbrev am (r : Rat) : D := amD I r
theorem jAdd : prg.fn[37]? = some ⟨4, 2, tAdd I.c I.asam I.fo I.fu, none, false⟩ := rfl
theorem mAdd : methOf prg.tab I.c nAdd = some 37 := rfl
theorem makeI (hwf : 2 ^ 4096 ≤ wf) {q : Rat} (h : Sz 1000 q) : rn wf (n + 2) 33 [.int q.num, .int q.den] st = .ok (am q) st := by
  have z := make' (P := prg) (I := I) (n := n) (st := st) K hwf q.num q.den (den0R q) (pw' h.1 (by decide)) (pw' (ndR h) (by decide))
  rw [Rat.num_divInt_den] at z
  exact z
theorem addA (hwf : 2 ^ 4096 ≤ wf) {a b : Rat} (ha : Sz 1000 a) (hb : Sz 1000 b) (call : Nat → List D → Store → Res D) (hc : call = rn wf (n + 4)) : binD prg.tab call .add (am a) (am b) st = .ok (am (a + b)) st := by
  subst hc
  rw [bin_am K _ (m := nAdd) (r := nRadd) rfl mAdd]
  exact add' K hwf jAdd (.am b) ha hb
/-! ### the exact value, by the package -/
abbrev bRow : Ss := (.cons (.set 2 (.bin .add (.var 2) (.make 0 (.cons (.idx (.var 4) (.int 0)) (.cons (.idx (.var 4) (.int 1)) .nil)) []))) .nil)
theorem rows_loop (hwf : 2 ^ 4096 ≤ wf) {x y : Option Slot} {z : List (Option Slot)} : ∀ (rs : List Row) (a : Rat) (m : Nat) (e1 e2 e3 e4 : Option Slot), (∀ r ∈ rs, Sz 20 r.q) → Sz m a → m + 21 * rs.length ≤ 1000 → ∃ e1' e2' e3' e4', forR [3, 4, 5, 6] (evSs prg.tab (rn wf (n + 4)) wf bRow) (rs.map rowD) (x :: y :: some (.v (am a)) :: e1 :: e2 :: e3 :: e4 :: z) st = .nx (x :: y :: some (.v (am (sumQ (rs.map (·.q)) a))) :: e1' :: e2' :: e3' :: e4' :: z) st
  | [], a, m, e1, e2, e3, e4, _, _, _ => ⟨e1, e2, e3, e4, rfl⟩
  | r :: rs, a, m, e1, e2, e3, e4, H, h, hm => by
    rw [List.length_cons] at hm
    have hq := H r List.mem_cons_self
    obtain ⟨f1, f2, f3, f4, e⟩ := rows_loop hwf (x := x) (y := y) (z := z) rs (a + r.q) (m + 20 + 1) (some (.v (.str r.nm))) (some (.v (frD r.q))) (some (.v (.int r.c))) (some (.v (.bl r.g))) (fun r hr => H r (List.mem_cons_of_mem _ hr)) (Sz_add h hq) (by omega)
    refine ⟨f1, f2, f3, f4, ?_⟩
    rw [List.map_cons, forR, show bindT [3, 4, 5, 6] (rowD r) (x :: y :: some (.v (am a)) :: e1 :: e2 :: e3 :: e4 :: z) = some (x :: y :: some (.v (am a)) :: some (.v (.str r.nm)) :: some (.v (frD r.q)) :: some (.v (.int r.c)) :: some (.v (.bl r.g)) :: z) by simp [bindT, rowD, setAll]]
    dsimp only
    have mk := makeI (n := n + 2) (st := st) hwf (Sz_le hq (by decide))
    have ad := addA (n := n) (st := st) hwf (Sz_le h (show m ≤ 1000 by omega)) (Sz_le hq (show 20 ≤ 1000 by decide)) _ rfl
    have e' : frD r.q = .tup [.int r.q.num, .int r.q.den] := rfl
    rw [show evSs prg.tab (rn wf (n + 4)) wf bRow (x :: y :: some (.v (am a)) :: some (.v (.str r.nm)) :: some (.v (frD r.q)) :: some (.v (.int r.c)) :: some (.v (.bl r.g)) :: z) st = .nx (x :: y :: some (.v (am (a + r.q))) :: some (.v (.str r.nm)) :: some (.v (frD r.q)) :: some (.v (.int r.c)) :: some (.v (.bl r.g)) :: z) st by
      simp only [evSs, evS, ev, evs, slotV, List.getElem?_cons_succ, List.getElem?_cons_zero, Res.bind_ok, e', idx0, idx1]
      rw [show (prg.tab.cls[0]? : Option Cls) = some ⟨33, _, _, _⟩ from rfl]
      dsimp only
      rw [show ([D.int r.q.num, D.int ↑r.q.den] ++ [] : List D) = [.int r.q.num, .int r.q.den] from rfl, mk, Res.bind_ok, ad, Res.fl_ok, if_pos (by simp)]
      rfl]
    exact e
abbrev bEnt : Ss := (.cons (.unp [9, 10] (.idx (.idx (.idx (.var 0) (.int 2)) (.var 7)) (.var 8))) (.cons (.set 2 (.bin .add (.var 2) (.make 0 (.cons (.var 9) (.cons (.var 10) .nil)) []))) .nil))
theorem ents_loop (hwf : 2 ^ 4096 ≤ wf) {s : Sheet} (o : OK s) {y e1 e2 e3 e4 : Option Slot} : ∀ (es : List (Nat × Nat)) (a : Rat) (m : Nat) (g1 g2 g3 g4 : Option Slot), (∀ e ∈ es, e.1 < s.ds.length ∧ e.2 < s.rs.length) → Sz m a → m + 21 * es.length ≤ 1000 → ∃ g1' g2' g3' g4', forR [7, 8] (evSs prg.tab (rn wf (n + 4)) wf bEnt) (es.map entD) [some (.v (shD s)), y, some (.v (am a)), e1, e2, e3, e4, g1, g2, g3, g4] st = .nx [some (.v (shD s)), y, some (.v (am (sumQ (es.map (chg s)) a))), e1, e2, e3, e4, g1', g2', g3', g4'] st
  | [], a, m, g1, g2, g3, g4, _, _, _ => ⟨g1, g2, g3, g4, rfl⟩
  | e :: es, a, m, g1, g2, g3, g4, H, h, hm => by
    rw [List.length_cons] at hm
    have hq := chg_sz o e
    obtain ⟨d, d1, d2, d3⟩ := day_at o (H e List.mem_cons_self) st
    obtain ⟨f1, f2, f3, f4, ee⟩ := ents_loop hwf o (y := y) (e1 := e1) (e2 := e2) (e3 := e3) (e4 := e4) es (a + chg s e) (m + 20 + 1) (some (.v (.int e.1))) (some (.v (.int e.2))) (some (.v (.int (chg s e).num))) (some (.v (.int (chg s e).den))) (fun r hr => H r (List.mem_cons_of_mem _ hr)) (Sz_add h hq) (by omega)
    refine ⟨f1, f2, f3, f4, ?_⟩
    rw [List.map_cons, forR, show bindT [7, 8] (entD e) [some (.v (shD s)), y, some (.v (am a)), e1, e2, e3, e4, g1, g2, g3, g4] = some [some (.v (shD s)), y, some (.v (am a)), e1, e2, e3, e4, some (.v (.int e.1)), some (.v (.int e.2)), g3, g4] by simp [bindT, entD, setAll]]
    dsimp only
    have mk := makeI (n := n + 2) (st := st) hwf (Sz_le hq (show 20 ≤ 1000 by decide))
    have ad := addA (n := n) (st := st) hwf (Sz_le h (show m ≤ 1000 by omega)) (Sz_le hq (show 20 ≤ 1000 by decide)) _ rfl
    have e' : frD (chg s e) = .tup [.int (chg s e).num, .int (chg s e).den] := rfl
    rw [e'] at d3
    have u1 : evS prg.tab (rn wf (n + 4)) wf (.unp [9, 10] (.idx (.idx (.idx (.var 0) (.int 2)) (.var 7)) (.var 8))) [some (.v (shD s)), y, some (.v (am a)), e1, e2, e3, e4, some (.v (.int e.1)), some (.v (.int e.2)), g3, g4] st = .nx [some (.v (shD s)), y, some (.v (am a)), e1, e2, e3, e4, some (.v (.int e.1)), some (.v (.int e.2)), some (.v (.int (chg s e).num)), some (.v (.int (chg s e).den))] st := by
      simp only [evS, ev, slotV, List.getElem?_cons_succ, List.getElem?_cons_zero, Res.bind_ok, shD, tup3_2, d2, d3, Res.fl_ok]
      simp [setAll]
    rw [ss_nx u1]
    rw [show evSs prg.tab (rn wf (n + 4)) wf (.cons (.set 2 (.bin .add (.var 2) (.make 0 (.cons (.var 9) (.cons (.var 10) .nil)) []))) .nil) [some (.v (shD s)), y, some (.v (am a)), e1, e2, e3, e4, some (.v (.int e.1)), some (.v (.int e.2)), some (.v (.int (chg s e).num)), some (.v (.int (chg s e).den))] st = .nx [some (.v (shD s)), y, some (.v (am (a + chg s e))), e1, e2, e3, e4, some (.v (.int e.1)), some (.v (.int e.2)), some (.v (.int (chg s e).num)), some (.v (.int (chg s e).den))] st by
      simp only [evSs, evS, ev, evs, slotV, List.getElem?_cons_succ, List.getElem?_cons_zero, Res.bind_ok]
      rw [show (prg.tab.cls[0]? : Option Cls) = some ⟨33, _, _, _⟩ from rfl]
      dsimp only
      rw [show ([D.int (chg s e).num, D.int ↑(chg s e).den] ++ [] : List D) = [.int (chg s e).num, .int (chg s e).den] from rfl, mk, Res.bind_ok, ad, Res.fl_ok, if_pos (by simp)]
      rfl]
    exact ee
theorem exact_am (hwf : 2 ^ 4096 ≤ wf) {s : Sheet} {p : Pl} (o : OK s) (h : p.ok s) : rn wf (n + 5) 22 [shD s, plD p] st = .ok (am (exQ s p)) st := by
  rw [run_f (f := ⟨11, 2, b22, none, false⟩) rfl rfl rfl]
  show endF false (evSs prg.tab (rn wf (n + 4)) wf b22 [some (.v (shD s)), some (.v (plD p)), none, none, none, none, none, none, none, none, none] st) = _
  unfold b22
  have mk : rn wf (n + 4) 33 [.int 0, .int 1] st = .ok (am 0) st := makeI (n := n + 2) (st := st) hwf (q := 0) ⟨by decide, by decide⟩
  have s1 : evS prg.tab (rn wf (n + 4)) wf (.set 2 (.make 0 (.cons (.int 0) .nil) [(.int 1)])) [some (.v (shD s)), some (.v (plD p)), none, none, none, none, none, none, none, none, none] st = .nx [some (.v (shD s)), some (.v (plD p)), some (.v (am 0)), none, none, none, none, none, none, none, none] st := by
    simp only [evS, ev, evs, Res.bind_ok]
    rw [show (prg.tab.cls[0]? : Option Cls) = some ⟨33, _, _, _⟩ from rfl]
    dsimp only
    rw [show ([D.int 0] ++ [D.int 1] : List D) = [.int 0, .int 1] from rfl, mk, Res.fl_ok]
    rfl
  rw [ss_nx s1]
  have ri := rowsin_ (wf := wf) (n := n + 3) (st := st) h
  have ei := entries_ (wf := wf) (n := n + 3) (st := st) o h
  have rl := rowsIn_len (p := p) o
  have el := ents_len o h
  obtain ⟨e1, e2, e3, e4, l1⟩ := rows_loop (n := n) (st := st) hwf (x := some (.v (shD s))) (y := some (.v (plD p))) (z := [none, none, none, none]) (rowsIn s p) 0 1 none none none none (fun r hr => (o.rw r (rowsIn_mem r hr)).q) Sz0 (by omega)
  rw [ss_for (xs := (rowsIn s p).map rowD) (st1 := st) (it_seq (.inr (by simp [ev, evs, slotV, ri]))) l1]
  obtain ⟨g1, g2, g3, g4, l2⟩ := ents_loop (n := n) (st := st) hwf o (y := some (.v (plD p))) (e1 := e1) (e2 := e2) (e3 := e3) (e4 := e4) (ents s p) (sumQ ((rowsIn s p).map (·.q)) 0) 85 none none none none (ent_lt h) (rows_sz o p) (by omega)
  rw [ss_for (xs := (ents s p).map entD) (st1 := st) (it_seq (.inr (by simp [ev, evs, slotV, ei]))) l2]
  rfl
theorem exact_of (hwf : 2 ^ 4096 ≤ wf) {s : Sheet} {p : Pl} (o : OK s) (h : p.ok s) : rn wf (n + 6) 8 [shD s, plD p] st = .ok (frD (exQ s p)) st := by
  rw [run_f (f := ⟨2, 2, b8, none, false⟩) rfl rfl rfl]
  show endF false (evSs prg.tab (rn wf (n + 5)) wf b8 [some (.v (shD s)), some (.v (plD p))] st) = _
  have e := exact_am (n := n) (st := st) hwf o h
  have q : attrD prg.tab (rn wf (n + 5)) 14 (am (exQ s p)) st = .ok (frD (exQ s p)) st := pair' (P := prg) (I := I) (wf := wf) (n := n + 4) (st := st) K (j := 34) rfl (exQ s p)
  simp [b8, evSs, evS, ev, evs, slotV, e, q, Res.fl, endF]
theorem least_of (hwf : 2 ^ 4096 ≤ wf) {s : Sheet} {p : Pl} (o : OK s) (h : p.ok s) : rn wf (n + 6) 9 [shD s, plD p] st = .ok (.int (exQ s p).floor) st := by
  rw [run_f (f := ⟨2, 2, b9, none, false⟩) rfl rfl rfl]
  show endF false (evSs prg.tab (rn wf (n + 5)) wf b9 [some (.v (shD s)), some (.v (plD p))] st) = _
  have e := exact_am (n := n) (st := st) hwf o h
  have q : attrD prg.tab (rn wf (n + 5)) 15 (am (exQ s p)) st = .ok (.int (exQ s p).floor) st := down' (P := prg) (I := I) (wf := wf) (n := n + 4) (st := st) K (j := 35) rfl (Sz_le (ex_sz o h) (by decide))
  simp [b9, evSs, evS, ev, evs, slotV, e, q, Res.fl, endF]
theorem most_of (hwf : 2 ^ 4096 ≤ wf) {s : Sheet} {p : Pl} (o : OK s) (h : p.ok s) : rn wf (n + 6) 10 [shD s, plD p] st = .ok (.int (ceilQ (exQ s p))) st := by
  rw [run_f (f := ⟨2, 2, b10, none, false⟩) rfl rfl rfl]
  show endF false (evSs prg.tab (rn wf (n + 5)) wf b10 [some (.v (shD s)), some (.v (plD p))] st) = _
  have e := exact_am (n := n) (st := st) hwf o h
  have q : attrD prg.tab (rn wf (n + 5)) 16 (am (exQ s p)) st = .ok (.int (ceilQ (exQ s p))) st := up' (P := prg) (I := I) (wf := wf) (n := n + 4) (st := st) K (j := 36) rfl (Sz_le (ex_sz o h) (by decide))
  simp [b10, evSs, evS, ev, evs, slotV, e, q, Res.fl, endF]
theorem sumE {T : Tab} {call : Nat → List D → Store → Res D} {α : Type} {f : α → Int} {l : List α} {e : C} {ρ : Env} {st1 : Store} (h : ev T call e ρ st = .ok (.lst (l.map fun a => .int (f a))) st1) : ev T call (.blt .sum e) ρ st = .ok (.int (sumI (l.map f) 0)) st1 := by
  rw [ev, h, Res.bind_ok]
  simp only [bltD]
  rw [sumD_map f l 0]
theorem fixed_of {s : Sheet} {p : Pl} (o : OK s) (h : p.ok s) : rn wf (n + 2) 11 [shD s, plD p] st = .ok (.int (fixC s p)) st := by
  rw [run_f (f := ⟨6, 2, b11, none, false⟩) rfl rfl rfl]
  show endF false (evSs prg.tab (rn wf (n + 1)) wf b11 [some (.v (shD s)), some (.v (plD p)), none, none, none, none] st) = _
  have ri := rowsin_ (wf := wf) (n := n) (st := st) h
  unfold b11
  have rl := rowsIn_len (p := p) o
  rw [ret1 (sumE (f := fun r : Row => r.c) (l := rowsIn s p) (st1 := st) (lc_map1 rowD (fun r => .int r.c) (rowsIn s p) (it_seq (.inr (by simp [ev, evs, slotV, ri]))) (by omega) fun r hr => ⟨_, rfl, rfl⟩))]
  rfl
/-- a booking -/
def coD (c : List (List Int)) : D := .tup (c.map fun r => .tup (r.map .int))
def coin (c : List (List Int)) (e : Nat × Nat) : Int := ((c[e.1]?).bind (·[e.2]?)).getD 0
structure CoOK (s : Sheet) (c : List (List Int)) : Prop where
  l : c.length = s.ds.length
  r : ∀ x ∈ c, x.length = s.rs.length
  b : ∀ x ∈ c, ∀ i ∈ x, i.natAbs < 2 ^ 40
def cenC (s : Sheet) (c : List (List Int)) (p : Pl) : Int := fixC s p + sumI ((ents s p).map (coin c)) 0
theorem coin_at {s : Sheet} {c : List (List Int)} (k : CoOK s c) {e : Nat × Nat} (h : e.1 < s.ds.length ∧ e.2 < s.rs.length) (st : Store) : ∃ r : List Int, idxD (coD c) (.int (e.1 : Nat)) st = .ok (.tup (r.map .int)) st ∧ idxD (.tup (r.map .int)) (.int (e.2 : Nat)) st = .ok (.int (coin c e)) st := by
  have hl := k.l
  have h1 : c[e.1]? = some c[e.1] := List.getElem?_eq_getElem (by omega)
  have hr := k.r c[e.1] (List.getElem_mem _)
  have h2 : (c[e.1])[e.2]? = some (c[e.1])[e.2] := List.getElem?_eq_getElem (by omega)
  refine ⟨_, idx_map (f := fun r : List Int => .tup (r.map .int)) h1 st, ?_⟩
  rw [idx_map h2 st]
  unfold coin
  rw [h1, Option.bind_some, h2]
  rfl
theorem cents_of {s : Sheet} {p : Pl} {c : List (List Int)} (o : OK s) (k : CoOK s c) (h : p.ok s) : rn wf (n + 3) 12 [shD s, coD c, plD p] st = .ok (.int (cenC s c p)) st := by
  rw [run_f (f := ⟨5, 3, b12, none, false⟩) rfl rfl rfl]
  show endF false (evSs prg.tab (rn wf (n + 2)) wf b12 [some (.v (shD s)), some (.v (coD c)), some (.v (plD p)), none, none] st) = _
  have fi := fixed_of (wf := wf) (n := n) (st := st) o h
  have ei := entries_ (wf := wf) (n := n + 1) (st := st) o h
  have el := ents_len o h
  unfold b12
  have sm := sumE (T := prg.tab) (call := rn wf (n + 2)) (ρ := [some (.v (shD s)), some (.v (coD c)), some (.v (plD p)), none, none]) (f := coin c) (l := ents s p) (st := st) (st1 := st) (lc_map1 (elt := .idx (.idx (.var 1) (.var 3)) (.var 4)) (tg := [3, 4]) (it := .seq (.call 24 (.cons (.var 0) (.cons (.var 2) .nil)) [])) entD (fun e => .int (coin c e)) (ents s p) (it_seq (.inr (by simp [ev, evs, slotV, ei]))) (by omega) fun e he => ⟨_, rfl, by
    obtain ⟨r, r1, r2⟩ := coin_at k (ent_lt h e he) st
    simp [ev, slotV, entD, wipeE, r1, r2]⟩)
  rw [ret1 (d := .int (cenC s c p)) (st1 := st)]
  · rfl
  · have f1 : ev prg.tab (rn wf (n + 2)) (.call 11 (.cons (.var 0) (.cons (.var 2) .nil)) []) [some (.v (shD s)), some (.v (coD c)), some (.v (plD p)), none, none] st = .ok (.int (fixC s p)) st := by simp [ev, evs, slotV, fi]
    rw [ev, f1, Res.bind_ok, sm, Res.bind_ok]
    rfl
end
end K17

set_option exponentiation.threshold 5000
namespace K17
open Eng
section
variable {wf n : Nat} {st : Store}
theorem ss_if {T : Tab} {call : Nat → List D → Store → Res D} {t : C} {a b r : Ss} {ρ : Env} {k : Bool} {st st1 : Store} (h : evT T call t ρ st = .ok k st1) : evSs T call wf (.cons (.ite t a b) r) ρ st = (match (if k then evSs T call wf a ρ st1 else evSs T call wf b ρ st1) with
    | .nx ρ1 st2 => evSs T call wf r ρ1 st2
    | f => f) := by
  rw [evSs, evS, h]
  rfl
theorem ss_ifF {T : Tab} {call : Nat → List D → Store → Res D} {t : C} {a r : Ss} {ρ : Env} {st st1 : Store} (h : evT T call t ρ st = .ok false st1) : evSs T call wf (.cons (.ite t a .nil) r) ρ st = evSs T call wf r ρ st1 := by
  rw [ss_if h]
  simp [evSs]
theorem ss_ifR {T : Tab} {call : Nat → List D → Store → Res D} {t : C} {a b r : Ss} {ρ : Env} {d : D} {st st1 st2 : Store} (h : evT T call t ρ st = .ok true st1) (h2 : evSs T call wf a ρ st1 = .rt d st2) : evSs T call wf (.cons (.ite t a b) r) ρ st = .rt d st2 := by
  rw [ss_if h]
  simp [h2]
theorem word_t {call : Nat → List D → Store → Res D} {ρ : Env} {i : Nat} {d : D} {w v : PySem.Str} (h : slotV ρ i = some d) (h2 : idxD d (.int 0) st = .ok (.str w) st) (pw : plain (.str w) = true) (pv : plain (.str v) = true) : evT prg.tab call (.cmp .eq (.idx (.var i) (.int 0)) (.str v)) ρ st = .ok (w == v) st := by
  simp only [evT, ev, h, Res.bind_ok, h2]
  rw [cmp_eqT _ _ pw pv]
  rfl
theorem acc_loop {s : Sheet} (o : OK s) {p : Pl} (l : List Nat) : ∀ (acc : List D) (x : Option Slot), l.length ≤ 10 → acc.length + 4 * l.length ≤ 100 → ∃ x', forR [2] (evSs prg.tab (rn wf n) wf (.cons (.ext 4 (.lc (.tup (.cons (.var 2) (.cons (.var 5) .nil))) [5] (.rng1 (.var 3)) .nil)) .nil)) (l.map fun i => D.int (i : Nat)) [some (.v (shD s)), some (.v (plD p)), x, some (.v (.int (s.rs.length : Nat))), some (.own acc), none] st =
    .nx [some (.v (shD s)), some (.v (plD p)), x', some (.v (.int (s.rs.length : Nat))), some (.own (acc ++ l.flatMap fun e => (List.range s.rs.length).map fun i => entD (e, i))), none] st := by
  induction l with
  | nil => intro acc x _ _; exact ⟨x, by simp [forR]⟩
  | cons e l acc_loop =>
    intro acc x h1 h2
    have r1 := o.r1
    rw [List.length_cons] at h1 h2
    obtain ⟨x', ih⟩ := acc_loop (acc ++ (List.range s.rs.length).map fun i => entD (e, i)) (some (.v (.int e))) (by omega) (by simp; omega)
    refine ⟨x', ?_⟩
    have lc := lc_map1 (T := prg.tab) (call := rn wf n) (elt := .tup (.cons (.var 2) (.cons (.var 5) .nil))) (tg := [5]) (it := .rng1 (.var 3)) (ρ := [some (.v (shD s)), some (.v (plD p)), some (.v (.int e)), some (.v (.int (s.rs.length : Nat))), some (.own acc), none]) (st := st) (st1 := st)
      (fun i : Nat => D.int (i : Nat)) (fun b => entD (e, b)) (List.range s.rs.length) (it_rngN (i := (s.rs.length : Nat)) s.rs.length rfl rfl (by omega)) (by simp; omega) (fun a ha => ⟨_, rfl, rfl⟩)
    have hs : evS prg.tab (rn wf n) wf (.ext 4 (.lc (.tup (.cons (.var 2) (.cons (.var 5) .nil))) [5] (.rng1 (.var 3)) .nil)) [some (.v (shD s)), some (.v (plD p)), some (.v (.int e)), some (.v (.int (s.rs.length : Nat))), some (.own acc), none] st = .nx [some (.v (shD s)), some (.v (plD p)), some (.v (.int e)), some (.v (.int (s.rs.length : Nat))), some (.own (acc ++ (List.range s.rs.length).map fun i => entD (e, i))), none] st := by
      exact ext_is lc rfl (by simp; omega)
    rw [List.map_cons, forR_nx (tg := [2]) (d := D.int (e : Nat)) rfl (ss_one hs), ih, List.flatMap_cons, List.append_assoc]
theorem lentries_ {s : Sheet} {p : Pl} (o : OK s) (h : p.ok s) : rn wf (n + 1) 28 [shD s, plD p] st = .ok (.lst ((ents s p).map entD)) st := by
  have r1 := o.r1
  have d1 := o.d1
  rw [run_f (f := ⟨6, 2, b28, none, true⟩) rfl rfl rfl]
  show endF true (evSs prg.tab (rn wf n) wf b28 [some (.v (shD s)), some (.v (plD p)), none, none, none, none] st) = _
  unfold b28
  have s1 : evS prg.tab (rn wf n) wf (.parN [(3, false), (4, true)] (.cons (.blt .len (.idx (.var 0) (.int 0))) (.cons (.lst .nil) .nil))) [some (.v (shD s)), some (.v (plD p)), none, none, none, none] st = .nx [some (.v (shD s)), some (.v (plD p)), none, some (.v (.int (s.rs.length : Nat))), some (.own []), none] st := by
    simp [evS, ev, evs, slotV, shD, tup3_0, bltD, setPar, Res.fl]
  rw [ss_nx s1]
  cases p with
  | ent d i =>
    rw [ss_ifR (word_t (d := plD (.ent d i)) rfl rfl pw3 pw3) (ret1 (d := .lst ((ents s (.ent d i)).map entD)) (st1 := st) rfl)]
    rfl
  | lin i d =>
    simp only [Pl.ok] at h
    rw [ss_ifF ((word_t (d := plD (.lin i d)) rfl rfl pw4 pw3).trans (by rw [w43]))]
    have lc := lc_map1 (T := prg.tab) (call := rn wf n) (elt := .tup (.cons (.var 2) (.cons (.idx (.var 1) (.int 1)) .nil))) (tg := [2]) (it := .rng1 (.bin .add (.idx (.var 1) (.int 2)) (.int 1))) (ρ := [some (.v (shD s)), some (.v (plD (.lin i d))), none, some (.v (.int (s.rs.length : Nat))), some (.own []), none]) (st := st) (st1 := st)
      (fun i : Nat => D.int (i : Nat)) (fun b => entD (b, i)) (List.range (d + 1)) (it_rngN (i := (d : Int) + 1) (d + 1) rfl rfl (by omega)) (by simp; omega) (fun a ha => ⟨_, rfl, rfl⟩)
    rw [ss_ifR (word_t (d := plD (.lin i d)) rfl rfl pw4 pw4) (ret1 lc)]
    simp only [ents, List.map_map]
    rfl
  | day d =>
    simp only [Pl.ok] at h
    rw [ss_ifF ((word_t (d := plD (.day d)) rfl rfl pw2 pw3).trans (by rw [w23])), ss_ifF ((word_t (d := plD (.day d)) rfl rfl pw2 pw4).trans (by rw [w24]))]
    have lc := lc_map1 (T := prg.tab) (call := rn wf n) (elt := .tup (.cons (.idx (.var 1) (.int 1)) (.cons (.var 5) .nil))) (tg := [5]) (it := .rng1 (.var 3)) (ρ := [some (.v (shD s)), some (.v (plD (.day d))), none, some (.v (.int (s.rs.length : Nat))), some (.own []), none]) (st := st) (st1 := st)
      (fun i : Nat => D.int (i : Nat)) (fun b => entD (d, b)) (List.range s.rs.length) (it_rngN (i := (s.rs.length : Nat)) s.rs.length rfl rfl (by omega)) (by simp; omega) (fun a ha => ⟨_, rfl, rfl⟩)
    rw [ss_ifR (word_t (d := plD (.day d)) rfl rfl pw2 pw2) (ret1 lc)]
    simp only [ents, List.map_map]
    rfl
  | sec k d =>
    simp only [Pl.ok] at h
    have hk : s.ss[k]? = some s.ss[k] := List.getElem?_eq_getElem h.1
    rw [ss_ifF ((word_t (d := plD (.sec k d)) rfl rfl pw5 pw3).trans (by rw [w53])), ss_ifF ((word_t (d := plD (.sec k d)) rfl rfl pw5 pw4).trans (by rw [w54])), ss_ifF ((word_t (d := plD (.sec k d)) rfl rfl pw5 pw2).trans (by rw [w52]))]
    have lc := lc_flt (T := prg.tab) (call := rn wf n) (elt := .tup (.cons (.idx (.var 1) (.int 2)) (.cons (.var 5) .nil))) (tg := [5]) (it := .rng1 (.var 3)) (ifs := .cons (.cmp .isin (.idx (.idx (.idx (.var 0) (.int 0)) (.var 5)) (.int 0)) (.idx (.idx (.var 0) (.int 1)) (.idx (.var 1) (.int 1)))) .nil) (ρ := [some (.v (shD s)), some (.v (plD (.sec k d))), none, some (.v (.int (s.rs.length : Nat))), some (.own []), none]) (st := st) (st1 := st)
      (fun i : Nat => D.int (i : Nat)) (fun i => inSec s k i) (fun b => entD (d, b)) (List.range s.rs.length) (it_rngN (i := (s.rs.length : Nat)) s.rs.length rfl rfl (by omega)) (by simp; omega) (fun a ha => ⟨_, rfl, by
        have hlt := List.mem_range.mp ha
        have hr : s.rs[a]? = some s.rs[a] := List.getElem?_eq_getElem hlt
        have e1 := idx_map (f := rowD) hr st
        have e2 := idx_map (f := secD) hk st
        simp only [evIfs, ev, slotV, wipeE, List.getElem?_set, List.length_set, List.length_cons, List.getElem?_cons_succ, List.getElem?_cons_zero, Res.bind_ok]
        simp [slotV, shD, e1, e2, plD_sec, tup3_0, tup3_1, row0, in_sec, truD, inSec, hr, hk], fun _ => rfl⟩)
    rw [ss_ifR (word_t (d := plD (.sec k d)) rfl rfl pw5 pw5) (ret1 lc)]
    simp only [ents, List.map_map]
    rfl
  | acc d =>
    simp only [Pl.ok] at h
    rw [ss_ifF ((word_t (d := plD (.acc d)) rfl rfl pw1 pw3).trans (by rw [w13])), ss_ifF ((word_t (d := plD (.acc d)) rfl rfl pw1 pw4).trans (by rw [w14])), ss_ifF ((word_t (d := plD (.acc d)) rfl rfl pw1 pw2).trans (by rw [w12])), ss_ifF ((word_t (d := plD (.acc d)) rfl rfl pw1 pw5).trans (by rw [w15]))]
    obtain ⟨x', l⟩ := acc_loop (wf := wf) (n := n) (st := st) o (p := .acc d) (List.range (d + 1)) [] none (by simp; omega) (by simp; omega)
    rw [ss_for (xs := (List.range (d + 1)).map fun i => D.int (i : Nat)) (st1 := st) (it_rngN (i := (d : Int) + 1) (d + 1) rfl rfl (by omega)) l]
    rw [List.nil_append]
    simp only [evSs, evS, ev, slotO, List.getElem?_cons_succ, List.getElem?_cons_zero, Res.fl_ok, endF, ents, List.map_flatMap, List.map_map]
    rfl
/-! ### the exact value and the fixed cents, by the law -/
theorem lrows_loop (hwf : 2 ^ 4096 ≤ wf) {x y e1 e2 : Option Slot} : ∀ (rs : List Row) (a : Rat) (m : Nat) (z : Option Slot), (∀ r ∈ rs, Sz 20 r.q) → Sz m a → m + 21 * rs.length ≤ 1000 → ∃ z', forR [3] (evSs prg.tab (rn wf (n + 2)) wf (.cons (.set 2 (.call 31 (.cons (.var 2) (.cons (.idx (.var 3) (.int 1)) .nil)) [])) .nil)) (rs.map rowD) [x, y, some (.v (frD a)), z, e1, e2] st = .nx [x, y, some (.v (frD (sumQ (rs.map (·.q)) a))), z', e1, e2] st
  | [], a, m, z, _, _, _ => ⟨z, rfl⟩
  | r :: rs, a, m, z, H, h, hm => by
    rw [List.length_cons] at hm
    have hq := H r List.mem_cons_self
    obtain ⟨z', e⟩ := lrows_loop hwf (x := x) (y := y) (e1 := e1) (e2 := e2) rs (a + r.q) (m + 20 + 1) (some (.v (rowD r))) (fun r hr => H r (List.mem_cons_of_mem _ hr)) (Sz_add h hq) (by omega)
    refine ⟨z', ?_⟩
    rw [List.map_cons, forR, show bindT [3] (rowD r) [x, y, some (.v (frD a)), z, e1, e2] = some [x, y, some (.v (frD a)), some (.v (rowD r)), e1, e2] from rfl]
    dsimp only
    have p := plus_ (n := n) (st := st) hwf (Sz_le h (show m ≤ 1000 by omega)) (Sz_le hq (show 20 ≤ 1000 by decide))
    rw [show evSs prg.tab (rn wf (n + 2)) wf (.cons (.set 2 (.call 31 (.cons (.var 2) (.cons (.idx (.var 3) (.int 1)) .nil)) [])) .nil) [x, y, some (.v (frD a)), some (.v (rowD r)), e1, e2] st = .nx [x, y, some (.v (frD (a + r.q))), some (.v (rowD r)), e1, e2] st by simp [evSs, evS, ev, evs, slotV, row1, p, Res.fl]]
    exact e
theorem lents_loop (hwf : 2 ^ 4096 ≤ wf) {s : Sheet} (o : OK s) {y e1 : Option Slot} : ∀ (es : List (Nat × Nat)) (a : Rat) (m : Nat) (g1 g2 : Option Slot), (∀ e ∈ es, e.1 < s.ds.length ∧ e.2 < s.rs.length) → Sz m a → m + 21 * es.length ≤ 1000 → ∃ g1' g2', forR [4, 5] (evSs prg.tab (rn wf (n + 2)) wf (.cons (.set 2 (.call 31 (.cons (.var 2) (.cons (.idx (.idx (.idx (.var 0) (.int 2)) (.var 4)) (.var 5)) .nil)) [])) .nil)) (es.map entD) [some (.v (shD s)), y, some (.v (frD a)), e1, g1, g2] st = .nx [some (.v (shD s)), y, some (.v (frD (sumQ (es.map (chg s)) a))), e1, g1', g2'] st
  | [], a, m, g1, g2, _, _, _ => ⟨g1, g2, rfl⟩
  | e :: es, a, m, g1, g2, H, h, hm => by
    rw [List.length_cons] at hm
    have hq := chg_sz o e
    obtain ⟨d, d1, d2, d3⟩ := day_at o (H e List.mem_cons_self) st
    obtain ⟨f1, f2, ee⟩ := lents_loop hwf o (y := y) (e1 := e1) es (a + chg s e) (m + 20 + 1) (some (.v (.int e.1))) (some (.v (.int e.2))) (fun r hr => H r (List.mem_cons_of_mem _ hr)) (Sz_add h hq) (by omega)
    refine ⟨f1, f2, ?_⟩
    rw [List.map_cons, forR, show bindT [4, 5] (entD e) [some (.v (shD s)), y, some (.v (frD a)), e1, g1, g2] = some [some (.v (shD s)), y, some (.v (frD a)), e1, some (.v (.int e.1)), some (.v (.int e.2))] by simp [bindT, entD, setAll]]
    dsimp only
    have p := plus_ (n := n) (st := st) hwf (Sz_le h (show m ≤ 1000 by omega)) (Sz_le hq (show 20 ≤ 1000 by decide))
    rw [show evSs prg.tab (rn wf (n + 2)) wf (.cons (.set 2 (.call 31 (.cons (.var 2) (.cons (.idx (.idx (.idx (.var 0) (.int 2)) (.var 4)) (.var 5)) .nil)) [])) .nil) [some (.v (shD s)), y, some (.v (frD a)), e1, some (.v (.int e.1)), some (.v (.int e.2))] st = .nx [some (.v (shD s)), y, some (.v (frD (a + chg s e))), e1, some (.v (.int e.1)), some (.v (.int e.2))] st by
      simp only [evSs, evS, ev, evs, slotV, List.getElem?_cons_succ, List.getElem?_cons_zero, Res.bind_ok, shD, tup3_2, d2, d3]
      rw [show ([frD a, frD (chg s e)] ++ [] : List D) = [frD a, frD (chg s e)] from rfl, p, Res.fl_ok, if_pos (by simp)]
      rfl]
    exact ee
theorem lexact_ (hwf : 2 ^ 4096 ≤ wf) {s : Sheet} {p : Pl} (o : OK s) (h : p.ok s) : rn wf (n + 3) 21 [shD s, plD p] st = .ok (frD (exQ s p)) st := by
  rw [run_f (f := ⟨6, 2, b21, none, false⟩) rfl rfl rfl]
  show endF false (evSs prg.tab (rn wf (n + 2)) wf b21 [some (.v (shD s)), some (.v (plD p)), none, none, none, none] st) = _
  unfold b21
  rw [ss_nx (ρ1 := [some (.v (shD s)), some (.v (plD p)), some (.v (frD 0)), none, none, none]) (st1 := st) rfl]
  have ri := inside_ (wf := wf) (n := n + 1) (st := st) h
  have ei := lentries_ (wf := wf) (n := n + 1) (st := st) o h
  have rl := rowsIn_len (p := p) o
  have el := ents_len o h
  obtain ⟨z, l1⟩ := lrows_loop (n := n) (st := st) hwf (x := some (.v (shD s))) (y := some (.v (plD p))) (e1 := none) (e2 := none) (rowsIn s p) 0 1 none (fun r hr => (o.rw r (rowsIn_mem r hr)).q) Sz0 (by omega)
  rw [ss_for (xs := (rowsIn s p).map rowD) (st1 := st) (it_seq (.inl (by simp [ev, evs, slotV, ri]))) l1]
  obtain ⟨g1, g2, l2⟩ := lents_loop (n := n) (st := st) hwf o (y := some (.v (plD p))) (e1 := z) (ents s p) (sumQ ((rowsIn s p).map (·.q)) 0) 85 none none (ent_lt h) (rows_sz o p) (by omega)
  rw [ss_for (xs := (ents s p).map entD) (st1 := st) (it_seq (.inl (by simp [ev, evs, slotV, ei]))) l2]
  rfl
theorem lfixed_ {s : Sheet} {p : Pl} (o : OK s) (h : p.ok s) : rn wf (n + 2) 29 [shD s, plD p] st = .ok (.int (fixC s p)) st := by
  rw [run_f (f := ⟨3, 2, b29, none, false⟩) rfl rfl rfl]
  show endF false (evSs prg.tab (rn wf (n + 1)) wf b29 [some (.v (shD s)), some (.v (plD p)), none] st) = _
  have ri := inside_ (wf := wf) (n := n) (st := st) h
  unfold b29
  have rl := rowsIn_len (p := p) o
  rw [ret1 (sumE (f := fun r : Row => r.c) (l := rowsIn s p) (st1 := st) (lc_map1 rowD (fun r => .int r.c) (rowsIn s p) (it_seq (.inl (by simp [ev, evs, slotV, ri]))) (by omega) fun r hr => ⟨_, rfl, rfl⟩))]
  rfl
end
end K17

set_option exponentiation.threshold 5000
namespace K17
open Eng
/-! ### all sums -/
def pls (s : Sheet) (d : Nat) : List Pl := [.acc d, .day d] ++ (List.range s.rs.length).map (fun i => .ent d i) ++ (List.range s.rs.length).map (fun i => .lin i d) ++ (List.range s.ss.length).map (fun k => .sec k d)
def plsAll (s : Sheet) : List Pl := (List.range s.ds.length).flatMap (pls s)
theorem pls_ok {s : Sheet} : ∀ p ∈ plsAll s, p.ok s := by
  intro p hp
  simp only [plsAll, List.mem_flatMap, List.mem_range, pls, List.mem_append, List.mem_map, List.mem_cons, List.not_mem_nil, or_false] at hp
  obtain ⟨d, hd, ((h | ⟨i, hi, rfl⟩) | ⟨i, hi, rfl⟩) | ⟨k, hk, rfl⟩⟩ := hp
  · rcases h with rfl | rfl
    · exact hd
    · exact hd
  · exact ⟨hd, hi⟩
  · exact ⟨hi, hd⟩
  · exact ⟨hk, hd⟩
theorem pls_len {s : Sheet} (o : OK s) (d : Nat) : (pls s d).length ≤ 13 := by
  have := o.r1
  have := o.s1
  simp [pls]
  omega
theorem plsAll_len {s : Sheet} (o : OK s) : (plsAll s).length ≤ 39 := by
  have h1 := o.d1
  have : ∀ l : List Nat, (l.flatMap (pls s)).length ≤ 13 * l.length := by
    intro l
    induction l with
    | nil => simp
    | cons d l ih =>
      have := pls_len o d
      rw [List.flatMap_cons, List.length_append, List.length_cons, Nat.mul_succ]
      omega
  have h := this (List.range s.ds.length)
  rw [List.length_range] at h
  unfold plsAll
  omega
theorem okK_ints : ∀ a b : List Int, okK (a.map Sum.inl) (b.map Sum.inl) = true
  | [], _ => by simp [okK]
  | _ :: _, [] => by simp [okK]
  | x :: a, y :: b => by
    simp only [List.map_cons, okK]
    split
    · exact okK_ints a b
    · rfl
theorem key_shape (p : Pl) : ∃ (w : PySem.Str) (l : List Int), p.key = Sum.inr w :: l.map Sum.inl := by
  cases p with
  | acc d => exact ⟨"account", [(d : Int)], rfl⟩
  | day d => exact ⟨"day", [(d : Int)], rfl⟩
  | ent d i => exact ⟨"entry", [(d : Int), (i : Int)], rfl⟩
  | lin i d => exact ⟨"line", [(i : Int), (d : Int)], rfl⟩
  | sec k d => exact ⟨"section", [(k : Int), (d : Int)], rfl⟩
theorem keys_ok (l : List Pl) : okKs (l.map Pl.key) = true := by
  unfold okKs
  rw [Bool.and_eq_true]
  refine ⟨?_, ?_⟩
  · rw [Bool.or_eq_true]
    refine .inr (List.all_eq_true.mpr fun k hk => ?_)
    obtain ⟨p, _, rfl⟩ := List.mem_map.mp hk
    obtain ⟨w, m, e⟩ := key_shape p
    rw [e]
    rfl
  · refine List.all_eq_true.mpr fun a ha => List.all_eq_true.mpr fun b hb => ?_
    obtain ⟨p, _, rfl⟩ := List.mem_map.mp ha
    obtain ⟨q, _, rfl⟩ := List.mem_map.mp hb
    obtain ⟨w, m, e⟩ := key_shape p
    obtain ⟨w', m', e'⟩ := key_shape q
    rw [e, e', okK]
    split
    · exact okK_ints m m'
    · rfl
section
variable {wf n : Nat} {st : Store}
abbrev bPl : Ss := (.cons (.ext 3 (.lst (.cons (.tup (.cons (.str "account") (.cons (.var 1) .nil))) (.cons (.tup (.cons (.str "day") (.cons (.var 1) .nil))) .nil))))
  (.cons (.ext 3 (.lc (.tup (.cons (.str "entry") (.cons (.var 1) (.cons (.var 4) .nil)))) [4] (.rng1 (.var 2)) .nil))
  (.cons (.ext 3 (.lc (.tup (.cons (.str "line") (.cons (.var 4) (.cons (.var 1) .nil)))) [4] (.rng1 (.var 2)) .nil))
  (.cons (.ext 3 (.lc (.tup (.cons (.str "section") (.cons (.var 5) (.cons (.var 1) .nil)))) [5] (.rng1 (.blt .len (.idx (.var 0) (.int 1)))) .nil))
  .nil))))
theorem pl_loop {s : Sheet} (o : OK s) (l : List Nat) : ∀ (acc : List D) (x : Option Slot), acc.length + 13 * l.length ≤ 100 → ∃ x', forR [1] (evSs prg.tab (rn wf n) wf bPl) (l.map fun i => D.int (i : Nat)) [some (.v (shD s)), x, some (.v (.int (s.rs.length : Nat))), some (.own acc), none, none] st =
    .nx [some (.v (shD s)), x', some (.v (.int (s.rs.length : Nat))), some (.own (acc ++ (l.flatMap (pls s)).map plD)), none, none] st := by
  induction l with
  | nil => intro acc x _; exact ⟨x, by simp [forR]⟩
  | cons d l ih =>
    intro acc x h
    have r1 := o.r1
    have s1 := o.s1
    rw [List.length_cons] at h
    obtain ⟨x', ih⟩ := ih (acc ++ (pls s d).map plD) (some (.v (.int d))) (by
      have := pls_len o d
      rw [List.length_append, List.length_map]
      omega)
    refine ⟨x', ?_⟩
    have e1 : evS prg.tab (rn wf n) wf (.ext 3 (.lst (.cons (.tup (.cons (.str "account") (.cons (.var 1) .nil))) (.cons (.tup (.cons (.str "day") (.cons (.var 1) .nil))) .nil)))) [some (.v (shD s)), some (.v (.int d)), some (.v (.int (s.rs.length : Nat))), some (.own acc), none, none] st = .nx [some (.v (shD s)), some (.v (.int d)), some (.v (.int (s.rs.length : Nat))), some (.own (acc ++ [plD (.acc d), plD (.day d)])), none, none] st :=
      ext_is (ys := [plD (.acc d), plD (.day d)]) rfl rfl (by simp; omega)
    have l2 := lc_map1 (T := prg.tab) (call := rn wf n) (elt := .tup (.cons (.str "entry") (.cons (.var 1) (.cons (.var 4) .nil)))) (tg := [4]) (it := .rng1 (.var 2)) (ρ := [some (.v (shD s)), some (.v (.int d)), some (.v (.int (s.rs.length : Nat))), some (.own (acc ++ [plD (.acc d), plD (.day d)])), none, none]) (st := st) (st1 := st)
      (fun i : Nat => D.int (i : Nat)) (fun i => plD (.ent d i)) (List.range s.rs.length) (it_rngN (i := (s.rs.length : Nat)) s.rs.length rfl rfl (by omega)) (by simp; omega) (fun a ha => ⟨_, rfl, rfl⟩)
    have e2 := ext_is (wf := wf) (i := 3) l2 rfl (by simp; omega)
    have l3 := lc_map1 (T := prg.tab) (call := rn wf n) (elt := .tup (.cons (.str "line") (.cons (.var 4) (.cons (.var 1) .nil)))) (tg := [4]) (it := .rng1 (.var 2)) (ρ := [some (.v (shD s)), some (.v (.int d)), some (.v (.int (s.rs.length : Nat))), some (.own ((acc ++ [plD (.acc d), plD (.day d)]) ++ (List.range s.rs.length).map fun i => plD (.ent d i))), none, none]) (st := st) (st1 := st)
      (fun i : Nat => D.int (i : Nat)) (fun i => plD (.lin i d)) (List.range s.rs.length) (it_rngN (i := (s.rs.length : Nat)) s.rs.length rfl rfl (by omega)) (by simp; omega) (fun a ha => ⟨_, rfl, rfl⟩)
    have e3 := ext_is (wf := wf) (i := 3) l3 rfl (by simp; omega)
    have hlen : ∀ ρ : Env, slotV ρ 0 = some (shD s) → ev prg.tab (rn wf n) (.blt .len (.idx (.var 0) (.int 1))) ρ st = .ok (.int (s.ss.length : Nat)) st := fun ρ h0 => by
      simp [ev, h0, shD, tup3_1, bltD]
    have l4 := lc_map1 (T := prg.tab) (call := rn wf n) (elt := .tup (.cons (.str "section") (.cons (.var 5) (.cons (.var 1) .nil)))) (tg := [5]) (it := .rng1 (.blt .len (.idx (.var 0) (.int 1)))) (ρ := [some (.v (shD s)), some (.v (.int d)), some (.v (.int (s.rs.length : Nat))), some (.own (((acc ++ [plD (.acc d), plD (.day d)]) ++ (List.range s.rs.length).map fun i => plD (.ent d i)) ++ (List.range s.rs.length).map fun i => plD (.lin i d))), none, none]) (st := st) (st1 := st)
      (fun i : Nat => D.int (i : Nat)) (fun k => plD (.sec k d)) (List.range s.ss.length) (it_rngN (i := (s.ss.length : Nat)) s.ss.length (hlen _ rfl) rfl (by omega)) (by simp; omega) (fun a ha => ⟨_, rfl, rfl⟩)
    have e4 := ext_is (wf := wf) (i := 3) l4 rfl (by simp; omega)
    have hb : evSs prg.tab (rn wf n) wf bPl [some (.v (shD s)), some (.v (.int d)), some (.v (.int (s.rs.length : Nat))), some (.own acc), none, none] st = .nx [some (.v (shD s)), some (.v (.int d)), some (.v (.int (s.rs.length : Nat))), some (.own (acc ++ (pls s d).map plD)), none, none] st := by
      rw [ss_nx e1, ss_nx e2]
      refine (ss_nx e3).trans ((ss_one e4).trans ?_)
      have : acc ++ (pls s d).map plD = ((acc ++ [plD (.acc d), plD (.day d)]) ++ (List.range s.rs.length).map fun i => plD (.ent d i)) ++ ((List.range s.rs.length).map fun i => plD (.lin i d)) ++ ((List.range s.ss.length).map fun k => plD (.sec k d)) := by
        simp [pls, Function.comp_def]
      rw [this]
      rfl
    rw [List.map_cons, forR_nx (tg := [1]) (d := D.int (d : Nat)) rfl hb, ih, List.flatMap_cons, List.map_append, List.append_assoc]
theorem sorted_pl (call : Nat → List D → Store → Res D) (l : List Pl) (hl : l.length ≤ 100) : ∃ l' : List Pl, bltD prg.tab call .sorted (.lst (l.map plD)) st = .ok (.lst (l'.map plD)) st ∧ (∀ p ∈ l', p ∈ l) ∧ l'.length = l.length := by
  cases l with
  | nil => exact ⟨[], rfl, (fun _ h => nomatch h), rfl⟩
  | cons p l =>
    obtain ⟨l', e, h1, h2⟩ := sortK_pull Pl.key (p :: l)
    refine ⟨l', ?_, h1, h2⟩
    have hs : strsD ((p :: l).map plD) = none := by
      simp only [List.map_cons]
      unfold plD tkV
      rfl
    have ht : tksD ((p :: l).map plD) = some ((p :: l).map Pl.key) := tks_is Pl.key (p :: l)
    simp only [bltD, hs, ht]
    rw [if_pos (by rw [keys_ok, Bool.and_true, List.length_map]; exact decide_eq_true (by omega)), e, List.map_map]
    rfl
theorem places_ {s : Sheet} (o : OK s) : ∃ l : List Pl, rn wf (n + 1) 27 [shD s] st = .ok (.lst (l.map plD)) st ∧ (∀ p ∈ l, p.ok s) ∧ l.length ≤ 39 := by
  have d1 := o.d1
  obtain ⟨l, e, h1, h2⟩ := sorted_pl (st := st) (rn wf n) (plsAll s) (by have := plsAll_len o; omega)
  refine ⟨l, ?_, fun p hp => pls_ok p (h1 p hp), by have := plsAll_len o; omega⟩
  rw [run_f (f := ⟨6, 1, b27, none, false⟩) rfl rfl rfl]
  show endF false (evSs prg.tab (rn wf n) wf b27 [some (.v (shD s)), none, none, none, none, none] st) = _
  unfold b27
  have s1 : evS prg.tab (rn wf n) wf (.parN [(2, false), (3, true)] (.cons (.blt .len (.idx (.var 0) (.int 0))) (.cons (.lst .nil) .nil))) [some (.v (shD s)), none, none, none, none, none] st = .nx [some (.v (shD s)), none, some (.v (.int (s.rs.length : Nat))), some (.own []), none, none] st := by
    simp [evS, ev, evs, slotV, shD, tup3_0, bltD, setPar, Res.fl]
  rw [ss_nx s1]
  have hlen : ev prg.tab (rn wf n) (.blt .len (.idx (.var 0) (.int 2))) [some (.v (shD s)), none, some (.v (.int (s.rs.length : Nat))), some (.own []), none, none] st = .ok (.int (s.ds.length : Nat)) st := by
    simp [ev, slotV, shD, tup3_2, bltD]
  obtain ⟨x', lp⟩ := pl_loop (wf := wf) (n := n) (st := st) o (List.range s.ds.length) [] none (by simp; omega)
  rw [ss_for (xs := (List.range s.ds.length).map fun i => D.int (i : Nat)) (st1 := st) (it_rngN (i := (s.ds.length : Nat)) s.ds.length hlen rfl (by omega)) lp]
  rw [List.nil_append]
  rw [ss_nx (ρ1 := [some (.v (shD s)), x', some (.v (.int (s.rs.length : Nat))), some (.v (.lst ((plsAll s).map plD))), none, none]) (st1 := st) rfl]
  rw [ret1 (d := .lst (l.map plD)) (st1 := st) (by simp only [ev, slotV, List.getElem?_cons_succ, List.getElem?_cons_zero, Res.bind_ok]; exact e)]
  rfl
/-! ### the law's table -/
def tabD (s : Sheet) (p : Pl) : D := .tup [plD p, .lst ((ents s p).map entD), .int (exQ s p).floor, .int (ceilQ (exQ s p)), .int (fixC s p)]
abbrev bTab : Ss := (.cons (.set 3 (.call 21 (.cons (.var 0) (.cons (.var 2) .nil)) []))
  (.cons (.app 1 (.tup (.cons (.var 2) (.cons (.call 28 (.cons (.var 0) (.cons (.var 2) .nil)) []) (.cons (.call 18 (.cons (.var 3) .nil) []) (.cons (.call 19 (.cons (.var 3) .nil) []) (.cons (.call 29 (.cons (.var 0) (.cons (.var 2) .nil)) []) .nil)))))))
  .nil))
theorem tab_loop (hwf : 2 ^ 4096 ≤ wf) {s : Sheet} (o : OK s) (l : List Pl) : ∀ (acc : List D) (x y : Option Slot), (∀ p ∈ l, p.ok s) → acc.length + l.length ≤ 100 → ∃ x' y', forR [2] (evSs prg.tab (rn wf (n + 3)) wf bTab) (l.map plD) [some (.v (shD s)), some (.own acc), x, y] st = .nx [some (.v (shD s)), some (.own (acc ++ l.map (tabD s))), x', y'] st := by
  induction l with
  | nil => intro acc x y _ _; exact ⟨x, y, by simp [forR]⟩
  | cons p l ih =>
    intro acc x y H h
    rw [List.length_cons] at h
    have hp := H p List.mem_cons_self
    obtain ⟨x', y', ih⟩ := ih (acc ++ [tabD s p]) (some (.v (plD p))) (some (.v (frD (exQ s p)))) (fun q hq => H q (List.mem_cons_of_mem _ hq)) (by simp; omega)
    refine ⟨x', y', ?_⟩
    have a1 := lexact_ (n := n) (st := st) hwf o hp
    have a2 : rn wf (n + 3) 28 [shD s, plD p] st = .ok (.lst ((ents s p).map entD)) st := lentries_ (wf := wf) (n := n + 2) (st := st) o hp
    have a3 : rn wf (n + 3) 18 [frD (exQ s p)] st = .ok (.int (exQ s p).floor) st := down_ (wf := wf) (n := n + 2) (st := st) (Sz_le (ex_sz o hp) (show 340 ≤ 1000 by decide))
    have a4 : rn wf (n + 3) 19 [frD (exQ s p)] st = .ok (.int (ceilQ (exQ s p))) st := up_ (wf := wf) (n := n + 2) (st := st) (Sz_le (ex_sz o hp) (show 340 ≤ 1000 by decide))
    have a5 : rn wf (n + 3) 29 [shD s, plD p] st = .ok (.int (fixC s p)) st := lfixed_ (wf := wf) (n := n + 1) (st := st) o hp
    have e1 : evS prg.tab (rn wf (n + 3)) wf (.set 3 (.call 21 (.cons (.var 0) (.cons (.var 2) .nil)) [])) [some (.v (shD s)), some (.own acc), some (.v (plD p)), y] st = .nx [some (.v (shD s)), some (.own acc), some (.v (plD p)), some (.v (frD (exQ s p)))] st := by
      simp [evS, ev, evs, slotV, a1, Res.fl]
    have e2 := app_is (T := prg.tab) (call := rn wf (n + 3)) (wf := wf) (i := 1) (e := .tup (.cons (.var 2) (.cons (.call 28 (.cons (.var 0) (.cons (.var 2) .nil)) []) (.cons (.call 18 (.cons (.var 3) .nil) []) (.cons (.call 19 (.cons (.var 3) .nil) []) (.cons (.call 29 (.cons (.var 0) (.cons (.var 2) .nil)) []) .nil)))))) (ρ := [some (.v (shD s)), some (.own acc), some (.v (plD p)), some (.v (frD (exQ s p)))]) (st := st) (st1 := st) (xs := acc) (y := tabD s p) (by
      simp [ev, evs, slotV, a2, a3, a4, a5, tabD]) rfl (by omega)
    rw [List.map_cons, forR_nx (tg := [2]) (d := plD p) rfl ((ss_nx e1).trans (ss_one e2))]
    show forR [2] _ _ [some (.v (shD s)), some (.own (acc ++ [tabD s p])), some (.v (plD p)), some (.v (frD (exQ s p)))] st = _
    rw [ih, List.append_assoc]
    rfl
theorem table_ (hwf : 2 ^ 4096 ≤ wf) {s : Sheet} (o : OK s) : ∃ l : List Pl, rn wf (n + 4) 20 [shD s] st = .ok (.lst (l.map (tabD s))) st ∧ (∀ p ∈ l, p.ok s) ∧ l.length ≤ 39 := by
  obtain ⟨l, e, h1, h2⟩ := (places_ (wf := wf) (n := n + 2) (st := st) o : ∃ l : List Pl, rn wf (n + 3) 27 [shD s] st = .ok (.lst (l.map plD)) st ∧ (∀ p ∈ l, p.ok s) ∧ l.length ≤ 39)
  refine ⟨l, ?_, h1, h2⟩
  have ei : ev prg.tab (rn wf (n + 3)) (.call 27 (.cons (.var 0) .nil) []) [some (.v (shD s)), some (.own []), none, none] st = .ok (.lst (l.map plD)) st := by
    rw [call1 (d := shD s) rfl]
    exact e
  rw [run_f (f := ⟨4, 1, b20, none, true⟩) rfl rfl rfl]
  show endF true (evSs prg.tab (rn wf (n + 3)) wf b20 [some (.v (shD s)), none, none, none] st) = _
  unfold b20
  rw [ss_nx (ρ1 := [some (.v (shD s)), some (.own []), none, none]) (st1 := st) rfl]
  obtain ⟨x', y', lp⟩ := tab_loop (n := n) (st := st) hwf o l [] none none h1 (by simp; omega)
  rw [ss_for (xs := l.map plD) (st1 := st) (it_seq (.inl ei)) lp]
  rw [List.nil_append]
  rfl
end
end K17

set_option exponentiation.threshold 5000
namespace K17
open Eng
/-! ### what repr takes -/
theorem rg_fr {k : Nat} {q : Rat} (h : Sz k q) (hk : k < 1900) : RG 1 ((k + 5) * 2 + 3) (frD q) := by
  refine RG.tup (k := k + 3) (fun d hd => ?_) (Nat.le_refl _)
  rcases List.mem_cons.mp hd with rfl | hd
  · exact RG.int h.1 (by omega)
  · rcases List.mem_cons.mp hd with rfl | hd
    · exact RG.int (ndR h) (by omega)
    · cases hd
theorem rg_row {r : Row} (h : RowOK r) : RG 2 339 (rowD r) := by
  refine RG.tup (h := 1) (k := 82) (m := 4) (fun d hd => ?_) (Nat.le_refl _)
  simp only [List.mem_cons, List.not_mem_nil, or_false] at hd
  rcases hd with rfl | rfl | rfl | rfl
  · exact h.n.le (by decide) (by decide)
  · exact (rg_fr h.q (by decide)).le (by decide) (by decide)
  · exact (RG.int h.c (by decide)).le (by decide) (by decide)
  · exact (RG.bl _).le (by decide) (by decide)
theorem rg_sh {s : Sheet} (o : OK s) : RG 4 4599 (shD s) := by
  have a : RG 3 1367 (.tup (s.rs.map rowD)) := RG.tup (h := 2) (k := 339) (m := 4) (RG.map fun r hr => rg_row (o.rw r hr)) (by rw [List.length_map]; exact o.r1)
  have b : RG 2 1530 (.tup (s.ss.map secD)) := RG.tup (h := 1) (k := 507) (m := 3) (RG.map fun x hx => RG.tup (h := 0) (k := 82) (m := 6) (RG.map fun y hy => (o.sn x hx).2 y hy) (by rw [List.length_map]; exact (o.sn x hx).1)) (by rw [List.length_map]; exact o.s1)
  have c : RG 3 678 (.tup (s.ds.map dayD)) := RG.tup (h := 2) (k := 223) (m := 3) (RG.map fun x hx => RG.tup (h := 1) (k := 53) (m := 4) (RG.map fun q hq => rg_fr (o.dq x hx q hq) (by decide)) (by rw [List.length_map, o.dl x hx]; exact o.r1)) (by rw [List.length_map]; exact o.d1)
  refine RG.tup (h := 3) (k := 1530) (m := 3) (fun d hd => ?_) (Nat.le_refl _)
  simp only [List.mem_cons, List.not_mem_nil, or_false] at hd
  rcases hd with rfl | rfl | rfl
  · exact a.le (by decide) (by decide)
  · exact b.le (by decide) (by decide)
  · exact c.le (by decide) (by decide)
theorem rg_co {s : Sheet} {c : List (List Int)} (o : OK s) (k : CoOK s c) : RG 2 558 (coD c) := by
  refine RG.tup (h := 1) (k := 183) (m := 3) (RG.map fun x hx => RG.tup (h := 0) (k := 43) (m := 4) (RG.map fun i hi => RG.int (k.b x hx i hi) (by decide)) ?_) ?_
  · rw [List.length_map, k.r x hx]; exact o.r1
  · rw [List.length_map, k.l]; exact o.d1
theorem rg_both {s : Sheet} {c : List (List Int)} (o : OK s) (k : CoOK s c) : RG 5 9205 (.tup [shD s, coD c]) := by
  refine RG.tup (h := 4) (k := 4599) (m := 2) (fun d hd => ?_) (Nat.le_refl _)
  simp only [List.mem_cons, List.not_mem_nil, or_false] at hd
  rcases hd with rfl | rfl
  · exact rg_sh o
  · exact (rg_co o k).le (by decide) (by decide)
theorem fl_lt {k : Nat} {q : Rat} (h : Sz k q) : q.floor.natAbs < 2 ^ k := by
  rw [Rat.floor_def]
  exact Nat.lt_of_le_of_lt (Int.natAbs_ediv_le_natAbs _ _) h.1
theorem ce_lt {k : Nat} {q : Rat} (h : Sz k q) : (ceilQ q).natAbs < 2 ^ k := by
  unfold ceilQ
  rw [Int.natAbs_neg]
  exact fl_lt (Sz_neg h)
theorem fix_lt {s : Sheet} {p : Pl} (o : OK s) : (fixC s p).natAbs < 2 ^ 43 := by
  unfold fixC
  have h := sumI_lt (k := 2 ^ 40) ((rowsIn s p).map (·.c)) 0 (fun i hi => by
    obtain ⟨r, hr, rfl⟩ := List.mem_map.mp hi
    exact Nat.le_of_lt (o.rw r (rowsIn_mem r hr)).c)
  rw [List.length_map] at h
  have := rowsIn_len (p := p) o
  have h2 : 2 ^ 40 * (rowsIn s p).length ≤ 2 ^ 40 * 4 := Nat.mul_le_mul_left _ this
  omega
theorem coin_lt {s : Sheet} {c : List (List Int)} (k : CoOK s c) (e : Nat × Nat) : (coin c e).natAbs < 2 ^ 40 := by
  unfold coin
  cases h : c[e.1]? with
  | none => exact (show (0 : Int).natAbs < 2 ^ 40 by decide)
  | some x =>
    simp only [Option.bind_some]
    cases h2 : x[e.2]? with
    | none => exact (show (0 : Int).natAbs < 2 ^ 40 by decide)
    | some i => exact k.b x (List.mem_of_getElem? h) i (List.mem_of_getElem? h2)
theorem cen_lt {s : Sheet} {c : List (List Int)} {p : Pl} (o : OK s) (k : CoOK s c) (h : p.ok s) : (cenC s c p).natAbs < 2 ^ 46 := by
  unfold cenC
  have h1 := fix_lt (p := p) o
  have h2 := sumI_lt (k := 2 ^ 40) ((ents s p).map (coin c)) 0 (fun i hi => by
    obtain ⟨e, he, rfl⟩ := List.mem_map.mp hi
    exact Nat.le_of_lt (coin_lt k e))
  rw [List.length_map] at h2
  have h3 : 2 ^ 40 * (ents s p).length ≤ 2 ^ 40 * 12 := Nat.mul_le_mul_left _ (ents_len o h)
  omega
def fouD (s : Sheet) (p : Pl) : D := .lst [frD (exQ s p), .int (exQ s p).floor, .int (ceilQ (exQ s p)), .int (fixC s p)]
theorem rg_fou {s : Sheet} {p : Pl} (o : OK s) (h : p.ok s) : RG 2 2783 (fouD s p) := by
  refine RG.lst (h := 1) (k := 693) (m := 4) (fun d hd => ?_) (Nat.le_refl _)
  simp only [List.mem_cons, List.not_mem_nil, or_false] at hd
  have z := ex_sz o h
  rcases hd with rfl | rfl | rfl | rfl
  · exact rg_fr z (by decide)
  · exact (RG.int (fl_lt z) (by decide)).le (by decide) (by decide)
  · exact (RG.int (ce_lt z) (by decide)).le (by decide) (by decide)
  · exact (RG.int (fix_lt o) (by decide)).le (by decide) (by decide)
section
variable {wf n : Nat} {st : Store}
theorem reprE {T : Tab} {call : Nat → List D → Store → Res D} {e : C} {ρ : Env} {d r : D} {st st1 : Store} (h : ev T call e ρ st = .ok d st1) (h2 : reprD d st1 = .ok r st1) : ev T call (.repr e) ρ st = .ok r st1 := by
  rw [ev, h, Res.bind_ok, h2]
theorem cmpE {T : Tab} {call : Nat → List D → Store → Res D} {op : Co} {a b : C} {ρ : Env} {x y d : D} {st st1 st2 st3 : Store} (h : ev T call a ρ st = .ok x st1) (h2 : ev T call b ρ st1 = .ok y st2) (h3 : cmpD T call op x y st2 = .ok d st3) : ev T call (.cmp op a b) ρ st = .ok d st3 := by
  rw [ev, h, Res.bind_ok, h2, Res.bind_ok, h3]
theorem tstE {T : Tab} {call : Nat → List D → Store → Res D} {e : C} {ρ : Env} {b : Bool} {st st1 : Store} (h : ev T call e ρ st = .ok (.bl b) st1) : evT T call e ρ st = .ok b st1 := by
  rw [evT, h]
  rfl
theorem varE {T : Tab} {call : Nat → List D → Store → Res D} {i : Nat} {ρ : Env} {d : D} {st : Store} (h : slotV ρ i = some d) : ev T call (.var i) ρ st = .ok d st := by
  rw [ev, h]
theorem consE {T : Tab} {call : Nat → List D → Store → Res D} {c : C} {r : Cs} {ρ : Env} {d : D} {ds : List D} {st st1 st2 : Store} (h : ev T call c ρ st = .ok d st1) (h2 : evs T call r ρ st1 = .ok ds st2) : evs T call (.cons c r) ρ st = .ok (d :: ds) st2 := by
  rw [evs, h, Res.bind_ok, h2, Res.bind_ok]
theorem nilE {T : Tab} {call : Nat → List D → Store → Res D} {ρ : Env} {st : Store} : evs T call .nil ρ st = .ok [] st := by rw [evs]
theorem lstE {T : Tab} {call : Nat → List D → Store → Res D} {as : Cs} {ρ : Env} {ds : List D} {st st1 : Store} (h : evs T call as ρ st = .ok ds st1) : ev T call (.lst as) ρ st = .ok (.lst ds) st1 := by
  rw [ev, h, Res.bind_ok]
theorem tpE {T : Tab} {call : Nat → List D → Store → Res D} {as : Cs} {ρ : Env} {ds : List D} {st st1 : Store} (h : evs T call as ρ st = .ok ds st1) : ev T call (.tup as) ρ st = .ok (.tup ds) st1 := by
  rw [ev, h, Res.bind_ok]
theorem setS {T : Tab} {call : Nat → List D → Store → Res D} {i : Nat} {e : C} {ρ : Env} {d : D} {st st1 : Store} (h : ev T call e ρ st = .ok d st1) (hi : i < ρ.length) : evS T call wf (.set i e) ρ st = .nx (ρ.set i (some (.v d))) st1 := by
  rw [evS, h, Res.fl_ok, if_pos hi]
abbrev bAg : Ss := (.cons (.set 8 (.lst (.cons (.call 8 (.cons (.var 0) (.cons (.var 3) .nil)) []) (.cons (.call 9 (.cons (.var 0) (.cons (.var 3) .nil)) []) (.cons (.call 10 (.cons (.var 0) (.cons (.var 3) .nil)) []) (.cons (.call 11 (.cons (.var 0) (.cons (.var 3) .nil)) []) .nil))))))
  (.cons (.ite (.cmp .ne (.repr (.var 8)) (.repr (.lst (.cons (.call 21 (.cons (.var 0) (.cons (.var 3) .nil)) []) (.cons (.var 5) (.cons (.var 6) (.cons (.var 7) .nil))))))) (.cons (.ret (.bl false))
  .nil) .nil)
  (.cons (.set 9 (.bin .add (.var 7) (.blt .sum (.lc (.idx (.idx (.var 1) (.var 10)) (.var 11)) [10, 11] (.seq (.var 4)) .nil))))
  (.cons (.ite (.cmp .ne (.repr (.call 12 (.cons (.var 0) (.cons (.var 1) (.cons (.var 3) .nil))) [])) (.repr (.var 9))) (.cons (.ret (.bl false))
  .nil) .nil)
  .nil))))
theorem ag_body (hwf : 2 ^ 4096 ≤ wf) {s : Sheet} {c : List (List Int)} (o : OK s) (k : CoOK s c) {p : Pl} (h : p.ok s) {w a b : Option Slot} : evSs prg.tab (rn wf (n + 6)) wf bAg [some (.v (shD s)), some (.v (coD c)), w, some (.v (plD p)), some (.v (.lst ((ents s p).map entD))), some (.v (.int (exQ s p).floor)), some (.v (.int (ceilQ (exQ s p)))), some (.v (.int (fixC s p))), a, b, none, none, none] st =
    .nx [some (.v (shD s)), some (.v (coD c)), w, some (.v (plD p)), some (.v (.lst ((ents s p).map entD))), some (.v (.int (exQ s p).floor)), some (.v (.int (ceilQ (exQ s p)))), some (.v (.int (fixC s p))), some (.v (fouD s p)), some (.v (.int (cenC s c p))), none, none, none] st := by
  have z := ex_sz o h
  have a1 := exact_of (n := n) (st := st) hwf o h
  have a2 := least_of (n := n) (st := st) hwf o h
  have a3 := most_of (n := n) (st := st) hwf o h
  have a4 : rn wf (n + 6) 11 [shD s, plD p] st = .ok (.int (fixC s p)) st := fixed_of (wf := wf) (n := n + 4) (st := st) o h
  have a5 : rn wf (n + 6) 21 [shD s, plD p] st = .ok (frD (exQ s p)) st := lexact_ (n := n + 3) (st := st) hwf o h
  have a6 : rn wf (n + 6) 12 [shD s, coD c, plD p] st = .ok (.int (cenC s c p)) st := cents_of (wf := wf) (n := n + 3) (st := st) o k h
  have el := ents_len o h
  have g := rg_fou o h
  have r1 := repr_ok (st := st) g rfl (by decide) (by decide)
  have c1 : ∀ call, cmpD prg.tab call .ne (.str (toP (fouD s p)).shown) (.str (toP (fouD s p)).shown) st = .ok (.bl false) st := fun call => cmp_neS _ call (shown_ok g) st
  have r2 := repr_int (st := st) (cen_lt o k h) (by decide)
  have c2 : ∀ call, cmpD prg.tab call .ne (.str (toString (cenC s c p) : String)) (.str (toString (cenC s c p) : String)) st = .ok (.bl false) st := fun call => cmp_neS _ call (okS_of _) st
  have e1 := setS (wf := wf) (i := 8) (ρ := [some (.v (shD s)), some (.v (coD c)), w, some (.v (plD p)), some (.v (.lst ((ents s p).map entD))), some (.v (.int (exQ s p).floor)), some (.v (.int (ceilQ (exQ s p)))), some (.v (.int (fixC s p))), a, b, none, none, none]) (lstE (T := prg.tab) (call := rn wf (n + 6)) (consE ((call2 (j := 8) (d := shD s) (d2 := plD p) (i := 0) (i2 := 3) rfl rfl).trans a1) (consE ((call2 (j := 9) (d := shD s) (d2 := plD p) (i := 0) (i2 := 3) rfl rfl).trans a2) (consE ((call2 (j := 10) (d := shD s) (d2 := plD p) (i := 0) (i2 := 3) rfl rfl).trans a3) (consE ((call2 (j := 11) (d := shD s) (d2 := plD p) (i := 0) (i2 := 3) rfl rfl).trans a4) nilE))))) (Nat.le_of_ble_eq_true rfl)
  rw [ss_nx e1]
  have t2 := tstE (cmpE (T := prg.tab) (call := rn wf (n + 6)) (op := .ne) (ρ := [some (.v (shD s)), some (.v (coD c)), w, some (.v (plD p)), some (.v (.lst ((ents s p).map entD))), some (.v (.int (exQ s p).floor)), some (.v (.int (ceilQ (exQ s p)))), some (.v (.int (fixC s p))), some (.v (fouD s p)), b, none, none, none]) (reprE (varE (i := 8) rfl) r1) (reprE (lstE (consE ((call2 (j := 21) (d := shD s) (d2 := plD p) (i := 0) (i2 := 3) rfl rfl).trans a5) (consE (varE (i := 5) rfl) (consE (varE (i := 6) rfl) (consE (varE (i := 7) rfl) nilE))))) r1) (c1 _))
  refine (ss_ifF t2).trans ?_
  have sm := sumE (T := prg.tab) (call := rn wf (n + 6)) (ρ := [some (.v (shD s)), some (.v (coD c)), w, some (.v (plD p)), some (.v (.lst ((ents s p).map entD))), some (.v (.int (exQ s p).floor)), some (.v (.int (ceilQ (exQ s p)))), some (.v (.int (fixC s p))), some (.v (fouD s p)), b, none, none, none]) (f := coin c) (l := ents s p) (st := st) (st1 := st) (lc_map1 (elt := .idx (.idx (.var 1) (.var 10)) (.var 11)) (tg := [10, 11]) (it := .seq (.var 4)) entD (fun e => .int (coin c e)) (ents s p) (it_seq (.inl (varE (i := 4) rfl))) (by omega) fun e he => ⟨_, rfl, by
    obtain ⟨r, r1, r2⟩ := coin_at k (ent_lt h e he) st
    simp [ev, slotV, entD, wipeE, r1, r2]⟩)
  have e3 : ev prg.tab (rn wf (n + 6)) (.bin .add (.var 7) (.blt .sum (.lc (.idx (.idx (.var 1) (.var 10)) (.var 11)) [10, 11] (.seq (.var 4)) .nil))) [some (.v (shD s)), some (.v (coD c)), w, some (.v (plD p)), some (.v (.lst ((ents s p).map entD))), some (.v (.int (exQ s p).floor)), some (.v (.int (ceilQ (exQ s p)))), some (.v (.int (fixC s p))), some (.v (fouD s p)), b, none, none, none] st = .ok (.int (cenC s c p)) st := by
    rw [ev, varE (i := 7) (d := .int (fixC s p)) rfl, Res.bind_ok, sm, Res.bind_ok]
    rfl
  refine (ss_nx (setS e3 (Nat.le_of_ble_eq_true rfl))).trans ?_
  have t4 := tstE (cmpE (T := prg.tab) (call := rn wf (n + 6)) (op := .ne) (ρ := [some (.v (shD s)), some (.v (coD c)), w, some (.v (plD p)), some (.v (.lst ((ents s p).map entD))), some (.v (.int (exQ s p).floor)), some (.v (.int (ceilQ (exQ s p)))), some (.v (.int (fixC s p))), some (.v (fouD s p)), some (.v (.int (cenC s c p))), none, none, none]) (reprE ((call3 (j := 12) (d := shD s) (d2 := coD c) (d3 := plD p) (i := 0) (i2 := 1) (i3 := 3) rfl rfl rfl).trans a6) r2) (reprE (varE (i := 9) rfl) r2) (c2 _))
  exact (ss_ifF t4).trans ss_end
theorem ag_loop (hwf : 2 ^ 4096 ≤ wf) {s : Sheet} {c : List (List Int)} (o : OK s) (k : CoOK s c) {w : Option Slot} (l : List Pl) : ∀ (x3 x4 x5 x6 x7 x8 x9 : Option Slot), (∀ p ∈ l, p.ok s) → ∃ y3 y4 y5 y6 y7 y8 y9, forR [3, 4, 5, 6, 7] (evSs prg.tab (rn wf (n + 6)) wf bAg) (l.map (tabD s)) [some (.v (shD s)), some (.v (coD c)), w, x3, x4, x5, x6, x7, x8, x9, none, none, none] st = .nx [some (.v (shD s)), some (.v (coD c)), w, y3, y4, y5, y6, y7, y8, y9, none, none, none] st := by
  induction l with
  | nil => intro x3 x4 x5 x6 x7 x8 x9 _; exact ⟨_, _, _, _, _, _, _, rfl⟩
  | cons p l ih =>
    intro x3 x4 x5 x6 x7 x8 x9 H
    obtain ⟨y3, y4, y5, y6, y7, y8, y9, e⟩ := ih (some (.v (plD p))) (some (.v (.lst ((ents s p).map entD)))) (some (.v (.int (exQ s p).floor))) (some (.v (.int (ceilQ (exQ s p))))) (some (.v (.int (fixC s p)))) (some (.v (fouD s p))) (some (.v (.int (cenC s c p)))) (fun q hq => H q (List.mem_cons_of_mem _ hq))
    refine ⟨y3, y4, y5, y6, y7, y8, y9, ?_⟩
    rw [List.map_cons, forR_nx (ρ1 := [some (.v (shD s)), some (.v (coD c)), w, some (.v (plD p)), some (.v (.lst ((ents s p).map entD))), some (.v (.int (exQ s p).floor)), some (.v (.int (ceilQ (exQ s p)))), some (.v (.int (fixC s p))), x8, x9, none, none, none]) (by simp [bindT, tabD, setAll]) (ag_body (n := n) (st := st) hwf o k (H p List.mem_cons_self))]
    exact e
theorem agrees_ (hwf : 2 ^ 4096 ≤ wf) {s : Sheet} {c : List (List Int)} (o : OK s) (k : CoOK s c) : rn wf (n + 7) 6 [shD s, coD c] st = .ok (.bl true) st := by
  rw [run_f (f := ⟨13, 2, b6, none, false⟩) rfl rfl rfl]
  show endF false (evSs prg.tab (rn wf (n + 6)) wf b6 [some (.v (shD s)), some (.v (coD c)), none, none, none, none, none, none, none, none, none, none, none] st) = _
  have g := rg_both o k
  have r1 := repr_ok (st := st) g rfl (by decide) (by decide)
  have e1 := setS (wf := wf) (i := 2) (ρ := [some (.v (shD s)), some (.v (coD c)), none, none, none, none, none, none, none, none, none, none, none]) (reprE (T := prg.tab) (call := rn wf (n + 6)) (tpE (consE (varE (i := 0) rfl) (consE (varE (i := 1) rfl) nilE))) r1) (Nat.le_of_ble_eq_true rfl)
  obtain ⟨l, e, h1, h2⟩ := (table_ (n := n + 2) (st := st) hwf o : ∃ l : List Pl, rn wf (n + 6) 20 [shD s] st = .ok (.lst (l.map (tabD s))) st ∧ (∀ p ∈ l, p.ok s) ∧ l.length ≤ 39)
  obtain ⟨y3, y4, y5, y6, y7, y8, y9, lp⟩ := ag_loop (n := n) (st := st) hwf o k (w := some (.v (.str (toP (.tup [shD s, coD c])).shown))) l none none none none none none none h1
  unfold b6
  rw [ss_nx e1]
  refine (congrArg (endF false) ((ss_for (xs := l.map (tabD s)) (st1 := st) (it_seq (.inl ((call1 (d := shD s) rfl).trans e))) lp).trans (ret1 (cmpE (reprE (tpE (consE (varE (i := 0) rfl) (consE (varE (i := 1) rfl) nilE))) r1) (varE (i := 2) rfl) (cmp_eqS _ _ (shown_ok g) st))))).trans ?_
  rfl
end
end K17

set_option exponentiation.threshold 5000
namespace K17
open Eng
/-! ### draws -/
def rdr (cs : List D) (a b c : Int) : Store := [.dk [(10, .lst cs), (11, .int a), (12, .int b), (13, .int c)]]
section
variable (cs : List D) (a b c x : Int)
theorem g10 : dgetD (.ref 0) 10 (rdr cs a b c) = .ok (.lst cs) (rdr cs a b c) := rfl
theorem g11 : dgetD (.ref 0) 11 (rdr cs a b c) = .ok (.int a) (rdr cs a b c) := rfl
theorem g12 : dgetD (.ref 0) 12 (rdr cs a b c) = .ok (.int b) (rdr cs a b c) := rfl
theorem g13 : dgetD (.ref 0) 13 (rdr cs a b c) = .ok (.int c) (rdr cs a b c) := rfl
theorem p11 : dputD (.ref 0) 11 (.int x) (rdr cs a b c) = some (rdr cs x b c) := rfl
theorem p12 : dputD (.ref 0) 12 (.int x) (rdr cs a b c) = some (rdr cs a x c) := rfl
theorem p13 : dputD (.ref 0) 13 (.int x) (rdr cs a b c) = some (rdr cs a b x) := rfl
end
def Inv (N : Nat) (st : Store) : Prop := ∃ (cs : List Int) (a b c : Int), st = rdr (cs.map .int) a b c ∧ 0 ≤ c ∧ c ≤ N
theorem Inv.le {N M : Nat} {st : Store} (h : Inv N st) (e : N ≤ M) : Inv M st := by
  obtain ⟨cs, a, b, c, h1, h2, h3⟩ := h
  exact ⟨cs, a, b, c, h1, h2, by omega⟩
theorem plains_int : ∀ cs : List Int, plains (cs.map .int) = true
  | [] => rfl
  | _ :: r => by simp [plains, plain, plains_int r]
theorem deeps_int : ∀ cs : List Int, deeps (cs.map .int) = 0
  | [] => rfl
  | _ :: r => by simp [deeps, deep, deeps_int r]
theorem eq_nil (call : Nat → List D → Store → Res D) (cs : List Int) (st : Store) : cmpD prg.tab call .eq (.lst (cs.map .int)) (.lst []) st = .ok (.bl cs.isEmpty) st := by
  cases cs with
  | nil => rfl
  | cons i r => simp [cmpD, eqR, plain, plains, deep, deeps, plains_int, deeps_int, eqD, eqDs]
theorem ne_nil (call : Nat → List D → Store → Res D) (cs : List Int) (st : Store) : cmpD prg.tab call .ne (.lst (cs.map .int)) (.lst []) st = .ok (.bl (!cs.isEmpty)) st := by
  cases cs with
  | nil => rfl
  | cons i r => simp [cmpD, eqR, plain, plains, deep, deeps, plains_int, deeps_int, eqD, eqDs]
theorem fmod_in (x : Int) {m : Int} (h : 0 < m) : 0 ≤ x.fmod m ∧ x.fmod m < m := ⟨Int.fmod_nonneg_of_pos x h, Int.fmod_lt_of_pos x h⟩
theorem at_ok (cs : List Int) (i : Int) (h0 : 0 ≤ i) (h1 : i < cs.length) : ∃ v : Int, atD (cs.map .int) i = some (.int v) := by
  refine ⟨cs[i.toNat]'(by omega), ?_⟩
  unfold atD
  rw [if_pos h0, List.getElem?_map, List.getElem?_eq_getElem (by omega)]
  rfl
theorem modI {i j : Int} {st : Store} (h : j ≠ 0) : intOp .mod i j st = .ok (.int (i.fmod j)) st := by simp [intOp, h]
theorem fdivS {i j : Int} {st : Store} (h : 0 < j) (h2 : j < 1073741824) : intOp .fdiv i j st = .ok (.int (i / j)) st := by simp [intOp, h, h2]
theorem wideB {i : Int} (h : i.natAbs < 2 ^ 70) : wide i = true := wideS' h (by decide)
theorem pow3 {i : Int} {st : Store} (h : i.natAbs < 2 ^ 64) : intOp .pow i 3 st = .ok (.int (i ^ 3)) st := by
  unfold intOp
  dsimp only
  rw [if_pos (decide_eq_true ⟨by decide, by decide, h⟩)]
  rfl
theorem fin_draw {R : Res D} {m : Int} {P : Store → Prop} {st' : Store} (h0 : 0 < m) (hs : P st') (z : ∃ y : Int, R = .ok (.int (y.fmod m)) st') : ∃ x st'', R = .ok (.int x) st'' ∧ 0 ≤ x ∧ x < m ∧ P st'' := by
  obtain ⟨y, e⟩ := z
  exact ⟨_, _, e, (fmod_in _ h0).1, (fmod_in _ h0).2, hs⟩
abbrev drT : Ss := (.cons (.ite (.and (.cons (.cmp .ge (.var 3) (.bin .pow (.int 10) (.int 18))) (.cons (.cmp .lt (.var 2) (.blt .len (.dget (.var 0) 10))) .nil))) (.cons (.dput (.var 0) 12 (.bin .fdiv (.var 3) (.var 1)))
  (.cons (.ret (.bin .mod (.var 3) (.var 1)))
  .nil)) .nil)
  (.cons (.set 4 (.bin .mod (.bin .add (.bin .add (.bin .mod (.var 3) (.int 1000001723)) (.bin .mul (.int 96293) (.dget (.var 0) 13))) (.int 617)) (.int 2147483587)))
  (.cons (.set 4 (.bin .mod (.bin .add (.bin .add (.bin .pow (.var 4) (.int 3)) (.bin .mul (.int 7400377) (.dget (.var 0) 13))) (.int 331)) (.int 2147483497)))
  (.cons (.ret (.bin .mod (.bin .fdiv (.bin .mod (.bin .add (.bin .pow (.var 4) (.int 3)) (.bin .mul (.int 323) (.var 4))) (.int 2147483489)) (.int 32)) (.var 1)))
  .nil))))
theorem draw_tail {N : Nat} {wf n : Nat} {cs : List Int} {a b c m v : Int} (hc0 : 0 ≤ c) (hc1 : c ≤ N) (hN : N < 100000) (h0 : 0 < m) (hm : m < 1073741824) : ∃ x st', endF false (evSs prg.tab (rn wf n) wf drT [some (.v (.ref 0)), some (.v (.int m)), some (.v (.int a)), some (.v (.int v)), none, none] (rdr (cs.map .int) (a + 1) b (c + 1))) = .ok (.int x) st' ∧ 0 ≤ x ∧ x < m ∧ Inv (N + 1) st' := by
  have I : ∀ a b : Int, Inv (N + 1) (rdr (cs.map .int) a b (c + 1)) := fun a b => ⟨cs, a, b, c + 1, rfl, by omega, by omega⟩
  have hm0 : m ≠ 0 := by omega
  have hd : (c + 1).natAbs < 2 ^ 70 := by omega
  have pw18 : intOp .pow 10 18 (rdr (cs.map .int) (a + 1) b (c + 1)) = .ok (.int 1000000000000000000) (rdr (cs.map .int) (a + 1) b (c + 1)) := rfl
  by_cases ht : 1000000000000000000 ≤ v ∧ a < (cs.length : Int)
  · refine ⟨v.fmod m, rdr (cs.map .int) (a + 1) (v / m) (c + 1), ?_, (fmod_in v h0).1, (fmod_in v h0).2, I _ _⟩
    simp [evSs, evS, evT, ev, evAnd, slotV, g10, p12, Res.fl, Res.bind, binI', addI', modI, fdivS, pw18, h0, hm, hm0, cmpD, bltD, truD, ht, endF]
  · have w1 : wide (c + 1) = true := wideB hd
    have k1 : wide 96293 = true := wideB (by decide)
    have k2 : wide 7400377 = true := wideB (by decide)
    have k3 : wide 323 = true := wideB (by decide)
    have wm : ∀ y : Int, wide (y.fmod 2147483497) = true := fun y => wideB (by have := fmod_in y (m := 2147483497) (by decide); omega)
    have pA : ∀ y : Int, intOp .pow (y.fmod 2147483587) 3 (rdr (cs.map .int) (a + 1) b (c + 1)) = .ok (.int ((y.fmod 2147483587) ^ 3)) (rdr (cs.map .int) (a + 1) b (c + 1)) := fun y => pow3 (by
      have := fmod_in y (m := 2147483587) (by decide)
      omega)
    have pB : ∀ y : Int, intOp .pow (y.fmod 2147483497) 3 (rdr (cs.map .int) (a + 1) b (c + 1)) = .ok (.int ((y.fmod 2147483497) ^ 3)) (rdr (cs.map .int) (a + 1) b (c + 1)) := fun y => pow3 (by
      have := fmod_in y (m := 2147483497) (by decide)
      omega)
    by_cases ht1 : 1000000000000000000 ≤ v
    · have ht2 : ¬ a < (cs.length : Int) := fun z => ht ⟨ht1, z⟩
      refine fin_draw h0 (I (a + 1) b) ?_
      apply Exists.intro
      simp [evSs, evS, evT, ev, evAnd, slotV, g10, g13, Res.fl, Res.bind, binI', addI', mulI', modI, fdivS, pw18, h0, hm, hm0, cmpD, bltD, truD, ht1, ht2, endF, w1, k1, k2, k3, wm, pA, pB]
      rfl
    · refine fin_draw h0 (I (a + 1) b) ?_
      apply Exists.intro
      simp [evSs, evS, evT, ev, evAnd, slotV, g10, g13, Res.fl, Res.bind, binI', addI', mulI', modI, fdivS, pw18, h0, hm, hm0, cmpD, bltD, truD, ht1, endF, w1, k1, k2, k3, wm, pA, pB]
      rfl
theorem draw_ {N : Nat} {wf n : Nat} {st : Store} (hI : Inv N st) (hN : N < 100000) {m : Int} (h0 : 0 < m) (hm : m < 1073741824) : ∃ x st', rn wf (n + 1) 7 [.ref 0, .int m] st = .ok (.int x) st' ∧ 0 ≤ x ∧ x < m ∧ Inv (N + 1) st' := by
  obtain ⟨cs, a, b, c, rfl, hc0, hc1⟩ := hI
  have I : ∀ a b : Int, Inv (N + 1) (rdr (cs.map .int) a b (c + 1)) := fun a b => ⟨cs, a, b, c + 1, rfl, by omega, by omega⟩
  have hm0 : m ≠ 0 := by omega
  rw [run_f (f := ⟨6, 2, b7, none, false⟩) rfl rfl rfl]
  show ∃ x st', endF false (evSs prg.tab (rn wf n) wf b7 [some (.v (.ref 0)), some (.v (.int m)), none, none, none, none] (rdr (cs.map .int) a b c)) = _ ∧ _
  unfold b7
  have s1 : evS prg.tab (rn wf n) wf (.dput (.var 0) 13 (.bin .add (.dget (.var 0) 13) (.int 1))) [some (.v (.ref 0)), some (.v (.int m)), none, none, none, none] (rdr (cs.map .int) a b c) = .nx [some (.v (.ref 0)), some (.v (.int m)), none, none, none, none] (rdr (cs.map .int) a b (c + 1)) := rfl
  rw [ss_nx s1]
  have t2 : evT prg.tab (rn wf n) (.cmp .eq (.dget (.var 0) 10) (.lst .nil)) [some (.v (.ref 0)), some (.v (.int m)), none, none, none, none] (rdr (cs.map .int) a b (c + 1)) = .ok cs.isEmpty (rdr (cs.map .int) a b (c + 1)) :=
    tstE (cmpE (x := .lst (cs.map .int)) (y := .lst []) rfl rfl (eq_nil _ cs _))
  by_cases hcs : cs = []
  · subst hcs
    refine fin_draw (m := m) (st' := rdr (([] : List Int).map .int) a b (c + 1)) h0 (I a b) ⟨c + 1, ?_⟩
    rw [ss_ifR (d := .int ((c + 1).fmod m)) (st2 := rdr (([] : List Int).map .int) a b (c + 1)) t2 (ret1 (by rw [ev, show ev prg.tab (rn wf n) (.dget (.var 0) 13) [some (.v (.ref 0)), some (.v (.int m)), none, none, none, none] (rdr (([] : List Int).map .int) a b (c + 1)) = .ok (.int (c + 1)) (rdr (([] : List Int).map .int) a b (c + 1)) from rfl, Res.bind_ok, varE (i := 1) (d := .int m) rfl, Res.bind_ok, binI', modI hm0]))]
    rfl
  · have he : cs.isEmpty = false := by simpa using hcs
    rw [he] at t2
    rw [ss_ifF t2]
    by_cases hb : 0 < b
    · refine ⟨b.fmod m, rdr (cs.map .int) a (b / m) (c + 1), ?_, (fmod_in b h0).1, (fmod_in b h0).2, I _ _⟩
      simp [evSs, evS, evT, ev, slotV, g11, g12, g13, p11, p12, p13, Res.fl, Res.bind, binI', addI', modI, fdivS, h0, hm, hm0, cmpD, truD, hb, endF]
    · have t3 : evT prg.tab (rn wf n) (.cmp .gt (.dget (.var 0) 12) (.int 0)) [some (.v (.ref 0)), some (.v (.int m)), none, none, none, none] (rdr (cs.map .int) a b (c + 1)) = .ok false (rdr (cs.map .int) a b (c + 1)) := by
        simp [evT, ev, slotV, g12, cmpD, truD, hb]
      rw [ss_ifF t3]
      have s4 : evS prg.tab (rn wf n) wf (.set 2 (.dget (.var 0) 11)) [some (.v (.ref 0)), some (.v (.int m)), none, none, none, none] (rdr (cs.map .int) a b (c + 1)) = .nx [some (.v (.ref 0)), some (.v (.int m)), some (.v (.int a)), none, none, none] (rdr (cs.map .int) a b (c + 1)) := rfl
      have s5 : evS prg.tab (rn wf n) wf (.dput (.var 0) 11 (.bin .add (.var 2) (.int 1))) [some (.v (.ref 0)), some (.v (.int m)), some (.v (.int a)), none, none, none] (rdr (cs.map .int) a b (c + 1)) = .nx [some (.v (.ref 0)), some (.v (.int m)), some (.v (.int a)), none, none, none] (rdr (cs.map .int) (a + 1) b (c + 1)) := rfl
      rw [ss_nx s4, ss_nx s5]
      have hl : 0 < (cs.length : Int) := by
        have := List.length_pos_iff.mpr hcs; omega
      obtain ⟨v, hv⟩ := at_ok cs (a.fmod cs.length) (fmod_in a hl).1 (fmod_in a hl).2
      have s6 : evS prg.tab (rn wf n) wf (.set 3 (.idx (.dget (.var 0) 10) (.bin .mod (.var 2) (.blt .len (.dget (.var 0) 10))))) [some (.v (.ref 0)), some (.v (.int m)), some (.v (.int a)), none, none, none] (rdr (cs.map .int) (a + 1) b (c + 1)) = .nx [some (.v (.ref 0)), some (.v (.int m)), some (.v (.int a)), some (.v (.int v)), none, none] (rdr (cs.map .int) (a + 1) b (c + 1)) := by
        simp [evS, ev, slotV, g10, Res.bind, Res.fl, bltD, binI', modI, hcs, idxD, hv]
      rw [ss_nx s6]
      exact draw_tail hc0 hc1 hN h0 hm
section
variable {N wf n : Nat} {st : Store}
theorem pick_ (hI : Inv N st) (hN : N < 100000) (xs : List D) (hl : 0 < xs.length) (hl2 : xs.length < 1000000) : ∃ x st', rn wf (n + 2) 17 [.ref 0, .lst xs] st = .ok x st' ∧ x ∈ xs ∧ Inv (N + 1) st' := by
  obtain ⟨i, st', e, h0, h1, h2⟩ := draw_ (wf := wf) (n := n) hI hN (m := (xs.length : Int)) (by omega) (by omega)
  have hi : i.toNat < xs.length := by omega
  refine ⟨xs[i.toNat], st', ?_, List.getElem_mem hi, h2⟩
  rw [run_f (f := ⟨2, 2, b17, none, false⟩) rfl rfl rfl]
  show endF false (evSs prg.tab (rn wf (n + 1)) wf b17 [some (.v (.ref 0)), some (.v (.lst xs))] st) = _
  unfold b17
  rw [ret1 (d := xs[i.toNat]) (st1 := st')]
  · rfl
  · have ec : ev prg.tab (rn wf (n + 1)) (.call 7 (.cons (.var 0) (.cons (.blt .len (.var 1)) .nil)) []) [some (.v (.ref 0)), some (.v (.lst xs))] st = .ok (.int i) st' :=
      (callE (consE (varE (i := 0) rfl) (consE (d := .int xs.length) (by simp [ev, slotV, bltD]) nilE))).trans e
    rw [ev, varE (i := 1) (d := .lst xs) rfl, Res.bind_ok, ec, Res.bind_ok]
    simp [idxD, atD, h0, hi]
/-! ### charges -/
theorem charge_ (hwf : 2 ^ 4096 ≤ wf) (hI : Inv N st) (hN : N < 90000) : ∃ q st', rn wf (n + 3) 25 [.ref 0] st = .ok (frD q) st' ∧ Sz 20 q ∧ Inv (N + 4) st' := by
  obtain ⟨u, st1, e1, hu, i1⟩ := pick_ (wf := wf) (n := n) hI (by omega) [.int 2, .int 1, .int 2, .int 3, .int 4, .int 10] (by decide) (by decide)
  obtain ⟨u, rfl, hu1, hu2⟩ : ∃ k : Int, u = .int k ∧ 1 ≤ k ∧ k ≤ 10 := by
    simp only [List.mem_cons, List.not_mem_nil, or_false] at hu
    rcases hu with rfl | rfl | rfl | rfl | rfl | rfl <;> exact ⟨_, rfl, by decide, by decide⟩
  obtain ⟨x, st2, e2, hx0, hx1, i2⟩ := draw_ (wf := wf) (n := n + 1) i1 (by omega) (m := 2 * u + 1) (by omega) (by omega)
  obtain ⟨y, st3, e3, hy0, hy1, i3⟩ := draw_ (wf := wf) (n := n + 1) i2 (by omega) (m := 15) (by omega) (by omega)
  rw [run_f (f := ⟨3, 1, b25, none, false⟩) rfl rfl rfl]
  show ∃ q st', endF false (evSs prg.tab (rn wf (n + 2)) wf b25 [some (.v (.ref 0)), none, none] st) = _ ∧ _
  unfold b25
  have e1 : rn wf (n + 2) 17 [.ref 0, .lst [.int 2, .int 1, .int 2, .int 3, .int 4, .int 10]] st = .ok (.int u) st1 := e1
  have e2 : rn wf (n + 2) 7 [.ref 0, .int (2 * u + 1)] st1 = .ok (.int x) st2 := e2
  have e3 : rn wf (n + 2) 7 [.ref 0, .int 15] st2 = .ok (.int y) st3 := e3
  have s1 : evS prg.tab (rn wf (n + 2)) wf (.set 1 (.call 17 (.cons (.var 0) (.cons (.lst (.cons (.int 2) (.cons (.int 1) (.cons (.int 2) (.cons (.int 3) (.cons (.int 4) (.cons (.int 10) .nil))))))) .nil)) [])) [some (.v (.ref 0)), none, none] st = .nx [some (.v (.ref 0)), some (.v (.int u)), none] st1 :=
    setS (i := 1) ((callE (consE (varE (i := 0) rfl) (consE (d := .lst [.int 2, .int 1, .int 2, .int 3, .int 4, .int 10]) rfl nilE))).trans e1) (Nat.le_of_ble_eq_true rfl)
  have s2 : evS prg.tab (rn wf (n + 2)) wf (.set 2 (.call 7 (.cons (.var 0) (.cons (.bin .add (.bin .mul (.int 2) (.var 1)) (.int 1)) .nil)) [])) [some (.v (.ref 0)), some (.v (.int u)), none] st1 = .nx [some (.v (.ref 0)), some (.v (.int u)), some (.v (.int x))] st2 :=
    setS (i := 2) ((callE (consE (varE (i := 0) rfl) (consE (d := .int (2 * u + 1)) (by simp [ev, slotV, binI', addI', mulI' (wideB (i := 2) (by decide)) (wideB (i := u) (by omega))]) nilE))).trans e2) (Nat.le_of_ble_eq_true rfl)
  rw [ss_nx s1, ss_nx s2]
  have t3 : evT prg.tab (rn wf (n + 2)) (.cmp .eq (.call 7 (.cons (.var 0) (.cons (.int 15) .nil)) []) (.int 0)) [some (.v (.ref 0)), some (.v (.int u)), some (.v (.int x))] st2 = .ok (y == 0) st3 :=
    tstE (cmpE ((callE (consE (varE (i := 0) rfl) (consE (d := .int 15) rfl nilE))).trans e3) (y := .int 0) rfl (by simp [cmpD, eqR, plain, deep, eqD]))
  by_cases hy : y = 0
  · subst hy
    obtain ⟨z, st4, e4, hz, i4⟩ := pick_ (wf := wf) (n := n) i3 (by omega) [.tup [.int 990, .int 1], .tup [.int 9999, .int 10000], .tup [.int 999, .int 10]] (by decide) (by decide)
    obtain ⟨q, rfl, hq⟩ : ∃ q : Rat, z = frD q ∧ Sz 20 q := by
      simp only [List.mem_cons, List.not_mem_nil, or_false] at hz
      rcases hz with rfl | rfl | rfl
      · exact ⟨Rat.divInt 990 1, rfl, by decide, by decide⟩
      · exact ⟨Rat.divInt 9999 10000, rfl, by decide, by decide⟩
      · exact ⟨Rat.divInt 999 10, rfl, by decide, by decide⟩
    refine ⟨q, st4, ?_, hq, i4⟩
    refine (congrArg (endF false) (ss_ifR t3 (ret1 ((callE (consE (varE (i := 0) rfl) (consE (d := .lst [.tup [.int 990, .int 1], .tup [.int 9999, .int 10000], .tup [.int 999, .int 10]]) rfl nilE))).trans e4)))).trans rfl
  · have hy' : (y == 0) = false := by simpa using hy
    rw [hy'] at t3
    have l : rn wf (n + 2) 32 [.int x, .int u] st3 = .ok (frD (Rat.divInt x u)) st3 := low_ (n := n + 1) (st := st3) hwf (by omega) (pw' (k := 6) (by omega) (by decide)) (pw' (k := 6) (by omega) (by decide))
    refine ⟨Rat.divInt x u, st3, ?_, Sz_le (Sz_div (k := 6) (by omega) (by omega) (by omega)) (by decide), i3.le (by omega)⟩
    refine (congrArg (endF false) ((ss_ifF t3).trans (ret1 ((call2 (d := .int x) (d2 := .int u) (i := 2) (i2 := 1) rfl rfl).trans l)))).trans rfl
end
end K17

set_option exponentiation.threshold 5000
namespace K17
open Eng
def pool : List PySem.Str := ["a", "bb", "day", "ended", "line", "zzzzzzzz"]
theorem pool_rg : ∀ x ∈ pool, RG 0 82 (.str x) := by
  intro x hx
  simp only [pool, List.mem_cons, List.not_mem_nil, or_false] at hx
  rcases hx with rfl | rfl | rfl | rfl | rfl | rfl
  · exact RG.str (m := 8) (by decide +kernel) (by decide +kernel) (okS_iff.mp (by decide +kernel))
  · exact RG.str (m := 8) (by decide +kernel) (by decide +kernel) (okS_iff.mp (by decide +kernel))
  · exact RG.str (m := 8) (by decide +kernel) (by decide +kernel) (okS_iff.mp (by decide +kernel))
  · exact RG.str (m := 8) (by decide +kernel) (by decide +kernel) (okS_iff.mp (by decide +kernel))
  · exact RG.str (m := 8) (by decide +kernel) (by decide +kernel) (okS_iff.mp (by decide +kernel))
  · exact RG.str (m := 8) (by decide +kernel) (by decide +kernel) (okS_iff.mp (by decide +kernel))
section
variable {wf n : Nat}
theorem map_erase {α β : Type} (f : α → β) : ∀ (l : List α) (i : Nat), (l.map f).eraseIdx i = (l.eraseIdx i).map f
  | [], _ => by simp
  | _ :: _, 0 => rfl
  | x :: l, i + 1 => by simp [map_erase f l i]
theorem names_loop {a b : Option Slot} {cnt : Int} (hc : 1 ≤ cnt) : ∀ (k : Nat) (ss : List PySem.Str) (N m : Nat) (st : Store), ss.length ≤ k → k < m → k ≤ 10 → Inv N st → N + k < 90000 → a = some (.v (.ref 0)) → ∃ (ss' : List PySem.Str) (st' : Store), whlR (evT prg.tab (rn wf (n + 1)) (.cmp .gt (.blt .len (.bor 2)) (.var 3))) (evSs prg.tab (rn wf (n + 1)) wf (.cons (.popo 2 (.call 7 (.cons (.var 0) (.cons (.blt .len (.bor 2)) .nil)) [])) .nil)) m [a, b, some (.own (ss.map .str)), some (.v (.int cnt))] st = .nx [a, b, some (.own (ss'.map .str)), some (.v (.int cnt))] st' ∧ (ss'.length : Int) ≤ cnt ∧ (∀ x ∈ ss', x ∈ ss) ∧ Inv (N + k) st' := by
  intro k
  induction k with
  | zero =>
    intro ss N m st hk hm hk10 hI hN ha
    have : ss = [] := List.length_eq_zero_iff.mp (by omega)
    subst this
    obtain ⟨m, rfl⟩ : ∃ j, m = j + 1 := ⟨m - 1, by omega⟩
    refine ⟨[], st, ?_, by simp; omega, (fun _ h => h), hI⟩
    unfold whlR
    rw [tstE (b := false) (st1 := st)]
    simp [ev, slotO, slotV, bltD, cmpD]
    omega
  | succ k ih =>
    intro ss N m st hk hm hk10 hI hN ha
    obtain ⟨m, rfl⟩ : ∃ j, m = j + 1 := ⟨m - 1, by omega⟩
    have ht : evT prg.tab (rn wf (n + 1)) (.cmp .gt (.blt .len (.bor 2)) (.var 3)) [a, b, some (.own (ss.map .str)), some (.v (.int cnt))] st = .ok (decide (cnt < (ss.length : Int))) st := by
      simp [evT, ev, slotO, slotV, bltD, cmpD, truD]
    by_cases hlt : cnt < (ss.length : Int)
    · rw [decide_eq_true hlt] at ht
      obtain ⟨i, st1, e1, h0, h1, i1⟩ := draw_ (wf := wf) (n := n) hI (by omega) (m := (ss.length : Int)) (by omega) (by omega)
      have hb : evSs prg.tab (rn wf (n + 1)) wf (.cons (.popo 2 (.call 7 (.cons (.var 0) (.cons (.blt .len (.bor 2)) .nil)) [])) .nil) [a, b, some (.own (ss.map .str)), some (.v (.int cnt))] st = .nx [a, b, some (.own ((ss.eraseIdx i.toNat).map .str)), some (.v (.int cnt))] st1 := by
        refine ss_one ?_
        subst ha
        rw [evS, (callE (consE (varE (i := 0) (d := .ref 0) rfl) (consE (d := .int (ss.length : Nat)) (by simp [ev, slotO, bltD]) nilE))).trans e1, Res.fl_ok]
        simp only [slotO, List.getElem?_cons_succ, List.getElem?_cons_zero]
        rw [if_pos ⟨h0, by rw [List.length_map]; omega, by omega⟩, map_erase]
        rfl
      obtain ⟨ss', st', e2, q1, q2, q3⟩ := ih (ss.eraseIdx i.toNat) (N + 1) m st1 (by rw [List.length_eraseIdx_of_lt (by omega)]; omega) (by omega) (by omega) i1 (by omega) ha
      refine ⟨ss', st', ?_, q1, fun x hx => List.mem_of_mem_eraseIdx (q2 x hx), q3.le (by omega)⟩
      unfold whlR
      rw [ht]
      dsimp only
      rw [hb]
      exact e2
    · rw [decide_eq_false hlt] at ht
      refine ⟨ss, st, ?_, by omega, (fun _ h => h), hI.le (by omega)⟩
      unfold whlR
      rw [ht]
variable {N : Nat} {st : Store}
theorem names_ (hwf : 2 ^ 4096 ≤ wf) (hI : Inv N st) (hN : N < 80000) : ∃ (ss : List PySem.Str) (st' : Store), rn wf (n + 2) 13 [.ref 0, .int 4] st = .ok (.lst (ss.map .str)) st' ∧ ss.length ≤ 4 ∧ (∀ x ∈ ss, x ∈ pool) ∧ Inv (N + 7) st' := by
  obtain ⟨x, st1, e1, h0, h1, i1⟩ := draw_ (wf := wf) (n := n) hI (by omega) (m := 4) (by omega) (by omega)
  have hw : 10 < wf := Nat.lt_of_lt_of_le (by decide : 10 < 2 ^ 12) (Nat.le_trans (Nat.pow_le_pow_right (by decide) (by decide)) hwf)
  obtain ⟨ss, st2, e2, q1, q2, q3⟩ := names_loop (wf := wf) (n := n) (a := some (.v (.ref 0))) (b := some (.v (.int 4))) (cnt := 1 + x) (by omega) 6 pool (N + 1) wf st1 (by decide) (by omega) (by omega) i1 (by omega) rfl
  refine ⟨ss, st2, ?_, by omega, q2, q3.le (by omega)⟩
  rw [run_f (f := ⟨4, 2, b13, none, true⟩) rfl rfl rfl]
  show endF true (evSs prg.tab (rn wf (n + 1)) wf b13 [some (.v (.ref 0)), some (.v (.int 4)), none, none] st) = _
  unfold b13
  rw [ss_nx (ρ1 := [some (.v (.ref 0)), some (.v (.int 4)), some (.own (pool.map .str)), none]) (st1 := st) rfl]
  have s2 : evS prg.tab (rn wf (n + 1)) wf (.set 3 (.bin .add (.int 1) (.call 7 (.cons (.var 0) (.cons (.var 1) .nil)) []))) [some (.v (.ref 0)), some (.v (.int 4)), some (.own (pool.map .str)), none] st = .nx [some (.v (.ref 0)), some (.v (.int 4)), some (.own (pool.map .str)), some (.v (.int (1 + x)))] st1 := by
    refine setS ?_ (Nat.le_of_ble_eq_true rfl)
    rw [ev, ev, Res.bind_ok, (call2 (d := .ref 0) (d2 := .int 4) rfl rfl).trans e1, Res.bind_ok]
    rfl
  rw [ss_nx s2, ss_nx (show evS prg.tab (rn wf (n + 1)) wf (.whl _ _) _ st1 = _ from e2)]
  rfl
/-! ### the state's rows -/
theorem row_one (hwf : 2 ^ 4096 ≤ wf) {N : Nat} {st : Store} (hI : Inv N st) (hN : N < 80000) {nm : PySem.Str} (hnm : nm ∈ pool) (fr : Bool) {x1 : Option Slot} {acc : List D} (hacc : acc.length < 100) {x5 x6 x7 : Option Slot} : ∃ r y5 y6 y7 st', evSs prg.tab (rn wf (n + 3)) wf (.cons (.par 6 7 (.call 25 (.cons (.var 0) .nil) []) (.call 17 (.cons (.var 0) (.cons (.lst (.cons (.int 0) (.cons (.int 0) (.cons (.int 0) (.cons (.int 1) (.cons (.neg (.int 1)) .nil)))))) .nil)) []))
  (.cons (.set 5 (.tup (.cons (.var 4) (.cons (.var 6) (.cons (.bin .add (.bin .add (.call 18 (.cons (.var 6) .nil) []) (.call 7 (.cons (.var 0) (.cons (.int 2) .nil)) [])) (.var 7)) (.cons (.cmp .gt (.call 7 (.cons (.var 0) (.cons (.int 5) .nil)) []) (.int 0)) .nil))))))
  (.cons (.app 3 (.ite (.var 2) (.tup (.cons (.var 4) (.cons (.tup (.cons (.int 0) (.cons (.int 1) .nil))) (.cons (.int 0) (.cons (.bl true) .nil))))) (.var 5)))
  .nil))) [some (.v (.ref 0)), x1, some (.v (.bl fr)), some (.own acc), some (.v (.str nm)), x5, x6, x7] st = .nx [some (.v (.ref 0)), x1, some (.v (.bl fr)), some (.own (acc ++ [rowD r])), some (.v (.str nm)), y5, y6, y7] st' ∧ RowOK r ∧ Inv (N + 7) st' := by
  obtain ⟨q, st1, e1, hq, i1⟩ := charge_ (wf := wf) (n := n) hwf hI (by omega)
  obtain ⟨f, st2, e2, hf, i2⟩ := pick_ (wf := wf) (n := n + 1) i1 (by omega) [.int 0, .int 0, .int 0, .int 1, .int (-1)] (by decide) (by decide)
  obtain ⟨f, rfl, hf1, hf2⟩ : ∃ k : Int, f = .int k ∧ -1 ≤ k ∧ k ≤ 1 := by
    simp only [List.mem_cons, List.not_mem_nil, or_false] at hf
    rcases hf with rfl | rfl | rfl | rfl | rfl <;> exact ⟨_, rfl, by decide, by decide⟩
  obtain ⟨x, st3, e3, hx0, hx1, i3⟩ := draw_ (wf := wf) (n := n + 2) i2 (by omega) (m := 2) (by omega) (by omega)
  obtain ⟨y, st4, e4, hy0, hy1, i4⟩ := draw_ (wf := wf) (n := n + 2) i3 (by omega) (m := 5) (by omega) (by omega)
  have hd : rn wf (n + 3) 18 [frD q] st2 = .ok (.int q.floor) st2 := down_ (wf := wf) (n := n + 2) (st := st2) (Sz_le hq (by decide))
  have fl := fl_lt hq
  have e2 : rn wf (n + 3) 17 [.ref 0, .lst [.int 0, .int 0, .int 0, .int 1, .int (-1)]] st1 = .ok (.int f) st2 := e2
  have e3 : rn wf (n + 3) 7 [.ref 0, .int 2] st2 = .ok (.int x) st3 := e3
  have e4 : rn wf (n + 3) 7 [.ref 0, .int 5] st3 = .ok (.int y) st4 := e4
  have s1 : evS prg.tab (rn wf (n + 3)) wf (.par 6 7 (.call 25 (.cons (.var 0) .nil) []) (.call 17 (.cons (.var 0) (.cons (.lst (.cons (.int 0) (.cons (.int 0) (.cons (.int 0) (.cons (.int 1) (.cons (.neg (.int 1)) .nil)))))) .nil)) [])) [some (.v (.ref 0)), x1, some (.v (.bl fr)), some (.own acc), some (.v (.str nm)), x5, x6, x7] st = .nx [some (.v (.ref 0)), x1, some (.v (.bl fr)), some (.own acc), some (.v (.str nm)), x5, some (.v (frD q)), some (.v (.int f))] st2 := by
    rw [evS, (call1 (d := .ref 0) rfl).trans e1, Res.fl_ok, (callE (consE (varE (i := 0) (d := .ref 0) rfl) (consE (d := .lst [.int 0, .int 0, .int 0, .int 1, .int (-1)]) rfl nilE))).trans e2, Res.fl_ok]
    rfl
  have s2 : evS prg.tab (rn wf (n + 3)) wf (.set 5 (.tup (.cons (.var 4) (.cons (.var 6) (.cons (.bin .add (.bin .add (.call 18 (.cons (.var 6) .nil) []) (.call 7 (.cons (.var 0) (.cons (.int 2) .nil)) [])) (.var 7)) (.cons (.cmp .gt (.call 7 (.cons (.var 0) (.cons (.int 5) .nil)) []) (.int 0)) .nil)))))) [some (.v (.ref 0)), x1, some (.v (.bl fr)), some (.own acc), some (.v (.str nm)), x5, some (.v (frD q)), some (.v (.int f))] st2 = .nx [some (.v (.ref 0)), x1, some (.v (.bl fr)), some (.own acc), some (.v (.str nm)), some (.v (rowD ⟨nm, q, q.floor + x + f, decide (0 < y)⟩)), some (.v (frD q)), some (.v (.int f))] st4 := by
    refine setS (tpE (consE (varE rfl) (consE (varE rfl) (consE (d := .int (q.floor + x + f)) (st1 := st3) ?_ (consE (d := .bl (decide (0 < y))) ?_ nilE))))) (Nat.le_of_ble_eq_true rfl)
    · rw [ev, ev, (call1 (d := frD q) rfl).trans hd, Res.bind_ok, (callE (consE (varE (i := 0) (d := .ref 0) rfl) (consE (d := .int 2) rfl nilE))).trans e3, Res.bind_ok]
      rfl
    · exact cmpE ((callE (consE (varE (i := 0) (d := .ref 0) rfl) (consE (d := .int 5) rfl nilE))).trans e4) (y := .int 0) rfl rfl
  cases fr with
  | true =>
    refine ⟨⟨nm, 0, 0, true⟩, _, _, _, st4, (ss_nx s1).trans ((ss_nx s2).trans (ss_one (app_is (y := rowD ⟨nm, 0, 0, true⟩) rfl rfl (by omega)))), ⟨(show Sz 20 (0 : Rat) from ⟨by decide, by decide⟩), (show (0 : Int).natAbs < 2 ^ 40 by decide), pool_rg nm hnm⟩, i4.le (by omega)⟩
  | false =>
    refine ⟨⟨nm, q, q.floor + x + f, decide (0 < y)⟩, _, _, _, st4, (ss_nx s1).trans ((ss_nx s2).trans (ss_one (app_is (y := rowD ⟨nm, q, q.floor + x + f, decide (0 < y)⟩) rfl rfl (by omega)))), ⟨hq, ?_, pool_rg nm hnm⟩, i4.le (by omega)⟩
    show (q.floor + x + f).natAbs < 2 ^ 40
    have : (2 : Nat) ^ 20 = 1048576 := by decide
    have : (2 : Nat) ^ 40 = 1099511627776 := by decide
    omega
theorem heads_loop (hwf : 2 ^ 4096 ≤ wf) (fr : Bool) {x1 : Option Slot} (ss : List PySem.Str) : ∀ (N : Nat) (st : Store) (rs : List Row) (x4 x5 x6 x7 : Option Slot), Inv N st → N + 7 * ss.length < 80000 → (∀ x ∈ ss, x ∈ pool) → rs.length + ss.length < 100 → (∀ r ∈ rs, RowOK r) → ∃ (rs' : List Row) (y4 y5 y6 y7 : Option Slot) (st' : Store), forR [4] (evSs prg.tab (rn wf (n + 3)) wf (.cons (.par 6 7 (.call 25 (.cons (.var 0) .nil) []) (.call 17 (.cons (.var 0) (.cons (.lst (.cons (.int 0) (.cons (.int 0) (.cons (.int 0) (.cons (.int 1) (.cons (.neg (.int 1)) .nil)))))) .nil)) []))
  (.cons (.set 5 (.tup (.cons (.var 4) (.cons (.var 6) (.cons (.bin .add (.bin .add (.call 18 (.cons (.var 6) .nil) []) (.call 7 (.cons (.var 0) (.cons (.int 2) .nil)) [])) (.var 7)) (.cons (.cmp .gt (.call 7 (.cons (.var 0) (.cons (.int 5) .nil)) []) (.int 0)) .nil))))))
  (.cons (.app 3 (.ite (.var 2) (.tup (.cons (.var 4) (.cons (.tup (.cons (.int 0) (.cons (.int 1) .nil))) (.cons (.int 0) (.cons (.bl true) .nil))))) (.var 5)))
  .nil)))) (ss.map .str) [some (.v (.ref 0)), x1, some (.v (.bl fr)), some (.own (rs.map rowD)), x4, x5, x6, x7] st = .nx [some (.v (.ref 0)), x1, some (.v (.bl fr)), some (.own (rs'.map rowD)), y4, y5, y6, y7] st' ∧ rs'.length = rs.length + ss.length ∧ (∀ r ∈ rs', RowOK r) ∧ Inv (N + 7 * ss.length) st' := by
  induction ss with
  | nil => intro N st rs x4 x5 x6 x7 hI _ _ _ hr; exact ⟨rs, x4, x5, x6, x7, st, rfl, rfl, hr, hI⟩
  | cons nm ss ih =>
    intro N st rs x4 x5 x6 x7 hI hN hp hl hr
    rw [List.length_cons] at hN hl
    obtain ⟨r, y5, y6, y7, st1, e1, h1, i1⟩ := row_one (wf := wf) (n := n) hwf hI (by omega) (hp nm List.mem_cons_self) fr (x1 := x1) (acc := rs.map rowD) (by rw [List.length_map]; omega) (x5 := x5) (x6 := x6) (x7 := x7)
    obtain ⟨rs', z4, z5, z6, z7, st', e2, h2, h3, i2⟩ := ih (N + 7) st1 (rs ++ [r]) (some (.v (.str nm))) y5 y6 y7 i1 (by omega) (fun x hx => hp x (List.mem_cons_of_mem _ hx)) (by simp; omega) (fun x hx => by
      rcases List.mem_append.mp hx with hx | hx
      · exact hr x hx
      · rw [List.mem_singleton.mp hx]; exact h1)
    refine ⟨rs', z4, z5, z6, z7, st', ?_, by rw [h2, List.length_append, List.length_cons]; simp; omega, h3, i2.le (by rw [List.length_cons]; omega)⟩
    rw [List.map_cons, forR_nx (tg := [4]) (d := .str nm) rfl e1]
    rw [List.map_append] at e2
    exact e2
theorem heads_ (hwf : 2 ^ 4096 ≤ wf) (hI : Inv N st) (hN : N < 70000) (fr : Bool) {ss : List PySem.Str} (hp : ∀ x ∈ ss, x ∈ pool) (hl : ss.length ≤ 4) : ∃ (rs : List Row) (st' : Store), rn wf (n + 4) 14 [.ref 0, .lst (ss.map .str), .bl fr] st = .ok (.tup (rs.map rowD)) st' ∧ rs.length = ss.length ∧ (∀ r ∈ rs, RowOK r) ∧ Inv (N + 28) st' := by
  obtain ⟨rs, y4, y5, y6, y7, st', e, h1, h2, i⟩ := heads_loop (wf := wf) (n := n) hwf fr (x1 := some (.v (.lst (ss.map .str)))) ss N st [] none none none none hI (by omega) hp (by simp; omega) (fun _ h => nomatch h)
  refine ⟨rs, st', ?_, by simpa using h1, h2, i.le (by omega)⟩
  rw [run_f (f := ⟨8, 3, b14, none, false⟩) rfl rfl rfl]
  show endF false (evSs prg.tab (rn wf (n + 3)) wf b14 [some (.v (.ref 0)), some (.v (.lst (ss.map .str))), some (.v (.bl fr)), none, none, none, none, none] st) = _
  unfold b14
  rw [ss_nx (ρ1 := [some (.v (.ref 0)), some (.v (.lst (ss.map .str))), some (.v (.bl fr)), some (.own []), none, none, none, none]) (st1 := st) rfl]
  exact (congrArg (endF false) (ss_for (xs := ss.map .str) (st1 := st) (it_seq (.inl (varE (i := 1) rfl))) e)).trans rfl
end
end K17

set_option exponentiation.threshold 5000
namespace K17
open Eng
theorem pl_strs : ∀ {l : List PySem.Str}, (∀ x ∈ l, plain (.str x) = true) → plains (l.map .str) = true ∧ deeps (l.map .str) = 0
  | [], _ => ⟨rfl, rfl⟩
  | x :: l, H => by
    obtain ⟨a, b⟩ := pl_strs (l := l) fun y hy => H y (List.mem_cons_of_mem _ hy)
    simp only [List.map_cons, plains, deeps, H x List.mem_cons_self, a, b, deep]
    exact ⟨rfl, rfl⟩
theorem pl_secs : ∀ {l : List (List PySem.Str)}, (∀ s ∈ l, ∀ x ∈ s, plain (.str x) = true) → plains (l.map secD) = true ∧ deeps (l.map secD) ≤ 1
  | [], _ => ⟨rfl, by decide⟩
  | s :: l, H => by
    obtain ⟨a, b⟩ := pl_secs (l := l) fun y hy => H y (List.mem_cons_of_mem _ hy)
    obtain ⟨c, d⟩ := pl_strs (H s List.mem_cons_self)
    simp only [List.map_cons, plains, deeps, secD, plain, deep, a, c, d]
    exact ⟨rfl, by omega⟩
theorem ne_nilS {T : Tab} (call : Nat → List D → Store → Res D) {l : List PySem.Str} (H : ∀ x ∈ l, plain (.str x) = true) (st : Store) : cmpD T call .ne (.lst (l.map .str)) (.lst []) st = .ok (.bl (!l.isEmpty)) st := by
  obtain ⟨a, b⟩ := pl_strs H
  simp only [cmpD, eqR]
  rw [if_pos (by simp [plain, plains, a, deep, deeps, b])]
  cases l with
  | nil => rfl
  | cons x l => simp [eqD, eqDs]
section
variable {wf n : Nat}
/-! ### sections -/
theorem fits_loop {a : List PySem.Str} (ha : ∀ x ∈ a, plain (.str x) = true) (hal : a.length ≤ 100) {st : Store} {x1 : Option Slot} (l : List (List PySem.Str)) : ∀ (x2 x3 : Option Slot), ∃ y2 y3, forR [2] (evSs prg.tab (rn wf n) wf (.cons (.set 3 (.lc (.var 4) [4] (.seq (.var 0)) (.cons (.cmp .isin (.var 4) (.var 2)) .nil)))
  (.cons (.ite (.and (.cons (.cmp .ne (.var 3) (.lst .nil)) (.cons (.cmp .lt (.blt .len (.var 3)) (.blt .len (.var 0))) (.cons (.cmp .lt (.blt .len (.var 3)) (.blt .len (.var 2))) .nil)))) (.cons (.ret (.bl false))
  .nil) .nil)
  .nil))) (l.map secD) [some (.v (secD a)), x1, x2, x3, none] st = .nx [some (.v (secD a)), x1, y2, y3, none] st ∨ forR [2] (evSs prg.tab (rn wf n) wf (.cons (.set 3 (.lc (.var 4) [4] (.seq (.var 0)) (.cons (.cmp .isin (.var 4) (.var 2)) .nil)))
  (.cons (.ite (.and (.cons (.cmp .ne (.var 3) (.lst .nil)) (.cons (.cmp .lt (.blt .len (.var 3)) (.blt .len (.var 0))) (.cons (.cmp .lt (.blt .len (.var 3)) (.blt .len (.var 2))) .nil)))) (.cons (.ret (.bl false))
  .nil) .nil)
  .nil))) (l.map secD) [some (.v (secD a)), x1, x2, x3, none] st = .rt (.bl false) st := by
  induction l with
  | nil => intro x2 x3; exact ⟨x2, x3, .inl rfl⟩
  | cons o l ih =>
    intro x2 x3
    have lc := lc_flt (T := prg.tab) (call := rn wf n) (elt := .var 4) (tg := [4]) (it := .seq (.var 0)) (ifs := .cons (.cmp .isin (.var 4) (.var 2)) .nil) (ρ := [some (.v (secD a)), x1, some (.v (secD o)), x3, none]) (st := st) (st1 := st)
      D.str (fun x => (o.map D.str).any fun z => eqD (.str x) z) D.str a (it_seq (.inr (varE (i := 0) rfl))) (by omega) (fun x hx => ⟨[some (.v (secD a)), x1, some (.v (secD o)), x3, some (.v (.str x))], rfl, by
        rw [evIfs]
        exact tstE (cmpE (varE rfl) (varE rfl) (in_sec _ _ _ _)), fun _ => rfl⟩)
    generalize hc : a.filter (fun x => (o.map D.str).any fun z => eqD (.str x) z) = c at lc
    have hcp : ∀ x ∈ c, plain (.str x) = true := fun x hx => by
      rw [← hc] at hx
      exact ha x (List.mem_filter.mp hx).1
    have s1 : evS prg.tab (rn wf n) wf (.set 3 (.lc (.var 4) [4] (.seq (.var 0)) (.cons (.cmp .isin (.var 4) (.var 2)) .nil))) [some (.v (secD a)), x1, some (.v (secD o)), x3, none] st = .nx [some (.v (secD a)), x1, some (.v (secD o)), some (.v (.lst (c.map .str))), none] st := setS lc (Nat.le_of_ble_eq_true rfl)
    have t2 := tstE (and3E (T := prg.tab) (call := rn wf n) (ρ := [some (.v (secD a)), x1, some (.v (secD o)), some (.v (.lst (c.map .str))), none]) (st := st) (a := .cmp .ne (.var 3) (.lst .nil)) (b := .cmp .lt (.blt .len (.var 3)) (.blt .len (.var 0))) (c := .cmp .lt (.blt .len (.var 3)) (.blt .len (.var 2))) (x := !c.isEmpty) (y := decide ((c.length : Int) < a.length)) (z := decide ((c.length : Int) < o.length))
      (cmpE (varE (i := 3) rfl) (y := .lst []) rfl (ne_nilS _ hcp st)) (by simp [ev, slotV, secD, bltD, cmpD]) (by simp [ev, slotV, secD, bltD, cmpD]))
    generalize (!c.isEmpty && (decide ((c.length : Int) < a.length) && decide ((c.length : Int) < o.length))) = b at t2
    cases b with
    | true =>
      refine ⟨x2, x3, .inr ?_⟩
      rw [List.map_cons, forR, show bindT [2] (secD o) [some (.v (secD a)), x1, x2, x3, none] = some [some (.v (secD a)), x1, some (.v (secD o)), x3, none] from rfl]
      dsimp only
      rw [ss_nx s1, ss_ifR t2 (ret1 (d := .bl false) (st1 := st) rfl)]
    | false =>
      obtain ⟨y2, y3, e⟩ := ih (some (.v (secD o))) (some (.v (.lst (c.map .str))))
      refine ⟨y2, y3, ?_⟩
      rw [List.map_cons, forR_nx (ρ1 := [some (.v (secD a)), x1, some (.v (secD o)), x3, none]) rfl ((ss_nx s1).trans ((ss_ifF t2).trans ss_end))]
      exact e
theorem fits_ {a : List PySem.Str} (ha : ∀ x ∈ a, plain (.str x) = true) (hal : a.length ≤ 100) (l : List (List PySem.Str)) (st : Store) : ∃ b, rn wf (n + 1) 26 [secD a, .lst (l.map secD)] st = .ok (.bl b) st := by
  rw [run_f (f := ⟨5, 2, b26, none, false⟩) rfl rfl rfl]
  show ∃ b, endF false (evSs prg.tab (rn wf n) wf b26 [some (.v (secD a)), some (.v (.lst (l.map secD))), none, none, none] st) = _
  obtain ⟨y2, y3, e | e⟩ := fits_loop (wf := wf) (n := n) ha hal (st := st) (x1 := some (.v (.lst (l.map secD)))) l none none
  · refine ⟨true, ?_⟩
    unfold b26
    rw [ss_for (xs := l.map secD) (st1 := st) (it_seq (.inl (varE (i := 1) rfl))) e]
    rfl
  · refine ⟨false, ?_⟩
    unfold b26
    rw [ss_rt (d := .bl false) (st1 := st)]
    · rfl
    · rw [evS, it_seq (xs := l.map secD) (st1 := st) (.inl (varE (i := 1) rfl)), Res.fl_ok]
      exact e
theorem grp_one {N : Nat} {st : Store} (hI : Inv N st) (hN : N < 80000) {ss : List PySem.Str} (hp : ∀ x ∈ ss, x ∈ pool) (hl : ss.length ≤ 4) {l : List (List PySem.Str)} (hl2 : l.length < 100) (hs : ∀ s ∈ l, 2 ≤ s.length ∧ s.length ≤ 4 ∧ ∀ x ∈ s, x ∈ pool) {x3 x4 : Option Slot} : ∃ (l' : List (List PySem.Str)) (y4 : Option Slot) (st' : Store), evSs prg.tab (rn wf (n + 1)) wf (.cons (.set 4 (.blt .tuple (.lc (.var 5) [5] (.seq (.var 1)) (.cons (.cmp .eq (.call 7 (.cons (.var 0) (.cons (.int 2) .nil)) []) (.int 0)) .nil))))
  (.cons (.ite (.and (.cons (.cmp .gt (.blt .len (.var 4)) (.int 1)) (.cons (.cmp .notin (.var 4) (.bor 2)) (.cons (.callB 26 (.cons (.var 4) (.cons (.bor 2) .nil))) .nil)))) (.cons (.app 2 (.var 4))
  .nil) .nil)
  .nil)) [some (.v (.ref 0)), some (.v (.lst (ss.map .str))), some (.own (l.map secD)), x3, x4, none] st = .nx [some (.v (.ref 0)), some (.v (.lst (ss.map .str))), some (.own (l'.map secD)), x3, y4, none] st' ∧ (l'.length = l.length ∨ l'.length = l.length + 1) ∧ (∀ s ∈ l', 2 ≤ s.length ∧ s.length ≤ 4 ∧ ∀ x ∈ s, x ∈ pool) ∧ Inv (N + 4) st' := by
  obtain ⟨a, st1, e1, h1, h2, i1⟩ := lc_some (T := prg.tab) (call := rn wf (n + 1)) (elt := .var 5) (tg := [5]) (it := .seq (.var 1)) (ifs := .cons (.cmp .eq (.call 7 (.cons (.var 0) (.cons (.int 2) .nil)) []) (.int 0)) .nil) (ρ := [some (.v (.ref 0)), some (.v (.lst (ss.map .str))), some (.own (l.map secD)), x3, x4, none]) (st := st) (st1 := st)
    D.str D.str ss (J := fun j st => Inv (N + j) st) (it_seq (.inl (varE (i := 1) rfl))) (by omega) hI (fun j x hj st hst => by
      have hjl : j < ss.length := (List.getElem?_eq_some_iff.mp hj).1
      obtain ⟨y, st2, e2, _, _, i2⟩ := draw_ (wf := wf) (n := n) hst (by omega) (m := 2) (by omega) (by omega)
      refine ⟨[some (.v (.ref 0)), some (.v (.lst (ss.map .str))), some (.own (l.map secD)), x3, x4, some (.v (.str x))], y == 0, st2, rfl, ?_, fun _ => rfl, i2⟩
      rw [evIfs]
      exact tstE (cmpE ((callE (consE (varE (i := 0) (d := .ref 0) rfl) (consE (d := .int 2) rfl nilE))).trans e2) (y := .int 0) rfl (by simp [cmpD, eqR, plain, deep, eqD])))
  have ha : ∀ x ∈ a, x ∈ pool := fun x hx => hp x (h1 x hx)
  have hap : ∀ x ∈ a, plain (.str x) = true := fun x hx => (pool_rg x (ha x hx)).pl
  have hlp : ∀ s ∈ l, ∀ x ∈ s, plain (.str x) = true := fun s hs' x hx => (pool_rg x ((hs s hs').2.2 x hx)).pl
  have s1 : evS prg.tab (rn wf (n + 1)) wf (.set 4 (.blt .tuple (.lc (.var 5) [5] (.seq (.var 1)) (.cons (.cmp .eq (.call 7 (.cons (.var 0) (.cons (.int 2) .nil)) []) (.int 0)) .nil)))) [some (.v (.ref 0)), some (.v (.lst (ss.map .str))), some (.own (l.map secD)), x3, x4, none] st = .nx [some (.v (.ref 0)), some (.v (.lst (ss.map .str))), some (.own (l.map secD)), x3, some (.v (secD a)), none] st1 := setS (tupE e1) (Nat.le_of_ble_eq_true rfl)
  obtain ⟨b, fb⟩ := fits_ (wf := wf) (n := n) hap (by omega) l []
  obtain ⟨p1, p2⟩ := pl_strs hap
  obtain ⟨p3, p4⟩ := pl_secs hlp
  have c3 : ev prg.tab (rn wf (n + 1)) (.callB 26 (.cons (.var 4) (.cons (.bor 2) .nil))) [some (.v (.ref 0)), some (.v (.lst (ss.map .str))), some (.own (l.map secD)), x3, some (.v (secD a)), none] st1 = .ok (.bl b) st1 := by
    rw [ev, consE (varE (i := 4) (d := secD a) rfl) (consE (d := .lst (l.map secD)) (by rw [ev]; rfl) nilE), Res.bind_ok, if_pos (by simp only [plains, secD, plain, p1, p3]; rfl), fb]
    rfl
  obtain ⟨b2, c2⟩ : ∃ b2, ev prg.tab (rn wf (n + 1)) (.cmp .notin (.var 4) (.bor 2)) [some (.v (.ref 0)), some (.v (.lst (ss.map .str))), some (.own (l.map secD)), x3, some (.v (secD a)), none] st1 = .ok (.bl b2) st1 := by
    refine ⟨_, cmpE (varE (i := 4) (d := secD a) rfl) (y := .lst (l.map secD)) (by rw [ev]; rfl) (d := .bl (!((l.map secD).any fun z => eqD z (secD a)))) ?_⟩
    simp only [cmpD]
    rw [if_neg (by simp [flat, secD])]
    unfold ninD
    rw [if_pos]
    simp only [secD, plain, deep, p1, p2, p3, Bool.and_eq_true, decide_eq_true_eq, true_and, and_true]
    exact ⟨by omega, by omega⟩
  have t2 := tstE (and3E (T := prg.tab) (call := rn wf (n + 1)) (a := .cmp .gt (.blt .len (.var 4)) (.int 1)) (x := decide ((1 : Int) < a.length)) (by simp [ev, slotV, secD, bltD, cmpD]) c2 c3)
  cases hb : (decide ((1 : Int) < a.length) && (b2 && b)) with
  | false =>
    rw [hb] at t2
    exact ⟨l, _, st1, (ss_nx s1).trans ((ss_ifF t2).trans ss_end), .inl rfl, hs, i1.le (by omega)⟩
  | true =>
    rw [hb] at t2
    have hlen : 2 ≤ a.length := by
      simp only [Bool.and_eq_true, decide_eq_true_eq] at hb
      omega
    refine ⟨l ++ [a], some (.v (secD a)), st1, ?_, .inr (by simp), fun s hs' => ?_, i1.le (by omega)⟩
    · rw [ss_nx s1, ss_if t2, if_pos rfl, ss_one (app_is (y := secD a) (varE (i := 4) rfl) rfl (by rw [List.length_map]; omega)), List.map_append]
      rfl
    · rcases List.mem_append.mp hs' with h | h
      · exact hs s h
      · rw [List.mem_singleton.mp h]
        exact ⟨hlen, by omega, ha⟩
theorem grp_loop {ss : List PySem.Str} (hp : ∀ x ∈ ss, x ∈ pool) (hl : ss.length ≤ 4) (k : List Nat) : ∀ (N : Nat) (st : Store) (l : List (List PySem.Str)) (x3 x4 : Option Slot), Inv N st → N + 4 * k.length < 80000 → l.length + k.length < 100 → (∀ s ∈ l, 2 ≤ s.length ∧ s.length ≤ 4 ∧ ∀ x ∈ s, x ∈ pool) → ∃ (l' : List (List PySem.Str)) (y3 y4 : Option Slot) (st' : Store), forR [3] (evSs prg.tab (rn wf (n + 1)) wf (.cons (.set 4 (.blt .tuple (.lc (.var 5) [5] (.seq (.var 1)) (.cons (.cmp .eq (.call 7 (.cons (.var 0) (.cons (.int 2) .nil)) []) (.int 0)) .nil))))
  (.cons (.ite (.and (.cons (.cmp .gt (.blt .len (.var 4)) (.int 1)) (.cons (.cmp .notin (.var 4) (.bor 2)) (.cons (.callB 26 (.cons (.var 4) (.cons (.bor 2) .nil))) .nil)))) (.cons (.app 2 (.var 4))
  .nil) .nil)
  .nil))) (k.map fun i => D.int (i : Nat)) [some (.v (.ref 0)), some (.v (.lst (ss.map .str))), some (.own (l.map secD)), x3, x4, none] st = .nx [some (.v (.ref 0)), some (.v (.lst (ss.map .str))), some (.own (l'.map secD)), y3, y4, none] st' ∧ l'.length ≤ l.length + k.length ∧ (∀ s ∈ l', 2 ≤ s.length ∧ s.length ≤ 4 ∧ ∀ x ∈ s, x ∈ pool) ∧ Inv (N + 4 * k.length) st' := by
  induction k with
  | nil => intro N st l x3 x4 hI _ _ hs; exact ⟨l, x3, x4, st, rfl, by simp, hs, hI⟩
  | cons i k ih =>
    intro N st l x3 x4 hI hN hl2 hs
    rw [List.length_cons] at hN hl2
    obtain ⟨l1, y4, st1, e1, h1, h2, i1⟩ := grp_one (wf := wf) (n := n) hI (by omega) hp hl (l := l) (by omega) hs (x3 := some (.v (.int i))) (x4 := x4)
    obtain ⟨l2, z3, z4, st2, e2, h3, h4, i2⟩ := ih (N + 4) st1 l1 (some (.v (.int i))) y4 i1 (by omega) (by omega) h2
    refine ⟨l2, z3, z4, st2, ?_, by rw [List.length_cons]; omega, h4, i2.le (by rw [List.length_cons]; omega)⟩
    rw [List.map_cons, forR_nx (tg := [3]) (d := D.int (i : Nat)) rfl e1]
    exact e2
theorem okK_strs : ∀ a b : List PySem.Str, okK (a.map Sum.inr) (b.map Sum.inr) = true
  | [], _ => by simp [okK]
  | _ :: _, [] => by simp [okK]
  | x :: a, y :: b => by
    simp only [List.map_cons, okK]
    split
    · exact okK_strs a b
    · rfl
def secK (s : List PySem.Str) : List Ky := s.map Sum.inr
theorem secK_D (s : List PySem.Str) : tkV (secK s) = secD s := by
  unfold tkV secK secD
  rw [List.map_map]
  rfl
theorem sorted_secs (call : Nat → List D → Store → Res D) {l : List (List PySem.Str)} (hs : ∀ s ∈ l, 2 ≤ s.length) (hl : l.length ≤ 100) (st : Store) : ∃ l' : List (List PySem.Str), bltD prg.tab call .sorted (.lst (l.map secD)) st = .ok (.lst (l'.map secD)) st ∧ (∀ s ∈ l', s ∈ l) ∧ l'.length = l.length := by
  cases l with
  | nil => exact ⟨[], rfl, (fun _ h => h), rfl⟩
  | cons p l =>
    obtain ⟨l', e, h1, h2⟩ := sortK_pull secK (p :: l)
    refine ⟨l', ?_, h1, h2⟩
    have hst : strsD ((p :: l).map secD) = none := rfl
    have ht : tksD ((p :: l).map secD) = some ((p :: l).map secK) := by
      have := tks_is secK (p :: l)
      simp only [secK_D] at this
      exact this
    have hok : okKs ((p :: l).map secK) = true := by
      unfold okKs
      rw [Bool.and_eq_true, Bool.or_eq_true]
      refine ⟨.inr (List.all_eq_true.mpr fun k hk => ?_), List.all_eq_true.mpr fun a ha => List.all_eq_true.mpr fun b hb => ?_⟩
      · obtain ⟨s, hs', rfl⟩ := List.mem_map.mp hk
        have := hs s hs'
        cases s with
        | nil => simp at this
        | cons x s => rfl
      · obtain ⟨s, _, rfl⟩ := List.mem_map.mp ha
        obtain ⟨t, _, rfl⟩ := List.mem_map.mp hb
        exact okK_strs s t
    simp only [bltD, hst, ht]
    rw [if_pos (by rw [hok, Bool.and_true, List.length_map]; exact decide_eq_true (by omega)), e, List.map_map]
    congr 2
    exact List.map_congr_left fun s _ => secK_D s
theorem groups_ {N : Nat} {st : Store} (hI : Inv N st) (hN : N < 70000) {ss : List PySem.Str} (hp : ∀ x ∈ ss, x ∈ pool) (hl : ss.length ≤ 4) : ∃ (l : List (List PySem.Str)) (st' : Store), rn wf (n + 2) 15 [.ref 0, .lst (ss.map .str)] st = .ok (.tup (l.map secD)) st' ∧ l.length ≤ 3 ∧ (∀ s ∈ l, s.length ≤ 4 ∧ ∀ x ∈ s, x ∈ pool) ∧ Inv (N + 20) st' := by
  obtain ⟨x, st1, e1, h0, h1, i1⟩ := draw_ (wf := wf) (n := n) hI (by omega) (m := 4) (by omega) (by omega)
  obtain ⟨l, y3, y4, st2, e2, q1, q2, i2⟩ := grp_loop (wf := wf) (n := n) hp hl (List.range x.toNat) (N + 1) st1 [] none none i1 (by simp; omega) (by simp; omega) (fun _ h => nomatch h)
  rw [List.length_range] at q1 i2
  simp only [List.length_nil] at q1
  obtain ⟨l', e3, r1, r2⟩ := sorted_secs (rn wf (n + 1)) (l := l) (fun s hs => (q2 s hs).1) (by omega) st2
  refine ⟨l', st2, ?_, by omega, fun s hs => (q2 s (r1 s hs)).2, i2.le (by omega)⟩
  rw [run_f (f := ⟨6, 2, b15, none, false⟩) rfl rfl rfl]
  show endF false (evSs prg.tab (rn wf (n + 1)) wf b15 [some (.v (.ref 0)), some (.v (.lst (ss.map .str))), none, none, none, none] st) = _
  unfold b15
  rw [ss_nx (ρ1 := [some (.v (.ref 0)), some (.v (.lst (ss.map .str))), some (.own []), none, none, none]) (st1 := st) rfl]
  have hit := it_rngN (T := prg.tab) (call := rn wf (n + 1)) (a := .call 7 (.cons (.var 0) (.cons (.int 4) .nil)) []) (ρ := [some (.v (.ref 0)), some (.v (.lst (ss.map .str))), some (.own []), none, none, none]) (i := x) x.toNat ((callE (consE (varE (i := 0) (d := .ref 0) rfl) (consE (d := .int 4) rfl nilE))).trans e1) (by omega) (by omega)
  refine (congrArg (endF false) ((ss_for hit e2).trans ((ss_nx (ρ1 := [some (.v (.ref 0)), some (.v (.lst (ss.map .str))), some (.v (.lst (l.map secD))), y3, y4, none]) (st1 := st2) rfl).trans (ret1 (tupE (e := .blt .sorted (.var 2)) (by rw [ev, varE (i := 2) (d := .lst (l.map secD)) rfl, Res.bind_ok]; exact e3)))))).trans rfl
end
end K17

set_option exponentiation.threshold 5000
namespace K17
open Eng
section
variable {wf n : Nat}
abbrev bCh : Ss := (.cons (.set 7 (.call 25 (.cons (.var 0) .nil) []))
  (.cons (.app 5 (.ite (.and (.cons (.idx (.var 6) (.int 3)) (.cons (.cmp .gt (.call 7 (.cons (.var 0) (.cons (.int 4) .nil)) []) (.int 0)) .nil))) (.var 7) (.tup (.cons (.int 0) (.cons (.int 1) .nil)))))
  .nil))
theorem ch_loop (hwf : 2 ^ 4096 ≤ wf) {x1 x2 x3 x4 : Option Slot} (rs : List Row) : ∀ (N : Nat) (st : Store) (qs : List Rat) (x6 x7 : Option Slot), Inv N st → N + 5 * rs.length < 80000 → qs.length + rs.length < 100 → (∀ q ∈ qs, Sz 20 q) → ∃ (qs' : List Rat) (y6 y7 : Option Slot) (st' : Store), forR [6] (evSs prg.tab (rn wf (n + 3)) wf bCh) (rs.map rowD) [some (.v (.ref 0)), x1, x2, x3, x4, some (.own (qs.map frD)), x6, x7] st = .nx [some (.v (.ref 0)), x1, x2, x3, x4, some (.own (qs'.map frD)), y6, y7] st' ∧ qs'.length = qs.length + rs.length ∧ (∀ q ∈ qs', Sz 20 q) ∧ Inv (N + 5 * rs.length) st' := by
  induction rs with
  | nil => intro N st qs x6 x7 hI _ _ hq; exact ⟨qs, x6, x7, st, rfl, rfl, hq, hI⟩
  | cons r rs ih =>
    intro N st qs x6 x7 hI hN hl hq
    rw [List.length_cons] at hN hl
    obtain ⟨q, st1, e1, h1, i1⟩ := charge_ (wf := wf) (n := n) hwf hI (by omega)
    obtain ⟨x, st2, e2, h0, h2, i2⟩ := draw_ (wf := wf) (n := n + 2) i1 (by omega) (m := 4) (by omega) (by omega)
    have e2 : rn wf (n + 3) 7 [.ref 0, .int 4] st1 = .ok (.int x) st2 := e2
    have s1 : evS prg.tab (rn wf (n + 3)) wf (.set 7 (.call 25 (.cons (.var 0) .nil) [])) [some (.v (.ref 0)), x1, x2, x3, x4, some (.own (qs.map frD)), some (.v (rowD r)), x7] st = .nx [some (.v (.ref 0)), x1, x2, x3, x4, some (.own (qs.map frD)), some (.v (rowD r)), some (.v (frD q))] st1 := setS ((call1 (d := .ref 0) rfl).trans e1) (Nat.le_of_ble_eq_true rfl)
    obtain ⟨q2, st3, e3, h3, i3⟩ : ∃ (q2 : Rat) (st3 : Store), ev prg.tab (rn wf (n + 3)) (.ite (.and (.cons (.idx (.var 6) (.int 3)) (.cons (.cmp .gt (.call 7 (.cons (.var 0) (.cons (.int 4) .nil)) []) (.int 0)) .nil))) (.var 7) (.tup (.cons (.int 0) (.cons (.int 1) .nil)))) [some (.v (.ref 0)), x1, x2, x3, x4, some (.own (qs.map frD)), some (.v (rowD r)), some (.v (frD q))] st1 = .ok (frD q2) st3 ∧ Sz 20 q2 ∧ Inv (N + 5) st3 := by
      have a1 : ev prg.tab (rn wf (n + 3)) (.idx (.var 6) (.int 3)) [some (.v (.ref 0)), x1, x2, x3, x4, some (.own (qs.map frD)), some (.v (rowD r)), some (.v (frD q))] st1 = .ok (.bl r.g) st1 := by
        rw [ev, varE (i := 6) (d := rowD r) rfl, Res.bind_ok, ev, Res.bind_ok, row3]
      have a2 : ev prg.tab (rn wf (n + 3)) (.cmp .gt (.call 7 (.cons (.var 0) (.cons (.int 4) .nil)) []) (.int 0)) [some (.v (.ref 0)), x1, x2, x3, x4, some (.own (qs.map frD)), some (.v (rowD r)), some (.v (frD q))] st1 = .ok (.bl (decide (0 < x))) st2 :=
        cmpE ((callE (consE (varE (i := 0) (d := .ref 0) rfl) (consE (d := .int 4) (c := .int 4) rfl nilE))).trans e2) (y := .int 0) rfl rfl
      have zz : frD (0 : Rat) = .tup [.int 0, .int 1] := rfl
      cases hg : r.g with
      | true =>
        rw [hg] at a1
        have c1 := and2E (y := decide (0 < x)) (st2 := st2) a1 (fun _ => a2) (fun z => nomatch z)
        rw [Bool.true_and] at c1
        by_cases hx : 0 < x
        · rw [decide_eq_true hx] at c1
          exact ⟨q, st2, by rw [ev, c1, Res.bind_ok, truD, Res.bind_ok, if_pos rfl, varE (i := 7) (d := frD q) rfl], h1, i2⟩
        · rw [decide_eq_false hx] at c1
          exact ⟨0, st2, by rw [ev, c1, Res.bind_ok, truD, Res.bind_ok, if_neg (by decide), zz]; rfl, ⟨by decide, by decide⟩, i2⟩
      | false =>
        rw [hg] at a1
        have c1 := and2E (y := true) (st2 := st1) (b := .cmp .gt (.call 7 (.cons (.var 0) (.cons (.int 4) .nil)) []) (.int 0)) a1 (fun z => nomatch z) (fun _ => rfl)
        rw [Bool.false_and] at c1
        exact ⟨0, st1, by rw [ev, c1, Res.bind_ok, truD, Res.bind_ok, if_neg (by decide), zz]; rfl, ⟨by decide, by decide⟩, i1.le (by omega)⟩
    have s2 : evS prg.tab (rn wf (n + 3)) wf (.app 5 (.ite (.and (.cons (.idx (.var 6) (.int 3)) (.cons (.cmp .gt (.call 7 (.cons (.var 0) (.cons (.int 4) .nil)) []) (.int 0)) .nil))) (.var 7) (.tup (.cons (.int 0) (.cons (.int 1) .nil))))) [some (.v (.ref 0)), x1, x2, x3, x4, some (.own (qs.map frD)), some (.v (rowD r)), some (.v (frD q))] st1 = .nx [some (.v (.ref 0)), x1, x2, x3, x4, some (.own ((qs ++ [q2]).map frD)), some (.v (rowD r)), some (.v (frD q))] st3 := by
      rw [app_is e3 (xs := qs.map frD) rfl (by rw [List.length_map]; omega), List.map_append]
      rfl
    obtain ⟨qs', y6, y7, st4, e4, q1, q3, i4⟩ := ih (N + 5) st3 (qs ++ [q2]) (some (.v (rowD r))) (some (.v (frD q))) i3 (by omega) (by simp; omega) (fun z hz => by
      rcases List.mem_append.mp hz with hz | hz
      · exact hq z hz
      · rw [List.mem_singleton.mp hz]; exact h3)
    refine ⟨qs', y6, y7, st4, ?_, by rw [q1, List.length_append, List.length_cons]; simp; omega, q3, i4.le (by rw [List.length_cons]; omega)⟩
    rw [List.map_cons, forR_nx (tg := [6]) (d := rowD r) rfl ((ss_nx s1).trans (ss_one s2))]
    exact e4
abbrev bDay : Ss := (.cons (.own 5 (.lst .nil))
  (.cons (.for [6] (.seq (.var 1)) bCh)
  (.cons (.frz 5)
  (.cons (.app 3 (.blt .tuple (.var 5)))
  .nil))))
theorem day_loop (hwf : 2 ^ 4096 ≤ wf) {x2 : Option Slot} {rs : List Row} (hr : rs.length ≤ 4) (k : List Nat) : ∀ (N : Nat) (st : Store) (ds : List (List Rat)) (x4 x5 x6 x7 : Option Slot), Inv N st → N + 20 * k.length < 70000 → ds.length + k.length < 100 → (∀ d ∈ ds, d.length = rs.length ∧ ∀ q ∈ d, Sz 20 q) → ∃ (ds' : List (List Rat)) (y4 y5 y6 y7 : Option Slot) (st' : Store), forR [4] (evSs prg.tab (rn wf (n + 3)) wf bDay) (k.map fun i => D.int (i : Nat)) [some (.v (.ref 0)), some (.v (.tup (rs.map rowD))), x2, some (.own (ds.map dayD)), x4, x5, x6, x7] st = .nx [some (.v (.ref 0)), some (.v (.tup (rs.map rowD))), x2, some (.own (ds'.map dayD)), y4, y5, y6, y7] st' ∧ ds'.length = ds.length + k.length ∧ (∀ d ∈ ds', d.length = rs.length ∧ ∀ q ∈ d, Sz 20 q) ∧ Inv (N + 20 * k.length) st' := by
  induction k with
  | nil => intro N st ds x4 x5 x6 x7 hI _ _ hd; exact ⟨ds, x4, x5, x6, x7, st, rfl, rfl, hd, hI⟩
  | cons i k ih =>
    intro N st ds x4 x5 x6 x7 hI hN hl hd
    rw [List.length_cons] at hN hl
    obtain ⟨qs, y6, y7, st1, e1, h1, h2, i1⟩ := ch_loop (wf := wf) (n := n) hwf (x1 := some (.v (.tup (rs.map rowD)))) (x2 := x2) (x3 := some (.own (ds.map dayD))) (x4 := some (.v (.int i))) rs N st [] x6 x7 hI (by omega) (by simp; omega) (fun _ h => nomatch h)
    obtain ⟨ds', z4, z5, z6, z7, st2, e2, h3, h4, i2⟩ := ih (N + 20) st1 (ds ++ [qs]) (some (.v (.int i))) (some (.v (.lst (qs.map frD)))) y6 y7 (i1.le (by omega)) (by omega) (by simp; omega) (fun d hd' => by
      rcases List.mem_append.mp hd' with z | z
      · exact hd d z
      · rw [List.mem_singleton.mp z]; exact ⟨by simpa using h1, h2⟩)
    refine ⟨ds', z4, z5, z6, z7, st2, ?_, by rw [h3, List.length_append, List.length_cons]; simp; omega, h4, i2.le (by rw [List.length_cons]; omega)⟩
    have hb : evSs prg.tab (rn wf (n + 3)) wf bDay [some (.v (.ref 0)), some (.v (.tup (rs.map rowD))), x2, some (.own (ds.map dayD)), some (.v (.int i)), x5, x6, x7] st = .nx [some (.v (.ref 0)), some (.v (.tup (rs.map rowD))), x2, some (.own ((ds ++ [qs]).map dayD)), some (.v (.int i)), some (.v (.lst (qs.map frD))), y6, y7] st1 := by
      refine (ss_nx (ρ1 := [some (.v (.ref 0)), some (.v (.tup (rs.map rowD))), x2, some (.own (ds.map dayD)), some (.v (.int i)), some (.own []), x6, x7]) (st1 := st) rfl).trans ((ss_for (xs := rs.map rowD) (st1 := st) (it_seq (.inr (varE (i := 1) rfl))) e1).trans ((ss_nx (ρ1 := [some (.v (.ref 0)), some (.v (.tup (rs.map rowD))), x2, some (.own (ds.map dayD)), some (.v (.int i)), some (.v (.lst (qs.map frD))), y6, y7]) (st1 := st1) rfl).trans ((ss_one (app_is (i := 3) (xs := ds.map dayD) (tupE (varE (i := 5) (d := .lst (qs.map frD)) rfl)) rfl (by rw [List.length_map]; omega))).trans ?_)))
      rw [List.map_append]
      rfl
    rw [List.map_cons, forR_nx (tg := [4]) (d := D.int (i : Nat)) rfl hb]
    exact e2
theorem charges_ (hwf : 2 ^ 4096 ≤ wf) {N : Nat} {st : Store} (hI : Inv N st) (hN : N < 60000) {rs : List Row} (hr : rs.length ≤ 4) {k : Nat} (hk : k ≤ 3) : ∃ (ds : List (List Rat)) (st' : Store), rn wf (n + 4) 16 [.ref 0, .tup (rs.map rowD), .int (k : Nat)] st = .ok (.tup (ds.map dayD)) st' ∧ ds.length = k ∧ (∀ d ∈ ds, d.length = rs.length ∧ ∀ q ∈ d, Sz 20 q) ∧ Inv (N + 60) st' := by
  obtain ⟨ds, y4, y5, y6, y7, st', e, h1, h2, i⟩ := day_loop (wf := wf) (n := n) hwf (x2 := some (.v (.int (k : Nat)))) hr (List.range k) N st [] none none none none hI (by simp; omega) (by simp; omega) (fun _ h => nomatch h)
  rw [List.length_range] at h1 i
  refine ⟨ds, st', ?_, by simpa using h1, h2, i.le (by omega)⟩
  rw [run_f (f := ⟨8, 3, b16, none, false⟩) rfl rfl rfl]
  show endF false (evSs prg.tab (rn wf (n + 3)) wf b16 [some (.v (.ref 0)), some (.v (.tup (rs.map rowD))), some (.v (.int (k : Nat))), none, none, none, none, none] st) = _
  unfold b16
  rw [ss_nx (ρ1 := [some (.v (.ref 0)), some (.v (.tup (rs.map rowD))), some (.v (.int (k : Nat))), some (.own []), none, none, none, none]) (st1 := st) rfl]
  exact (congrArg (endF false) (ss_for (it_rngN (a := .var 2) k (varE (i := 2) rfl) rfl (by omega)) e)).trans rfl
/-! ### a random sheet -/
theorem case_ (hwf : 2 ^ 4096 ≤ wf) {N : Nat} {st : Store} (hI : Inv N st) (hN : N < 50000) (fr : Bool) : ∃ (s : Sheet) (st' : Store), rn wf (n + 5) 4 [.ref 0, .int 4, .int 3, .bl fr] st = .ok (shD s) st' ∧ OK s ∧ Inv (N + 200) st' := by
  obtain ⟨ss, st1, e1, a1, a2, i1⟩ := names_ (wf := wf) (n := n + 2) hwf hI (by omega)
  obtain ⟨rs, st2, e2, b1, b2, i2⟩ := heads_ (wf := wf) (n := n) hwf i1 (by omega) fr a2 a1
  obtain ⟨l, st3, e3, c1, c2, i3⟩ := groups_ (wf := wf) (n := n + 2) i2 (by omega) a2 a1
  obtain ⟨x, st4, e4, h0, h1, i4⟩ := draw_ (wf := wf) (n := n + 3) i3 (by omega) (m := 4) (by omega) (by omega)
  obtain ⟨ds, st5, e5, d1, d2, i5⟩ := charges_ (wf := wf) (n := n) hwf i4 (by omega) (rs := rs) (by omega) (k := x.toNat) (by omega)
  refine ⟨⟨rs, l, ds⟩, st5, ?_, ⟨by show rs.length ≤ 4; omega, by show ds.length ≤ 3; omega, c1, fun d hd => (d2 d hd).1, b2, fun d hd => (d2 d hd).2, fun s hs => ⟨by have := (c2 s hs).1; omega, fun x hx => pool_rg x ((c2 s hs).2 x hx)⟩⟩, i5.le (by omega)⟩
  have e1 : rn wf (n + 4) 13 [.ref 0, .int 4] st = .ok (.lst (ss.map .str)) st1 := e1
  have e3 : rn wf (n + 4) 15 [.ref 0, .lst (ss.map .str)] st2 = .ok (.tup (l.map secD)) st3 := e3
  have e4 : rn wf (n + 4) 7 [.ref 0, .int 4] st3 = .ok (.int x) st4 := e4
  rw [show ((x.toNat : Nat) : Int) = x by omega] at e5
  rw [run_f (f := ⟨7, 4, b4, none, false⟩) rfl rfl rfl]
  show endF false (evSs prg.tab (rn wf (n + 4)) wf b4 [some (.v (.ref 0)), some (.v (.int 4)), some (.v (.int 3)), some (.v (.bl fr)), none, none, none] st) = _
  unfold b4
  have s1 : evS prg.tab (rn wf (n + 4)) wf (.set 4 (.call 13 (.cons (.var 0) (.cons (.var 1) .nil)) [])) [some (.v (.ref 0)), some (.v (.int 4)), some (.v (.int 3)), some (.v (.bl fr)), none, none, none] st = .nx [some (.v (.ref 0)), some (.v (.int 4)), some (.v (.int 3)), some (.v (.bl fr)), some (.v (.lst (ss.map .str))), none, none] st1 := setS ((call2 (d := .ref 0) (d2 := .int 4) rfl rfl).trans e1) (Nat.le_of_ble_eq_true rfl)
  have s2 : evS prg.tab (rn wf (n + 4)) wf (.set 5 (.call 14 (.cons (.var 0) (.cons (.var 4) (.cons (.var 3) .nil))) [])) [some (.v (.ref 0)), some (.v (.int 4)), some (.v (.int 3)), some (.v (.bl fr)), some (.v (.lst (ss.map .str))), none, none] st1 = .nx [some (.v (.ref 0)), some (.v (.int 4)), some (.v (.int 3)), some (.v (.bl fr)), some (.v (.lst (ss.map .str))), some (.v (.tup (rs.map rowD))), none] st2 := setS ((call3 (d := .ref 0) (d2 := .lst (ss.map .str)) (d3 := .bl fr) rfl rfl rfl).trans e2) (Nat.le_of_ble_eq_true rfl)
  have s3 : evS prg.tab (rn wf (n + 4)) wf (.set 6 (.call 15 (.cons (.var 0) (.cons (.var 4) .nil)) [])) [some (.v (.ref 0)), some (.v (.int 4)), some (.v (.int 3)), some (.v (.bl fr)), some (.v (.lst (ss.map .str))), some (.v (.tup (rs.map rowD))), none] st2 = .nx [some (.v (.ref 0)), some (.v (.int 4)), some (.v (.int 3)), some (.v (.bl fr)), some (.v (.lst (ss.map .str))), some (.v (.tup (rs.map rowD))), some (.v (.tup (l.map secD)))] st3 := setS ((call2 (d := .ref 0) (d2 := .lst (ss.map .str)) rfl rfl).trans e3) (Nat.le_of_ble_eq_true rfl)
  rw [ss_nx s1, ss_nx s2, ss_nx s3]
  refine (congrArg (endF false) (ret1 (tpE (consE (varE (i := 5) (d := .tup (rs.map rowD)) rfl) (consE (varE (i := 6) (d := .tup (l.map secD)) rfl) (consE ((callE (consE (varE (i := 0) (d := .ref 0) rfl) (consE (varE (i := 5) (d := .tup (rs.map rowD)) rfl) (consE ((callE (consE (varE (i := 0) (d := .ref 0) rfl) (consE (d := .int 4) (c := .bin .add (.var 2) (.int 1)) rfl nilE))).trans e4) nilE)))).trans e5) nilE)))))).trans rfl
/-! ### bookings -/
theorem coins_loop {x0 x1 : Option Slot} (hx0 : x0 = some (.v (.ref 0))) {m : Nat} (hm : m ≤ 4) (ds : List (List Rat)) : ∀ (N : Nat) (st : Store) (c : List (List Int)) (x3 : Option Slot), Inv N st → N + 4 * ds.length < 70000 → c.length + ds.length < 100 → (∀ d ∈ ds, d.length = m ∧ ∀ q ∈ d, Sz 20 q) → (∀ x ∈ c, x.length = m ∧ ∀ i ∈ x, i.natAbs < 2 ^ 20) → ∃ (c' : List (List Int)) (y3 : Option Slot) (st' : Store), forR [3] (evSs prg.tab (rn wf (n + 2)) wf (.cons (.app 2 (.blt .tuple (.lc (.call 17 (.cons (.var 0) (.cons (.lst (.cons (.call 18 (.cons (.var 4) .nil) []) (.cons (.call 19 (.cons (.var 4) .nil) []) .nil))) .nil)) []) [4] (.seq (.var 3)) .nil))) .nil)) (ds.map dayD) [x0, x1, some (.own (c.map fun r => .tup (r.map .int))), x3, none] st = .nx [x0, x1, some (.own (c'.map fun r => .tup (r.map .int))), y3, none] st' ∧ c'.length = c.length + ds.length ∧ (∀ x ∈ c', x.length = m ∧ ∀ i ∈ x, i.natAbs < 2 ^ 20) ∧ Inv (N + 4 * ds.length) st' := by
  induction ds with
  | nil => intro N st c x3 hI _ _ _ hc; exact ⟨c, x3, st, rfl, rfl, hc, hI⟩
  | cons d ds ih =>
    intro N st c x3 hI hN hl hd hc
    rw [List.length_cons] at hN hl
    obtain ⟨hd1, hd2⟩ := hd d List.mem_cons_self
    subst hx0
    obtain ⟨ys, st1, e1, r1, i1⟩ := lc_cnt (T := prg.tab) (call := rn wf (n + 2)) (elt := .call 17 (.cons (.var 0) (.cons (.lst (.cons (.call 18 (.cons (.var 4) .nil) []) (.cons (.call 19 (.cons (.var 4) .nil) []) .nil))) .nil)) []) (tg := [4]) (it := .seq (.var 3)) (ρ := [some (.v (.ref 0)), x1, some (.own (c.map fun r => .tup (r.map .int))), some (.v (dayD d)), none]) (st := st) (st1 := st)
      frD d (R := fun _ y => ∃ i : Int, y = .int i ∧ i.natAbs < 2 ^ 20) (J := fun j st => Inv (N + j) st) (it_seq (.inr (varE (i := 3) (d := dayD d) rfl))) (by omega) hI (fun j q hj st hst => by
        have hq := hd2 q (List.mem_of_getElem? hj)
        have hjl : j < d.length := (List.getElem?_eq_some_iff.mp hj).1
        obtain ⟨y, st2, e2, hy, i2⟩ := pick_ (wf := wf) (n := n) hst (by omega) [.int q.floor, .int (ceilQ q)] (by simp) (by simp)
        have dn : rn wf (n + 2) 18 [frD q] st = .ok (.int q.floor) st := down_ (wf := wf) (n := n + 1) (st := st) (Sz_le hq (by decide))
        have up : rn wf (n + 2) 19 [frD q] st = .ok (.int (ceilQ q)) st := up_ (wf := wf) (n := n + 1) (st := st) (Sz_le hq (by decide))
        refine ⟨[some (.v (.ref 0)), x1, some (.own (c.map fun r => .tup (r.map .int))), some (.v (dayD d)), some (.v (frD q))], y, st2, rfl, ?_, ?_, i2⟩
        · exact (callE (consE (varE (i := 0) (d := .ref 0) rfl) (consE (lstE (consE ((call1 (d := frD q) rfl).trans dn) (consE ((call1 (d := frD q) rfl).trans up) nilE))) nilE))).trans e2
        · simp only [List.mem_cons, List.not_mem_nil, or_false] at hy
          rcases hy with rfl | rfl
          · exact ⟨_, rfl, fl_lt hq⟩
          · exact ⟨_, rfl, ce_lt hq⟩)
    obtain ⟨bs, rfl, r2⟩ := L2R.pull (f := D.int) r1
    have hbl := r2.length
    have hb : ∀ i ∈ bs, i.natAbs < 2 ^ 20 := fun i hi => by
      obtain ⟨_, _, z⟩ := r2.all i hi
      exact z
    obtain ⟨c', y3, st2, e2, q1, q2, i2⟩ := ih (N + 4) st1 (c ++ [bs]) (some (.v (dayD d))) (i1.le (by omega)) (by omega) (by simp; omega) (fun x hx => hd x (List.mem_cons_of_mem _ hx)) (fun x hx => by
      rcases List.mem_append.mp hx with z | z
      · exact hc x z
      · rw [List.mem_singleton.mp z]; exact ⟨by omega, hb⟩)
    refine ⟨c', y3, st2, ?_, by rw [q1, List.length_append, List.length_cons]; simp; omega, q2, i2.le (by rw [List.length_cons]; omega)⟩
    have hs : evSs prg.tab (rn wf (n + 2)) wf (.cons (.app 2 (.blt .tuple (.lc (.call 17 (.cons (.var 0) (.cons (.lst (.cons (.call 18 (.cons (.var 4) .nil) []) (.cons (.call 19 (.cons (.var 4) .nil) []) .nil))) .nil)) []) [4] (.seq (.var 3)) .nil))) .nil) [some (.v (.ref 0)), x1, some (.own (c.map fun r => .tup (r.map .int))), some (.v (dayD d)), none] st = .nx [some (.v (.ref 0)), x1, some (.own ((c ++ [bs]).map fun r => .tup (r.map .int))), some (.v (dayD d)), none] st1 := by
      refine (ss_one (app_is (i := 2) (xs := c.map fun r => .tup (r.map .int)) (tupE e1) rfl (by rw [List.length_map]; omega))).trans ?_
      rw [List.map_append]
      rfl
    rw [List.map_cons, forR_nx (tg := [3]) (d := dayD d) rfl hs]
    exact e2
theorem coins_ {N : Nat} {st : Store} (hI : Inv N st) (hN : N < 60000) {s : Sheet} (o : OK s) : ∃ (c : List (List Int)) (st' : Store), rn wf (n + 3) 5 [.ref 0, shD s] st = .ok (coD c) st' ∧ c.length = s.ds.length ∧ (∀ x ∈ c, x.length = s.rs.length ∧ ∀ i ∈ x, i.natAbs < 2 ^ 20) ∧ Inv (N + 12) st' := by
  have d1 := o.d1
  obtain ⟨c, y3, st', e, h1, h2, i⟩ := coins_loop (wf := wf) (n := n) (x0 := some (.v (.ref 0))) (x1 := some (.v (shD s))) rfl o.r1 s.ds N st [] none hI (by omega) (by simp; omega) (fun d hd => ⟨o.dl d hd, o.dq d hd⟩) (fun _ h => nomatch h)
  refine ⟨c, st', ?_, by simpa using h1, h2, i.le (by omega)⟩
  rw [run_f (f := ⟨5, 2, b5, none, false⟩) rfl rfl rfl]
  show endF false (evSs prg.tab (rn wf (n + 2)) wf b5 [some (.v (.ref 0)), some (.v (shD s)), none, none, none] st) = _
  unfold b5
  rw [ss_nx (ρ1 := [some (.v (.ref 0)), some (.v (shD s)), some (.own []), none, none]) (st1 := st) rfl]
  exact (congrArg (endF false) (ss_for (xs := s.ds.map dayD) (st1 := st) (it_seq (.inr rfl)) e)).trans rfl
end
end K17

set_option exponentiation.threshold 5000
namespace K17
open Eng
/-! ### the sheets by hand -/
def hf : Rat := Rat.divInt 1 2
def sh1 : Sheet := ⟨[⟨"a", hf, 1, true⟩, ⟨"b", hf, 0, true⟩, ⟨"c", hf, 0, true⟩], [], [[0, hf, hf]]⟩
def sh2 : Sheet := ⟨[⟨"a", Rat.divInt 7 3, -4, true⟩, ⟨"b", Rat.divInt 9 1, 8, false⟩], [["a", "b"]], [[Rat.divInt 2 3, 0]]⟩
def sh3 : Sheet := ⟨[⟨"a", Rat.divInt 400000 1, 400000, true⟩, ⟨"b", Rat.divInt 999999 2, 500000, true⟩], [], [[0, hf]]⟩
theorem rgA : RG 0 82 (.str "a") := RG.str (m := 8) (by decide +kernel) (by decide +kernel) (okS_iff.mp (by decide +kernel))
theorem rgB : RG 0 82 (.str "b") := RG.str (m := 8) (by decide +kernel) (by decide +kernel) (okS_iff.mp (by decide +kernel))
theorem rgC : RG 0 82 (.str "c") := RG.str (m := 8) (by decide +kernel) (by decide +kernel) (okS_iff.mp (by decide +kernel))
theorem ok1 : OK sh1 := by
  refine ⟨by decide, by decide, by decide, ?_, ?_, ?_, fun _ h => nomatch h⟩
  · intro d hd
    rw [List.mem_singleton.mp hd]
    rfl
  · intro r hr
    simp only [sh1, List.mem_cons, List.not_mem_nil, or_false] at hr
    rcases hr with rfl | rfl | rfl
    · exact ⟨⟨by decide +kernel, by decide +kernel⟩, by decide +kernel, rgA⟩
    · exact ⟨⟨by decide +kernel, by decide +kernel⟩, by decide +kernel, rgB⟩
    · exact ⟨⟨by decide +kernel, by decide +kernel⟩, by decide +kernel, rgC⟩
  · intro d hd q hq
    rw [List.mem_singleton.mp hd] at hq
    simp only [List.mem_cons, List.not_mem_nil, or_false] at hq
    rcases hq with rfl | rfl | rfl <;> exact ⟨by decide +kernel, by decide +kernel⟩
theorem ok2 : OK sh2 := by
  refine ⟨by decide, by decide, by decide, ?_, ?_, ?_, ?_⟩
  · intro d hd
    rw [List.mem_singleton.mp hd]
    rfl
  · intro r hr
    simp only [sh2, List.mem_cons, List.not_mem_nil, or_false] at hr
    rcases hr with rfl | rfl
    · exact ⟨⟨by decide +kernel, by decide +kernel⟩, by decide +kernel, rgA⟩
    · exact ⟨⟨by decide +kernel, by decide +kernel⟩, by decide +kernel, rgB⟩
  · intro d hd q hq
    rw [List.mem_singleton.mp hd] at hq
    simp only [List.mem_cons, List.not_mem_nil, or_false] at hq
    rcases hq with rfl | rfl <;> exact ⟨by decide +kernel, by decide +kernel⟩
  · intro s hs
    rw [List.mem_singleton.mp hs]
    refine ⟨by decide, fun x hx => ?_⟩
    simp only [List.mem_cons, List.not_mem_nil, or_false] at hx
    rcases hx with rfl | rfl
    · exact rgA
    · exact rgB
theorem ok3 : OK sh3 := by
  refine ⟨by decide, by decide, by decide, ?_, ?_, ?_, fun _ h => nomatch h⟩
  · intro d hd
    rw [List.mem_singleton.mp hd]
    rfl
  · intro r hr
    simp only [sh3, List.mem_cons, List.not_mem_nil, or_false] at hr
    rcases hr with rfl | rfl
    · exact ⟨⟨by decide +kernel, by decide +kernel⟩, by decide +kernel, rgA⟩
    · exact ⟨⟨by decide +kernel, by decide +kernel⟩, by decide +kernel, rgB⟩
  · intro d hd q hq
    rw [List.mem_singleton.mp hd] at hq
    simp only [List.mem_cons, List.not_mem_nil, or_false] at hq
    rcases hq with rfl | rfl <;> exact ⟨by decide +kernel, by decide +kernel⟩
theorem co3 : CoOK sh3 [[0, 0]] := ⟨rfl, fun x hx => by rw [List.mem_singleton.mp hx]; rfl, fun x hx i hi => by
  rw [List.mem_singleton.mp hx] at hi
  simp only [List.mem_cons, List.not_mem_nil, or_false] at hi
  rcases hi with rfl | rfl <;> decide⟩
def w1 : D := .lst [.tup [.int 5, .int 2], .int 2, .int 3, .int 1]
def w2 : D := .lst [.tup [.int 12, .int 1], .int 12, .int 12, .int 4]
def w2' : D := .lst [.tup [.int 12, .int 1], .int 12, .int 12, .int 4, .tup [.int 9, .int 1], .tup [.int 2, .int 3], .int 0]
def w3 : D := .lst [.tup [.int 900000, .int 1], .int 900000, .int 900000, .tup [.int 500000, .int 1]]
theorem v1 : fouD sh1 (.acc 0) = w1 := by
  unfold fouD frD w1
  rw [show (exQ sh1 (.acc 0)).num = 5 by decide +kernel, show (exQ sh1 (.acc 0)).den = 2 by decide +kernel, show (exQ sh1 (.acc 0)).floor = 2 by decide +kernel, show ceilQ (exQ sh1 (.acc 0)) = 3 by decide +kernel, show fixC sh1 (.acc 0) = 1 by decide +kernel]
  rfl
theorem v2 : fouD sh2 (.acc 0) = w2 := by
  unfold fouD frD w2
  rw [show (exQ sh2 (.acc 0)).num = 12 by decide +kernel, show (exQ sh2 (.acc 0)).den = 1 by decide +kernel, show (exQ sh2 (.acc 0)).floor = 12 by decide +kernel, show ceilQ (exQ sh2 (.acc 0)) = 12 by decide +kernel, show fixC sh2 (.acc 0) = 4 by decide +kernel]
  rfl
theorem v3 : frD (exQ sh2 (.lin 1 0)) = .tup [.int 9, .int 1] := by
  unfold frD
  rw [show (exQ sh2 (.lin 1 0)).num = 9 by decide +kernel, show (exQ sh2 (.lin 1 0)).den = 1 by decide +kernel]
  rfl
theorem v4 : frD (exQ sh2 (.sec 0 0)) = .tup [.int 2, .int 3] := by
  unfold frD
  rw [show (exQ sh2 (.sec 0 0)).num = 2 by decide +kernel, show (exQ sh2 (.sec 0 0)).den = 3 by decide +kernel]
  rfl
theorem v5 : fixC sh2 (.day 0) = 0 := by decide +kernel
theorem v6 : frD (exQ sh3 (.acc 0)) = .tup [.int 900000, .int 1] := by
  unfold frD
  rw [show (exQ sh3 (.acc 0)).num = 900000 by decide +kernel, show (exQ sh3 (.acc 0)).den = 1 by decide +kernel]
  rfl
theorem v7 : frD (exQ sh3 (.lin 1 0)) = .tup [.int 500000, .int 1] := by
  unfold frD
  rw [show (exQ sh3 (.lin 1 0)).num = 500000 by decide +kernel, show (exQ sh3 (.lin 1 0)).den = 1 by decide +kernel]
  rfl
theorem v8 : fixC sh3 (.acc 0) = 900000 := by decide +kernel
theorem v9 : cenC sh3 [[0, 0]] (.acc 0) = 900000 := by decide +kernel
theorem rgI {i : Int} (h : i.natAbs < 2 ^ 40) : RG 1 93 (.int i) := (RG.int h (by decide)).le (by decide) (by decide)
theorem rgP {i j : Int} (h : i.natAbs < 2 ^ 40) (h2 : j.natAbs < 2 ^ 40) : RG 1 93 (.tup [.int i, .int j]) := by
  refine RG.tup (h := 0) (k := 43) (m := 2) (fun d hd => ?_) (Nat.le_refl _)
  simp only [List.mem_cons, List.not_mem_nil, or_false] at hd
  rcases hd with rfl | rfl
  · exact RG.int h (by decide)
  · exact RG.int h2 (by decide)
theorem g1 : RG 2 1000 w1 := by
  refine (RG.lst (h := 1) (k := 93) (m := 7) (xs := [.tup [.int 5, .int 2], .int 2, .int 3, .int 1]) (fun d hd => ?_) (by decide)).le (by decide) (by decide)
  simp only [List.mem_cons, List.not_mem_nil, or_false] at hd
  rcases hd with rfl | rfl | rfl | rfl
  · exact rgP (by decide) (by decide)
  · exact rgI (by decide)
  · exact rgI (by decide)
  · exact rgI (by decide)
theorem g2 : RG 2 1000 w2' := by
  refine (RG.lst (h := 1) (k := 93) (m := 7) (xs := [.tup [.int 12, .int 1], .int 12, .int 12, .int 4, .tup [.int 9, .int 1], .tup [.int 2, .int 3], .int 0]) (fun d hd => ?_) (by decide)).le (by decide) (by decide)
  simp only [List.mem_cons, List.not_mem_nil, or_false] at hd
  rcases hd with rfl | rfl | rfl | rfl | rfl | rfl | rfl
  · exact rgP (by decide) (by decide)
  · exact rgI (by decide)
  · exact rgI (by decide)
  · exact rgI (by decide)
  · exact rgP (by decide) (by decide)
  · exact rgP (by decide) (by decide)
  · exact rgI (by decide)
theorem g3 : RG 2 1000 w3 := by
  refine (RG.lst (h := 1) (k := 93) (m := 7) (xs := [.tup [.int 900000, .int 1], .int 900000, .int 900000, .tup [.int 500000, .int 1]]) (fun d hd => ?_) (by decide)).le (by decide) (by decide)
  simp only [List.mem_cons, List.not_mem_nil, or_false] at hd
  rcases hd with rfl | rfl | rfl | rfl
  · exact rgP (by decide) (by decide)
  · exact rgI (by decide)
  · exact rgI (by decide)
  · exact rgP (by decide) (by decide)
section
variable {wf n : Nat} {st : Store}
theorem four_ (hwf : 2 ^ 4096 ≤ wf) {s : Sheet} {p : Pl} (o : OK s) (h : p.ok s) {ρ : Env} {i j : Nat} (hi : slotV ρ i = some (shD s)) (hj : slotV ρ j = some (plD p)) : ev prg.tab (rn wf (n + 6)) (.lst (.cons (.call 8 (.cons (.var i) (.cons (.var j) .nil)) []) (.cons (.call 9 (.cons (.var i) (.cons (.var j) .nil)) []) (.cons (.call 10 (.cons (.var i) (.cons (.var j) .nil)) []) (.cons (.call 11 (.cons (.var i) (.cons (.var j) .nil)) []) .nil))))) ρ st = .ok (fouD s p) st := by
  have a1 := exact_of (n := n) (st := st) hwf o h
  have a2 := least_of (n := n) (st := st) hwf o h
  have a3 := most_of (n := n) (st := st) hwf o h
  have a4 : rn wf (n + 6) 11 [shD s, plD p] st = .ok (.int (fixC s p)) st := fixed_of (wf := wf) (n := n + 4) (st := st) o h
  exact lstE (consE ((call2 hi hj).trans a1) (consE ((call2 hi hj).trans a2) (consE ((call2 hi hj).trans a3) (consE ((call2 hi hj).trans a4) nilE))))
theorem hand_ (hwf : 2 ^ 4096 ≤ wf) : rn wf (n + 7) 2 [] st = .ok (.bl true) st := by
  rw [run_f (f := ⟨9, 0, b2, none, false⟩) rfl rfl rfl]
  show endF false (evSs prg.tab (rn wf (n + 6)) wf b2 [none, none, none, none, none, none, none, none, none] st) = _
  unfold b2
  have p10 : (Pl.acc 0).ok sh1 := (by decide : 0 < 1)
  have p20 : (Pl.acc 0).ok sh2 := (by decide : 0 < 1)
  have p21 : (Pl.lin 1 0).ok sh2 := ⟨(by decide : 1 < 2), (by decide : 0 < 1)⟩
  have p22 : (Pl.sec 0 0).ok sh2 := ⟨(by decide : 0 < 1), (by decide : 0 < 1)⟩
  have p23 : (Pl.day 0).ok sh2 := (by decide : 0 < 1)
  have p30 : (Pl.acc 0).ok sh3 := (by decide : 0 < 1)
  have p31 : (Pl.lin 1 0).ok sh3 := ⟨(by decide : 1 < 2), (by decide : 0 < 1)⟩
  have r1 := repr_ok (st := st) g1 rfl (by decide) (by decide)
  have r2 := repr_ok (st := st) g2 rfl (by decide) (by decide)
  have r3 := repr_ok (st := st) g3 rfl (by decide) (by decide)
  have hd1 : shD sh1 = .tup [.tup [.tup [.str "a", .tup [.int 1, .int 2], .int 1, .bl true], .tup [.str "b", .tup [.int 1, .int 2], .int 0, .bl true], .tup [.str "c", .tup [.int 1, .int 2], .int 0, .bl true]], .tup [], .tup [.tup [.tup [.int 0, .int 1], .tup [.int 1, .int 2], .tup [.int 1, .int 2]]]] := rfl
  have hd2 : shD sh2 = .tup [.tup [.tup [.str "a", .tup [.int 7, .int 3], .int (-4), .bl true], .tup [.str "b", .tup [.int 9, .int 1], .int 8, .bl false]], .tup [.tup [.str "a", .str "b"]], .tup [.tup [.tup [.int 2, .int 3], .tup [.int 0, .int 1]]]] := rfl
  have hd3 : shD sh3 = .tup [.tup [.tup [.str "a", .tup [.int 400000, .int 1], .int 400000, .bl true], .tup [.str "b", .tup [.int 999999, .int 2], .int 500000, .bl true]], .tup [], .tup [.tup [.tup [.int 0, .int 1], .tup [.int 1, .int 2]]]] := rfl
  rw [ss_nx (ρ1 := [none, none, none, none, none, some (.v (.tup [.int 1, .int 2])), some (.v (.tup [.int 0, .int 1])), none, none]) (st1 := st) rfl]
  rw [ss_nx (ρ1 := [some (.v (.tup [.tup [.str "a", .tup [.int 1, .int 2], .int 1, .bl true], .tup [.str "b", .tup [.int 1, .int 2], .int 0, .bl true], .tup [.str "c", .tup [.int 1, .int 2], .int 0, .bl true]])), none, none, none, none, some (.v (.tup [.int 1, .int 2])), some (.v (.tup [.int 0, .int 1])), none, none]) (st1 := st) rfl]
  rw [ss_nx (ρ1 := [some (.v (.tup [.tup [.str "a", .tup [.int 1, .int 2], .int 1, .bl true], .tup [.str "b", .tup [.int 1, .int 2], .int 0, .bl true], .tup [.str "c", .tup [.int 1, .int 2], .int 0, .bl true]])), none, none, some (.v (plD (.acc 0))), none, some (.v (.tup [.int 1, .int 2])), some (.v (.tup [.int 0, .int 1])), some (.v (shD sh1)), none]) (st1 := st) rfl]
  generalize D.tup [.tup [.str "a", .tup [.int 1, .int 2], .int 1, .bl true], .tup [.str "b", .tup [.int 1, .int 2], .int 0, .bl true], .tup [.str "c", .tup [.int 1, .int 2], .int 0, .bl true]] = h0
  have f1 := four_ (n := n) (st := st) hwf ok1 p10 (ρ := [some (.v h0), none, none, some (.v (plD (.acc 0))), none, some (.v (.tup [.int 1, .int 2])), some (.v (.tup [.int 0, .int 1])), some (.v (shD sh1)), none]) (i := 7) (j := 3) rfl rfl
  rw [v1] at f1
  rw [ss_nx (setS f1 (Nat.le_of_ble_eq_true rfl))]
  have t1 := tstE (cmpE (T := prg.tab) (call := rn wf (n + 6)) (op := .ne) (ρ := [some (.v h0), some (.v w1), none, some (.v (plD (.acc 0))), none, some (.v (.tup [.int 1, .int 2])), some (.v (.tup [.int 0, .int 1])), some (.v (shD sh1)), none]) (b := .repr (.lst (.cons (.tup (.cons (.int 5) (.cons (.int 2) .nil))) (.cons (.int 2) (.cons (.int 3) (.cons (.int 1) .nil)))))) (reprE (varE (i := 1) rfl) r1) (reprE (d := w1) rfl r1) (cmp_neS _ _ (shown_ok g1) st))
  refine (congrArg (endF false) (ss_ifF t1)).trans ?_
  refine (congrArg (endF false) (ss_nx (ρ1 := [some (.v h0), some (.v w1), some (.v (shD sh2)), some (.v (plD (.acc 0))), none, some (.v (.tup [.int 1, .int 2])), some (.v (.tup [.int 0, .int 1])), some (.v (shD sh1)), none]) (st1 := st) rfl)).trans ?_
  refine (congrArg (endF false) (ss_nx (ρ1 := [some (.v h0), some (.v w1), some (.v (shD sh2)), some (.v (plD (.acc 0))), none, some (.v (.tup [.int 1, .int 2])), some (.v (.tup [.int 0, .int 1])), some (.v (shD sh1)), none]) (st1 := st) rfl)).trans ?_
  have f2 := four_ (n := n) (st := st) hwf ok2 p20 (ρ := [some (.v h0), some (.v w1), some (.v (shD sh2)), some (.v (plD (.acc 0))), none, some (.v (.tup [.int 1, .int 2])), some (.v (.tup [.int 0, .int 1])), some (.v (shD sh1)), none]) (i := 2) (j := 3) rfl rfl
  rw [v2] at f2
  refine (congrArg (endF false) (ss_nx (setS f2 (Nat.le_of_ble_eq_true rfl)))).trans ?_
  have b1 : rn wf (n + 6) 8 [shD sh2, plD (.lin 1 0)] st = .ok (.tup [.int 9, .int 1]) st := (exact_of (n := n) (st := st) hwf ok2 p21).trans (by rw [v3])
  have b2' : rn wf (n + 6) 8 [shD sh2, plD (.sec 0 0)] st = .ok (.tup [.int 2, .int 3]) st := (exact_of (n := n) (st := st) hwf ok2 p22).trans (by rw [v4])
  have b3 : rn wf (n + 6) 11 [shD sh2, plD (.day 0)] st = .ok (.int 0) st := (fixed_of (wf := wf) (n := n + 4) (st := st) ok2 p23).trans (by rw [v5])
  have f3 : ev prg.tab (rn wf (n + 6)) (.bin .add (.var 1) (.lst (.cons (.call 8 (.cons (.var 2) (.cons (.tup (.cons (.str "line") (.cons (.int 1) (.cons (.int 0) .nil)))) .nil)) []) (.cons (.call 8 (.cons (.var 2) (.cons (.tup (.cons (.str "section") (.cons (.int 0) (.cons (.int 0) .nil)))) .nil)) []) (.cons (.call 11 (.cons (.var 2) (.cons (.tup (.cons (.str "day") (.cons (.int 0) .nil))) .nil)) []) .nil))))) [some (.v h0), some (.v w2), some (.v (shD sh2)), some (.v (plD (.acc 0))), none, some (.v (.tup [.int 1, .int 2])), some (.v (.tup [.int 0, .int 1])), some (.v (shD sh1)), none] st = .ok w2' st := by
    rw [ev, varE (i := 1) (d := w2) rfl, Res.bind_ok, lstE (consE ((callE (consE (varE (i := 2) (d := shD sh2) rfl) (consE (d := plD (.lin 1 0)) rfl nilE))).trans b1) (consE ((callE (consE (varE (i := 2) (d := shD sh2) rfl) (consE (d := plD (.sec 0 0)) rfl nilE))).trans b2') (consE ((callE (consE (varE (i := 2) (d := shD sh2) rfl) (consE (d := plD (.day 0)) rfl nilE))).trans b3) nilE))), Res.bind_ok]
    rfl
  refine (congrArg (endF false) (ss_nx (setS f3 (Nat.le_of_ble_eq_true rfl)))).trans ?_
  have t2 := tstE (cmpE (T := prg.tab) (call := rn wf (n + 6)) (op := .ne) (ρ := [some (.v h0), some (.v w2'), some (.v (shD sh2)), some (.v (plD (.acc 0))), none, some (.v (.tup [.int 1, .int 2])), some (.v (.tup [.int 0, .int 1])), some (.v (shD sh1)), none]) (b := .repr (.lst (.cons (.tup (.cons (.int 12) (.cons (.int 1) .nil))) (.cons (.int 12) (.cons (.int 12) (.cons (.int 4) (.cons (.tup (.cons (.int 9) (.cons (.int 1) .nil))) (.cons (.tup (.cons (.int 2) (.cons (.int 3) .nil))) (.cons (.int 0) .nil))))))))) (reprE (varE (i := 1) rfl) r2) (reprE (d := w2') rfl r2) (cmp_neS _ _ (shown_ok g2) st))
  refine (congrArg (endF false) (ss_ifF t2)).trans ?_
  refine (congrArg (endF false) (ss_nx (ρ1 := [some (.v h0), some (.v w2'), some (.v (shD sh2)), some (.v (plD (.acc 0))), some (.v (shD sh3)), some (.v (.tup [.int 1, .int 2])), some (.v (.tup [.int 0, .int 1])), some (.v (shD sh1)), none]) (st1 := st) rfl)).trans ?_
  have c1 : rn wf (n + 6) 8 [shD sh3, plD (.acc 0)] st = .ok (.tup [.int 900000, .int 1]) st := (exact_of (n := n) (st := st) hwf ok3 p30).trans (by rw [v6])
  have c2 : rn wf (n + 6) 11 [shD sh3, plD (.acc 0)] st = .ok (.int 900000) st := (fixed_of (wf := wf) (n := n + 4) (st := st) ok3 p30).trans (by rw [v8])
  have c3 : rn wf (n + 6) 12 [shD sh3, coD [[0, 0]], plD (.acc 0)] st = .ok (.int 900000) st := (cents_of (wf := wf) (n := n + 3) (st := st) ok3 co3 p30).trans (by rw [v9])
  have c4 : rn wf (n + 6) 8 [shD sh3, plD (.lin 1 0)] st = .ok (.tup [.int 500000, .int 1]) st := (exact_of (n := n) (st := st) hwf ok3 p31).trans (by rw [v7])
  have f4 : ev prg.tab (rn wf (n + 6)) (.lst (.cons (.call 8 (.cons (.var 4) (.cons (.var 3) .nil)) []) (.cons (.call 11 (.cons (.var 4) (.cons (.var 3) .nil)) []) (.cons (.call 12 (.cons (.var 4) (.cons (.tup (.cons (.tup (.cons (.int 0) (.cons (.int 0) .nil))) .nil)) (.cons (.var 3) .nil))) []) .nil)))) [some (.v h0), some (.v w2'), some (.v (shD sh2)), some (.v (plD (.acc 0))), some (.v (shD sh3)), some (.v (.tup [.int 1, .int 2])), some (.v (.tup [.int 0, .int 1])), some (.v (shD sh1)), none] st = .ok (.lst [.tup [.int 900000, .int 1], .int 900000, .int 900000]) st :=
    lstE (consE ((call2 (d := shD sh3) (d2 := plD (.acc 0)) rfl rfl).trans c1) (consE ((call2 (d := shD sh3) (d2 := plD (.acc 0)) rfl rfl).trans c2) (consE ((callE (consE (varE (i := 4) (d := shD sh3) rfl) (consE (d := coD [[0, 0]]) rfl (consE (varE (i := 3) (d := plD (.acc 0)) rfl) nilE)))).trans c3) nilE)))
  have s4 : evS prg.tab (rn wf (n + 6)) wf (.own 1 (.lst (.cons (.call 8 (.cons (.var 4) (.cons (.var 3) .nil)) []) (.cons (.call 11 (.cons (.var 4) (.cons (.var 3) .nil)) []) (.cons (.call 12 (.cons (.var 4) (.cons (.tup (.cons (.tup (.cons (.int 0) (.cons (.int 0) .nil))) .nil)) (.cons (.var 3) .nil))) []) .nil))))) [some (.v h0), some (.v w2'), some (.v (shD sh2)), some (.v (plD (.acc 0))), some (.v (shD sh3)), some (.v (.tup [.int 1, .int 2])), some (.v (.tup [.int 0, .int 1])), some (.v (shD sh1)), none] st = .nx [some (.v h0), some (.own [.tup [.int 900000, .int 1], .int 900000, .int 900000]), some (.v (shD sh2)), some (.v (plD (.acc 0))), some (.v (shD sh3)), some (.v (.tup [.int 1, .int 2])), some (.v (.tup [.int 0, .int 1])), some (.v (shD sh1)), none] st := by
    rw [evS, f4, Res.fl_ok]
    rfl
  refine (congrArg (endF false) (ss_nx s4)).trans ?_
  have s5 := app_is (T := prg.tab) (call := rn wf (n + 6)) (wf := wf) (i := 1) (ρ := [some (.v h0), some (.own [.tup [.int 900000, .int 1], .int 900000, .int 900000]), some (.v (shD sh2)), some (.v (plD (.acc 0))), some (.v (shD sh3)), some (.v (.tup [.int 1, .int 2])), some (.v (.tup [.int 0, .int 1])), some (.v (shD sh1)), none]) (xs := [.tup [.int 900000, .int 1], .int 900000, .int 900000]) ((callE (consE (varE (i := 4) (d := shD sh3) rfl) (consE (d := plD (.lin 1 0)) (c := .tup (.cons (.str "line") (.cons (.int 1) (.cons (.int 0) .nil)))) rfl nilE))).trans c4) rfl (by decide)
  refine (congrArg (endF false) (ss_nx s5)).trans ?_
  refine (congrArg (endF false) (ss_nx (ρ1 := [some (.v h0), some (.v w3), some (.v (shD sh2)), some (.v (plD (.acc 0))), some (.v (shD sh3)), some (.v (.tup [.int 1, .int 2])), some (.v (.tup [.int 0, .int 1])), some (.v (shD sh1)), none]) (st1 := st) rfl)).trans ?_
  exact (congrArg (endF false) (ret1 (cmpE (reprE (varE (i := 1) (d := w3) rfl) r3) (reprE (d := w3) rfl r3) (cmp_eqS _ _ (shown_ok g3) st)))).trans rfl
end
end K17

set_option exponentiation.threshold 5000
namespace K17
open Eng
theorem feed_ {wf n : Nat} (ns : List Int) : rn wf (n + 1) 1 [.lst (ns.map .int)] [] = .ok (.ref 0) (rdr ((ns.take 63).map .int) 0 0 0) := by
  rw [run_f (f := ⟨1, 1, b1, none, false⟩) rfl rfl rfl]
  show endF false (evSs prg.tab (rn wf n) wf b1 [some (.v (.lst (ns.map .int)))] []) = _
  unfold b1
  have e : cutD (ns.map D.int) none (some 63) = (ns.take 63).map .int := by
    unfold cutD cutAt
    simp only [List.drop_zero, Nat.sub_zero]
    rw [if_neg (by decide), List.map_take, List.length_map]
    rw [show (63 : Int).toNat = 63 from rfl, ← List.length_map (f := D.int), List.take_eq_take_min]
    simp only [List.length_map]
    rw [Nat.min_comm 63, List.take_eq_take_iff]
    simp
    exact Nat.min_comm ..
  simp [evSs, evS, ev, evs, slotV, Res.fl, Res.bind, slD, C.isNon, bndD, e, bltD, dictD, endF, rdr]
theorem laps_ {wf n : Nat} (ns : List Int) (st : Store) : ∃ k : Nat, k ≤ 4 ∧ rn wf (n + 1) 3 [.lst (ns.map .int), .int 4] st = .ok (.int (k : Nat)) st := by
  rw [run_f (f := ⟨2, 2, b3, none, false⟩) rfl rfl rfl]
  show ∃ k : Nat, k ≤ 4 ∧ endF false (evSs prg.tab (rn wf n) wf b3 [some (.v (.lst (ns.map .int))), some (.v (.int 4))] st) = _
  have t := cmpE (T := prg.tab) (call := rn wf n) (op := .ne) (ρ := [some (.v (.lst (ns.map .int))), some (.v (.int 4))]) (varE (i := 0) (d := .lst (ns.map .int)) rfl) (b := .lst .nil) (y := .lst []) rfl (ne_nil (rn wf n) ns st)
  cases h : ns.isEmpty with
  | true =>
    rw [h] at t
    refine ⟨1, by decide, ?_⟩
    unfold b3
    rw [ret1 (d := .int 1) (st1 := st) (by rw [ev, t]; rfl)]
    rfl
  | false =>
    rw [h] at t
    refine ⟨4, by decide, ?_⟩
    unfold b3
    rw [ret1 (d := .int 4) (st1 := st) (by rw [ev, t]; rfl)]
    rfl
section
variable {wf n : Nat}
abbrev elG : C := .bin .add (.var 7) (.bin .mul (.bin .mul (.int 9) (.bin .pow (.int 10) (.int 5))) (.call 7 (.cons (.var 1) (.cons (.int 2) .nil)) []))
theorem great_ {N : Nat} {st : Store} (hI : Inv N st) (hN : N < 60000) {x0 x2 x3 x5 x6 x7 x8 : Option Slot} {c : List (List Int)} {m : Nat} (hm : m ≤ 4) (hl : c.length ≤ 3) (hc : ∀ x ∈ c, x.length = m ∧ ∀ i ∈ x, i.natAbs < 2 ^ 20) : ∃ (c' : List (List Int)) (st' : Store), ev prg.tab (rn wf (n + 1)) (.blt .tuple (.lc (.blt .tuple (.lc elG [7] (.seq (.var 6)) .nil)) [6] (.seq (.var 4)) .nil)) [x0, some (.v (.ref 0)), x2, x3, some (.v (coD c)), x5, x6, x7, x8] st = .ok (coD c') st' ∧ c'.length = c.length ∧ (∀ x ∈ c', x.length = m ∧ ∀ i ∈ x, i.natAbs < 2 ^ 40) ∧ Inv (N + 12) st' := by
  obtain ⟨ys, st1, e1, r1, i1⟩ := lc_cnt (T := prg.tab) (call := rn wf (n + 1)) (elt := .blt .tuple (.lc elG [7] (.seq (.var 6)) .nil)) (tg := [6]) (it := .seq (.var 4)) (ρ := [x0, some (.v (.ref 0)), x2, x3, some (.v (coD c)), x5, x6, x7, x8]) (st := st) (st1 := st)
    (fun r : List Int => D.tup (r.map .int)) c (R := fun r y => ∃ b : List Int, y = (fun r : List Int => D.tup (r.map .int)) b ∧ (b.length = m ∧ ∀ i ∈ b, i.natAbs < 2 ^ 40)) (J := fun j st => Inv (N + 4 * j) st) (it_seq (.inr (varE (i := 4) (d := coD c) rfl))) (by omega) hI (fun j r hj st hst => by
      have hjl : j < c.length := (List.getElem?_eq_some_iff.mp hj).1
      obtain ⟨hr1, hr2⟩ := hc r (List.mem_of_getElem? hj)
      obtain ⟨zs, st2, e2, r2, i2⟩ := lc_cnt (T := prg.tab) (call := rn wf (n + 1)) (elt := elG) (tg := [7]) (it := .seq (.var 6)) (ρ := [x0, some (.v (.ref 0)), x2, x3, some (.v (coD c)), x5, some (.v (.tup (r.map .int))), x7, x8]) (st := st) (st1 := st)
        D.int r (R := fun _ y => ∃ i : Int, y = .int i ∧ i.natAbs < 2 ^ 40) (J := fun k st => Inv (N + 4 * j + k) st) (it_seq (.inr (varE (i := 6) (d := .tup (r.map .int)) rfl))) (by omega) hst (fun k a hk st hst => by
          have hkl : k < r.length := (List.getElem?_eq_some_iff.mp hk).1
          have ha := hr2 a (List.mem_of_getElem? hk)
          obtain ⟨y, st3, e3, h0, h1, i3⟩ := draw_ (wf := wf) (n := n) hst (by omega) (m := 2) (by omega) (by omega)
          refine ⟨[x0, some (.v (.ref 0)), x2, x3, some (.v (coD c)), x5, some (.v (.tup (r.map .int))), some (.v (.int a)), x8], .int (a + 900000 * y), st3, rfl, ?_, ⟨_, rfl, ?_⟩, i3⟩
          · have ec := (callE (T := prg.tab) (call := rn wf (n + 1)) (j := 7) (ρ := [x0, some (.v (.ref 0)), x2, x3, some (.v (coD c)), x5, some (.v (.tup (r.map .int))), some (.v (.int a)), x8]) (consE (varE (i := 1) (d := .ref 0) rfl) (consE (d := .int 2) (c := .int 2) (st1 := st) rfl nilE))).trans e3
            have em : ev prg.tab (rn wf (n + 1)) (.bin .mul (.bin .mul (.int 9) (.bin .pow (.int 10) (.int 5))) (.call 7 (.cons (.var 1) (.cons (.int 2) .nil)) [])) [x0, some (.v (.ref 0)), x2, x3, some (.v (coD c)), x5, some (.v (.tup (r.map .int))), some (.v (.int a)), x8] st = .ok (.int (900000 * y)) st3 := by
              rw [ev, show ev prg.tab (rn wf (n + 1)) (.bin .mul (.int 9) (.bin .pow (.int 10) (.int 5))) [x0, some (.v (.ref 0)), x2, x3, some (.v (coD c)), x5, some (.v (.tup (r.map .int))), some (.v (.int a)), x8] st = .ok (.int 900000) st from rfl, Res.bind_ok, ec, Res.bind_ok, binI', mulI' (wideB (by decide)) (wideB (by omega))]
            rw [ev, varE (i := 7) (d := .int a) rfl, Res.bind_ok, em, Res.bind_ok]
            rfl
          · have : (2 : Nat) ^ 20 = 1048576 := by decide
            have : (2 : Nat) ^ 40 = 1099511627776 := by decide
            omega)
      obtain ⟨bs, rfl, r3⟩ := L2R.pull (f := D.int) r2
      have hbl := r3.length
      refine ⟨[x0, some (.v (.ref 0)), x2, x3, some (.v (coD c)), x5, some (.v (.tup (r.map .int))), x7, x8], .tup (bs.map .int), st2, rfl, tupE e2, ⟨bs, rfl, by omega, fun i hi => ?_⟩, i2.le (by omega)⟩
      obtain ⟨_, _, z⟩ := r3.all i hi
      exact z)
  obtain ⟨c', rfl, r2⟩ := L2R.pull r1
  have hbl := r2.length
  refine ⟨c', st1, tupE e1, by omega, fun x hx => ?_, i1.le (by omega)⟩
  obtain ⟨_, _, z⟩ := r2.all x hx
  exact z
abbrev bLap : Ss := (.cons (.set 3 (.call 4 (.cons (.var 1) (.cons (.int 4) (.cons (.int 3) (.cons (.cmp .eq (.var 2) (.int 3)) .nil)))) []))
  (.cons (.set 4 (.call 5 (.cons (.var 1) (.cons (.var 3) .nil)) []))
  (.cons (.ite (.not (.call 6 (.cons (.var 3) (.cons (.var 4) .nil)) [])) (.cons (.ret (.bl false))
  .nil) .nil)
  (.cons (.set 5 (.blt .tuple (.lc (.blt .tuple (.lc elG [7] (.seq (.var 6)) .nil)) [6] (.seq (.var 4)) .nil)))
  (.cons (.ite (.not (.call 6 (.cons (.var 3) (.cons (.var 5) .nil)) [])) (.cons (.ret (.bl false))
  .nil) .nil)
  .nil)))))
theorem notE {T : Tab} {call : Nat → List D → Store → Res D} {e : C} {ρ : Env} {b : Bool} {st st1 : Store} (h : ev T call e ρ st = .ok (.bl b) st1) : evT T call (.not e) ρ st = .ok (!b) st1 := by
  refine tstE ?_
  rw [ev, h]
  rfl
theorem lap_ (hwf : 2 ^ 4096 ≤ wf) {N : Nat} {st : Store} (hI : Inv N st) (hN : N < 40000) {x0 x3 x4 x5 : Option Slot} (i : Nat) : ∃ (y3 y4 y5 : Option Slot) (st' : Store), evSs prg.tab (rn wf (n + 7)) wf bLap [x0, some (.v (.ref 0)), some (.v (.int (i : Nat))), x3, x4, x5, none, none, none] st = .nx [x0, some (.v (.ref 0)), some (.v (.int (i : Nat))), y3, y4, y5, none, none, none] st' ∧ Inv (N + 300) st' := by
  obtain ⟨s, st1, e1, o, i1⟩ := case_ (wf := wf) (n := n + 2) hwf hI (by omega) (((i : Nat) : Int) == 3)
  have e1 : rn wf (n + 7) 4 [.ref 0, .int 4, .int 3, .bl (((i : Nat) : Int) == 3)] st = .ok (shD s) st1 := e1
  obtain ⟨c, st2, e2, c1, c2, i2⟩ := coins_ (wf := wf) (n := n + 4) i1 (by omega) o
  have e2 : rn wf (n + 7) 5 [.ref 0, shD s] st1 = .ok (coD c) st2 := e2
  have k1 : CoOK s c := ⟨c1, fun x hx => (c2 x hx).1, fun x hx i hi => Nat.lt_of_lt_of_le ((c2 x hx).2 i hi) (by decide)⟩
  have e3 := agrees_ (n := n) (st := st2) hwf o k1
  have d1 := o.d1
  obtain ⟨g, st3, e4, g1, g2, i3⟩ := great_ (wf := wf) (n := n + 6) i2 (by omega) (x0 := x0) (x2 := some (.v (.int (i : Nat)))) (x3 := some (.v (shD s))) (x5 := x5) (x6 := none) (x7 := none) (x8 := none) (c := c) o.r1 (by omega) c2
  have k2 : CoOK s g := ⟨by omega, fun x hx => (g2 x hx).1, fun x hx => (g2 x hx).2⟩
  have e5 := agrees_ (n := n) (st := st3) hwf o k2
  refine ⟨some (.v (shD s)), some (.v (coD c)), some (.v (coD g)), st3, ?_, i3.le (by omega)⟩
  have s1 : evS prg.tab (rn wf (n + 7)) wf (.set 3 (.call 4 (.cons (.var 1) (.cons (.int 4) (.cons (.int 3) (.cons (.cmp .eq (.var 2) (.int 3)) .nil)))) [])) [x0, some (.v (.ref 0)), some (.v (.int (i : Nat))), x3, x4, x5, none, none, none] st = .nx [x0, some (.v (.ref 0)), some (.v (.int (i : Nat))), some (.v (shD s)), x4, x5, none, none, none] st1 :=
    setS ((callE (consE (varE (i := 1) (d := .ref 0) rfl) (consE (d := .int 4) (c := .int 4) rfl (consE (d := .int 3) (c := .int 3) rfl (consE (cmpE (varE (i := 2) (d := .int (i : Nat)) rfl) (y := .int 3) rfl (by simp [cmpD, eqR, plain, deep, eqD])) nilE))))).trans e1) (Nat.le_of_ble_eq_true rfl)
  have s2 : evS prg.tab (rn wf (n + 7)) wf (.set 4 (.call 5 (.cons (.var 1) (.cons (.var 3) .nil)) [])) [x0, some (.v (.ref 0)), some (.v (.int (i : Nat))), some (.v (shD s)), x4, x5, none, none, none] st1 = .nx [x0, some (.v (.ref 0)), some (.v (.int (i : Nat))), some (.v (shD s)), some (.v (coD c)), x5, none, none, none] st2 :=
    setS ((call2 (d := .ref 0) (d2 := shD s) rfl rfl).trans e2) (Nat.le_of_ble_eq_true rfl)
  refine (ss_nx s1).trans ((ss_nx s2).trans ((ss_ifF (notE ((call2 (d := shD s) (d2 := coD c) rfl rfl).trans e3))).trans ((ss_nx (setS e4 (Nat.le_of_ble_eq_true rfl))).trans ((ss_ifF (notE ((call2 (d := shD s) (d2 := coD g) rfl rfl).trans e5))).trans ?_))))
  exact ss_end
theorem laps_loop (hwf : 2 ^ 4096 ≤ wf) {x0 : Option Slot} (k : List Nat) : ∀ (N : Nat) (st : Store) (x2 x3 x4 x5 : Option Slot), Inv N st → N + 300 * k.length < 40000 → ∃ (y2 y3 y4 y5 : Option Slot) (st' : Store), forR [2] (evSs prg.tab (rn wf (n + 7)) wf bLap) (k.map fun i => D.int (i : Nat)) [x0, some (.v (.ref 0)), x2, x3, x4, x5, none, none, none] st = .nx [x0, some (.v (.ref 0)), y2, y3, y4, y5, none, none, none] st' := by
  induction k with
  | nil => intro N st x2 x3 x4 x5 _ _; exact ⟨x2, x3, x4, x5, st, rfl⟩
  | cons i k ih =>
    intro N st x2 x3 x4 x5 hI hN
    rw [List.length_cons] at hN
    obtain ⟨y3, y4, y5, st1, e1, i1⟩ := lap_ (wf := wf) (n := n) hwf hI (by omega) (x0 := x0) (x3 := x3) (x4 := x4) (x5 := x5) i
    obtain ⟨z2, z3, z4, z5, st2, e2⟩ := ih (N + 300) st1 (some (.v (.int (i : Nat)))) y3 y4 y5 i1 (by omega)
    refine ⟨z2, z3, z4, z5, st2, ?_⟩
    rw [List.map_cons, forR_nx (tg := [2]) (d := D.int (i : Nat)) rfl e1]
    exact e2
theorem told' (hwf : 2 ^ 4096 ≤ wf) (ns : List Int) : ∃ st', rn wf (n + 8) 0 [.lst (ns.map .int)] [] = .ok (.bl true) st' := by
  rw [run_f (f := ⟨9, 1, b0, none, false⟩) rfl rfl rfl]
  show ∃ st', endF false (evSs prg.tab (rn wf (n + 7)) wf b0 [some (.v (.lst (ns.map .int))), none, none, none, none, none, none, none, none] []) = _
  have e1 : rn wf (n + 7) 1 [.lst (ns.map .int)] [] = .ok (.ref 0) (rdr ((ns.take 63).map .int) 0 0 0) := feed_ (wf := wf) (n := n + 6) ns
  generalize hst : rdr ((ns.take 63).map .int) 0 0 0 = st0 at e1
  have I0 : Inv 0 st0 := ⟨ns.take 63, 0, 0, 0, hst.symm, by decide, by decide⟩
  have s1 : evS prg.tab (rn wf (n + 7)) wf (.set 1 (.call 1 (.cons (.var 0) .nil) [])) [some (.v (.lst (ns.map .int))), none, none, none, none, none, none, none, none] [] = .nx [some (.v (.lst (ns.map .int))), some (.v (.ref 0)), none, none, none, none, none, none, none] st0 := setS ((call1 (d := .lst (ns.map .int)) rfl).trans e1) (Nat.le_of_ble_eq_true rfl)
  have e2 := hand_ (n := n) (st := st0) hwf
  have t2 : evT prg.tab (rn wf (n + 7)) (.not (.call 2 .nil [])) [some (.v (.lst (ns.map .int))), some (.v (.ref 0)), none, none, none, none, none, none, none] st0 = .ok false st0 := notE ((callE nilE).trans e2)
  obtain ⟨k, hk, e3⟩ := laps_ (wf := wf) (n := n + 6) ns st0
  have e3 : rn wf (n + 7) 3 [.lst (ns.map .int), .int 4] st0 = .ok (.int (k : Nat)) st0 := e3
  obtain ⟨y2, y3, y4, y5, st', lp⟩ := laps_loop (wf := wf) (n := n) hwf (x0 := some (.v (.lst (ns.map .int)))) (List.range k) 0 st0 none none none none I0 (by simp; omega)
  refine ⟨st', ?_⟩
  unfold b0
  rw [ss_nx s1, ss_ifF t2]
  have hit := it_rngN (T := prg.tab) (call := rn wf (n + 7)) (a := .call 3 (.cons (.var 0) (.cons (.int 4) .nil)) []) (ρ := [some (.v (.lst (ns.map .int))), some (.v (.ref 0)), none, none, none, none, none, none, none]) k ((callE (consE (varE (i := 0) (d := .lst (ns.map .int)) rfl) (consE (d := .int 4) (c := .int 4) rfl nilE))).trans e3) rfl (by omega)
  rw [ss_for hit lp]
  rfl
end
theorem told (ns : List Int) (h : ns.length ≤ 63) : ∃ st', run prg.tab prg.fn (2 ^ 4096) 20 0 [.lst (ns.map .int)] [] = .ok (.bl true) st' := told' (n := 12) (Nat.le_refl _) ns
end K17

namespace K17
open PySem PySem.Spec PyProof.Rows L2 Eng
abbrev LawR : PySem.W.OpenLaw := PySem.Challenge.rw_centbook_k17_values_of_sums
def top (i : Nat) : Stmt := PySem.Challenge.pw_centbook_k17_values_of_sums.main.body.getD i (.Pass ⟨0, 0, 0, 0⟩)
def sub (s : Stmt) (i : Nat) : Stmt := match s with
  | .ClassDef _ _ _ b _ _ _ _ _ _ _ => b.getD i (.Pass ⟨0, 0, 0, 0⟩)
  | _ => s
def d0 : Df := ⟨.glo "law", "law", "law", top 60, []⟩
def d1 : Df := ⟨.glo "_law_feed", "_law_feed", "_law_feed", top 36, []⟩
def d2 : Df := ⟨.glo "_law_by_hand", "_law_by_hand", "_law_by_hand", top 59, []⟩
def d3 : Df := ⟨.glo "_law_laps", "_law_laps", "_law_laps", top 38, []⟩
def d4 : Df := ⟨.glo "_law_case", "_law_case", "_law_case", top 50, []⟩
def d5 : Df := ⟨.glo "_law_some_coins", "_law_some_coins", "_law_some_coins", top 57, []⟩
def d6 : Df := ⟨.glo "_law_agrees", "_law_agrees", "_law_agrees", top 58, []⟩
def d7 : Df := ⟨.glo "_law_draw", "_law_draw", "_law_draw", top 37, []⟩
def d8 : Df := ⟨.glo "exact_of", "exact_of", "exact_of", top 30, []⟩
def d9 : Df := ⟨.glo "least_of", "least_of", "least_of", top 31, []⟩
def d10 : Df := ⟨.glo "most_of", "most_of", "most_of", top 32, []⟩
def d11 : Df := ⟨.glo "fixed_of", "fixed_of", "fixed_of", top 33, []⟩
def d12 : Df := ⟨.glo "cents_of", "cents_of", "cents_of", top 34, []⟩
def d13 : Df := ⟨.glo "_law_names", "_law_names", "_law_names", top 45, []⟩
def d14 : Df := ⟨.glo "_law_heads", "_law_heads", "_law_heads", top 46, []⟩
def d15 : Df := ⟨.glo "_law_groups", "_law_groups", "_law_groups", top 48, []⟩
def d16 : Df := ⟨.glo "_law_charges", "_law_charges", "_law_charges", top 49, []⟩
def d17 : Df := ⟨.glo "_law_choice", "_law_choice", "_law_choice", top 39, []⟩
def d18 : Df := ⟨.glo "_law_down", "_law_down", "_law_down", top 42, []⟩
def d19 : Df := ⟨.glo "_law_up", "_law_up", "_law_up", top 43, []⟩
def d20 : Df := ⟨.glo "_law_rows", "_law_rows", "_law_rows", top 56, []⟩
def d21 : Df := ⟨.glo "_law_exact", "_law_exact", "_law_exact", top 54, []⟩
def d22 : Df := ⟨.glo "exact_amount", "exact_amount", "exact_amount", top 29, []⟩
def d23 : Df := ⟨.glo "rows_in", "rows_in", "rows_in", top 28, []⟩
def d24 : Df := ⟨.glo "entries_of", "entries_of", "entries_of", top 27, []⟩
def d25 : Df := ⟨.glo "_law_charge", "_law_charge", "_law_charge", top 44, []⟩
def d26 : Df := ⟨.glo "_law_fits", "_law_fits", "_law_fits", top 47, []⟩
def d27 : Df := ⟨.glo "_law_places", "_law_places", "_law_places", top 51, []⟩
def d28 : Df := ⟨.glo "_law_entries", "_law_entries", "_law_entries", top 52, []⟩
def d29 : Df := ⟨.glo "_law_fixed", "_law_fixed", "_law_fixed", top 55, []⟩
def d30 : Df := ⟨.glo "_law_inside", "_law_inside", "_law_inside", top 53, []⟩
def d31 : Df := ⟨.glo "_law_added", "_law_added", "_law_added", top 41, []⟩
def d32 : Df := ⟨.glo "_law_lowest", "_law_lowest", "_law_lowest", top 40, []⟩
def d33 : Df := ⟨.mt "Amount" "__init__", "__init__", "Amount.__init__", sub (top 24) 1, [(.int 1)]⟩
def d34 : Df := ⟨.pr "Amount" "pair", "pair", "Amount.pair", sub (top 24) 3, []⟩
def d35 : Df := ⟨.pr "Amount" "down", "down", "Amount.down", sub (top 24) 4, []⟩
def d36 : Df := ⟨.pr "Amount" "up", "up", "Amount.up", sub (top 24) 5, []⟩
def d37 : Df := ⟨.mt "Amount" "__add__", "__add__", "Amount.__add__", sub (top 24) 7, []⟩
def d38 : Df := ⟨.mt "Amount" "__radd__", "__radd__", "Amount.__radd__", sub (top 24) 8, []⟩
def d39 : Df := ⟨.mt "Amount" "__sub__", "__sub__", "Amount.__sub__", sub (top 24) 9, []⟩
def d40 : Df := ⟨.mt "Amount" "__rsub__", "__rsub__", "Amount.__rsub__", sub (top 24) 10, []⟩
def d41 : Df := ⟨.mt "Amount" "__mul__", "__mul__", "Amount.__mul__", sub (top 24) 11, []⟩
def d42 : Df := ⟨.mt "Amount" "__rmul__", "__rmul__", "Amount.__rmul__", sub (top 24) 12, []⟩
def d43 : Df := ⟨.mt "Amount" "__neg__", "__neg__", "Amount.__neg__", sub (top 24) 13, []⟩
def d44 : Df := ⟨.mt "Amount" "__abs__", "__abs__", "Amount.__abs__", sub (top 24) 14, []⟩
def d45 : Df := ⟨.mt "Amount" "__bool__", "__bool__", "Amount.__bool__", sub (top 24) 15, []⟩
def d46 : Df := ⟨.mt "Amount" "__eq__", "__eq__", "Amount.__eq__", sub (top 24) 16, []⟩
def d47 : Df := ⟨.glo "is_integer", "is_integer", "is_integer", top 8, []⟩
def d48 : Df := ⟨.glo "common_divisor", "common_divisor", "common_divisor", top 9, []⟩
def d49 : Df := ⟨.glo "as_amount", "as_amount", "as_amount", top 25, []⟩
def dfs : List Df := [d0, d1, d2, d3, d4, d5, d6, d7, d8, d9, d10, d11, d12, d13, d14, d15, d16, d17, d18, d19, d20, d21, d22, d23, d24, d25, d26, d27, d28, d29, d30, d31, d32, d33, d34, d35, d36, d37, d38, d39, d40, d41, d42, d43, d44, d45, d46, d47, d48, d49]
theorem k0 : DefOK prg f0 d0 := ⟨⟨rfl, rfl, rfl, by decide +kernel, rfl, by decide +kernel, by decide +kernel⟩, by decide +kernel, .plain rfl fun _ _ _ _ _ _ us hl => match us, hl with | [_], _ => rfl, by decide +kernel, (fun h => nomatch h)⟩
theorem k1 : DefOK prg f1 d1 := ⟨⟨rfl, rfl, rfl, by decide +kernel, rfl, by decide +kernel, by decide +kernel⟩, by decide +kernel, .plain rfl fun _ _ _ _ _ _ us hl => match us, hl with | [_], _ => rfl, by decide +kernel, (fun h => nomatch h)⟩
theorem k2 : DefOK prg f2 d2 := ⟨⟨rfl, rfl, rfl, by decide +kernel, rfl, by decide +kernel, by decide +kernel⟩, by decide +kernel, .plain rfl fun _ _ _ _ _ _ us hl => match us, hl with | [], _ => rfl, by decide +kernel, (fun h => nomatch h)⟩
theorem k3 : DefOK prg f3 d3 := ⟨⟨rfl, rfl, rfl, by decide +kernel, rfl, by decide +kernel, by decide +kernel⟩, by decide +kernel, .plain rfl fun _ _ _ _ _ _ us hl => match us, hl with | [_, _], _ => rfl, by decide +kernel, (fun h => nomatch h)⟩
theorem k4 : DefOK prg f4 d4 := ⟨⟨rfl, rfl, rfl, by decide +kernel, rfl, by decide +kernel, by decide +kernel⟩, by decide +kernel, .plain rfl fun _ _ _ _ _ _ us hl => match us, hl with | [_, _, _, _], _ => rfl, by decide +kernel, (fun h => nomatch h)⟩
theorem k5 : DefOK prg f5 d5 := ⟨⟨rfl, rfl, rfl, by decide +kernel, rfl, by decide +kernel, by decide +kernel⟩, by decide +kernel, .plain rfl fun _ _ _ _ _ _ us hl => match us, hl with | [_, _], _ => rfl, by decide +kernel, (fun h => nomatch h)⟩
theorem k6 : DefOK prg f6 d6 := ⟨⟨rfl, rfl, rfl, by decide +kernel, rfl, by decide +kernel, by decide +kernel⟩, by decide +kernel, .plain rfl fun _ _ _ _ _ _ us hl => match us, hl with | [_, _], _ => rfl, by decide +kernel, (fun h => nomatch h)⟩
theorem k7 : DefOK prg f7 d7 := ⟨⟨rfl, rfl, rfl, by decide +kernel, rfl, by decide +kernel, by decide +kernel⟩, by decide +kernel, .plain rfl fun _ _ _ _ _ _ us hl => match us, hl with | [_, _], _ => rfl, by decide +kernel, (fun h => nomatch h)⟩
theorem k8 : DefOK prg f8 d8 := ⟨⟨rfl, rfl, rfl, by decide +kernel, rfl, by decide +kernel, by decide +kernel⟩, by decide +kernel, .plain rfl fun _ _ _ _ _ _ us hl => match us, hl with | [_, _], _ => rfl, by decide +kernel, (fun h => nomatch h)⟩
theorem k9 : DefOK prg f9 d9 := ⟨⟨rfl, rfl, rfl, by decide +kernel, rfl, by decide +kernel, by decide +kernel⟩, by decide +kernel, .plain rfl fun _ _ _ _ _ _ us hl => match us, hl with | [_, _], _ => rfl, by decide +kernel, (fun h => nomatch h)⟩
theorem k10 : DefOK prg f10 d10 := ⟨⟨rfl, rfl, rfl, by decide +kernel, rfl, by decide +kernel, by decide +kernel⟩, by decide +kernel, .plain rfl fun _ _ _ _ _ _ us hl => match us, hl with | [_, _], _ => rfl, by decide +kernel, (fun h => nomatch h)⟩
theorem k11 : DefOK prg f11 d11 := ⟨⟨rfl, rfl, rfl, by decide +kernel, rfl, by decide +kernel, by decide +kernel⟩, by decide +kernel, .plain rfl fun _ _ _ _ _ _ us hl => match us, hl with | [_, _], _ => rfl, by decide +kernel, (fun h => nomatch h)⟩
theorem k12 : DefOK prg f12 d12 := ⟨⟨rfl, rfl, rfl, by decide +kernel, rfl, by decide +kernel, by decide +kernel⟩, by decide +kernel, .plain rfl fun _ _ _ _ _ _ us hl => match us, hl with | [_, _, _], _ => rfl, by decide +kernel, (fun h => nomatch h)⟩
theorem k13 : DefOK prg f13 d13 := ⟨⟨rfl, rfl, rfl, by decide +kernel, rfl, by decide +kernel, by decide +kernel⟩, by decide +kernel, .plain rfl fun _ _ _ _ _ _ us hl => match us, hl with | [_, _], _ => rfl, by decide +kernel, (fun h => nomatch h)⟩
theorem k14 : DefOK prg f14 d14 := ⟨⟨rfl, rfl, rfl, by decide +kernel, rfl, by decide +kernel, by decide +kernel⟩, by decide +kernel, .plain rfl fun _ _ _ _ _ _ us hl => match us, hl with | [_, _, _], _ => rfl, by decide +kernel, (fun h => nomatch h)⟩
theorem k15 : DefOK prg f15 d15 := ⟨⟨rfl, rfl, rfl, by decide +kernel, rfl, by decide +kernel, by decide +kernel⟩, by decide +kernel, .plain rfl fun _ _ _ _ _ _ us hl => match us, hl with | [_, _], _ => rfl, by decide +kernel, (fun h => nomatch h)⟩
theorem k16 : DefOK prg f16 d16 := ⟨⟨rfl, rfl, rfl, by decide +kernel, rfl, by decide +kernel, by decide +kernel⟩, by decide +kernel, .plain rfl fun _ _ _ _ _ _ us hl => match us, hl with | [_, _, _], _ => rfl, by decide +kernel, (fun h => nomatch h)⟩
theorem k17 : DefOK prg f17 d17 := ⟨⟨rfl, rfl, rfl, by decide +kernel, rfl, by decide +kernel, by decide +kernel⟩, by decide +kernel, .plain rfl fun _ _ _ _ _ _ us hl => match us, hl with | [_, _], _ => rfl, by decide +kernel, (fun h => nomatch h)⟩
theorem k18 : DefOK prg f18 d18 := ⟨⟨rfl, rfl, rfl, by decide +kernel, rfl, by decide +kernel, by decide +kernel⟩, by decide +kernel, .plain rfl fun _ _ _ _ _ _ us hl => match us, hl with | [_], _ => rfl, by decide +kernel, (fun h => nomatch h)⟩
theorem k19 : DefOK prg f19 d19 := ⟨⟨rfl, rfl, rfl, by decide +kernel, rfl, by decide +kernel, by decide +kernel⟩, by decide +kernel, .plain rfl fun _ _ _ _ _ _ us hl => match us, hl with | [_], _ => rfl, by decide +kernel, (fun h => nomatch h)⟩
theorem k20 : DefOK prg f20 d20 := ⟨⟨rfl, rfl, rfl, by decide +kernel, rfl, by decide +kernel, by decide +kernel⟩, by decide +kernel, .plain rfl fun _ _ _ _ _ _ us hl => match us, hl with | [_], _ => rfl, by decide +kernel, (fun h => nomatch h)⟩
theorem k21 : DefOK prg f21 d21 := ⟨⟨rfl, rfl, rfl, by decide +kernel, rfl, by decide +kernel, by decide +kernel⟩, by decide +kernel, .plain rfl fun _ _ _ _ _ _ us hl => match us, hl with | [_, _], _ => rfl, by decide +kernel, (fun h => nomatch h)⟩
theorem k22 : DefOK prg f22 d22 := ⟨⟨rfl, rfl, rfl, by decide +kernel, rfl, by decide +kernel, by decide +kernel⟩, by decide +kernel, .plain rfl fun _ _ _ _ _ _ us hl => match us, hl with | [_, _], _ => rfl, by decide +kernel, (fun h => nomatch h)⟩
theorem k23 : DefOK prg f23 d23 := ⟨⟨rfl, rfl, rfl, by decide +kernel, rfl, by decide +kernel, by decide +kernel⟩, by decide +kernel, .plain rfl fun _ _ _ _ _ _ us hl => match us, hl with | [_, _], _ => rfl, by decide +kernel, (fun h => nomatch h)⟩
theorem k24 : DefOK prg f24 d24 := ⟨⟨rfl, rfl, rfl, by decide +kernel, rfl, by decide +kernel, by decide +kernel⟩, by decide +kernel, .plain rfl fun _ _ _ _ _ _ us hl => match us, hl with | [_, _], _ => rfl, by decide +kernel, (fun h => nomatch h)⟩
theorem k25 : DefOK prg f25 d25 := ⟨⟨rfl, rfl, rfl, by decide +kernel, rfl, by decide +kernel, by decide +kernel⟩, by decide +kernel, .plain rfl fun _ _ _ _ _ _ us hl => match us, hl with | [_], _ => rfl, by decide +kernel, (fun h => nomatch h)⟩
theorem k26 : DefOK prg f26 d26 := ⟨⟨rfl, rfl, rfl, by decide +kernel, rfl, by decide +kernel, by decide +kernel⟩, by decide +kernel, .plain rfl fun _ _ _ _ _ _ us hl => match us, hl with | [_, _], _ => rfl, by decide +kernel, (fun h => nomatch h)⟩
theorem k27 : DefOK prg f27 d27 := ⟨⟨rfl, rfl, rfl, by decide +kernel, rfl, by decide +kernel, by decide +kernel⟩, by decide +kernel, .plain rfl fun _ _ _ _ _ _ us hl => match us, hl with | [_], _ => rfl, by decide +kernel, (fun h => nomatch h)⟩
theorem k28 : DefOK prg f28 d28 := ⟨⟨rfl, rfl, rfl, by decide +kernel, rfl, by decide +kernel, by decide +kernel⟩, by decide +kernel, .plain rfl fun _ _ _ _ _ _ us hl => match us, hl with | [_, _], _ => rfl, by decide +kernel, (fun h => nomatch h)⟩
theorem k29 : DefOK prg f29 d29 := ⟨⟨rfl, rfl, rfl, by decide +kernel, rfl, by decide +kernel, by decide +kernel⟩, by decide +kernel, .plain rfl fun _ _ _ _ _ _ us hl => match us, hl with | [_, _], _ => rfl, by decide +kernel, (fun h => nomatch h)⟩
theorem k30 : DefOK prg f30 d30 := ⟨⟨rfl, rfl, rfl, by decide +kernel, rfl, by decide +kernel, by decide +kernel⟩, by decide +kernel, .plain rfl fun _ _ _ _ _ _ us hl => match us, hl with | [_, _], _ => rfl, by decide +kernel, (fun h => nomatch h)⟩
theorem k31 : DefOK prg f31 d31 := ⟨⟨rfl, rfl, rfl, by decide +kernel, rfl, by decide +kernel, by decide +kernel⟩, by decide +kernel, .plain rfl fun _ _ _ _ _ _ us hl => match us, hl with | [_, _], _ => rfl, by decide +kernel, (fun h => nomatch h)⟩
theorem k32 : DefOK prg f32 d32 := ⟨⟨rfl, rfl, rfl, by decide +kernel, rfl, by decide +kernel, by decide +kernel⟩, by decide +kernel, .plain rfl fun _ _ _ _ _ _ us hl => match us, hl with | [_, _], _ => rfl, by decide +kernel, (fun h => nomatch h)⟩
theorem k33 : DefOK prg f33 d33 := ⟨⟨rfl, rfl, rfl, by decide +kernel, rfl, by decide +kernel, by decide +kernel⟩, by decide +kernel, .dfl (by decide) (by decide) (fun _ _ _ _ _ _ _ us its h1 h2 => match us, its, h1, h2 with | [_, _, _], [_], _, _ => ⟨_, rfl, rfl⟩) (fun _ _ _ _ _ _ _ us its h1 h2 => match us, its, h1, h2 with | [_, _], [_], _, _ => ⟨_, rfl, rfl⟩), by decide +kernel, (fun h => nomatch h)⟩
theorem k34 : DefOK prg f34 d34 := ⟨⟨rfl, rfl, rfl, by decide +kernel, rfl, by decide +kernel, by decide +kernel⟩, by decide +kernel, .plain rfl fun _ _ _ _ _ _ us hl => match us, hl with | [_], _ => rfl, by decide +kernel, (fun h => nomatch h)⟩
theorem k35 : DefOK prg f35 d35 := ⟨⟨rfl, rfl, rfl, by decide +kernel, rfl, by decide +kernel, by decide +kernel⟩, by decide +kernel, .plain rfl fun _ _ _ _ _ _ us hl => match us, hl with | [_], _ => rfl, by decide +kernel, (fun h => nomatch h)⟩
theorem k36 : DefOK prg f36 d36 := ⟨⟨rfl, rfl, rfl, by decide +kernel, rfl, by decide +kernel, by decide +kernel⟩, by decide +kernel, .plain rfl fun _ _ _ _ _ _ us hl => match us, hl with | [_], _ => rfl, by decide +kernel, (fun h => nomatch h)⟩
theorem k37 : DefOK prg f37 d37 := ⟨⟨rfl, rfl, rfl, by decide +kernel, rfl, by decide +kernel, by decide +kernel⟩, by decide +kernel, .plain rfl fun _ _ _ _ _ _ us hl => match us, hl with | [_, _], _ => rfl, by decide +kernel, (fun h => nomatch h)⟩
theorem k38 : DefOK prg f38 d38 := ⟨⟨rfl, rfl, rfl, by decide +kernel, rfl, by decide +kernel, by decide +kernel⟩, by decide +kernel, .plain rfl fun _ _ _ _ _ _ us hl => match us, hl with | [_, _], _ => rfl, by decide +kernel, (fun h => nomatch h)⟩
theorem k39 : DefOK prg f39 d39 := ⟨⟨rfl, rfl, rfl, by decide +kernel, rfl, by decide +kernel, by decide +kernel⟩, by decide +kernel, .plain rfl fun _ _ _ _ _ _ us hl => match us, hl with | [_, _], _ => rfl, by decide +kernel, (fun h => nomatch h)⟩
theorem k40 : DefOK prg f40 d40 := ⟨⟨rfl, rfl, rfl, by decide +kernel, rfl, by decide +kernel, by decide +kernel⟩, by decide +kernel, .plain rfl fun _ _ _ _ _ _ us hl => match us, hl with | [_, _], _ => rfl, by decide +kernel, (fun h => nomatch h)⟩
theorem k41 : DefOK prg f41 d41 := ⟨⟨rfl, rfl, rfl, by decide +kernel, rfl, by decide +kernel, by decide +kernel⟩, by decide +kernel, .plain rfl fun _ _ _ _ _ _ us hl => match us, hl with | [_, _], _ => rfl, by decide +kernel, (fun h => nomatch h)⟩
theorem k42 : DefOK prg f42 d42 := ⟨⟨rfl, rfl, rfl, by decide +kernel, rfl, by decide +kernel, by decide +kernel⟩, by decide +kernel, .plain rfl fun _ _ _ _ _ _ us hl => match us, hl with | [_, _], _ => rfl, by decide +kernel, (fun h => nomatch h)⟩
theorem k43 : DefOK prg f43 d43 := ⟨⟨rfl, rfl, rfl, by decide +kernel, rfl, by decide +kernel, by decide +kernel⟩, by decide +kernel, .plain rfl fun _ _ _ _ _ _ us hl => match us, hl with | [_], _ => rfl, by decide +kernel, (fun h => nomatch h)⟩
theorem k44 : DefOK prg f44 d44 := ⟨⟨rfl, rfl, rfl, by decide +kernel, rfl, by decide +kernel, by decide +kernel⟩, by decide +kernel, .plain rfl fun _ _ _ _ _ _ us hl => match us, hl with | [_], _ => rfl, by decide +kernel, (fun h => nomatch h)⟩
theorem k45 : DefOK prg f45 d45 := ⟨⟨rfl, rfl, rfl, by decide +kernel, rfl, by decide +kernel, by decide +kernel⟩, by decide +kernel, .plain rfl fun _ _ _ _ _ _ us hl => match us, hl with | [_], _ => rfl, by decide +kernel, (fun h => nomatch h)⟩
theorem k46 : DefOK prg f46 d46 := ⟨⟨rfl, rfl, rfl, by decide +kernel, rfl, by decide +kernel, by decide +kernel⟩, by decide +kernel, .plain rfl fun _ _ _ _ _ _ us hl => match us, hl with | [_, _], _ => rfl, by decide +kernel, (fun h => nomatch h)⟩
theorem k47 : DefOK prg f47 d47 := ⟨⟨rfl, rfl, rfl, by decide +kernel, rfl, by decide +kernel, by decide +kernel⟩, by decide +kernel, .plain rfl fun _ _ _ _ _ _ us hl => match us, hl with | [_], _ => rfl, by decide +kernel, (fun h => nomatch h)⟩
theorem k48 : DefOK prg f48 d48 := ⟨⟨rfl, rfl, rfl, by decide +kernel, rfl, by decide +kernel, by decide +kernel⟩, by decide +kernel, .plain rfl fun _ _ _ _ _ _ us hl => match us, hl with | [_, _], _ => rfl, by decide +kernel, (fun h => nomatch h)⟩
theorem k49 : DefOK prg f49 d49 := ⟨⟨rfl, rfl, rfl, by decide +kernel, rfl, by decide +kernel, by decide +kernel⟩, by decide +kernel, .plain rfl fun _ _ _ _ _ _ us hl => match us, hl with | [_], _ => rfl, by decide +kernel, (fun h => nomatch h)⟩
theorem allOK : All2 (DefOK prg) prg.fns dfs := .cons k0 (.cons k1 (.cons k2 (.cons k3 (.cons k4 (.cons k5 (.cons k6 (.cons k7 (.cons k8 (.cons k9 (.cons k10 (.cons k11 (.cons k12 (.cons k13 (.cons k14 (.cons k15 (.cons k16 (.cons k17 (.cons k18 (.cons k19 (.cons k20 (.cons k21 (.cons k22 (.cons k23 (.cons k24 (.cons k25 (.cons k26 (.cons k27 (.cons k28 (.cons k29 (.cons k30 (.cons k31 (.cons k32 (.cons k33 (.cons k34 (.cons k35 (.cons k36 (.cons k37 (.cons k38 (.cons k39 (.cons k40 (.cons k41 (.cons k42 (.cons k43 (.cons k44 (.cons k45 (.cons k46 (.cons k47 (.cons k48 (.cons k49 (.nil))))))))))))))))))))))))))))))))))))))))))))))))))
theorem chkPs : chkP prg (dfs.map Df.p) = true := by decide +kernel
def loose : List PySem.Str := (["_wall", "CentError", "BookError", "TextError", "InvalidAmount", "InvalidText", "is_integer", "common_divisor"] : List PySem.Str) ++ (["is_row", "is_fraction", "DIGITS", "MOST_DIGITS", "number_or_none", "integer_or_none", "fraction_or_none", "fraction_read"] : List PySem.Str) ++ (["PIECE_DIGITS", "integer_text", "fraction_text", "Amount", "as_amount", "entries_of", "rows_in", "exact_amount"] : List PySem.Str) ++ (["exact_of", "least_of", "most_of", "fixed_of", "cents_of", "_law_feed", "_law_draw", "_law_laps"] : List PySem.Str) ++ (["_law_choice", "_law_lowest", "_law_added", "_law_down", "_law_up", "_law_charge", "_law_names", "_law_heads"] : List PySem.Str) ++ (["_law_fits", "_law_groups", "_law_charges", "_law_case", "_law_places", "_law_entries", "_law_inside", "_law_exact"] : List PySem.Str) ++ (["_law_fixed", "_law_rows", "_law_some_coins", "_law_agrees", "_law_by_hand"] : List PySem.Str)
def lawI : Nat := 60

abbrev R : PySem.W.OpenRow := PySem.W.OpenLaw.row LawR
end K17

namespace K17
open PySem PySem.Spec PyProof.Rows L2 Eng
def asL : List Addr := ([3, 6, 4, 21, 31, 44, 56, 77, 98, 107, 114, 119, 126, 131, 138, 145] : List Addr) ++ ([152, 159, 166, 303, 314, 319, 326, 333, 340, 347, 354, 359, 364, 371, 378, 385] : List Addr) ++ ([392, 399, 406, 413, 420, 427, 434, 441, 446, 451, 458, 465, 470, 475, 482, 489] : List Addr) ++ ([494, 501, 506, 511, 518, 523, 0, 20, 30, 43, 55, 76, 97, 106, 113, 118] : List Addr) ++ ([125, 130, 137, 144, 151, 158, 165, 302, 313, 318, 325, 332, 339, 346, 353, 358] : List Addr) ++ ([363, 370, 377, 384, 391, 398, 405, 412, 419, 426, 433, 440, 445, 450, 457, 464] : List Addr) ++ ([469, 474, 481, 488, 493, 500, 505, 510, 517, 522, 15, 16, 17, 18, 19, 29] : List Addr) ++ ([32, 42, 54, 74, 75, 95, 96, 101, 102, 103, 104, 105, 108, 109, 110, 111] : List Addr) ++ ([112, 115, 116, 117, 120, 121, 122, 123, 124, 127, 128, 129, 132, 133, 134, 135] : List Addr) ++ ([136, 139, 140, 141, 142, 143, 146, 147, 148, 149, 150, 153, 154, 155, 156, 157] : List Addr) ++ ([160, 161, 162, 163, 164, 174, 182, 191, 200, 208, 216, 223, 230, 237, 244, 251] : List Addr) ++ ([258, 265, 272, 279, 286, 293, 300, 301, 304, 305, 308, 309, 310, 311, 312, 315] : List Addr) ++ ([316, 317, 320, 321, 322, 323, 324, 327, 328, 329, 330, 331, 334, 335, 336, 337] : List Addr) ++ ([338, 341, 342, 343, 344, 345, 348, 349, 350, 351, 352, 355, 356, 357, 360, 361] : List Addr) ++ ([362, 365, 366, 367, 368, 369, 372, 373, 374, 375, 376, 379, 380, 381, 382, 383] : List Addr) ++ ([386, 387, 388, 389, 390, 393, 394, 395, 396, 397, 400, 401, 402, 403, 404, 407] : List Addr) ++ ([408, 409, 410, 411, 414, 415, 416, 417, 418, 421, 422, 423, 424, 425, 428, 429] : List Addr) ++ ([430, 431, 432, 435, 436, 437, 438, 439, 442, 443, 444, 447, 448, 449, 452, 453] : List Addr) ++ ([454, 455, 456, 459, 460, 461, 462, 463, 466, 467, 468, 471, 472, 473, 476, 477] : List Addr) ++ ([478, 479, 480, 483, 484, 485, 486, 487, 490, 491, 492, 495, 496, 497, 498, 499] : List Addr) ++ ([502, 503, 504, 507, 508, 509, 512, 513, 514, 515, 516, 519, 520, 521, 73, 62] : List Addr) ++ ([94, 83, 181, 175, 189, 190, 199, 207, 215, 222, 229, 236, 243, 250, 257, 264] : List Addr) ++ ([271, 278, 285, 292, 299, 68, 69, 70, 71, 72, 89, 90, 91, 92, 93, 176] : List Addr) ++ ([177, 178, 179, 180, 188, 192, 198, 206, 214, 217, 218, 219, 220, 221, 224, 225] : List Addr) ++ ([226, 227, 228, 231, 232, 233, 234, 235, 238, 239, 240, 241, 242, 245, 246, 247] : List Addr) ++ ([248, 249, 252, 253, 254, 255, 256, 259, 260, 261, 262, 263, 266, 267, 268, 269] : List Addr) ++ ([270, 273, 274, 275, 276, 277, 280, 281, 282, 283, 284, 287, 288, 289, 290, 291] : List Addr) ++ ([294, 295, 296, 297, 298] : List Addr)
abbrev hk : PySem.W.Hook := hookZ asL (exB prg (dfs.map Df.p)) (dfs.map Df.toA)
def ob (s : PySem.W.SharedT) : AlZ := obsZ asL (exB prg (dfs.map Df.p)) (dfs.map Df.toA) (HandSHeadRun.getT s)
theorem ob_eq (s : PySem.W.SharedT) : ob s = hk.obs s.abs := obsZ_eq (HandSHeadRun.getT_eq s)
theorem runs (w : World) : HandSHeadRun.RunEq R (PySem.W.view R.prog [60]) hk ob 16000 loose w := by
  intro os
  kernel_rfl
end K17

open PySem PySem.W PySem.Calls PyProof.Rows Eng in
theorem PySem.Challenge.cw_centbook_k17_values_of_sums_holds : PySem.Challenge.rw_centbook_k17_values_of_sums.Holds := by
  w_on; o_law
  refine HandSHeadRun.head_any (r := K17.R) (q := view K17.R.prog [60]) (H := K17.hk) (ob := K17.ob) (M := 16000) (loose := K17.loose) (d := HandSHeadRun.topDef K17.R.prog 60) (kwd := []) K17.ob_eq
    (by kernel_rfl) (fun s => by kernel_rfl) K17.runs (by kernel_rfl) (by kernel_rfl) (by kernel_rfl) (by rfl) (by first | assumption | decide +kernel) (by decide +kernel) ⟨rfl, rfl, rfl, rfl, rfl, by decide +kernel⟩ ?hw ?hc
  case hw => w_witness2
  case hc =>
    refine walkG (l := K17.LawR) (n := 63) (k := 4 * 20) (x := "_law_script") (CX := L2.CX0) rfl (by decide) (by kernel_rfl) ⟨rfl, by decide, by decide⟩ ?F (fun _ _ _ _ z => z)
    intro w mg fa h Y G hmg0
    have e : (HandSHeadRun.topDef K17.R.prog 60).name = ("law" : PySem.Str) := by kernel_rfl
    rw [e] at hmg0
    exact law_fin (fl := K17.f0) (dl := K17.d0) (jl := 0) K17.chkPs K17.allOK rfl rfl rfl rfl rfl rfl rfl K17.told w mg fa h Y G hmg0
