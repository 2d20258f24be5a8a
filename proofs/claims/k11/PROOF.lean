import PyProof.Rows.All
import Wide.All
import OpenK.AllK
import Wide.FinOn
import KE.KFmtOwn
import KE.KOpsOwn
import PyProof.InstEq
import HandS.ForMost
import HandS.Star
import HandS.SlotsOwn
import HandS.Property
import HandS.MakeKwOnly
import HandS.ClsMeth
import HandS.OwnEq
import HandS.ExcOwn
import PyProof.ReprRoads
import PyProof.StrLawsRepr
import PyProof.FitsInt
import HandS.IsInst
import HandS.WordsExc
import HandS.FStr
import HandS.TupLe
import HandS.WideBits
import HandS.Conv
import HandS.Sort
import HandS.NoneIn
import HandS.Codes
import HandS.Comp
import HandS.Dict
import HandS.ExcInit
import HandS.ExcIs
import HandS.ExcField
import KE.KExcInit
import HandS.HotCalls
import KE.KExcIs
import KE.DataMinMax
import HandS.Iter
import HandS.Walk
import HandS.Ends
import PySem.Challenge.RW_abreast_k11_whole_spans_by_own_sums
set_option Elab.async false
set_option linter.all false
set_option maxRecDepth 100000
set_option maxHeartbeats 4000000

namespace Ab
open PySem PySem.Spec PyProof.Rows L2

/-- an instance of the class at C stands at a -/
def IsIns (C : Addr) (H : Hp) (a : Addr) : Prop := ∃ dx fs, H a = some (.ins C dx fs)

section
variable {X : Cx} {CX : CXT} {pins : List (Addr × Obj)} {σ : L2.St} {H : Hp} {s : Shared} {a C g : Addr} {n : Nat} {sp : Sp} {E : XK} {Eσ : L2.St → XK}

theorem ins_inst (I : Inv X pins σ H s) (e : IsIns C H a) : ∃ ox od, PySem.W.InstAt s.heap a ox C (some od) := by
  obtain ⟨dx, fs, e⟩ := e
  obtain ⟨mA, O, _⟩ := ins_get I.hok e
  obtain ⟨od, J, _⟩ := O.look
  exact ⟨_, od, J⟩

/-- a promise run at an around of the same frames, raising as the slots wish -/
theorem run_any {A : Around} {Q : VK} {us : List Value} {ws : List V} (F : FnR X.prog X.w X.K X.mg X.base CX n g sp) (hr : Room n A) (hfr : A.frames = X.A.frames) (hx : PassesAt CX X σ E) (I : Inv X pins σ H s) (r : Vals ws us) (h : sp ws H Q E) :
    codeAny (model X.prog X.w) A (.call (.ref g) ⟨us, []⟩) (fun r s' => match r with | .ok (.ret v) => EP X pins σ Q v s' | .ok _ => False | .error e => X.xe e s') s := by
  have e := I.env0
  refine codeAny_mono (F A X.stack s H us ws Q E hr ⟨by rw [hfr]; exact e.frames, e.mod, e.bs, e.bsz, e.funs, e.frf, e.hok, e.bare⟩ r h) fun r s' hq => ?_
  cases r with
  | error e => exact hx pins H s e s' I hq
  | ok fl =>
    cases fl with
    | ret u => exact I.after hq
    | next => exact False.elim hq
    | brk => exact False.elim hq
    | cont => exact False.elim hq

theorem call_any {A : Around} {Q : VK} {us : List Value} {ws : List V} (F : FnR X.prog X.w X.K X.mg X.base CX n g sp) (hr : Room n A) (hfr : A.frames = X.A.frames) (hx : PassesAt CX X σ E) (I : Inv X pins σ H s) (r : Vals ws us) (h : sp ws H Q E) :
    wpAny (model X.prog X.w) A (call (.ref g) us) (EP X pins σ Q) X.xe s := wpAny_call (run_any F hr hfr hx I r h)

theorem back_of {Q : VK} {v : Value} {s' : Shared} (z : EP X pins σ Q v s') : PySem.W.CmpBack (EP X pins σ Q) v s' := by
  obtain ⟨x, H', I', r, q⟩ := z
  exact SlX.cmpback r ⟨x, H', I', r, q⟩

/-! ### x op y, both of the class at C; what it raises is wished for at the slots -/
def tBinO (C : Addr) (sp : Sp) (Eσ : L2.St → XK) (ta tb : TE) : TE := fun σ H Q => ta σ H fun x H1 => tb σ H1 fun y H2 => ∃ a b, x = .ref a ∧ y = .ref b ∧ IsIns C H2 a ∧ IsIns C H2 b ∧ sp [.ref a, .ref b] H2 Q (Eσ σ)
theorem pe_binO {op : Operator} {l r : Expr} {ta tb : TE} {pos : Pos} (hc : PySem.W.selfFirst X.K C = true) (hs : PySem.W.findIn X.K (.ref C) (PySem.dunder op.info.2) = some (some (.ref g))) (hf : PySem.W.isFn X.K (.ref g) = true)
    (F : FnR X.prog X.w X.K X.mg X.base CX n g sp) (hr : Room n X.A) (hx : ∀ σ, PassesAt CX X σ (Eσ σ)) (ha : PE X l ta) (hb : PE X r tb) : PE X (.BinOp l op r pos) (tBinO C sp Eσ ta tb) := by
  refine ⟨fun pins s σ H Q I h => wpAny_BinOp (binT ha hb I h fun v u s2 x y H2 I2 rx ry q => ?_)⟩
  obtain ⟨a, b, rfl, rfl, ea, eb, q⟩ := q
  cases (show v = Value.ref a from rx)
  cases (show u = Value.ref b from ry)
  obtain ⟨_, _, J⟩ := ins_inst I2 ea
  obtain ⟨_, _, J'⟩ := ins_inst I2 eb
  obtain ⟨m, hF⟩ := I2.fr
  exact PySem.W.binop_K hF I2.ok.mod.kin J J'.type hc hs hf (wpAny_mono (call_any (ws := [.ref a, .ref b]) F hr rfl (hx σ) I2 (.cons rfl (.cons rfl .nil)) q) (fun _ _ z => back_of z) fun _ _ z => z)

/-! ### x op i, i an int -/
def rBinI (C : Addr) (sp : Sp) (E : XK) : R2 := fun x y H Q => ∃ a i, x = .ref a ∧ y = .int i ∧ IsIns C H a ∧ sp [.ref a, .int i] H Q E
theorem op_binI {op : Operator} {rc fo ro : Option Value} (hc : PySem.W.selfFirst X.K C = true) (hs : PySem.W.findIn X.K (.ref C) (PySem.dunder op.info.2) = some (some (.ref g))) (hf : PySem.W.isFn X.K (.ref g) = true)
    (h0 : PySem.W.findIn X.K (.ref C) (dunderR op.info.2) = some rc) (hp : rc = none ∨ ∃ g : Addr, rc = some (.ref g)) (h1 : PySem.W.findIn X.K (.type "int") (PySem.dunder op.info.2) = some fo) (h2 : PySem.W.findIn X.K (.type "int") (dunderR op.info.2) = some ro)
    (hsub : PySem.W.subIn X.K (.type "int") (.ref C) = some false) (F : FnR X.prog X.w X.K X.mg X.base CX n g sp) (hr : Room n X.A) (hx : ∀ σ, PassesAt CX X σ E) : OpR X (binaryOp op) (rBinI C sp E) := by
  intro pins s σ H x y v u Q I rx ry h
  obtain ⟨a, i, rfl, rfl, ea, q⟩ := h
  cases (show v = Value.ref a from rx)
  obtain ⟨t, rfl⟩ := (show ∃ t, u = Value.int i t from ry)
  obtain ⟨_, _, J⟩ := ins_inst I ea
  obtain ⟨m, hF⟩ := I.fr
  exact PySem.W.ksp_binT (T := "int") hF I.ok.mod.kin J rfl hc hs hf h0 hp h1 h2 hsub (wpAny_mono (call_any (ws := [.ref a, .int i]) F hr rfl (hx σ) I (.cons rfl (.cons ⟨t, rfl⟩ .nil)) q) (fun _ _ z => back_of z) fun _ _ z => z)

/-! ### - x -/
def rNeg (C : Addr) (sp : Sp) (E : XK) : V → Hp → VK → Prop := fun x H Q => ∃ a, x = .ref a ∧ IsIns C H a ∧ sp [.ref a] H Q E
theorem un_negO (hs : PySem.W.findIn X.K (.ref C) "__neg__" = some (some (.ref g))) (hf : PySem.W.isFn X.K (.ref g) = true) (F : FnR X.prog X.w X.K X.mg X.base CX n g sp) (hr : Room n X.A) (hx : ∀ σ, PassesAt CX X σ E) :
    UnR X (unaryOp .USub) (rNeg C sp E) := by
  intro pins s σ H x v Q I rx h
  obtain ⟨a, rfl, ea, q⟩ := h
  cases (show v = Value.ref a from rx)
  obtain ⟨_, _, J⟩ := ins_inst I ea
  obtain ⟨m, hF⟩ := I.fr
  exact PySem.W.ksp_neg hF I.ok.mod.kin J hs hf (call_any (ws := [.ref a]) F hr rfl (hx σ) I (.cons rfl .nil) q)

/-! ### x < y and the like, both of the class at C -/
def rCmp (C : Addr) (sp : Sp) (E : XK) : R2 := fun x y H Q => ∃ a b, x = .ref a ∧ y = .ref b ∧ IsIns C H a ∧ IsIns C H b ∧ sp [.ref a, .ref b] H Q E
theorem op_cmpO {op : CmpOp} (hop : ∀ a b, compareOp op a b = richCompare op a b) (hs : PySem.W.findIn X.K (.ref C) (cmpInfo op).2.1 = some (some (.ref g))) (hf : PySem.W.isFn X.K (.ref g) = true)
    (F : FnR X.prog X.w X.K X.mg X.base CX n g sp) (hr : Room n X.A) (hx : ∀ σ, PassesAt CX X σ E) : OpR X (compareOp op) (rCmp C sp E) := by
  intro pins s σ H x y v u Q I rx ry h
  obtain ⟨a, b, rfl, rfl, ea, eb, q⟩ := h
  cases (show v = Value.ref a from rx)
  cases (show u = Value.ref b from ry)
  obtain ⟨_, _, J⟩ := ins_inst I ea
  obtain ⟨_, _, J'⟩ := ins_inst I eb
  obtain ⟨m, hF⟩ := I.fr
  rw [hop]
  exact PySem.W.cmp_K (tb := .ref C) hr.units0 hF I.ok.mod.kin J J'.type (by simp [PySem.W.notFirst]) hs hf (wpAny_mono (call_any (ws := [.ref a, .ref b]) F hr rfl (hx σ) I (.cons rfl (.cons rfl .nil)) q) (fun _ _ z => back_of z) fun _ _ z => z)

/-! ### y in x, x of the class at C -/
def rIn (C : Addr) (sp : Sp) (E : XK) : R2 := fun y x H Q => ∃ a, x = .ref a ∧ IsIns C H a ∧ sp [.ref a, y] H (fun z H' => ∃ k, z = .bl k ∧ Q (.bl k) H') E
theorem op_inO (hs : PySem.W.findIn X.K (.ref C) "__contains__" = some (some (.ref g))) (hf : PySem.W.isFn X.K (.ref g) = true)
    (F : FnR X.prog X.w X.K X.mg X.base CX n g sp) (hr : Room n X.A) (hx : ∀ σ, PassesAt CX X σ E) : OpR X (compareOp .In) (rIn C sp E) := by
  intro pins s σ H y x v u Q I ry rx h
  obtain ⟨a, rfl, ea, q⟩ := h
  cases (show u = Value.ref a from rx)
  obtain ⟨_, _, J⟩ := ins_inst I ea
  obtain ⟨m, hF⟩ := I.fr
  refine PySem.W.in_K hF I.ok.mod.kin J hs hf (wpAny_mono (call_any (ws := [.ref a, y]) F hr rfl (hx σ) I (.cons rfl (.cons ry .nil)) q) (fun r s' z => ?_) fun _ _ z => z)
  obtain ⟨z, H', I', rz, k, rfl, qz⟩ := z
  cases (show r = Value.bool k from rz)
  exact wpAny_truthy_bool ⟨.bl k, H', I', rfl, qz⟩

/-! ### str(x), repr(x) of an instance of the class at C -/
def rTxt (C : Addr) (sp : Sp) (E : XK) : List V → Hp → VK → Prop := fun xs H Q => ∃ a, xs = [.ref a] ∧ IsIns C H a ∧ sp [.ref a] H (fun z H' => ∃ t, z = .str t ∧ Q (.str t) H') E
theorem in1_fr {A : Around} : A.in1.frames = A.frames := rfl
theorem strback {Q : VK} {v : Value} {s' : Shared} (z : EP X pins σ (fun z H' => ∃ t, z = .str t ∧ Q (.str t) H') v s') : PySem.W.StrBack (EP X pins σ Q) v s' := by
  obtain ⟨x, H', I', r, t, rfl, q⟩ := z
  obtain ⟨u, rfl⟩ := (show ∃ u, v = Value.str t u from r)
  exact ⟨.str t, H', I', ⟨u, rfl⟩, q⟩
theorem call_reprO (hs : PySem.W.findIn X.K (.ref C) "__repr__" = some (some (.ref g))) (hf : PySem.W.isFn X.K (.ref g) = true) (F : FnR X.prog X.w X.K X.mg X.base CX n g sp) (hr : Room (n + 1) X.A) (hx : ∀ σ, PassesAt CX X σ E) :
    CallR X (.builtin "repr") (rTxt C sp E) := by
  intro pins s σ H xs us Q I r h
  obtain ⟨a, rfl, ea, q⟩ := h
  obtain ⟨u, rfl, ru⟩ := r.one
  cases (show u = Value.ref a from ru)
  obtain ⟨_, _, J⟩ := ins_inst I ea
  obtain ⟨m, hF⟩ := I.fr
  exact PySem.W.repr_K hr.in1.units0 hF I.ok.mod.kin J hs hf (wpAny_mono (call_any (ws := [.ref a]) F hr.in1 rfl (hx σ) I (.cons rfl .nil) q) (fun _ _ z => strback z) fun _ _ z => z)
theorem call_strO (hs : PySem.W.findIn X.K (.ref C) "__str__" = some (some (.ref g))) (hf : PySem.W.isFn X.K (.ref g) = true) (F : FnR X.prog X.w X.K X.mg X.base CX n g sp) (hr : Room (n + 2) X.A) (hx : ∀ σ, PassesAt CX X σ E) :
    CallR X (.type "str") (rTxt C sp E) := by
  intro pins s σ H xs us Q I r h
  obtain ⟨a, rfl, ea, q⟩ := h
  obtain ⟨u, rfl, ru⟩ := r.one
  cases (show u = Value.ref a from ru)
  obtain ⟨_, _, J⟩ := ins_inst I ea
  have hr2 : Room n X.A.in1.in1 := (show Room (n + 1) X.A.in1 from hr.in1).in1
  exact PySem.W.kso_call hr2.units0 I.kIn J hs hf (wpAny_mono (call_any (ws := [.ref a]) F hr2 rfl (hx σ) I (.cons rfl .nil) q) (fun _ _ z => strback z) fun _ _ z => z)

/-! ### x != y by object.__ne__, which asks the own __eq__ -/
open Builtin in
theorem op_neO (hm : PySem.W.mroIn X.K C (.type "object") = some true) (hn : PySem.W.findIn X.K (.ref C) "__ne__" = some (some (.builtin "object.__ne__"))) (hs : PySem.W.findIn X.K (.ref C) "__eq__" = some (some (.ref g))) (hf : PySem.W.isFn X.K (.ref g) = true)
    (F : FnR X.prog X.w X.K X.mg X.base CX n g sp) (hr : Room (n + 1) X.A) (hx : ∀ σ, PassesAt CX X σ E) :
    OpR X (compareOp .NotEq) (fun x y H Q => ∃ a b, x = .ref a ∧ y = .ref b ∧ IsIns C H a ∧ IsIns C H b ∧ sp [.ref a, .ref b] H (fun z H' => ∃ k, z = .bl k ∧ Q (.bl (!k)) H') E) := by
  intro pins s σ H x y v u Q I rx ry h
  obtain ⟨a, b, rfl, rfl, ea, eb, q⟩ := h
  cases (show v = Value.ref a from rx)
  cases (show u = Value.ref b from ry)
  obtain ⟨_, _, J⟩ := ins_inst I ea
  obtain ⟨_, _, J'⟩ := ins_inst I eb
  have hu1 : X.A.in1.units < cLine := hr.in1.units0
  have call1 : wpAny (model X.prog X.w) X.A (call (.builtin "object.__ne__") [.ref a, .ref b]) (fun v s' => ∃ k : Bool, v = .bool k ∧ EP X pins σ Q (.bool k) s') X.xe s := by
    refine wpAny_call (codeAny_call_builtin PySem.F.cmp_object.ne.plain PySem.F.cmpEntry_ne (PySem.W.check_slot (i := "object.__ne__") PySem.F.cmpKind_ne PySem.F.cmpSplit_ne (J.type.andThen (PySem.W.looks_mroIn I.kIn hm)) (PySem.F.cmpArgs_ne _ _) ?_))
    show wpAny (model X.prog X.w) X.A.in1 (Builtin.«object.__ne__» ⟨[.ref a, .ref b], []⟩) _ _ s
    unfold Builtin.«object.__ne__»
    refine wpAny_bind (m := slotArgs "__ne__" 1 _) (wpAny_pure ?_)
    refine wpAny_bind (m := cRoomFor _ _) (wpAny_cRoomFor hu1 ?_)
    refine wpAny_bind (m := callSpecialIfBound? (.ref a) (Str.ofString "__eq__") _) (PySem.W.ifBound_K I.kIn J hs hf (wpAny_mono (call_any (ws := [.ref a, .ref b]) F hr.in1 rfl (hx σ) I (.cons rfl (.cons rfl .nil)) q) (fun r s' z => ?_) fun _ _ z => z))
    obtain ⟨z, H', I', rz, k, rfl, qz⟩ := z
    cases (show r = Value.bool k from rz)
    exact wpAny_bind (wpAny_truthy_bool (wpAny_pure ⟨_, rfl, .bl (!k), H', I', rfl, qz⟩))
  have one : wpAny (model X.prog X.w) X.A (tryCompare (.ref a) "__ne__" (.ref b)) (fun r s' => ∃ v, r = some v ∧ EP X pins σ Q v s') X.xe s := by
    unfold tryCompare callSpecialIfBound? bindSpecialIfBound?
    refine wpAny_bind (wpAny_holding (wpAny_bind (wpAny_bind (wpAny_bind (J.type.here ((PySem.W.looks_findIn I.kIn hn).here ?_))))))
    have fin : ∀ R : Option Value → Shared → Prop, (∀ (k : Bool) s', EP X pins σ Q (.bool k) s' → R (some (.bool k)) s') → wpAny (model X.prog X.w) X.A (call (.builtin "object.__ne__") ([.ref a] ++ [.ref b]) >>= fun v => pure (some v)) R X.xe s := fun R hR =>
      wpAny_bind (wpAny_mono call1 (fun v s' hv => wpAny_pure (by obtain ⟨k, rfl, hv⟩ := hv; exact hR k s' hv)) fun _ _ z => z)
    refine wpAny_bind (wpAny_askSetting (wpAny_ite ?_))
    split
    · exact wpAny_bind ((PySem.W.Looks.of_pure (PySem.F.cmp_object.ne.bind _)).here (wpAny_pure (fin _ fun k s' z => wpAny_pure ⟨_, rfl, z⟩)))
    · exact wpAny_tryCatch (wpAny_bind ((PySem.W.Looks.of_pure (PySem.F.cmp_object.ne.bind _)).here (wpAny_pure (fin _ fun k s' z => wpAny_pure ⟨_, rfl, z⟩))))
  unfold compareOp richCompare
  simp only [oneThing_ref]
  refine wpAny_holding (wpAny_bind (wpAny_cRoomFor hr.units0 ?_))
  refine wpAny_bind (J.type.here (wpAny_bind (J'.type.here ?_)))
  rw [show (Value.ref C != Value.ref C) = false from by simp]
  simp only [Bool.false_eq_true, if_false]
  refine wpAny_bind (wpAny_pure ?_)
  simp only [Bool.false_eq_true, if_false]
  refine wpAny_bind (wpAny_mono one (fun r s' z => ?_) fun _ _ e => e)
  obtain ⟨v, rfl, hq⟩ := z
  exact wpAny_pure hq

/-! ### i + x, i an int, by the own __radd__ -/
theorem int_add_ref {prog : Program} {w : World} {A : Around} {E : Value → Shared → Prop} {s : Shared} {i : Int} {t : Tok} {a : Addr} {C dx : Addr} {Q : Value → Shared → Prop} (ha : s.heap.get? a = some (PySem.W.instObj C dx)) (q : Q .notImplemented s) :
    wpAny (model prog w) A (call (.builtin "int.__add__") [.int i t, .ref a]) Q E s := by
  refine wpAny_call (codeAny_call_builtin PySem.F.slot_int_add.plain PySem.F.entry_int_add (PySem.F.slot_int_add.check _ _ _ _ _ _ _ _ (typeIs_int s i t) (PySem.F.args_int_add_2 _ _) ?_))
  show wpAny (model prog w) A.in1 (Builtin.«int.__add__» ⟨[.int i t, .ref a], []⟩) _ _ s
  unfold Builtin.«int.__add__»
  unfold PySem.Builtin.Int.intBinary
  refine wpAny_bind (m := slotArgs "__add__" 1 _) (wpAny_pure ?_)
  refine wpAny_bind (wpAny_pure ?_)
  refine wpAny_bind ?_
  show wpAny _ _ (asInt? (.ref a)) _ _ _
  unfold asInt?
  refine wpAny_bind (wpAny_load ha ?_)
  refine wpAny_pure ?_
  exact wpAny_bind (wpAny_rule (wpAny_pure q))

def rBinR (C : Addr) (sp : Sp) (E : XK) : R2 := fun y x H Q => ∃ a i, x = .ref a ∧ y = .int i ∧ IsIns C H a ∧ sp [.ref a, .int i] H Q E
theorem op_raddG {op : Operator} (hfl : fillsNumberSlot (.type "int") op.info.2 = pure true) (hsl : Slot "int" (PySem.dunder op.info.2) "int.__add__") (hc : PySem.W.selfFirst X.K C = true) {f' : Addr} (h0 : PySem.W.findIn X.K (.ref C) (PySem.dunder op.info.2) = some (some (.ref f')))
    (hs : PySem.W.findIn X.K (.ref C) (dunderR op.info.2) = some (some (.ref g))) (hf : PySem.W.isFn X.K (.ref g) = true)
    (hsub : PySem.W.subIn X.K (.ref C) (.type "int") = some false) (F : FnR X.prog X.w X.K X.mg X.base CX n g sp) (hr : Room n X.A) (hx : ∀ σ, PassesAt CX X σ E) : OpR X (binaryOp op) (rBinR C sp E) := by
  intro pins s σ H y x u v Q I ry rx h
  obtain ⟨a, i, rfl, rfl, ea, q⟩ := h
  cases (show v = Value.ref a from rx)
  obtain ⟨t, rfl⟩ := (show ∃ t, u = Value.int i t from ry)
  obtain ⟨dx, fs, ea'⟩ := id ea
  obtain ⟨mA, O, _⟩ := ins_get I.hok ea'
  obtain ⟨_, _, J⟩ := ins_inst I ea
  obtain ⟨cd, rest, hcd, hmro⟩ := PySem.W.ksp_first hc
  rcases hi : op.info with ⟨sym, nm⟩
  rw [hi] at hfl hsl h0 hs
  dsimp only at hfl hsl h0 hs
  have one := PySem.W.ksp_try (b := .int i t) I.kIn J hs hf (wpAny_mono (call_any (ws := [.ref a, .int i]) F hr rfl (hx σ) I (.cons rfl (.cons ⟨t, rfl⟩ .nil)) q) (fun _ _ z => back_of z) fun _ _ z => z)
  have La : PySem.W.Looks (model X.prog X.w) s.heap (fillsNumberSlot (.ref C) nm) true := PySem.W.fills_K I.kIn hcd hmro h0
  have Lb : PySem.W.Looks (model X.prog X.w) s.heap (isSubtype (.ref C) (.type "int")) false := PySem.W.looks_subIn I.kIn hsub
  have hne : (Value.type "int" == Value.ref C) = false := Bool.eq_false_iff.mpr fun q => by cases beq_iff_eq.mp q
  have first : wpAny (model X.prog X.w) X.A (tryMethod (.int i t) (PySem.dunder nm) (.ref a)) (fun r s' => r = none ∧ s' = s) X.xe s :=
    wpAny_tryMethod_declines (typeIs_int s i t) hsl (int_add_ref O.obj ⟨rfl, rfl, rfl⟩)
  have hpy : numberSlotInPython (.type "int") nm = pure false := rfl
  simp only [binaryOp, hi]
  refine wpAny_holding (wpAny_bind ?_)
  unfold binaryOp1
  refine wpAny_bind (wpAny_typeOf (typeIs_int s i t) (wpAny_bind (J.type.here (wpAny_bind (wpAny_of_eq hfl ?_)))))
  simp only [hne, Bool.false_eq_true, if_false]
  refine wpAny_bind (La.here ?_)
  simp only [Bool.and_self, if_true]
  refine wpAny_bind (Lb.here ?_)
  simp only [Bool.false_eq_true, if_false, pure_bind, Bool.not_false, Bool.and_self, if_true, hpy]
  refine wpAny_bind (wpAny_mono first (fun r s' z => ?_) fun _ _ z => z)
  obtain ⟨rfl, rfl⟩ := z
  dsimp only
  refine wpAny_bind (wpAny_mono one (fun r s' z => ?_) fun _ _ z => z)
  obtain ⟨v, rfl, hq⟩ := z
  exact wpAny_bind (wpAny_rule (wpAny_pure (wpAny_pure hq)))
theorem op_raddO (hc : PySem.W.selfFirst X.K C = true) {f' : Addr} (h0 : PySem.W.findIn X.K (.ref C) (PySem.dunder Operator.Add.info.2) = some (some (.ref f')))
    (hs : PySem.W.findIn X.K (.ref C) (dunderR Operator.Add.info.2) = some (some (.ref g))) (hf : PySem.W.isFn X.K (.ref g) = true)
    (hsub : PySem.W.subIn X.K (.ref C) (.type "int") = some false) (F : FnR X.prog X.w X.K X.mg X.base CX n g sp) (hr : Room n X.A) (hx : ∀ σ, PassesAt CX X σ E) : OpR X (binaryOp .Add) (rBinR C sp E) :=
  op_raddG (op := .Add) PySem.F.fills_int_add PySem.F.slot_int_add hc h0 hs hf hsub F hr hx
end
end Ab

namespace Ab
open PySem PySem.Spec PyProof.Rows L2

/-! ### promises that hold where no list is being shown -/
def FnG (P : Program) (w : World) (K : PySem.W.Frag) (mg : Str → Option Value) (base : Heap) (CX : CXT) (k : Nat) (f : Addr) (sp : Sp) : Prop :=
  ∀ (A : Around) (outer : List Env) (s : Shared) (H : Hp) (us : List Value) (vs : List V) (Q : VK) (E : XK), A.guards = some [] → Room k A → Env0 P w K mg base A outer s H →
    Vals vs us → sp vs H Q E → codeAny (model P w) A (.call (.ref f) ⟨us, []⟩) (CR CX outer P w H s Q E) s

section
variable {P : Program} {w : World} {K : PySem.W.Frag} {mg : Str → Option Value} {base : Heap}
theorem FnR.toG {CX : CXT} {k : Nat} {f : Addr} {sp : Sp} (F : FnR P w K mg base CX k f sp) : FnG P w K mg base CX k f sp :=
  fun A outer s H us vs Q E _ hr e0 r h => F A outer s H us vs Q E hr e0 r h
theorem FnG.mono {CX : CXT} {j k : Nat} {f : Addr} {sp : Sp} (F : FnG P w K mg base CX j f sp) (h : j ≤ k) : FnG P w K mg base CX k f sp := fun A outer s H us vs Q E hg hr => F A outer s H us vs Q E hg (hr.mono h)

/-- a def by its body, the guards told -/
theorem okG {x qual : Str} {st : Stmt} {f : Addr} {fd : FuncData} {N ps : List Str} {k : Nat} {sp : Sp} (F : Fun K x qual st f fd) (b : Binds K fd ps []) (S : FnScope N ps (defScope st)) (len : ∀ vs H Q E, sp vs H Q E → vs.length = ps.length)
    (hbody : ∀ (cdv : Value) (A : Around) (outer : List Env) (s : Shared) (H : Hp) (vs : List V) (Q : VK) (E : XK), A.guards = some [] → Room k (A.deeper (envOfC qual (defScope st) s.heap.objs.size f cdv)) → sp vs H Q E →
      ∃ t, PSs (cxOf CX0 P w K mg base N qual (defScope st) f cdv A outer s H E).nox (defBody st) t ∧ t { nx := fun _ H' => Q .non H', rt := Q } (start N vs) H) : FnG P w K mg base CX0 (k + 1) f sp := by
  obtain ⟨oc, od, kV, doc, pm, an, cdv, ct, osl, rfl, lk, hcd⟩ := F.ex
  intro A outer s H us vs Q E hg hr e0 r hsp
  have l1 := len _ _ _ _ hsp
  have l2 : (us ++ ([] : List Value)).length = ps.length := by
    rw [List.append_nil, ← r.length]
    exact l1
  have hKs : K.In s.heap := e0.mod.kin.keeps fun c o e => (e0.bs c o e).1
  have hLs : s.heap.NoLimit := e0.mod.nolimit.keeps fun c o e => (e0.bs c o e).1
  have hbs := b s us hKs l2
  rw [List.append_nil] at hbs
  have kinds : ∀ y ∈ ps.zip us, (defScope st).names.lookup y.1 = some .local ∨ ((defScope st).names.lookup y.1 = some .cell ∧ ((cellsFrom (s.heap.objs.size + 1) (defScope st).names []).lookup y.1).isSome = true) := by
    rintro ⟨n, v⟩ hy
    rcases S.par n (List.of_mem_zip hy).1 with q | q
    · exact .inl q
    · exact .inr ⟨q, PySem.W.cellsFrom_some _ _ _ (.inl q)⟩
  refine codeAny_call_function hr.depth (hKs _ _ lk) rfl S.co S.gen rfl
    (PySem.W.codeRec_of hKs hcd) (hbs _ _ _ _ ?_)
  refine wpAny_newFunctionEnv_cells S.kind kinds fun env he sN x => ?_
  subst he
  refine ⟨hLs.keeps x.toInCall.keep, codeAny_func ?_⟩
  obtain ⟨t, ht, hq⟩ := hbody cdv A outer s H vs Q E hg (hr.deeper _) hsp
  have I := inv_start (CX := CX0) (P := P) (w := w) (K := K) (mg := mg) (base := base) (E := E) S hr.hd e0 l1 r x
  refine wpAny_mono (ht.nox.run [] sN (start N vs) H _ I hq) (fun fl s' hs => ?_) fun e s' hs => hs
  cases fl with
  | next =>
    obtain ⟨σ', H', J, q⟩ := hs
    exact ⟨V.non, H', J.os, J.bare, J.base, J.hok, rfl, q⟩
  | ret u =>
    obtain ⟨v, σ', H', J, rv, q⟩ := hs
    exact ⟨v, H', J.os, J.bare, J.base, J.hok, rv, q⟩
  | brk =>
    obtain ⟨_, _, _, q⟩ := hs
    cases q
  | cont =>
    obtain ⟨_, _, _, q⟩ := hs
    cases q
end

theorem at0 {X : Cx} {σ : L2.St} {E : XK} : PassesAt CX0 X σ E := fun _ _ _ _ _ _ h => h.elim

section
variable {X : Cx} {CX : CXT} {pins : List (Addr × Obj)} {σ : L2.St} {H : Hp} {s : Shared} {f : Addr} {k : Nat} {sp : Sp} {E : XK}
theorem run_G {Q : VK} {us : List Value} {vs : List V} (F : FnG X.prog X.w X.K X.mg X.base CX k f sp) (hg : X.A.guards = some []) (hr : Room k X.A) (hx : PassesAt CX X σ E) (I : Inv X pins σ H s) (r : Vals vs us) (h : sp vs H Q E) :
    wpAny (model X.prog X.w) X.A (call (.ref f) us) (EP X pins σ Q) X.xe s := by
  refine wpAny_call (codeAny_mono (F X.A X.stack s H us vs Q E hg hr I.env0 r h) fun r s' hq => ?_)
  cases r with
  | error e => exact hx pins H s e s' I hq
  | ok fl =>
    cases fl with
    | ret u => exact I.after hq
    | next => exact False.elim hq
    | brk => exact False.elim hq
    | cont => exact False.elim hq

def tCallG (sp : Sp) (E : XK) (t : TA) : TE := fun σ H Q => t σ H fun vs H1 => sp vs H1 Q E
/-- f(e, ..) of a def of the text, its promise as FnG -/
theorem pe_callG {x : Str} {p pos : Pos} {e : Expr} {es : List Expr} {t : TA} (F : FnG X.prog X.w X.K X.mg X.base CX k f sp) (hg : X.A.guards = some []) (hr : Room k X.A) (hgl : Gl X x) (hm : X.mg x = some (.ref f)) (hk : PySem.W.keepIn X.K (.ref f) = true) (hx : ∀ σ, PassesAt CX X σ E)
    (ha : PA X (e :: es) t) (hdb : (x == ("__debug__" : Str)) = false := by decide) (he : starEach (e :: es) X.env = (false, eval e X.env) :: starEach es X.env := by rfl) (hpl : (backTo pos (starEach es X.env)).any (·.1) = false := by rfl) :
    PE X (.Call (.Name x p) (e :: es) [] pos) (tCallG sp E t) := by
  refine ⟨fun pins s σ H Q I h => wpAny_Call_Name_kw (ld_glob I hgl hm ?_ hdb)⟩
  refine PySem.W.callWith_K (h₀ := X.base) I.ok.mod.kin hk (thn (ha.run pos pins s σ H _ I h) fun us s1 hh => ?_) he hpl
  obtain ⟨vs, H1, I1, r, q⟩ := hh
  exact ⟨I1.kIn, run_G F hg hr (hx σ) I1 r q⟩
/-- the same of a promise that asks nothing of the guards -/
theorem pe_callR {x : Str} {p pos : Pos} {e : Expr} {es : List Expr} {t : TA} (F : FnR X.prog X.w X.K X.mg X.base CX k f sp) (hr : Room k X.A) (hgl : Gl X x) (hm : X.mg x = some (.ref f)) (hk : PySem.W.keepIn X.K (.ref f) = true) (hx : ∀ σ, PassesAt CX X σ E)
    (ha : PA X (e :: es) t) (hdb : (x == ("__debug__" : Str)) = false := by decide) (he : starEach (e :: es) X.env = (false, eval e X.env) :: starEach es X.env := by rfl) (hpl : (backTo pos (starEach es X.env)).any (·.1) = false := by rfl) :
    PE X (.Call (.Name x p) (e :: es) [] pos) (tCallG sp E t) := by
  refine ⟨fun pins s σ H Q I h => wpAny_Call_Name_kw (ld_glob I hgl hm ?_ hdb)⟩
  refine PySem.W.callWith_K (h₀ := X.base) I.ok.mod.kin hk (thn (ha.run pos pins s σ H _ I h) fun us s1 hh => ?_) he hpl
  obtain ⟨vs, H1, I1, r, q⟩ := hh
  exact ⟨I1.kIn, call_any F hr rfl (hx σ) I1 r q⟩
end

/-! ### repr of a list of scalars -/
/-- a scalar that is shown: an int of a known size, a bool, None, a text -/
def flatV : V → Option PyData
  | .non => some .none
  | .bl b => some (.bool b)
  | .int i => some (.int i)
  | .str x => some (.str x)
  | _ => none
def flatL : List V → Option (List PyData)
  | [] => some []
  | x :: r => (flatV x).bind fun d => (flatL r).map (d :: ·)
theorem reads_flat {h : Heap} {x : V} {u : Value} {d : PyData} (r : RelV x u) (e : flatV x = some d) : Reads h u d [] ∧ d.hasDict = false ∧ d.depth = 0 := by
  cases x <;> simp [flatV] at e
  · subst e; cases (show u = Value.none from r); exact ⟨.none, rfl, rfl⟩
  · subst e; cases (show u = Value.bool _ from r); exact ⟨.bool _, rfl, rfl⟩
  · subst e; obtain ⟨t, rfl⟩ := (show ∃ t, u = Value.int _ t from r); exact ⟨.int _ _, rfl, rfl⟩
  · subst e; obtain ⟨t, rfl⟩ := (show ∃ t, u = Value.str _ t from r); exact ⟨.str _ _, rfl, rfl⟩
theorem readsL_flat {h : Heap} : ∀ {xs : List V} {us : List Value} {ds : List PyData}, Vals xs us → flatL xs = some ds → ReadsAll h us ds [] ∧ PyData.hasDictAll ds = false ∧ PyData.depthAll ds = 0
  | _, _, _, .nil, e => by
    cases e
    exact ⟨.nil, rfl, rfl⟩
  | _, _, _, .cons (a := x) (l₁ := xs) r t, e => by
    rw [flatL] at e
    cases ex : flatV x with
    | none => rw [ex] at e; cases e
    | some d =>
      cases el : flatL xs with
      | none => rw [ex, el] at e; cases e
      | some l =>
        rw [ex, el] at e
        cases e
        obtain ⟨r1, h1, d1⟩ := reads_flat (h := h) r ex
        obtain ⟨r2, h2, d2⟩ := readsL_flat (h := h) t el
        refine ⟨.cons (as := []) (bs := []) r1 r2, ?_, ?_⟩
        · rw [PyData.hasDictAll, h1, h2]
          rfl
        · rw [PyData.depthAll, d1, d2]
          rfl
/-- repr(l), l a list of scalars -/
def rReprL : List V → Hp → VK → Prop := fun xs H Q => ∃ a vs ds, xs = [.ref a] ∧ H a = some (.lst vs) ∧ flatL vs = some ds ∧ (PyData.list ds).showable = true ∧ (PyData.list ds).shown.length ≤ sizeLine ∧ Q (.str (PyData.list ds).shown) H
theorem call_reprL {X : Cx} {k : Nat} (hg : X.A.guards = some []) (hr : Room k X.A) : CallR X (.builtin "repr") rReprL := by
  intro pins s σ H xs us Q I r h
  obtain ⟨a, vs, ds, rfl, ea, hf, hs, hz, q⟩ := h
  obtain ⟨u, rfl, ru⟩ := r.one
  cases (show u = Value.ref a from ru)
  obtain ⟨_, its, n, rv, eh⟩ := I.hok a _ ea
  obtain ⟨ra, hd, hdep⟩ := readsL_flat (h := s.heap) rv hf
  have rd : Reads s.heap (.ref a) (.list ds) [a] := .list eh rfl rfl (by simpa using ra)
  have hnd : (PyData.list ds).hasDict = false := by rw [PyData.hasDict]; exact hd
  have hdp : (PyData.list ds).depth = 1 := by rw [PyData.depth, hdep]
  refine repr_of_reads' rd hs (PyData.noDict_hsm hnd) hg (by have := hr.units; rw [hdp]; omega) (fun _ _ e => e) (fun h' u tk hk => ?_) hz
  exact ⟨.str _, H, I.kept hk, ⟨u, rfl⟩, q⟩
end Ab

namespace Ab
open PySem PySem.Spec PyProof.Rows L2

/-! ### the numbers and the texts stay small -/
def Bd (i : Int) : Prop := i.natAbs < 10 ^ 60
theorem Bd.log {i : Int} (h : Bd i) : i.natAbs.log2 < 1920 := by
  by_cases z : i.natAbs = 0
  · rw [z]; decide
  · exact (Nat.log2_lt z).mpr (Nat.lt_trans h (by decide +kernel))
theorem Bd.len {i : Int} (h : Bd i) : (toString i : Str).length ≤ 61 := by
  show (Str.ofString (toString i)).length ≤ 61
  rw [PySem.ofString_length]
  exact int_text_length_le10 (k := 60) (by decide) h
theorem Bd.of {i : Int} (h1 : -10 ^ 59 < i) (h2 : i < 10 ^ 59) : Bd i := by unfold Bd; omega

/-- signs as Python has them -/
def Sg (x : Str) : Prop := ∀ c ∈ x.cps.toList, c < 16 ^ 8
theorem sg_of (x : String) : Sg (Str.ofString x) := by
  intro c hc
  rw [Str.ofString_eq_toList] at hc
  simp only [List.toList_toArray, List.mem_map] at hc
  obtain ⟨d, _, rfl⟩ := hc
  exact d.val.toNat_lt
theorem Sg.app {x y : Str} (hx : Sg x) (hy : Sg y) : Sg (x ++ y) := by
  intro c hc
  have e : (x ++ y).cps = x.cps ++ y.cps := rfl
  rw [e, Array.toList_append] at hc
  rcases List.mem_append.mp hc with h | h
  · exact hx c h
  · exact hy c h
theorem empty_app (x : Str) : Str.empty ++ x = x := by
  show (⟨#[] ++ x.cps⟩ : Str) = x
  rw [Array.empty_append]

/-- str and repr of a span -/
def tStr (lo hi : Int) : Str := ((toString lo : Str) ++ (".." : Str)) ++ (toString hi : Str)
def tRep (lo hi : Int) : Str := (((("Span(" : Str) ++ (toString lo : Str)) ++ (", " : Str)) ++ (toString hi : Str)) ++ (")" : Str)
theorem tStr_len {lo hi : Int} (h1 : Bd lo) (h2 : Bd hi) : (tStr lo hi).length ≤ 200 := by
  unfold tStr
  rw [strLen_append, strLen_append]
  have := h1.len
  have := h2.len
  have e : (".." : Str).length = 2 := by decide +kernel
  omega
theorem tRep_len {lo hi : Int} (h1 : Bd lo) (h2 : Bd hi) : (tRep lo hi).length ≤ 200 := by
  unfold tRep
  rw [strLen_append, strLen_append, strLen_append, strLen_append]
  have := h1.len
  have := h2.len
  have e : ("Span(" : Str).length = 5 := by decide +kernel
  have e2 : (", " : Str).length = 2 := by decide +kernel
  have e3 : (")" : Str).length = 1 := by decide +kernel
  omega
theorem tStr_sg {lo hi : Int} : Sg (tStr lo hi) := ((sg_of _).app (sg_of _)).app (sg_of _)
theorem tRep_sg {lo hi : Int} : Sg (tRep lo hi) := ((((sg_of _).app (sg_of _)).app (sg_of _)).app (sg_of _)).app (sg_of _)

/-- a datum whose text is short -/
def Sh (d : PyData) : Prop := d.showable = true ∧ d.shown.length ≤ 2010
theorem sh_int {i : Int} (h : Bd i) : Sh (.int i) := by
  refine ⟨?_, ?_⟩
  · rw [PyData.showable]; exact decide_eq_true h.log
  · rw [PyData.shown]; have := h.len; omega
theorem sh_bl (b : Bool) : Sh (.bool b) := by
  refine ⟨by rw [PyData.showable], ?_⟩
  rw [PyData.shown]
  cases b <;> decide +kernel
theorem sh_str {x : Str} (h : x.length ≤ 200) (s : Sg x) : Sh (.str x) := by
  refine ⟨by rw [PyData.showable], ?_⟩
  rw [PyData.shown]
  have := PySem.StrLaws.reprText_len x s
  omega
theorem sh_all : ∀ {ds : List PyData}, (∀ d ∈ ds, Sh d) → PyData.showableAll ds = true
  | [], _ => by rw [PyData.showableAll]
  | d :: r, h => by
    rw [PyData.showableAll, (h d (List.Mem.head _)).1, sh_all fun e he => h e (List.Mem.tail _ he)]
    rfl
theorem text_len : ∀ (ts : List Str) (k : Nat) (acc : Str), (∀ t ∈ ts, t.length ≤ 2010) → (textFrom k acc ts).length ≤ acc.length + 2012 * ts.length
  | [], _, acc, _ => by show acc.length ≤ acc.length + 2012 * 0; omega
  | t :: r, k, acc, h => by
    have ih := text_len r (k + 1) (acc ++ (if k > 0 then ", " else "" : String) ++ t) fun x hx => h x (List.Mem.tail _ hx)
    have ht := h t (List.Mem.head _)
    have e : (acc ++ (if k > 0 then ", " else "" : String) ++ t).length ≤ acc.length + 2 + t.length := by
      rw [strLen_append, strLen_append]
      split
      · show acc.length + (", " : Str).length + t.length ≤ _
        have e2 : (", " : Str).length = 2 := by decide +kernel
        omega
      · show acc.length + ("" : Str).length + t.length ≤ _
        have e2 : ("" : Str).length = 0 := by decide +kernel
        omega
    show (textFrom (k + 1) (acc ++ (if k > 0 then ", " else "" : String) ++ t) r).length ≤ _
    rw [List.length_cons]
    omega
theorem shownAll_mem : ∀ {ds : List PyData}, (∀ d ∈ ds, Sh d) → ∀ t ∈ PyData.shownAll ds, t.length ≤ 2010
  | [], _, t, ht => by rw [PyData.shownAll] at ht; cases ht
  | d :: r, h, t, ht => by
    rw [PyData.shownAll] at ht
    rcases List.mem_cons.mp ht with rfl | ht
    · exact (h d (List.Mem.head _)).2
    · exact shownAll_mem (fun e he => h e (List.Mem.tail _ he)) t ht
theorem shownAll_length : ∀ ds : List PyData, (PyData.shownAll ds).length = ds.length
  | [] => by rw [PyData.shownAll]; rfl
  | d :: r => by rw [PyData.shownAll, List.length_cons, shownAll_length r, List.length_cons]
theorem sh_list {ds : List PyData} (h : ∀ d ∈ ds, Sh d) (hl : ds.length ≤ 1000) : (PyData.list ds).showable = true ∧ (PyData.list ds).shown.length ≤ sizeLine := by
  refine ⟨by rw [PyData.showable]; exact sh_all h, ?_⟩
  rw [PyData.shown]
  show (textFrom 0 "[" (PyData.shownAll ds) ++ "]" : Str).length ≤ _
  have := text_len (PyData.shownAll ds) 0 "[" (shownAll_mem h)
  rw [shownAll_length] at this
  rw [strLen_append, sizeLine_eq]
  have e1 : ("[" : Str).length = 1 := by decide +kernel
  have e2 : ("]" : Str).length = 1 := by decide +kernel
  omega
theorem sh_nil : ∀ d ∈ ([] : List PyData), Sh d := fun _ h => nomatch h
theorem sh_cons {d : PyData} {ds : List PyData} (h : Sh d) (r : ∀ e ∈ ds, Sh e) : ∀ e ∈ d :: ds, Sh e := fun e he => by
  rcases List.mem_cons.mp he with rfl | he
  · exact h
  · exact r e he

/-- repr(l) of a list of scalars whose texts are short -/
def rRep (k : Nat) : List V → Hp → VK → Prop := fun xs H Q => ∃ a vs ds, xs = [.ref a] ∧ H a = some (.lst vs) ∧ flatL vs = some ds ∧ (∀ d ∈ ds, Sh d) ∧ ds.length ≤ 1000 ∧ Q (.str (PyData.list ds).shown) H
theorem call_rep {X : Cx} {k : Nat} (hg : X.A.guards = some []) (hr : Room k X.A) : CallR X (.builtin "repr") (rRep k) := by
  intro pins s σ H xs us Q I r ⟨a, vs, ds, e, ea, hf, hs, hl, q⟩
  obtain ⟨h1, h2⟩ := sh_list hs hl
  exact call_reprL hg hr pins s σ H xs us Q I r ⟨a, vs, ds, e, ea, hf, h1, h2, q⟩
end Ab

namespace Ab
open PySem PySem.Spec PyProof.Rows L2

/-! ### the text by places -/
def top (i : Nat) : Stmt := PySem.Challenge.pw_abreast_k11_whole_spans_by_own_sums.main.body.getD i (.Pass ⟨0, 0, 0, 0⟩)
abbrev sIsInt : Stmt := top 10
abbrev sWantLevel : Stmt := top 11
abbrev sp' (j : Nat) : Stmt := inClass (top 13) j
abbrev sWantSpan : Stmt := top 14

section
variable {P : Program} {w : World} {K : PySem.W.Frag} {mg : Str → Option Value} {base : Heap}
theorem okR {x qual : Str} {st : Stmt} {f : Addr} {fd : FuncData} {N ps : List Str} {k : Nat} {sp : Sp} (F : Fun K x qual st f fd) (b : Binds K fd ps []) (S : FnScope N ps (defScope st)) (len : ∀ vs H Q E, sp vs H Q E → vs.length = ps.length)
    (hbody : ∀ (cdv : Value) (A : Around) (outer : List Env) (s : Shared) (H : Hp) (vs : List V) (Q : VK) (E : XK), Room k (A.deeper (envOfC qual (defScope st) s.heap.objs.size f cdv)) → sp vs H Q E →
      ∃ t, PSs (cxOf CX0 P w K mg base N qual (defScope st) f cdv A outer s H E).nox (defBody st) t ∧ t { nx := fun _ H' => Q .non H', rt := Q } (start N vs) H) : FnR P w K mg base CX0 (k + 1) f sp :=
  ((F.ok S len hbody).raw b .nil).imp fun vs H Q E h => by rw [List.append_nil]; exact h
end


/-! ### a span by its ends -/
def sf (lo hi : Int) : List (Str × V) := putF "own_high" (.int hi) (putF "own_low" (.int lo) [])
theorem lh_ : ¬ (("own_low" : Str) = "own_high") := by decide +kernel
theorem hl_ : ¬ (("own_high" : Str) = "own_low") := by decide +kernel
theorem sf_lo (lo hi : Int) : (sf lo hi).lookup ("own_low" : Str) = some (.int lo) := by
  unfold sf
  rw [lookup_putF, if_neg lh_, lookup_putF, if_pos rfl]
theorem sf_hi (lo hi : Int) : (sf lo hi).lookup ("own_high" : Str) = some (.int hi) := by
  unfold sf
  rw [lookup_putF, if_pos rfl]
theorem sf_no (lo hi : Int) {m : Str} (h1 : ¬ m = "own_low") (h2 : ¬ m = "own_high") : (sf lo hi).lookup m = none := by
  unfold sf
  rw [lookup_putF, if_neg h2, lookup_putF, if_neg h1]
  rfl
def SpanAt (C : Addr) (H : Hp) (a : Addr) (lo hi : Int) : Prop := ∃ dx, H a = some (.ins C dx (sf lo hi))
theorem SpanAt.ins {C : Addr} {H : Hp} {a : Addr} {lo hi : Int} (h : SpanAt C H a lo hi) : IsIns C H a := by
  obtain ⟨dx, h⟩ := h
  exact ⟨dx, _, h⟩
theorem SpanAt.ext {C : Addr} {H H' : Hp} {a : Addr} {lo hi : Int} (h : SpanAt C H a lo hi) (e : Ext H H') : SpanAt C H' a lo hi := by
  obtain ⟨dx, h⟩ := h
  exact ⟨dx, e _ _ h⟩
/-- a new span, whatever else is laid beside it -/
def NewSpan (C : Addr) (H : Hp) (lo hi : Int) (Q : VK) : Prop := ∀ a H', Ext H H' → SpanAt C H' a lo hi → Q (.ref a) H'
theorem NewSpan.ext {C : Addr} {H H1 : Hp} {lo hi : Int} {Q : VK} (h : NewSpan C H lo hi Q) (e : Ext H H1) : NewSpan C H1 lo hi Q := fun a H' e' s => h a H' (e.trans e') s

/-! ### which def a name of the module stands for -/
structure Got (K : PySem.W.Frag) (mg : Str → Option Value) (x : Str) (f : Addr) : Prop where
  gl : mg x = some (.ref f)
  kp : PySem.W.keepIn K (.ref f) = true
section
variable {X : Cx} {k : Nat} {f : Addr} {sp : Sp} {x : Str} {p pos : Pos} {e : Expr} {es : List Expr} {t : TA}
theorem pe_to (G : Got X.K X.mg x f) (F : FnR X.prog X.w X.K X.mg X.base CX0 k f sp) (hr : Room k X.A) (ha : PA X (e :: es) t) (hg : Gl X x := by rfl) (hdb : (x == ("__debug__" : Str)) = false := by decide)
    (he : starEach (e :: es) X.env = (false, eval e X.env) :: starEach es X.env := by rfl) (hpl : (backTo pos (starEach es X.env)).any (·.1) = false := by rfl) : PE X (.Call (.Name x p) (e :: es) [] pos) (tCallG sp E0 t) :=
  pe_callR F hr hg G.gl G.kp (fun _ => at0) ha hdb he hpl
theorem pe_toG (G : Got X.K X.mg x f) (F : FnG X.prog X.w X.K X.mg X.base CX0 k f sp) (hgs : X.A.guards = some []) (hr : Room k X.A) (ha : PA X (e :: es) t) (hg : Gl X x := by rfl) (hdb : (x == ("__debug__" : Str)) = false := by decide)
    (he : starEach (e :: es) X.env = (false, eval e X.env) :: starEach es X.env := by rfl) (hpl : (backTo pos (starEach es X.env)).any (·.1) = false := by rfl) : PE X (.Call (.Name x p) (e :: es) [] pos) (tCallG sp E0 t) :=
  pe_callG F hgs hr hg G.gl G.kp (fun _ => at0) ha hdb he hpl
end

/-- what the proofs ask of the written part -/
structure Txt (K : PySem.W.Frag) (mg : Str → Option Value) (C : Addr) : Prop where
  cl : Cls K C
  nLo : NoAttr K C "own_low"
  nHi : NoAttr K C "own_high"
  mgC : mg "Span" = some (.ref C)
  b_isinstance : mg "isinstance" = none
  b_int : mg "int" = none
  b_bool : mg "bool" = none
  b_max : mg "max" = none
  b_min : mg "min" = none
  b_len : mg "len" = none
  b_str : mg "str" = none
  b_repr : mg "repr" = none
  b_abs : mg "abs" = none
  b_divmod : mg "divmod" = none
  b_tuple : mg "tuple" = none
  b_sorted : mg "sorted" = none
  b_range : mg "range" = none
  b_enumerate : mg "enumerate" = none
  b_all : mg "all" = none
  kca : PySem.W.findIn K (.ref C) "__class__" = some (some (.builtin "object.__class__"))
  kcn : PySem.W.specialIn K (.builtin "object.__class__") "__get__" = some (some (.builtin "getset_descriptor.__get__"))
  kct : PySem.W.takesIn K (.builtin "object.__class__") = some true
  kcm : PySem.W.mroIn K C (.type "object") = some true
  kInt : PySem.W.kitOne K (.ref C) (.type "int") = some false
  kBool : PySem.W.kitOne K (.ref C) (.type "bool") = some false
  kSelf : PySem.W.kitOne K (.ref C) (.ref C) = some true

/-! ### readings of a span's fields -/
section
variable {X : Cx} {C : Addr} {e : Expr} {ta : TE} {pos : Pos}
def tLo (C : Addr) (ta : TE) : TE := fun σ H Q => ta σ H fun x H1 => ∃ a lo hi, x = .ref a ∧ SpanAt C H1 a lo hi ∧ Q (.int lo) H1
def tHi (C : Addr) (ta : TE) : TE := fun σ H Q => ta σ H fun x H1 => ∃ a lo hi, x = .ref a ∧ SpanAt C H1 a lo hi ∧ Q (.int hi) H1
theorem PE.imp {e : Expr} {t u : TE} (h : PE X e t) (i : ∀ σ H Q, u σ H Q → t σ H Q) : PE X e u := ⟨fun pins s σ H Q I hw => h.run pins s σ H Q I (i σ H Q hw)⟩
/-- a reading keeps what follows -/
def MonT (ta : TE) : Prop := ∀ σ H (Q Q' : VK), (∀ x H1, Q x H1 → Q' x H1) → ta σ H Q → ta σ H Q'
theorem mono_var {i : Nat} : MonT (tVar i) := fun σ H Q Q' h ⟨v, e, q⟩ => ⟨v, e, h _ _ q⟩
theorem pe_lo (T : Txt X.K X.mg C) (he : PE X e ta) (hm : MonT ta := by exact mono_var) (hb : attributeBase e "own_low" X.env (eval e X.env) = eval e X.env := by rfl) : PE X (.Attribute e "own_low" pos) (tLo C ta) :=
  PE.imp (pe_fld he hb) fun σ H Q h => hm _ _ _ _ (fun x H1 ⟨a, lo, hi, ex, ⟨dx, ea⟩, q⟩ => ⟨a, C, dx, _, _, ex, ea, T.cl, T.nLo, sf_lo _ _, q⟩) h
theorem pe_hi (T : Txt X.K X.mg C) (he : PE X e ta) (hm : MonT ta := by exact mono_var) (hb : attributeBase e "own_high" X.env (eval e X.env) = eval e X.env := by rfl) : PE X (.Attribute e "own_high" pos) (tHi C ta) :=
  PE.imp (pe_fld he hb) fun σ H Q h => hm _ _ _ _ (fun x H1 ⟨a, lo, hi, ex, ⟨dx, ea⟩, q⟩ => ⟨a, C, dx, _, _, ex, ea, T.cl, T.nHi, sf_hi _ _, q⟩) h
end

/-! ### the order of pairs -/
def pairCmp (op : CmpOp) (a b c d : Int) : Bool := match op with
  | .Lt => if a = c then decide (b < d) else decide (a < c)
  | .LtE => if a = c then decide (b ≤ d) else decide (a ≤ c)
  | .Gt => if a = c then decide (d < b) else decide (c < a)
  | .GtE => if a = c then decide (d ≤ b) else decide (c ≤ a)
  | _ => decide (a = c ∧ b = d)
def rPair (g : Int → Int → Int → Int → Bool) : R2 := fun x y H Q => ∃ p q a b c d, x = .ref p ∧ y = .ref q ∧ H p = some (.tup [.int a, .int b]) ∧ H q = some (.tup [.int c, .int d]) ∧ Q (.bl (g a b c d)) H
section
variable {X : Cx}
theorem pair_at {pins : List (Addr × Obj)} {σ : L2.St} {H : Hp} {s : Shared} {p : Addr} {a b : Int} (I : Inv X pins σ H s) (h : H p = some (.tup [.int a, .int b])) : ∃ t u, s.heap.IsTuple p #[.int a t, .int b u] := by
  obtain ⟨_, its, r, z⟩ := I.hok p _ h
  cases r with
  | cons r1 r =>
    cases r with
    | cons r2 r =>
      cases r
      obtain ⟨t, rfl⟩ := r1
      obtain ⟨u, rfl⟩ := r2
      exact ⟨t, u, z⟩
theorem dec_eq {a b : Int} : (a == b) = decide (a = b) := by
  rw [Bool.eq_iff_iff]
  simp
theorem pair_eqs {A : Around} {s : Shared} {a b c d : Int} {t u t' u' : Tok} : ∀ j (h1 : j < (#[Value.int a t, Value.int b u] : Array Value).size) (h2 : j < (#[Value.int c t', Value.int d u'] : Array Value).size),
    SeqAt.EqAt A s (#[Value.int a t, Value.int b u])[j] (#[Value.int c t', Value.int d u'])[j] ((fun j => if j = 0 then (a == c) else (b == d)) j)
  | 0, _, _ => SeqAt.EqAt.int_int _ _ _ _
  | 1, _, _ => SeqAt.EqAt.int_int _ _ _ _
  | n + 2, h, _ => absurd h (by simp)
theorem op_pair {op : CmpOp} (h : op = .Lt ∨ op = .LtE ∨ op = .Gt ∨ op = .GtE) (hu : X.A.units < cLine) : OpR X (compareOp op) (rPair (pairCmp op)) := by
  intro pins s σ H x y v u Q I rx ry hq
  obtain ⟨p, q, a, b, c, d, rfl, rfl, hp, hq', k⟩ := hq
  cases (show v = Value.ref p from rx)
  cases (show u = Value.ref q from ry)
  obtain ⟨t1, t2, T1⟩ := pair_at I hp
  obtain ⟨t3, t4, T2⟩ := pair_at I hq'
  have fin : ∀ r : Bool, r = pairCmp op a b c d → EP X pins σ Q (.bool r) s := fun r e => by
    subst e
    exact ⟨.bl _, H, I, rfl, k⟩
  rcases h with rfl | rfl | rfl | rfl
  · exact Ob.RcOp.tuples_lt (e := fun j => if j = 0 then (a == c) else (b == d)) (r := fun j => if j = 0 then decide (a < c) else decide (b < d)) T1 T2 hu pair_eqs
      (fun j h1 h2 _ => match j, h1, h2 with | 0, _, _ => Ob.RcOp.lt_int _ _ _ _ | 1, _, _ => Ob.RcOp.lt_int _ _ _ _ | _ + 2, h, _ => absurd h (by simp)) X.prog X.w X.xe _ (fin _ (by
        simp [Ob.lexAt, pairCmp]; split <;> simp_all <;> omega))
  · exact Ob.RcOp.tuples_le (e := fun j => if j = 0 then (a == c) else (b == d)) (r := fun j => if j = 0 then decide (a ≤ c) else decide (b ≤ d)) T1 T2 hu pair_eqs
      (fun j h1 h2 _ => match j, h1, h2 with | 0, _, _ => Ob.RcOp.le_int _ _ _ _ | 1, _, _ => Ob.RcOp.le_int _ _ _ _ | _ + 2, h, _ => absurd h (by simp)) X.prog X.w X.xe _ (fin _ (by
        simp [Ob.lexAt, pairCmp]; split <;> simp_all <;> omega))
  · exact Ob.RcOp.tuples_gt (e := fun j => if j = 0 then (a == c) else (b == d)) (r := fun j => if j = 0 then decide (c < a) else decide (d < b)) T1 T2 hu pair_eqs
      (fun j h1 h2 _ => match j, h1, h2 with | 0, _, _ => Ob.RcOp.gt_int _ _ _ _ | 1, _, _ => Ob.RcOp.gt_int _ _ _ _ | _ + 2, h, _ => absurd h (by simp)) X.prog X.w X.xe _ (fin _ (by
        simp [Ob.lexAt, pairCmp]; split <;> simp_all <;> omega))
  · exact Ob.RcOp.tuples_ge (e := fun j => if j = 0 then (a == c) else (b == d)) (r := fun j => if j = 0 then decide (c ≤ a) else decide (d ≤ b)) T1 T2 hu pair_eqs
      (fun j h1 h2 _ => match j, h1, h2 with | 0, _, _ => Ob.RcOp.ge_int _ _ _ _ | 1, _, _ => Ob.RcOp.ge_int _ _ _ _ | _ + 2, h, _ => absurd h (by simp)) X.prog X.w X.xe _ (fin _ (by
        simp [Ob.lexAt, pairCmp]; split <;> simp_all <;> omega))
theorem dp_pair {K : PySem.W.Frag} {H : Hp} {p : Addr} {a b : Int} (h : H p = some (.tup [.int a, .int b])) : Dp K H (.ref p) (.tuple [.int a, .int b]) := .tup (.of h) (.cons (.int _) (.cons (.int _) .nil))
theorem eqv_pair {a b c d : Int} : PyData.eqv (.tuple [.int a, .int b]) (.tuple [.int c, .int d]) = decide (a = c ∧ b = d) := by
  simp [PyData.eqv, PyData.eqvAll, dec_eq]
theorem op_pairEq (hu : X.A.units + 64 < cLine) : OpR X (compareOp .Eq) (rPair (pairCmp .Eq)) := by
  intro pins s σ H x y v u Q I rx ry ⟨p, q, a, b, c, d, ex, ey, hp, hq, k⟩
  subst ex ey
  exact op_eqD hu pins s σ H _ _ v u Q I rx ry ⟨_, _, dp_pair hp, dp_pair hq, rfl, rfl, by rw [eqv_pair]; exact k⟩
theorem op_pairNe (hu : X.A.units + 64 < cLine) : OpR X (compareOp .NotEq) (rPair fun a b c d => !pairCmp .Eq a b c d) := by
  intro pins s σ H x y v u Q I rx ry ⟨p, q, a, b, c, d, ex, ey, hp, hq, k⟩
  subst ex ey
  exact op_neD hu pins s σ H _ _ v u Q I rx ry ⟨_, _, dp_pair hp, dp_pair hq, rfl, rfl, by rw [eqv_pair]; exact k⟩
end
end Ab

namespace Ab
open PySem PySem.Spec PyProof.Rows L2

section
variable {P : Program} {w : World} {K : PySem.W.Frag} {mg : Str → Option Value} {base : Heap} {C : Addr}
theorem Txt.ty {H : Hp} {a : Addr} (T : Txt K mg C) (h : IsIns C H a) : TyX K H (.ref a) (.ref C) := by
  obtain ⟨dx, fs, h⟩ := h
  exact .base (.ins h T.cl T.kca T.kcn T.kct T.kcm)

/-! ### basics -/
def spIsInt (K : PySem.W.Frag) : Sp := fun vs H Q _ => ∃ x t b1 b2, vs = [x] ∧ TyX K H x t ∧ PySem.W.kitOne K t (.type "int") = some b1 ∧ PySem.W.kitOne K t (.type "bool") = some b2 ∧ Q (.bl (b1 && !b2)) H
theorem scIsInt : FnScope ["value"] ["value"] (defScope sIsInt) := ⟨rfl, rfl, rfl, by decide +kernel, rfl, by decide +kernel, by decide +kernel⟩
theorem ok_isInt {f : Addr} {fd : FuncData} (F : Fun K "is_integer" "is_integer" sIsInt f fd) (b : Binds K fd ["value"] []) (T : Txt K mg C) : FnR P w K mg base CX0 1 f (spIsInt K) := by
  refine okR F b scIsInt (fun vs H Q E h => ?_) (fun cdv A outer s H vs Q E hr h => ?_)
  · obtain ⟨x, t, b1, b2, rfl, _⟩ := h
    rfl
  · obtain ⟨x, t, b1, b2, rfl, ty, h1, h2, q⟩ := h
    refine ⟨_, pss_one (ps_ret (pe_and (pe_callB call_isi rfl T.b_isinstance rfl (pa_cons (pv 0) (pa_cons (pe_bltn rfl T.b_int rfl (v := .ty "int") rfl) pa_nil)))
      (pe_one (pe_not (pe_callB call_isi rfl T.b_isinstance rfl (pa_cons (pv 0) (pa_cons (pe_bltn rfl T.b_bool rfl (v := .ty "bool") rfl) pa_nil))))))), ?_⟩
    refine ⟨x, rfl, x, .ty "int", t, .type "int", b1, rfl, .ty _, ty, h1, b1, rfl, ?_⟩
    cases b1 with
    | false => exact iteF q
    | true => exact iteT ⟨x, rfl, x, .ty "bool", t, .type "bool", b2, rfl, .ty _, ty, h2, b2, rfl, q⟩
theorem ii_int : PySem.W.kitOne K (.type "int") (.type "int") = some true := kit_ty (by decide +kernel)
theorem ib_int : PySem.W.kitOne K (.type "int") (.type "bool") = some false := kit_ty (by decide +kernel)

def spWantLevel : Sp := fun vs H Q _ => ∃ i : Int, vs = [.int i] ∧ Q .non H
theorem scWantLevel : FnScope ["value"] ["value"] (defScope sWantLevel) := ⟨rfl, rfl, rfl, by decide +kernel, rfl, by decide +kernel, by decide +kernel⟩
theorem ok_wantLevel {f g : Addr} {fd : FuncData} (F : Fun K "want_level" "want_level" sWantLevel f fd) (b : Binds K fd ["value"] []) (T : Txt K mg C) (G : Got K mg "is_integer" g) (GF : FnR P w K mg base CX0 1 g (spIsInt K)) : FnR P w K mg base CX0 2 f spWantLevel := by
  refine okR F b scWantLevel (fun vs H Q E h => ?_) (fun cdv A outer s H vs Q E hr h => ?_)
  · obtain ⟨i, rfl, _⟩ := h
    rfl
  · obtain ⟨i, rfl, q⟩ := h
    refine ⟨_, pss_one (ps_if (pt_not (pt_val (pe_to G GF hr (pa_cons (pv 0) pa_nil)))) (pss_one ps_never) pss_nil), ?_⟩
    exact ⟨.int i, rfl, .int i, .type "int", true, false, rfl, .base (.int i), ii_int, ib_int, true, rfl, iteF q⟩

def spWantSpan (C : Addr) : Sp := fun vs H Q _ => ∃ a, vs = [.ref a] ∧ IsIns C H a ∧ Q .non H
theorem scWantSpan : FnScope ["value"] ["value"] (defScope sWantSpan) := ⟨rfl, rfl, rfl, by decide +kernel, rfl, by decide +kernel, by decide +kernel⟩
theorem ok_wantSpan {f : Addr} {fd : FuncData} (F : Fun K "want_span" "want_span" sWantSpan f fd) (b : Binds K fd ["value"] []) (T : Txt K mg C) : FnR P w K mg base CX0 1 f (spWantSpan C) := by
  refine okR F b scWantSpan (fun vs H Q E h => ?_) (fun cdv A outer s H vs Q E hr h => ?_)
  · obtain ⟨i, rfl, _⟩ := h
    rfl
  · obtain ⟨a, rfl, ia, q⟩ := h
    refine ⟨_, pss_one (ps_if (pt_not (pt_val (pe_callB call_isi rfl T.b_isinstance rfl (pa_cons (pv 0) (pa_cons (pe_glob rfl T.mgC (v := .ref C) rfl) pa_nil))))) (pss_one ps_never) pss_nil), ?_⟩
    exact ⟨.ref a, rfl, .ref a, .ref C, .ref C, .ref C, true, rfl, .own C, T.ty ia, T.kSelf, true, rfl, iteF q⟩

/-! ### Span -/
def spInit (C : Addr) : Sp := fun vs H Q _ => ∃ p dx lo hi, vs = [.ref p, .int lo, .int hi] ∧ lo ≤ hi ∧ H p = some (.ins C dx []) ∧ ∀ H', (∀ b, b ≠ p → H' b = H b) → H' p = some (.ins C dx (sf lo hi)) → Q .non H'
theorem scInit : FnScope ["self", "low", "high"] ["self", "low", "high"] (defScope (sp' 0)) := ⟨rfl, rfl, rfl, by decide +kernel, rfl, by decide +kernel, by decide +kernel⟩
theorem ok_init {f g : Addr} {fd : FuncData} (F : Fun K "__init__" "Span.__init__" (sp' 0) f fd) (b : Binds K fd ["self", "low", "high"] []) (T : Txt K mg C) (G : Got K mg "want_level" g) (GF : FnR P w K mg base CX0 2 g spWantLevel) :
    FnOk P w K mg base CX0 3 f fd ["self", "low", "high"] (spInit C) := by
  refine F.ok scInit (fun vs H Q E h => ?_) (fun cdv A outer s H vs Q E hr h => ?_)
  · obtain ⟨p, dx, lo, hi, rfl, _⟩ := h
    rfl
  · obtain ⟨p, dx, lo, hi, rfl, le, hp, k⟩ := h
    refine ⟨_, (pss_cons (ps_expr (pe_to G GF hr (pa_cons (pv 1) pa_nil)))
      (pss_cons (ps_expr (pe_to G GF hr (pa_cons (pv 2) pa_nil)))
      (pss_cons (ps_if (pt_cmpR op_gt (pv 1) (pv 2) (nomark _)) (pss_one ps_never) pss_nil)
      (pss_cons (ps_fld (pv 0) (pv 1) rfl)
      (pss_one (ps_fld (pv 0) (pv 2) rfl)))))), ?_⟩
    refine ⟨.int lo, rfl, lo, rfl, .int hi, rfl, hi, rfl, .int lo, rfl, .int hi, rfl, lo, hi, rfl, rfl, _, rfl, ?_⟩
    rw [decide_eq_false (by omega)]
    refine iteF ?_
    refine ⟨.int lo, rfl, .ref p, rfl, p, C, dx, [], rfl, hp, T.cl, T.nLo, (by show 0 < 1000; decide), .int hi, rfl, .ref p, rfl, p, C, dx, _, rfl, upd_same, T.cl, T.nHi, (by show 1 < 1000; decide), ?_⟩
    exact k _ (fun b hb => by rw [upd_ne hb, upd_ne hb]) upd_same

/-- Span(lo, hi) -/
theorem made {H : Hp} {lo hi : Int} {Q : VK} (le : lo ≤ hi) (k : NewSpan C H lo hi Q) : ∀ x dx, H x = none → H dx = none → dx ≠ x →
    spInit C (.ref x :: ([.int lo, .int hi] ++ [])) (upd (upd H dx (.own x)) x (.ins C dx [])) (fun v H2 => v = .non ∧ Q (.ref x) H2) E0 := by
  intro x dx nx nd ne
  refine ⟨x, dx, lo, hi, rfl, le, upd_same, fun H' hk hx => ⟨rfl, k x H' (fun b o e => ?_) ⟨dx, hx⟩⟩⟩
  have h1 : b ≠ x := ne_of_none e nx
  have h2 : b ≠ dx := ne_of_none e nd
  rw [hk b h1, upd_ne h1, upd_ne h2]
  exact e
end
end Ab

namespace Ab
open PySem PySem.Spec PyProof.Rows L2

/-- how a span is made -/
structure Maker (P : Program) (w : World) (K : PySem.W.Frag) (mg : Str → Option Value) (base : Heap) (C fI : Addr) (fdI : FuncData) : Prop where
  M : Mk K C fI
  F : FnOk P w K mg base CX0 3 fI fdI ["self", "low", "high"] (spInit C)
  b : Binds K fdI ["self", "low", "high"] []
section
variable {X : Cx} {C fI : Addr} {fdI : FuncData} {e : Expr} {es : List Expr} {t : TA} {p pos : Pos}
def tSpan (C : Addr) (t : TA) : TE := fun σ H Q => t σ H fun vs H1 => ∃ lo hi : Int, vs = [.int lo, .int hi] ∧ lo ≤ hi ∧ NewSpan C H1 lo hi Q
def MonA (t : TA) : Prop := ∀ σ H (Q Q' : List V → Hp → Prop), (∀ x H1, Q x H1 → Q' x H1) → t σ H Q → t σ H Q'
theorem pe_span (T : Txt X.K X.mg C) (m : Maker X.prog X.w X.K X.mg X.base C fI fdI) (hr : Room 4 X.A) (ha : PA X (e :: es) t) (hg : Gl X "Span" := by rfl) (he : starEach (e :: es) X.env = (false, eval e X.env) :: starEach es X.env := by rfl)
    (hpl : (backTo pos (starEach es X.env)).any (·.1) = false := by rfl) : PE X (.Call (.Name "Span" p) (e :: es) [] pos) (tSpan C t) := by
  have ha' : PA X (e :: es) (fun σ H Q => t σ H fun vs H1 => Q vs H1) := ha
  refine ⟨fun pins s σ H Q I h => wpAny_Call_Name_kw (ld_glob I hg T.mgC ?_ (by decide))⟩
  refine PySem.W.callWith_K (h₀ := X.base) I.ok.mod.kin m.M.kp (thn (ha.run pos pins s σ H _ I h) fun us s1 hh => ?_) he hpl
  obtain ⟨vs, H1, I1, r, lo, hi, ev, le, q⟩ := hh
  subst ev
  exact ⟨I1.kIn, run_make m.M m.F hr m.b .nil pass0 I1 r (made le q)⟩
end

section
variable {P : Program} {w : World} {K : PySem.W.Frag} {mg : Str → Option Value} {base : Heap} {C : Addr}

def spLow (C : Addr) : Sp := fun vs H Q _ => ∃ a lo hi, vs = [.ref a] ∧ SpanAt C H a lo hi ∧ Q (.int lo) H
def spHigh (C : Addr) : Sp := fun vs H Q _ => ∃ a lo hi, vs = [.ref a] ∧ SpanAt C H a lo hi ∧ Q (.int hi) H
def spWidth (C : Addr) : Sp := fun vs H Q _ => ∃ a lo hi, vs = [.ref a] ∧ SpanAt C H a lo hi ∧ Q (.int (hi - lo)) H
theorem sc2 : FnScope ["self"] ["self"] (defScope (sp' 2)) := ⟨rfl, rfl, rfl, by decide +kernel, rfl, by decide +kernel, by decide +kernel⟩
theorem sc3 : FnScope ["self"] ["self"] (defScope (sp' 3)) := ⟨rfl, rfl, rfl, by decide +kernel, rfl, by decide +kernel, by decide +kernel⟩
theorem sc4 : FnScope ["self"] ["self"] (defScope (sp' 4)) := ⟨rfl, rfl, rfl, by decide +kernel, rfl, by decide +kernel, by decide +kernel⟩
theorem ok_low {f : Addr} {fd : FuncData} (F : Fun K "low" "Span.low" (sp' 2) f fd) (T : Txt K mg C) : FnOk P w K mg base CX0 1 f fd ["self"] (spLow C) := by
  refine F.ok sc2 (fun vs H Q E ⟨a, lo, hi, e, _⟩ => by rw [e]; rfl) (fun cdv A outer s H vs Q E hr ⟨a, lo, hi, e, sa, q⟩ => ?_)
  subst e
  exact ⟨_, pss_one (ps_ret (pe_lo T (pv 0))), .ref a, rfl, a, lo, hi, rfl, sa, q⟩
theorem ok_high {f : Addr} {fd : FuncData} (F : Fun K "high" "Span.high" (sp' 3) f fd) (T : Txt K mg C) : FnOk P w K mg base CX0 1 f fd ["self"] (spHigh C) := by
  refine F.ok sc3 (fun vs H Q E ⟨a, lo, hi, e, _⟩ => by rw [e]; rfl) (fun cdv A outer s H vs Q E hr ⟨a, lo, hi, e, sa, q⟩ => ?_)
  subst e
  exact ⟨_, pss_one (ps_ret (pe_hi T (pv 0))), .ref a, rfl, a, lo, hi, rfl, sa, q⟩
theorem ok_width {f : Addr} {fd : FuncData} (F : Fun K "width" "Span.width" (sp' 4) f fd) (T : Txt K mg C) : FnOk P w K mg base CX0 1 f fd ["self"] (spWidth C) := by
  refine F.ok sc4 (fun vs H Q E ⟨a, lo, hi, e, _⟩ => by rw [e]; rfl) (fun cdv A outer s H vs Q E hr ⟨a, lo, hi, e, sa, q⟩ => ?_)
  subst e
  exact ⟨_, pss_one (ps_ret (pe_op op_sub (pe_hi T (pv 0)) (pe_lo T (pv 0)))), .ref a, rfl, a, lo, hi, rfl, sa, .ref a, rfl, a, lo, hi, rfl, sa, hi, lo, rfl, rfl, q⟩

def spWithin (C : Addr) : Sp := fun vs H Q _ => ∃ a b l1 h1 l2 h2, vs = [.ref a, .ref b] ∧ SpanAt C H a l1 h1 ∧ SpanAt C H b l2 h2 ∧ Q (.bl (decide (l2 ≤ l1 ∧ h1 ≤ h2))) H
theorem sc5 : FnScope ["self", "other"] ["self", "other"] (defScope (sp' 5)) := ⟨rfl, rfl, rfl, by decide +kernel, rfl, by decide +kernel, by decide +kernel⟩
theorem ok_within {f g : Addr} {fd : FuncData} (F : Fun K "is_within" "Span.is_within" (sp' 5) f fd) (T : Txt K mg C) (G : Got K mg "want_span" g) (GF : FnR P w K mg base CX0 1 g (spWantSpan C)) : FnOk P w K mg base CX0 2 f fd ["self", "other"] (spWithin C) := by
  refine F.ok sc5 (fun vs H Q E ⟨a, b, l1, h1, l2, h2, e, _⟩ => by rw [e]; rfl) (fun cdv A outer s H vs Q E hr ⟨a, b, l1, h1, l2, h2, e, sa, sb, q⟩ => ?_)
  subst e
  refine ⟨_, pss_cons (ps_expr (pe_to G GF hr (pa_cons (pv 1) pa_nil)))
      (pss_one (ps_ret (pe_and (pe_cmpR op_le (pe_lo T (pv 1)) (pe_lo T (pv 0)) (nomark _)) (pe_one (pe_cmpR op_le (pe_hi T (pv 0)) (pe_hi T (pv 1)) (nomark _)))))), ?_⟩
  refine ⟨.ref b, rfl, b, rfl, sb.ins, .ref b, rfl, b, l2, h2, rfl, sb, .ref a, rfl, a, l1, h1, rfl, sa, l2, l1, rfl, rfl, _, rfl, ?_⟩
  by_cases z : l2 ≤ l1
  · rw [decide_eq_true z]
    refine iteT ⟨.ref a, rfl, a, l1, h1, rfl, sa, .ref b, rfl, b, l2, h2, rfl, sb, h1, h2, rfl, rfl, ?_⟩
    have e : decide (l2 ≤ l1 ∧ h1 ≤ h2) = decide (h1 ≤ h2) := by simp [z]
    rw [e] at q
    exact q
  · rw [decide_eq_false z]
    have e : decide (l2 ≤ l1 ∧ h1 ≤ h2) = false := by simp [z]
    rw [e] at q
    exact iteF q

def spContains (K : PySem.W.Frag) (C : Addr) : Sp := fun vs H Q _ => ∃ a x lo hi, vs = [.ref a, x] ∧ SpanAt C H a lo hi ∧ ((∃ i, x = .int i ∧ Q (.bl (decide (lo ≤ i ∧ i ≤ hi))) H) ∨
  ∃ t b1 b2, TyX K H x t ∧ PySem.W.kitOne K t (.type "int") = some b1 ∧ PySem.W.kitOne K t (.type "bool") = some b2 ∧ (b1 && !b2) = false ∧ Q (.bl false) H)
theorem sc6 : FnScope ["self", "value"] ["self", "value"] (defScope (sp' 6)) := ⟨rfl, rfl, rfl, by decide +kernel, rfl, by decide +kernel, by decide +kernel⟩
theorem ok_contains {f g : Addr} {fd : FuncData} (F : Fun K "__contains__" "Span.__contains__" (sp' 6) f fd) (b : Binds K fd ["self", "value"] []) (T : Txt K mg C) (G : Got K mg "is_integer" g) (GF : FnR P w K mg base CX0 1 g (spIsInt K)) :
    FnR P w K mg base CX0 2 f (spContains K C) := by
  refine okR F b sc6 (fun vs H Q E ⟨a, x, lo, hi, e, _⟩ => by rw [e]; rfl) (fun cdv A outer s H vs Q E hr ⟨a, x, lo, hi, e, sa, q⟩ => ?_)
  subst e
  refine ⟨_, pss_one (ps_ret (pe_and (pe_to G GF hr (pa_cons (pv 1) pa_nil)) (pe_one (pe_chain op_le op_le (pe_lo T (pv 0)) (pv 1) (pe_hi T (pv 0)))))), ?_⟩
  rcases q with ⟨i, rfl, q⟩ | ⟨t, b1, b2, ty, k1, k2, eb, q⟩
  · refine ⟨.int i, rfl, .int i, .type "int", true, false, rfl, .base (.int i), ii_int, ib_int, true, rfl, iteT ?_⟩
    refine ⟨.ref a, rfl, a, lo, hi, rfl, sa, .int i, rfl, lo, i, rfl, rfl, _, rfl, ?_⟩
    by_cases z : lo ≤ i
    · rw [decide_eq_true z]
      have e : decide (lo ≤ i ∧ i ≤ hi) = decide (i ≤ hi) := by simp [z]
      rw [e] at q
      exact iteT ⟨.ref a, rfl, a, lo, hi, rfl, sa, i, hi, rfl, rfl, q⟩
    · rw [decide_eq_false z]
      have e : decide (lo ≤ i ∧ i ≤ hi) = false := by simp [z]
      rw [e] at q
      exact iteF q
  · refine ⟨x, rfl, x, t, b1, b2, rfl, ty, k1, k2, (b1 && !b2), rfl, ?_⟩
    rw [eb]
    exact iteF q

theorem pymax (i j : Int) : (if j > i then j else i) = max i j := by omega
theorem pymin (i j : Int) : (if j < i then j else i) = min i j := by omega
def spOr (C : Addr) : Sp := fun vs H Q _ => ∃ a b l1 h1 l2 h2, vs = [.ref a, .ref b] ∧ SpanAt C H a l1 h1 ∧ SpanAt C H b l2 h2 ∧ l1 ≤ h1 ∧ NewSpan C H (min l1 l2) (max h1 h2) Q
theorem sc8 : FnScope ["self", "other"] ["self", "other"] (defScope (sp' 8)) := ⟨rfl, rfl, rfl, by decide +kernel, rfl, by decide +kernel, by decide +kernel⟩
theorem ok_or {f g fI : Addr} {fd fdI : FuncData} (F : Fun K "__or__" "Span.__or__" (sp' 8) f fd) (b : Binds K fd ["self", "other"] []) (T : Txt K mg C) (G : Got K mg "want_span" g) (GF : FnR P w K mg base CX0 1 g (spWantSpan C)) (m : Maker P w K mg base C fI fdI) :
    FnR P w K mg base CX0 5 f (spOr C) := by
  refine okR F b sc8 (fun vs H Q E ⟨a, b, l1, h1, l2, h2, e, _⟩ => by rw [e]; rfl) (fun cdv A outer s H vs Q E hr ⟨a, b, l1, h1, l2, h2, e, sa, sb, le, q⟩ => ?_)
  subst e
  refine ⟨_, (pss_cons (ps_expr (pe_to G GF (hr.mono (by decide)) (pa_cons (pv 1) pa_nil)))
      (pss_one (ps_ret (pe_span T m hr (pa_cons (pe_callB (call_min2 rfl) rfl T.b_min rfl (pa_cons (pe_lo T (pv 0)) (pa_cons (pe_lo T (pv 1)) pa_nil))) (pa_cons (pe_callB (call_max2 rfl) rfl T.b_max rfl (pa_cons (pe_hi T (pv 0)) (pa_cons (pe_hi T (pv 1)) pa_nil))) pa_nil)))))), ?_⟩
  refine ⟨.ref b, rfl, b, rfl, sb.ins, .ref a, rfl, a, l1, h1, rfl, sa, .ref b, rfl, b, l2, h2, rfl, sb, l1, l2, rfl, .ref a, rfl, a, l1, h1, rfl, sa, .ref b, rfl, b, l2, h2, rfl, sb, h1, h2, rfl, _, _, rfl, ?_, ?_⟩
  · rw [pymin, pymax]; omega
  · rw [pymin, pymax]; exact q

def spAdd (C : Addr) : Sp := fun vs H Q _ => ∃ a lo hi i, vs = [.ref a, .int i] ∧ SpanAt C H a lo hi ∧ lo ≤ hi ∧ NewSpan C H (lo + i) (hi + i) Q
theorem sc9 : FnScope ["self", "number"] ["self", "number"] (defScope (sp' 9)) := ⟨rfl, rfl, rfl, by decide +kernel, rfl, by decide +kernel, by decide +kernel⟩
theorem sc10 : FnScope ["self", "number"] ["self", "number"] (defScope (sp' 10)) := ⟨rfl, rfl, rfl, by decide +kernel, rfl, by decide +kernel, by decide +kernel⟩
theorem ok_add {f g fI : Addr} {fd fdI : FuncData} (F : Fun K "__add__" "Span.__add__" (sp' 9) f fd) (b : Binds K fd ["self", "number"] []) (T : Txt K mg C) (G : Got K mg "want_level" g) (GF : FnR P w K mg base CX0 2 g spWantLevel) (m : Maker P w K mg base C fI fdI) :
    FnR P w K mg base CX0 5 f (spAdd C) := by
  refine okR F b sc9 (fun vs H Q E ⟨a, lo, hi, i, e, _⟩ => by rw [e]; rfl) (fun cdv A outer s H vs Q E hr ⟨a, lo, hi, i, e, sa, le, q⟩ => ?_)
  subst e
  refine ⟨_, (pss_cons (ps_expr (pe_to G GF (hr.mono (by decide)) (pa_cons (pv 1) pa_nil)))
      (pss_one (ps_ret (pe_span T m hr (pa_cons (pe_op op_add (pe_lo T (pv 0)) (pv 1)) (pa_cons (pe_op op_add (pe_hi T (pv 0)) (pv 1)) pa_nil)))))), ?_⟩
  exact ⟨.int i, rfl, i, rfl, .ref a, rfl, a, lo, hi, rfl, sa, .int i, rfl, lo, i, rfl, rfl, .ref a, rfl, a, lo, hi, rfl, sa, .int i, rfl, hi, i, rfl, rfl, _, _, rfl, by omega, q⟩
theorem ok_radd {f g fI : Addr} {fd fdI : FuncData} (F : Fun K "__radd__" "Span.__radd__" (sp' 10) f fd) (b : Binds K fd ["self", "number"] []) (T : Txt K mg C) (G : Got K mg "want_level" g) (GF : FnR P w K mg base CX0 2 g spWantLevel) (m : Maker P w K mg base C fI fdI) :
    FnR P w K mg base CX0 5 f (spAdd C) := by
  refine okR F b sc10 (fun vs H Q E ⟨a, lo, hi, i, e, _⟩ => by rw [e]; rfl) (fun cdv A outer s H vs Q E hr ⟨a, lo, hi, i, e, sa, le, q⟩ => ?_)
  subst e
  refine ⟨_, (pss_cons (ps_expr (pe_to G GF (hr.mono (by decide)) (pa_cons (pv 1) pa_nil)))
      (pss_one (ps_ret (pe_span T m hr (pa_cons (pe_op op_add (pe_lo T (pv 0)) (pv 1)) (pa_cons (pe_op op_add (pe_hi T (pv 0)) (pv 1)) pa_nil)))))), ?_⟩
  exact ⟨.int i, rfl, i, rfl, .ref a, rfl, a, lo, hi, rfl, sa, .int i, rfl, lo, i, rfl, rfl, .ref a, rfl, a, lo, hi, rfl, sa, .int i, rfl, hi, i, rfl, rfl, _, _, rfl, by omega, q⟩
def spSub (C : Addr) : Sp := fun vs H Q _ => ∃ a lo hi i, vs = [.ref a, .int i] ∧ SpanAt C H a lo hi ∧ lo ≤ hi ∧ NewSpan C H (lo - i) (hi - i) Q
theorem sc11 : FnScope ["self", "number"] ["self", "number"] (defScope (sp' 11)) := ⟨rfl, rfl, rfl, by decide +kernel, rfl, by decide +kernel, by decide +kernel⟩
theorem ok_sub {f g fI : Addr} {fd fdI : FuncData} (F : Fun K "__sub__" "Span.__sub__" (sp' 11) f fd) (b : Binds K fd ["self", "number"] []) (T : Txt K mg C) (G : Got K mg "want_level" g) (GF : FnR P w K mg base CX0 2 g spWantLevel) (m : Maker P w K mg base C fI fdI) :
    FnR P w K mg base CX0 5 f (spSub C) := by
  refine okR F b sc11 (fun vs H Q E ⟨a, lo, hi, i, e, _⟩ => by rw [e]; rfl) (fun cdv A outer s H vs Q E hr ⟨a, lo, hi, i, e, sa, le, q⟩ => ?_)
  subst e
  refine ⟨_, (pss_cons (ps_expr (pe_to G GF (hr.mono (by decide)) (pa_cons (pv 1) pa_nil)))
      (pss_one (ps_ret (pe_span T m hr (pa_cons (pe_op op_sub (pe_lo T (pv 0)) (pv 1)) (pa_cons (pe_op op_sub (pe_hi T (pv 0)) (pv 1)) pa_nil)))))), ?_⟩
  exact ⟨.int i, rfl, i, rfl, .ref a, rfl, a, lo, hi, rfl, sa, .int i, rfl, lo, i, rfl, rfl, .ref a, rfl, a, lo, hi, rfl, sa, .int i, rfl, hi, i, rfl, rfl, _, _, rfl, by omega, q⟩
def spNeg (C : Addr) : Sp := fun vs H Q _ => ∃ a lo hi, vs = [.ref a] ∧ SpanAt C H a lo hi ∧ lo ≤ hi ∧ NewSpan C H (-hi) (-lo) Q
theorem sc12 : FnScope ["self"] ["self"] (defScope (sp' 12)) := ⟨rfl, rfl, rfl, by decide +kernel, rfl, by decide +kernel, by decide +kernel⟩
theorem ok_neg {f fI : Addr} {fd fdI : FuncData} (F : Fun K "__neg__" "Span.__neg__" (sp' 12) f fd) (b : Binds K fd ["self"] []) (T : Txt K mg C) (m : Maker P w K mg base C fI fdI) : FnR P w K mg base CX0 5 f (spNeg C) := by
  refine okR F b sc12 (fun vs H Q E ⟨a, lo, hi, e, _⟩ => by rw [e]; rfl) (fun cdv A outer s H vs Q E hr ⟨a, lo, hi, e, sa, le, q⟩ => ?_)
  subst e
  refine ⟨_, (pss_one (ps_ret (pe_span T m hr (pa_cons (pe_un un_neg (pe_hi T (pv 0))) (pa_cons (pe_un un_neg (pe_lo T (pv 0))) pa_nil))))), ?_⟩
  exact ⟨.ref a, rfl, a, lo, hi, rfl, sa, hi, rfl, .ref a, rfl, a, lo, hi, rfl, sa, lo, rfl, _, _, rfl, by omega, q⟩

/-! ### the order -/
def spCmp (C : Addr) (op : CmpOp) : Sp := fun vs H Q _ => ∃ a b l1 h1 l2 h2, vs = [.ref a, .ref b] ∧ SpanAt C H a l1 h1 ∧ SpanAt C H b l2 h2 ∧ ∀ H', Ext H H' → Q (.bl (pairCmp op l1 h1 l2 h2)) H'
theorem sc13 : FnScope ["self", "other"] ["self", "other"] (defScope (sp' 13)) := ⟨rfl, rfl, rfl, by decide +kernel, rfl, by decide +kernel, by decide +kernel⟩
theorem sc14 : FnScope ["self", "other"] ["self", "other"] (defScope (sp' 14)) := ⟨rfl, rfl, rfl, by decide +kernel, rfl, by decide +kernel, by decide +kernel⟩
theorem sc15 : FnScope ["self", "other"] ["self", "other"] (defScope (sp' 15)) := ⟨rfl, rfl, rfl, by decide +kernel, rfl, by decide +kernel, by decide +kernel⟩
theorem sc16 : FnScope ["self", "other"] ["self", "other"] (defScope (sp' 16)) := ⟨rfl, rfl, rfl, by decide +kernel, rfl, by decide +kernel, by decide +kernel⟩
theorem sc17 : FnScope ["self", "other"] ["self", "other"] (defScope (sp' 17)) := ⟨rfl, rfl, rfl, by decide +kernel, rfl, by decide +kernel, by decide +kernel⟩
theorem ok_lt {f : Addr} {fd : FuncData} (F : Fun K "__lt__" "Span.__lt__" (sp' 13) f fd) (b : Binds K fd ["self", "other"] []) (T : Txt K mg C) : FnR P w K mg base CX0 1 f (spCmp C .Lt) := by
  refine okR F b sc13 (fun vs H Q E ⟨a, b, l1, h1, l2, h2, e, _⟩ => by rw [e]; rfl) (fun cdv A outer s H vs Q E hr ⟨a, b, l1, h1, l2, h2, e, sa, sb, q⟩ => ?_)
  subst e
  refine ⟨_, (pss_cons (ps_if (pt_not (pt_val (pe_callB call_isi rfl T.b_isinstance rfl (pa_cons (pv 1) (pa_cons (pe_glob rfl T.mgC (v := .ref C) rfl) pa_nil))))) (pss_one ps_never) pss_nil)
      (pss_one (ps_ret (pe_cmpR (op_pair (by decide) hr.units0) (pe_tup (pa_cons (pe_lo T (pv 0)) (pa_cons (pe_hi T (pv 0)) pa_nil))) (pe_tup (pa_cons (pe_lo T (pv 1)) (pa_cons (pe_hi T (pv 1)) pa_nil))) (nomark _))))), ?_⟩
  refine ⟨.ref b, rfl, .ref b, .ref C, .ref C, .ref C, true, rfl, .own C, T.ty sb.ins, T.kSelf, true, rfl, iteF ?_⟩
  refine ⟨.ref a, rfl, a, l1, h1, rfl, sa, .ref a, rfl, a, l1, h1, rfl, sa, (by show 2 ≤ sizeLine; decide), fun p hp => ?_⟩
  have sb1 := sb.ext (Ext.upd (o := .tup [.int l1, .int h1]) hp)
  refine ⟨.ref b, rfl, b, l2, h2, rfl, sb1, .ref b, rfl, b, l2, h2, rfl, sb1, (by show 2 ≤ sizeLine; decide), fun p2 hp2 => ?_⟩
  have ne : p ≠ p2 := ne_of_none upd_same hp2
  exact ⟨p, p2, l1, h1, l2, h2, rfl, rfl, (upd_ne ne).trans upd_same, upd_same, q _ ((Ext.upd hp).trans (Ext.upd hp2))⟩
theorem ok_le {f : Addr} {fd : FuncData} (F : Fun K "__le__" "Span.__le__" (sp' 14) f fd) (b : Binds K fd ["self", "other"] []) (T : Txt K mg C) : FnR P w K mg base CX0 1 f (spCmp C .LtE) := by
  refine okR F b sc14 (fun vs H Q E ⟨a, b, l1, h1, l2, h2, e, _⟩ => by rw [e]; rfl) (fun cdv A outer s H vs Q E hr ⟨a, b, l1, h1, l2, h2, e, sa, sb, q⟩ => ?_)
  subst e
  refine ⟨_, (pss_cons (ps_if (pt_not (pt_val (pe_callB call_isi rfl T.b_isinstance rfl (pa_cons (pv 1) (pa_cons (pe_glob rfl T.mgC (v := .ref C) rfl) pa_nil))))) (pss_one ps_never) pss_nil)
      (pss_one (ps_ret (pe_cmpR (op_pair (by decide) hr.units0) (pe_tup (pa_cons (pe_lo T (pv 0)) (pa_cons (pe_hi T (pv 0)) pa_nil))) (pe_tup (pa_cons (pe_lo T (pv 1)) (pa_cons (pe_hi T (pv 1)) pa_nil))) (nomark _))))), ?_⟩
  refine ⟨.ref b, rfl, .ref b, .ref C, .ref C, .ref C, true, rfl, .own C, T.ty sb.ins, T.kSelf, true, rfl, iteF ?_⟩
  refine ⟨.ref a, rfl, a, l1, h1, rfl, sa, .ref a, rfl, a, l1, h1, rfl, sa, (by show 2 ≤ sizeLine; decide), fun p hp => ?_⟩
  have sb1 := sb.ext (Ext.upd (o := .tup [.int l1, .int h1]) hp)
  refine ⟨.ref b, rfl, b, l2, h2, rfl, sb1, .ref b, rfl, b, l2, h2, rfl, sb1, (by show 2 ≤ sizeLine; decide), fun p2 hp2 => ?_⟩
  have ne : p ≠ p2 := ne_of_none upd_same hp2
  exact ⟨p, p2, l1, h1, l2, h2, rfl, rfl, (upd_ne ne).trans upd_same, upd_same, q _ ((Ext.upd hp).trans (Ext.upd hp2))⟩
theorem ok_gt {f : Addr} {fd : FuncData} (F : Fun K "__gt__" "Span.__gt__" (sp' 15) f fd) (b : Binds K fd ["self", "other"] []) (T : Txt K mg C) : FnR P w K mg base CX0 1 f (spCmp C .Gt) := by
  refine okR F b sc15 (fun vs H Q E ⟨a, b, l1, h1, l2, h2, e, _⟩ => by rw [e]; rfl) (fun cdv A outer s H vs Q E hr ⟨a, b, l1, h1, l2, h2, e, sa, sb, q⟩ => ?_)
  subst e
  refine ⟨_, (pss_cons (ps_if (pt_not (pt_val (pe_callB call_isi rfl T.b_isinstance rfl (pa_cons (pv 1) (pa_cons (pe_glob rfl T.mgC (v := .ref C) rfl) pa_nil))))) (pss_one ps_never) pss_nil)
      (pss_one (ps_ret (pe_cmpR (op_pair (by decide) hr.units0) (pe_tup (pa_cons (pe_lo T (pv 0)) (pa_cons (pe_hi T (pv 0)) pa_nil))) (pe_tup (pa_cons (pe_lo T (pv 1)) (pa_cons (pe_hi T (pv 1)) pa_nil))) (nomark _))))), ?_⟩
  refine ⟨.ref b, rfl, .ref b, .ref C, .ref C, .ref C, true, rfl, .own C, T.ty sb.ins, T.kSelf, true, rfl, iteF ?_⟩
  refine ⟨.ref a, rfl, a, l1, h1, rfl, sa, .ref a, rfl, a, l1, h1, rfl, sa, (by show 2 ≤ sizeLine; decide), fun p hp => ?_⟩
  have sb1 := sb.ext (Ext.upd (o := .tup [.int l1, .int h1]) hp)
  refine ⟨.ref b, rfl, b, l2, h2, rfl, sb1, .ref b, rfl, b, l2, h2, rfl, sb1, (by show 2 ≤ sizeLine; decide), fun p2 hp2 => ?_⟩
  have ne : p ≠ p2 := ne_of_none upd_same hp2
  exact ⟨p, p2, l1, h1, l2, h2, rfl, rfl, (upd_ne ne).trans upd_same, upd_same, q _ ((Ext.upd hp).trans (Ext.upd hp2))⟩
theorem ok_ge {f : Addr} {fd : FuncData} (F : Fun K "__ge__" "Span.__ge__" (sp' 16) f fd) (b : Binds K fd ["self", "other"] []) (T : Txt K mg C) : FnR P w K mg base CX0 1 f (spCmp C .GtE) := by
  refine okR F b sc16 (fun vs H Q E ⟨a, b, l1, h1, l2, h2, e, _⟩ => by rw [e]; rfl) (fun cdv A outer s H vs Q E hr ⟨a, b, l1, h1, l2, h2, e, sa, sb, q⟩ => ?_)
  subst e
  refine ⟨_, (pss_cons (ps_if (pt_not (pt_val (pe_callB call_isi rfl T.b_isinstance rfl (pa_cons (pv 1) (pa_cons (pe_glob rfl T.mgC (v := .ref C) rfl) pa_nil))))) (pss_one ps_never) pss_nil)
      (pss_one (ps_ret (pe_cmpR (op_pair (by decide) hr.units0) (pe_tup (pa_cons (pe_lo T (pv 0)) (pa_cons (pe_hi T (pv 0)) pa_nil))) (pe_tup (pa_cons (pe_lo T (pv 1)) (pa_cons (pe_hi T (pv 1)) pa_nil))) (nomark _))))), ?_⟩
  refine ⟨.ref b, rfl, .ref b, .ref C, .ref C, .ref C, true, rfl, .own C, T.ty sb.ins, T.kSelf, true, rfl, iteF ?_⟩
  refine ⟨.ref a, rfl, a, l1, h1, rfl, sa, .ref a, rfl, a, l1, h1, rfl, sa, (by show 2 ≤ sizeLine; decide), fun p hp => ?_⟩
  have sb1 := sb.ext (Ext.upd (o := .tup [.int l1, .int h1]) hp)
  refine ⟨.ref b, rfl, b, l2, h2, rfl, sb1, .ref b, rfl, b, l2, h2, rfl, sb1, (by show 2 ≤ sizeLine; decide), fun p2 hp2 => ?_⟩
  have ne : p ≠ p2 := ne_of_none upd_same hp2
  exact ⟨p, p2, l1, h1, l2, h2, rfl, rfl, (upd_ne ne).trans upd_same, upd_same, q _ ((Ext.upd hp).trans (Ext.upd hp2))⟩
theorem ok_eq {f : Addr} {fd : FuncData} (F : Fun K "__eq__" "Span.__eq__" (sp' 17) f fd) (b : Binds K fd ["self", "other"] []) (T : Txt K mg C) : FnR P w K mg base CX0 1 f (spCmp C .Eq) := by
  refine okR F b sc17 (fun vs H Q E ⟨a, b, l1, h1, l2, h2, e, _⟩ => by rw [e]; rfl) (fun cdv A outer s H vs Q E hr ⟨a, b, l1, h1, l2, h2, e, sa, sb, q⟩ => ?_)
  subst e
  refine ⟨_, (pss_one (ps_ret (pe_and (pe_callB call_isi rfl T.b_isinstance rfl (pa_cons (pv 1) (pa_cons (pe_glob rfl T.mgC (v := .ref C) rfl) pa_nil)))
      (pe_one (pe_cmpR (op_pairEq hr.units) (pe_tup (pa_cons (pe_lo T (pv 0)) (pa_cons (pe_hi T (pv 0)) pa_nil))) (pe_tup (pa_cons (pe_lo T (pv 1)) (pa_cons (pe_hi T (pv 1)) pa_nil))) (nomark _)))))), ?_⟩
  refine ⟨.ref b, rfl, .ref b, .ref C, .ref C, .ref C, true, rfl, .own C, T.ty sb.ins, T.kSelf, true, rfl, iteT ?_⟩
  refine ⟨.ref a, rfl, a, l1, h1, rfl, sa, .ref a, rfl, a, l1, h1, rfl, sa, (by show 2 ≤ sizeLine; decide), fun p hp => ?_⟩
  have sb1 := sb.ext (Ext.upd (o := .tup [.int l1, .int h1]) hp)
  refine ⟨.ref b, rfl, b, l2, h2, rfl, sb1, .ref b, rfl, b, l2, h2, rfl, sb1, (by show 2 ≤ sizeLine; decide), fun p2 hp2 => ?_⟩
  have ne : p ≠ p2 := ne_of_none upd_same hp2
  exact ⟨p, p2, l1, h1, l2, h2, rfl, rfl, (upd_ne ne).trans upd_same, upd_same, q _ ((Ext.upd hp).trans (Ext.upd hp2))⟩

/-! ### the texts -/
def spStr (C : Addr) : Sp := fun vs H Q _ => ∃ a lo hi, vs = [.ref a] ∧ SpanAt C H a lo hi ∧ Bd lo ∧ Bd hi ∧ Q (.str (tStr lo hi)) H
def spRepr (C : Addr) : Sp := fun vs H Q _ => ∃ a lo hi, vs = [.ref a] ∧ SpanAt C H a lo hi ∧ Bd lo ∧ Bd hi ∧ Q (.str (tRep lo hi)) H
theorem sc18 : FnScope ["self"] ["self"] (defScope (sp' 18)) := ⟨rfl, rfl, rfl, by decide +kernel, rfl, by decide +kernel, by decide +kernel⟩
theorem sc19 : FnScope ["self"] ["self"] (defScope (sp' 19)) := ⟨rfl, rfl, rfl, by decide +kernel, rfl, by decide +kernel, by decide +kernel⟩
theorem ok_str {f : Addr} {fd : FuncData} (F : Fun K "__str__" "Span.__str__" (sp' 18) f fd) (b : Binds K fd ["self"] []) (T : Txt K mg C) : FnR P w K mg base CX0 1 f (spStr C) := by
  refine okR F b sc18 (fun vs H Q E ⟨a, lo, hi, e, _⟩ => by rw [e]; rfl) (fun cdv A outer s H vs Q E hr ⟨a, lo, hi, e, sa, bl, bh, q⟩ => ?_)
  subst e
  refine ⟨_, pss_one (ps_ret (pe_joined (.cons (pe_fmt (pe_lo T (pv 0))) (.cons pe_str (.cons (pe_fmt (pe_hi T (pv 0))) .nil))))), ?_⟩
  have z : ∀ n, n ≤ 1000 → n ≤ sizeLine := fun n h => by rw [sizeLine_eq]; omega
  have e2 : (".." : Str).length = 2 := by decide +kernel
  have n1 := bl.len
  have n2 := bh.len
  refine ⟨.ref a, rfl, a, lo, hi, rfl, sa, .inr ⟨lo, rfl, bl.log, _, rfl, z _ ?_, _, rfl, z _ ?_, .ref a, rfl, a, lo, hi, rfl, sa, .inr ⟨hi, rfl, bh.log, _, rfl, z _ ?_, ?_⟩⟩⟩
  · rw [empty_app]; omega
  · rw [empty_app, strLen_append]; omega
  · rw [empty_app, strLen_append, strLen_append]; omega
  · rw [empty_app]; exact q
theorem ok_repr {f : Addr} {fd : FuncData} (F : Fun K "__repr__" "Span.__repr__" (sp' 19) f fd) (b : Binds K fd ["self"] []) (T : Txt K mg C) : FnR P w K mg base CX0 1 f (spRepr C) := by
  refine okR F b sc19 (fun vs H Q E ⟨a, lo, hi, e, _⟩ => by rw [e]; rfl) (fun cdv A outer s H vs Q E hr ⟨a, lo, hi, e, sa, bl, bh, q⟩ => ?_)
  subst e
  refine ⟨_, pss_one (ps_ret (pe_joined (.cons pe_str (.cons (pe_fmt (pe_lo T (pv 0))) (.cons pe_str (.cons (pe_fmt (pe_hi T (pv 0))) (.cons pe_str .nil))))))), ?_⟩
  have z : ∀ n, n ≤ 1000 → n ≤ sizeLine := fun n h => by rw [sizeLine_eq]; omega
  have e1 : ("Span(" : Str).length = 5 := by decide +kernel
  have e2 : (", " : Str).length = 2 := by decide +kernel
  have e3 : (")" : Str).length = 1 := by decide +kernel
  have n1 := bl.len
  have n2 := bh.len
  refine ⟨_, rfl, z _ ?_, .ref a, rfl, a, lo, hi, rfl, sa, .inr ⟨lo, rfl, bl.log, _, rfl, z _ ?_, _, rfl, z _ ?_, .ref a, rfl, a, lo, hi, rfl, sa, .inr ⟨hi, rfl, bh.log, _, rfl, z _ ?_, _, rfl, z _ ?_, ?_⟩⟩⟩
  · rw [empty_app]; omega
  · rw [empty_app, strLen_append]; omega
  · rw [empty_app, strLen_append, strLen_append]; omega
  · rw [empty_app, strLen_append, strLen_append, strLen_append]; omega
  · rw [empty_app, strLen_append, strLen_append, strLen_append, strLen_append]; omega
  · rw [empty_app]; exact q
end
end Ab

namespace Ab
open PySem PySem.Spec PyProof.Rows L2

/-- all but what stands at p is kept -/
def ExtB (p : Addr) (H H' : Hp) : Prop := ∀ a o, a ≠ p → H a = some o → H' a = some o
theorem ExtB.refl {p : Addr} {H : Hp} : ExtB p H H := fun _ _ _ h => h
theorem ExtB.trans {p : Addr} {H H1 H2 : Hp} (x : ExtB p H H1) (y : ExtB p H1 H2) : ExtB p H H2 := fun a o n h => y a o n (x a o n h)
theorem ExtB.of {p : Addr} {H H' : Hp} (e : Ext H H') : ExtB p H H' := fun a o _ h => e a o h
def PotOk (H : Hp) (p : Addr) : Prop := ∃ p0 p1 : Int, H p = some (.lst [.int p0, .int p1]) ∧ 0 ≤ p0 ∧ 0 ≤ p1 ∧ p1 < 2147483587
theorem PotOk.ext {H H' : Hp} {p : Addr} (h : PotOk H p) (e : Ext H H') : PotOk H' p := by
  obtain ⟨p0, p1, h, r⟩ := h
  exact ⟨p0, p1, e _ _ h, r⟩
theorem PotOk.ne {H : Hp} {p a : Addr} {o : HO} (h : PotOk H p) (ha : H a = some o) (d : ∀ xs, o ≠ .lst xs) : a ≠ p := by
  obtain ⟨p0, p1, h, _⟩ := h
  exact ne_of ha h (d _)
theorem SpanAt.extB {C : Addr} {H H' : Hp} {a p : Addr} {lo hi : Int} (h : SpanAt C H a lo hi) (P : PotOk H p) (e : ExtB p H H') : SpanAt C H' a lo hi := by
  obtain ⟨dx, h⟩ := h
  exact ⟨dx, e _ _ (P.ne h fun _ q => by cases q) h⟩
theorem upd_extB {H : Hp} {p : Addr} {o : HO} : ExtB p H (upd H p o) := fun a u n h => by rw [upd_ne n]; exact h
theorem lay_ext {H : Hp} {p : Addr} {o : HO} (h : H p = none) : Ext H (upd H p o) := Ext.upd h

section
variable {P : Program} {w : World} {K : PySem.W.Frag} {mg : Str → Option Value} {base : Heap} {C : Addr}
abbrev sPot : Stmt := top 16
abbrev sDraw : Stmt := top 17
abbrev sNumber : Stmt := top 18
abbrev sBounds : Stmt := top 19
abbrev sMade : Stmt := top 20

def spPot (K : PySem.W.Frag) : Sp := fun vs H Q _ => ∃ (a : Addr) (ns : List Int) (k : Int), vs = [.ref a, .int k] ∧ SqL K H a (ns.map V.int) ∧ ns.length ≤ 63 ∧ 0 ≤ k ∧ k ≤ 10 ∧ ∀ p H', H p = none → Ext H H' → PotOk H' p → Q (.ref p) H'
theorem scPot : FnScope ["_law_script", "_law_k", "_law_cell"] ["_law_script", "_law_k"] (defScope sPot) := ⟨rfl, rfl, rfl, by decide +kernel, rfl, by decide +kernel, by decide +kernel⟩
theorem cpow {i j : Int} (h1 : 0 ≤ j) (h2 : j ≤ 1000000) (h3 : i.natAbs < 2 ^ 64) : CPow i j := ⟨h1, h2, h3⟩
theorem cmul_l {i j : Int} (h1 : -(2 ^ 64) < i) (h2 : i < 2 ^ 64) : CMul i j := .inl ⟨h1, h2⟩
theorem ok_pot {f : Addr} {fd : FuncData} (F : Fun K "_law_pot" "_law_pot" sPot f fd) (b : Binds K fd ["_law_script", "_law_k"] []) (T : Txt K mg C) : FnR P w K mg base CX0 1 f (spPot K) := by
  refine okR F b scPot (fun vs H Q E ⟨a, ns, k, e, _⟩ => by rw [e]; rfl) (fun cdv A outer s H vs Q E hr ⟨a, ns, k, e, hS, hl, k0, k1, q⟩ => ?_)
  subst e
  refine ⟨_, (pss_cons (ps_set (i := 2) scPot.nd rfl (Or.inl rfl) (pe_op op_add (pe_op op_mul pe_int (pv 1)) pe_int))
      (pss_cons (ps_if (pt_cmpR op_lt (pv 1) (pe_callB call_len rfl T.b_len rfl (pa_cons (pv 0) pa_nil)) (nomark _)) (pss_one (ps_set (i := 2) scPot.nd rfl (Or.inl rfl) (pe_callB call_abs rfl T.b_abs rfl (pa_cons (pe_ix ix_list (pv 0) (pv 1) (fun _ _ => rfl)) pa_nil)))) pss_nil)
      (pss_one (ps_ret (pe_lst (pa_cons (pe_callB (call_max2 rfl) rfl T.b_max rfl (pa_cons pe_int (pa_cons (pe_op op_sub (pv 2) (pe_op op_pow pe_int pe_int)) pa_nil))) (pa_cons (pe_op op_add (pe_op op_mod (pe_op op_mul (pe_callTy call_int1 rfl T.b_int rfl (pa_cons (pe_op op_add (pe_op op_mod (pe_callTy call_int1 rfl T.b_int rfl (pa_cons (pv 2) pa_nil)) pe_int) pe_int) pa_nil)) (pe_op op_pow (pe_op op_add (pe_op op_mul pe_int (pv 1)) pe_int) pe_int)) pe_int) pe_int) pa_nil))))))), ?_⟩
  refine ⟨.int k, rfl, 23, k, rfl, rfl, cmul_l (by decide) (by decide), 23 * k, 9, rfl, rfl, .int k, rfl, .ref a, rfl, .ref a, ns.length, rfl, .inl ⟨_, hS, by rw [List.length_map]⟩, k, _, rfl, rfl, _, rfl, ?_⟩
  refine ite2 (fun hk => ?_) (fun hk => ?_)
  · have hk' := of_decide_eq_true hk
    obtain ⟨j, rfl⟩ : ∃ j : Nat, k = (j : Int) := ⟨k.toNat, by omega⟩
    have hj : j < ns.length := by omega
    refine ⟨.ref a, rfl, .int j, rfl, a, ns.map V.int, j, .int ns[j], rfl, rfl, hS, atI_nat (by rw [List.getElem?_map, List.getElem?_eq_getElem hj]; rfl), _, rfl, ?_⟩
    generalize (if ns[j] < 0 then -ns[j] else ns[j]) = cell
    refine ⟨.int cell, rfl, 10, 18, rfl, rfl, cpow (by decide) (by decide) (by decide), cell, _, rfl, rfl, 0, _, rfl, .int cell, rfl, .inl ⟨cell, rfl, cell, 2147483549, rfl, rfl, (by show (0 : Int) < _; decide), _, 3, rfl, rfl,
      .inl ⟨_, rfl, .int (j : Int), rfl, 2, (j : Int), rfl, rfl, cmul_l (by decide) (by decide), _, 5, rfl, rfl, _, 3, rfl, rfl, cpow (by decide) (by decide) (by omega), _, _, rfl, rfl, cmul_l (by omega) (by omega), _, 2147483477, rfl, rfl, (by show (0 : Int) < _; decide), _, 1, rfl, rfl, (by show 2 ≤ sizeLine; decide), fun p hp => ?_⟩⟩⟩
    refine q p _ hp (lay_ext hp) ⟨_, _, upd_same, ?_, ?_, ?_⟩
    · rw [pymax]; exact Int.le_max_left _ _
    · have := Int.emod_nonneg ((cell % 2147483549 + 3) * (2 * (j : Int) + 5) ^ (3 : Int).toNat) (show (2147483477 : Int) ≠ 0 by decide)
      omega
    · have := Int.emod_lt_of_pos ((cell % 2147483549 + 3) * (2 * (j : Int) + 5) ^ (3 : Int).toNat) (show (0 : Int) < 2147483477 by decide)
      omega
  · refine ⟨.int (23 * k + 9), rfl, 10, 18, rfl, rfl, cpow (by decide) (by decide) (by decide), (23 * k + 9), _, rfl, rfl, 0, _, rfl, .int (23 * k + 9), rfl, .inl ⟨(23 * k + 9), rfl, (23 * k + 9), 2147483549, rfl, rfl, (by show (0 : Int) < _; decide), _, 3, rfl, rfl,
      .inl ⟨_, rfl, .int k, rfl, 2, k, rfl, rfl, cmul_l (by decide) (by decide), _, 5, rfl, rfl, _, 3, rfl, rfl, cpow (by decide) (by decide) (by omega), _, _, rfl, rfl, cmul_l (by omega) (by omega), _, 2147483477, rfl, rfl, (by show (0 : Int) < _; decide), _, 1, rfl, rfl, (by show 2 ≤ sizeLine; decide), fun p hp => ?_⟩⟩⟩
    refine q p _ hp (lay_ext hp) ⟨_, _, upd_same, ?_, ?_, ?_⟩
    · rw [pymax]; exact Int.le_max_left _ _
    · have := Int.emod_nonneg (((23 * k + 9) % 2147483549 + 3) * (2 * k + 5) ^ (3 : Int).toNat) (show (2147483477 : Int) ≠ 0 by decide)
      omega
    · have := Int.emod_lt_of_pos (((23 * k + 9) % 2147483549 + 3) * (2 * k + 5) ^ (3 : Int).toNat) (show (0 : Int) < 2147483477 by decide)
      omega

def spDraw : Sp := fun vs H Q _ => ∃ (p : Addr) (m : Int), vs = [.ref p, .int m] ∧ 0 < m ∧ m < 2 ^ 60 ∧ PotOk H p ∧ ∀ (d : Int) (H' : Hp), 0 ≤ d → d < m → PotOk H' p → ExtB p H H' → Q (.int d) H'
theorem scDraw : FnScope ["_law_pot_here", "_law_many", "_law_digit"] ["_law_pot_here", "_law_many"] (defScope sDraw) := ⟨rfl, rfl, rfl, by decide +kernel, rfl, by decide +kernel, by decide +kernel⟩
theorem ok_draw {f : Addr} {fd : FuncData} (F : Fun K "_law_draw" "_law_draw" sDraw f fd) (b : Binds K fd ["_law_pot_here", "_law_many"] []) (T : Txt K mg C) : FnR P w K mg base CX0 1 f spDraw := by
  refine okR F b scDraw (fun vs H Q E ⟨p, m, e, _⟩ => by rw [e]; rfl) (fun cdv A outer s H vs Q E hr ⟨p, m, e, m0, m1, ⟨p0, p1, hp, z0, z1, z2⟩, q⟩ => ?_)
  subst e
  refine ⟨_, (pss_cons (ps_if (pt_cmpR op_gt (pe_ix ix_list (pv 0) pe_int (fun _ _ => rfl)) pe_int (nomark _)) (pss_cons
      (ps_asg (pe_callB call_divmodW rfl T.b_divmod rfl (pa_cons (pe_ix ix_list (pv 0) pe_int (fun _ _ => rfl)) (pa_cons (pv 1) pa_nil))) (pg_tup rfl (pgs_cons (pg_sub (pv 0) pe_int set_list) (pgs_cons (pg_name (i := 2) scDraw.nd rfl (Or.inl rfl)) pgs_nil))))
      (pss_one (ps_ret (pv 2)))) pss_nil)
      (pss_cons (ps_asg (pe_op op_mod (pe_callTy call_int1 rfl T.b_int rfl (pa_cons (pe_op op_add (pe_op op_mul (pe_ix ix_list (pv 0) pe_int (fun _ _ => rfl)) pe_int) pe_int) pa_nil)) pe_int) (pg_sub (pv 0) pe_int set_list))
      (pss_one (ps_ret (pe_op op_mod (pe_callTy call_int1 rfl T.b_int rfl (pa_cons (pe_op op_fdiv (pe_op op_mod (pe_callTy call_int1 rfl T.b_int rfl (pa_cons (pe_op op_mul (pe_ix ix_list (pv 0) pe_int (fun _ _ => rfl)) (pe_ix ix_list (pv 0) pe_int (fun _ _ => rfl))) pa_nil)) pe_int) pe_int) pa_nil)) (pv 1)))))), ?_⟩
  refine ⟨.ref p, rfl, p, _, 0, .int p0, rfl, rfl, .of hp, rfl, p0, 0, rfl, rfl, _, rfl, ?_⟩
  refine ite2 (fun h0 => ?_) (fun h0 => ?_)
  · have h0' := of_decide_eq_true h0
    refine ⟨.ref p, rfl, p, _, 0, .int p0, rfl, rfl, .of hp, rfl, .int m, rfl, p0, m, rfl, ⟨m0, PyProof.noPylong_of_log2 ?_⟩, fun t ht => ?_⟩
    · exact Nat.lt_trans ((Nat.log2_lt (n := m.natAbs) (k := 60) (by omega)).mpr (by omega)) (by decide)
    · have nt : p ≠ t := ne_of_none hp ht
      refine ⟨t, _, rfl, .of upd_same, rfl, _, _, rfl, .ref p, rfl, p, [.int p0, .int p1], 0, 0, rfl, rfl, (upd_ne nt).trans hp, rfl, _, _, rfl, rfl, _, rfl, ?_⟩
      refine q _ _ (Int.emod_nonneg _ (by omega)) (Int.emod_lt_of_pos _ m0) ⟨p0 / m, p1, upd_same, Int.ediv_nonneg z0 (by omega), z1, z2⟩ (fun a o na h => ?_)
      rw [upd_ne na, upd_ne (ne_of_none h ht)]
      exact h
  · refine ⟨.ref p, rfl, p, _, 1, .int p1, rfl, rfl, .of hp, rfl, p1, 48271, rfl, rfl, cmul_l (by omega) (by omega), _, 11213, rfl, rfl, .inl ⟨_, rfl, _, 2147483587, rfl, rfl, (by show (0 : Int) < _; decide), .ref p, rfl, p, [.int p0, .int p1], 1, 1, rfl, rfl, hp, rfl, ?_⟩⟩
    obtain ⟨z, ez, e0, e1⟩ : ∃ z, (p1 * 48271 + 11213) % 2147483587 = z ∧ 0 ≤ z ∧ z < 2147483587 := ⟨_, rfl, Int.emod_nonneg _ (by decide), Int.emod_lt_of_pos _ (by decide)⟩
    have hz : upd H p (.lst ([.int p0, .int p1].set 1 (.int ((p1 * 48271 + 11213) % 2147483587)))) p = some (.lst [.int p0, .int z]) := by
      rw [ez]
      exact upd_same
    refine ⟨.ref p, rfl, p, _, 1, .int z, rfl, rfl, .of hz, rfl, .ref p, rfl, p, _, 1, .int z, rfl, rfl, .of hz, rfl, z, z, rfl, rfl, cmul_l (by omega) (by omega), .inl ⟨_, rfl, _, 2147483549, rfl, rfl, (by show (0 : Int) < _; decide), _, 13, rfl, rfl, ⟨by decide, by decide⟩, .inl ⟨_, rfl, .int m, rfl, _, m, rfl, rfl, m0, ?_⟩⟩⟩
    exact q _ _ (Int.emod_nonneg _ (by omega)) (Int.emod_lt_of_pos _ m0) ⟨p0, z, hz, z0, e0, e1⟩ upd_extB
end
end Ab

namespace Ab
open PySem PySem.Spec PyProof.Rows L2

def PairAt (H : Hp) (t : Addr) (lo hi : Int) : Prop := H t = some (.tup [.int lo, .int hi])
theorem PairAt.ext {H H' : Hp} {t : Addr} {lo hi : Int} (h : PairAt H t lo hi) (e : Ext H H') : PairAt H' t lo hi := e _ _ h
theorem PairAt.extB {H H' : Hp} {t p : Addr} {lo hi : Int} (h : PairAt H t lo hi) (P : PotOk H p) (e : ExtB p H H') : PairAt H' t lo hi := e _ _ (P.ne h fun _ q => by cases q) h
theorem sl2 : 2 ≤ sizeLine := by decide
theorem slN {n : Nat} (h : n ≤ 1000000) : n ≤ sizeLine := by rw [sizeLine_eq]; omega

/-- a property of the class at C: its object, its getter -/
structure Prp (P : Program) (w : World) (K : PySem.W.Frag) (mg : Str → Option Value) (base : Heap) (C : Addr) (f : Str) (sp : Sp) : Prop where
  ex : ∃ p g fd, PropOf K C f p g ∧ FnOk P w K mg base CX0 1 g fd ["self"] sp ∧ Binds K fd ["self"] []
def tPr (C : Addr) (sp : Sp) (ta : TE) : TE := fun σ H Q => ta σ H fun x H1 => ∃ a, x = .ref a ∧ IsIns C H1 a ∧ sp [.ref a] H1 Q E0
theorem pe_pr {X : Cx} {C : Addr} {f : Str} {sp : Sp} {e : Expr} {ta : TE} {pos : Pos} (h : Prp X.prog X.w X.K X.mg X.base C f sp) (c : Cls X.K C) (he : PE X e ta) (hr : Room 2 X.A) (hm : MonT ta := by exact mono_var)
    (hab : attributeBase e f X.env (eval e X.env) = eval e X.env := by rfl) : PE X (.Attribute e f pos) (tPr C sp ta) := by
  obtain ⟨p, g, fd, hp, F, b⟩ := h.ex
  exact PE.imp (pe_prop he c hp F hr b .nil pass0 hab) fun σ H Q q => hm _ _ _ _ (fun x H1 ⟨a, ex, ⟨dx, fs, ea⟩, s⟩ => ⟨a, dx, fs, ex, ea, s⟩) q

section
variable {P : Program} {w : World} {K : PySem.W.Frag} {mg : Str → Option Value} {base : Heap} {C : Addr}
def spNumber : Sp := fun vs H Q _ => ∃ p : Addr, vs = [.ref p] ∧ PotOk H p ∧ ∀ (n : Int) (H' : Hp), -10 ^ 26 < n → n < 10 ^ 26 → PotOk H' p → ExtB p H H' → Q (.int n) H'
theorem scNumber : FnScope ["_law_pot_here", "_law_way", "_law_far"] ["_law_pot_here"] (defScope sNumber) := ⟨rfl, rfl, rfl, by decide +kernel, rfl, by decide +kernel, by decide +kernel⟩
theorem ok_number {f g : Addr} {fd : FuncData} (F : Fun K "_law_number" "_law_number" sNumber f fd) (b : Binds K fd ["_law_pot_here"] []) (T : Txt K mg C) (G_draw : Got K mg "_law_draw" g) (F_draw : FnR P w K mg base CX0 1 g spDraw) : FnR P w K mg base CX0 2 f spNumber := by
  refine okR F b scNumber (fun vs H Q E ⟨p, e, _⟩ => by rw [e]; rfl) (fun cdv A outer s H vs Q E hr ⟨p, e, hP, q⟩ => ?_)
  subst e
  refine ⟨_, (pss_cons (ps_set (i := 1) scNumber.nd rfl (Or.inl rfl) (pe_to G_draw F_draw hr (pa_cons (pv 0) (pa_cons pe_int pa_nil))))
      (pss_cons (ps_if (pt_cmpR op_lt (pv 1) pe_int (nomark _)) (pss_one (ps_ret (pe_op op_sub (pe_to G_draw F_draw hr (pa_cons (pv 0) (pa_cons pe_int pa_nil))) pe_int))) pss_nil)
      (pss_cons (ps_set (i := 2) scNumber.nd rfl (Or.inl rfl) (pe_op op_add (pe_op op_mul (pe_to G_draw F_draw hr (pa_cons (pv 0) (pa_cons (pe_op op_pow pe_int pe_int) pa_nil))) (pe_op op_pow pe_int pe_int)) (pe_to G_draw F_draw hr (pa_cons (pv 0) (pa_cons (pe_op op_pow pe_int pe_int) pa_nil)))))
      (pss_one (ps_ret (pe_ifExp (pt_cmpR op_eq (pv 1) pe_int (nomark _)) (pv 2) (pe_op op_sub pe_int (pv 2)))))))), ?_⟩
  refine ⟨.ref p, rfl, p, 4, rfl, by decide, by decide, hP, fun way H1 w0 w1 P1 e1 => ?_⟩
  refine ⟨.int way, rfl, way, 2, rfl, rfl, _, rfl, ?_⟩
  refine ite2 (fun _ => ?_) (fun _ => ?_)
  · refine ⟨.ref p, rfl, p, 9, rfl, by decide, by decide, P1, fun d H2 d0 d1 P2 e2 => ⟨d, 4, rfl, rfl, ?_⟩⟩
    exact q _ _ (by omega) (by omega) P2 (e1.trans e2)
  · refine ⟨.ref p, rfl, 10, 13, rfl, rfl, cpow (by decide) (by decide) (by decide), p, _, rfl, by decide, by decide, P1, fun d H2 d0 d1 P2 e2 => ?_⟩
    refine ⟨10, 12, rfl, rfl, cpow (by decide) (by decide) (by decide), d, _, rfl, rfl, .inr ⟨by decide, by decide⟩, .ref p, rfl, 10, 12, rfl, rfl, cpow (by decide) (by decide) (by decide), p, _, rfl, by decide, by decide, P2, fun d2 H3 c0 c1 P3 e3 => ?_⟩
    have h1 : d < 10 ^ 13 := d1
    have h2 : d2 < 10 ^ 12 := c1
    have e4 := e1.trans (e2.trans e3)
    refine ⟨_, d2, rfl, rfl, .int way, rfl, rfl, _, rfl, ?_⟩
    refine ite2 (fun _ => ?_) (fun _ => ?_)
    · refine ⟨_, rfl, q _ _ ?_ ?_ P3 e4⟩
      · show -10 ^ 26 < d * 10 ^ 12 + d2; omega
      · show d * 10 ^ 12 + d2 < 10 ^ 26; omega
    · refine ⟨_, rfl, 0, _, rfl, rfl, q _ _ ?_ ?_ P3 e4⟩
      · show -10 ^ 26 < 0 - (d * 10 ^ 12 + d2); omega
      · show 0 - (d * 10 ^ 12 + d2) < 10 ^ 26; omega

theorem two_sorted {x y : Int} {ns : List Int} (h : ns.Perm [x, y]) (s : ns.Pairwise (· ≤ ·)) : ∃ a b, ns = [a, b] ∧ a ≤ b ∧ (a = x ∨ a = y) ∧ (b = x ∨ b = y) := by
  have hl := h.length_eq
  match ns, hl with
  | [a, b], _ =>
    refine ⟨a, b, rfl, ?_, ?_, ?_⟩
    · exact (List.pairwise_cons.mp s).1 b (List.Mem.head _)
    · have := h.mem_iff.mp (List.Mem.head [b])
      simpa using this
    · have := h.mem_iff.mp (List.Mem.tail a (List.Mem.head []))
      simpa using this
def spBounds : Sp := fun vs H Q _ => ∃ (p : Addr) (c : Int), vs = [.ref p, .int c] ∧ PotOk H p ∧ ∀ (t : Addr) (lo hi : Int) (H' : Hp), lo ≤ hi → c - 3 ≤ lo → hi ≤ c + 3 → PairAt H' t lo hi → PotOk H' p → ExtB p H H' → Q (.ref t) H'
theorem scBounds : FnScope ["_law_pot_here", "_law_base"] ["_law_pot_here", "_law_base"] (defScope sBounds) := ⟨rfl, rfl, rfl, by decide +kernel, rfl, by decide +kernel, by decide +kernel⟩
theorem ok_bounds {f g : Addr} {fd : FuncData} (F : Fun K "_law_bounds" "_law_bounds" sBounds f fd) (b : Binds K fd ["_law_pot_here", "_law_base"] []) (T : Txt K mg C) (G_draw : Got K mg "_law_draw" g) (F_draw : FnR P w K mg base CX0 1 g spDraw) : FnR P w K mg base CX0 2 f spBounds := by
  refine okR F b scBounds (fun vs H Q E ⟨p, c, e, _⟩ => by rw [e]; rfl) (fun cdv A outer s H vs Q E hr ⟨p, c, e, hP, q⟩ => ?_)
  subst e
  refine ⟨_, (pss_one (ps_ret (pe_callTy call_tuple_of rfl T.b_tuple rfl (pa_cons (pe_callB cr_sorted rfl T.b_sorted rfl (pa_cons (pe_lst (pa_cons (pe_op op_sub (pe_op op_add (pv 1) (pe_to G_draw F_draw hr (pa_cons (pv 0) (pa_cons pe_int pa_nil)))) pe_int) (pa_cons (pe_op op_sub (pe_op op_add (pv 1) (pe_to G_draw F_draw hr (pa_cons (pv 0) (pa_cons pe_int pa_nil)))) pe_int) pa_nil))) pa_nil)) pa_nil)))), ?_⟩
  refine ⟨.int c, rfl, .ref p, rfl, p, 7, rfl, by decide, by decide, hP, fun d H1 d0 d1 P1 e1 => ?_⟩
  refine ⟨c, d, rfl, rfl, _, 3, rfl, rfl, .int c, rfl, .ref p, rfl, p, 7, rfl, by decide, by decide, P1, fun d' H2 d0' d1' P2 e2 => ?_⟩
  refine ⟨c, d', rfl, rfl, _, 3, rfl, rfl, sl2, fun l hl => ?_⟩
  refine ⟨l, [c + d - 3, c + d' - 3], rfl, .of upd_same, (by decide : 2 < 64), fun ns l2 hp hs hl2 => ?_⟩
  obtain ⟨lo, hi, rfl, le, m1, m2⟩ := two_sorted hp hs
  refine ⟨l2, _, rfl, .inl ⟨.of upd_same, fun t ht => ?_⟩⟩
  have x1 := lay_ext (o := .lst [.int (c + d - 3), .int (c + d' - 3)]) hl
  have x2 := lay_ext (o := .lst ([lo, hi].map V.int)) hl2
  have x3 := lay_ext (o := .tup ([lo, hi].map V.int)) ht
  have xx := x1.trans (x2.trans x3)
  exact q t lo hi _ le (by omega) (by omega) upd_same (P2.ext xx) (e1.trans (e2.trans (.of xx)))

def spMade (C : Addr) : Sp := fun vs H Q _ => ∃ t lo hi, vs = [.ref t] ∧ PairAt H t lo hi ∧ lo ≤ hi ∧ NewSpan C H lo hi Q
theorem scMade : FnScope ["_law_bounds_here"] ["_law_bounds_here"] (defScope sMade) := ⟨rfl, rfl, rfl, by decide +kernel, rfl, by decide +kernel, by decide +kernel⟩
theorem ok_made {f fI : Addr} {fd fdI : FuncData} (F : Fun K "_law_made" "_law_made" sMade f fd) (b : Binds K fd ["_law_bounds_here"] []) (T : Txt K mg C) (m : Maker P w K mg base C fI fdI) : FnR P w K mg base CX0 5 f (spMade C) := by
  refine okR F b scMade (fun vs H Q E ⟨t, lo, hi, e, _⟩ => by rw [e]; rfl) (fun cdv A outer s H vs Q E hr ⟨t, lo, hi, e, ht, le, q⟩ => ?_)
  subst e
  refine ⟨_, (pss_one (ps_ret (pe_span T m hr (pa_cons (pe_ix ix_tup (pv 0) pe_int (fun _ _ => rfl)) (pa_cons (pe_ix ix_tup (pv 0) pe_int (fun _ _ => rfl)) pa_nil))))), ?_⟩
  exact ⟨.ref t, rfl, t, _, 0, .int lo, rfl, rfl, .of ht, rfl, .ref t, rfl, t, _, 1, .int hi, rfl, rfl, .of ht, rfl, lo, hi, rfl, le, q⟩
end
end Ab

namespace Ab
open PySem PySem.Spec PyProof.Rows L2

/-- a method of the class at C that the text gives, by its promise -/
structure Own (P : Program) (w : World) (K : PySem.W.Frag) (mg : Str → Option Value) (base : Heap) (C : Addr) (name : Str) (k : Nat) (sp : Sp) : Prop where
  ex : ∃ g, PySem.W.findIn K (.ref C) name = some (some (.ref g)) ∧ PySem.W.isFn K (.ref g) = true ∧ FnR P w K mg base CX0 k g sp
section
variable {X : Cx} {C : Addr} {k : Nat} {sp : Sp}
theorem own_str (O : Own X.prog X.w X.K X.mg X.base C "__str__" 1 sp) (hr : Room 3 X.A) : CallR X (.type "str") (rTxt C sp E0) := by
  obtain ⟨g, h1, h2, F⟩ := O.ex
  exact call_strO h1 h2 F hr fun _ => at0
theorem own_repr (O : Own X.prog X.w X.K X.mg X.base C "__repr__" 1 sp) (hr : Room 2 X.A) : CallR X (.builtin "repr") (rTxt C sp E0) := by
  obtain ⟨g, h1, h2, F⟩ := O.ex
  exact call_reprO h1 h2 F hr fun _ => at0
end

section
variable {P : Program} {w : World} {K : PySem.W.Frag} {mg : Str → Option Value} {base : Heap} {C : Addr}
abbrev sIs : Stmt := top 21
def spIs (C : Addr) : Sp := fun vs H Q _ => ∃ a t lo hi, vs = [.ref a, .ref t] ∧ SpanAt C H a lo hi ∧ PairAt H t lo hi ∧ Bd lo ∧ Bd hi ∧ Bd (hi - lo) ∧ ∀ H', Ext H H' → Q (.bl true) H'
theorem scIs : FnScope ["_law_made_here", "_law_bounds_here", "_law_least", "_law_most", "_law_told", "_law_shown"] ["_law_made_here", "_law_bounds_here"] (defScope sIs) := ⟨rfl, rfl, rfl, by decide +kernel, rfl, by decide +kernel, by decide +kernel⟩
def isL (lo hi : Int) : List V := [.int lo, .int hi, .int (hi - lo), .str (tStr lo hi), .str (tRep lo hi)]
def isD (lo hi : Int) : List PyData := [.int lo, .int hi, .int (hi - lo), .str (tStr lo hi), .str (tRep lo hi)]
theorem isD_sh {lo hi : Int} (h1 : Bd lo) (h2 : Bd hi) (h3 : Bd (hi - lo)) : ∀ d ∈ isD lo hi, Sh d :=
  sh_cons (sh_int h1) (sh_cons (sh_int h2) (sh_cons (sh_int h3) (sh_cons (sh_str (tStr_len h1 h2) tStr_sg) (sh_cons (sh_str (tRep_len h1 h2) tRep_sg) sh_nil))))
theorem ok_is {f : Addr} {fd : FuncData} (F : Fun K "_law_is" "_law_is" sIs f fd) (b : Binds K fd ["_law_made_here", "_law_bounds_here"] []) (T : Txt K mg C) (Plo : Prp P w K mg base C "low" (spLow C)) (Phi : Prp P w K mg base C "high" (spHigh C))
    (Pwi : Prp P w K mg base C "width" (spWidth C)) (Ost : Own P w K mg base C "__str__" 1 (spStr C)) (Ore : Own P w K mg base C "__repr__" 1 (spRepr C)) : FnG P w K mg base CX0 4 f (spIs C) := by
  refine okG F b scIs (fun vs H Q E ⟨a, t, lo, hi, e, _⟩ => by rw [e]; rfl) (fun cdv A outer s H vs Q E hgs hr ⟨a, t, lo, hi, e, sa, ht, bl, bh, bw, q⟩ => ?_)
  subst e
  refine ⟨_, (pss_cons (ps_asg (pv 1) (pg_tup rfl (pgs_cons (pg_name (i := 2) scIs.nd rfl (Or.inl rfl)) (pgs_cons (pg_name (i := 3) scIs.nd rfl (Or.inl rfl)) pgs_nil))))
      (pss_cons (ps_set (i := 4) scIs.nd rfl (Or.inl rfl) (pe_lst (pa_cons (pe_pr Plo T.cl (pv 0) (hr.mono (by decide))) (pa_cons (pe_pr Phi T.cl (pv 0) (hr.mono (by decide))) (pa_cons (pe_pr Pwi T.cl (pv 0) (hr.mono (by decide))) (pa_cons (pe_callTy (own_str Ost hr) rfl T.b_str rfl (pa_cons (pv 0) pa_nil)) (pa_cons (pe_callB (own_repr Ore (hr.mono (by decide))) rfl T.b_repr rfl (pa_cons (pv 0) pa_nil)) pa_nil)))))))
      (pss_cons (ps_set (i := 5) scIs.nd rfl (Or.inl rfl) (pe_lst (pa_cons (pe_op op_add_str (pe_op op_add_str (pe_callTy call_str_int rfl T.b_str rfl (pa_cons (pv 2) pa_nil)) pe_str) (pe_callTy call_str_int rfl T.b_str rfl (pa_cons (pv 3) pa_nil))) (pa_cons (pe_op op_add_str (pe_op op_add_str (pe_op op_add_str (pe_op op_add_str pe_str (pe_callTy call_str_int rfl T.b_str rfl (pa_cons (pv 2) pa_nil))) pe_str) (pe_callTy call_str_int rfl T.b_str rfl (pa_cons (pv 3) pa_nil))) pe_str) pa_nil))))
      (pss_one (ps_ret (pe_and (pe_callB call_isi rfl T.b_isinstance rfl (pa_cons (pv 0) (pa_cons (pe_glob rfl T.mgC (v := .ref C) rfl) pa_nil))) (pe_one (pe_cmpR op_eq (pe_callB (call_rep hgs hr) rfl T.b_repr rfl (pa_cons (pv 4) pa_nil)) (pe_callB (call_rep hgs hr) rfl T.b_repr rfl (pa_cons (pe_op op_cat (pe_lst (pa_cons (pv 2) (pa_cons (pv 3) (pa_cons (pe_op op_sub (pv 3) (pv 2)) pa_nil)))) (pv 5)) pa_nil)) (nomark _))))))))), ?_⟩
  have z : ∀ n, n ≤ 1000 → n ≤ sizeLine := fun n h => slN (by omega)
  have c1 : ("Span(" : Str).length = 5 := by decide +kernel
  have c2 : (", " : Str).length = 2 := by decide +kernel
  have c3 : (")" : Str).length = 1 := by decide +kernel
  have c4 : (".." : Str).length = 2 := by decide +kernel
  have n1 := bl.len
  have n2 := bh.len
  refine ⟨.ref t, rfl, t, _, rfl, .of ht, rfl, _, _, rfl, _, _, rfl, rfl, ?_⟩
  refine ⟨.ref a, rfl, a, rfl, sa.ins, a, lo, hi, rfl, sa, .ref a, rfl, a, rfl, sa.ins, a, lo, hi, rfl, sa, .ref a, rfl, a, rfl, sa.ins, a, lo, hi, rfl, sa,
    .ref a, rfl, a, rfl, sa.ins, a, lo, hi, rfl, sa, bl, bh, _, rfl, .ref a, rfl, a, rfl, sa.ins, a, lo, hi, rfl, sa, bl, bh, _, rfl, (by show 5 ≤ sizeLine; decide), fun l hl => ?_⟩
  have sa1 := sa.ext (lay_ext (o := .lst (isL lo hi)) hl)
  refine ⟨.int lo, rfl, lo, rfl, bl.log, toString lo, "..", rfl, rfl, z _ (by omega), .int hi, rfl, hi, rfl, bh.log, _, toString hi, rfl, rfl, z _ (by rw [strLen_append]; omega),
    .int lo, rfl, lo, rfl, bl.log, "Span(", toString lo, rfl, rfl, z _ (by omega), _, ", ", rfl, rfl, z _ (by rw [strLen_append]; omega), .int hi, rfl, hi, rfl, bh.log, _, toString hi, rfl, rfl, z _ (by rw [strLen_append, strLen_append]; omega),
    _, ")", rfl, rfl, z _ (by rw [strLen_append, strLen_append, strLen_append]; omega), sl2, fun l2 hl2 => ?_⟩
  have sa2 := sa1.ext (lay_ext (o := .lst [.str (tStr lo hi), .str (tRep lo hi)]) hl2)
  have ne12 : l ≠ l2 := ne_of_none upd_same hl2
  refine ⟨.ref a, rfl, .ref a, .ref C, .ref C, .ref C, true, rfl, .own C, T.ty sa2.ins, T.kSelf, true, rfl, iteT ?_⟩
  refine ⟨.ref l, rfl, l, isL lo hi, isD lo hi, rfl, (upd_ne ne12).trans upd_same, rfl, isD_sh bl bh bw, (by decide : 5 ≤ 1000), ?_⟩
  refine ⟨.int lo, rfl, .int hi, rfl, .int hi, rfl, .int lo, rfl, hi, lo, rfl, rfl, (by show 3 ≤ sizeLine; decide), fun l3 hl3 => ?_⟩
  have ne23 : l2 ≠ l3 := ne_of_none upd_same hl3
  refine ⟨.ref l2, rfl, l3, l2, _, _, rfl, rfl, upd_same, (upd_ne ne23).trans upd_same, (by show 3 + 2 ≤ sizeLine; decide), fun l4 hl4 => ?_⟩
  refine ⟨l4, isL lo hi, isD lo hi, rfl, upd_same, rfl, isD_sh bl bh bw, (by decide : 5 ≤ 1000), rfl, ?_⟩
  rw [decide_eq_true rfl]
  exact q _ ((lay_ext hl).trans ((lay_ext hl2).trans ((lay_ext hl3).trans (lay_ext hl4))))
end
end Ab

namespace Ab
open PySem PySem.Spec PyProof.Rows L2

/-- what the operators ask of the written part -/
structure Ops (K : PySem.W.Frag) (C : Addr) : Prop where
  sf : PySem.W.selfFirst K C = true
  iadd : PySem.W.findIn K (.type "int") "__add__" = some (some (.builtin "int.__add__"))
  iradd : PySem.W.findIn K (.type "int") "__radd__" = some (some (.builtin "int.__radd__"))
  isub : PySem.W.findIn K (.type "int") "__sub__" = some (some (.builtin "int.__sub__"))
  irsub : PySem.W.findIn K (.type "int") "__rsub__" = some (some (.builtin "int.__rsub__"))
  rsub : PySem.W.findIn K (.ref C) "__rsub__" = some none
  s1 : PySem.W.subIn K (.type "int") (.ref C) = some false
  s2 : PySem.W.subIn K (.ref C) (.type "int") = some false
  ne : PySem.W.findIn K (.ref C) "__ne__" = some (some (.builtin "object.__ne__"))
theorem d_add : PySem.dunder Operator.Add.info.2 = ("__add__" : Str) := by decide +kernel
theorem d_sub : PySem.dunder Operator.Sub.info.2 = ("__sub__" : Str) := by decide +kernel
theorem d_or : PySem.dunder Operator.BitOr.info.2 = ("__or__" : Str) := by decide +kernel
theorem d_and : PySem.dunder Operator.BitAnd.info.2 = ("__and__" : Str) := by decide +kernel
theorem r_add : dunderR Operator.Add.info.2 = ("__radd__" : Str) := by decide +kernel
theorem r_sub : dunderR Operator.Sub.info.2 = ("__rsub__" : Str) := by decide +kernel
theorem c_lt : (cmpInfo .Lt).2.1 = ("__lt__" : Str) := by decide +kernel
theorem c_le : (cmpInfo .LtE).2.1 = ("__le__" : Str) := by decide +kernel
theorem c_gt : (cmpInfo .Gt).2.1 = ("__gt__" : Str) := by decide +kernel
theorem c_ge : (cmpInfo .GtE).2.1 = ("__ge__" : Str) := by decide +kernel
theorem c_eq : (cmpInfo .Eq).2.1 = ("__eq__" : Str) := by decide +kernel
section
variable {X : Cx} {C : Addr} {sp sp1 : Sp} {k j : Nat}
theorem oAdd (O : Ops X.K C) (h : Own X.prog X.w X.K X.mg X.base C "__add__" k sp) (h' : Own X.prog X.w X.K X.mg X.base C "__radd__" j sp1) (hr : Room k X.A) : OpR X (binaryOp .Add) (rBinI C sp E0) := by
  obtain ⟨g, h1, h2, F⟩ := h.ex
  obtain ⟨g', h3, _, _⟩ := h'.ex
  exact op_binI O.sf (by rw [d_add]; exact h1) h2 (by rw [r_add]; exact h3) (.inr ⟨g', rfl⟩) (by rw [d_add]; exact O.iadd) (by rw [r_add]; exact O.iradd) O.s1 F hr fun _ => at0
theorem oRadd (O : Ops X.K C) (h : Own X.prog X.w X.K X.mg X.base C "__add__" j sp1) (h' : Own X.prog X.w X.K X.mg X.base C "__radd__" k sp) (hr : Room k X.A) : OpR X (binaryOp .Add) (rBinR C sp E0) := by
  obtain ⟨g, h1, _, _⟩ := h.ex
  obtain ⟨g', h3, h4, F⟩ := h'.ex
  exact op_raddO O.sf (by rw [d_add]; exact h1) (by rw [r_add]; exact h3) h4 O.s2 F hr fun _ => at0
theorem oSub (O : Ops X.K C) (h : Own X.prog X.w X.K X.mg X.base C "__sub__" k sp) (hr : Room k X.A) : OpR X (binaryOp .Sub) (rBinI C sp E0) := by
  obtain ⟨g, h1, h2, F⟩ := h.ex
  exact op_binI O.sf (by rw [d_sub]; exact h1) h2 (by rw [r_sub]; exact O.rsub) (.inl rfl) (by rw [d_sub]; exact O.isub) (by rw [r_sub]; exact O.irsub) O.s1 F hr fun _ => at0
theorem oNeg (h : Own X.prog X.w X.K X.mg X.base C "__neg__" k sp) (hr : Room k X.A) : UnR X (unaryOp .USub) (rNeg C sp E0) := by
  obtain ⟨g, h1, h2, F⟩ := h.ex
  exact un_negO h1 h2 F hr fun _ => at0
theorem oOr (O : Ops X.K C) (h : Own X.prog X.w X.K X.mg X.base C "__or__" k sp) (hr : Room k X.A) {l r : Expr} {ta tb : TE} {pos : Pos} (ha : PE X l ta) (hb : PE X r tb) : PE X (.BinOp l .BitOr r pos) (tBinO C sp (fun _ => E0) ta tb) := by
  obtain ⟨g, h1, h2, F⟩ := h.ex
  exact pe_binO O.sf (by rw [d_or]; exact h1) h2 F hr (fun _ => at0) ha hb
theorem oIn (h : Own X.prog X.w X.K X.mg X.base C "__contains__" k sp) (hr : Room k X.A) : OpR X (compareOp .In) (rIn C sp E0) := by
  obtain ⟨g, h1, h2, F⟩ := h.ex
  exact op_inO h1 h2 F hr fun _ => at0
theorem oLt (h : Own X.prog X.w X.K X.mg X.base C "__lt__" k sp) (hr : Room k X.A) : OpR X (compareOp .Lt) (rCmp C sp E0) := by
  obtain ⟨g, h1, h2, F⟩ := h.ex
  exact op_cmpO (fun _ _ => rfl) (by rw [c_lt]; exact h1) h2 F hr fun _ => at0
theorem oLe (h : Own X.prog X.w X.K X.mg X.base C "__le__" k sp) (hr : Room k X.A) : OpR X (compareOp .LtE) (rCmp C sp E0) := by
  obtain ⟨g, h1, h2, F⟩ := h.ex
  exact op_cmpO (fun _ _ => rfl) (by rw [c_le]; exact h1) h2 F hr fun _ => at0
theorem oGt (h : Own X.prog X.w X.K X.mg X.base C "__gt__" k sp) (hr : Room k X.A) : OpR X (compareOp .Gt) (rCmp C sp E0) := by
  obtain ⟨g, h1, h2, F⟩ := h.ex
  exact op_cmpO (fun _ _ => rfl) (by rw [c_gt]; exact h1) h2 F hr fun _ => at0
theorem oGe (h : Own X.prog X.w X.K X.mg X.base C "__ge__" k sp) (hr : Room k X.A) : OpR X (compareOp .GtE) (rCmp C sp E0) := by
  obtain ⟨g, h1, h2, F⟩ := h.ex
  exact op_cmpO (fun _ _ => rfl) (by rw [c_ge]; exact h1) h2 F hr fun _ => at0
theorem oEq (h : Own X.prog X.w X.K X.mg X.base C "__eq__" k sp) (hr : Room k X.A) : OpR X (compareOp .Eq) (rCmp C sp E0) := by
  obtain ⟨g, h1, h2, F⟩ := h.ex
  exact op_cmpO (fun _ _ => rfl) (by rw [c_eq]; exact h1) h2 F hr fun _ => at0
theorem oNe (T : Txt X.K X.mg C) (O : Ops X.K C) (h : Own X.prog X.w X.K X.mg X.base C "__eq__" k sp) (hr : Room (k + 1) X.A) :
    OpR X (compareOp .NotEq) (fun x y H Q => ∃ a b, x = .ref a ∧ y = .ref b ∧ IsIns C H a ∧ IsIns C H b ∧ sp [.ref a, .ref b] H (fun z H' => ∃ k, z = .bl k ∧ Q (.bl (!k)) H') E0) := by
  obtain ⟨g, h1, h2, F⟩ := h.ex
  exact op_neO T.kcm O.ne h1 h2 F hr fun _ => at0
end

/-! ### Span(high = .., low = ..) -/
def kwG {α : Type} (us ws : List α) : List α := us ++ ws.reverse
theorem kw_rel {vs : List V} {us : List Value} {zs : List V} {ws : List Value} (r : Vals vs us) (q : Vals zs ws) : Vals (kwG vs zs) (kwG us ws) := by
  have rv : ∀ {xs : List V} {ys : List Value}, Vals xs ys → Vals xs.reverse ys.reverse := fun {xs ys} h => by
    induction h with
    | nil => exact .nil
    | cons a b ih =>
      rw [List.reverse_cons, List.reverse_cons]
      exact Vals.append ih (.cons a .nil)
  exact r.append (rv q)
section
variable {X : Cx} {C fI : Addr} {fdI : FuncData} {kws : List Keyword} {tk : TA} {p pos : Pos}
def tSpanK (C : Addr) (tk : TA) : TE := fun σ H Q => tk σ H fun zs H1 => ∃ lo hi : Int, zs = [.int hi, .int lo] ∧ lo ≤ hi ∧ NewSpan C H1 lo hi Q
theorem pe_spanK (T : Txt X.K X.mg C) (m : Maker X.prog X.w X.K X.mg X.base C fI fdI) (hb : KBn X.K fdI ["self", "low", "high"] 1 ["high", "low"] kwG kwG) (hr : Room 4 X.A) (hkw : PK X kws tk) (hg : Gl X "Span" := by rfl)
    (hall : (backToKw pos (keywordEach kws X.env)).all (·.1.isSome) = true := by rfl) (hks : (backToKw pos (keywordEach kws X.env)).filterMap (·.1) = (["high", "low"] : List Str) := by rfl)
    (hpl : ((backTo pos (starEach [] X.env)).any (·.1) || (backToKw pos (keywordEach kws X.env)).any (·.1.isNone)) = false := by rfl) : PE X (.Call (.Name "Span" p) [] kws pos) (tSpanK C tk) := by
  refine ⟨fun pins s σ H Q I h => wpAny_Call_Name_kw (ld_glob I hg T.mgC ?_ (by decide))⟩
  refine PySem.W.callWith_KW0 (h₀ := X.base) I.ok.mod.kin m.M.kp hall (thn (hkw.run pos pins s σ H _ I h) fun ws s2 hh => ?_) hpl
  obtain ⟨zs, H2, I2, rz, lo, hi, ez, le, q⟩ := hh
  subst ez
  rw [hks]
  exact ⟨I2.kIn, run_makeK (us := []) (vs := []) (n := 0) m.M m.F hr hb pass0 I2 .nil rz rfl rfl (made le q)⟩
end

section
variable {P : Program} {w : World} {K : PySem.W.Frag} {mg : Str → Option Value} {base : Heap} {C : Addr}
abbrev sMoved : Stmt := top 25
def Lim (i : Int) : Prop := -10 ^ 40 < i ∧ i < 10 ^ 40
theorem Lim.bd {i : Int} (h : Lim i) : Bd i := .of (by have := h.1; omega) (by have := h.2; omega)
def spMoved (C : Addr) : Sp := fun vs H Q _ => ∃ t lo hi n, vs = [.ref t, .int n] ∧ PairAt H t lo hi ∧ lo ≤ hi ∧ Lim lo ∧ Lim hi ∧ Lim n ∧ ∀ H', Ext H H' → Q (.bl true) H'
theorem scMoved : FnScope ["_law_bounds_here", "_law_more", "_law_made_here", "_law_least", "_law_most", "_law_moved"] ["_law_bounds_here", "_law_more"] (defScope sMoved) := ⟨rfl, rfl, rfl, by decide +kernel, rfl, by decide +kernel, by decide +kernel⟩
theorem ok_moved {f fI g1 g2 : Addr} {fd fdI : FuncData} (F : Fun K "_law_moved_right" "_law_moved_right" sMoved f fd) (b : Binds K fd ["_law_bounds_here", "_law_more"] []) (T : Txt K mg C) (O : Ops K C) (m : Maker P w K mg base C fI fdI)
    (hb : KBn K fdI ["self", "low", "high"] 1 ["high", "low"] kwG kwG) (G_made : Got K mg "_law_made" g1) (F_made : FnR P w K mg base CX0 5 g1 (spMade C)) (G_is : Got K mg "_law_is" g2) (F_is : FnG P w K mg base CX0 4 g2 (spIs C))
    (mAdd : Own P w K mg base C "__add__" 5 (spAdd C)) (mRadd : Own P w K mg base C "__radd__" 5 (spAdd C)) (mSub : Own P w K mg base C "__sub__" 5 (spSub C)) (mNeg : Own P w K mg base C "__neg__" 5 (spNeg C)) : FnG P w K mg base CX0 6 f (spMoved C) := by
  refine okG F b scMoved (fun vs H Q E ⟨t, lo, hi, n, e, _⟩ => by rw [e]; rfl) (fun cdv A outer s H vs Q E hgs hr ⟨t, lo, hi, n, e, ht, le, bl, bh, bn, q⟩ => ?_)
  subst e
  have hr4 := hr.mono (show 4 ≤ 5 by decide)
  refine ⟨_, (pss_cons (ps_asg (pe_tup (pa_cons (pe_to G_made F_made hr (pa_cons (pv 0) pa_nil)) (pa_cons (pv 0) pa_nil))) (pg_tup rfl (pgs_cons (pg_name (i := 2) scMoved.nd rfl (Or.inl rfl)) (pgs_cons (pg_tup rfl (pgs_cons (pg_name (i := 3) scMoved.nd rfl (Or.inl rfl)) (pgs_cons (pg_name (i := 4) scMoved.nd rfl (Or.inl rfl)) pgs_nil))) pgs_nil))))
      (pss_cons (ps_set (i := 5) scMoved.nd rfl (Or.inl rfl) (pe_tup (pa_cons (pe_op op_add (pv 3) (pv 1)) (pa_cons (pe_op op_add (pv 4) (pv 1)) pa_nil))))
      (pss_cons (ps_if (pw_or (pt_not (pt_val (pe_toG G_is F_is hgs hr4 (pa_cons (pe_op (oAdd O mAdd mRadd hr) (pv 2) (pv 1)) (pa_cons (pv 5) pa_nil))))) (pw_or1 (pt_not (pt_val (pe_toG G_is F_is hgs hr4 (pa_cons (pe_op (oRadd O mAdd mRadd hr) (pv 1) (pv 2)) (pa_cons (pv 5) pa_nil))))))).pt (pss_one (ps_ret pe_bl)) pss_nil)
      (pss_cons (ps_if (pw_or (pt_not (pt_val (pe_toG G_is F_is hgs hr4 (pa_cons (pe_op (oSub O mSub hr) (pv 2) (pv 1)) (pa_cons (pe_tup (pa_cons (pe_op op_sub (pv 3) (pv 1)) (pa_cons (pe_op op_sub (pv 4) (pv 1)) pa_nil))) pa_nil))))) (pw_or1 (pt_not (pt_val (pe_toG G_is F_is hgs hr4 (pa_cons (pe_un (oNeg mNeg hr) (pv 2)) (pa_cons (pe_tup (pa_cons (pe_op op_sub pe_int (pv 4)) (pa_cons (pe_op op_sub pe_int (pv 3)) pa_nil))) pa_nil))))))).pt (pss_one (ps_ret pe_bl)) pss_nil)
      (pss_one (ps_ret (pe_and (pe_toG G_is F_is hgs hr4 (pa_cons (pe_spanK T m hb hr4 (pk_cons (pv 4) (pk_cons (pv 3) pk_nil))) (pa_cons (pv 0) pa_nil))) (pe_one (pe_toG G_is F_is hgs hr4 (pa_cons (pv 2) (pa_cons (pv 0) pa_nil))))))))))), ?_⟩
  refine ⟨.ref t, rfl, t, lo, hi, rfl, ht, le, fun a H1 e1 sa => ?_⟩
  refine ⟨.ref t, rfl, sl2, fun u hu => ?_⟩
  have xu := e1.trans (lay_ext (o := .tup [.ref a, .ref t]) hu)
  have sa1 := sa.ext (lay_ext (o := .tup [.ref a, .ref t]) hu)
  have ht1 := ht.ext xu
  refine ⟨u, _, rfl, .of upd_same, rfl, _, _, rfl, _, _, rfl, t, _, rfl, .of ht1, rfl, _, _, rfl, _, _, rfl, rfl, rfl, ?_⟩
  refine ⟨.int lo, rfl, .int n, rfl, lo, n, rfl, rfl, .int hi, rfl, .int n, rfl, hi, n, rfl, rfl, sl2, fun v hv => ?_⟩
  have xv := lay_ext (o := .tup [.int (lo + n), .int (hi + n)]) hv
  have sa2 := sa1.ext xv
  have hv2 : PairAt (upd (upd H1 u (.tup [.ref a, .ref t])) v (.tup [.int (lo + n), .int (hi + n)])) v (lo + n) (hi + n) := upd_same
  have x2 := xu.trans xv
  have b1 := bl.1
  have b2 := bl.2
  have b3 := bh.1
  have b4 := bh.2
  have b5 := bn.1
  have b6 := bn.2
  refine ⟨.ref a, rfl, .int n, rfl, a, n, rfl, rfl, sa2.ins, a, lo, hi, n, rfl, sa2, le, fun a3 H3 e3 sa3 => ?_⟩
  refine ⟨.ref v, rfl, a3, v, lo + n, hi + n, rfl, sa3, hv2.ext e3, .of (by omega) (by omega), .of (by omega) (by omega), .of (by omega) (by omega), fun H4 e4 => ⟨true, rfl, iteF ?_⟩⟩
  have x4 := e3.trans e4
  refine ⟨.int n, rfl, .ref a, rfl, a, n, rfl, rfl, (sa2.ext x4).ins, a, lo, hi, n, rfl, sa2.ext x4, le, fun a5 H5 e5 sa5 => ?_⟩
  refine ⟨.ref v, rfl, a5, v, lo + n, hi + n, rfl, sa5, hv2.ext (x4.trans e5), .of (by omega) (by omega), .of (by omega) (by omega), .of (by omega) (by omega), fun H6 e6 => ⟨true, rfl, iteF ?_⟩⟩
  have x6 := x4.trans (e5.trans e6)
  refine ⟨.ref a, rfl, .int n, rfl, a, n, rfl, rfl, (sa2.ext x6).ins, a, lo, hi, n, rfl, sa2.ext x6, le, fun a7 H7 e7 sa7 => ?_⟩
  refine ⟨.int lo, rfl, .int n, rfl, lo, n, rfl, rfl, .int hi, rfl, .int n, rfl, hi, n, rfl, rfl, sl2, fun v8 hv8 => ?_⟩
  have xv8 := lay_ext (o := .tup [.int (lo - n), .int (hi - n)]) hv8
  refine ⟨a7, v8, lo - n, hi - n, rfl, sa7.ext xv8, upd_same, .of (by omega) (by omega), .of (by omega) (by omega), .of (by omega) (by omega), fun H9 e9 => ⟨true, rfl, iteF ?_⟩⟩
  have x9 := x6.trans (e7.trans (xv8.trans e9))
  refine ⟨.ref a, rfl, a, rfl, (sa2.ext x9).ins, a, lo, hi, rfl, sa2.ext x9, le, fun a10 H10 e10 sa10 => ?_⟩
  refine ⟨.int hi, rfl, 0, hi, rfl, rfl, .int lo, rfl, 0, lo, rfl, rfl, sl2, fun v11 hv11 => ?_⟩
  have xv11 := lay_ext (o := .tup [.int (0 - hi), .int (0 - lo)]) hv11
  have n1 : -hi = 0 - hi := by omega
  have n2 : -lo = 0 - lo := by omega
  rw [n1, n2] at sa10
  refine ⟨a10, v11, 0 - hi, 0 - lo, rfl, sa10.ext xv11, upd_same, .of (by omega) (by omega), .of (by omega) (by omega), .of (by omega) (by omega), fun H12 e12 => ⟨true, rfl, iteF ?_⟩⟩
  have x12 := x9.trans (e10.trans (xv11.trans e12))
  refine ⟨.int hi, rfl, .int lo, rfl, lo, hi, rfl, le, fun a13 H13 e13 sa13 => ?_⟩
  refine ⟨.ref t, rfl, a13, t, lo, hi, rfl, sa13, ht.ext (x2.trans (x12.trans e13)), bl.bd, bh.bd, .of (by omega) (by omega), fun H14 e14 => ⟨true, rfl, iteT ?_⟩⟩
  have x14 := x12.trans (e13.trans e14)
  refine ⟨.ref a, rfl, .ref t, rfl, a, t, lo, hi, rfl, sa2.ext x14, ht.ext (x2.trans x14), bl.bd, bh.bd, .of (by omega) (by omega), fun H15 e15 => ?_⟩
  exact q _ (x2.trans (x14.trans e15))
end
end Ab

namespace Ab
open PySem PySem.Spec PyProof.Rows L2

/-! ### displays, what is laid told by extension alone -/
section
variable {X : Cx} {es : List Expr} {t : TA} {pos : Pos}
def tTupN (t : TA) : TE := fun σ H Q => t σ H fun xs H1 => xs.length ≤ 100 ∧ ∀ p H', Ext H1 H' → H' p = some (.tup xs) → Q (.ref p) H'
def tLstN (t : TA) : TE := fun σ H Q => t σ H fun xs H1 => xs.length ≤ 100 ∧ ∀ p H', H1 p = none → Ext H1 H' → H' p = some (.lst xs) → Q (.ref p) H'
theorem pe_tupN {x1} (h : PA X es t) : PE X (.Tuple es x1 pos) (tTupN t) := by
  refine ⟨fun pins s σ H Q I hq => wpAny_Tuple_spliced (thn (h.run pos pins s σ H _ I hq) fun us s1 hh => ?_)⟩
  obtain ⟨xs, H1, I1, r, z, q⟩ := hh
  have hz : xs.length ≤ sizeLine := slN (by omega)
  have hf : H1 s1.heap.objs.size = none := I1.hok.fresh (Nat.le_refl _)
  refine ⟨by rw [← r.length]; exact hz, .ref s1.heap.objs.size, upd H1 s1.heap.objs.size (.tup xs), ?_, rfl, q _ _ (lay_ext hf) upd_same⟩
  refine I1.laid (t' := s1.toks) (fun b u e => Heap.get?_push_of_some _ e) (Nat.le_refl _) ⟨hz, us, r, ⟨_, Heap.get?_push_size _ rfl, rfl, _, rfl⟩⟩
theorem pe_lstN (h : PA X es t) : PE X (.List es pos) (tLstN t) := by
  refine ⟨fun pins s σ H Q I hq => wpAny_List_spliced (thn (h.run pos pins s σ H _ I hq) fun us s1 hh => ?_)⟩
  obtain ⟨xs, H1, I1, r, z, q⟩ := hh
  have hz : xs.length ≤ sizeLine := slN (by omega)
  have hf : H1 s1.heap.objs.size = none := I1.hok.fresh (Nat.le_refl _)
  refine ⟨by rw [← r.length]; exact hz, .ref s1.heap.objs.size, upd H1 s1.heap.objs.size (.lst xs), ?_, rfl, q _ _ hf (lay_ext hf) upd_same⟩
  refine I1.laid (t' := s1.toks) (fun b u e => Heap.get?_push_of_some _ e) (Nat.le_refl _) ⟨hz, us, 0, r, ?_⟩
  exact Heap.get?_push_size _ rfl
end

/-! ### a comprehension over a list that keeps all that was tracked: its values told beforehand -/
theorem take_succ_get {α : Type} {ys : List α} {i : Nat} {y : α} (h : ys[i]? = some y) : ys.take (i + 1) = ys.take i ++ [y] := by
  rw [List.take_add_one, h]
  rfl
theorem lc_map {K : PySem.W.Frag} {a : Addr} {xs ys : List V} {k : Nat} {te : TE} {vs : List Nat} {σ : L2.St} {H1 : Hp} {D : Addr} {Qd : Hp → Prop} (hlen : ys.length = xs.length) (hz : xs.length ≤ 100000) (ha : H1 a = some (.lst xs)) (hD : H1 D = none)
    (hw : ∀ x, wipe ((wipe σ vs).set k (some x)) vs = wipe σ vs)
    (hs : ∀ (i : Nat) x y (H' : Hp) (R : VK), xs[i]? = some x → ys[i]? = some y → Ext H1 H' → (∀ H'', Ext H' H'' → R y H'') → te ((wipe σ vs).set k (some x)) H' R)
    (hd : ∀ H', Ext H1 H' → H' D = some (.lst ys) → Qd H') :
    ∃ W : Nat → Nat → Hp → Prop, (∃ m, W 0 m (upd H1 D (.lst []))) ∧ ∀ i m H, W i m H →
      ((Itl K a).stop i H ∧ Qd H) ∨ ((Itl K a).go i H ∧ ∃ Nx : Hp → Prop, (∀ H', Nx H' → ∃ m', m' < m ∧ W (i + 1) m' H') ∧ ∀ x H', (Itl K a).yld i H x H' → gName k x (wipe σ vs) H' fun σ2 H2 => wipe σ2 vs = wipe σ vs ∧ tYes σ2 H2 fun b H3 =>
        if b = true then te σ2 H3 fun y H4 => ∃ acc, H4 D = some (.lst acc) ∧ acc.length < sizeLine ∧ Nx (upd H4 D (.lst (acc ++ [y]))) else Nx H3) := by
  refine lc_list (K := K) (a := a) (xs := xs) (fun i H => Ext H1 H ∧ H D = some (.lst (ys.take i))) ⟨lay_ext hD, by rw [List.take_zero]; exact upd_same⟩ (fun i H _ p => .of (p.1 _ _ ha)) (fun i x H hi p => ?_) (fun H p => hd H p.1 ?_)
  · have hi' : i < ys.length := by
      rw [hlen]
      exact (List.getElem?_eq_some_iff.mp hi).1
    refine ⟨hw x, ?_⟩
    show (if true = true then te ((wipe σ vs).set k (some x)) H (fun y H4 => ∃ acc, H4 D = some (.lst acc) ∧ acc.length < sizeLine ∧ (Ext H1 (upd H4 D (.lst (acc ++ [y]))) ∧ upd H4 D (.lst (acc ++ [y])) D = some (.lst (ys.take (i + 1))))) else (Ext H1 H ∧ H D = some (.lst (ys.take (i + 1)))))
    rw [if_pos rfl]
    refine hs i x ys[i] H _ hi (List.getElem?_eq_getElem hi') p.1 fun H'' e => ⟨ys.take i, e _ _ p.2, ?_, ?_, ?_⟩
    · rw [List.length_take, sizeLine_eq]
      omega
    · intro c o hc
      by_cases h : c = D
      · rw [h, hD] at hc
        cases hc
      · rw [upd_ne h]
        exact e _ _ (p.1 _ _ hc)
    · rw [upd_same, take_succ_get (List.getElem?_eq_getElem hi')]
  · have q := p.2
    rw [← hlen, List.take_length] at q
    exact q
end Ab

namespace Ab
open PySem PySem.Spec PyProof.Rows L2

section
variable {P : Program} {w : World} {K : PySem.W.Frag} {mg : Str → Option Value} {base : Heap} {C : Addr}
abbrev sWithin : Stmt := top 24
theorem flat_bools : ∀ bs : List Bool, flatL (bs.map V.bl) = some (bs.map PyData.bool)
  | [] => rfl
  | b :: r => by
    rw [List.map_cons, flatL, flat_bools r]
    rfl
theorem sh_bools (bs : List Bool) : ∀ d ∈ bs.map PyData.bool, Sh d := fun d hd => by
  obtain ⟨b, _, rfl⟩ := List.mem_map.mp hd
  exact sh_bl b
theorem map_get {α β : Type} {f : α → β} {l : List α} {i : Nat} {y : β} (h : (l.map f)[i]? = some y) : ∃ x, l[i]? = some x ∧ y = f x := by
  rw [List.getElem?_map] at h
  cases e : l[i]? with
  | none => rw [e] at h; cases h
  | some x => rw [e] at h; exact ⟨x, rfl, (Option.some.inj h).symm⟩
def insideOf (lo hi j : Int) : Bool := decide (lo ≤ j ∧ j ≤ hi)
def nears (lo hi : Int) : List Int := [lo - 1, lo, (lo + hi) / 2, hi, hi + 1, 0 - lo]
/-- a value that a span never holds -/
def Out (K : PySem.W.Frag) (H : Hp) (x : V) : Prop := ∃ t b1 b2, TyX K H x t ∧ PySem.W.kitOne K t (.type "int") = some b1 ∧ PySem.W.kitOne K t (.type "bool") = some b2 ∧ (b1 && !b2) = false
def spWith (C : Addr) : Sp := fun vs H Q _ => ∃ t lo hi, vs = [.ref t] ∧ PairAt H t lo hi ∧ lo ≤ hi ∧ Lim lo ∧ Lim hi ∧ ∀ H', Ext H H' → Q (.bl true) H'
abbrev nWith : List Str := ["_law_bounds_here", "_law_made_here", "_law_least", "_law_most", "_law_some", "_law_near", "_law_odd", "_law_thing"]
theorem scWith : FnScope nWith ["_law_bounds_here"] (defScope sWithin) := ⟨rfl, rfl, rfl, by decide +kernel, rfl, by decide +kernel, by decide +kernel⟩
theorem ok_with {f g1 : Addr} {fd : FuncData} (F : Fun K "_law_within_right" "_law_within_right" sWithin f fd) (b : Binds K fd ["_law_bounds_here"] []) (T : Txt K mg C) (G_made : Got K mg "_law_made" g1) (F_made : FnR P w K mg base CX0 5 g1 (spMade C))
    (mCo : Own P w K mg base C "__contains__" 2 (spContains K C)) : FnG P w K mg base CX0 6 f (spWith C) := by
  refine okG F b scWith (fun vs H Q E ⟨t, lo, hi, e, _⟩ => by rw [e]; rfl) (fun cdv A outer s H vs Q E hgs hr ⟨t, lo, hi, e, ht, le, bl, bh, q⟩ => ?_)
  subst e
  have hr2 := hr.mono (show 2 ≤ 5 by decide)
  refine ⟨_, (pss_cons (ps_asg (pe_tupN (pa_cons (pe_to G_made F_made hr (pa_cons (pv 0) pa_nil)) (pa_cons (pv 0) pa_nil))) (pg_tup rfl (pgs_cons (pg_name (i := 1) scWith.nd rfl (Or.inr rfl)) (pgs_cons (pg_tup rfl (pgs_cons (pg_name (i := 2) scWith.nd rfl (Or.inr rfl)) (pgs_cons (pg_name (i := 3) scWith.nd rfl (Or.inr rfl)) pgs_nil))) pgs_nil))))
      (pss_cons (ps_set (i := 4) scWith.nd rfl (Or.inl rfl) (pe_lstN (pa_cons (pe_op op_sub (pv 2) pe_int) (pa_cons (pv 2) (pa_cons (pe_op op_fdiv (pe_op op_add (pv 2) (pv 3)) pe_int) (pa_cons (pv 3) (pa_cons (pe_op op_add (pv 3) pe_int) (pa_cons (pe_op op_sub pe_int (pv 2)) pa_nil))))))))
      (pss_cons (ps_if (pt_cmpR op_ne (pe_callB (call_rep hgs hr) rfl T.b_repr rfl (pa_cons
          (pe_lc (own := [("_law_near", 5)]) (g := gName 5) (tt := tYes) rfl scWith.nd (pi_list (pv 4)) (blkOk_by (N := nWith) (sc := defScope sWithin) (by decide +kernel)) (fun _ _ _ _ _ => pg_name (i := 5) scWith.nd rfl (Or.inl rfl)) (fun _ _ _ _ _ => pts_nil) (fun _ _ _ _ _ => pe_cmpR (oIn mCo hr2) (pv 5) (pv 1) (by rfl)))
          pa_nil)) (pe_callB (call_rep hgs hr) rfl T.b_repr rfl (pa_cons
          (pe_lc (own := [("_law_near", 5)]) (g := gName 5) (tt := tYes) rfl scWith.nd (pi_list (pv 4)) (blkOk_by (N := nWith) (sc := defScope sWithin) (by decide +kernel)) (fun _ _ _ _ _ => pg_name (i := 5) scWith.nd rfl (Or.inl rfl)) (fun _ _ _ _ _ => pts_nil) (fun _ _ _ _ _ => pe_chain op_le op_le (pv 2) (pv 5) (pv 3)))
          pa_nil)) (nomark _)) (pss_one (ps_ret pe_bl)) pss_nil)
      (pss_cons (ps_set (i := 6) scWith.nd rfl (Or.inl rfl) (pe_lstN (pa_cons pe_non (pa_cons pe_bl (pa_cons pe_bl (pa_cons (pe_callTy call_str_int rfl T.b_str rfl (pa_cons (pv 2) pa_nil)) (pa_cons (pe_tupN (pa_cons (pv 2) pa_nil)) (pa_cons (pe_lstN (pa_cons (pv 2) pa_nil)) (pa_cons (pe_tupN (pa_cons (pv 2) (pa_cons (pv 3) pa_nil))) (pa_cons pe_dnewK (pa_cons pe_str (pa_cons (pv 1) pa_nil))))))))))))
      (pss_one (ps_ret (pe_cmpR op_eq (pe_callB (call_rep hgs hr) rfl T.b_repr rfl (pa_cons
          (pe_lc (own := [("_law_thing", 7)]) (g := gName 7) (tt := tYes) rfl scWith.nd (pi_list (pv 6)) (blkOk_by (N := nWith) (sc := defScope sWithin) (by decide +kernel)) (fun _ _ _ _ _ => pg_name (i := 7) scWith.nd rfl (Or.inl rfl)) (fun _ _ _ _ _ => pts_nil) (fun _ _ _ _ _ => pe_cmpR (oIn mCo hr2) (pv 7) (pv 1) (by rfl)))
          pa_nil)) (pe_callB (call_rep hgs hr) rfl T.b_repr rfl (pa_cons (pe_op op_rep (pe_lstN (pa_cons pe_bl pa_nil)) (pe_callB call_len rfl T.b_len rfl (pa_cons (pv 6) pa_nil))) pa_nil)) (nomark _)))))))), ?_⟩
  refine ⟨.ref t, rfl, t, lo, hi, rfl, ht, le, fun a H1 e1 sa => ?_⟩
  refine ⟨.ref t, rfl, (by show 2 ≤ 100; decide), fun u H2 e2 hu => ?_⟩
  have ht2 := ht.ext (e1.trans e2)
  have sa2 := sa.ext e2
  refine ⟨u, _, rfl, .of hu, rfl, _, _, rfl, _, _, rfl, t, _, rfl, .of ht2, rfl, _, _, rfl, _, _, rfl, rfl, rfl, ?_⟩
  refine ⟨.int lo, rfl, lo, 1, rfl, rfl, .int lo, rfl, .int lo, rfl, .int hi, rfl, lo, hi, rfl, rfl, _, 2, rfl, rfl, ⟨by decide, by decide⟩, .int hi, rfl, .int hi, rfl, hi, 1, rfl, rfl, .int lo, rfl, 0, lo, rfl, rfl, (by show 6 ≤ 100; decide), fun l H3 nl e3 hl => ?_⟩
  have sa3 := sa2.ext e3
  refine ⟨.ref l, rfl, l, rfl, ⟨_, .of hl⟩, fun D hD => lc_map (K := K) (a := l) (xs := (nears lo hi).map V.int) (ys := ((nears lo hi).map (insideOf lo hi)).map V.bl) (k := 5) rfl (by show 6 ≤ 100000; decide) hl hD (fun _ => rfl) (fun i x y H' R hx hy e hR => ?_) (fun H4 e4 hD4 => ?_)⟩
  · obtain ⟨j, hj, rfl⟩ := map_get hx
    obtain ⟨k, hk, rfl⟩ := map_get hy
    obtain ⟨j', hj', rfl⟩ := map_get hk
    rw [hj] at hj'
    cases hj'
    exact ⟨.int j, rfl, .ref a, rfl, a, rfl, (sa3.ext e).ins, a, .int j, lo, hi, rfl, sa3.ext e, .inl ⟨j, rfl, _, rfl, hR _ Ext.rfl'⟩⟩
  refine ⟨D, _, _, rfl, hD4, flat_bools _, sh_bools _, (by show 6 ≤ 1000; decide), ?_⟩
  have hl4 := e4 _ _ hl
  refine ⟨.ref l, rfl, l, rfl, ⟨_, .of hl4⟩, fun D2 hD2 => lc_map (K := K) (a := l) (xs := (nears lo hi).map V.int) (ys := ((nears lo hi).map (insideOf lo hi)).map V.bl) (k := 5) rfl (by show 6 ≤ 100000; decide) hl4 hD2 (fun _ => rfl) (fun i x y H' R hx hy e hR => ?_) (fun H5 e5 hD5 => ?_)⟩
  · obtain ⟨j, hj, rfl⟩ := map_get hx
    obtain ⟨k, hk, rfl⟩ := map_get hy
    obtain ⟨j', hj', rfl⟩ := map_get hk
    rw [hj] at hj'
    cases hj'
    refine ⟨.int lo, rfl, .int j, rfl, lo, j, rfl, rfl, _, rfl, ?_⟩
    have q' := hR _ Ext.rfl'
    by_cases z : lo ≤ j
    · rw [decide_eq_true z]
      have e : insideOf lo hi j = decide (j ≤ hi) := by simp [insideOf, z]
      rw [e] at q'
      exact iteT ⟨.int hi, rfl, j, hi, rfl, rfl, q'⟩
    · rw [decide_eq_false z]
      have e : insideOf lo hi j = false := by simp [insideOf, z]
      rw [e] at q'
      exact iteF q'
  refine ⟨D2, _, _, rfl, hD5, flat_bools _, sh_bools _, (by show 6 ≤ 1000; decide), rfl, _, rfl, iteNS rfl ?_⟩
  have sa5 := sa3.ext (e4.trans e5)
  refine ⟨.int lo, rfl, lo, rfl, bl.bd.log, .int lo, rfl, (by show 1 ≤ 100; decide), fun t1 H6 e6 ht1 => ?_⟩
  refine ⟨.int lo, rfl, (by show 1 ≤ 100; decide), fun l1 H7 _ e7 hl1 => ?_⟩
  refine ⟨.int lo, rfl, .int hi, rfl, (by show 2 ≤ 100; decide), fun t3 H8 e8 ht3 => ?_⟩
  refine fun d hd => ?_
  have xd := lay_ext (o := .dK []) hd
  refine ⟨.ref a, rfl, (by show 10 ≤ 100; decide), fun o H9 no e9 ho => ?_⟩
  have sa9 := sa5.ext (e6.trans (e7.trans (e8.trans (xd.trans e9))))
  have hodd : ∀ x ∈ ([.non, .bl true, .bl false, .str (toString lo), .ref t1, .ref l1, .ref t3, .ref d, .str "", .ref a] : List V), ∀ H', Ext H9 H' → Out K H' x := by
    intro x hx H' e
    simp only [List.mem_cons, List.not_mem_nil, or_false] at hx
    rcases hx with rfl | rfl | rfl | rfl | rfl | rfl | rfl | rfl | rfl | rfl
    · exact ⟨_, false, false, .base .non, kit_ty (by decide +kernel), kit_ty (by decide +kernel), rfl⟩
    · exact ⟨_, true, true, .base (.bl _), kit_ty (by decide +kernel), kit_ty (by decide +kernel), rfl⟩
    · exact ⟨_, true, true, .base (.bl _), kit_ty (by decide +kernel), kit_ty (by decide +kernel), rfl⟩
    · exact ⟨_, false, false, .base (.str _), kit_ty (by decide +kernel), kit_ty (by decide +kernel), rfl⟩
    · exact ⟨_, false, false, .base (.tup (e _ _ (e9 _ _ (xd _ _ (e8 _ _ (e7 _ _ ht1)))))), kit_ty (by decide +kernel), kit_ty (by decide +kernel), rfl⟩
    · exact ⟨_, false, false, .base (.lst (e _ _ (e9 _ _ (xd _ _ (e8 _ _ hl1))))), kit_ty (by decide +kernel), kit_ty (by decide +kernel), rfl⟩
    · exact ⟨_, false, false, .base (.tup (e _ _ (e9 _ _ (xd _ _ ht3)))), kit_ty (by decide +kernel), kit_ty (by decide +kernel), rfl⟩
    · exact ⟨_, false, false, .base (.dK (e _ _ (e9 _ _ upd_same))), kit_ty (by decide +kernel), kit_ty (by decide +kernel), rfl⟩
    · exact ⟨_, false, false, .base (.str _), kit_ty (by decide +kernel), kit_ty (by decide +kernel), rfl⟩
    · exact ⟨_, false, false, T.ty (sa9.ext e).ins, T.kInt, T.kBool, rfl⟩
  refine ⟨.ref o, rfl, o, rfl, ⟨_, .of ho⟩, fun D3 hD3 => lc_map (K := K) (a := o) (xs := [.non, .bl true, .bl false, .str (toString lo), .ref t1, .ref l1, .ref t3, .ref d, .str "", .ref a]) (ys := (List.replicate 10 false).map V.bl) (k := 7) rfl (by show 10 ≤ 100000; decide) ho hD3 (fun _ => rfl) (fun i x y H' R hx hy e hR => ?_) (fun H10 e10 hD10 => ?_)⟩
  · obtain ⟨k, hk, rfl⟩ := map_get hy
    have hk' : k = false := List.eq_of_mem_replicate (List.mem_of_getElem? hk)
    subst hk'
    obtain ⟨ty, b1, b2, hty, k1, k2, eb⟩ := hodd x (List.mem_of_getElem? hx) H' e
    exact ⟨x, rfl, .ref a, rfl, a, rfl, (sa9.ext e).ins, a, x, lo, hi, rfl, sa9.ext e, .inr ⟨ty, b1, b2, hty, k1, k2, eb, false, rfl, hR _ Ext.rfl'⟩⟩
  refine ⟨D3, _, _, rfl, hD10, flat_bools _, sh_bools _, (by show 10 ≤ 1000; decide), ?_⟩
  refine ⟨(by show 1 ≤ 100; decide), fun l5 H11 _ e11 hl5 => ?_⟩
  refine ⟨.ref o, rfl, .ref o, 10, rfl, .inl ⟨_, .of (e11 _ _ (e10 _ _ ho)), rfl⟩, l5, 10, _, rfl, rfl, hl5, (by decide), (by decide), (by show 1 * 10 ≤ sizeLine; decide), fun p hp => ?_⟩
  refine ⟨p, _, (List.replicate 10 false).map PyData.bool, rfl, upd_same, rfl, sh_bools _, (by show 10 ≤ 1000; decide), rfl, ?_⟩
  rw [decide_eq_true rfl]
  exact q _ (e1.trans (e2.trans (e3.trans (e4.trans (e5.trans (e6.trans (e7.trans (e8.trans (xd.trans (e9.trans (e10.trans (e11.trans (lay_ext hp)))))))))))))
end
end Ab

/-! Apart: an own exception over RuntimeError with two fields of its own -/
namespace PySem
namespace ApX
open PySem.W PySem.Calls PyProof.Rows PySem.HandSPX Builtin Builtin.ObjectAttr
abbrev rt4 : List Value := [.type "RuntimeError", .type "Exception", .type "BaseException", .type "object"]
theorem tail_full : ∀ l : List Value, excTail rt4 l = true → l.isEmpty = false
  | [], e => absurd (beq_iff_eq.mp e) (by decide)
  | _ :: _, _ => rfl
section
variable {prog : Program} {w : World} {A : Around} {E : Value → Shared → Prop} {R : Result → Shared → Prop} {hp : Heap} {g : Array GenState} {d : Drawn} {t : Nat} {os : OsState}
/-- the first field of an exception over RuntimeError: its dict is laid -/
theorem field_first {K : Frag} {fn : Str} {tk : Tok} {val : Value} {a C : Addr} {arr : Array Value} {cdat : ClassData} (X : K.In hp) (ha : hp.get? a = some { cls := .ref C, data := .fields arr }) (hcl : clsIn K C = some cdat)
    (ht : excTail rt4 cdat.mro = true) (hdct : cdat.hasDict = true) (hno : findIn K (.ref C) fn = some none)
    (k : ∀ h2 tk2 dx, (∀ b o, b ≠ a → hp.get? b = some o → h2.get? b = some o) → hp.objs.size ≤ dx → dx ≠ a → h2.get? a = some { cls := .ref C, dict := some dx, data := .fields arr } →
      h2.Ns1 dx (fun y => if y = fn then some val else none) → R (.ok (.ret .none)) ⟨h2, g, d, tk2, os⟩) :
    codeAny (model prog w) A (.call (.builtin "object.__setattr__") ⟨[.ref a, .str fn tk, val], []⟩) R ⟨hp, g, d, t, os⟩ := by
  have inst : InstAt hp a { cls := .ref C, data := .fields arr } C none := ⟨ha, rfl, rfl, trivial⟩
  have so := F.store_object
  have nonE := tail_full _ ht
  have hasO : cdat.mro.contains (.type "object") = true := (excTail_contains "object" _ ht).trans (by decide +kernel)
  have aS : a ≠ hp.objs.size := Nat.ne_of_lt (Heap.lt_size ha)
  have isO : Looks (model prog w) hp (isInstance (.ref a) (.type "object")) true :=
    inst.type.andThen (looks_mroIn X (by unfold mroIn; rw [hcl, Option.bind_some, if_neg (by rw [nonE]; decide), hasO]))
  refine codeAny_call_builtin so.slot.plain so.entry
    (@check_slot (model prog w) _ _ ⟨hp, g, d, t, os⟩ "object.__setattr__" "object" "__setattr__" (.ref a) [.str fn tk, val] [] _ so.kind so.split isO (so.args (.ref a) (.str fn tk) val) ?_)
  have mroL : Looks (model prog w) hp (mroOf (.ref C)) cdat.mro := (looks_clsIn X hcl).andThen .now
  have takL : Looks (model prog w) hp (storeTaker? none) none := .now
  have clsL : Looks (model prog w) hp (classData C) cdat := looks_clsIn X hcl
  rw [osa_eq, refuse_eq]
  refine wpAny_bind (wpAny_bind (inst.type.at (wpAny_bind (mroL.at ?_))))
  rw [excTail_pass _ (F.store_RuntimeError.passes _) _ ht]
  refine wpAny_pure (wpAny_bind (inst.type.at (wpAny_bind ((looks_findIn X hno).at (wpAny_bind (takL.at ?_))))))
  show wpAny _ _ (storeInOwnDict (.ref a) (.ref C) (.str fn tk) fn val false) _ _ _
  obtain ⟨c1, c2, c3, c4, c5, c6, c7, c8, c9, c10, c11⟩ := cdat
  dsimp only at hdct
  subst hdct
  unfold storeInOwnDict ownDictForStores
  repeat (first | with_reducible refine store_in_new ?_ ?_ | with_reducible refine wpAny_loadPart_at ha ?_ | with_reducible refine clsL.at ?_ | wp_step)
  · exact ⟨_, #[], _, (Heap.get?_update_ne _ _ _ _ aS.symm).trans (Heap.get?_push_at rfl rfl), rfl, fun e he => absurd he (by simp), fun _ => rfl⟩
  · intro h2 tk2 ns2 same
    have ha2 : (hp.push { cls := .type "dict", data := .dict #[] }).get? a = some { cls := .ref C, data := .fields arr } := Heap.get?_push_of_some _ ha
    refine k h2 tk2 hp.objs.size (fun b o hb ho => ?_) (Nat.le_refl _) aS.symm ?_ ns2
    · refine (same.2 b (Nat.ne_of_lt (Heap.lt_size ho))).trans ?_
      exact (Heap.get?_update_ne _ _ _ _ hb).trans (Heap.get?_push_of_some _ ho)
    · exact (same.2 a aS).trans (Heap.get?_update_self _ ha2 rfl)
/-- a further field -/
theorem field_next {K : Frag} {fn : Str} {tk : Tok} {val : Value} {a C dx : Addr} {arr : Array Value} {cdat : ClassData} {m0 : Str → Option Value} {nl : List Str} (X : K.In hp) (ha : hp.get? a = some { cls := .ref C, dict := some dx, data := .fields arr })
    (hns : hp.Ns1 dx m0) (hw : Within m0 nl) (hz : nl.length ≤ 1000) (hcl : clsIn K C = some cdat) (ht : excTail rt4 cdat.mro = true) (hdct : cdat.hasDict = true) (hno : findIn K (.ref C) fn = some none)
    (k : ∀ h2 tk2, (∀ b o, b ≠ dx → hp.get? b = some o → h2.get? b = some o) → h2.Ns1 dx (fun y => if y = fn then some val else m0 y) → R (.ok (.ret .none)) ⟨h2, g, d, tk2, os⟩) :
    codeAny (model prog w) A (.call (.builtin "object.__setattr__") ⟨[.ref a, .str fn tk, val], []⟩) R ⟨hp, g, d, t, os⟩ := by
  obtain ⟨od, es1, ep1, hod, _, _⟩ := hns.count hw
  have inst : InstAt hp a { cls := .ref C, dict := some dx, data := .fields arr } C (some od) := ⟨ha, rfl, rfl, hod⟩
  have so := F.store_object
  have nonE := tail_full _ ht
  have hasO : cdat.mro.contains (.type "object") = true := (excTail_contains "object" _ ht).trans (by decide +kernel)
  have isO : Looks (model prog w) hp (isInstance (.ref a) (.type "object")) true :=
    inst.type.andThen (looks_mroIn X (by unfold mroIn; rw [hcl, Option.bind_some, if_neg (by rw [nonE]; decide), hasO]))
  refine codeAny_call_builtin so.slot.plain so.entry
    (@check_slot (model prog w) _ _ ⟨hp, g, d, t, os⟩ "object.__setattr__" "object" "__setattr__" (.ref a) [.str fn tk, val] [] _ so.kind so.split isO (so.args (.ref a) (.str fn tk) val) ?_)
  have mroL : Looks (model prog w) hp (mroOf (.ref C)) cdat.mro := (looks_clsIn X hcl).andThen .now
  have takL : Looks (model prog w) hp (storeTaker? none) none := .now
  have clsL : Looks (model prog w) hp (classData C) cdat := looks_clsIn X hcl
  rw [osa_eq, refuse_eq]
  refine wpAny_bind (wpAny_bind (inst.type.at (wpAny_bind (mroL.at ?_))))
  rw [excTail_pass _ (F.store_RuntimeError.passes _) _ ht]
  refine wpAny_pure (wpAny_bind (inst.type.at (wpAny_bind ((looks_findIn X hno).at (wpAny_bind (takL.at ?_))))))
  show wpAny _ _ (storeInOwnDict (.ref a) (.ref C) (.str fn tk) fn val false) _ _ _
  obtain ⟨c1, c2, c3, c4, c5, c6, c7, c8, c9, c10, c11⟩ := cdat
  dsimp only at hdct
  subst hdct
  unfold storeInOwnDict ownDictForStores
  repeat (first | with_reducible refine OEX.store_in_old hns hw hz ?_ | with_reducible refine wpAny_loadPart_at ha ?_ | with_reducible refine clsL.at ?_ | wp_step)
  intro h2 tk2 ns2 same
  exact k h2 tk2 (fun b o hb ho => (same.2 b hb).trans ho) ns2
end
end ApX
end PySem

namespace PySem
namespace ApX
open PySem.W PySem.Calls PyProof.Rows PySem.HandSPX L2
abbrev sApI : Stmt := inClass (Ab.top 7) 0
/-- what the written part says of Apart, at C, and of its __init__, at fI -/
structure ApTxt (K : Frag) (mg : Str → Option Value) (C fI : Addr) : Prop where
  gC : mg "Apart" = some (.ref C)
  cls : ∃ nm q N bs bm sn sub ab col dd k0 k1 k2 k3 k5, K.lookup C = some (excClassObj nm q C N bs bm true sn sub ab col dd k0 k1 k2 k3 k5 "RuntimeError.__new__") ∧ excTail rt4 bm = true
  sa : findIn K (.ref C) "__setattr__" = some (some (.builtin "object.__setattr__"))
  ga : findIn K (.ref C) "__getattribute__" = some (some (.builtin "BaseException.__getattribute__"))
  gg : findIn K (.ref C) "__getattr__" = some none
  no1 : findIn K (.ref C) "one" = some none
  no2 : findIn K (.ref C) "other" = some none
  iC : findIn K (.ref C) "__init__" = some (some (.ref fI))
  tC : typeIn K (.ref fI) = some (.type "function")
  kC : keepIn K (.ref C) = true
  exC : subIn K (.ref C) (.type "BaseException") = some true
  tyC : typeIn K (.ref C) = some (.type "type")
  hdC : hasDictIn K C = true
  te : exmOne K (.ref C) (.ref C) = some true
  F : ∃ fd, Fun K "__init__" "Apart.__init__" sApI fI fd
theorem still_in {K : Frag} {h h' : Heap} {x : Addr} (X : K.In h) (hx : K.lookup x = none) (k : ∀ b o, b ≠ x → h.get? b = some o → h'.get? b = some o) : K.In h' := by
  intro a o e
  refine k a o (fun z => ?_) (X a o e)
  rw [z, hx] at e
  cases e
/-- the two fields -/
def twoF (a b : Value) : Str → Option Value := fun y => if y = "other" then some b else if y = "one" then some a else none
structure ApEnd (h h' : Heap) (x C dx t1 : Addr) (a b : Value) : Prop where
  keep : ∀ c o, c ≠ x → h.get? c = some o → h'.get? c = some o
  obj : h'.get? x = some { cls := .ref C, dict := some dx, data := .fields #[.ref t1, .none, .none, .none, .bool false, .none] }
  dbig : h.objs.size ≤ dx
  dne : dx ≠ x
  ns : h'.Ns1 dx (twoF a b)
structure ApMade (h h' : Heap) (e C d : Addr) (a b : Value) : Prop where
  keep : ∀ c o, h.get? c = some o → h'.get? c = some o
  new : h.objs.size ≤ e
  obj : ∃ oe vs, h'.get? e = some oe ∧ oe.cls = .ref C ∧ oe.dict = some d ∧ oe.data = .fields vs ∧ vs[1]? = some .none
  dbig : h.objs.size ≤ d
  dne : d ≠ e
  ns : h'.Ns1 d (twoF a b)
theorem ldL {M : Model} {s : Shared} {name : Str} {scope : Scope} {L a : Addr} {cd : Value} {m : Str → Option Value} {x : Str} {pos : Pos} {v : Value} {Q : Value → Shared → Prop} {A : Around} {E : Value → Shared → Prop} (hn : s.heap.Ns L m) (hv : m x = some v) (h : Q v s)
    (hk : scope.kind = .function := by rfl) (hl : (envOfC name scope L a cd).kindOf x = some .local := by rfl) (hd : (x == ("__debug__" : Str)) = false := by decide) :
    wpAny M A (eval (.Name x pos) (envOfC name scope L a cd)) Q E s := wpAny_Name (wpAny_loadName_local hk hl hn hv h) hd
section
variable {prog : Program} {w : World} {A : Around} {E : Value → Shared → Prop} {R : Result → Shared → Prop} {s : Shared} {K : Frag} {mg : Str → Option Value} {C fI : Addr}
theorem ap_init (T : ApTxt K mg C fI) {x t0 : Addr} {va vb : Value} (X : K.In s.heap) (hlim : s.heap.NoLimit) (hx : s.heap.get? x = some (excO C t0)) (hnx : K.lookup x = none) (hroom : A.depth < recursionLimit)
    (hq : ∀ h' tk dx, ApEnd s.heap h' x C dx t0 va vb → R (.ok (.ret .none)) { s with heap := h', toks := tk }) :
    codeAny (model prog w) A (.call (.ref fI) ⟨[.ref x, va, vb], []⟩) R s := by
  obtain ⟨fd, ⟨oc, od, kV, doc, pm, an, cdv, ct, osl, rfl, ho, hcd⟩, _⟩ := T.F
  obtain ⟨nm, q, N, bs, bm, sn, sub, ab, col, dd, k0, k1, k2, k3, k5, hC, hbm⟩ := T.cls
  have hcl : clsIn K C = some { name := nm, bases := bs, mro := .ref C :: bm, ns := N, qualname := q, hasDict := true, slotNames := sn, subclasses := sub, abstract := ab, collection := col, hasDel := false } := by unfold clsIn; rw [hC] <;> rfl
  refine Att.call_fn (binds := [("self", .ref x), ("one", va), ("other", vb)]) X hlim ho hcd hroom (BindsTo.of_eq (by first | rfl | with_unfolding_all rfl)) (by first | rfl | decide | with_unfolding_all rfl) (fun s₁ IC => ?_) rfl rfl rfl
  obtain ⟨h₁, tk₁, rfl⟩ := IC.toInCall.same
  have k : ∀ b o, s.heap.get? b = some o → h₁.get? b = some o := IC.toInCall.keep
  have hn := IC.toInCall.ns
  have hxL : s.heap.objs.size ≠ x := Nat.ne_of_gt (Heap.lt_size hx)
  have X₁ : K.In h₁ := X.keeps k
  have hx₁ := k _ _ hx
  have hxs₁ : x < h₁.objs.size := Heap.lt_size hx₁
  -- self.one = one
  show wpAny _ _ (execs _ _) _ _ _
  refine wpAny_execs_cons (plainObj_wpAny_Assign_Attribute ?_)
  refine ldL (v := va) hn (by first | rfl | with_unfolding_all rfl | kernel_rfl) (ldL (v := .ref x) hn (by first | rfl | with_unfolding_all rfl | kernel_rfl) ?_)
  refine set_plain X₁ (ox := excO C t0) (od := none) ⟨hx₁, rfl, rfl, trivial⟩ T.sa ?_
  refine field_first X₁ hx₁ hcl (show excTail rt4 (.ref C :: bm) = true from hbm) rfl T.no1 (fun h₃ tk₃ dx k₃ dn dne hx₃ hn₃ => ?_)
  -- self.other = other
  have hL3 : h₃.Ns s.heap.objs.size _ := hn.at fun o e => k₃ _ o hxL e
  have X₃ : K.In h₃ := still_in X₁ hnx k₃
  obtain ⟨od3, hod3, _⟩ := L2.lookIn_ns hn₃
  have z : s.heap.objs.size < h₁.objs.size := hn.lt
  show wpAny _ _ (execs _ _) _ _ _
  refine wpAny_execs_cons (plainObj_wpAny_Assign_Attribute ?_)
  refine ldL (s := ⟨h₃, _, _, _, _⟩) (v := vb) hL3 (by first | rfl | with_unfolding_all rfl | kernel_rfl) (ldL (s := ⟨h₃, _, _, _, _⟩) (v := .ref x) hL3 (by first | rfl | with_unfolding_all rfl | kernel_rfl) ?_)
  refine set_plain (s := ⟨h₃, _, _, _, _⟩) X₃ (ox := { cls := .ref C, dict := some dx, data := .fields #[.ref t0, .none, .none, .none, .bool false, .none] }) (od := some od3) ⟨hx₃, rfl, rfl, hod3⟩ T.sa ?_
  refine field_next X₃ hx₃ hn₃ (Within.cons "one" va Within.nil) (by decide) hcl (show excTail rt4 (.ref C :: bm) = true from hbm) rfl T.no2 (fun h₄ tk₄ k₄ hn₄ => ?_)
  show wpAny _ _ (execs _ _) _ _ _
  refine wpAny_execs_nil (hq h₄ tk₄ dx ⟨fun b o hb e => ?_, k₄ _ _ (Ne.symm dne) hx₃, Nat.le_of_lt (Nat.lt_of_lt_of_le z dn), dne, hn₄⟩)
  have hlt : b < s.heap.objs.size := Heap.lt_size e
  exact k₄ b o (Nat.ne_of_lt (Nat.lt_trans hlt (Nat.lt_of_lt_of_le z dn))) (k₃ b o hb (k b o e))
theorem ap_made (T : ApTxt K mg C fI) {va vb : Value} (X : K.In s.heap) (hlim : s.heap.NoLimit) (hroom : A.depth + 1 < recursionLimit)
    (hq : ∀ h' tk e d, ApMade s.heap h' e C d va vb → R (.ok (.ret (.ref e))) { s with heap := h', toks := tk }) :
    codeAny (model prog w) A (.call (.ref C) ⟨[va, vb], []⟩) R s := by
  obtain ⟨nm, q, N, bs, bm, sn, sub, ab, col, dd, k0, k1, k2, k3, k5, hC, hbm⟩ := T.cls
  obtain ⟨hp, g, dr, tk, os⟩ := s
  have k : ∀ b o, hp.get? b = some o → ((hp.push (kdv_tup [va, vb])).push (excO C hp.objs.size)).get? b = some o := fun b o e => Heap.get?_push_of_some _ (Heap.get?_push_of_some _ e)
  have hget : ((hp.push (kdv_tup [va, vb])).push (excO C hp.objs.size)).get? (hp.objs.size + 1) = some (excO C hp.objs.size) := by heap_get
  have hnx : K.lookup (hp.objs.size + 1) = none := by
    cases e : K.lookup (hp.objs.size + 1) with
    | none => rfl
    | some o =>
      have z : hp.get? (hp.objs.size + 1) = some o := X _ _ e
      exact absurd (Nat.lt_of_succ_lt (Heap.lt_size z)) (Nat.lt_irrefl _)
  have two_size : [va, vb].length ≤ sizeLine := Ab.sl2
  refine call_own F.excBase_RuntimeError (fun X => excTail_contains X bm hbm) (X _ _ hC) (looks_findIn X T.iC) (fun self => bind_fn X self T.tC) two_size ?_
  refine ap_init (s := ⟨(hp.push (kdv_tup [va, vb])).push (excO C hp.objs.size), g, dr, tk, os⟩) T (X.keeps k) (hlim.keeps k) hget hnx ?_ fun h' tk' dx M => ?_
  · show A.depth + 1 < recursionLimit
    exact hroom
  · obtain ⟨k', hx, dn, dne, hns⟩ := M
    have old : ∀ b o, hp.get? b = some o → h'.get? b = some o := fun b o e => k' b o (Nat.ne_of_lt (Nat.lt_succ_of_lt (Heap.lt_size e))) (k b o e)
    have z : hp.objs.size + 1 + 1 ≤ dx := by
      have q := dn
      rw [Heap.size_push, Heap.size_push] at q
      exact q
    exact ⟨rfl, hq h' tk' (hp.objs.size + 1) dx ⟨old, Nat.le_succ _, ⟨_, _, hx, rfl, rfl, rfl, rfl⟩, Nat.le_trans (Nat.le_trans (Nat.le_succ _) (Nat.le_succ _)) z, dne, hns⟩⟩
end
end ApX
end PySem

namespace Ab
open PySem PySem.Spec PyProof.Rows L2
abbrev xdAp (a b : V) : List (Str × V) := [("other", b), ("one", a)]
theorem oo_ : ¬ (("one" : Str) = "other") := by decide +kernel
theorem relO_two {a b : V} {a' b' : Value} (ra : RelV a a') (rb : RelV b b') (f : Str) : RelO (List.lookup f (xdAp a b)) (PySem.ApX.twoF a' b' f) := by
  unfold PySem.ApX.twoF
  by_cases h1 : f = "other"
  · subst h1
    rw [if_pos rfl]
    have q : List.lookup ("other" : Str) (xdAp a b) = some b := by simp [List.lookup]
    rw [q]
    exact rb
  · rw [if_neg h1]
    have n1 : (f == ("other" : Str)) = false := by simpa using h1
    by_cases h2 : f = "one"
    · subst h2
      rw [if_pos rfl]
      have q : List.lookup ("one" : Str) (xdAp a b) = some a := by simp [List.lookup, n1]
      rw [q]
      exact ra
    · rw [if_neg h2]
      have n2 : (f == ("one" : Str)) = false := by simpa using h2
      have q : List.lookup f (xdAp a b) = none := by simp [List.lookup, n1, n2]
      rw [q]
      trivial
theorem get_one {a b : V} : List.lookup ("one" : Str) (xdAp a b) = some a := by
  have n1 : (("one" : Str) == ("other" : Str)) = false := by simpa using oo_
  simp [List.lookup, n1]
theorem get_other {a b : V} : List.lookup ("other" : Str) (xdAp a b) = some b := by simp [List.lookup]
section
variable {X : Cx} {C fI : Addr}
/-- Apart(e1, e2) -/
def tMkAp (C : Addr) (ta : TA) : L2.St → Hp → XK → Prop := fun σ H Q => ta σ H fun vs H1 => ∃ v1 v2, vs = [v1, v2] ∧ ∀ d, H1 d = none → Q (.ref C) (some d) (upd H1 d (.xd (xdAp v1 v2)))
theorem pmk_ap {e1 e2 : Expr} {ta : TA} {p pos : Pos} {k : Nat} (T : PySem.ApX.ApTxt X.K X.mg C fI) (hr : Room k X.A) (ha : PA X [e1, e2] ta) (hg : Gl X "Apart" := by rfl)
    (he : starEach (e1 :: [e2]) X.env = (false, eval e1 X.env) :: starEach [e2] X.env := by rfl) (hpl : (backTo pos (starEach [e2] X.env)).any (·.1) = false := by rfl) :
    PMk X (.Call (.Name "Apart" p) [e1, e2] [] pos) (tMkAp C ta) := by
  intro pins s σ H Q I h
  refine wpAny_Call_Name_kw (ld_glob I hg T.gC ?_)
  refine PySem.W.callWith_K (h₀ := X.base) I.ok.mod.kin T.kC (thn (ha.run pos pins s σ H _ I h) fun us s1 hh => ?_) he hpl
  obtain ⟨vs, H1, I1, r1, v1, v2, ev, q1⟩ := hh
  subst ev
  obtain ⟨u1, u2, rfl, rv1, rv2⟩ := vals2 r1
  refine ⟨I1.kIn, ?_⟩
  show wpAny _ _ (call (.ref C) [u1, u2]) _ _ _
  have hlim := I1.nolimit
  obtain ⟨hp, g, dr, tk, os⟩ := s1
  refine wpAny_call (PySem.ApX.ap_made T I1.kIn hlim (by have := hr.dp; omega) fun h' tk' e d M => ?_)
  show MkP X pins σ Q (.ref e) ⟨h', g, dr, tk', os⟩
  obtain ⟨oe, fv, hoe, hc, hd, hdat, h1⟩ := M.obj
  have hns := M.ns
  obtain ⟨G', g1, g2⟩ := restrict h' fun b => decide (b ≠ e)
  have gk : ∀ b, b ≠ e → G'.get? b = h'.get? b := fun b hb => g1 b (decide_eq_true hb)
  have ge : G'.get? e = none := g2 e (by simp)
  have old : ∀ b o, hp.get? b = some o → G'.get? b = some o := fun b o q => (gk b (Nat.ne_of_lt (Nat.lt_of_lt_of_le (Heap.lt_size q) M.new))).trans (M.keep b o q)
  have ob : ObjOk X.prog X.w (upd H1 d (.xd (xdAp v1 v2))) G' d (.xd (xdAp v1 v2)) :=
    ⟨_, hns.at (fun o q => (gk d M.dne).trans q), fun f => relO_two rv1 rv2 f⟩
  have J : Inv X pins σ (upd H1 d (.xd (xdAp v1 v2))) ⟨G', g, dr, tk', os⟩ := I1.laid (t' := tk') old M.dbig ob
  refine ⟨e, oe, fv, ⟨G', g, dr, tk', os⟩, _, .ref C, some d, rfl, J, fun b o q => ?_, ge, hoe, ⟨hc, hd⟩, hdat, h1, ?_, rfl, I1.bare, raises_own T.exC T.tyC, q1 d (I1.hok.fresh M.dbig)⟩
  · by_cases hb : b = e
    · have q' : G'.get? b = some o := q
      rw [hb, ge] at q'; cases q'
    · exact (gk b hb).symm.trans q
  · rw [upd_ne (Ne.symm M.dne)]
    exact I1.hok.fresh M.new
/-- raise Apart(e1, e2) -/
def tRaiseAp (C : Addr) (W : WX) (ta : TA) : TS := fun _ σ H => tMkAp C ta σ H fun cls d H' => W cls d σ H'
theorem ps_raiseAp {e1 e2 : Expr} {ta : TA} {W : WX} {p pos pos2 : Pos} {k : Nat} (hc : X.calm = true) (T : PySem.ApX.ApTxt X.K X.mg C fI) (hr : Room k X.A) (tk : Takes X W) (ha : PA X [e1, e2] ta) (hg : Gl X "Apart" := by rfl)
    (he : starEach (e1 :: [e2]) X.env = (false, eval e1 X.env) :: starEach [e2] X.env := by rfl) (hpl : (backTo pos (starEach [e2] X.env)).any (·.1) = false := by rfl) :
    PS X (.Raise (some (.Call (.Name "Apart" p) [e1, e2] [] pos)) none pos2) (tRaiseAp C W ta) := ps_raise hc tk (pmk_ap T hr ha hg he hpl)
end

/-! ### isinstance of the caught Apart -/
structure IsX (K : PySem.W.Frag) (D : Addr) : Prop where
  cl : (PySem.W.clsIn K D).isSome = true
  ga : PySem.W.findIn K (.ref D) "__getattribute__" = some (some (.builtin "BaseException.__getattribute__"))
  gg : PySem.W.findIn K (.ref D) "__getattr__" = some none
  ex : PySem.W.subIn K (.ref D) (.type "BaseException") = some true
  ha : PySem.W.findIn K (.ref D) "__class__" = some (some (.builtin "object.__class__"))
  hn : PySem.W.specialIn K (.builtin "object.__class__") "__get__" = some (some (.builtin "getset_descriptor.__get__"))
  ht : PySem.W.takesIn K (.builtin "object.__class__") = some true
  hm : PySem.W.mroIn K D (.type "object") = some true
section
variable {X : Cx} {a D : Addr} {oe : Obj} {cls : Value} {d : Option Addr} {pn : List (Addr × Obj)}
theorem suite_inst {pins : List (Addr × Obj)} {σ : L2.St} {H : Hp} {s : Shared} {dd : Addr} {fs : List (Str × V)} (I : Inv (X.suite a ((a, oe) :: pn)) pins σ H s) (hz : Zc (.ref D) (some dd) oe) (hf : ∃ vs, oe.data = .fields vs) (hd : H dd = some (.xd fs)) :
    ∃ od, PySem.W.InstAt s.heap a oe D (some od) := by
  obtain ⟨ha, _⟩ := I.pin (a, oe) (List.mem_append_left _ List.mem_cons_self)
  obtain ⟨vs, hv⟩ := hf
  have hx : ObjOk X.prog X.w H s.heap dd (.xd fs) := I.hok dd _ hd
  obtain ⟨mA, hns, _⟩ := hx
  obtain ⟨od, ho, _⟩ := lookIn_ns hns
  exact ⟨od, ha, hz.1, by unfold PySem.W.notCls; rw [hv] <;> rfl, by rw [hz.2]; exact ho⟩
/-- isinstance(e, c) -/
def rIsX (K : PySem.W.Frag) (D a : Addr) (cls : Value) (d : Option Addr) : List V → Hp → VK → Prop := fun xs H Q => ∃ (c : V) (cv : Value) (b : Bool) (dd : Addr) (fs : List (Str × V)), xs = [.ref a, c] ∧ ClsV c cv ∧ cls = .ref D ∧ d = some dd ∧ H dd = some (.xd fs) ∧ PySem.W.kitOne K (.ref D) cv = some b ∧ Q (.bl b) H
theorem call_isX (C : IsX X.K D) (hz : Zc cls d oe) (hf : ∃ vs, oe.data = .fields vs) : CallR (X.suite a ((a, oe) :: pn)) (.builtin "isinstance") (rIsX X.K D a cls d) := by
  intro pins s σ H xs us Q I r h
  obtain ⟨c, cv, b, dd, fs, rfl, hc, rfl, rfl, hd, e, q⟩ := h
  obtain ⟨u1, u2, rfl, r1, r2⟩ := vals2 r
  cases (show u1 = Value.ref a from r1)
  have e2 := hc.eq r2
  subst e2
  obtain ⟨od, J⟩ := suite_inst I hz hf hd
  exact PySem.W.kia_one (PySem.W.kitx_exc C.cl C.ga C.gg C.ex C.ha C.hn C.ht C.hm) I.kIn J e (fun z => nomatch z) fun tk => ⟨.bl b, H, I.tok tk, rfl, q⟩
/-- isinstance(e, (c1, c2, ..)), the tuple just laid -/
def rIsXT (K : PySem.W.Frag) (D a : Addr) (cls : Value) (d : Option Addr) : List V → Hp → VK → Prop := fun xs H Q => ∃ (tp : Addr) (cs : List V) (cvs : List Value) (b : Bool) (dd : Addr) (fs : List (Str × V)), xs = [.ref a, .ref tp] ∧ H tp = some (.tup cs) ∧ Paired ClsV cs cvs ∧ cls = .ref D ∧ d = some dd ∧
  H dd = some (.xd fs) ∧ PySem.W.kitAny K (.ref D) cvs = some b ∧ Q (.bl b) H
theorem call_isXT (C : IsX X.K D) (hz : Zc cls d oe) (hf : ∃ vs, oe.data = .fields vs) : CallR (X.suite a ((a, oe) :: pn)) (.builtin "isinstance") (rIsXT X.K D a cls d) := by
  intro pins s σ H xs us Q I r h
  obtain ⟨tp, cs, cvs, b, dd, fs, rfl, hT, hc, rfl, rfl, hd, e, q⟩ := h
  obtain ⟨u1, u2, rfl, r1, r2⟩ := vals2 r
  cases (show u1 = Value.ref a from r1)
  cases (show u2 = Value.ref tp from r2)
  obtain ⟨od, J⟩ := suite_inst I hz hf hd
  obtain ⟨_, its, rv, o, h1, h2, n, h3⟩ := (show ObjOk X.prog X.w H s.heap tp (.tup cs) from I.hok tp _ hT)
  have e3 := ClsV.all hc rv
  subst e3
  obtain ⟨oc, od', dt, sl⟩ := o
  simp only at h2 h3
  subst h2 h3
  exact PySem.W.kia_tup (PySem.W.kitx_exc C.cl C.ga C.gg C.ex C.ha C.hn C.ht C.hm) I.kIn J h1 e (fun z => nomatch z) fun tk => ⟨.bl b, H, I.tok tk, rfl, q⟩
end

/-! ### defs that may be called anywhere, an exception handled or not -/
def FnQ (P : Program) (w : World) (K : PySem.W.Frag) (mg : Str → Option Value) (base : Heap) (CX : CXT) (k : Nat) (f : Addr) (sp : Sp) : Prop :=
  ∀ (A : Around) (outer : List Env) (s : Shared) (H : Hp) (us : List Value) (vs : List V) (Q : VK) (E : XK) (p : Addr × Obj), L2H.RoomH k A → L2H.PinOk outer H s p → Env0 P w K mg base A outer s H → Vals vs us → sp vs H Q E →
    codeAny (model P w) A (.call (.ref f) ⟨us, []⟩) (CR CX outer P w H s Q E) s
section
variable {P : Program} {w : World} {K : PySem.W.Frag} {mg : Str → Option Value} {base : Heap}
theorem okQ {x qual : Str} {st : Stmt} {f : Addr} {fd : FuncData} {N ps : List Str} {k : Nat} {sp : Sp} (F : Fun K x qual st f fd) (b : Binds K fd ps []) (S : FnScope N ps (defScope st)) (len : ∀ vs H Q E, sp vs H Q E → vs.length = ps.length)
    (hbody : ∀ (cdv : Value) (A : Around) (outer : List Env) (s : Shared) (H : Hp) (vs : List V) (Q : VK) (E : XK) (p : Addr × Obj), L2H.RoomH k (A.deeper (envOfC qual (defScope st) s.heap.objs.size f cdv)) → sp vs H Q E →
      ∃ t, PSs (L2H.cxH CX0 P w K mg base N qual (defScope st) f cdv A outer s H E p).nox (defBody st) t ∧ t { nx := fun _ H' => Q .non H', rt := Q } (start N vs) H) : FnQ P w K mg base CX0 (k + 1) f sp := by
  obtain ⟨oc, od, kV, doc, pm, an, cdv, ct, osl, rfl, lk, hcd⟩ := F.ex
  intro A outer s H us vs Q E p hr hp e0 r hsp
  have l1 := len _ _ _ _ hsp
  have l2 : (us ++ ([] : List Value)).length = ps.length := by
    rw [List.append_nil, ← r.length]
    exact l1
  have hKs : K.In s.heap := e0.mod.kin.keeps fun c o e => (e0.bs c o e).1
  have hLs : s.heap.NoLimit := e0.mod.nolimit.keeps fun c o e => (e0.bs c o e).1
  have hbs := b s us hKs l2
  rw [List.append_nil] at hbs
  have kinds : ∀ y ∈ ps.zip us, (defScope st).names.lookup y.1 = some .local ∨ ((defScope st).names.lookup y.1 = some .cell ∧ ((cellsFrom (s.heap.objs.size + 1) (defScope st).names []).lookup y.1).isSome = true) := by
    rintro ⟨n, v⟩ hy
    rcases S.par n (List.of_mem_zip hy).1 with q | q
    · exact .inl q
    · exact .inr ⟨q, PySem.W.cellsFrom_some _ _ _ (.inl q)⟩
  refine codeAny_call_function hr.depth (hKs _ _ lk) rfl S.co S.gen rfl
    (PySem.W.codeRec_of hKs hcd) (hbs _ _ _ _ ?_)
  refine wpAny_newFunctionEnv_cells S.kind kinds fun env he sN x => ?_
  subst he
  refine ⟨hLs.keeps x.toInCall.keep, codeAny_func ?_⟩
  obtain ⟨t, ht, hq⟩ := hbody cdv A outer s H vs Q E p (hr.deeper _) hsp
  have I := L2H.inv_startH (CX := CX0) (P := P) (w := w) (K := K) (mg := mg) (base := base) (E := E) S hp e0 l1 r x
  refine wpAny_mono (ht.nox.run [] sN (start N vs) H _ I hq) (fun fl s' hs => ?_) fun e s' hs => hs
  cases fl with
  | next =>
    obtain ⟨σ', H', J, q⟩ := hs
    exact ⟨V.non, H', J.os, J.bare, J.base, J.hok, rfl, q⟩
  | ret u =>
    obtain ⟨v, σ', H', J, rv, q⟩ := hs
    exact ⟨v, H', J.os, J.bare, J.base, J.hok, rv, q⟩
  | brk =>
    obtain ⟨_, _, _, q⟩ := hs
    cases q
  | cont =>
    obtain ⟨_, _, _, q⟩ := hs
    cases q
end
section
variable {X : Cx} {C g a : Addr} {oe : Obj} {pn : List (Addr × Obj)} {n : Nat} {sp : Sp}
/-- repr(x) within a suite -/
theorem call_reprQ (hs : PySem.W.findIn X.K (.ref C) "__repr__" = some (some (.ref g))) (hf : PySem.W.isFn X.K (.ref g) = true) (F : FnQ X.prog X.w X.K X.mg X.base CX0 n g sp) (hr : Room (n + 1) X.A) :
    CallR (X.suite a ((a, oe) :: pn)) (.builtin "repr") (rTxt C sp E0) := by
  intro pins s σ H xs us Q I r h
  obtain ⟨x, rfl, ea, q⟩ := h
  obtain ⟨u, rfl, ru⟩ := r.one
  cases (show u = Value.ref x from ru)
  obtain ⟨_, _, J⟩ := ins_inst I ea
  obtain ⟨m, hF⟩ := I.fr
  have P1 := I.pin (a, oe) (List.mem_append_left _ List.mem_cons_self)
  have hpin : L2H.PinOk X.stack H s (a, oe) := ⟨P1.1, P1.2.1, fun hm => (List.mem_cons.mp (I.stkSub a hm)).elim P1.2.2.1 P1.2.2.2.1, P1.2.2.2.2⟩
  have hrm : L2H.RoomH n (X.A.mark (some (.ref a))).in1 := ⟨hr.in1.dp, hr.in1.un⟩
  refine PySem.W.repr_K (A := X.A.mark (some (.ref a))) hr.in1.units0 hF I.ok.mod.kin J hs hf (wpAny_mono (wpAny_call (codeAny_mono (F (X.A.mark (some (.ref a))).in1 X.stack s H [.ref x] [.ref x] _ E0 (a, oe) hrm hpin I.env0.in1 (.cons rfl .nil) q) fun r s' hq => ?_)) (fun _ _ z => strback z) fun _ _ z => z)
  cases r with
  | error e => exact hq.elim
  | ok fl =>
    cases fl with
    | ret u => exact I.after hq
    | next => exact False.elim hq
    | brk => exact False.elim hq
    | cont => exact False.elim hq
end
end Ab

namespace Ab
open PySem PySem.Spec PyProof.Rows L2

section
variable {P : Program} {w : World} {K : PySem.W.Frag} {mg : Str → Option Value} {base : Heap} {C : Addr}
theorem ok_reprQ {f : Addr} {fd : FuncData} (F : Fun K "__repr__" "Span.__repr__" (sp' 19) f fd) (b : Binds K fd ["self"] []) (T : Txt K mg C) : FnQ P w K mg base CX0 1 f (spRepr C) := by
  refine okQ F b sc19 (fun vs H Q E ⟨a, lo, hi, e, _⟩ => by rw [e]; rfl) (fun cdv A outer s H vs Q E p hr ⟨a, lo, hi, e, sa, bl, bh, q⟩ => ?_)
  subst e
  refine ⟨_, pss_one (ps_ret (pe_joined (.cons pe_str (.cons (pe_fmt (pe_lo T (pv 0))) (.cons pe_str (.cons (pe_fmt (pe_hi T (pv 0))) (.cons pe_str .nil))))))), ?_⟩
  have z : ∀ n, n ≤ 1000 → n ≤ sizeLine := fun n h => by rw [sizeLine_eq]; omega
  have e1 : ("Span(" : Str).length = 5 := by decide +kernel
  have e2 : (", " : Str).length = 2 := by decide +kernel
  have e3 : (")" : Str).length = 1 := by decide +kernel
  have n1 := bl.len
  have n2 := bh.len
  refine ⟨_, rfl, z _ ?_, .ref a, rfl, a, lo, hi, rfl, sa, .inr ⟨lo, rfl, bl.log, _, rfl, z _ ?_, _, rfl, z _ ?_, .ref a, rfl, a, lo, hi, rfl, sa, .inr ⟨hi, rfl, bh.log, _, rfl, z _ ?_, _, rfl, z _ ?_, ?_⟩⟩⟩
  · rw [empty_app]; omega
  · rw [empty_app, strLen_append]; omega
  · rw [empty_app, strLen_append, strLen_append]; omega
  · rw [empty_app, strLen_append, strLen_append, strLen_append]; omega
  · rw [empty_app, strLen_append, strLen_append, strLen_append, strLen_append]; omega
  · rw [empty_app]; exact q

def spAnd (C cA : Addr) : Sp := fun vs H Q E => ∃ a b l1 h1 l2 h2, vs = [.ref a, .ref b] ∧ SpanAt C H a l1 h1 ∧ SpanAt C H b l2 h2 ∧ l1 ≤ h1 ∧ l2 ≤ h2 ∧ (max l1 l2 ≤ min h1 h2 → NewSpan C H (max l1 l2) (min h1 h2) Q) ∧
  (¬ max l1 l2 ≤ min h1 h2 → ∀ d, H d = none → E (.ref cA) (some d) (upd H d (.xd (xdAp (.ref a) (.ref b)))))
theorem sc7 : FnScope ["self", "other"] ["self", "other"] (defScope (sp' 7)) := ⟨rfl, rfl, rfl, by decide +kernel, rfl, by decide +kernel, by decide +kernel⟩
theorem ok_and {f g fI cA fA : Addr} {fd fdI : FuncData} (F : Fun K "__and__" "Span.__and__" (sp' 7) f fd) (b : Binds K fd ["self", "other"] []) (T : Txt K mg C) (TA : PySem.ApX.ApTxt K mg cA fA) (G : Got K mg "want_span" g) (GF : FnR P w K mg base CX0 1 g (spWantSpan C))
    (m : Maker P w K mg base C fI fdI) : FnR P w K mg base (L2.CX P w) 5 f (spAnd C cA) := by
  have ok : FnOk P w K mg base (L2.CX P w) 5 f fd ["self", "other"] (spAnd C cA) := by
    refine F.okX sc7 (fun vs H Q E ⟨a, b, l1, h1, l2, h2, e, _⟩ => by rw [e]; rfl) (fun cdv A outer s H vs Q E hr ⟨a, b, l1, h1, l2, h2, e, sa, sb, le1, le2, q, qE⟩ => ?_)
    subst e
    refine ⟨_, (pss_cons (ps_expr (pe_to G GF (hr.mono (by decide)) (pa_cons (pv 1) pa_nil)))
      (pss_cons (ps_if (pw_or (pt_cmpR op_gt (pe_lo T (pv 1)) (pe_hi T (pv 0)) (nomark _)) (pw_or1 (pt_cmpR op_gt (pe_lo T (pv 0)) (pe_hi T (pv 1)) (nomark _)))).pt (pss_one (ps_raiseAp (W := fun cls d _ H => E cls d H) rfl TA hr (takes_of rfl rfl rfl rfl) (by exact (pa_cons (pv 0) (pa_cons (pv 1) pa_nil))))) pss_nil)
      (pss_one (ps_ret (pe_span T m hr (pa_cons (pe_callB (call_max2 rfl) rfl T.b_max rfl (pa_cons (pe_lo T (pv 0)) (pa_cons (pe_lo T (pv 1)) pa_nil))) (pa_cons (pe_callB (call_min2 rfl) rfl T.b_min rfl (pa_cons (pe_hi T (pv 0)) (pa_cons (pe_hi T (pv 1)) pa_nil))) pa_nil))))))), ?_⟩
    refine ⟨.ref b, rfl, b, rfl, sb.ins, .ref b, rfl, b, l2, h2, rfl, sb, .ref a, rfl, a, l1, h1, rfl, sa, l2, h1, rfl, rfl, _, rfl, ?_⟩
    have fin : ¬ (h1 < l2) → ¬ (h2 < l1) → NewSpan C H (max l1 l2) (min h1 h2) Q := fun z1 z2 => q (by omega)
    by_cases z1 : h1 < l2
    · rw [decide_eq_true z1]
      refine iteT (iteT ⟨.ref a, rfl, .ref b, rfl, .ref a, .ref b, rfl, fun d hd => qE (by omega) d hd⟩)
    · rw [decide_eq_false z1]
      refine iteF ⟨.ref a, rfl, a, l1, h1, rfl, sa, .ref b, rfl, b, l2, h2, rfl, sb, l1, h2, rfl, rfl, _, rfl, ?_⟩
      by_cases z2 : h2 < l1
      · rw [decide_eq_true z2]
        refine iteT ⟨.ref a, rfl, .ref b, rfl, .ref a, .ref b, rfl, fun d hd => qE (by omega) d hd⟩
      · rw [decide_eq_false z2]
        refine iteF ⟨.ref a, rfl, a, l1, h1, rfl, sa, .ref b, rfl, b, l2, h2, rfl, sb, l1, l2, rfl, .ref a, rfl, a, l1, h1, rfl, sa, .ref b, rfl, b, l2, h2, rfl, sb, h1, h2, rfl, _, _, rfl, ?_, ?_⟩
        · rw [pymin, pymax]; omega
        · rw [pymin, pymax]; exact fin z1 z2
  exact (ok.raw b .nil).imp fun vs H Q E h => by rw [List.append_nil]; exact h
end
end Ab

namespace Ab
open PySem PySem.Spec PyProof.Rows L2

theorem passL' {X : Cx} {σ : L2.St} : PassesAt (L2.CX X.prog X.w) X σ E0 := fun _ _ _ _ _ _ h => by
  obtain ⟨_, _, _, _, _, _, _, _, _, _, _, _, z⟩ := h
  exact z.elim
/-- what the classes of errors say -/
structure Errs (K : PySem.W.Frag) (mg : Str → Option Value) (cA cS c1 c2 c3 : Addr) : Prop where
  x : IsX K cA
  xf : XfC K cA
  gS : mg "StateError" = some (.ref cS)
  g1 : mg "AbreastError" = some (.ref c1)
  g2 : mg "MissingError" = some (.ref c2)
  g3 : mg "LimitError" = some (.ref c3)
  gR : mg "RuntimeError" = none
  kS : PySem.W.kitOne K (.ref cA) (.ref cS) = some true
  kN : PySem.W.kitAny K (.ref cA) [.ref c1, .ref c2, .ref c3] = some false
  kR : PySem.W.kitOne K (.ref cA) (.type "RuntimeError") = some true
section
variable {P : Program} {w : World} {K : PySem.W.Frag} {mg : Str → Option Value} {base : Heap} {C : Addr}
abbrev sShared : Stmt := top 22
abbrev nShared : List Str := ["_law_this", "_law_mate", "_law_told", "e", "_law_fits"]
theorem scShared : FnScope nShared ["_law_this", "_law_mate"] (defScope sShared) := ⟨rfl, rfl, rfl, by decide +kernel, rfl, by decide +kernel, by decide +kernel⟩
def spShared (C : Addr) : Sp := fun vs H Q _ => ∃ a b l1 h1 l2 h2, vs = [.ref a, .ref b] ∧ SpanAt C H a l1 h1 ∧ SpanAt C H b l2 h2 ∧ l1 ≤ h1 ∧ l2 ≤ h2 ∧ Bd l1 ∧ Bd h1 ∧ Bd l2 ∧ Bd h2 ∧ (max l1 l2 ≤ min h1 h2 → NewSpan C H (max l1 l2) (min h1 h2) Q) ∧
  (¬ max l1 l2 ≤ min h1 h2 → ∀ l H', Ext H H' → H' l = some (.lst [.str "apart", .str (tRep l1 h1), .str (tRep l2 h2), .bl true]) → Q (.ref l) H')
def tsShared (K : PySem.W.Frag) (C cA cS c1 c2 c3 : Addr) : Addr → Value → Option Addr → TS := fun a cls d =>
  tSeq (tAsg (tAndV (tCB (rIsX K cA a cls d) (tCons (tVar 3) (tCons (tC (.ref cS)) tNil))) (tNotV (tCB (rIsXT K cA a cls d) (tCons (tVar 3) (tCons (tTupN (tCons (tC (.ref c1)) (tCons (tC (.ref c2)) (tCons (tC (.ref c3)) tNil)))) tNil))))) (gName 4))
    (tAsg (tLstN (tCons (tC (.str "apart")) (tCons (tCB (rTxt C (spRepr C) E0) (tCons (tXf a cls d cA "one" (tVar 3)) tNil)) (tCons (tCB (rTxt C (spRepr C) E0) (tCons (tXf a cls d cA "other" (tVar 3)) tNil))
      (tCons (tAndV (tVar 4) (tCB (rIsX K cA a cls d) (tCons (tVar 3) (tCons (tC (.ty "RuntimeError")) tNil)))) tNil))))) (gName 2))
theorem ok_shared {f gA gR cA fA cS c1 c2 c3 : Addr} {fd : FuncData} (F : Fun K "_law_shared" "_law_shared" sShared f fd) (b : Binds K fd ["_law_this", "_law_mate"] []) (T : Txt K mg C) (O : Ops K C) (TA : PySem.ApX.ApTxt K mg cA fA) (TE : Errs K mg cA cS c1 c2 c3)
    (iA : PySem.W.findIn K (.ref C) "__and__" = some (some (.ref gA))) (nA : PySem.W.isFn K (.ref gA) = true) (FA : FnR P w K mg base (L2.CX P w) 5 gA (spAnd C cA))
    (iR : PySem.W.findIn K (.ref C) "__repr__" = some (some (.ref gR))) (nR : PySem.W.isFn K (.ref gR) = true) (FR : FnQ P w K mg base CX0 1 gR (spRepr C)) : FnR P w K mg base CX0 6 f (spShared C) := by
  refine okR F b scShared (fun vs H Q E ⟨a, b, l1, h1, l2, h2, e, _⟩ => by rw [e]; rfl) (fun cdv A outer s H vs Q E hr ⟨a, b, l1, h1, l2, h2, e, sa, sb, le1, le2, b1, b2, b3, b4, q, qE⟩ => ?_)
  subst e
  have hr2 := hr.mono (show 2 ≤ 5 by decide)
  refine ⟨_, pss_cons (ps_set (i := 2) scShared.nd rfl (Or.inl rfl) pe_non)
    (pss_cons (ps_try_as (i := 3) (tb := fun W => tAsg (tBinO C (spAnd C cA) (WE W) (tVar 0) (tVar 1)) (gName 2)) (ts := tsShared K C cA cS c1 c2 c3) (Wout := fun _ _ _ _ => False) rfl rfl scShared.nd rfl rfl ⟨rfl, by decide, Or.inl TA.gC⟩ takes0
          (fun W pn xe tk _ => pss_one (ps_set (i := 2) scShared.nd rfl (Or.inl rfl) (by exact (pe_binO O.sf (by rw [d_and]; exact iA) nA FA hr (fun σ => passAt tk σ) (pv 0) (pv 1)))))
          (fun a oe cls d pn hz hf => pss_cons (ps_set (i := 4) scShared.nd rfl (Or.inl rfl) (by exact (pe_and (pe_callB (call_isX TE.x hz hf) rfl T.b_isinstance rfl (pa_cons (pv 3) (pa_cons (pe_glob rfl TE.gS (v := .ref cS) rfl) pa_nil)))
              (pe_one (pe_not (pe_callB (call_isXT TE.x hz hf) rfl T.b_isinstance rfl (pa_cons (pv 3) (pa_cons (pe_tupN (pa_cons (pe_glob rfl TE.g1 (v := .ref c1) rfl) (pa_cons (pe_glob rfl TE.g2 (v := .ref c2) rfl) (pa_cons (pe_glob rfl TE.g3 (v := .ref c3) rfl) pa_nil)))) pa_nil))))))))
            (pss_one (ps_set (i := 2) scShared.nd rfl (Or.inl rfl) (by exact (pe_lstN (pa_cons pe_str (pa_cons (pe_callB (call_reprQ iR nR FR hr2) rfl T.b_repr rfl (pa_cons (pe_xf TE.xf TA.no1 hz hf (pv 3)) pa_nil)) (pa_cons (pe_callB (call_reprQ iR nR FR hr2) rfl T.b_repr rfl (pa_cons (pe_xf TE.xf TA.no2 hz hf (pv 3)) pa_nil))
              (pa_cons (pe_and (pv 4) (pe_one (pe_callB (call_isX TE.x hz hf) rfl T.b_isinstance rfl (pa_cons (pv 3) (pa_cons (pe_bltn rfl TE.gR rfl (v := .ty "RuntimeError") rfl) pa_nil))))) pa_nil))))))))))
    (pss_one (ps_ret (pv 2)))), ?_⟩
  refine ⟨.ref a, rfl, .ref b, rfl, a, b, rfl, rfl, sa.ins, sb.ins, a, b, l1, h1, l2, h2, rfl, sa, sb, le1, le2, fun z => ?_, fun z d hd => ?_⟩
  · exact fun x H' e sx => ⟨.ref x, rfl, q z x H' e sx⟩
  · refine ⟨true, TA.te, fun _ a0 _ => ?_, fun q => Bool.noConfusion q⟩
    have xd := lay_ext (o := .xd (xdAp (.ref a) (.ref b))) hd
    have hd1 : upd H d (.xd (xdAp (.ref a) (.ref b))) d = some (.xd (xdAp (.ref a) (.ref b))) := upd_same
    refine ⟨.ref a0, rfl, .ref cS, .ref cS, true, d, _, rfl, .own cS, rfl, rfl, hd1, TE.kS, true, rfl, iteT ?_⟩
    refine ⟨.ref a0, rfl, (by show 3 ≤ 100; decide), fun t H1 e1 ht => ?_⟩
    refine ⟨t, _, _, false, d, _, rfl, ht, .cons (.own c1) (.cons (.own c2) (.cons (.own c3) .nil)), rfl, rfl, e1 _ _ hd1, TE.kN, false, rfl, ?_⟩
    have x1 := xd.trans e1
    refine ⟨.ref a0, rfl, rfl, rfl, d, _, .ref a, rfl, e1 _ _ hd1, get_one, a, rfl, (sa.ext x1).ins, a, l1, h1, rfl, sa.ext x1, b1, b2, _, rfl, ?_⟩
    refine ⟨.ref a0, rfl, rfl, rfl, d, _, .ref b, rfl, e1 _ _ hd1, get_other, b, rfl, (sb.ext x1).ins, b, l2, h2, rfl, sb.ext x1, b3, b4, _, rfl, ?_⟩
    refine ⟨.bl true, rfl, true, rfl, iteT ⟨.ref a0, rfl, .ty "RuntimeError", .type "RuntimeError", true, d, _, rfl, .ty _, rfl, rfl, e1 _ _ hd1, TE.kR, ?_⟩⟩
    refine ⟨(by show 4 ≤ 100; decide), fun l H2 nl e2 hl => ?_⟩
    exact ⟨.ref l, rfl, qE z l H2 (x1.trans e2) hl⟩
end
end Ab

namespace Ab
open PySem PySem.Spec PyProof.Rows L2

/-- the method is_within, called with and without the keyword -/
structure WiM (P : Program) (w : World) (K : PySem.W.Frag) (mg : Str → Option Value) (base : Heap) (C : Addr) : Prop where
  ex : ∃ g fd, Meth K C "is_within" g ∧ FnOk P w K mg base CX0 2 g fd ["self", "other"] (spWithin C) ∧ Binds K fd ["self", "other"] [] ∧ KBn K fd ["self", "other"] 1 ["other"] kwG kwG
section
variable {X : Cx} {C : Addr} {o e : Expr} {ta : TE} {t tk : TA} {apos pos : Pos} {kws : List Keyword} {pl : Sem Bool}
theorem iw_no (lo hi : Int) : (sf lo hi).lookup ("is_within" : Str) = none := sf_no _ _ (by decide +kernel) (by decide +kernel)
def tWi (C : Addr) (ta : TE) (t : TA) : TE := fun σ H Q => ta σ H fun x H1 => ∃ a l1 h1, x = .ref a ∧ SpanAt C H1 a l1 h1 ∧ t σ H1 fun vs H2 => spWithin C (.ref a :: vs) H2 Q E0
theorem pe_wi (T : Txt X.K X.mg C) (W : WiM X.prog X.w X.K X.mg X.base C) (hr : Room 2 X.A) (he : PE X o ta) (ha : PA X [e] t) (hst : starEach [e] X.env = (false, eval e X.env) :: starEach [] X.env := by rfl)
    (ht : eval (.Call (.Attribute o "is_within" apos) [e] [] pos) X.env = (do
      let ov ← eval o X.env
      standAt apos.atName
      let (f, first) ← holding [ov] (getMethod ov "is_within" pl)
      callWith pos f first (backTo pos (starEach [e] X.env)) (backToKw pos (keywordEach [] X.env))) := by rfl) : PE X (.Call (.Attribute o "is_within" apos) [e] [] pos) (tWi C ta t) := by
  obtain ⟨g, fd, hm, F, b, _⟩ := W.ex
  refine ⟨fun pins s σ H Q I h => ?_⟩
  refine PySem.W.methodCall_KW (pl := pl) (thn (he.run pins s σ H _ I h) fun u s1 hh => ?_) ht
  obtain ⟨x, H1, I1, rx, a, l1, h1, ex, ⟨dx, ea⟩, q⟩ := hh
  subst ex
  obtain rfl : u = Value.ref a := rx
  refine getmeth_ok I1 ea T.cl hm (iw_no _ _) ?_
  refine PySem.W.callWith_K (first := [.ref a]) (h₀ := X.base) I.ok.mod.kin hm.kp (thn (ha.run pos pins s1 σ H1 _ I1 q) fun us s2 hh => ?_) hst rfl
  obtain ⟨vs, H2, I2, r, q2⟩ := hh
  refine ⟨I2.kIn, run_fn (us := .ref a :: us) (vs := .ref a :: vs) F hr b .nil pass0 I2 (.cons rfl r) ?_⟩
  rw [List.append_nil]
  exact q2
def tWiK (C : Addr) (ta : TE) (tk : TA) : TE := fun σ H Q => ta σ H fun x H1 => ∃ a l1 h1, x = .ref a ∧ SpanAt C H1 a l1 h1 ∧ tk σ H1 fun zs H2 => ∃ y, zs = [y] ∧ spWithin C [.ref a, y] H2 Q E0
theorem pe_wiK (T : Txt X.K X.mg C) (W : WiM X.prog X.w X.K X.mg X.base C) (hr : Room 2 X.A) (he : PE X o ta) (hkw : PK X kws tk)
    (hall : (backToKw pos (keywordEach kws X.env)).all (·.1.isSome) = true := by rfl) (hks : (backToKw pos (keywordEach kws X.env)).filterMap (·.1) = (["other"] : List Str) := by rfl)
    (hpl : ((backTo pos (starEach [] X.env)).any (·.1) || (backToKw pos (keywordEach kws X.env)).any (·.1.isNone)) = false := by rfl)
    (ht : eval (.Call (.Attribute o "is_within" apos) [] kws pos) X.env = (do
      let ov ← eval o X.env
      standAt apos.atName
      let (f, first) ← holding [ov] (getMethod ov "is_within" pl)
      callWith pos f first (backTo pos (starEach [] X.env)) (backToKw pos (keywordEach kws X.env))) := by rfl) : PE X (.Call (.Attribute o "is_within" apos) [] kws pos) (tWiK C ta tk) := by
  obtain ⟨g, fd, hm, F, _, kb⟩ := W.ex
  refine ⟨fun pins s σ H Q I h => ?_⟩
  refine PySem.W.methodCall_KW (pl := pl) (thn (he.run pins s σ H _ I h) fun u s1 hh => ?_) ht
  obtain ⟨x, H1, I1, rx, a, l1, h1, ex, ⟨dx, ea⟩, q⟩ := hh
  subst ex
  obtain rfl : u = Value.ref a := rx
  refine getmeth_ok I1 ea T.cl hm (iw_no _ _) ?_
  refine PySem.W.callWith_KW0 (first := [.ref a]) (h₀ := X.base) I.ok.mod.kin hm.kp hall (thn (hkw.run pos pins s1 σ H1 _ I1 q) fun ws s2 hh => ?_) hpl
  obtain ⟨zs, H2, I2, rz, y, ez, q2⟩ := hh
  subst ez
  rw [hks]
  exact ⟨I2.kIn, run_fnN (us := [.ref a]) (vs := [.ref a]) (n := 1) F hr kb pass0 I2 (.cons rfl .nil) rz rfl rfl q2⟩
end
end Ab

namespace Ab
open PySem PySem.Spec PyProof.Rows L2

section
variable {P : Program} {w : World} {K : PySem.W.Frag} {mg : Str → Option Value} {base : Heap} {C : Addr}
abbrev sTwo : Stmt := top 23
abbrev nTwo : List Str := ["_law_bounds_here", "_law_more", "_law_this", "_law_mate", "_law_least", "_law_most", "_law_told", "_law_due"]
theorem scTwo : FnScope nTwo ["_law_bounds_here", "_law_more"] (defScope sTwo) := ⟨rfl, rfl, rfl, by decide +kernel, rfl, by decide +kernel, by decide +kernel⟩
def spTwo (C : Addr) : Sp := fun vs H Q _ => ∃ t u l1 h1 l2 h2, vs = [.ref t, .ref u] ∧ PairAt H t l1 h1 ∧ PairAt H u l2 h2 ∧ l1 ≤ h1 ∧ l2 ≤ h2 ∧ Lim l1 ∧ Lim h1 ∧ Lim l2 ∧ Lim h2 ∧ ∀ H', Ext H H' → Q (.bl true) H'
theorem win1 {l1 h1 l2 h2 : Int} : decide (l2 ≤ l1 ∧ h1 ≤ h2) = pairCmp .Eq (max l1 l2) (min h1 h2) l1 h1 := by
  show _ = decide (_ ∧ _)
  rw [decide_eq_decide]
  omega
theorem win2 {l1 h1 l2 h2 : Int} : decide (l1 ≤ l2 ∧ h2 ≤ h1) = pairCmp .Eq (max l1 l2) (min h1 h2) l2 h2 := by
  show _ = decide (_ ∧ _)
  rw [decide_eq_decide]
  omega
theorem apart_sh {l1 h1 l2 h2 : Int} (b1 : Bd l1) (b2 : Bd h1) (b3 : Bd l2) (b4 : Bd h2) : ∀ d ∈ ([.str "apart", .str (tRep l1 h1), .str (tRep l2 h2), .bool true] : List PyData), Sh d :=
  sh_cons (sh_str (by decide +kernel) (sg_of _)) (sh_cons (sh_str (tRep_len b1 b2) tRep_sg) (sh_cons (sh_str (tRep_len b3 b4) tRep_sg) (sh_cons (sh_bl _) sh_nil)))
theorem ok_two {f g1 g2 g3 : Addr} {fd : FuncData} (F : Fun K "_law_two_right" "_law_two_right" sTwo f fd) (b : Binds K fd ["_law_bounds_here", "_law_more"] []) (T : Txt K mg C) (O : Ops K C)
    (G_made : Got K mg "_law_made" g1) (F_made : FnR P w K mg base CX0 5 g1 (spMade C)) (G_is : Got K mg "_law_is" g2) (F_is : FnG P w K mg base CX0 4 g2 (spIs C)) (G_shared : Got K mg "_law_shared" g3) (F_shared : FnR P w K mg base CX0 6 g3 (spShared C))
    (W : WiM P w K mg base C) (mRe : Own P w K mg base C "__repr__" 1 (spRepr C)) (mOr : Own P w K mg base C "__or__" 5 (spOr C)) (mLe : Own P w K mg base C "__le__" 1 (spCmp C .LtE)) (mLt : Own P w K mg base C "__lt__" 1 (spCmp C .Lt))
    (mGe : Own P w K mg base C "__ge__" 1 (spCmp C .GtE)) (mGt : Own P w K mg base C "__gt__" 1 (spCmp C .Gt)) (mEq : Own P w K mg base C "__eq__" 1 (spCmp C .Eq)) : FnG P w K mg base CX0 7 f (spTwo C) := by
  refine okG F b scTwo (fun vs H Q E ⟨t, u, l1, h1, l2, h2, e, _⟩ => by rw [e]; rfl) (fun cdv A outer s H vs Q E hgs hr ⟨t, u, l1, h1, l2, h2, e, ht, hu, le1, le2, b1, b2, b3, b4, q⟩ => ?_)
  subst e
  have hr5 := hr.mono (show 5 ≤ 6 by decide)
  have hr2 := hr.mono (show 2 ≤ 6 by decide)
  have hr1 := hr.mono (show 1 ≤ 6 by decide)
  refine ⟨_, (pss_cons (ps_par (i := 2) (j := 3) rfl scTwo.nd rfl rfl (by decide) rfl rfl (pa_cons (pe_to G_made F_made hr5 (pa_cons (pv 0) pa_nil)) (pa_cons (pe_to G_made F_made hr5 (pa_cons (pv 1) pa_nil)) pa_nil)) (by rfl))
      (pss_cons (ps_par (i := 4) (j := 5) rfl scTwo.nd rfl rfl (by decide) rfl rfl (pa_cons (pe_callB (call_max2 rfl) rfl T.b_max rfl (pa_cons (pe_ix ix_tup (pv 0) pe_int (fun _ _ => rfl)) (pa_cons (pe_ix ix_tup (pv 1) pe_int (fun _ _ => rfl)) pa_nil))) (pa_cons (pe_callB (call_min2 rfl) rfl T.b_min rfl (pa_cons (pe_ix ix_tup (pv 0) pe_int (fun _ _ => rfl)) (pa_cons (pe_ix ix_tup (pv 1) pe_int (fun _ _ => rfl)) pa_nil))) pa_nil)) (by rfl))
      (pss_cons (ps_set (i := 6) scTwo.nd rfl (Or.inl rfl) (pe_to G_shared F_shared (hr.mono (by decide)) (pa_cons (pv 2) (pa_cons (pv 3) pa_nil))))
      (pss_cons (ps_if (PW.pt (pw_and (pt_cmpR op_gt (pv 4) (pv 5) (nomark _)) (pw_and1 (pt_cmpR op_ne (pe_callB (call_rep hgs hr) rfl T.b_repr rfl (pa_cons (pv 6) pa_nil)) (pe_callB (call_rep hgs hr) rfl T.b_repr rfl (pa_cons (pe_lstN (pa_cons pe_str (pa_cons (pe_callB (own_repr mRe hr2) rfl T.b_repr rfl (pa_cons (pv 2) pa_nil)) (pa_cons (pe_callB (own_repr mRe hr2) rfl T.b_repr rfl (pa_cons (pv 3) pa_nil)) (pa_cons pe_bl pa_nil))))) pa_nil)) (nomark _))))) (pss_one (ps_ret pe_bl)) pss_nil)
      (pss_cons (ps_if (PW.pt (pw_and (pt_cmpR op_le (pv 4) (pv 5) (nomark _)) (pw_and1 (pt_not (pt_val (pe_toG G_is F_is hgs (hr.mono (by decide)) (pa_cons (pv 6) (pa_cons (pe_tupN (pa_cons (pv 4) (pa_cons (pv 5) pa_nil))) pa_nil)))))))) (pss_one (ps_ret pe_bl)) pss_nil)
      (pss_cons (ps_if (pt_not (pt_val (pe_toG G_is F_is hgs (hr.mono (by decide)) (pa_cons (oOr O mOr hr5 (pv 2) (pv 3)) (pa_cons (pe_tupN (pa_cons (pe_callB (call_min2 rfl) rfl T.b_min rfl (pa_cons (pe_ix ix_tup (pv 0) pe_int (fun _ _ => rfl)) (pa_cons (pe_ix ix_tup (pv 1) pe_int (fun _ _ => rfl)) pa_nil))) (pa_cons (pe_callB (call_max2 rfl) rfl T.b_max rfl (pa_cons (pe_ix ix_tup (pv 0) pe_int (fun _ _ => rfl)) (pa_cons (pe_ix ix_tup (pv 1) pe_int (fun _ _ => rfl)) pa_nil))) pa_nil))) pa_nil))))) (pss_one (ps_ret pe_bl)) pss_nil)
      (pss_cons (ps_set (i := 7) scTwo.nd rfl (Or.inl rfl) (pe_lstN (pa_cons (pe_cmpR (op_pair (by decide) hr.units0) (pv 0) (pv 1) (nomark _)) (pa_cons (pe_cmpR (op_pair (by decide) hr.units0) (pv 0) (pv 1) (nomark _)) (pa_cons (pe_cmpR (op_pair (by decide) hr.units0) (pv 0) (pv 1) (nomark _)) (pa_cons (pe_cmpR (op_pair (by decide) hr.units0) (pv 0) (pv 1) (nomark _)) (pa_cons (pe_cmpR (op_pairEq hr.units) (pv 0) (pv 1) (nomark _)) (pa_cons (pe_cmpR (op_pairNe hr.units) (pv 0) (pv 1) (nomark _)) pa_nil))))))))
      (pss_cons (ps_if (pt_cmpR op_ne (pe_callB (call_rep hgs hr) rfl T.b_repr rfl (pa_cons (pe_lstN (pa_cons (pe_cmpR (oLe mLe hr1) (pv 2) (pv 3) (nomark _)) (pa_cons (pe_cmpR (oLt mLt hr1) (pv 2) (pv 3) (nomark _)) (pa_cons (pe_cmpR (oGe mGe hr1) (pv 2) (pv 3) (nomark _)) (pa_cons (pe_cmpR (oGt mGt hr1) (pv 2) (pv 3) (nomark _)) (pa_cons (pe_cmpR (oEq mEq hr1) (pv 2) (pv 3) (nomark _)) (pa_cons (pe_cmpR (oNe T O mEq hr2) (pv 2) (pv 3) (nomark _)) pa_nil))))))) pa_nil)) (pe_callB (call_rep hgs hr) rfl T.b_repr rfl (pa_cons (pv 7) pa_nil)) (nomark _)) (pss_one (ps_ret pe_bl)) pss_nil)
      (pss_cons (ps_set (i := 7) scTwo.nd rfl (Or.inl rfl) (pe_lstN (pa_cons (pe_cmpR (op_pairEq hr.units) (pe_tupN (pa_cons (pv 4) (pa_cons (pv 5) pa_nil))) (pv 0) (nomark _)) (pa_cons (pe_cmpR (op_pairEq hr.units) (pe_tupN (pa_cons (pv 4) (pa_cons (pv 5) pa_nil))) (pv 1) (nomark _)) pa_nil))))
      (pss_cons (ps_if (pt_cmpR op_ne (pe_callB (call_rep hgs hr) rfl T.b_repr rfl (pa_cons (pe_lstN (pa_cons (pe_wi T W hr2 (pv 2) (pa_cons (pv 3) pa_nil)) (pa_cons (pe_wiK T W hr2 (pv 3) (pk_cons (pv 2) pk_nil)) pa_nil))) pa_nil)) (pe_callB (call_rep hgs hr) rfl T.b_repr rfl (pa_cons (pv 7) pa_nil)) (nomark _)) (pss_one (ps_ret pe_bl)) pss_nil)
      (pss_one (ps_ret (pe_and (pe_toG G_is F_is hgs (hr.mono (by decide)) (pa_cons (pv 2) (pa_cons (pv 0) pa_nil))) (pe_one (pe_toG G_is F_is hgs (hr.mono (by decide)) (pa_cons (pv 3) (pa_cons (pv 1) pa_nil))))))))))))))))), ?_⟩
  refine ⟨.ref t, rfl, t, l1, h1, rfl, ht, le1, fun a H1 e1 sa => ?_⟩
  refine ⟨.ref u, rfl, u, l2, h2, rfl, hu.ext e1, le2, fun c H2 e2 sc => ?_⟩
  have sa2 := sa.ext e2
  have x2 := e1.trans e2
  have ht2 := ht.ext x2
  have hu2 := hu.ext x2
  refine ⟨.ref a, .ref c, rfl, ?_⟩
  refine ⟨.ref t, rfl, t, _, 0, .int l1, rfl, rfl, .of ht2, rfl, .ref u, rfl, u, _, 0, .int l2, rfl, rfl, .of hu2, rfl, l1, l2, rfl, .ref t, rfl, t, _, 1, .int h1, rfl, rfl, .of ht2, rfl, .ref u, rfl, u, _, 1, .int h2, rfl, rfl, .of hu2, rfl, h1, h2, rfl, _, _, rfl, ?_⟩
  rw [pymax, pymin]
  have c1 := b1.1
  have c2 := b1.2
  have c3 := b2.1
  have c4 := b2.2
  have c5 := b3.1
  have c6 := b3.2
  have c7 := b4.1
  have c8 := b4.2
  refine ⟨.ref a, rfl, .ref c, rfl, a, c, l1, h1, l2, h2, rfl, sa2, sc, le1, le2, b1.bd, b2.bd, b3.bd, b4.bd, fun z => ?_, fun z => ?_⟩
  · refine fun n H3 e3 sn => ?_
    refine ⟨.int (max l1 l2), rfl, .int (min h1 h2), rfl, _, _, rfl, rfl, _, rfl, ?_⟩
    rw [decide_eq_false (by omega)]
    refine iteF (iteF ?_)
    refine ⟨.int (max l1 l2), rfl, .int (min h1 h2), rfl, _, _, rfl, rfl, _, rfl, ?_⟩
    rw [decide_eq_true z]
    refine iteT ⟨.ref n, rfl, .int (max l1 l2), rfl, .int (min h1 h2), rfl, (by show 2 ≤ 100; decide), fun v0 H3' e3' hv0 => ?_⟩
    refine ⟨n, v0, _, _, rfl, sn.ext e3', hv0, .of (by omega) (by omega), .of (by omega) (by omega), .of (by omega) (by omega), fun H4 e4 => ⟨true, rfl, iteF ?_⟩⟩
    have x4 := e3.trans (e3'.trans e4)
    refine ⟨.ref a, rfl, .ref c, rfl, a, c, rfl, rfl, (sa2.ext x4).ins, (sc.ext x4).ins, a, c, l1, h1, l2, h2, rfl, sa2.ext x4, sc.ext x4, le1, fun a5 H5 e5 sa5 => ?_⟩
    refine ⟨.ref t, rfl, t, _, 0, .int l1, rfl, rfl, .of (ht2.ext (x4.trans e5)), rfl, .ref u, rfl, u, _, 0, .int l2, rfl, rfl, .of (hu2.ext (x4.trans e5)), rfl, l1, l2, rfl, .ref t, rfl, t, _, 1, .int h1, rfl, rfl, .of (ht2.ext (x4.trans e5)), rfl, .ref u, rfl, u, _, 1, .int h2, rfl, rfl, .of (hu2.ext (x4.trans e5)), rfl, h1, h2, rfl, (by show 2 ≤ 100; decide), fun v H6 e6 hv => ?_⟩
    rw [pymin, pymax] at hv
    refine ⟨a5, v, min l1 l2, max h1 h2, rfl, sa5.ext e6, hv, .of (by omega) (by omega), .of (by omega) (by omega), .of (by omega) (by omega), fun H7 e7 => ⟨true, rfl, iteF ?_⟩⟩
    have x7 := x4.trans (e5.trans (e6.trans e7))
    have ht7 := ht2.ext x7
    have hu7 := hu2.ext x7
    refine ⟨.ref t, rfl, .ref u, rfl, t, u, l1, h1, l2, h2, rfl, rfl, ht7, hu7, .ref t, rfl, .ref u, rfl, t, u, l1, h1, l2, h2, rfl, rfl, ht7, hu7, .ref t, rfl, .ref u, rfl, t, u, l1, h1, l2, h2, rfl, rfl, ht7, hu7, .ref t, rfl, .ref u, rfl, t, u, l1, h1, l2, h2, rfl, rfl, ht7, hu7, .ref t, rfl, .ref u, rfl, t, u, l1, h1, l2, h2, rfl, rfl, ht7, hu7, .ref t, rfl, .ref u, rfl, t, u, l1, h1, l2, h2, rfl, rfl, ht7, hu7, (by show 6 ≤ 100; decide), fun d H8 nd e8 hd => ?_⟩
    have x8 := x7.trans e8
    refine ⟨.ref a, rfl, .ref c, rfl, a, c, rfl, rfl, (sa2.ext x8).ins, (sc.ext x8).ins, a, c, l1, h1, l2, h2, rfl, sa2.ext x8, sc.ext x8, fun H9 e9 => ?_⟩
    have x9 := x8.trans e9
    refine ⟨.ref a, rfl, .ref c, rfl, a, c, rfl, rfl, (sa2.ext x9).ins, (sc.ext x9).ins, a, c, l1, h1, l2, h2, rfl, sa2.ext x9, sc.ext x9, fun H10 e10 => ?_⟩
    have x10 := x9.trans e10
    refine ⟨.ref a, rfl, .ref c, rfl, a, c, rfl, rfl, (sa2.ext x10).ins, (sc.ext x10).ins, a, c, l1, h1, l2, h2, rfl, sa2.ext x10, sc.ext x10, fun H11 e11 => ?_⟩
    have x11 := x10.trans e11
    refine ⟨.ref a, rfl, .ref c, rfl, a, c, rfl, rfl, (sa2.ext x11).ins, (sc.ext x11).ins, a, c, l1, h1, l2, h2, rfl, sa2.ext x11, sc.ext x11, fun H12 e12 => ?_⟩
    have x12 := x11.trans e12
    refine ⟨.ref a, rfl, .ref c, rfl, a, c, rfl, rfl, (sa2.ext x12).ins, (sc.ext x12).ins, a, c, l1, h1, l2, h2, rfl, sa2.ext x12, sc.ext x12, fun H13 e13 => ?_⟩
    have x13 := x12.trans e13
    refine ⟨.ref a, rfl, .ref c, rfl, a, c, rfl, rfl, (sa2.ext x13).ins, (sc.ext x13).ins, a, c, l1, h1, l2, h2, rfl, sa2.ext x13, sc.ext x13, fun H14 e14 => ⟨_, rfl, (by show 6 ≤ 100; decide), fun l H15 nl e15 hl => ?_⟩⟩
    have y15 := e9.trans (e10.trans (e11.trans (e12.trans (e13.trans (e14.trans e15)))))
    have x15 := x8.trans y15
    refine ⟨l, _, _, rfl, hl, flat_bools [_, _, _, _, _, _], sh_bools _, (by show 6 ≤ 1000; decide), .ref d, rfl, d, _, _, rfl, y15 _ _ hd, flat_bools [_, _, _, _, _, _], sh_bools _, (by show 6 ≤ 1000; decide), rfl, _, rfl, iteNS rfl ?_⟩
    refine ⟨.int (max l1 l2), rfl, .int (min h1 h2), rfl, (by show 2 ≤ 100; decide), fun v1 H16 e16 hv1 => ?_⟩
    have x16 := x15.trans e16
    refine ⟨.ref t, rfl, v1, t, _, _, l1, h1, rfl, rfl, hv1, ht2.ext x16, .int (max l1 l2), rfl, .int (min h1 h2), rfl, (by show 2 ≤ 100; decide), fun v2 H17 e17 hv2 => ?_⟩
    have x17 := x16.trans e17
    refine ⟨.ref u, rfl, v2, u, _, _, l2, h2, rfl, rfl, hv2, hu2.ext x17, (by show 2 ≤ 100; decide), fun d2 H18 nd2 e18 hd2 => ?_⟩
    have x18 := x17.trans e18
    refine ⟨.ref a, rfl, a, l1, h1, rfl, sa2.ext x18, .ref c, rfl, a, c, l1, h1, l2, h2, rfl, sa2.ext x18, sc.ext x18, ?_⟩
    refine ⟨.ref c, rfl, c, l2, h2, rfl, sc.ext x18, .ref a, rfl, .ref a, rfl, c, a, l2, h2, l1, h1, rfl, sc.ext x18, sa2.ext x18, (by show 2 ≤ 100; decide), fun l3 H19 nl3 e19 hl3 => ?_⟩
    rw [win1 (l1 := l1), win2 (l1 := l1)] at hl3
    have x19 := x18.trans e19
    refine ⟨l3, _, _, rfl, hl3, flat_bools [_, _], sh_bools _, (by show 2 ≤ 1000; decide), .ref d2, rfl, d2, _, _, rfl, e19 _ _ hd2, flat_bools [_, _], sh_bools _, (by show 2 ≤ 1000; decide), rfl, _, rfl, iteNS rfl ?_⟩
    refine ⟨.ref a, rfl, .ref t, rfl, a, t, l1, h1, rfl, sa2.ext x19, ht2.ext x19, b1.bd, b2.bd, .of (by omega) (by omega), fun H20 e20 => ⟨true, rfl, iteT ?_⟩⟩
    have x20 := x19.trans e20
    refine ⟨.ref c, rfl, .ref u, rfl, c, u, l2, h2, rfl, sc.ext x20, hu2.ext x20, b3.bd, b4.bd, .of (by omega) (by omega), fun H21 e21 => ?_⟩
    exact q _ (x2.trans (x20.trans e21))
  · refine fun n H3 e3 hn => ?_
    refine ⟨.int (max l1 l2), rfl, .int (min h1 h2), rfl, _, _, rfl, rfl, _, rfl, ?_⟩
    rw [decide_eq_true (by omega)]
    refine iteT ⟨.ref n, rfl, n, _, [.str "apart", .str (tRep l1 h1), .str (tRep l2 h2), .bool true], rfl, hn, rfl, apart_sh b1.bd b2.bd b3.bd b4.bd, (by show 4 ≤ 1000; decide), ?_⟩
    refine ⟨.ref a, rfl, a, rfl, (sa2.ext e3).ins, a, l1, h1, rfl, sa2.ext e3, b1.bd, b2.bd, _, rfl, .ref c, rfl, c, rfl, (sc.ext e3).ins, c, l2, h2, rfl, sc.ext e3, b3.bd, b4.bd, _, rfl, (by show 4 ≤ 100; decide), fun n2 H4 nn2 e4 hn2 => ?_⟩
    refine ⟨n2, _, [.str "apart", .str (tRep l1 h1), .str (tRep l2 h2), .bool true], rfl, hn2, rfl, apart_sh b1.bd b2.bd b3.bd b4.bd, (by show 4 ≤ 1000; decide), rfl, _, rfl, ?_⟩
    rw [decide_eq_true rfl]
    refine iteF ?_
    refine ⟨.int (max l1 l2), rfl, .int (min h1 h2), rfl, _, _, rfl, rfl, _, rfl, ?_⟩
    rw [decide_eq_false z]
    refine iteF (iteF ?_)
    have x4 := e3.trans e4
    refine ⟨.ref a, rfl, .ref c, rfl, a, c, rfl, rfl, (sa2.ext x4).ins, (sc.ext x4).ins, a, c, l1, h1, l2, h2, rfl, sa2.ext x4, sc.ext x4, le1, fun a5 H5 e5 sa5 => ?_⟩
    refine ⟨.ref t, rfl, t, _, 0, .int l1, rfl, rfl, .of (ht2.ext (x4.trans e5)), rfl, .ref u, rfl, u, _, 0, .int l2, rfl, rfl, .of (hu2.ext (x4.trans e5)), rfl, l1, l2, rfl, .ref t, rfl, t, _, 1, .int h1, rfl, rfl, .of (ht2.ext (x4.trans e5)), rfl, .ref u, rfl, u, _, 1, .int h2, rfl, rfl, .of (hu2.ext (x4.trans e5)), rfl, h1, h2, rfl, (by show 2 ≤ 100; decide), fun v H6 e6 hv => ?_⟩
    rw [pymin, pymax] at hv
    refine ⟨a5, v, min l1 l2, max h1 h2, rfl, sa5.ext e6, hv, .of (by omega) (by omega), .of (by omega) (by omega), .of (by omega) (by omega), fun H7 e7 => ⟨true, rfl, iteF ?_⟩⟩
    have x7 := x4.trans (e5.trans (e6.trans e7))
    have ht7 := ht2.ext x7
    have hu7 := hu2.ext x7
    refine ⟨.ref t, rfl, .ref u, rfl, t, u, l1, h1, l2, h2, rfl, rfl, ht7, hu7, .ref t, rfl, .ref u, rfl, t, u, l1, h1, l2, h2, rfl, rfl, ht7, hu7, .ref t, rfl, .ref u, rfl, t, u, l1, h1, l2, h2, rfl, rfl, ht7, hu7, .ref t, rfl, .ref u, rfl, t, u, l1, h1, l2, h2, rfl, rfl, ht7, hu7, .ref t, rfl, .ref u, rfl, t, u, l1, h1, l2, h2, rfl, rfl, ht7, hu7, .ref t, rfl, .ref u, rfl, t, u, l1, h1, l2, h2, rfl, rfl, ht7, hu7, (by show 6 ≤ 100; decide), fun d H8 nd e8 hd => ?_⟩
    have x8 := x7.trans e8
    refine ⟨.ref a, rfl, .ref c, rfl, a, c, rfl, rfl, (sa2.ext x8).ins, (sc.ext x8).ins, a, c, l1, h1, l2, h2, rfl, sa2.ext x8, sc.ext x8, fun H9 e9 => ?_⟩
    have x9 := x8.trans e9
    refine ⟨.ref a, rfl, .ref c, rfl, a, c, rfl, rfl, (sa2.ext x9).ins, (sc.ext x9).ins, a, c, l1, h1, l2, h2, rfl, sa2.ext x9, sc.ext x9, fun H10 e10 => ?_⟩
    have x10 := x9.trans e10
    refine ⟨.ref a, rfl, .ref c, rfl, a, c, rfl, rfl, (sa2.ext x10).ins, (sc.ext x10).ins, a, c, l1, h1, l2, h2, rfl, sa2.ext x10, sc.ext x10, fun H11 e11 => ?_⟩
    have x11 := x10.trans e11
    refine ⟨.ref a, rfl, .ref c, rfl, a, c, rfl, rfl, (sa2.ext x11).ins, (sc.ext x11).ins, a, c, l1, h1, l2, h2, rfl, sa2.ext x11, sc.ext x11, fun H12 e12 => ?_⟩
    have x12 := x11.trans e12
    refine ⟨.ref a, rfl, .ref c, rfl, a, c, rfl, rfl, (sa2.ext x12).ins, (sc.ext x12).ins, a, c, l1, h1, l2, h2, rfl, sa2.ext x12, sc.ext x12, fun H13 e13 => ?_⟩
    have x13 := x12.trans e13
    refine ⟨.ref a, rfl, .ref c, rfl, a, c, rfl, rfl, (sa2.ext x13).ins, (sc.ext x13).ins, a, c, l1, h1, l2, h2, rfl, sa2.ext x13, sc.ext x13, fun H14 e14 => ⟨_, rfl, (by show 6 ≤ 100; decide), fun l H15 nl e15 hl => ?_⟩⟩
    have y15 := e9.trans (e10.trans (e11.trans (e12.trans (e13.trans (e14.trans e15)))))
    have x15 := x8.trans y15
    refine ⟨l, _, _, rfl, hl, flat_bools [_, _, _, _, _, _], sh_bools _, (by show 6 ≤ 1000; decide), .ref d, rfl, d, _, _, rfl, y15 _ _ hd, flat_bools [_, _, _, _, _, _], sh_bools _, (by show 6 ≤ 1000; decide), rfl, _, rfl, iteNS rfl ?_⟩
    refine ⟨.int (max l1 l2), rfl, .int (min h1 h2), rfl, (by show 2 ≤ 100; decide), fun v1 H16 e16 hv1 => ?_⟩
    have x16 := x15.trans e16
    refine ⟨.ref t, rfl, v1, t, _, _, l1, h1, rfl, rfl, hv1, ht2.ext x16, .int (max l1 l2), rfl, .int (min h1 h2), rfl, (by show 2 ≤ 100; decide), fun v2 H17 e17 hv2 => ?_⟩
    have x17 := x16.trans e17
    refine ⟨.ref u, rfl, v2, u, _, _, l2, h2, rfl, rfl, hv2, hu2.ext x17, (by show 2 ≤ 100; decide), fun d2 H18 nd2 e18 hd2 => ?_⟩
    have x18 := x17.trans e18
    refine ⟨.ref a, rfl, a, l1, h1, rfl, sa2.ext x18, .ref c, rfl, a, c, l1, h1, l2, h2, rfl, sa2.ext x18, sc.ext x18, ?_⟩
    refine ⟨.ref c, rfl, c, l2, h2, rfl, sc.ext x18, .ref a, rfl, .ref a, rfl, c, a, l2, h2, l1, h1, rfl, sc.ext x18, sa2.ext x18, (by show 2 ≤ 100; decide), fun l3 H19 nl3 e19 hl3 => ?_⟩
    rw [win1 (l1 := l1), win2 (l1 := l1)] at hl3
    have x19 := x18.trans e19
    refine ⟨l3, _, _, rfl, hl3, flat_bools [_, _], sh_bools _, (by show 2 ≤ 1000; decide), .ref d2, rfl, d2, _, _, rfl, e19 _ _ hd2, flat_bools [_, _], sh_bools _, (by show 2 ≤ 1000; decide), rfl, _, rfl, iteNS rfl ?_⟩
    refine ⟨.ref a, rfl, .ref t, rfl, a, t, l1, h1, rfl, sa2.ext x19, ht2.ext x19, b1.bd, b2.bd, .of (by omega) (by omega), fun H20 e20 => ⟨true, rfl, iteT ?_⟩⟩
    have x20 := x19.trans e20
    refine ⟨.ref c, rfl, .ref u, rfl, c, u, l2, h2, rfl, sc.ext x20, hu2.ext x20, b3.bd, b4.bd, .of (by omega) (by omega), fun H21 e21 => ?_⟩
    exact q _ (x2.trans (x20.trans e21))
end
end Ab

namespace Ab
open PySem PySem.Spec PyProof.Rows L2

/-! ### min and max of a tuple of ints -/
def IsMin (m : Int) (ns : List Int) : Prop := m ∈ ns ∧ ∀ y ∈ ns, m ≤ y
def IsMax (m : Int) (ns : List Int) : Prop := m ∈ ns ∧ ∀ y ∈ ns, y ≤ m
theorem IsMin.one {m k : Int} {ns : List Int} (h : IsMin m ns) (h' : IsMin k ns) : m = k := Int.le_antisymm (h.2 k h'.1) (h'.2 m h.1)
theorem IsMax.one {m k : Int} {ns : List Int} (h : IsMax m ns) (h' : IsMax k ns) : m = k := Int.le_antisymm (h'.2 m h.1) (h.2 k h'.1)
theorem fold_min : ∀ (ns : List Int) (n : Int), IsMin (ns.foldl min n) (n :: ns)
  | [], n => ⟨List.Mem.head _, fun y hy => by rw [List.mem_singleton.mp hy]; exact Int.le_refl _⟩
  | k :: r, n => by
    obtain ⟨h1, h2⟩ := fold_min r (min n k)
    rw [List.foldl_cons]
    refine ⟨?_, fun y hy => ?_⟩
    · rcases List.mem_cons.mp h1 with e | e
      · rw [e]
        by_cases z : n ≤ k
        · rw [Int.min_eq_left z]; exact List.Mem.head _
        · rw [Int.min_eq_right (by omega)]; exact List.Mem.tail _ (List.Mem.head _)
      · exact List.Mem.tail _ (List.Mem.tail _ e)
    · have m0 := h2 (min n k) (List.Mem.head _)
      rcases List.mem_cons.mp hy with rfl | hy
      · omega
      · rcases List.mem_cons.mp hy with rfl | hy
        · omega
        · exact h2 y (List.Mem.tail _ hy)
theorem fold_max : ∀ (ns : List Int) (n : Int), IsMax (ns.foldl max n) (n :: ns)
  | [], n => ⟨List.Mem.head _, fun y hy => by rw [List.mem_singleton.mp hy]; exact Int.le_refl _⟩
  | k :: r, n => by
    obtain ⟨h1, h2⟩ := fold_max r (max n k)
    rw [List.foldl_cons]
    refine ⟨?_, fun y hy => ?_⟩
    · rcases List.mem_cons.mp h1 with e | e
      · rw [e]
        by_cases z : n ≤ k
        · rw [Int.max_eq_right z]; exact List.Mem.tail _ (List.Mem.head _)
        · rw [Int.max_eq_left (by omega)]; exact List.Mem.head _
      · exact List.Mem.tail _ (List.Mem.tail _ e)
    · have m0 := h2 (max n k) (List.Mem.head _)
      rcases List.mem_cons.mp hy with rfl | hy
      · omega
      · rcases List.mem_cons.mp hy with rfl | hy
        · omega
        · exact h2 y (List.Mem.tail _ hy)
theorem reads_ints {h : Heap} : ∀ {ns : List Int} {us : List Value}, Vals (ns.map V.int) us → ReadsAll h us (ns.map PyData.int) []
  | [], _, .nil => .nil
  | n :: r, _, .cons ⟨t, e⟩ q => by
    subst e
    exact .cons (as := []) (bs := []) (.int n t) (reads_ints q)
theorem alike_ints (ns : List Int) : PySem.W.AlikeAll (ns.map PyData.int) := by
  refine ⟨fun x hx y hy => ?_, fun x hx => ?_⟩
  · obtain ⟨a, _, rfl⟩ := List.mem_map.mp hx
    obtain ⟨b, _, rfl⟩ := List.mem_map.mp hy
    rfl
  · obtain ⟨a, _, rfl⟩ := List.mem_map.mp hx
    exact fun z => nomatch z
theorem depth_ints : ∀ ns : List Int, PyData.depthAll (ns.map PyData.int) = 0
  | [] => rfl
  | n :: r => by
    rw [List.map_cons, PyData.depthAll, depth_ints r]
    rfl
def rMinT : List V → Hp → VK → Prop := fun vs H Q => ∃ (a : Addr) (ns : List Int), vs = [.ref a] ∧ H a = some (.tup (ns.map V.int)) ∧ ns ≠ [] ∧ ∀ m, IsMin m ns → Q (.int m) H
def rMaxT : List V → Hp → VK → Prop := fun vs H Q => ∃ (a : Addr) (ns : List Int), vs = [.ref a] ∧ H a = some (.tup (ns.map V.int)) ∧ ns ≠ [] ∧ ∀ m, IsMax m ns → Q (.int m) H
section
variable {X : Cx} {k : Nat}
theorem reads_int_inv {h : Heap} {v : Value} {i : Int} {bs : List Addr} (r : Reads h v (.int i) bs) : ∃ t, v = .int i t := by
  cases r
  exact ⟨_, rfl⟩
theorem call_minT (hc : X.calm = true) (hr : Room k X.A) : CallR X (.builtin "min") rMinT := by
  intro pins s σ H vs us Q I r ⟨a, ns, e, ea, ne, q⟩
  subst e
  obtain ⟨u, rfl, ru⟩ := vals1 r
  cases (show u = Value.ref a from ru)
  obtain ⟨_, its, rv, hT⟩ := I.hok a _ ea
  cases ns with
  | nil => exact absurd rfl ne
  | cons n r =>
    have hR : ReadsAll s.heap its.toArray.toList (PyData.int n :: r.map PyData.int) [] := by simpa using reads_ints (h := s.heap) rv
    refine PySem.W.min_tuple_data (I.ok.hd hc) hT hR (alike_ints (n :: r)) (by have := hr.units; rw [show (PyData.int n :: r.map PyData.int) = (n :: r).map PyData.int from rfl, depth_ints]; omega) fun i v h' tk bs _ rd hk => ?_
    rw [PySem.W.minD_ints] at rd
    obtain ⟨t, rfl⟩ := reads_int_inv rd
    exact ⟨.int _, H, I.kept hk, ⟨t, rfl⟩, q _ (fold_min r n)⟩
theorem call_maxT (hc : X.calm = true) (hr : Room k X.A) : CallR X (.builtin "max") rMaxT := by
  intro pins s σ H vs us Q I r ⟨a, ns, e, ea, ne, q⟩
  subst e
  obtain ⟨u, rfl, ru⟩ := vals1 r
  cases (show u = Value.ref a from ru)
  obtain ⟨_, its, rv, hT⟩ := I.hok a _ ea
  cases ns with
  | nil => exact absurd rfl ne
  | cons n r =>
    have hR : ReadsAll s.heap its.toArray.toList (PyData.int n :: r.map PyData.int) [] := by simpa using reads_ints (h := s.heap) rv
    refine PySem.W.max_tuple_data (I.ok.hd hc) hT hR (alike_ints (n :: r)) (by have := hr.units; rw [show (PyData.int n :: r.map PyData.int) = (n :: r).map PyData.int from rfl, depth_ints]; omega) fun i v h' tk bs _ rd hk => ?_
    rw [PySem.W.maxD_ints] at rd
    obtain ⟨t, rfl⟩ := reads_int_inv rd
    exact ⟨.int _, H, I.kept hk, ⟨t, rfl⟩, q _ (fold_max r n)⟩
end

/-! ### Span.around, a static method -/
structure CSt (K : PySem.W.Frag) (C : Addr) (m : Str) (p g : Addr) : Prop where
  rd : ClX.CRead K C (.type "type")
  at_ : PySem.W.findCls K (.ref C) (.type "type") m = some (.get (.builtin "staticmethod.__get__") (.ref p) .none (.ref C))
  rc : ∃ rest, PySem.W.recIn K p "staticmethod" = some (.ref g :: rest)
  kp : PySem.W.keepIn K (.ref g) = true
section
variable {X : Cx} {C p g : Addr} {k : Nat} {sp : Sp} {o e : Expr} {es : List Expr} {m : Str} {pos apos : Pos} {ta : TE} {t : TA} {pl : Sem Bool}
def tSm (C : Addr) (sp : Sp) (ta : TE) (t : TA) : TE := fun σ H Q => ta σ H fun x H1 => x = .ref C ∧ t σ H1 fun vs H2 => sp vs H2 Q E0
theorem pe_smeth (he : PE X o ta) (c : CSt X.K C m p g) (F : FnR X.prog X.w X.K X.mg X.base CX0 k g sp) (hr : Room k X.A) (ha : PA X (e :: es) t)
    (hst : starEach (e :: es) X.env = (false, eval e X.env) :: starEach es X.env := by rfl) (hpl : (backTo pos (starEach es X.env)).any (·.1) = false := by rfl)
    (ht : eval (.Call (.Attribute o m apos) (e :: es) [] pos) X.env = (do
      let ov ← eval o X.env
      standAt apos.atName
      let (f, first) ← holding [ov] (getMethod ov m pl)
      callWith pos f first (backTo pos (starEach (e :: es) X.env)) (backToKw pos (keywordEach [] X.env))) := by rfl) : PE X (.Call (.Attribute o m apos) (e :: es) [] pos) (tSm C sp ta t) := by
  refine ⟨fun pins s σ H Q I h => ?_⟩
  refine PySem.W.methodCall_KW (pl := pl) (thn (he.run pins s σ H _ I h) fun u s1 hh => ?_) ht
  obtain ⟨x, H1, I1, rx, ex, q⟩ := hh
  subst ex
  obtain rfl : u = Value.ref C := rx
  obtain ⟨rest, hp⟩ := c.rc
  refine PySem.W.method_cls I1.kIn c.rd.ga (PySem.W.cls_bind I1.kIn c.rd.rd c.at_ (wpAny_call (PySem.W.sm_get (s := { s1 with toks := s1.toks + 1 }) I1.kIn hp (PySem.W.handed_on rfl ?_))))
  have I2 : Inv X pins σ H1 { s1 with toks := s1.toks + 1 } := I1.tok _
  refine PySem.W.callWith_K (first := []) (h₀ := X.base) I.ok.mod.kin c.kp (thn (ha.run pos pins _ σ H1 _ I2 q) fun us s2 hh => ?_) hst hpl
  obtain ⟨vs, H2, I3, r, q2⟩ := hh
  exact ⟨I3.kIn, call_any F hr rfl at0 I3 r q2⟩
end
section
variable {P : Program} {w : World} {K : PySem.W.Frag} {mg : Str → Option Value} {base : Heap} {C : Addr}
def spAround (C : Addr) : Sp := fun vs H Q _ => ∃ ns : List Int, vs = ns.map V.int ∧ ns ≠ [] ∧ ns.length ≤ 100 ∧ ∀ lo hi, IsMin lo ns → IsMax hi ns → NewSpan C H lo hi Q
theorem sc1 : FnScope ["numbers", "number"] (([] : List Str) ++ (["numbers"] : List Str)) (defScope (sp' 1)) := ⟨rfl, rfl, rfl, by decide +kernel, rfl, by decide +kernel, by decide +kernel⟩
theorem ok_around {f g fI : Addr} {fd fdI : FuncData} (F : Fun K "around" "Span.around" (sp' 1) f fd) (T : Txt K mg C) (G : Got K mg "want_level" g) (GF : FnR P w K mg base CX0 2 g spWantLevel) (m : Maker P w K mg base C fI fdI) : FnR P w K mg base CX0 5 f (spAround C) := by
  obtain ⟨oc, od, kV, doc, pm, an, cdv, ct, osl, rfl, lk, hcd⟩ := F.ex
  refine (StX.fn_star (P := P) (w := w) (mg := mg) (base := base) (CX := CX0) (k := 4) (N := ["numbers", "number"]) (ps := []) (pv := "numbers") (sp := fun vs H Q E => ∃ (p : Addr) (ns : List Int), vs = [.ref p] ∧ H p = some (.tup (ns.map V.int)) ∧ ns ≠ [] ∧ ns.length ≤ 100 ∧ ∀ lo hi, IsMin lo ns → IsMax hi ns → NewSpan C H lo hi Q) lk hcd sc1 StX.cxUp_none ?_ ?_).imp ?_
  · intro us rest hl
    match us, hl, rest with
    | [], _, [] => rfl
    | [], _, _ :: _ => rfl
  · rintro A outer s H vs Q E hr ⟨p, ns, rfl, hp, ne, hl, q⟩
    refine ⟨_, PSs.nox (pss_cons (ps_for PassesOwn.never rfl (pi_tup (pv 0)) (pg_name (i := 1) sc1.nd rfl (Or.inl rfl)) (pss_one (ps_expr (pe_to G GF (hr.mono (by decide)) (pa_cons (pv 1) pa_nil)))))
      (pss_cons (ps_if (pt_cmpR op_eq (pe_callB call_len rfl T.b_len rfl (pa_cons (pv 0) pa_nil)) pe_int (nomark _)) (pss_one ps_never) pss_nil)
      (pss_one (ps_ret (pe_span T m hr (pa_cons (pe_callB (call_minT rfl hr) rfl T.b_min rfl (pa_cons (pv 0) pa_nil)) (pa_cons (pe_callB (call_maxT rfl hr) rfl T.b_max rfl (pa_cons (pv 0) pa_nil)) pa_nil))))))), ?_⟩
    refine ⟨.ref p, rfl, p, rfl, ⟨_, .of hp⟩, for_tup (K := K) (a := p) (xs := ns.map V.int) (fun i σ H' => H' = H ∧ ∃ v : Option V, σ = [some (.ref p), v]) ⟨rfl, none, rfl⟩ (fun i σ H' _ ⟨e, _⟩ => .of (by rw [e]; exact hp)) ?_ ?_⟩
    · rintro i y σ H' hy ⟨rfl, v, rfl⟩
      obtain ⟨z, _, rfl⟩ := map_get hy
      exact ⟨.int z, rfl, z, rfl, rfl, _, rfl⟩
    · rintro σ H' ⟨rfl, v, rfl⟩
      refine ⟨.ref p, rfl, .ref p, ns.length, rfl, .inr ⟨_, .of hp, by rw [List.length_map]⟩, rfl, _, rfl, ?_⟩
      have nz : ¬ V.int ((ns.length : Nat) : Int) = V.int 0 := fun e => by
        have e' : ((ns.length : Nat) : Int) = 0 := V.int.inj e
        exact ne (List.eq_nil_of_length_eq_zero (by omega))
      rw [decide_eq_false nz]
      refine iteF ⟨.ref p, rfl, p, ns, rfl, hp, ne, fun lo hlo => ⟨.ref p, rfl, p, ns, rfl, hp, ne, fun hi hhi => ⟨lo, hi, rfl, hhi.2 lo hlo.1, q lo hi hlo hhi⟩⟩⟩
  · rintro vs H Q E ⟨ns, rfl, ne, hl, q⟩
    refine ⟨[], ns.map V.int, rfl, rfl, slN (by rw [List.length_map]; omega), fun p hp => ⟨p, ns, rfl, upd_same, ne, hl, fun lo hi h1 h2 => (q lo hi h1 h2).ext (lay_ext hp)⟩⟩
end
end Ab

namespace Ab
open PySem PySem.Spec PyProof.Rows L2

section
variable {P : Program} {w : World} {K : PySem.W.Frag} {mg : Str → Option Value} {base : Heap} {C : Addr}
abbrev sAr : Stmt := top 26
abbrev nAr : List Str := ["_law_pot_here", "_law_base", "_law_some", "_law_turn", "_law_told", "_law_made_here", "_law_k"]
theorem scAr : FnScope nAr ["_law_pot_here", "_law_base"] (defScope sAr) := ⟨rfl, rfl, rfl, by decide +kernel, rfl, by decide +kernel, by decide +kernel⟩
def spAr : Sp := fun vs H Q _ => ∃ (p : Addr) (c : Int), vs = [.ref p, .int c] ∧ PotOk H p ∧ -10 ^ 39 < c ∧ c < 10 ^ 39 ∧ ∀ H', ExtB p H H' → Q (.bl true) H'
/-- a span of the first i numbers -/
def Firsts (C : Addr) (H : Hp) (ns : List Int) (i : Nat) (a : Addr) : Prop := ∃ lo hi, SpanAt C H a lo hi ∧ IsMin lo (ns.take (i + 1)) ∧ IsMax hi (ns.take (i + 1))
theorem Firsts.ext {H H' : Hp} {ns : List Int} {i : Nat} {a : Addr} (h : Firsts C H ns i a) (e : Ext H H') : Firsts C H' ns i a := by
  obtain ⟨lo, hi, s, r⟩ := h
  exact ⟨lo, hi, s.ext e, r⟩
theorem cut_ints (ns : List Int) (i : Nat) (h : i + 1 ≤ ns.length) : cutV (ns.map V.int) none (some ((i : Int) + 1)) = (ns.take (i + 1)).map V.int := by
  have e : (((i : Int) + 1) : Int) = ((i + 1 : Nat) : Int) := by omega
  unfold cutV
  rw [e, List.map_take]
  have h1 : HT.sIx (ns.map V.int).length 0 none = 0 := rfl
  have h2 : HT.sIx (ns.map V.int).length (ns.map V.int).length (some ((i + 1 : Nat) : Int)) = i + 1 := by
    unfold HT.sIx
    rw [List.length_map]
    simp
    split <;> omega
  rw [h1, h2, List.drop_zero, Nat.sub_zero]
theorem lc_yes {te : TE} {σ : L2.St} {H : Hp} {R : VK} {S : Hp → Prop} (h : te σ H R) : tYes σ H fun b H3 => if b = true then te σ H3 R else S H3 := by
  show (if true = true then te σ H R else S H)
  rw [if_pos rfl]
  exact h
theorem lim_all {c : Int} {ns : List Int} (h1 : -10 ^ 39 < c) (h2 : c < 10 ^ 39) (h : ∀ x ∈ ns, c - 4 ≤ x ∧ x ≤ c + 4) : ∀ x ∈ ns, Lim x := fun x hx => by
  have := h x hx
  exact ⟨by omega, by omega⟩
theorem IsMin.rev {m : Int} {ns : List Int} (h : IsMin m ns) : IsMin m ns.reverse := ⟨List.mem_reverse.mpr h.1, fun y hy => h.2 y (List.mem_reverse.mp hy)⟩
theorem IsMax.rev {m : Int} {ns : List Int} (h : IsMax m ns) : IsMax m ns.reverse := ⟨List.mem_reverse.mpr h.1, fun y hy => h.2 y (List.mem_reverse.mp hy)⟩
theorem seven {ns : List Int} (h : ns.length = 7) : ∃ x0 x1 x2 x3 x4 x5 x6, ns = [x0, x1, x2, x3, x4, x5, x6] := by
  match ns, h with
  | [x0, x1, x2, x3, x4, x5, x6], _ => exact ⟨x0, x1, x2, x3, x4, x5, x6, rfl⟩
theorem ok_ar {f g1 g2 g3 p3 : Addr} {fd : FuncData} (F : Fun K "_law_around_right" "_law_around_right" sAr f fd) (b : Binds K fd ["_law_pot_here", "_law_base"] []) (T : Txt K mg C)
    (G_draw : Got K mg "_law_draw" g1) (F_draw : FnR P w K mg base CX0 1 g1 spDraw) (G_is : Got K mg "_law_is" g2) (F_is : FnG P w K mg base CX0 4 g2 (spIs C)) (cSt : CSt K C "around" p3 g3) (F_around : FnR P w K mg base CX0 5 g3 (spAround C)) : FnG P w K mg base CX0 6 f spAr := by
  refine okG F b scAr (fun vs H Q E ⟨p, c, e, _⟩ => by rw [e]; rfl) (fun cdv A outer s H vs Q E hgs hr ⟨p, c, e, hP, c1, c2, q⟩ => ?_)
  subst e
  refine ⟨_, (pss_cons (ps_setLc (i := 2) (own := [("_law_turn", 3)]) (g := gName 3) (tt := tYes) rfl scAr.nd rfl rfl (sw_true rfl rfl rfl (by decide +kernel)) (pi_range1 rfl T.b_range (pa_cons pe_int pa_nil)) (blkOk_by (N := nAr) (sc := defScope sAr) (by decide +kernel)) (fun _ _ _ _ _ => pg_name (i := 3) scAr.nd rfl (Or.inl rfl)) (fun _ _ _ _ _ => pts_nil) (fun _ _ _ _ _ => pe_op op_sub (pe_op op_add (pv 1) (pe_to G_draw F_draw (hr.mono (by decide)) (pa_cons (pv 0) (pa_cons pe_int pa_nil)))) pe_int))
      (pss_cons (ps_set (i := 4) scAr.nd rfl (Or.inl rfl) (pe_lstN (pa_cons (pe_smeth (pe_glob rfl T.mgC (v := .ref C) rfl) cSt F_around hr (pa_cons (pe_ix ix_list (pv 2) pe_int (fun _ _ => rfl)) pa_nil)) (pa_cons (pe_smeth (pe_glob rfl T.mgC (v := .ref C) rfl) cSt F_around hr (pa_cons (pe_ix ix_list (pv 2) pe_int (fun _ _ => rfl)) (pa_cons (pe_ix ix_list (pv 2) pe_int (fun _ _ => rfl)) pa_nil))) (pa_cons (pe_smeth (pe_glob rfl T.mgC (v := .ref C) rfl) cSt F_around hr (pa_cons (pe_ix ix_list (pv 2) pe_int (fun _ _ => rfl)) (pa_cons (pe_ix ix_list (pv 2) pe_int (fun _ _ => rfl)) (pa_cons (pe_ix ix_list (pv 2) pe_int (fun _ _ => rfl)) pa_nil)))) pa_nil)))))
      (pss_cons (ps_expr (pe_bm PySem.F.plainAttrs_list PySem.F.slot_list_append PySem.F.type_list_append mt_append (pv 4) (pa_cons (pe_smeth (pe_glob rfl T.mgC (v := .ref C) rfl) cSt F_around hr (pa_cons (pe_ix ix_list (pv 2) pe_int (fun _ _ => rfl)) (pa_cons (pe_ix ix_list (pv 2) pe_int (fun _ _ => rfl)) (pa_cons (pe_ix ix_list (pv 2) pe_int (fun _ _ => rfl)) (pa_cons (pe_ix ix_list (pv 2) pe_int (fun _ _ => rfl)) pa_nil))))) pa_nil)))
      (pss_cons (ps_set (i := 5) scAr.nd rfl (Or.inl rfl) (pe_smeth (pe_glob rfl T.mgC (v := .ref C) rfl) cSt F_around hr (pa_cons (pe_ix ix_list (pv 2) pe_int (fun _ _ => rfl)) (pa_cons (pe_ix ix_list (pv 2) pe_int (fun _ _ => rfl)) (pa_cons (pe_ix ix_list (pv 2) pe_int (fun _ _ => rfl)) (pa_cons (pe_ix ix_list (pv 2) pe_int (fun _ _ => rfl)) (pa_cons (pe_ix ix_list (pv 2) pe_int (fun _ _ => rfl)) (pa_cons (pe_ix ix_list (pv 2) pe_int (fun _ _ => rfl)) (pa_cons (pe_ix ix_list (pv 2) pe_int (fun _ _ => rfl)) pa_nil)))))))))
      (pss_cons (ps_if (pt_not (pt_val (pe_toG G_is F_is hgs (hr.mono (by decide)) (pa_cons (pv 5) (pa_cons (pe_tupN (pa_cons (pe_callB (cr_min rfl) rfl T.b_min rfl (pa_cons (pv 2) pa_nil)) (pa_cons (pe_callB (cr_max rfl) rfl T.b_max rfl (pa_cons (pv 2) pa_nil)) pa_nil))) pa_nil))))) (pss_one (ps_ret pe_bl)) pss_nil)
      (pss_cons (ps_for PassesOwn.never rfl (pi_enum rfl T.b_enumerate (pa_cons (pv 4) pa_nil)) (pg_tup rfl (pgs_cons (pg_name (i := 6) scAr.nd rfl (Or.inl rfl)) (pgs_cons (pg_name (i := 5) scAr.nd rfl (Or.inl rfl)) pgs_nil))) (pss_one (ps_if (pt_not (pt_val (pe_toG G_is F_is hgs (hr.mono (by decide)) (pa_cons (pv 5) (pa_cons (pe_tupN (pa_cons (pe_callB (cr_min rfl) rfl T.b_min rfl (pa_cons (pe_slice sl_list (pv 2) po_none (po_some (pe_op op_add (pv 6) pe_int))) pa_nil)) (pa_cons (pe_callB (cr_max rfl) rfl T.b_max rfl (pa_cons (pe_slice sl_list (pv 2) po_none (po_some (pe_op op_add (pv 6) pe_int))) pa_nil)) pa_nil))) pa_nil))))) (pss_one (ps_ret pe_bl)) pss_nil)))
      (pss_one (ps_ret pe_bl)))))))), ?_⟩
  refine ⟨7, rfl, by decide, by decide, fun D hD => lc_range (lo := 0) (n := (7 : Int).toNat) (fun i H' => PotOk H' p ∧ ExtB p H H' ∧ ∃ ns : List Int, H' D = some (.lst (ns.map V.int)) ∧ ns.length = i ∧ ∀ x ∈ ns, c - 4 ≤ x ∧ x ≤ c + 4)
    ⟨hP.ext (lay_ext hD), .of (lay_ext hD), [], upd_same, rfl, fun x hx => nomatch hx⟩ (fun i H1 hi hv => ?_) (fun H1 hv => ?_)⟩
  · obtain ⟨P1, X1, ns, hD1, hl, hb⟩ := hv
    have pD : D ≠ p := by
      obtain ⟨p0, p1, hp, _⟩ := id hP
      exact (ne_of_none hp hD).symm
    refine ⟨rfl, lc_yes ?_⟩
    refine ⟨.int c, rfl, .ref p, rfl, p, 9, rfl, by decide, by decide, P1, fun d H2 d0 d1 P2 e2 => ⟨c, d, rfl, rfl, _, 4, rfl, rfl, ns.map V.int, e2 _ _ pD hD1, slN (by rw [List.length_map, hl]; have : i < 7 := hi; omega), ?_, ?_, ns ++ [c + d - 4], ?_, ?_, ?_⟩⟩
    · obtain ⟨p0, p1, hp, r⟩ := P2
      exact ⟨p0, p1, (upd_ne pD.symm).trans hp, r⟩
    · intro b o nb h
      rw [upd_ne (ne_of_none h hD)]
      exact (X1.trans e2) b o nb h
    · rw [upd_same, List.map_append]
      rfl
    · rw [List.length_append, hl]
      rfl
    · intro x hx
      rcases List.mem_append.mp hx with h | h
      · exact hb x h
      · rw [List.mem_singleton.mp h]
        omega
  · obtain ⟨P1, X1, ns, hD1, hl7, hb⟩ := hv
    have hlim := lim_all c1 c2 hb
    obtain ⟨x0, x1, x2, x3, x4, x5, x6, rfl⟩ := seven (ns := ns) hl7
    -- D is the list of the numbers
    refine ⟨rfl, .ref D, rfl, D, _, 0, .int x0, rfl, rfl, .of hD1, rfl, [x0], rfl, (by simp), (by simp), fun lo1 hi1 m1 M1 => fun a1 H2 e2 s1 => ?_⟩
    have l2 := e2 _ _ hD1
    refine ⟨rfl, .ref D, rfl, D, _, 0, .int x0, rfl, rfl, .of l2, rfl, .ref D, rfl, D, _, 1, .int x1, rfl, rfl, .of l2, rfl, [x0, x1], rfl, (by simp), (by simp), fun lo2 hi2 m2 M2 => fun a2 H3 e3 s2 => ?_⟩
    have l3 := e3 _ _ l2
    refine ⟨rfl, .ref D, rfl, D, _, 0, .int x0, rfl, rfl, .of l3, rfl, .ref D, rfl, D, _, 1, .int x1, rfl, rfl, .of l3, rfl, .ref D, rfl, D, _, 2, .int x2, rfl, rfl, .of l3, rfl, [x0, x1, x2], rfl, (by simp), (by simp), fun lo3 hi3 m3 M3 => fun a3 H4 e4 s3 => ?_⟩
    have l4 := e4 _ _ l3
    refine ⟨(by show 3 ≤ 100; decide), fun t H5 nt e5 ht => ?_⟩
    have l5 := e5 _ _ l4
    have tD : D ≠ t := ne_of_none l4 nt
    refine ⟨.ref t, rfl, .inl ⟨rfl, _, .of ht⟩, rfl, .ref D, rfl, D, _, 0, .int x0, rfl, rfl, .of l5, rfl, .ref D, rfl, D, _, 1, .int x1, rfl, rfl, .of l5, rfl, .ref D, rfl, D, _, 2, .int x2, rfl, rfl, .of l5, rfl, .ref D, rfl, D, _, 3, .int x3, rfl, rfl, .of l5, rfl, [x0, x1, x2, x3], rfl, (by simp), (by simp), fun lo4 hi4 m4 M4 => fun a4 H6 e6 s4 => ?_⟩
    have l6 := e6 _ _ l5
    refine ⟨t, _, _, rfl, rfl, e6 _ _ ht, (by show 3 < sizeLine; decide), ?_⟩
    -- behind the append
    generalize hH7 : upd H6 t (.lst ([.ref a1, .ref a2, .ref a3] ++ [.ref a4])) = H7
    have xB : ExtB t H6 H7 := by rw [← hH7]; exact upd_extB
    have X4 : ExtB p H H4 := X1.trans (.of (e2.trans (e3.trans e4)))
    have X7 : ExtB p H H7 := fun b o nb h => xB b o (ne_of_none (X4 b o nb h) nt) ((e5.trans e6) _ _ (X4 b o nb h))
    have t7 : H7 t = some (.lst [.ref a1, .ref a2, .ref a3, .ref a4]) := by rw [← hH7]; exact upd_same
    have l7 := xB _ _ tD l6
    have spB : ∀ {a lo hi}, SpanAt C H6 a lo hi → SpanAt C H7 a lo hi := fun {a lo hi} h => by
      obtain ⟨dx, h⟩ := h
      exact ⟨dx, xB _ _ (ne_of h (e6 _ _ ht) fun q => by cases q) h⟩
    have f1 := spB (s1.ext (e3.trans (e4.trans (e5.trans e6))))
    have f2 := spB (s2.ext (e4.trans (e5.trans e6)))
    have f3 := spB (s3.ext (e5.trans e6))
    have f4 := spB s4
    refine ⟨rfl, .ref D, rfl, D, _, 6, .int x6, rfl, rfl, .of l7, rfl, .ref D, rfl, D, _, 5, .int x5, rfl, rfl, .of l7, rfl, .ref D, rfl, D, _, 4, .int x4, rfl, rfl, .of l7, rfl, .ref D, rfl, D, _, 3, .int x3, rfl, rfl, .of l7, rfl, .ref D, rfl, D, _, 2, .int x2, rfl, rfl, .of l7, rfl, .ref D, rfl, D, _, 1, .int x1, rfl, rfl, .of l7, rfl, .ref D, rfl, D, _, 0, .int x0, rfl, rfl, .of l7, rfl, [x6, x5, x4, x3, x2, x1, x0], rfl, (by simp), (by simp), fun lo7 hi7 m7 M7 => fun a7 H8 e8 s7 => ?_⟩
    have l8 := e8 _ _ l7
    refine ⟨.ref a7, rfl, .ref D, rfl, D, [x0, x1, x2, x3, x4, x5, x6], rfl, .of l8, Nat.zero_lt_succ _, fun mn hmn hmn2 => ?_⟩
    refine ⟨.ref D, rfl, D, [x0, x1, x2, x3, x4, x5, x6], rfl, .of l8, Nat.zero_lt_succ _, fun mx hmx hmx2 => ?_⟩
    have em : lo7 = mn := IsMin.one m7.rev ⟨hmn, hmn2⟩
    have eM : hi7 = mx := IsMax.one M7.rev ⟨hmx, hmx2⟩
    subst em eM
    have L1 := hlim _ hmn
    have L2 := hlim _ hmx
    have k1 := L1.1
    have k2 := L1.2
    have k3 := L2.1
    have k4 := L2.2
    refine ⟨(by show 2 ≤ 100; decide), fun v H9 e9 hv => ?_⟩
    refine ⟨a7, v, lo7, hi7, rfl, s7.ext e9, hv, L1.bd, L2.bd, .of (by omega) (by omega), fun H10 e10 => ⟨true, rfl, iteF ?_⟩⟩
    have x10 := e8.trans (e9.trans e10)
    have t10 := x10 _ _ t7
    have l10 := x10 _ _ l7
    have firsts : ∀ (i : Nat) (a : V), ([.ref a1, .ref a2, .ref a3, .ref a4] : List V)[i]? = some a → i < 4 ∧ ∃ z, a = .ref z ∧ Firsts C H10 [x0, x1, x2, x3, x4, x5, x6] i z := fun i a h => by
      match i, h with
      | 0, h => cases h; exact ⟨by decide, _, rfl, _, _, f1.ext x10, m1, M1⟩
      | 1, h => cases h; exact ⟨by decide, _, rfl, _, _, f2.ext x10, m2, M2⟩
      | 2, h => cases h; exact ⟨by decide, _, rfl, _, _, f3.ext x10, m3, M3⟩
      | 3, h => cases h; exact ⟨by decide, _, rfl, _, _, f4.ext x10, m4, M4⟩
      | n + 4, h => cases h
    refine ⟨.ref t, rfl, t, _, rfl, .of t10, for_it (walk_enum (K := K) (a := t) (xs := [.ref a1, .ref a2, .ref a3, .ref a4])) (fun _ σ H' => Ext H10 H' ∧ ∃ v3 v5 v6 : Option V, σ = [some (.ref p), some (.int c), some (.ref D), v3, some (.ref t), v5, v6])
      ⟨Ext.rfl', none, _, none, rfl⟩ (fun i σ H' _ hv => .of (hv.1 _ _ t10)) ?_ ?_⟩
    · rintro i x σ H' H'' hi ⟨x', v3, v5, v6, rfl⟩ ⟨T', y1, y2, rfl, nT, rfl, ey1, ey2⟩
      cases (Option.some.inj ey1)
      obtain ⟨hi4, z, rfl, lo, hi', sz, mz, Mz⟩ := firsts i y2 ey2
      have xT := x'.trans (lay_ext (o := .tup [.int (i : Nat), .ref z]) nT)
      have lT := xT _ _ l10
      have cut := cut_ints [x0, x1, x2, x3, x4, x5, x6] i (by show i + 1 ≤ 7; omega)
      refine ⟨T', _, rfl, .of upd_same, rfl, _, _, rfl, _, _, rfl, rfl, ?_⟩
      refine ⟨.ref z, rfl, .ref D, rfl, .int (i : Nat), rfl, i, 1, rfl, rfl, _, rfl, D, _, rfl, .of lT, fun q1 nq1 => ?_⟩
      have x1' := lay_ext (o := .lst (cutV ([x0, x1, x2, x3, x4, x5, x6].map V.int) none (some ((i : Int) + 1)))) nq1
      refine ⟨q1, [x0, x1, x2, x3, x4, x5, x6].take (i + 1), rfl, .of (upd_same.trans (by rw [cut])), (by rw [List.length_take]; show 0 < min (i + 1) 7; omega), fun mn' h1 h2 => ?_⟩
      refine ⟨.ref D, rfl, .int (i : Nat), rfl, i, 1, rfl, rfl, _, rfl, D, _, rfl, .of (x1' _ _ lT), fun q2 nq2 => ?_⟩
      have x2' := lay_ext (o := .lst (cutV ([x0, x1, x2, x3, x4, x5, x6].map V.int) none (some ((i : Int) + 1)))) nq2
      refine ⟨q2, [x0, x1, x2, x3, x4, x5, x6].take (i + 1), rfl, .of (upd_same.trans (by rw [cut])), (by rw [List.length_take]; show 0 < min (i + 1) 7; omega), fun mx' h3 h4 => ?_⟩
      have em : lo = mn' := IsMin.one mz ⟨h1, h2⟩
      have eM : hi' = mx' := IsMax.one Mz ⟨h3, h4⟩
      subst em eM
      have La := hlim _ (List.mem_of_mem_take h1)
      have Lb := hlim _ (List.mem_of_mem_take h3)
      have k1 := La.1
      have k2 := La.2
      have k3 := Lb.1
      have k4 := Lb.2
      refine ⟨(by show 2 ≤ 100; decide), fun v' H9' e9' hv' => ?_⟩
      have xA := xT.trans (x1'.trans (x2'.trans e9'))
      refine ⟨z, v', lo, hi', rfl, sz.ext xA, hv', La.bd, Lb.bd, .of (by omega) (by omega), fun H12 e12 => ⟨true, rfl, iteF ?_⟩⟩
      exact ⟨xA.trans e12, v3, _, _, rfl⟩
    · rintro σ H' ⟨x', v3, v5, v6, rfl⟩
      exact q H' (X7.trans (.of (x10.trans x')))
end
end Ab

namespace Ab
open PySem PySem.Spec PyProof.Rows L2

section
variable {P : Program} {w : World} {K : PySem.W.Frag} {mg : Str → Option Value} {base : Heap} {C : Addr}
abbrev sSt : Stmt := top 27
abbrev nSt : List Str := ["_law_pot_here", "_law_made_here", "_law_bounds_here", "_law_way", "_law_least", "_law_most", "_law_more", "_law_moved", "_law_by", "_law_near"]
theorem scSt : FnScope nSt ["_law_pot_here", "_law_made_here", "_law_bounds_here"] (defScope sSt) := ⟨rfl, rfl, rfl, by decide +kernel, rfl, by decide +kernel, by decide +kernel⟩
/-- a span and the pair of its ends, both within B -/
def Both (C : Addr) (H : Hp) (a t : Addr) (B : Int) : Prop := ∃ lo hi, SpanAt C H a lo hi ∧ PairAt H t lo hi ∧ lo ≤ hi ∧ -B ≤ lo ∧ hi ≤ B
theorem Both.ext {H H' : Hp} {a t : Addr} {B : Int} (h : Both C H a t B) (e : Ext H H') : Both C H' a t B := by
  obtain ⟨lo, hi, s, p, r⟩ := h
  exact ⟨lo, hi, s.ext e, p.ext e, r⟩
def spStep (C : Addr) : Sp := fun vs H Q _ => ∃ (p a t : Addr) (B : Int), vs = [.ref p, .ref a, .ref t] ∧ PotOk H p ∧ Both C H a t B ∧ ∀ r a' t' H', H' r = some (.tup [.ref a', .ref t']) → Both C H' a' t' (B + 10 ^ 26) → PotOk H' p → ExtB p H H' → Q (.ref r) H'
theorem ok_step {f g1 g2 g3 g4 gA cA : Addr} {fd : FuncData} (F : Fun K "_law_step" "_law_step" sSt f fd) (b : Binds K fd ["_law_pot_here", "_law_made_here", "_law_bounds_here"] []) (T : Txt K mg C) (O : Ops K C)
    (G_draw : Got K mg "_law_draw" g1) (F_draw : FnR P w K mg base CX0 1 g1 spDraw) (G_number : Got K mg "_law_number" g2) (F_number : FnR P w K mg base CX0 2 g2 spNumber) (G_bounds : Got K mg "_law_bounds" g3) (F_bounds : FnR P w K mg base CX0 2 g3 spBounds)
    (G_made : Got K mg "_law_made" g4) (F_made : FnR P w K mg base CX0 5 g4 (spMade C)) (mAdd : Own P w K mg base C "__add__" 5 (spAdd C)) (mRadd : Own P w K mg base C "__radd__" 5 (spAdd C)) (mSub : Own P w K mg base C "__sub__" 5 (spSub C))
    (mNeg : Own P w K mg base C "__neg__" 5 (spNeg C)) (mOr : Own P w K mg base C "__or__" 5 (spOr C)) (iA : PySem.W.findIn K (.ref C) "__and__" = some (some (.ref gA))) (nA : PySem.W.isFn K (.ref gA) = true) (FA : FnR P w K mg base (L2.CX P w) 5 gA (spAnd C cA)) :
    FnR P w K mg base CX0 6 f (spStep C) := by
  refine okR F b scSt (fun vs H Q E ⟨p, a, t, B, e, _⟩ => by rw [e]; rfl) (fun cdv A outer s H vs Q E hr ⟨p, a, t, B, e, hP, ⟨lo, hi, sa, ht, le, n1, n2⟩, q⟩ => ?_)
  subst e
  refine ⟨_, (pss_cons (ps_asg (pe_tupN (pa_cons (pe_to G_draw F_draw (hr.mono (by decide)) (pa_cons (pv 0) (pa_cons pe_int pa_nil))) (pa_cons (pv 2) pa_nil))) (pg_tup rfl (pgs_cons (pg_name (i := 3) scSt.nd rfl (Or.inl rfl)) (pgs_cons (pg_tup rfl (pgs_cons (pg_name (i := 4) scSt.nd rfl (Or.inl rfl)) (pgs_cons (pg_name (i := 5) scSt.nd rfl (Or.inl rfl)) pgs_nil))) pgs_nil))))
      (pss_cons (ps_if (pt_cmpR op_eq (pv 3) pe_int (nomark _)) (pss_one (ps_ret (pe_tupN (pa_cons (pe_un (oNeg mNeg hr) (pv 1)) (pa_cons (pe_tupN (pa_cons (pe_op op_sub pe_int (pv 5)) (pa_cons (pe_op op_sub pe_int (pv 4)) pa_nil))) pa_nil))))) pss_nil)
      (pss_cons (ps_if (pt_cmpR op_lt (pv 3) pe_int (nomark _)) (pss_cons (ps_set (i := 6) scSt.nd rfl (Or.inl rfl) (pe_to G_number F_number (hr.mono (by decide)) (pa_cons (pv 0) pa_nil)))
      (pss_cons (ps_set (i := 7) scSt.nd rfl (Or.inl rfl) (pe_ix ix_list (pe_lstN (pa_cons (pe_op (oAdd O mAdd mRadd hr) (pv 1) (pv 6)) (pa_cons (pe_op (oRadd O mAdd mRadd hr) (pv 6) (pv 1)) (pa_cons (pe_op (oSub O mSub hr) (pv 1) (pv 6)) pa_nil)))) (pe_op op_sub (pv 3) pe_int) (fun _ _ => rfl)))
      (pss_cons (ps_set (i := 8) scSt.nd rfl (Or.inl rfl) (pe_ifExp (pt_cmpR op_eq (pv 3) pe_int (nomark _)) (pe_op op_sub pe_int (pv 6)) (pv 6)))
      (pss_one (ps_ret (pe_tupN (pa_cons (pv 7) (pa_cons (pe_tupN (pa_cons (pe_op op_add (pv 4) (pv 8)) (pa_cons (pe_op op_add (pv 5) (pv 8)) pa_nil))) pa_nil)))))))) pss_nil)
      (pss_cons (ps_set (i := 9) scSt.nd rfl (Or.inl rfl) (pe_to G_bounds F_bounds (hr.mono (by decide)) (pa_cons (pv 0) (pa_cons (pv 4) pa_nil))))
      (pss_cons (ps_if (pt_cmpR op_eq (pv 3) pe_int (nomark _)) (pss_one (ps_ret (pe_tupN (pa_cons (oOr O mOr hr (pv 1) (pe_to G_made F_made hr (pa_cons (pv 9) pa_nil))) (pa_cons (pe_tupN (pa_cons (pe_callB (call_min2 rfl) rfl T.b_min rfl (pa_cons (pv 4) (pa_cons (pe_ix ix_tup (pv 9) pe_int (fun _ _ => rfl)) pa_nil))) (pa_cons (pe_callB (call_max2 rfl) rfl T.b_max rfl (pa_cons (pv 5) (pa_cons (pe_ix ix_tup (pv 9) pe_int (fun _ _ => rfl)) pa_nil))) pa_nil))) pa_nil))))) pss_nil)
      (pss_cons (ps_if (pt_cmpR op_gt (pe_callB (call_max2 rfl) rfl T.b_max rfl (pa_cons (pv 4) (pa_cons (pe_ix ix_tup (pv 9) pe_int (fun _ _ => rfl)) pa_nil))) (pe_callB (call_min2 rfl) rfl T.b_min rfl (pa_cons (pv 5) (pa_cons (pe_ix ix_tup (pv 9) pe_int (fun _ _ => rfl)) pa_nil))) (nomark _)) (pss_one (ps_ret (pe_tupN (pa_cons (pv 1) (pa_cons (pv 2) pa_nil))))) pss_nil)
      (pss_one (ps_ret (pe_tupN (pa_cons (pe_binO (Eσ := fun _ => E0) O.sf (by rw [d_and]; exact iA) nA FA hr (fun σ => passL') (pv 1) (pe_to G_made F_made hr (pa_cons (pv 9) pa_nil))) (pa_cons (pe_tupN (pa_cons (pe_callB (call_max2 rfl) rfl T.b_max rfl (pa_cons (pv 4) (pa_cons (pe_ix ix_tup (pv 9) pe_int (fun _ _ => rfl)) pa_nil))) (pa_cons (pe_callB (call_min2 rfl) rfl T.b_min rfl (pa_cons (pv 5) (pa_cons (pe_ix ix_tup (pv 9) pe_int (fun _ _ => rfl)) pa_nil))) pa_nil))) pa_nil))))))))))), ?_⟩
  refine ⟨.ref p, rfl, p, 6, rfl, by decide, by decide, hP, fun way H1 w0 w1 P1 e1 => ?_⟩
  have sa1 := sa.extB hP e1
  have ht1 := ht.extB hP e1
  refine ⟨.ref t, rfl, (by show 2 ≤ 100; decide), fun u H2 e2 hu => ?_⟩
  have sa2 := sa1.ext e2
  have ht2 := ht1.ext e2
  have P2 := P1.ext e2
  have x2 : ExtB p H H2 := e1.trans (.of e2)
  refine ⟨u, _, rfl, .of hu, rfl, _, _, rfl, _, _, rfl, t, _, rfl, .of ht2, rfl, _, _, rfl, _, _, rfl, rfl, rfl, ?_⟩
  refine ⟨.int way, rfl, rfl, _, rfl, ?_⟩
  by_cases z0 : way = 0
  · subst z0
    rw [decide_eq_true rfl]
    refine iteT ⟨.ref a, rfl, a, rfl, sa2.ins, a, lo, hi, rfl, sa2, le, fun b1 H3 e3 s3 => ?_⟩
    refine ⟨.int hi, rfl, 0, hi, rfl, rfl, .int lo, rfl, 0, lo, rfl, rfl, (by show 2 ≤ 100; decide), fun v H4 e4 hv => ⟨(by show 2 ≤ 100; decide), fun r H5 e5 hr5 => ?_⟩⟩
    have m1 : -hi = 0 - hi := by omega
    have m2 : -lo = 0 - lo := by omega
    rw [m1, m2] at s3
    exact q r b1 v H5 hr5 ⟨0 - hi, 0 - lo, s3.ext (e4.trans e5), (show PairAt H4 v (0 - hi) (0 - lo) from hv).ext e5, by omega, by omega, by omega⟩ (P2.ext (e3.trans (e4.trans e5))) (x2.trans (.of (e3.trans (e4.trans e5))))
  have d0 : decide (V.int way = V.int 0) = false := decide_eq_false fun e => z0 (V.int.inj e)
  rw [d0]
  refine iteF ⟨.int way, rfl, way, 4, rfl, rfl, _, rfl, ?_⟩
  by_cases z4 : way < 4
  · rw [decide_eq_true z4]
    refine iteT ⟨.ref p, rfl, p, rfl, P2, fun n H3 b1 b2 P3 e3 => ?_⟩
    have sa3 := sa2.extB P2 e3
    refine ⟨.ref a, rfl, .int n, rfl, a, n, rfl, rfl, sa3.ins, a, lo, hi, n, rfl, sa3, le, fun c1 H4 e4 s1 => ?_⟩
    refine ⟨.int n, rfl, .ref a, rfl, a, n, rfl, rfl, (sa3.ext e4).ins, a, lo, hi, n, rfl, sa3.ext e4, le, fun c2 H5 e5 s2 => ?_⟩
    refine ⟨.ref a, rfl, .int n, rfl, a, n, rfl, rfl, (sa3.ext (e4.trans e5)).ins, a, lo, hi, n, rfl, sa3.ext (e4.trans e5), le, fun c3 H6 e6 s3 => ?_⟩
    refine ⟨(by show 3 ≤ 100; decide), fun l H7 nl e7 hl => ?_⟩
    have x7 := e4.trans (e5.trans (e6.trans e7))
    have y1 := s1.ext (e5.trans (e6.trans e7))
    have y2 := s2.ext (e6.trans e7)
    have y3 := s3.ext e7
    have P7 := P3.ext x7
    have X7 : ExtB p H H7 := x2.trans (e3.trans (.of x7))
    have fin : ∀ (c : Addr) (by' : Int) (v r : Addr) (H8 H9 : Hp), SpanAt C H7 c (lo + by') (hi + by') → -10 ^ 26 < by' → by' < 10 ^ 26 → Ext H7 H8 → H8 v = some (.tup [.int (lo + by'), .int (hi + by')]) → Ext H8 H9 → H9 r = some (.tup [.ref c, .ref v]) → Q (.ref r) H9 :=
      fun c by' v r H8 H9 sc k1 k2 e8 hv e9 hr9 => q r c v H9 hr9 ⟨lo + by', hi + by', sc.ext (e8.trans e9), (show PairAt H8 v _ _ from hv).ext e9, by omega, by omega, by omega⟩ (P7.ext (e8.trans e9)) (X7.trans (.of (e8.trans e9)))
    have ws : way = 1 ∨ way = 2 ∨ way = 3 := by omega
    rcases ws with rfl | rfl | rfl
    · refine ⟨.int 1, rfl, 1, 1, rfl, rfl, l, _, _, .ref c1, rfl, rfl, .of hl, rfl, .int 1, rfl, rfl, _, rfl, ?_⟩
      refine iteF ⟨.int n, rfl, .ref c1, rfl, .int lo, rfl, .int n, rfl, lo, n, rfl, rfl, .int hi, rfl, .int n, rfl, hi, n, rfl, rfl, (by show 2 ≤ 100; decide), fun v H8 e8 hv => ⟨(by show 2 ≤ 100; decide), fun r H9 e9 hr9 => ?_⟩⟩
      exact fin c1 n v r H8 H9 y1 b1 b2 e8 hv e9 hr9
    · refine ⟨.int 2, rfl, 2, 1, rfl, rfl, l, _, _, .ref c2, rfl, rfl, .of hl, rfl, .int 2, rfl, rfl, _, rfl, ?_⟩
      refine iteF ⟨.int n, rfl, .ref c2, rfl, .int lo, rfl, .int n, rfl, lo, n, rfl, rfl, .int hi, rfl, .int n, rfl, hi, n, rfl, rfl, (by show 2 ≤ 100; decide), fun v H8 e8 hv => ⟨(by show 2 ≤ 100; decide), fun r H9 e9 hr9 => ?_⟩⟩
      exact fin c2 n v r H8 H9 y2 b1 b2 e8 hv e9 hr9
    · have m1 : lo - n = lo + (0 - n) := by omega
      have m2 : hi - n = hi + (0 - n) := by omega
      rw [m1, m2] at y3
      refine ⟨.int 3, rfl, 3, 1, rfl, rfl, l, _, _, .ref c3, rfl, rfl, .of hl, rfl, .int 3, rfl, rfl, _, rfl, ?_⟩
      refine iteT ⟨.int n, rfl, 0, n, rfl, rfl, .ref c3, rfl, .int lo, rfl, .int (0 - n), rfl, lo, 0 - n, rfl, rfl, .int hi, rfl, .int (0 - n), rfl, hi, 0 - n, rfl, rfl, (by show 2 ≤ 100; decide), fun v H8 e8 hv => ⟨(by show 2 ≤ 100; decide), fun r H9 e9 hr9 => ?_⟩⟩
      exact fin c3 (0 - n) v r H8 H9 y3 (by omega) (by omega) e8 hv e9 hr9
  rw [decide_eq_false z4]
  refine iteF ⟨.ref p, rfl, .int lo, rfl, p, lo, rfl, P2, fun nr l2 h2 H3 le2 k1 k2 hn P3 e3 => ?_⟩
  have sa3 := sa2.extB P2 e3
  have ht3 := ht2.extB P2 e3
  have x3 : ExtB p H H3 := x2.trans e3
  refine ⟨.int way, rfl, rfl, _, rfl, ?_⟩
  by_cases z5 : way = 4
  · subst z5
    rw [decide_eq_true rfl]
    refine iteT ⟨.ref a, rfl, .ref nr, rfl, nr, l2, h2, rfl, hn, le2, fun c H4 e4 sc => ?_⟩
    refine ⟨a, c, rfl, rfl, (sa3.ext e4).ins, sc.ins, a, c, lo, hi, l2, h2, rfl, sa3.ext e4, sc, le, fun d H5 e5 sd => ?_⟩
    have hn5 := hn.ext (e4.trans e5)
    refine ⟨.int lo, rfl, .ref nr, rfl, nr, _, 0, .int l2, rfl, rfl, .of hn5, rfl, lo, l2, rfl, .int hi, rfl, .ref nr, rfl, nr, _, 1, .int h2, rfl, rfl, .of hn5, rfl, hi, h2, rfl, (by show 2 ≤ 100; decide), fun v H6 e6 hv => ⟨(by show 2 ≤ 100; decide), fun r H7 e7 hr7 => ?_⟩⟩
    rw [pymin, pymax] at hv
    have x7 := e4.trans (e5.trans (e6.trans e7))
    exact q r d v H7 hr7 ⟨min lo l2, max hi h2, sd.ext (e6.trans e7), (show PairAt H6 v _ _ from hv).ext e7, by omega, by omega, by omega⟩ (P3.ext x7) (x3.trans (.of x7))
  have d5 : decide (V.int way = V.int 4) = false := decide_eq_false fun e => z5 (V.int.inj e)
  rw [d5]
  refine iteF ⟨.int lo, rfl, .ref nr, rfl, nr, _, 0, .int l2, rfl, rfl, .of hn, rfl, lo, l2, rfl, .int hi, rfl, .ref nr, rfl, nr, _, 1, .int h2, rfl, rfl, .of hn, rfl, hi, h2, rfl, _, _, rfl, rfl, _, rfl, ?_⟩
  rw [pymin, pymax]
  by_cases z6 : min hi h2 < max lo l2
  · rw [decide_eq_true z6]
    refine iteT ⟨.ref a, rfl, .ref t, rfl, (by show 2 ≤ 100; decide), fun r H4 e4 hr4 => ?_⟩
    exact q r a t H4 hr4 ⟨lo, hi, sa3.ext e4, ht3.ext e4, le, by omega, by omega⟩ (P3.ext e4) (x3.trans (.of e4))
  · rw [decide_eq_false z6]
    refine iteF ⟨.ref a, rfl, .ref nr, rfl, nr, l2, h2, rfl, hn, le2, fun c H4 e4 sc => ?_⟩
    refine ⟨a, c, rfl, rfl, (sa3.ext e4).ins, sc.ins, a, c, lo, hi, l2, h2, rfl, sa3.ext e4, sc, le, le2, fun _ => fun d H5 e5 sd => ?_, fun z => absurd (by omega) z⟩
    have hn5 := hn.ext (e4.trans e5)
    refine ⟨.int lo, rfl, .ref nr, rfl, nr, _, 0, .int l2, rfl, rfl, .of hn5, rfl, lo, l2, rfl, .int hi, rfl, .ref nr, rfl, nr, _, 1, .int h2, rfl, rfl, .of hn5, rfl, hi, h2, rfl, (by show 2 ≤ 100; decide), fun v H6 e6 hv => ⟨(by show 2 ≤ 100; decide), fun r H7 e7 hr7 => ?_⟩⟩
    rw [pymin, pymax] at hv
    have x7 := e4.trans (e5.trans (e6.trans e7))
    exact q r d v H7 hr7 ⟨max lo l2, min hi h2, sd.ext (e6.trans e7), (show PairAt H6 v _ _ from hv).ext e7, by omega, by omega, by omega⟩ (P3.ext x7) (x3.trans (.of x7))
end
end Ab

namespace Ab
open PySem PySem.Spec PyProof.Rows L2

/-- the reading of the base's line: a number, the pot as it may be behind it -/
def tBase : TE := fun σ H Q => ∃ p, σ[0]? = some (some (.ref p)) ∧ PotOk H p ∧ ∀ (c : Int) (H' : Hp), -10 ^ 26 < c → c < 10 ^ 26 → PotOk H' p → ExtB p H H' → Q (.int c) H'
theorem pe_base {X : Cx} {e : Expr} (h : PE X e (tIf (tTest (tOp rEq (tCallG spDraw E0 (tCons (tVar 0) (tCons (tC (.int 2)) tNil))) (tC (.int 0)))) (tCallG spNumber E0 (tCons (tVar 0) tNil)) (tC (.int 0)))) : PE X e tBase := by
  refine PE.imp h fun σ H Q hh => ?_
  obtain ⟨p, e0, hP, k⟩ := hh
  refine ⟨.ref p, e0, p, 2, rfl, by decide, by decide, hP, fun d H1 d0 d1 P1 e1 => ⟨rfl, _, rfl, ?_⟩⟩
  refine ite2 (fun _ => ?_) (fun _ => ?_)
  · exact ⟨.ref p, e0, p, rfl, P1, fun n H2 n1 n2 P2 e2 => k n H2 n1 n2 P2 (e1.trans e2)⟩
  · exact k 0 H1 (by decide) (by decide) P1 e1

section
variable {P : Program} {w : World} {K : PySem.W.Frag} {mg : Str → Option Value} {base : Heap} {C : Addr}
abbrev sRi : Stmt := top 28
abbrev nRi : List Str := ["_law_pot_here", "_law_base", "_law_some", "_law_turn", "_law_bounds_here", "_law_more", "_law_made_here", "_law_before", "_law_kept"]
theorem scRi : FnScope nRi ["_law_pot_here"] (defScope sRi) := ⟨rfl, rfl, rfl, by decide +kernel, rfl, by decide +kernel, by decide +kernel⟩
def spRi : Sp := fun vs H Q _ => ∃ p : Addr, vs = [.ref p] ∧ PotOk H p ∧ ∀ H', ExtB p H H' → Q (.bl true) H'
/-- a pair of ends near the base -/
def PairB (H : Hp) (t : Addr) : Prop := ∃ lo hi, PairAt H t lo hi ∧ lo ≤ hi ∧ -(2 * 10 ^ 26) ≤ lo ∧ hi ≤ 2 * 10 ^ 26
theorem PairB.ext {H H' : Hp} {t : Addr} (h : PairB H t) (e : Ext H H') : PairB H' t := by
  obtain ⟨lo, hi, p, r⟩ := h
  exact ⟨lo, hi, p.ext e, r⟩
theorem PairB.extB {H H' : Hp} {t p : Addr} (h : PairB H t) (P : PotOk H p) (e : ExtB p H H') : PairB H' t := by
  obtain ⟨lo, hi, h, r⟩ := h
  exact ⟨lo, hi, h.extB P e, r⟩
theorem Both.extB {H H' : Hp} {a t p : Addr} {B : Int} (h : Both C H a t B) (P : PotOk H p) (e : ExtB p H H') : Both C H' a t B := by
  obtain ⟨lo, hi, s, q, r⟩ := h
  exact ⟨lo, hi, s.extB P e, q.extB P e, r⟩
theorem all_true : ∀ n : Nat, (List.replicate n true).all id = true
  | 0 => rfl
  | n + 1 => by
    rw [List.replicate_succ, List.all_cons, all_true n]
    rfl
theorem ok_right {f g1 g2 g3 g4 g5 g6 g7 g8 g9 g10 : Addr} {fd : FuncData} (F : Fun K "_law_right" "_law_right" sRi f fd) (b : Binds K fd ["_law_pot_here"] []) (T : Txt K mg C)
    (G_draw : Got K mg "_law_draw" g1) (F_draw : FnR P w K mg base CX0 1 g1 spDraw) (G_number : Got K mg "_law_number" g2) (F_number : FnR P w K mg base CX0 2 g2 spNumber) (G_bounds : Got K mg "_law_bounds" g3) (F_bounds : FnR P w K mg base CX0 2 g3 spBounds)
    (G_made : Got K mg "_law_made" g4) (F_made : FnR P w K mg base CX0 5 g4 (spMade C)) (G_is : Got K mg "_law_is" g5) (F_is : FnG P w K mg base CX0 4 g5 (spIs C)) (G_with : Got K mg "_law_within_right" g6) (F_with : FnG P w K mg base CX0 6 g6 (spWith C))
    (G_moved : Got K mg "_law_moved_right" g7) (F_moved : FnG P w K mg base CX0 6 g7 (spMoved C)) (G_two : Got K mg "_law_two_right" g8) (F_two : FnG P w K mg base CX0 7 g8 (spTwo C)) (G_step : Got K mg "_law_step" g9) (F_step : FnR P w K mg base CX0 6 g9 (spStep C))
    (G_ar : Got K mg "_law_around_right" g10) (F_ar : FnG P w K mg base CX0 6 g10 spAr) : FnG P w K mg base CX0 8 f spRi := by
  refine okG F b scRi (fun vs H Q E ⟨p, e, _⟩ => by rw [e]; rfl) (fun cdv A outer s H vs Q E hgs hr ⟨p, e, hP, q⟩ => ?_)
  subst e
  refine ⟨_, (pss_cons (ps_set (i := 1) scRi.nd rfl (Or.inr rfl) (pe_base (pe_ifExp (pt_cmpR op_eq (pe_to G_draw F_draw (hr.mono (by decide)) (pa_cons (pv 0) (pa_cons pe_int pa_nil))) pe_int (nomark _)) (pe_to G_number F_number (hr.mono (by decide)) (pa_cons (pv 0) pa_nil)) pe_int)))
      (pss_cons (ps_setLc (i := 2) (own := [("_law_turn", 3)]) (g := gName 3) (tt := tYes) rfl scRi.nd rfl rfl (sw_true rfl rfl rfl (by decide +kernel)) (pi_range1 rfl T.b_range (pa_cons pe_int pa_nil)) (blkOk_by (N := nRi) (sc := defScope sRi) (by decide +kernel)) (fun _ _ _ _ _ => pg_name (i := 3) scRi.nd rfl (Or.inl rfl)) (fun _ _ _ _ _ => pts_nil) (fun _ _ _ _ _ => pe_to G_bounds F_bounds (hr.mono (by decide)) (pa_cons (pv 0) (pa_cons (pv 1) pa_nil))))
      (pss_cons (ps_for PassesOwn.never rfl (pi_list (pv 2)) (pg_name (i := 4) scRi.nd rfl (Or.inr rfl)) (pss_cons (ps_if (PW.pt (pw_or (pt_not (pt_val (pe_toG G_is F_is hgs (hr.mono (by decide)) (pa_cons (pe_to G_made F_made (hr.mono (by decide)) (pa_cons (pv 4) pa_nil)) (pa_cons (pv 4) pa_nil))))) (pw_or1 (pt_not (pt_val (pe_toG G_with F_with hgs (hr.mono (by decide)) (pa_cons (pv 4) pa_nil))))))) (pss_one (ps_ret pe_bl)) pss_nil)
      (pss_cons (ps_if (pt_not (pt_val (pe_toG G_moved F_moved hgs (hr.mono (by decide)) (pa_cons (pv 4) (pa_cons (pe_to G_number F_number (hr.mono (by decide)) (pa_cons (pv 0) pa_nil)) pa_nil))))) (pss_one (ps_ret pe_bl)) pss_nil)
      (pss_one (ps_if (pt_not (pt_val (pe_callB (cr_all rfl) rfl T.b_all rfl (pa_cons (pe_lc (own := [("_law_more", 5)]) (g := gName 5) (tt := tYes) rfl scRi.nd (pi_list (pv 2)) (blkOk_by (N := nRi) (sc := defScope sRi) (by decide +kernel)) (fun _ _ _ _ _ => pg_name (i := 5) scRi.nd rfl (Or.inl rfl)) (fun _ _ _ _ _ => pts_nil) (fun _ _ _ _ _ => pe_toG G_two F_two hgs (hr.mono (by decide)) (pa_cons (pv 4) (pa_cons (pv 5) pa_nil)))) pa_nil)))) (pss_one (ps_ret pe_bl)) pss_nil)))))
      (pss_cons (ps_asg (pe_tupN (pa_cons (pe_to G_made F_made (hr.mono (by decide)) (pa_cons (pe_ix ix_list (pv 2) pe_int (fun _ _ => rfl)) pa_nil)) (pa_cons (pe_ix ix_list (pv 2) pe_int (fun _ _ => rfl)) pa_nil))) (pg_tup rfl (pgs_cons (pg_name (i := 6) scRi.nd rfl (Or.inl rfl)) (pgs_cons (pg_name (i := 4) scRi.nd rfl (Or.inr rfl)) pgs_nil))))
      (pss_cons (ps_for PassesOwn.never rfl (pi_range1 rfl T.b_range (pa_cons pe_int pa_nil)) (pg_name (i := 3) scRi.nd rfl (Or.inl rfl)) (pss_cons (ps_par (i := 7) (j := 8) rfl scRi.nd rfl rfl (by decide) rfl rfl (pa_cons (pv 6) (pa_cons (pv 4) pa_nil)) (by rfl))
      (pss_cons (ps_asg (pe_to G_step F_step (hr.mono (by decide)) (pa_cons (pv 0) (pa_cons (pv 6) (pa_cons (pv 4) pa_nil)))) (pg_tup rfl (pgs_cons (pg_name (i := 6) scRi.nd rfl (Or.inl rfl)) (pgs_cons (pg_name (i := 4) scRi.nd rfl (Or.inr rfl)) pgs_nil))))
      (pss_one (ps_if (PW.pt (pw_or (pt_not (pt_val (pe_toG G_is F_is hgs (hr.mono (by decide)) (pa_cons (pv 6) (pa_cons (pv 4) pa_nil))))) (pw_or1 (pt_not (pt_val (pe_toG G_is F_is hgs (hr.mono (by decide)) (pa_cons (pv 7) (pa_cons (pv 8) pa_nil)))))))) (pss_one (ps_ret pe_bl)) pss_nil)))))
      (pss_one (ps_ret (pe_toG G_ar F_ar hgs (hr.mono (by decide)) (pa_cons (pv 0) (pa_cons (pv 1) pa_nil)))))))))), ?_⟩
  refine ⟨p, rfl, hP, fun c H1 c1 c2 P1 e1 => ?_⟩
  refine ⟨4, rfl, by decide, by decide, fun D hD => lc_range (lo := 0) (n := (4 : Int).toNat) (fun i H' => PotOk H' p ∧ ExtB p H H' ∧ ∃ ts : List Addr, H' D = some (.lst (ts.map V.ref)) ∧ ts.length = i ∧ ∀ t ∈ ts, PairB H' t)
    ⟨P1.ext (lay_ext hD), e1.trans (.of (lay_ext hD)), [], upd_same, rfl, fun x hx => nomatch hx⟩ (fun i H2 hi4 hv => ?_) (fun H2 hv => ?_)⟩
  · obtain ⟨P2, X2, ts, hD2, hl, hb⟩ := hv
    have pD : D ≠ p := by
      obtain ⟨p0, p1, hp, _⟩ := id P1
      exact (ne_of_none hp hD).symm
    refine ⟨rfl, lc_yes ?_⟩
    refine ⟨.ref p, rfl, .int c, rfl, p, c, rfl, P2, fun t lo hi H3 le k1 k2 ht P3 e3 => ⟨ts.map V.ref, e3 _ _ pD hD2, slN (by rw [List.length_map, hl]; have : i < 4 := hi4; omega), ?_, ?_, ts ++ [t], ?_, ?_, ?_⟩⟩
    · obtain ⟨p0, p1, hp, r⟩ := P3
      exact ⟨p0, p1, (upd_ne pD.symm).trans hp, r⟩
    · intro b o nb h
      have h1 := e1 b o nb h
      rw [upd_ne (ne_of_none h1 hD)]
      exact (X2.trans e3) b o nb h
    · rw [upd_same, List.map_append]
      rfl
    · rw [List.length_append, hl]
      rfl
    · intro x hx
      have hD3 := e3 _ _ pD hD2
      rcases List.mem_append.mp hx with h | h
      · obtain ⟨lo', hi', hx', r⟩ := (hb x h).extB P2 e3
        exact ⟨lo', hi', (upd_ne (ne_of hx' hD3 fun q => by cases q)).trans hx', r⟩
      · rw [List.mem_singleton.mp h]
        exact ⟨lo, hi, (upd_ne (ne_of ht hD3 fun q => by cases q)).trans ht, le, by omega, by omega⟩
  · obtain ⟨P2, X2, ts, hD2, hl4, hb⟩ := hv
    have pD : D ≠ p := by
      obtain ⟨p0, p1, hp, _⟩ := id P1
      exact (ne_of_none hp hD).symm
    refine ⟨.ref D, rfl, D, rfl, ⟨_, .of hD2⟩, for_list (K := K) (a := D) (xs := ts.map V.ref) (fun i σ H' => PotOk H' p ∧ ExtB p H H' ∧ H' D = some (.lst (ts.map V.ref)) ∧ (∀ t ∈ ts, PairB H' t) ∧ ∃ v3 v4 v5 v6 v7 v8 : Option V, σ = [some (.ref p), some (.int c), some (.ref D), v3, v4, v5, v6, v7, v8])
      ⟨P2, X2, hD2, hb, _, _, _, _, _, _, rfl⟩ (fun i σ H' _ hv => .of hv.2.2.1) ?_ ?_⟩
    · rintro i x σ H3 hx ⟨P3, X3, hD3, hb3, v3, v4, v5, v6, v7, v8, rfl⟩
      obtain ⟨t, ht, rfl⟩ := map_get hx
      have htm : t ∈ ts := List.mem_of_getElem? ht
      obtain ⟨lo, hi, h3, le, k1, k2⟩ := hb3 t htm
      have Ll : Lim lo := ⟨by omega, by omega⟩
      have Lh : Lim hi := ⟨by omega, by omega⟩
      refine ⟨.ref t, rfl, t, lo, hi, rfl, h3, le, fun a H4 e4 sa => ?_⟩
      refine ⟨.ref t, rfl, a, t, lo, hi, rfl, sa, h3.ext e4, Ll.bd, Lh.bd, .of (by omega) (by omega), fun H5 e5 => ⟨true, rfl, iteF ?_⟩⟩
      have x5 := e4.trans e5
      refine ⟨.ref t, rfl, t, lo, hi, rfl, h3.ext x5, le, Ll, Lh, fun H6 e6 => ⟨true, rfl, iteF ?_⟩⟩
      have x6 := x5.trans e6
      refine ⟨.ref t, rfl, .ref p, rfl, p, rfl, P3.ext x6, fun n H7 n1 n2 P7 e7 => ?_⟩
      have B7 : ExtB p H3 H7 := ExtB.trans (.of x6) e7
      refine ⟨t, lo, hi, n, rfl, h3.extB P3 B7, le, Ll, Lh, ⟨by omega, by omega⟩, fun H8 e8 => ⟨true, rfl, iteF ?_⟩⟩
      have B8 : ExtB p H3 H8 := B7.trans (.of e8)
      have P8 := P7.ext e8
      have hD8 := B8 _ _ pD hD3
      have hb8 : ∀ t ∈ ts, PairB H8 t := fun t ht => (hb3 t ht).extB P3 B8
      have h8 := h3.extB P3 B8
      refine ⟨.ref D, rfl, D, rfl, ⟨_, .of hD8⟩, fun D2 hD2' => lc_map (K := K) (a := D) (xs := ts.map V.ref) (ys := (List.replicate ts.length true).map V.bl) (k := 5) (by rw [List.length_map, List.length_map, List.length_replicate]) (by rw [List.length_map, hl4]; decide) hD8 hD2' (fun _ => rfl) (fun i x y H' R hx hy e hR => ?_) (fun H9 e9 hD9 => ?_)⟩
      · obtain ⟨u, hu, rfl⟩ := map_get hx
        obtain ⟨k, hk, rfl⟩ := map_get hy
        have hk' : k = true := List.eq_of_mem_replicate (List.mem_of_getElem? hk)
        subst hk'
        obtain ⟨l2, h2, hu2, le2, k3, k4⟩ := (hb8 u (List.mem_of_getElem? hu)).ext e
        exact ⟨.ref t, rfl, .ref u, rfl, t, u, lo, hi, l2, h2, rfl, h8.ext e, hu2, le, le2, Ll, Lh, ⟨by omega, by omega⟩, ⟨by omega, by omega⟩, fun H'' e'' => hR _ e''⟩
      · refine ⟨D2, List.replicate ts.length true, rfl, .of hD9, ?_⟩
        rw [all_true]
        refine ⟨true, rfl, iteF ?_⟩
        exact ⟨P8.ext e9, X3.trans (B8.trans (.of e9)), e9 _ _ hD8, fun t ht => (hb8 t ht).ext e9, _, _, _, _, _, _, rfl⟩
    · rintro σ H3 ⟨P3, X3, hD3, hb3, v3, v4, v5, v6, v7, v8, rfl⟩
      obtain ⟨t0, t1, t2, t3, rfl⟩ : ∃ t0 t1 t2 t3, ts = [t0, t1, t2, t3] := by
        match ts, hl4 with
        | [t0, t1, t2, t3], _ => exact ⟨t0, t1, t2, t3, rfl⟩
      obtain ⟨lo, hi, h3, le, k1, k2⟩ := hb3 t0 (List.Mem.head _)
      refine ⟨.ref D, rfl, D, _, 0, .ref t0, rfl, rfl, .of hD3, rfl, t0, lo, hi, rfl, h3, le, fun a H4 e4 sa => ?_⟩
      refine ⟨.ref D, rfl, D, _, 0, .ref t0, rfl, rfl, .of (e4 _ _ hD3), rfl, (by show 2 ≤ 100; decide), fun u H5 e5 hu => ?_⟩
      refine ⟨u, _, rfl, .of hu, rfl, _, _, rfl, _, _, rfl, rfl, ?_⟩
      have x5 := e4.trans e5
      refine ⟨10, rfl, by decide, by decide, for_range (lo := 0) (n := (10 : Int).toNat) (fun i σ H' => PotOk H' p ∧ ExtB p H H' ∧ ∃ (a t : Addr) (v2 v3 v5 v7 v8 : Option V), Both C H' a t (((i : Int) + 2) * 10 ^ 26) ∧ σ = [some (.ref p), some (.int c), v2, v3, some (.ref t), v5, some (.ref a), v7, v8])
        ⟨P3.ext x5, X3.trans (.of x5), a, t0, _, _, _, _, _, ⟨lo, hi, sa.ext e5, h3.ext x5, le, by omega, by omega⟩, rfl⟩ ?_ ?_⟩
      · rintro i σ H6 hi6 ⟨P6, X6, a6, t6, w2, w3, w5, w7, w8, B6, rfl⟩
        have hi10 : i < 10 := hi6
        refine ⟨.ref a6, rfl, .ref t6, rfl, .ref a6, .ref t6, rfl, ?_⟩
        refine ⟨.ref p, rfl, .ref a6, rfl, .ref t6, rfl, p, a6, t6, _, rfl, P6, B6, fun r a' t' H7 hr7 B7 P7 e7 => ?_⟩
        refine ⟨r, _, rfl, .of hr7, rfl, _, _, rfl, _, _, rfl, rfl, ?_⟩
        have B67 := B6.extB P6 e7
        obtain ⟨l7, h7, s7, q7, le7, m1, m2⟩ := id B7
        refine ⟨.ref a', rfl, .ref t', rfl, a', t', l7, h7, rfl, s7, q7, .of (by omega) (by omega), .of (by omega) (by omega), .of (by omega) (by omega), fun H8 e8 => ⟨true, rfl, iteF ?_⟩⟩
        obtain ⟨l6, h6, s6, q6, le6, m3, m4⟩ := B67.ext e8
        refine ⟨.ref a6, rfl, .ref t6, rfl, a6, t6, l6, h6, rfl, s6, q6, .of (by omega) (by omega), .of (by omega) (by omega), .of (by omega) (by omega), fun H9 e9 => ⟨true, rfl, iteF ?_⟩⟩
        refine ⟨P7.ext (e8.trans e9), X6.trans (e7.trans (.of (e8.trans e9))), a', t', _, _, _, _, _, ?_, rfl⟩
        obtain ⟨l9, h9, s9, q9, le9, m5, m6⟩ := B7.ext (e8.trans e9)
        exact ⟨l9, h9, s9, q9, le9, by omega, by omega⟩
      · rintro σ H6 ⟨P6, X6, a6, t6, w2, w3, w5, w7, w8, B6, rfl⟩
        exact ⟨.ref p, rfl, .int c, rfl, p, c, rfl, P6, by omega, by omega, fun H' e' => q H' (X6.trans e')⟩
end
end Ab

namespace Ab
open PySem PySem.Spec PyProof.Rows L2

section
variable {P : Program} {w : World} {K : PySem.W.Frag} {mg : Str → Option Value} {base : Heap} {C : Addr}
abbrev sLaw : Stmt := top 29
abbrev nLaw : List Str := ["_law_script", "_law_k"]
theorem scLaw : FnScope nLaw ["_law_script"] (defScope sLaw) := ⟨rfl, rfl, rfl, by decide +kernel, rfl, by decide +kernel, by decide +kernel⟩
def spLaw (K : PySem.W.Frag) : Sp := fun vs H Q _ => ∃ (a : Addr) (ns : List Int), vs = [.ref a] ∧ SqL K H a (ns.map V.int) ∧ ns.length ≤ 63 ∧ ∀ H', Q (.bl true) H'
theorem ok_law {f g1 g2 : Addr} {fd : FuncData} (F : Fun K "law" "law" sLaw f fd) (b : Binds K fd ["_law_script"] []) (T : Txt K mg C) (G_pot : Got K mg "_law_pot" g1) (F_pot : FnR P w K mg base CX0 1 g1 (spPot K)) (G_right : Got K mg "_law_right" g2) (F_right : FnG P w K mg base CX0 8 g2 spRi) :
    FnG P w K mg base CX0 9 f (spLaw K) := by
  refine okG F b scLaw (fun vs H Q E ⟨a, ns, e, _⟩ => by rw [e]; rfl) (fun cdv A outer s H vs Q E hgs hr ⟨a, ns, e, hS, hl, q⟩ => ?_)
  subst e
  refine ⟨_, (pss_one (ps_ret (pe_callB (cr_all rfl) rfl T.b_all rfl (pa_cons
    (pe_lc (own := [("_law_k", 1)]) (g := gName 1) (tt := tYes) rfl scLaw.nd (pi_range1 rfl T.b_range (pa_cons (pe_callB (call_max2 rfl) rfl T.b_max rfl (pa_cons pe_int (pa_cons (pe_callB (call_min2 rfl) rfl T.b_min rfl (pa_cons pe_int (pa_cons (pe_callB call_len rfl T.b_len rfl (pa_cons (pv 0) pa_nil)) pa_nil))) pa_nil))) pa_nil))
      (blkOk_by (N := nLaw) (sc := defScope sLaw) (by decide +kernel)) (fun _ _ _ _ _ => pg_name (i := 1) scLaw.nd rfl (Or.inl rfl)) (fun _ _ _ _ _ => pts_nil) (fun _ _ _ _ _ => pe_toG G_right F_right hgs hr (pa_cons (pe_to G_pot F_pot (hr.mono (by decide)) (pa_cons (pv 0) (pa_cons (pv 1) pa_nil))) pa_nil)))
    pa_nil)))), ?_⟩
  refine ⟨.ref a, rfl, .ref a, ns.length, rfl, .inl ⟨_, hS, by rw [List.length_map]⟩, 5, _, rfl, 1, _, rfl, _, rfl, ?_, ?_, ?_⟩
  · rw [pymin, pymax]; omega
  · rw [pymin, pymax]; omega
  · rw [pymin, pymax]
    refine fun D hD => lc_range (lo := 0) (n := (max 1 (min 5 ((ns.length : Nat) : Int))).toNat) (fun i H' => Ext H H' ∧ H' D = some (.lst ((List.replicate i true).map V.bl))) ⟨lay_ext hD, upd_same⟩ (fun i H1 hi hv => ?_) (fun H1 hv => ?_)
    · obtain ⟨x1, hD1⟩ := hv
      refine ⟨rfl, lc_yes ?_⟩
      refine ⟨.ref a, rfl, .int (0 + (i : Int)), rfl, a, ns, 0 + (i : Int), rfl, hS.ext x1, hl, by omega, by omega, fun p H2 np e2 P2 => ?_⟩
      refine ⟨p, rfl, P2, fun H3 X3 => ?_⟩
      have x3 : Ext H1 H3 := fun b o h => X3 b o (ne_of_none h np) (e2 b o h)
      refine ⟨_, x3 _ _ hD1, slN (by rw [List.length_map, List.length_replicate]; omega), ?_, ?_⟩
      · intro b o h
        rw [upd_ne (ne_of_none h hD)]
        exact x3 b o (x1 b o h)
      · rw [upd_same, List.replicate_succ', List.map_append]
        rfl
    · exact ⟨D, List.replicate _ true, rfl, .of hv.2, by rw [all_true]; exact q _⟩
end
end Ab

namespace Ab
open PySem PySem.Spec PyProof.Rows L2

/-! ### the end of the row, for a law that shows lists -/
/-- an abstract heap in which at most the script is told -/
structure Bare (K : PySem.W.Frag) (H : Hp) (h : Heap) (a : Addr) (ns : List Int) (vs : List Value) : Prop where
  one : ∀ c, H c = none ∨ (c = a ∧ ∃ o, H c = some (.frz o (.lst (ns.map V.int))))
  sq : SqL K H a (ns.map V.int)
  out : H a ≠ none → K.lookup a = none
theorem law_at {P : Program} {w : World} {K : PySem.W.Frag} {mg mb : Str → Option Value} {k : Nat} {fa a : Addr} {sp : Sp} {s : Shared} {vs : List Value} {ns : List Int} (hK : K.In s.heap) (hG : s.heap.Ns mainGlobals mg) (hB : s.heap.Ns builtinsNs mb) (hboot : ∀ x : Str, x ≠ "__name__" → mb x = bootBuiltins x)
    (hnl : s.heap.NoLimit) (hgen : s.gens = #[]) (hob : s.heap.get? a = some { cls := .type "list", data := .seq vs.toArray }) (hin : IntsAre vs ns) (hle : ns.length ≤ sizeLine) (hroom : Room k callerA)
    (F : ∀ base : Heap, K.In base → base.Ns mainGlobals mg → FnG P w K mg base CX0 k fa sp) (hsp : ∀ H : Hp, SqL K H a (ns.map V.int) → sp [.ref a] H (fun v _ => v = .bl true) E0) :
    codeAny (model P w) callerA (.call (.ref fa) ⟨[.ref a], []⟩) (fun r s' => r = .ok (.ret (.bool true)) ∧ OldK s.heap s'.heap ∧ s'.os = s.os ∧ AllBare s'.gens) s := by
  have hvals := vals_ints hin
  have hlen := hin.length
  have main : ∀ H : Hp, Bare K H s.heap a ns vs → HOk P w H s.heap → codeAny (model P w) callerA (.call (.ref fa) ⟨[.ref a], []⟩) (fun r s' => r = .ok (.ret (.bool true)) ∧ OldK s.heap s'.heap ∧ s'.os = s.os ∧ AllBare s'.gens) s := by
    intro H ⟨one, sq, out⟩ hok
    have atA : ∀ {c : Addr}, H c ≠ none → c = a := fun {c} n => (one c).elim (fun e => absurd e n) fun e => e.1
    have nsKept : ∀ {c : Addr} {m : Str → Option Value}, s.heap.Ns c m → (hidT s.heap H).Ns c m := by
      rintro c m ⟨o, es, ep, e, d, r⟩
      refine ⟨o, es, ep, hidT_get e ?_, d, r⟩
      rcases one c with z | ⟨rfl, _⟩
      · exact z
      · rw [hob] at e
        cases e
        cases d
    have inKept : K.In (hidT s.heap H) := fun c o e => by
      refine hidT_get (hK c o e) ?_
      rcases one c with z | ⟨rfl, u, z⟩
      · exact z
      · have q := out (by rw [z]; exact fun y => nomatch y)
        rw [q] at e
        cases e
    have gKept := nsKept hG
    have hm : Mod K mg (hidT s.heap H) := ⟨inKept, gKept, ⟨mb, nsKept hB, hboot⟩, by
      obtain ⟨mc, e1, e2⟩ := hnl
      exact ⟨mc, nsKept e1, e2⟩⟩
    have env : Env0 P w K mg (hidT s.heap H) callerA [] s H :=
      ⟨rfl, hm, fun c o e => of_hidT e, Nat.le_of_eq (hidT_size _ _), trivial, fun c hc => absurd (show c ∈ ([] : List Addr) from hc) List.not_mem_nil, hok, .of_eq hgen⟩
    refine codeAny_mono (F _ inKept gKept callerA [] s H [.ref a] [.ref a] _ _ rfl hroom env (.cons rfl .nil) (hsp H sq)) fun r s' z => ?_
    cases r with
    | error e => exact z.elim
    | ok fl =>
      cases fl with
      | next => exact False.elim z
      | brk => exact False.elim z
      | cont => exact False.elim z
      | ret u =>
        obtain ⟨v, H', eos, bare, un, hok', rv, ev⟩ := z
        cases (show v = V.bl true from ev)
        cases (show u = Value.bool true from rv)
        refine ⟨rfl, OldK.of_keep fun c o e => ?_, eos, bare⟩
        rcases one c with y | ⟨rfl, ob, y⟩
        · exact un.keep c o e y (fun q => absurd (show c ∈ ([] : List Addr) from q) List.not_mem_nil) (fun q => nomatch q)
        · have y2 := un.frzs c ob _ y
          have e1 := (hok c _ y).1
          have e2 := (hok' c _ y2).1
          rw [e] at e1
          cases e1
          exact e2
  cases hl : K.lookup a with
  | some o =>
    have e := hK a o hl
    rw [hob] at e
    cases e
    refine main (fun _ => none) ⟨fun _ => .inl rfl, ?_, fun z => absurd rfl z⟩ fun c u z => nomatch (show (none : Option HO) = some u from z)
    exact .inr ⟨_, vs.toArray, _, hl, rfl, rfl, rfl, by rw [List.size_toArray, hlen]; exact hle, by simpa using hvals⟩
  | none =>
    have eA : (fun c => if c = a then some (HO.frz { cls := .type "list", data := .seq vs.toArray } (.lst (ns.map V.int))) else none : Hp) a = some (.frz { cls := .type "list", data := .seq vs.toArray } (.lst (ns.map V.int))) := if_pos rfl
    refine main (fun c => if c = a then some (HO.frz { cls := .type "list", data := .seq vs.toArray } (.lst (ns.map V.int))) else none) ⟨fun c => ?_, .inl (.inr ⟨_, eA⟩), fun _ => hl⟩ fun c u z => ?_
    · by_cases hc : c = a
      · exact .inr ⟨hc, _, if_pos hc⟩
      · exact .inl (if_neg hc)
    · by_cases hc : c = a
      · cases (if_pos hc).symm.trans z
        subst hc
        exact ⟨hob, by rw [List.length_map]; exact hle, vs, _, hvals, hob⟩
      · cases (if_neg hc).symm.trans z
theorem walkG {l : PySem.W.OpenLaw} {q : Program} {loose : List Str} {XP : (Str → Option Value) → Heap → Prop} {YP : World → Heap → Prop} {d : DefRec} {K : Params → PySem.W.Frag} (hn : l.most = some 63) (hdf : d.params.defaults = [])
    (hY : ∀ (w : World) (h : Heap), YP w h → (K w.params).In h)
    (F : ∀ (w : World) (mg : Str → Option Value) (fa : Addr) (h : Heap), (K w.params).In h → h.Ns mainGlobals mg → mg d.name = some (.ref fa) →
      ∀ base : Heap, (K w.params).In base → base.Ns mainGlobals mg → FnG l.prog w (K w.params) mg base CX0 9 fa (spLaw (K w.params))) :
    PySem.W.WalkO q loose XP YP l.row.toRowW d [] (fun f vs => PySem.call f vs) := by
  refine Att.attach_call hn hdf fun w s₀ s₁ mg mb fa o pm cd doc a vs ns G Y ho hd hcd hmg hobj hints hlen hg => ?_
  have KX := hY w _ Y
  exact law_at (k := 9) KX G.T.g G.T.b G.T.builtins G.T.nolimit hg hobj hints (slN (by omega)) ⟨rfl, by decide, by decide⟩ (F w mg fa _ KX G.T.g hmg) fun H hS => ⟨a, ns, rfl, hS, hlen, fun _ => rfl⟩
end Ab

namespace Ab
open PySem PySem.Spec PySem.Calls PySem.HandSPX PyProof.Rows L2

/-! ### the row's facts, joined -/
theorem kit_own {K : PySem.W.Frag} {t c : Addr} (i : PySem.W.isClsIn K c = true) (y : PySem.W.typeIn K (.ref c) = some (.type "type")) (s : PySem.W.subIn K (.ref t) (.ref c) = some true) : PySem.W.kitOne K (.ref t) (.ref c) = some true := by
  have e2 : ((PySem.W.clsIn K c).isSome && PySem.W.typeIn K (.ref c) == some (.type "type")) = true := by
    have h2' : (PySem.W.clsIn K c).isSome = true := i
    rw [h2', y] <;> rfl
  show (if (Value.ref t == Value.ref c) = true then some true else (if ((PySem.W.clsIn K c).isSome && PySem.W.typeIn K (.ref c) == some (.type "type")) = true then PySem.W.subIn K (.ref t) (.ref c) else none)) = some true
  rw [if_pos e2, s]
  exact ite_self _
theorem kit_other {K : PySem.W.Frag} {t c : Addr} (i : PySem.W.isClsIn K c = true) (y : PySem.W.typeIn K (.ref c) = some (.type "type")) (s : PySem.W.subIn K (.ref t) (.ref c) = some false) (me : PySem.W.subIn K (.ref t) (.ref t) = some true) : PySem.W.kitOne K (.ref t) (.ref c) = some false := by
  have e2 : ((PySem.W.clsIn K c).isSome && PySem.W.typeIn K (.ref c) == some (.type "type")) = true := by
    have h2' : (PySem.W.clsIn K c).isSome = true := i
    rw [h2', y] <;> rfl
  have ne : ¬ (Value.ref t == Value.ref c) = true := fun z => by
    have e : t = c := Value.ref.inj (beq_iff_eq.mp z)
    subst e
    rw [s] at me
    cases me
  show (if (Value.ref t == Value.ref c) = true then some true else (if ((PySem.W.clsIn K c).isSome && PySem.W.typeIn K (.ref c) == some (.type "type")) = true then PySem.W.subIn K (.ref t) (.ref c) else none)) = some false
  rw [if_neg ne, if_pos e2]
  exact s
theorem kit_built {K : PySem.W.Frag} {t : Addr} {T : String} {b : Bool} (m : PySem.W.kitMeta T = true) (s : PySem.W.subIn K (.ref t) (.type T) = some b) : PySem.W.kitOne K (.ref t) (.type T) = some b := by
  have ne : ¬ (Value.ref t == Value.type T) = true := fun z => nomatch (beq_iff_eq.mp z)
  show (if (Value.ref t == Value.type T) = true then some true else (if PySem.W.kitMeta T = true then PySem.W.subIn K (.ref t) (.type T) else none)) = some b
  rw [if_neg ne, if_pos m]
  exact s
theorem kit_me {K : PySem.W.Frag} {t : Addr} : PySem.W.kitOne K (.ref t) (.ref t) = some true := if_pos (beq_iff_eq.mpr rfl)
section
variable {K : PySem.W.Frag} {kV doc pm cdv ct : Value} {an : Option Addr}
theorem kb_init : KBn K (PySem.W.fnOf "__init__" "Span.__init__" (defArgs (sp' 0)) (defBody (sp' 0)) (defScope (sp' 0)) .none kV doc pm an cdv ct) ["self", "low", "high"] 1 ["high", "low"] kwG kwG :=
  ⟨fun _ us ws _ l1 l2 => match us, ws, l1, l2 with | [_], [_, _], _, _ => .of_eq rfl, kw_rel⟩
theorem kb_within : KBn K (PySem.W.fnOf "is_within" "Span.is_within" (defArgs (sp' 5)) (defBody (sp' 5)) (defScope (sp' 5)) .none kV doc pm an cdv ct) ["self", "other"] 1 ["other"] kwG kwG :=
  ⟨fun _ us ws _ l1 l2 => match us, ws, l1, l2 with | [_], [_], _, _ => .of_eq rfl, kw_rel⟩
end
theorem ap_tail {c : Addr} : PySem.W.excTail PySem.ApX.rt4 [.ref c, .type "RuntimeError", .type "Exception", .type "BaseException", .type "object"] = true := by
  show PySem.W.excTail PySem.ApX.rt4 [.type "RuntimeError", .type "Exception", .type "BaseException", .type "object"] = true
  decide +kernel
theorem all_mk {P : Program} {w : World} {K : PySem.W.Frag} {h : Heap} {mg : Str → Option Value} {fa : Addr} (X : K.In h) (G : h.Ns mainGlobals mg) (hfa : mg "law" = some (.ref fa))
    {cC cA fA cS c1 c2 c3 p1 p2 p3 p4 f1 f2 f3 f4 f5 f6 f7 f8 f9 f10 f11 f12 f13 f14 f15 f16 f17 g0 g1 g2 g3 g4 g5 g6 g7 g8 g9 g10 g11 g12 g13 g14 g15 g16 g17 g18 g19 : Addr} {r1 r2 r3 r4 : List Value} {ocf1 kVf1 dcf1 pmf1 cdf1 ctf1 ocf2 kVf2 dcf2 pmf2 cdf2 ctf2 ocf3 kVf3 dcf3 pmf3 cdf3 ctf3 ocf4 kVf4 dcf4 pmf4 cdf4 ctf4 ocf5 kVf5 dcf5 pmf5 cdf5 ctf5 ocf6 kVf6 dcf6 pmf6 cdf6 ctf6 ocf7 kVf7 dcf7 pmf7 cdf7 ctf7 ocf8 kVf8 dcf8 pmf8 cdf8 ctf8 ocf9 kVf9 dcf9 pmf9 cdf9 ctf9 ocf10 kVf10 dcf10 pmf10 cdf10 ctf10 ocf11 kVf11 dcf11 pmf11 cdf11 ctf11 ocf12 kVf12 dcf12 pmf12 cdf12 ctf12 ocf13 kVf13 dcf13 pmf13 cdf13 ctf13 ocf14 kVf14 dcf14 pmf14 cdf14 ctf14 ocf15 kVf15 dcf15 pmf15 cdf15 ctf15 ocf16 kVf16 dcf16 pmf16 cdf16 ctf16 ocf17 kVf17 dcf17 pmf17 cdf17 ctf17 ocg0 kVg0 dcg0 pmg0 cdg0 ctg0 ocg1 kVg1 dcg1 pmg1 cdg1 ctg1 ocg2 kVg2 dcg2 pmg2 cdg2 ctg2 ocg3 kVg3 dcg3 pmg3 cdg3 ctg3 ocg4 kVg4 dcg4 pmg4 cdg4 ctg4 ocg5 kVg5 dcg5 pmg5 cdg5 ctg5 ocg6 kVg6 dcg6 pmg6 cdg6 ctg6 ocg7 kVg7 dcg7 pmg7 cdg7 ctg7 ocg8 kVg8 dcg8 pmg8 cdg8 ctg8 ocg9 kVg9 dcg9 pmg9 cdg9 ctg9 ocg10 kVg10 dcg10 pmg10 cdg10 ctg10 ocg11 kVg11 dcg11 pmg11 cdg11 ctg11 ocg12 kVg12 dcg12 pmg12 cdg12 ctg12 ocg13 kVg13 dcg13 pmg13 cdg13 ctg13 ocg14 kVg14 dcg14 pmg14 cdg14 ctg14 ocg15 kVg15 dcg15 pmg15 cdg15 ctg15 ocg16 kVg16 dcg16 pmg16 cdg16 ctg16 ocg17 kVg17 dcg17 pmg17 cdg17 ctg17 ocg18 kVg18 dcg18 pmg18 cdg18 ctg18 ocg19 kVg19 dcg19 pmg19 cdg19 ctg19 ocfA kVfA dcfA pmfA cdfA ctfA : Value} {odf1 anf1 odf2 anf2 odf3 anf3 odf4 anf4 odf5 anf5 odf6 anf6 odf7 anf7 odf8 anf8 odf9 anf9 odf10 anf10 odf11 anf11 odf12 anf12 odf13 anf13 odf14 anf14 odf15 anf15 odf16 anf16 odf17 anf17 odg0 ang0 odg1 ang1 odg2 ang2 odg3 ang3 odg4 ang4 odg5 ang5 odg6 ang6 odg7 ang7 odg8 ang8 odg9 ang9 odg10 ang10 odg11 ang11 odg12 ang12 odg13 ang13 odg14 ang14 odg15 ang15 odg16 ang16 odg17 ang17 odg18 ang18 odg19 ang19 odfA anfA : Option Addr} {slf1 slf2 slf3 slf4 slf5 slf6 slf7 slf8 slf9 slf10 slf11 slf12 slf13 slf14 slf15 slf16 slf17 slg0 slg1 slg2 slg3 slg4 slg5 slg6 slg7 slg8 slg9 slg10 slg11 slg12 slg13 slg14 slg15 slg16 slg17 slg18 slg19 slfA : Array (Option Value)}
    {nm q : Str} {N : Addr} {bs : List Value} {sn : List Str} {sub : List Value} {ab : Bool} {col : Option Bool} {dd : Option Addr} {m0 m1 m2 m3 m5 : Option Value}
    (h_aSpan : PySem.W.nsIn K mainGlobals "Span" = some (some (.ref cC)))
    (h_aApart : PySem.W.nsIn K mainGlobals "Apart" = some (some (.ref cA)))
    (h_aStateError : PySem.W.nsIn K mainGlobals "StateError" = some (some (.ref cS)))
    (h_aAbreastError : PySem.W.nsIn K mainGlobals "AbreastError" = some (some (.ref c1)))
    (h_aMissingError : PySem.W.nsIn K mainGlobals "MissingError" = some (some (.ref c2)))
    (h_aLimitError : PySem.W.nsIn K mainGlobals "LimitError" = some (some (.ref c3)))
    (h_af1 : PySem.W.nsIn K mainGlobals "is_integer" = some (some (.ref f1)))
    (h_lf1 : K.lookup f1 = some ⟨ocf1, odf1, .func (PySem.W.fnOf "is_integer" "is_integer" (defArgs sIsInt) (defBody sIsInt) (defScope sIsInt) .none kVf1 dcf1 pmf1 anf1 cdf1 ctf1), slf1⟩)
    (h_cf1 : PySem.W.codeIn K cdf1 "is_integer" = true)
    (h_kf1 : PySem.W.keepIn K (.ref f1) = true)
    (h_af2 : PySem.W.nsIn K mainGlobals "want_level" = some (some (.ref f2)))
    (h_lf2 : K.lookup f2 = some ⟨ocf2, odf2, .func (PySem.W.fnOf "want_level" "want_level" (defArgs sWantLevel) (defBody sWantLevel) (defScope sWantLevel) .none kVf2 dcf2 pmf2 anf2 cdf2 ctf2), slf2⟩)
    (h_cf2 : PySem.W.codeIn K cdf2 "want_level" = true)
    (h_kf2 : PySem.W.keepIn K (.ref f2) = true)
    (h_af3 : PySem.W.nsIn K mainGlobals "want_span" = some (some (.ref f3)))
    (h_lf3 : K.lookup f3 = some ⟨ocf3, odf3, .func (PySem.W.fnOf "want_span" "want_span" (defArgs sWantSpan) (defBody sWantSpan) (defScope sWantSpan) .none kVf3 dcf3 pmf3 anf3 cdf3 ctf3), slf3⟩)
    (h_cf3 : PySem.W.codeIn K cdf3 "want_span" = true)
    (h_kf3 : PySem.W.keepIn K (.ref f3) = true)
    (h_af4 : PySem.W.nsIn K mainGlobals "_law_pot" = some (some (.ref f4)))
    (h_lf4 : K.lookup f4 = some ⟨ocf4, odf4, .func (PySem.W.fnOf "_law_pot" "_law_pot" (defArgs sPot) (defBody sPot) (defScope sPot) .none kVf4 dcf4 pmf4 anf4 cdf4 ctf4), slf4⟩)
    (h_cf4 : PySem.W.codeIn K cdf4 "_law_pot" = true)
    (h_kf4 : PySem.W.keepIn K (.ref f4) = true)
    (h_af5 : PySem.W.nsIn K mainGlobals "_law_draw" = some (some (.ref f5)))
    (h_lf5 : K.lookup f5 = some ⟨ocf5, odf5, .func (PySem.W.fnOf "_law_draw" "_law_draw" (defArgs sDraw) (defBody sDraw) (defScope sDraw) .none kVf5 dcf5 pmf5 anf5 cdf5 ctf5), slf5⟩)
    (h_cf5 : PySem.W.codeIn K cdf5 "_law_draw" = true)
    (h_kf5 : PySem.W.keepIn K (.ref f5) = true)
    (h_af6 : PySem.W.nsIn K mainGlobals "_law_number" = some (some (.ref f6)))
    (h_lf6 : K.lookup f6 = some ⟨ocf6, odf6, .func (PySem.W.fnOf "_law_number" "_law_number" (defArgs sNumber) (defBody sNumber) (defScope sNumber) .none kVf6 dcf6 pmf6 anf6 cdf6 ctf6), slf6⟩)
    (h_cf6 : PySem.W.codeIn K cdf6 "_law_number" = true)
    (h_kf6 : PySem.W.keepIn K (.ref f6) = true)
    (h_af7 : PySem.W.nsIn K mainGlobals "_law_bounds" = some (some (.ref f7)))
    (h_lf7 : K.lookup f7 = some ⟨ocf7, odf7, .func (PySem.W.fnOf "_law_bounds" "_law_bounds" (defArgs sBounds) (defBody sBounds) (defScope sBounds) .none kVf7 dcf7 pmf7 anf7 cdf7 ctf7), slf7⟩)
    (h_cf7 : PySem.W.codeIn K cdf7 "_law_bounds" = true)
    (h_kf7 : PySem.W.keepIn K (.ref f7) = true)
    (h_af8 : PySem.W.nsIn K mainGlobals "_law_made" = some (some (.ref f8)))
    (h_lf8 : K.lookup f8 = some ⟨ocf8, odf8, .func (PySem.W.fnOf "_law_made" "_law_made" (defArgs sMade) (defBody sMade) (defScope sMade) .none kVf8 dcf8 pmf8 anf8 cdf8 ctf8), slf8⟩)
    (h_cf8 : PySem.W.codeIn K cdf8 "_law_made" = true)
    (h_kf8 : PySem.W.keepIn K (.ref f8) = true)
    (h_af9 : PySem.W.nsIn K mainGlobals "_law_is" = some (some (.ref f9)))
    (h_lf9 : K.lookup f9 = some ⟨ocf9, odf9, .func (PySem.W.fnOf "_law_is" "_law_is" (defArgs sIs) (defBody sIs) (defScope sIs) .none kVf9 dcf9 pmf9 anf9 cdf9 ctf9), slf9⟩)
    (h_cf9 : PySem.W.codeIn K cdf9 "_law_is" = true)
    (h_kf9 : PySem.W.keepIn K (.ref f9) = true)
    (h_af10 : PySem.W.nsIn K mainGlobals "_law_shared" = some (some (.ref f10)))
    (h_lf10 : K.lookup f10 = some ⟨ocf10, odf10, .func (PySem.W.fnOf "_law_shared" "_law_shared" (defArgs sShared) (defBody sShared) (defScope sShared) .none kVf10 dcf10 pmf10 anf10 cdf10 ctf10), slf10⟩)
    (h_cf10 : PySem.W.codeIn K cdf10 "_law_shared" = true)
    (h_kf10 : PySem.W.keepIn K (.ref f10) = true)
    (h_af11 : PySem.W.nsIn K mainGlobals "_law_two_right" = some (some (.ref f11)))
    (h_lf11 : K.lookup f11 = some ⟨ocf11, odf11, .func (PySem.W.fnOf "_law_two_right" "_law_two_right" (defArgs sTwo) (defBody sTwo) (defScope sTwo) .none kVf11 dcf11 pmf11 anf11 cdf11 ctf11), slf11⟩)
    (h_cf11 : PySem.W.codeIn K cdf11 "_law_two_right" = true)
    (h_kf11 : PySem.W.keepIn K (.ref f11) = true)
    (h_af12 : PySem.W.nsIn K mainGlobals "_law_within_right" = some (some (.ref f12)))
    (h_lf12 : K.lookup f12 = some ⟨ocf12, odf12, .func (PySem.W.fnOf "_law_within_right" "_law_within_right" (defArgs sWithin) (defBody sWithin) (defScope sWithin) .none kVf12 dcf12 pmf12 anf12 cdf12 ctf12), slf12⟩)
    (h_cf12 : PySem.W.codeIn K cdf12 "_law_within_right" = true)
    (h_kf12 : PySem.W.keepIn K (.ref f12) = true)
    (h_af13 : PySem.W.nsIn K mainGlobals "_law_moved_right" = some (some (.ref f13)))
    (h_lf13 : K.lookup f13 = some ⟨ocf13, odf13, .func (PySem.W.fnOf "_law_moved_right" "_law_moved_right" (defArgs sMoved) (defBody sMoved) (defScope sMoved) .none kVf13 dcf13 pmf13 anf13 cdf13 ctf13), slf13⟩)
    (h_cf13 : PySem.W.codeIn K cdf13 "_law_moved_right" = true)
    (h_kf13 : PySem.W.keepIn K (.ref f13) = true)
    (h_af14 : PySem.W.nsIn K mainGlobals "_law_around_right" = some (some (.ref f14)))
    (h_lf14 : K.lookup f14 = some ⟨ocf14, odf14, .func (PySem.W.fnOf "_law_around_right" "_law_around_right" (defArgs sAr) (defBody sAr) (defScope sAr) .none kVf14 dcf14 pmf14 anf14 cdf14 ctf14), slf14⟩)
    (h_cf14 : PySem.W.codeIn K cdf14 "_law_around_right" = true)
    (h_kf14 : PySem.W.keepIn K (.ref f14) = true)
    (h_af15 : PySem.W.nsIn K mainGlobals "_law_step" = some (some (.ref f15)))
    (h_lf15 : K.lookup f15 = some ⟨ocf15, odf15, .func (PySem.W.fnOf "_law_step" "_law_step" (defArgs sSt) (defBody sSt) (defScope sSt) .none kVf15 dcf15 pmf15 anf15 cdf15 ctf15), slf15⟩)
    (h_cf15 : PySem.W.codeIn K cdf15 "_law_step" = true)
    (h_kf15 : PySem.W.keepIn K (.ref f15) = true)
    (h_af16 : PySem.W.nsIn K mainGlobals "_law_right" = some (some (.ref f16)))
    (h_lf16 : K.lookup f16 = some ⟨ocf16, odf16, .func (PySem.W.fnOf "_law_right" "_law_right" (defArgs sRi) (defBody sRi) (defScope sRi) .none kVf16 dcf16 pmf16 anf16 cdf16 ctf16), slf16⟩)
    (h_cf16 : PySem.W.codeIn K cdf16 "_law_right" = true)
    (h_kf16 : PySem.W.keepIn K (.ref f16) = true)
    (h_af17 : PySem.W.nsIn K mainGlobals "law" = some (some (.ref f17)))
    (h_lf17 : K.lookup f17 = some ⟨ocf17, odf17, .func (PySem.W.fnOf "law" "law" (defArgs sLaw) (defBody sLaw) (defScope sLaw) .none kVf17 dcf17 pmf17 anf17 cdf17 ctf17), slf17⟩)
    (h_cf17 : PySem.W.codeIn K cdf17 "law" = true)
    (h_kf17 : PySem.W.keepIn K (.ref f17) = true)
    (h_at0 : PySem.W.findIn K (.ref cC) "__init__" = some (some (.ref g0)))
    (h_fn0 : PySem.W.isFn K (.ref g0) = true)
    (h_lg0 : K.lookup g0 = some ⟨ocg0, odg0, .func (PySem.W.fnOf "__init__" "Span.__init__" (defArgs (sp' 0)) (defBody (sp' 0)) (defScope (sp' 0)) .none kVg0 dcg0 pmg0 ang0 cdg0 ctg0), slg0⟩)
    (h_cg0 : PySem.W.codeIn K cdg0 "Span.__init__" = true)
    (h_kg0 : PySem.W.keepIn K (.ref g0) = true)
    (h_at1 : PySem.W.findCls K (.ref cC) (.type "type") "around" = some (.get (.builtin "staticmethod.__get__") (.ref p1) .none (.ref cC)))
    (h_rc1 : PySem.W.recIn K p1 "staticmethod" = some (.ref g1 :: r1))
    (h_lg1 : K.lookup g1 = some ⟨ocg1, odg1, .func (PySem.W.fnOf "around" "Span.around" (defArgs (sp' 1)) (defBody (sp' 1)) (defScope (sp' 1)) .none kVg1 dcg1 pmg1 ang1 cdg1 ctg1), slg1⟩)
    (h_cg1 : PySem.W.codeIn K cdg1 "Span.around" = true)
    (h_kg1 : PySem.W.keepIn K (.ref g1) = true)
    (h_at2 : PySem.W.findIn K (.ref cC) "low" = some (some (.ref p2)))
    (h_gt2 : PySem.W.specialIn K (.ref p2) "__get__" = some (some (.builtin "property.__get__")))
    (h_tk2 : PySem.W.takesIn K (.ref p2) = some true)
    (h_rc2 : PySem.W.recIn K p2 "property" = some (.ref g2 :: r2))
    (h_lg2 : K.lookup g2 = some ⟨ocg2, odg2, .func (PySem.W.fnOf "low" "Span.low" (defArgs (sp' 2)) (defBody (sp' 2)) (defScope (sp' 2)) .none kVg2 dcg2 pmg2 ang2 cdg2 ctg2), slg2⟩)
    (h_cg2 : PySem.W.codeIn K cdg2 "Span.low" = true)
    (h_kg2 : PySem.W.keepIn K (.ref g2) = true)
    (h_at3 : PySem.W.findIn K (.ref cC) "high" = some (some (.ref p3)))
    (h_gt3 : PySem.W.specialIn K (.ref p3) "__get__" = some (some (.builtin "property.__get__")))
    (h_tk3 : PySem.W.takesIn K (.ref p3) = some true)
    (h_rc3 : PySem.W.recIn K p3 "property" = some (.ref g3 :: r3))
    (h_lg3 : K.lookup g3 = some ⟨ocg3, odg3, .func (PySem.W.fnOf "high" "Span.high" (defArgs (sp' 3)) (defBody (sp' 3)) (defScope (sp' 3)) .none kVg3 dcg3 pmg3 ang3 cdg3 ctg3), slg3⟩)
    (h_cg3 : PySem.W.codeIn K cdg3 "Span.high" = true)
    (h_kg3 : PySem.W.keepIn K (.ref g3) = true)
    (h_at4 : PySem.W.findIn K (.ref cC) "width" = some (some (.ref p4)))
    (h_gt4 : PySem.W.specialIn K (.ref p4) "__get__" = some (some (.builtin "property.__get__")))
    (h_tk4 : PySem.W.takesIn K (.ref p4) = some true)
    (h_rc4 : PySem.W.recIn K p4 "property" = some (.ref g4 :: r4))
    (h_lg4 : K.lookup g4 = some ⟨ocg4, odg4, .func (PySem.W.fnOf "width" "Span.width" (defArgs (sp' 4)) (defBody (sp' 4)) (defScope (sp' 4)) .none kVg4 dcg4 pmg4 ang4 cdg4 ctg4), slg4⟩)
    (h_cg4 : PySem.W.codeIn K cdg4 "Span.width" = true)
    (h_kg4 : PySem.W.keepIn K (.ref g4) = true)
    (h_at5 : PySem.W.findIn K (.ref cC) "is_within" = some (some (.ref g5)))
    (h_fn5 : PySem.W.isFn K (.ref g5) = true)
    (h_lg5 : K.lookup g5 = some ⟨ocg5, odg5, .func (PySem.W.fnOf "is_within" "Span.is_within" (defArgs (sp' 5)) (defBody (sp' 5)) (defScope (sp' 5)) .none kVg5 dcg5 pmg5 ang5 cdg5 ctg5), slg5⟩)
    (h_cg5 : PySem.W.codeIn K cdg5 "Span.is_within" = true)
    (h_kg5 : PySem.W.keepIn K (.ref g5) = true)
    (h_at6 : PySem.W.findIn K (.ref cC) "__contains__" = some (some (.ref g6)))
    (h_fn6 : PySem.W.isFn K (.ref g6) = true)
    (h_lg6 : K.lookup g6 = some ⟨ocg6, odg6, .func (PySem.W.fnOf "__contains__" "Span.__contains__" (defArgs (sp' 6)) (defBody (sp' 6)) (defScope (sp' 6)) .none kVg6 dcg6 pmg6 ang6 cdg6 ctg6), slg6⟩)
    (h_cg6 : PySem.W.codeIn K cdg6 "Span.__contains__" = true)
    (h_kg6 : PySem.W.keepIn K (.ref g6) = true)
    (h_at7 : PySem.W.findIn K (.ref cC) "__and__" = some (some (.ref g7)))
    (h_fn7 : PySem.W.isFn K (.ref g7) = true)
    (h_lg7 : K.lookup g7 = some ⟨ocg7, odg7, .func (PySem.W.fnOf "__and__" "Span.__and__" (defArgs (sp' 7)) (defBody (sp' 7)) (defScope (sp' 7)) .none kVg7 dcg7 pmg7 ang7 cdg7 ctg7), slg7⟩)
    (h_cg7 : PySem.W.codeIn K cdg7 "Span.__and__" = true)
    (h_kg7 : PySem.W.keepIn K (.ref g7) = true)
    (h_at8 : PySem.W.findIn K (.ref cC) "__or__" = some (some (.ref g8)))
    (h_fn8 : PySem.W.isFn K (.ref g8) = true)
    (h_lg8 : K.lookup g8 = some ⟨ocg8, odg8, .func (PySem.W.fnOf "__or__" "Span.__or__" (defArgs (sp' 8)) (defBody (sp' 8)) (defScope (sp' 8)) .none kVg8 dcg8 pmg8 ang8 cdg8 ctg8), slg8⟩)
    (h_cg8 : PySem.W.codeIn K cdg8 "Span.__or__" = true)
    (h_kg8 : PySem.W.keepIn K (.ref g8) = true)
    (h_at9 : PySem.W.findIn K (.ref cC) "__add__" = some (some (.ref g9)))
    (h_fn9 : PySem.W.isFn K (.ref g9) = true)
    (h_lg9 : K.lookup g9 = some ⟨ocg9, odg9, .func (PySem.W.fnOf "__add__" "Span.__add__" (defArgs (sp' 9)) (defBody (sp' 9)) (defScope (sp' 9)) .none kVg9 dcg9 pmg9 ang9 cdg9 ctg9), slg9⟩)
    (h_cg9 : PySem.W.codeIn K cdg9 "Span.__add__" = true)
    (h_kg9 : PySem.W.keepIn K (.ref g9) = true)
    (h_at10 : PySem.W.findIn K (.ref cC) "__radd__" = some (some (.ref g10)))
    (h_fn10 : PySem.W.isFn K (.ref g10) = true)
    (h_lg10 : K.lookup g10 = some ⟨ocg10, odg10, .func (PySem.W.fnOf "__radd__" "Span.__radd__" (defArgs (sp' 10)) (defBody (sp' 10)) (defScope (sp' 10)) .none kVg10 dcg10 pmg10 ang10 cdg10 ctg10), slg10⟩)
    (h_cg10 : PySem.W.codeIn K cdg10 "Span.__radd__" = true)
    (h_kg10 : PySem.W.keepIn K (.ref g10) = true)
    (h_at11 : PySem.W.findIn K (.ref cC) "__sub__" = some (some (.ref g11)))
    (h_fn11 : PySem.W.isFn K (.ref g11) = true)
    (h_lg11 : K.lookup g11 = some ⟨ocg11, odg11, .func (PySem.W.fnOf "__sub__" "Span.__sub__" (defArgs (sp' 11)) (defBody (sp' 11)) (defScope (sp' 11)) .none kVg11 dcg11 pmg11 ang11 cdg11 ctg11), slg11⟩)
    (h_cg11 : PySem.W.codeIn K cdg11 "Span.__sub__" = true)
    (h_kg11 : PySem.W.keepIn K (.ref g11) = true)
    (h_at12 : PySem.W.findIn K (.ref cC) "__neg__" = some (some (.ref g12)))
    (h_fn12 : PySem.W.isFn K (.ref g12) = true)
    (h_lg12 : K.lookup g12 = some ⟨ocg12, odg12, .func (PySem.W.fnOf "__neg__" "Span.__neg__" (defArgs (sp' 12)) (defBody (sp' 12)) (defScope (sp' 12)) .none kVg12 dcg12 pmg12 ang12 cdg12 ctg12), slg12⟩)
    (h_cg12 : PySem.W.codeIn K cdg12 "Span.__neg__" = true)
    (h_kg12 : PySem.W.keepIn K (.ref g12) = true)
    (h_at13 : PySem.W.findIn K (.ref cC) "__lt__" = some (some (.ref g13)))
    (h_fn13 : PySem.W.isFn K (.ref g13) = true)
    (h_lg13 : K.lookup g13 = some ⟨ocg13, odg13, .func (PySem.W.fnOf "__lt__" "Span.__lt__" (defArgs (sp' 13)) (defBody (sp' 13)) (defScope (sp' 13)) .none kVg13 dcg13 pmg13 ang13 cdg13 ctg13), slg13⟩)
    (h_cg13 : PySem.W.codeIn K cdg13 "Span.__lt__" = true)
    (h_kg13 : PySem.W.keepIn K (.ref g13) = true)
    (h_at14 : PySem.W.findIn K (.ref cC) "__le__" = some (some (.ref g14)))
    (h_fn14 : PySem.W.isFn K (.ref g14) = true)
    (h_lg14 : K.lookup g14 = some ⟨ocg14, odg14, .func (PySem.W.fnOf "__le__" "Span.__le__" (defArgs (sp' 14)) (defBody (sp' 14)) (defScope (sp' 14)) .none kVg14 dcg14 pmg14 ang14 cdg14 ctg14), slg14⟩)
    (h_cg14 : PySem.W.codeIn K cdg14 "Span.__le__" = true)
    (h_kg14 : PySem.W.keepIn K (.ref g14) = true)
    (h_at15 : PySem.W.findIn K (.ref cC) "__gt__" = some (some (.ref g15)))
    (h_fn15 : PySem.W.isFn K (.ref g15) = true)
    (h_lg15 : K.lookup g15 = some ⟨ocg15, odg15, .func (PySem.W.fnOf "__gt__" "Span.__gt__" (defArgs (sp' 15)) (defBody (sp' 15)) (defScope (sp' 15)) .none kVg15 dcg15 pmg15 ang15 cdg15 ctg15), slg15⟩)
    (h_cg15 : PySem.W.codeIn K cdg15 "Span.__gt__" = true)
    (h_kg15 : PySem.W.keepIn K (.ref g15) = true)
    (h_at16 : PySem.W.findIn K (.ref cC) "__ge__" = some (some (.ref g16)))
    (h_fn16 : PySem.W.isFn K (.ref g16) = true)
    (h_lg16 : K.lookup g16 = some ⟨ocg16, odg16, .func (PySem.W.fnOf "__ge__" "Span.__ge__" (defArgs (sp' 16)) (defBody (sp' 16)) (defScope (sp' 16)) .none kVg16 dcg16 pmg16 ang16 cdg16 ctg16), slg16⟩)
    (h_cg16 : PySem.W.codeIn K cdg16 "Span.__ge__" = true)
    (h_kg16 : PySem.W.keepIn K (.ref g16) = true)
    (h_at17 : PySem.W.findIn K (.ref cC) "__eq__" = some (some (.ref g17)))
    (h_fn17 : PySem.W.isFn K (.ref g17) = true)
    (h_lg17 : K.lookup g17 = some ⟨ocg17, odg17, .func (PySem.W.fnOf "__eq__" "Span.__eq__" (defArgs (sp' 17)) (defBody (sp' 17)) (defScope (sp' 17)) .none kVg17 dcg17 pmg17 ang17 cdg17 ctg17), slg17⟩)
    (h_cg17 : PySem.W.codeIn K cdg17 "Span.__eq__" = true)
    (h_kg17 : PySem.W.keepIn K (.ref g17) = true)
    (h_at18 : PySem.W.findIn K (.ref cC) "__str__" = some (some (.ref g18)))
    (h_fn18 : PySem.W.isFn K (.ref g18) = true)
    (h_lg18 : K.lookup g18 = some ⟨ocg18, odg18, .func (PySem.W.fnOf "__str__" "Span.__str__" (defArgs (sp' 18)) (defBody (sp' 18)) (defScope (sp' 18)) .none kVg18 dcg18 pmg18 ang18 cdg18 ctg18), slg18⟩)
    (h_cg18 : PySem.W.codeIn K cdg18 "Span.__str__" = true)
    (h_kg18 : PySem.W.keepIn K (.ref g18) = true)
    (h_at19 : PySem.W.findIn K (.ref cC) "__repr__" = some (some (.ref g19)))
    (h_fn19 : PySem.W.isFn K (.ref g19) = true)
    (h_lg19 : K.lookup g19 = some ⟨ocg19, odg19, .func (PySem.W.fnOf "__repr__" "Span.__repr__" (defArgs (sp' 19)) (defBody (sp' 19)) (defScope (sp' 19)) .none kVg19 dcg19 pmg19 ang19 cdg19 ctg19), slg19⟩)
    (h_cg19 : PySem.W.codeIn K cdg19 "Span.__repr__" = true)
    (h_kg19 : PySem.W.keepIn K (.ref g19) = true)
    (h_pg : PySem.W.plainGet K cC Str.empty = true)
    (h_hd : PySem.W.hasDictIn K cC = true)
    (h_po : PySem.W.plainOver K cC = true)
    (h_sa : PySem.W.findIn K (.ref cC) "__setattr__" = some (some (.builtin "object.__setattr__")))
    (h_mk : PySem.W.makesIn K cC = true)
    (h_kc : PySem.W.keepIn K (.ref cC) = true)
    (h_nLo : PySem.W.findIn K (.ref cC) "own_low" = some none)
    (h_nHi : PySem.W.findIn K (.ref cC) "own_high" = some none)
    (h_z_isinstance : PySem.W.nsIn K mainGlobals "isinstance" = some none)
    (h_z_int : PySem.W.nsIn K mainGlobals "int" = some none)
    (h_z_bool : PySem.W.nsIn K mainGlobals "bool" = some none)
    (h_z_max : PySem.W.nsIn K mainGlobals "max" = some none)
    (h_z_min : PySem.W.nsIn K mainGlobals "min" = some none)
    (h_z_len : PySem.W.nsIn K mainGlobals "len" = some none)
    (h_z_str : PySem.W.nsIn K mainGlobals "str" = some none)
    (h_z_repr : PySem.W.nsIn K mainGlobals "repr" = some none)
    (h_z_abs : PySem.W.nsIn K mainGlobals "abs" = some none)
    (h_z_divmod : PySem.W.nsIn K mainGlobals "divmod" = some none)
    (h_z_tuple : PySem.W.nsIn K mainGlobals "tuple" = some none)
    (h_z_sorted : PySem.W.nsIn K mainGlobals "sorted" = some none)
    (h_z_range : PySem.W.nsIn K mainGlobals "range" = some none)
    (h_z_enumerate : PySem.W.nsIn K mainGlobals "enumerate" = some none)
    (h_z_all : PySem.W.nsIn K mainGlobals "all" = some none)
    (h_z_RuntimeError : PySem.W.nsIn K mainGlobals "RuntimeError" = some none)
    (h_kca : PySem.W.findIn K (.ref cC) "__class__" = some (some (.builtin "object.__class__")))
    (h_kcn : PySem.W.specialIn K (.builtin "object.__class__") "__get__" = some (some (.builtin "getset_descriptor.__get__")))
    (h_kct : PySem.W.takesIn K (.builtin "object.__class__") = some true)
    (h_kcm : PySem.W.mroIn K cC (.type "object") = some true)
    (h_sI : PySem.W.subIn K (.ref cC) (.type "int") = some false)
    (h_sB : PySem.W.subIn K (.ref cC) (.type "bool") = some false)
    (h_s1 : PySem.W.subIn K (.type "int") (.ref cC) = some false)
    (h_sf : PySem.W.selfFirst K cC = true)
    (h_iadd : PySem.W.findIn K (.type "int") "__add__" = some (some (.builtin "int.__add__")))
    (h_iradd : PySem.W.findIn K (.type "int") "__radd__" = some (some (.builtin "int.__radd__")))
    (h_isub : PySem.W.findIn K (.type "int") "__sub__" = some (some (.builtin "int.__sub__")))
    (h_irsub : PySem.W.findIn K (.type "int") "__rsub__" = some (some (.builtin "int.__rsub__")))
    (h_rsub : PySem.W.findIn K (.ref cC) "__rsub__" = some none)
    (h_ne : PySem.W.findIn K (.ref cC) "__ne__" = some (some (.builtin "object.__ne__")))
    (h_rdT : PySem.W.readsIn K cC (.type "type") = true)
    (h_rdG : PySem.W.specialIn K (.ref cC) "__getattribute__" = some (some (.builtin "type.__getattribute__")))
    (h_xL : K.lookup cA = some (excClassObj nm q cA N bs [.ref cS, .type "RuntimeError", .type "Exception", .type "BaseException", .type "object"] true sn sub ab col dd m0 m1 m2 m3 m5 "RuntimeError.__new__"))
    (h_xsa : PySem.W.findIn K (.ref cA) "__setattr__" = some (some (.builtin "object.__setattr__")))
    (h_xga : PySem.W.findIn K (.ref cA) "__getattribute__" = some (some (.builtin "BaseException.__getattribute__")))
    (h_xgg : PySem.W.findIn K (.ref cA) "__getattr__" = some none)
    (h_xn1 : PySem.W.findIn K (.ref cA) "one" = some none)
    (h_xn2 : PySem.W.findIn K (.ref cA) "other" = some none)
    (h_xi : PySem.W.findIn K (.ref cA) "__init__" = some (some (.ref fA)))
    (h_xt : PySem.W.typeIn K (.ref fA) = some (.type "function"))
    (h_lfA : K.lookup fA = some ⟨ocfA, odfA, .func (PySem.W.fnOf "__init__" "Apart.__init__" (defArgs PySem.ApX.sApI) (defBody PySem.ApX.sApI) (defScope PySem.ApX.sApI) .none kVfA dcfA pmfA anfA cdfA ctfA), slfA⟩)
    (h_cfA : PySem.W.codeIn K cdfA "Apart.__init__" = true)
    (h_kfA : PySem.W.keepIn K (.ref fA) = true)
    (h_xk : PySem.W.keepIn K (.ref cA) = true)
    (h_xe : PySem.W.subIn K (.ref cA) (.type "BaseException") = some true)
    (h_tyA : PySem.W.typeIn K (.ref cA) = some (.type "type"))
    (h_icA : PySem.W.isClsIn K cA = true)
    (h_sbA : PySem.W.subIn K (.ref cA) (.ref cA) = some true)
    (h_tyS : PySem.W.typeIn K (.ref cS) = some (.type "type"))
    (h_icS : PySem.W.isClsIn K cS = true)
    (h_sbS : PySem.W.subIn K (.ref cA) (.ref cS) = some true)
    (h_ty1 : PySem.W.typeIn K (.ref c1) = some (.type "type"))
    (h_ic1 : PySem.W.isClsIn K c1 = true)
    (h_sb1 : PySem.W.subIn K (.ref cA) (.ref c1) = some false)
    (h_ty2 : PySem.W.typeIn K (.ref c2) = some (.type "type"))
    (h_ic2 : PySem.W.isClsIn K c2 = true)
    (h_sb2 : PySem.W.subIn K (.ref cA) (.ref c2) = some false)
    (h_ty3 : PySem.W.typeIn K (.ref c3) = some (.type "type"))
    (h_ic3 : PySem.W.isClsIn K c3 = true)
    (h_sb3 : PySem.W.subIn K (.ref cA) (.ref c3) = some false)
    (h_xh : PySem.W.hasDictIn K cA = true)
    (h_xca : PySem.W.findIn K (.ref cA) "__class__" = some (some (.builtin "object.__class__")))
    (h_xhm : PySem.W.mroIn K cA (.type "object") = some true)
    (h_sR : PySem.W.subIn K (.ref cA) (.type "RuntimeError") = some true)
    : ∀ base : Heap, K.In base → base.Ns mainGlobals mg → FnG P w K mg base CX0 9 fa (spLaw K) := by
  intro base _ _
  have e : f17 = fa := (Value.ref.inj (Option.some.inj (hfa.symm.trans (PySem.W.mg_of X G h_af17)))).symm
  subst e
  have Ff1 := fun_mk (st := sIsInt) h_lf1 h_cf1 h_kf1
  have bf1 := Ff1.binds (ps := ["value"]) fun _ _ _ _ _ _ us hl => match us, hl with | [_], _ => rfl
  have Gf1 : Got K mg "is_integer" f1 := ⟨PySem.W.mg_of X G h_af1, h_kf1⟩
  have Ff2 := fun_mk (st := sWantLevel) h_lf2 h_cf2 h_kf2
  have bf2 := Ff2.binds (ps := ["value"]) fun _ _ _ _ _ _ us hl => match us, hl with | [_], _ => rfl
  have Gf2 : Got K mg "want_level" f2 := ⟨PySem.W.mg_of X G h_af2, h_kf2⟩
  have Ff3 := fun_mk (st := sWantSpan) h_lf3 h_cf3 h_kf3
  have bf3 := Ff3.binds (ps := ["value"]) fun _ _ _ _ _ _ us hl => match us, hl with | [_], _ => rfl
  have Gf3 : Got K mg "want_span" f3 := ⟨PySem.W.mg_of X G h_af3, h_kf3⟩
  have Ff4 := fun_mk (st := sPot) h_lf4 h_cf4 h_kf4
  have bf4 := Ff4.binds (ps := ["_law_script", "_law_k"]) fun _ _ _ _ _ _ us hl => match us, hl with | [_, _], _ => rfl
  have Gf4 : Got K mg "_law_pot" f4 := ⟨PySem.W.mg_of X G h_af4, h_kf4⟩
  have Ff5 := fun_mk (st := sDraw) h_lf5 h_cf5 h_kf5
  have bf5 := Ff5.binds (ps := ["_law_pot_here", "_law_many"]) fun _ _ _ _ _ _ us hl => match us, hl with | [_, _], _ => rfl
  have Gf5 : Got K mg "_law_draw" f5 := ⟨PySem.W.mg_of X G h_af5, h_kf5⟩
  have Ff6 := fun_mk (st := sNumber) h_lf6 h_cf6 h_kf6
  have bf6 := Ff6.binds (ps := ["_law_pot_here"]) fun _ _ _ _ _ _ us hl => match us, hl with | [_], _ => rfl
  have Gf6 : Got K mg "_law_number" f6 := ⟨PySem.W.mg_of X G h_af6, h_kf6⟩
  have Ff7 := fun_mk (st := sBounds) h_lf7 h_cf7 h_kf7
  have bf7 := Ff7.binds (ps := ["_law_pot_here", "_law_base"]) fun _ _ _ _ _ _ us hl => match us, hl with | [_, _], _ => rfl
  have Gf7 : Got K mg "_law_bounds" f7 := ⟨PySem.W.mg_of X G h_af7, h_kf7⟩
  have Ff8 := fun_mk (st := sMade) h_lf8 h_cf8 h_kf8
  have bf8 := Ff8.binds (ps := ["_law_bounds_here"]) fun _ _ _ _ _ _ us hl => match us, hl with | [_], _ => rfl
  have Gf8 : Got K mg "_law_made" f8 := ⟨PySem.W.mg_of X G h_af8, h_kf8⟩
  have Ff9 := fun_mk (st := sIs) h_lf9 h_cf9 h_kf9
  have bf9 := Ff9.binds (ps := ["_law_made_here", "_law_bounds_here"]) fun _ _ _ _ _ _ us hl => match us, hl with | [_, _], _ => rfl
  have Gf9 : Got K mg "_law_is" f9 := ⟨PySem.W.mg_of X G h_af9, h_kf9⟩
  have Ff10 := fun_mk (st := sShared) h_lf10 h_cf10 h_kf10
  have bf10 := Ff10.binds (ps := ["_law_this", "_law_mate"]) fun _ _ _ _ _ _ us hl => match us, hl with | [_, _], _ => rfl
  have Gf10 : Got K mg "_law_shared" f10 := ⟨PySem.W.mg_of X G h_af10, h_kf10⟩
  have Ff11 := fun_mk (st := sTwo) h_lf11 h_cf11 h_kf11
  have bf11 := Ff11.binds (ps := ["_law_bounds_here", "_law_more"]) fun _ _ _ _ _ _ us hl => match us, hl with | [_, _], _ => rfl
  have Gf11 : Got K mg "_law_two_right" f11 := ⟨PySem.W.mg_of X G h_af11, h_kf11⟩
  have Ff12 := fun_mk (st := sWithin) h_lf12 h_cf12 h_kf12
  have bf12 := Ff12.binds (ps := ["_law_bounds_here"]) fun _ _ _ _ _ _ us hl => match us, hl with | [_], _ => rfl
  have Gf12 : Got K mg "_law_within_right" f12 := ⟨PySem.W.mg_of X G h_af12, h_kf12⟩
  have Ff13 := fun_mk (st := sMoved) h_lf13 h_cf13 h_kf13
  have bf13 := Ff13.binds (ps := ["_law_bounds_here", "_law_more"]) fun _ _ _ _ _ _ us hl => match us, hl with | [_, _], _ => rfl
  have Gf13 : Got K mg "_law_moved_right" f13 := ⟨PySem.W.mg_of X G h_af13, h_kf13⟩
  have Ff14 := fun_mk (st := sAr) h_lf14 h_cf14 h_kf14
  have bf14 := Ff14.binds (ps := ["_law_pot_here", "_law_base"]) fun _ _ _ _ _ _ us hl => match us, hl with | [_, _], _ => rfl
  have Gf14 : Got K mg "_law_around_right" f14 := ⟨PySem.W.mg_of X G h_af14, h_kf14⟩
  have Ff15 := fun_mk (st := sSt) h_lf15 h_cf15 h_kf15
  have bf15 := Ff15.binds (ps := ["_law_pot_here", "_law_made_here", "_law_bounds_here"]) fun _ _ _ _ _ _ us hl => match us, hl with | [_, _, _], _ => rfl
  have Gf15 : Got K mg "_law_step" f15 := ⟨PySem.W.mg_of X G h_af15, h_kf15⟩
  have Ff16 := fun_mk (st := sRi) h_lf16 h_cf16 h_kf16
  have bf16 := Ff16.binds (ps := ["_law_pot_here"]) fun _ _ _ _ _ _ us hl => match us, hl with | [_], _ => rfl
  have Gf16 : Got K mg "_law_right" f16 := ⟨PySem.W.mg_of X G h_af16, h_kf16⟩
  have Ff17 := fun_mk (st := sLaw) h_lf17 h_cf17 h_kf17
  have bf17 := Ff17.binds (ps := ["_law_script"]) fun _ _ _ _ _ _ us hl => match us, hl with | [_], _ => rfl
  have Gf17 : Got K mg "law" f17 := ⟨PySem.W.mg_of X G h_af17, h_kf17⟩
  have Fg0 := fun_mk (st := sp' 0) h_lg0 h_cg0 h_kg0
  have bg0 := Fg0.binds (ps := ["self", "low", "high"]) fun _ _ _ _ _ _ us hl => match us, hl with | [_, _, _], _ => rfl
  have Fg1 := fun_mk (st := sp' 1) h_lg1 h_cg1 h_kg1
  have Fg2 := fun_mk (st := sp' 2) h_lg2 h_cg2 h_kg2
  have bg2 := Fg2.binds (ps := ["self"]) fun _ _ _ _ _ _ us hl => match us, hl with | [_], _ => rfl
  have Fg3 := fun_mk (st := sp' 3) h_lg3 h_cg3 h_kg3
  have bg3 := Fg3.binds (ps := ["self"]) fun _ _ _ _ _ _ us hl => match us, hl with | [_], _ => rfl
  have Fg4 := fun_mk (st := sp' 4) h_lg4 h_cg4 h_kg4
  have bg4 := Fg4.binds (ps := ["self"]) fun _ _ _ _ _ _ us hl => match us, hl with | [_], _ => rfl
  have Fg5 := fun_mk (st := sp' 5) h_lg5 h_cg5 h_kg5
  have bg5 := Fg5.binds (ps := ["self", "other"]) fun _ _ _ _ _ _ us hl => match us, hl with | [_, _], _ => rfl
  have Fg6 := fun_mk (st := sp' 6) h_lg6 h_cg6 h_kg6
  have bg6 := Fg6.binds (ps := ["self", "value"]) fun _ _ _ _ _ _ us hl => match us, hl with | [_, _], _ => rfl
  have Fg7 := fun_mk (st := sp' 7) h_lg7 h_cg7 h_kg7
  have bg7 := Fg7.binds (ps := ["self", "other"]) fun _ _ _ _ _ _ us hl => match us, hl with | [_, _], _ => rfl
  have Fg8 := fun_mk (st := sp' 8) h_lg8 h_cg8 h_kg8
  have bg8 := Fg8.binds (ps := ["self", "other"]) fun _ _ _ _ _ _ us hl => match us, hl with | [_, _], _ => rfl
  have Fg9 := fun_mk (st := sp' 9) h_lg9 h_cg9 h_kg9
  have bg9 := Fg9.binds (ps := ["self", "number"]) fun _ _ _ _ _ _ us hl => match us, hl with | [_, _], _ => rfl
  have Fg10 := fun_mk (st := sp' 10) h_lg10 h_cg10 h_kg10
  have bg10 := Fg10.binds (ps := ["self", "number"]) fun _ _ _ _ _ _ us hl => match us, hl with | [_, _], _ => rfl
  have Fg11 := fun_mk (st := sp' 11) h_lg11 h_cg11 h_kg11
  have bg11 := Fg11.binds (ps := ["self", "number"]) fun _ _ _ _ _ _ us hl => match us, hl with | [_, _], _ => rfl
  have Fg12 := fun_mk (st := sp' 12) h_lg12 h_cg12 h_kg12
  have bg12 := Fg12.binds (ps := ["self"]) fun _ _ _ _ _ _ us hl => match us, hl with | [_], _ => rfl
  have Fg13 := fun_mk (st := sp' 13) h_lg13 h_cg13 h_kg13
  have bg13 := Fg13.binds (ps := ["self", "other"]) fun _ _ _ _ _ _ us hl => match us, hl with | [_, _], _ => rfl
  have Fg14 := fun_mk (st := sp' 14) h_lg14 h_cg14 h_kg14
  have bg14 := Fg14.binds (ps := ["self", "other"]) fun _ _ _ _ _ _ us hl => match us, hl with | [_, _], _ => rfl
  have Fg15 := fun_mk (st := sp' 15) h_lg15 h_cg15 h_kg15
  have bg15 := Fg15.binds (ps := ["self", "other"]) fun _ _ _ _ _ _ us hl => match us, hl with | [_, _], _ => rfl
  have Fg16 := fun_mk (st := sp' 16) h_lg16 h_cg16 h_kg16
  have bg16 := Fg16.binds (ps := ["self", "other"]) fun _ _ _ _ _ _ us hl => match us, hl with | [_, _], _ => rfl
  have Fg17 := fun_mk (st := sp' 17) h_lg17 h_cg17 h_kg17
  have bg17 := Fg17.binds (ps := ["self", "other"]) fun _ _ _ _ _ _ us hl => match us, hl with | [_, _], _ => rfl
  have Fg18 := fun_mk (st := sp' 18) h_lg18 h_cg18 h_kg18
  have bg18 := Fg18.binds (ps := ["self"]) fun _ _ _ _ _ _ us hl => match us, hl with | [_], _ => rfl
  have Fg19 := fun_mk (st := sp' 19) h_lg19 h_cg19 h_kg19
  have bg19 := Fg19.binds (ps := ["self"]) fun _ _ _ _ _ _ us hl => match us, hl with | [_], _ => rfl
  have kI := kit_built (by decide +kernel) h_sI
  have kB := kit_built (by decide +kernel) h_sB
  have T : Txt K mg cC :=
    { cl := ⟨h_pg, h_hd, h_po, h_sa⟩, nLo := h_nLo, nHi := h_nHi, mgC := PySem.W.mg_of X G h_aSpan, kca := h_kca, kcn := h_kcn, kct := h_kct, kcm := h_kcm, kInt := kI, kBool := kB, kSelf := kit_me,
      b_isinstance := PySem.W.mg_none_of X G h_z_isinstance, b_int := PySem.W.mg_none_of X G h_z_int, b_bool := PySem.W.mg_none_of X G h_z_bool, b_max := PySem.W.mg_none_of X G h_z_max, b_min := PySem.W.mg_none_of X G h_z_min, b_len := PySem.W.mg_none_of X G h_z_len, b_str := PySem.W.mg_none_of X G h_z_str, b_repr := PySem.W.mg_none_of X G h_z_repr, b_abs := PySem.W.mg_none_of X G h_z_abs, b_divmod := PySem.W.mg_none_of X G h_z_divmod, b_tuple := PySem.W.mg_none_of X G h_z_tuple, b_sorted := PySem.W.mg_none_of X G h_z_sorted, b_range := PySem.W.mg_none_of X G h_z_range, b_enumerate := PySem.W.mg_none_of X G h_z_enumerate, b_all := PySem.W.mg_none_of X G h_z_all }
  have O : Ops K cC := ⟨h_sf, h_iadd, h_iradd, h_isub, h_irsub, h_rsub, h_s1, h_sI, h_ne⟩
  have TA : PySem.ApX.ApTxt K mg cA fA :=
    { gC := PySem.W.mg_of X G h_aApart, cls := ⟨nm, q, N, bs, _, sn, sub, ab, col, dd, m0, m1, m2, m3, m5, h_xL, ap_tail⟩, sa := h_xsa, ga := h_xga, gg := h_xgg, no1 := h_xn1, no2 := h_xn2, iC := h_xi, tC := h_xt, kC := h_xk, exC := h_xe, tyC := h_tyA, hdC := h_xh,
      te := PySem.W.exm_ref h_xe h_xh h_tyA h_sbA, F := ⟨_, fun_mk (st := PySem.ApX.sApI) h_lfA h_cfA h_kfA⟩ }
  have TE : Errs K mg cA cS c1 c2 c3 :=
    { x := ⟨h_icA, h_xga, h_xgg, h_xe, h_xca, h_kcn, h_kct, h_xhm⟩, xf := ⟨h_xga, h_xgg, h_xe, h_xh⟩, gS := PySem.W.mg_of X G h_aStateError, g1 := PySem.W.mg_of X G h_aAbreastError, g2 := PySem.W.mg_of X G h_aMissingError, g3 := PySem.W.mg_of X G h_aLimitError, gR := PySem.W.mg_none_of X G h_z_RuntimeError,
      kS := kit_own h_icS h_tyS h_sbS, kR := kit_built (by decide +kernel) h_sR,
      kN := kitAny_cons (kit_other h_ic1 h_ty1 h_sb1 h_sbA) (fun _ => kitAny_cons (kit_other h_ic2 h_ty2 h_sb2 h_sbA) (fun _ => kitAny_cons (kit_other h_ic3 h_ty3 h_sb3 h_sbA) (fun _ => kitAny_nil) (fun z => nomatch z)) (fun z => nomatch z)) (fun z => nomatch z) }
  have Rf1 := ok_isInt (P := P) (w := w) (base := base) Ff1 bf1 T
  have Rf2 := ok_wantLevel (P := P) (w := w) (base := base) Ff2 bf2 T Gf1 Rf1
  have Rf3 := ok_wantSpan (P := P) (w := w) (base := base) Ff3 bf3 T
  have mI := ok_init (P := P) (w := w) (base := base) Fg0 bg0 T Gf2 Rf2
  have m : Maker P w K mg base cC g0 _ := ⟨⟨h_mk, h_at0, h_fn0, h_kc⟩, mI, bg0⟩
  have hb := kb_init (K := K) (kV := kVg0) (doc := dcg0) (pm := pmg0) (cdv := cdg0) (ct := ctg0) (an := ang0)
  have Plow : Prp P w K mg base cC "low" (spLow cC) := ⟨p2, g2, _, ⟨h_at2, h_gt2, h_tk2, ⟨r2, h_rc2⟩⟩, ok_low Fg2 T, bg2⟩
  have Phigh : Prp P w K mg base cC "high" (spHigh cC) := ⟨p3, g3, _, ⟨h_at3, h_gt3, h_tk3, ⟨r3, h_rc3⟩⟩, ok_high Fg3 T, bg3⟩
  have Pwidth : Prp P w K mg base cC "width" (spWidth cC) := ⟨p4, g4, _, ⟨h_at4, h_gt4, h_tk4, ⟨r4, h_rc4⟩⟩, ok_width Fg4 T, bg4⟩
  have Ost : Own P w K mg base cC "__str__" 1 (spStr cC) := ⟨g18, h_at18, h_fn18, ok_str Fg18 bg18 T⟩
  have Ore : Own P w K mg base cC "__repr__" 1 (spRepr cC) := ⟨g19, h_at19, h_fn19, ok_repr Fg19 bg19 T⟩
  have mCo : Own P w K mg base cC "__contains__" 2 (spContains K cC) := ⟨g6, h_at6, h_fn6, ok_contains Fg6 bg6 T Gf1 Rf1⟩
  have mOr : Own P w K mg base cC "__or__" 5 (spOr cC) := ⟨g8, h_at8, h_fn8, ok_or Fg8 bg8 T Gf3 Rf3 m⟩
  have mAdd : Own P w K mg base cC "__add__" 5 (spAdd cC) := ⟨g9, h_at9, h_fn9, ok_add Fg9 bg9 T Gf2 Rf2 m⟩
  have mRadd : Own P w K mg base cC "__radd__" 5 (spAdd cC) := ⟨g10, h_at10, h_fn10, ok_radd Fg10 bg10 T Gf2 Rf2 m⟩
  have mSub : Own P w K mg base cC "__sub__" 5 (spSub cC) := ⟨g11, h_at11, h_fn11, ok_sub Fg11 bg11 T Gf2 Rf2 m⟩
  have mNeg : Own P w K mg base cC "__neg__" 5 (spNeg cC) := ⟨g12, h_at12, h_fn12, ok_neg Fg12 bg12 T m⟩
  have mLt : Own P w K mg base cC "__lt__" 1 (spCmp cC .Lt) := ⟨g13, h_at13, h_fn13, ok_lt Fg13 bg13 T⟩
  have mLe : Own P w K mg base cC "__le__" 1 (spCmp cC .LtE) := ⟨g14, h_at14, h_fn14, ok_le Fg14 bg14 T⟩
  have mGt : Own P w K mg base cC "__gt__" 1 (spCmp cC .Gt) := ⟨g15, h_at15, h_fn15, ok_gt Fg15 bg15 T⟩
  have mGe : Own P w K mg base cC "__ge__" 1 (spCmp cC .GtE) := ⟨g16, h_at16, h_fn16, ok_ge Fg16 bg16 T⟩
  have mEq : Own P w K mg base cC "__eq__" 1 (spCmp cC .Eq) := ⟨g17, h_at17, h_fn17, ok_eq Fg17 bg17 T⟩
  have W : WiM P w K mg base cC := ⟨g5, _, ⟨h_at5, h_fn5, h_kg5⟩, ok_within Fg5 T Gf3 Rf3, bg5, kb_within⟩
  have cSt : CSt K cC "around" p1 g1 := ⟨⟨h_rdT, h_rdG⟩, h_at1, ⟨r1, h_rc1⟩, h_kg1⟩
  have Raround := ok_around (P := P) (w := w) (base := base) Fg1 T Gf2 Rf2 m
  have FA := ok_and (P := P) (w := w) (base := base) Fg7 bg7 T TA Gf3 Rf3 m
  have FQ := ok_reprQ (P := P) (w := w) (base := base) Fg19 bg19 T
  have Rf4 := ok_pot (P := P) (w := w) (base := base) Ff4 bf4 T
  have Rf5 := ok_draw (P := P) (w := w) (base := base) Ff5 bf5 T
  have Rf6 := ok_number Ff6 bf6 T Gf5 Rf5
  have Rf7 := ok_bounds Ff7 bf7 T Gf5 Rf5
  have Rf8 := ok_made Ff8 bf8 T m
  have Rf9 := ok_is Ff9 bf9 T Plow Phigh Pwidth Ost Ore
  have Rf10 := ok_shared Ff10 bf10 T O TA TE h_at7 h_fn7 FA h_at19 h_fn19 FQ
  have Rf11 := ok_two Ff11 bf11 T O Gf8 Rf8 Gf9 Rf9 Gf10 Rf10 W Ore mOr mLe mLt mGe mGt mEq
  have Rf12 := ok_with Ff12 bf12 T Gf8 Rf8 mCo
  have Rf13 := ok_moved Ff13 bf13 T O m hb Gf8 Rf8 Gf9 Rf9 mAdd mRadd mSub mNeg
  have Rf14 := ok_ar Ff14 bf14 T Gf5 Rf5 Gf9 Rf9 cSt Raround
  have Rf15 := ok_step Ff15 bf15 T O Gf5 Rf5 Gf6 Rf6 Gf7 Rf7 Gf8 Rf8 mAdd mRadd mSub mNeg mOr h_at7 h_fn7 FA
  have Rf16 := ok_right Ff16 bf16 T Gf5 Rf5 Gf6 Rf6 Gf7 Rf7 Gf8 Rf8 Gf9 Rf9 Gf12 Rf12 Gf13 Rf13 Gf11 Rf11 Gf15 Rf15 Gf14 Rf14
  exact ok_law Ff17 bf17 T Gf4 Rf4 Gf16 Rf16
end Ab

open PySem PySem.W PyProof.Rows in
set_option maxRecDepth 100000 in
set_option maxHeartbeats 0 in
theorem PySem.Challenge.cw_abreast_k11_whole_spans_by_own_sums_holds : PySem.Challenge.rw_abreast_k11_whole_spans_by_own_sums.Holds := by
  w_on; o_law; k_head; (case hw => w_witness2)
  k_fill
  refine Ab.walkG (l := PySem.Challenge.rw_abreast_k11_whole_spans_by_own_sums) rfl rfl (fun w h Y => PySem.W.kIn_of Y) ?F
  case F =>
    intro w mg fa h KX G hmg
    refine' Ab.all_mk KX G hmg ?x_aSpan ?x_aApart ?x_aStateError ?x_aAbreastError ?x_aMissingError ?x_aLimitError ?x_af1 ?x_lf1 ?x_cf1 ?x_kf1 ?x_af2 ?x_lf2 ?x_cf2 ?x_kf2 ?x_af3 ?x_lf3 ?x_cf3 ?x_kf3 ?x_af4 ?x_lf4 ?x_cf4 ?x_kf4 ?x_af5 ?x_lf5 ?x_cf5 ?x_kf5 ?x_af6 ?x_lf6 ?x_cf6 ?x_kf6 ?x_af7 ?x_lf7 ?x_cf7 ?x_kf7 ?x_af8 ?x_lf8 ?x_cf8 ?x_kf8 ?x_af9 ?x_lf9 ?x_cf9 ?x_kf9 ?x_af10 ?x_lf10 ?x_cf10 ?x_kf10 ?x_af11 ?x_lf11 ?x_cf11 ?x_kf11 ?x_af12 ?x_lf12 ?x_cf12 ?x_kf12 ?x_af13 ?x_lf13 ?x_cf13 ?x_kf13 ?x_af14 ?x_lf14 ?x_cf14 ?x_kf14 ?x_af15 ?x_lf15 ?x_cf15 ?x_kf15 ?x_af16 ?x_lf16 ?x_cf16 ?x_kf16 ?x_af17 ?x_lf17 ?x_cf17 ?x_kf17 ?x_at0 ?x_fn0 ?x_lg0 ?x_cg0 ?x_kg0 ?x_at1 ?x_rc1 ?x_lg1 ?x_cg1 ?x_kg1 ?x_at2 ?x_gt2 ?x_tk2 ?x_rc2 ?x_lg2 ?x_cg2 ?x_kg2 ?x_at3 ?x_gt3 ?x_tk3 ?x_rc3 ?x_lg3 ?x_cg3 ?x_kg3 ?x_at4 ?x_gt4 ?x_tk4 ?x_rc4 ?x_lg4 ?x_cg4 ?x_kg4 ?x_at5 ?x_fn5 ?x_lg5 ?x_cg5 ?x_kg5 ?x_at6 ?x_fn6 ?x_lg6 ?x_cg6 ?x_kg6 ?x_at7 ?x_fn7 ?x_lg7 ?x_cg7 ?x_kg7 ?x_at8 ?x_fn8 ?x_lg8 ?x_cg8 ?x_kg8 ?x_at9 ?x_fn9 ?x_lg9 ?x_cg9 ?x_kg9 ?x_at10 ?x_fn10 ?x_lg10 ?x_cg10 ?x_kg10 ?x_at11 ?x_fn11 ?x_lg11 ?x_cg11 ?x_kg11 ?x_at12 ?x_fn12 ?x_lg12 ?x_cg12 ?x_kg12 ?x_at13 ?x_fn13 ?x_lg13 ?x_cg13 ?x_kg13 ?x_at14 ?x_fn14 ?x_lg14 ?x_cg14 ?x_kg14 ?x_at15 ?x_fn15 ?x_lg15 ?x_cg15 ?x_kg15 ?x_at16 ?x_fn16 ?x_lg16 ?x_cg16 ?x_kg16 ?x_at17 ?x_fn17 ?x_lg17 ?x_cg17 ?x_kg17 ?x_at18 ?x_fn18 ?x_lg18 ?x_cg18 ?x_kg18 ?x_at19 ?x_fn19 ?x_lg19 ?x_cg19 ?x_kg19 ?x_pg ?x_hd ?x_po ?x_sa ?x_mk ?x_kc ?x_nLo ?x_nHi ?x_z_isinstance ?x_z_int ?x_z_bool ?x_z_max ?x_z_min ?x_z_len ?x_z_str ?x_z_repr ?x_z_abs ?x_z_divmod ?x_z_tuple ?x_z_sorted ?x_z_range ?x_z_enumerate ?x_z_all ?x_z_RuntimeError ?x_kca ?x_kcn ?x_kct ?x_kcm ?x_sI ?x_sB ?x_s1 ?x_sf ?x_iadd ?x_iradd ?x_isub ?x_irsub ?x_rsub ?x_ne ?x_rdT ?x_rdG ?x_xL ?x_xsa ?x_xga ?x_xgg ?x_xn1 ?x_xn2 ?x_xi ?x_xt ?x_lfA ?x_cfA ?x_kfA ?x_xk ?x_xe ?x_tyA ?x_icA ?x_sbA ?x_tyS ?x_icS ?x_sbS ?x_ty1 ?x_ic1 ?x_sb1 ?x_ty2 ?x_ic2 ?x_sb2 ?x_ty3 ?x_ic3 ?x_sb3 ?x_xh ?x_xca ?x_xhm ?x_sR
    (case x_aSpan => k_is)
    (case x_aApart => k_is)
    (case x_aStateError => k_is)
    (case x_aAbreastError => k_is)
    (case x_aMissingError => k_is)
    (case x_aLimitError => k_is)
    (case x_af1 => k_is)
    (case x_lf1 => k_is)
    (case x_cf1 => k_is)
    (case x_kf1 => k_is)
    (case x_af2 => k_is)
    (case x_lf2 => k_is)
    (case x_cf2 => k_is)
    (case x_kf2 => k_is)
    (case x_af3 => k_is)
    (case x_lf3 => k_is)
    (case x_cf3 => k_is)
    (case x_kf3 => k_is)
    (case x_af4 => k_is)
    (case x_lf4 => k_is)
    (case x_cf4 => k_is)
    (case x_kf4 => k_is)
    (case x_af5 => k_is)
    (case x_lf5 => k_is)
    (case x_cf5 => k_is)
    (case x_kf5 => k_is)
    (case x_af6 => k_is)
    (case x_lf6 => k_is)
    (case x_cf6 => k_is)
    (case x_kf6 => k_is)
    (case x_af7 => k_is)
    (case x_lf7 => k_is)
    (case x_cf7 => k_is)
    (case x_kf7 => k_is)
    (case x_af8 => k_is)
    (case x_lf8 => k_is)
    (case x_cf8 => k_is)
    (case x_kf8 => k_is)
    (case x_af9 => k_is)
    (case x_lf9 => k_is)
    (case x_cf9 => k_is)
    (case x_kf9 => k_is)
    (case x_af10 => k_is)
    (case x_lf10 => k_is)
    (case x_cf10 => k_is)
    (case x_kf10 => k_is)
    (case x_af11 => k_is)
    (case x_lf11 => k_is)
    (case x_cf11 => k_is)
    (case x_kf11 => k_is)
    (case x_af12 => k_is)
    (case x_lf12 => k_is)
    (case x_cf12 => k_is)
    (case x_kf12 => k_is)
    (case x_af13 => k_is)
    (case x_lf13 => k_is)
    (case x_cf13 => k_is)
    (case x_kf13 => k_is)
    (case x_af14 => k_is)
    (case x_lf14 => k_is)
    (case x_cf14 => k_is)
    (case x_kf14 => k_is)
    (case x_af15 => k_is)
    (case x_lf15 => k_is)
    (case x_cf15 => k_is)
    (case x_kf15 => k_is)
    (case x_af16 => k_is)
    (case x_lf16 => k_is)
    (case x_cf16 => k_is)
    (case x_kf16 => k_is)
    (case x_af17 => k_is)
    (case x_lf17 => k_is)
    (case x_cf17 => k_is)
    (case x_kf17 => k_is)
    (case x_at0 => k_is)
    (case x_fn0 => k_is)
    (case x_lg0 => k_is)
    (case x_cg0 => k_is)
    (case x_kg0 => k_is)
    (case x_at1 => k_is)
    (case x_rc1 => k_is)
    (case x_lg1 => k_is)
    (case x_cg1 => k_is)
    (case x_kg1 => k_is)
    (case x_at2 => k_is)
    (case x_gt2 => k_is)
    (case x_tk2 => k_is)
    (case x_rc2 => k_is)
    (case x_lg2 => k_is)
    (case x_cg2 => k_is)
    (case x_kg2 => k_is)
    (case x_at3 => k_is)
    (case x_gt3 => k_is)
    (case x_tk3 => k_is)
    (case x_rc3 => k_is)
    (case x_lg3 => k_is)
    (case x_cg3 => k_is)
    (case x_kg3 => k_is)
    (case x_at4 => k_is)
    (case x_gt4 => k_is)
    (case x_tk4 => k_is)
    (case x_rc4 => k_is)
    (case x_lg4 => k_is)
    (case x_cg4 => k_is)
    (case x_kg4 => k_is)
    (case x_at5 => k_is)
    (case x_fn5 => k_is)
    (case x_lg5 => k_is)
    (case x_cg5 => k_is)
    (case x_kg5 => k_is)
    (case x_at6 => k_is)
    (case x_fn6 => k_is)
    (case x_lg6 => k_is)
    (case x_cg6 => k_is)
    (case x_kg6 => k_is)
    (case x_at7 => k_is)
    (case x_fn7 => k_is)
    (case x_lg7 => k_is)
    (case x_cg7 => k_is)
    (case x_kg7 => k_is)
    (case x_at8 => k_is)
    (case x_fn8 => k_is)
    (case x_lg8 => k_is)
    (case x_cg8 => k_is)
    (case x_kg8 => k_is)
    (case x_at9 => k_is)
    (case x_fn9 => k_is)
    (case x_lg9 => k_is)
    (case x_cg9 => k_is)
    (case x_kg9 => k_is)
    (case x_at10 => k_is)
    (case x_fn10 => k_is)
    (case x_lg10 => k_is)
    (case x_cg10 => k_is)
    (case x_kg10 => k_is)
    (case x_at11 => k_is)
    (case x_fn11 => k_is)
    (case x_lg11 => k_is)
    (case x_cg11 => k_is)
    (case x_kg11 => k_is)
    (case x_at12 => k_is)
    (case x_fn12 => k_is)
    (case x_lg12 => k_is)
    (case x_cg12 => k_is)
    (case x_kg12 => k_is)
    (case x_at13 => k_is)
    (case x_fn13 => k_is)
    (case x_lg13 => k_is)
    (case x_cg13 => k_is)
    (case x_kg13 => k_is)
    (case x_at14 => k_is)
    (case x_fn14 => k_is)
    (case x_lg14 => k_is)
    (case x_cg14 => k_is)
    (case x_kg14 => k_is)
    (case x_at15 => k_is)
    (case x_fn15 => k_is)
    (case x_lg15 => k_is)
    (case x_cg15 => k_is)
    (case x_kg15 => k_is)
    (case x_at16 => k_is)
    (case x_fn16 => k_is)
    (case x_lg16 => k_is)
    (case x_cg16 => k_is)
    (case x_kg16 => k_is)
    (case x_at17 => k_is)
    (case x_fn17 => k_is)
    (case x_lg17 => k_is)
    (case x_cg17 => k_is)
    (case x_kg17 => k_is)
    (case x_at18 => k_is)
    (case x_fn18 => k_is)
    (case x_lg18 => k_is)
    (case x_cg18 => k_is)
    (case x_kg18 => k_is)
    (case x_at19 => k_is)
    (case x_fn19 => k_is)
    (case x_lg19 => k_is)
    (case x_cg19 => k_is)
    (case x_kg19 => k_is)
    (case x_pg => k_is)
    (case x_hd => k_is)
    (case x_po => k_is)
    (case x_sa => k_is)
    (case x_mk => k_is)
    (case x_kc => k_is)
    (case x_nLo => k_is)
    (case x_nHi => k_is)
    (case x_z_isinstance => k_is)
    (case x_z_int => k_is)
    (case x_z_bool => k_is)
    (case x_z_max => k_is)
    (case x_z_min => k_is)
    (case x_z_len => k_is)
    (case x_z_str => k_is)
    (case x_z_repr => k_is)
    (case x_z_abs => k_is)
    (case x_z_divmod => k_is)
    (case x_z_tuple => k_is)
    (case x_z_sorted => k_is)
    (case x_z_range => k_is)
    (case x_z_enumerate => k_is)
    (case x_z_all => k_is)
    (case x_z_RuntimeError => k_is)
    (case x_kca => k_is)
    (case x_kcn => k_is)
    (case x_kct => k_is)
    (case x_kcm => k_is)
    (case x_sI => k_is)
    (case x_sB => k_is)
    (case x_s1 => k_is)
    (case x_sf => k_is)
    (case x_iadd => k_is)
    (case x_iradd => k_is)
    (case x_isub => k_is)
    (case x_irsub => k_is)
    (case x_rsub => k_is)
    (case x_ne => k_is)
    (case x_rdT => k_is)
    (case x_rdG => k_is)
    (case x_xL => k_is)
    (case x_xsa => k_is)
    (case x_xga => k_is)
    (case x_xgg => k_is)
    (case x_xn1 => k_is)
    (case x_xn2 => k_is)
    (case x_xi => k_is)
    (case x_xt => k_is)
    (case x_lfA => k_is)
    (case x_cfA => k_is)
    (case x_kfA => k_is)
    (case x_xk => k_is)
    (case x_xe => k_is)
    (case x_tyA => k_is)
    (case x_icA => k_is)
    (case x_sbA => k_is)
    (case x_tyS => k_is)
    (case x_icS => k_is)
    (case x_sbS => k_is)
    (case x_ty1 => k_is)
    (case x_ic1 => k_is)
    (case x_sb1 => k_is)
    (case x_ty2 => k_is)
    (case x_ic2 => k_is)
    (case x_sb2 => k_is)
    (case x_ty3 => k_is)
    (case x_ic3 => k_is)
    (case x_sb3 => k_is)
    (case x_xh => k_is)
    (case x_xca => k_is)
    (case x_xhm => k_is)
    (case x_sR => k_is)
