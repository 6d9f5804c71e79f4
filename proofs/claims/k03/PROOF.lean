import PyProof.Rows.All
import Wide.All
import OpenK.AllK
import Wide.FinOn
import HandS.ForMost
import HandS.IsInst
import HandS.Wide
import HandS.Walk
import HandS.Evl
import HandS.TupLe
import HandS.Defaults
import HandS.NoneIn
import HandS.ClsMeth
import PySem.Challenge.RW_lineorigins_k03_ratios_compared
set_option Elab.async false
set_option linter.all false
set_option maxRecDepth 100000
set_option maxHeartbeats 4000000
namespace My
open PySem L2
/-! ## operators of an own class (own work over the library's rules) -/
section
variable {prog : Program} {w : World} {A : Around} {E : Value → Shared → Prop} {s : Shared} {K : PySem.W.Frag} {x C f : Addr} {ox : Obj} {od : Option Obj} {i : Int} {t : Tok}
/-- int's own slot declines an instance -/
theorem int_declines {name : Str} {id : String} {B : Builtin} (nm : String) (g : Int → Int → Sem Fin) {Q : Value → Shared → Prop} (slot : Slot "int" name id) (entry : entryFor table id = some B)
    (hB : B = Builtin.Int.intBinary nm g) (args : argsOk id ⟨[.int i t, .ref x], []⟩)
    (hx : s.heap.get? x = some ox) (hd : ∀ p, ox.data ≠ .prim p) (h : Q .notImplemented s) : wpAny (model prog w) A (call (.builtin id) [.int i t, .ref x]) Q E s := by
  refine wpAny_call_entry slot (typeIs_int s i t) entry ?_ args
  subst hB
  have e1 : slotArgs nm 1 ⟨[.int i t, .ref x], []⟩ = pure (.int i t, [.ref x]) := rfl
  have e2 : Builtin.Int.intOfSelf (.int i t) = pure i := rfl
  unfold Builtin.Int.intBinary
  refine wpAny_bind (wpAny_of_eq e1 ?_)
  refine wpAny_bind (wpAny_of_eq e2 ?_)
  refine wpAny_bind ?_
  show wpAny _ _ (load x >>= fun o => match o.data with | .prim (.int i _) => pure (some i) | _ => pure none) _ _ _
  refine wpAny_bind (wpAny_load hx ?_)
  obtain ⟨c, dd, dt, sl⟩ := ox
  cases dt with
  | prim p => exact absurd rfl (hd p)
  | _ => exact wpAny_pure (wpAny_bind (wpAny_rule (wpAny_pure ⟨_, rfl, h⟩)))
/-- int op instance, by the instance's reflected method -/
theorem bin_refl {op : Operator} {idI : String} {f0 : Addr} {Q : Value → Shared → Prop} (X : K.In s.heap) (I : PySem.W.InstAt s.heap x ox C od) (s1 : PySem.W.selfFirst K C = true)
    (slot : Slot "int" (PySem.dunder op.info.2) idI) (fills : fillsNumberSlot (.type "int") op.info.2 = pure true) (hs0 : PySem.W.findIn K (.ref C) (PySem.dunder op.info.2) = some (some (.ref f0)))
    (hs : PySem.W.findIn K (.ref C) (dunderR op.info.2) = some (some (.ref f))) (hf : PySem.W.isFn K (.ref f) = true) (hsub : PySem.W.subIn K (.ref C) (.type "int") = some false)
    (hni : ∀ Q' : Value → Shared → Prop, Q' .notImplemented s → wpAny (model prog w) A (call (.builtin idI) [.int i t, .ref x]) Q' E s)
    (h : wpAny (model prog w) A (call (.ref f) [.ref x, .int i t]) (PySem.W.CmpBack Q) E s) : wpAny (model prog w) A (binaryOp op (.int i t) (.ref x)) Q E s := by
  obtain ⟨cd, rest, hcd, hm⟩ := PySem.W.ksp_first s1
  rcases hi : op.info with ⟨sym, nm⟩
  rw [hi] at hs hs0 slot fills
  dsimp only at hs hs0 slot fills
  have two := PySem.W.ksp_try X I hs hf h
  simp only [binaryOp, hi]
  refine wpAny_holding (wpAny_bind ?_)
  simp only [binaryOp1]
  refine wpAny_bind (wpAny_typeOf (typeIs_int s i t) (wpAny_bind (I.type.here (wpAny_bind (wpAny_of_eq fills ?_)))))
  have hne : (Value.type "int" == Value.ref C) = false := Bool.eq_false_iff.mpr fun q => by cases beq_iff_eq.mp q
  simp only [hne, Bool.false_eq_true, if_false]
  refine wpAny_bind ((PySem.W.fills_K X hcd hm hs0).here ?_)
  simp only [Bool.and_self, if_true]
  refine wpAny_bind ((PySem.W.looks_subIn X hsub).here ?_)
  have hpy : numberSlotInPython (.type "int") nm = pure false := rfl
  simp only [Bool.false_eq_true, if_false, pure_bind, Bool.not_false, Bool.and_self, if_true, hpy]
  refine wpAny_bind (wpAny_tryMethod_declines (typeIs_int s i t) slot (hni _ ⟨rfl, ?_⟩))
  refine wpAny_bind (wpAny_mono two (fun r s' z => ?_) fun _ _ e => e)
  obtain ⟨v, rfl, hq⟩ := z
  exact wpAny_bind (wpAny_rule (wpAny_pure (wpAny_pure hq)))
/-- int cmp instance -/
theorem cmp_refl {op : CmpOp} {idI : String} {Q : Value → Shared → Prop} (hu : A.units < cLine) (X : K.In s.heap) (I : PySem.W.InstAt s.heap x ox C od) (slot : Slot "int" (cmpInfo op).2.1 idI)
    (hs : PySem.W.findIn K (.ref C) (cmpInfo op).2.2 = some (some (.ref f))) (hf : PySem.W.isFn K (.ref f) = true) (hsub : PySem.W.subIn K (.ref C) (.type "int") = some false)
    (hni : ∀ Q' : Value → Shared → Prop, Q' .notImplemented s → wpAny (model prog w) A (call (.builtin idI) [.int i t, .ref x]) Q' E s)
    (h : wpAny (model prog w) A (call (.ref f) [.ref x, .int i t]) (PySem.W.CmpBack Q) E s) : wpAny (model prog w) A (richCompare op (.int i t) (.ref x)) Q E s := by
  have two : wpAny (model prog w) A (tryCompare (.ref x) (cmpInfo op).2.2 (.int i t)) (fun r s' => ∃ v, r = some v ∧ Q v s') E s := by
    unfold tryCompare
    refine wpAny_bind (PySem.W.ifBound_K X I hs hf (wpAny_mono h (fun v s' hv => ?_) fun _ _ e => e))
    cases v <;> first | exact hv.elim | exact wpAny_pure ⟨_, rfl, hv⟩
  unfold richCompare
  simp only [(typeIs_int s i t).oneThing_none]
  refine wpAny_holding (wpAny_bind (wpAny_cRoomFor hu ?_))
  refine wpAny_bind (wpAny_typeOf (typeIs_int s i t) (wpAny_bind (I.type.here ?_)))
  have hne : (Value.type "int" != Value.ref C) = true := by
    rw [bne, Bool.not_eq_true']
    exact Bool.eq_false_iff.mpr fun q => by cases beq_iff_eq.mp q
  simp only [hne, if_true]
  refine wpAny_bind ((PySem.W.looks_subIn X hsub).here ?_)
  simp only [Bool.false_eq_true, if_false, Bool.not_false, if_true]
  refine wpAny_bind (wpAny_tryCompare_declines (typeIs_int s i t) slot (hni _ ⟨rfl, ?_⟩))
  refine wpAny_bind (wpAny_mono two (fun r s' z => ?_) fun _ _ e => e)
  obtain ⟨v, rfl, hq⟩ := z
  exact wpAny_pure hq
end

section
variable {X : Cx}
theorem cmpBack_of {pins : List (Addr × Obj)} {σ : St} {Q : VK} {u : Value} {s' : Shared} (h : EP X pins σ Q u s') : PySem.W.CmpBack (EP X pins σ Q) u s' := by
  cases u with
  | notImplemented =>
    obtain ⟨v, H', I, r, q⟩ := h
    cases v with
    | non => cases r
    | bl _ => cases r
    | int _ => obtain ⟨t, e⟩ := r; cases e
    | str _ => obtain ⟨t, e⟩ := r; cases e
    | byt _ => obtain ⟨t, e⟩ := r; cases e
    | flt _ => obtain ⟨t, e⟩ := r; cases e
    | ref _ => cases r
    | ty _ => cases r
  | _ => exact h
/-- what the class is asked for an operator -/
structure OpF (K : PySem.W.Frag) (C f : Addr) (op : Operator) : Prop where
  s1 : PySem.W.selfFirst K C = true
  hs : PySem.W.findIn K (.ref C) (PySem.dunder op.info.2) = some (some (.ref f))
  hf : PySem.W.isFn K (.ref f) = true
  rr : ∃ rc, PySem.W.findIn K (.ref C) (dunderR op.info.2) = some rc ∧ (rc = none ∨ ∃ g : Addr, rc = some (.ref g))
  i1 : ∃ fo, PySem.W.findIn K (.type "int") (PySem.dunder op.info.2) = some fo
  i2 : ∃ ro, PySem.W.findIn K (.type "int") (dunderR op.info.2) = some ro
  su : PySem.W.subIn K (.type "int") (.ref C) = some false
/-- x op y, x an instance of C, y an int or an instance of C: by the method's promise -/
def rOwn (C : Addr) (sp : Sp) (E : XK) : R2 := fun x y H Q => ∃ a dx fs, x = .ref a ∧ H a = some (.ins C dx fs) ∧ ((∃ i, y = .int i) ∨ ∃ b dy gs, y = .ref b ∧ H b = some (.ins C dy gs)) ∧ sp [x, y] H Q E
theorem op_own {CX : CXT} {k : Nat} {op : Operator} {C f : Addr} {fd : FuncData} {ps : List Str} {sp : Sp} {E : XK} (O : OpF X.K C f op) (F : FnOk X.prog X.w X.K X.mg X.base CX k f fd ps sp) (hr : Room k X.A) (hb : Binds X.K fd ps []) (hx : Passes CX X E) :
    OpR X (binaryOp op) (rOwn C sp E) := fun pins s σ H x y v u Q I rx ry h => by
  obtain ⟨a, dx, fs, rfl, ha, hy, q⟩ := h
  cases rx
  obtain ⟨mA, J, _⟩ := ins_get I.hok ha
  obtain ⟨od, J, _⟩ := J.look
  obtain ⟨m, hF⟩ := I.fr
  obtain ⟨rc, hrc, hp⟩ := O.rr
  obtain ⟨fo, h1⟩ := O.i1
  obtain ⟨ro, h2⟩ := O.i2
  rcases hy with ⟨i, rfl⟩ | ⟨b, dy, gs, rfl, hb'⟩
  · obtain ⟨t, rfl⟩ := ry
    refine PySem.W.ksp_binT hF I.ok.mod.kin J rfl O.s1 O.hs O.hf hrc hp h1 h2 O.su ?_
    exact thn (run_fn (vs := [.ref a, .int i]) F hr hb .nil hx I (.cons rfl (.cons ⟨t, rfl⟩ .nil)) q) fun _ _ z => cmpBack_of z
  · cases ry
    obtain ⟨mB, J', _⟩ := ins_get I.hok hb'
    obtain ⟨od', J', _⟩ := J'.look
    refine PySem.W.binop_K hF I.ok.mod.kin J J'.type O.s1 O.hs O.hf ?_
    exact thn (run_fn (vs := [.ref a, .ref b]) F hr hb .nil hx I (.cons rfl (.cons rfl .nil)) q) fun _ _ z => cmpBack_of z
/-- int op instance -/
structure OpI (K : PySem.W.Frag) (C f : Addr) (op : Operator) (id : String) : Prop where
  s1 : PySem.W.selfFirst K C = true
  h0 : ∃ f0 : Addr, PySem.W.findIn K (.ref C) (PySem.dunder op.info.2) = some (some (.ref f0))
  hs : PySem.W.findIn K (.ref C) (dunderR op.info.2) = some (some (.ref f))
  hf : PySem.W.isFn K (.ref f) = true
  su : PySem.W.subIn K (.ref C) (.type "int") = some false
/-- what is known of int's own slot -/
structure IntOp (op : Operator) (id : String) : Prop where
  slot : Slot "int" (PySem.dunder op.info.2) id
  fills : fillsNumberSlot (.type "int") op.info.2 = pure true
  decl : ∀ {prog : Program} {w : World} {A : Around} {E : Value → Shared → Prop} {s : Shared} {x : Addr} {ox : Obj} {i : Int} {t : Tok} {Q : Value → Shared → Prop}, s.heap.get? x = some ox → (∀ p, ox.data ≠ .prim p) → Q .notImplemented s →
    wpAny (model prog w) A (call (.builtin id) [.int i t, .ref x]) Q E s
theorem int_add : IntOp .Add "int.__add__" := ⟨F.slot_int_add, F.fills_int_add, fun hx hd h => int_declines _ _ F.slot_int_add F.entry_int_add rfl (F.args_int_add_2 _ _) hx hd h⟩
theorem int_sub : IntOp .Sub "int.__sub__" := ⟨F.slot_int_sub, F.fills_int_sub, fun hx hd h => int_declines _ _ F.slot_int_sub F.entry_int_sub rfl (F.args_int_sub_2 _ _) hx hd h⟩
theorem int_mul : IntOp .Mult "int.__mul__" := ⟨F.slot_int_mul, F.fills_int_mul, fun hx hd h => int_declines _ _ F.slot_int_mul F.entry_int_mul rfl (F.args_int_mul_2 _ _) hx hd h⟩
def rOwnI (C : Addr) (sp : Sp) (E : XK) : R2 := fun x y H Q => ∃ i b dy gs, x = .int i ∧ y = .ref b ∧ H b = some (.ins C dy gs) ∧ sp [y, x] H Q E
theorem op_ownI {CX : CXT} {k : Nat} {op : Operator} {id : String} {C f : Addr} {fd : FuncData} {ps : List Str} {sp : Sp} {E : XK} (N : IntOp op id) (O : OpI X.K C f op id) (F : FnOk X.prog X.w X.K X.mg X.base CX k f fd ps sp) (hr : Room k X.A) (hb : Binds X.K fd ps []) (hx : Passes CX X E) :
    OpR X (binaryOp op) (rOwnI C sp E) := fun pins s σ H x y v u Q I rx ry h => by
  obtain ⟨i, b, dy, gs, rfl, rfl, hb', q⟩ := h
  cases ry
  obtain ⟨t, rfl⟩ := rx
  obtain ⟨mB, J0, _⟩ := ins_get I.hok hb'
  obtain ⟨od, J, _⟩ := J0.look
  obtain ⟨f0, h0⟩ := O.h0
  refine bin_refl I.kIn J O.s1 N.slot N.fills h0 O.hs O.hf O.su (fun Q' q' => N.decl J.at_ (fun p => by intro z; cases z) q') ?_
  exact thn (run_fn (vs := [.ref b, .int i]) F hr hb .nil hx I (.cons rfl (.cons ⟨t, rfl⟩ .nil)) q) fun _ _ z => cmpBack_of z
/-- comparisons -/
structure CmF (K : PySem.W.Frag) (C f : Addr) (op : CmpOp) : Prop where
  hs : PySem.W.findIn K (.ref C) (cmpInfo op).2.1 = some (some (.ref f))
  hf : PySem.W.isFn K (.ref f) = true
  n1 : PySem.W.notFirst K C (.type "int") = true
theorem notFirst_self {K : PySem.W.Frag} {C : Addr} : PySem.W.notFirst K C (.ref C) = true := by simp [PySem.W.notFirst]
theorem op_ownC {CX : CXT} {k : Nat} {op : CmpOp} {C f : Addr} {fd : FuncData} {ps : List Str} {sp : Sp} {E : XK} (hop : ∀ a b, compareOp op a b = richCompare op a b) (O : CmF X.K C f op) (F : FnOk X.prog X.w X.K X.mg X.base CX k f fd ps sp) (hr : Room k X.A) (hb : Binds X.K fd ps []) (hx : Passes CX X E) :
    OpR X (compareOp op) (rOwn C sp E) := fun pins s σ H x y v u Q I rx ry h => by
  obtain ⟨a, dx, fs, rfl, ha, hy, q⟩ := h
  cases rx
  obtain ⟨mA, J, _⟩ := ins_get I.hok ha
  obtain ⟨od, J, _⟩ := J.look
  obtain ⟨m, hF⟩ := I.fr
  rw [hop]
  rcases hy with ⟨i, rfl⟩ | ⟨b, dy, gs, rfl, hb'⟩
  · obtain ⟨t, rfl⟩ := ry
    refine PySem.W.cmp_K hr.units0 hF I.ok.mod.kin J (PySem.W.Looks.of_pure rfl) O.n1 O.hs O.hf ?_
    exact thn (run_fn (vs := [.ref a, .int i]) F hr hb .nil hx I (.cons rfl (.cons ⟨t, rfl⟩ .nil)) q) fun _ _ z => cmpBack_of z
  · cases ry
    obtain ⟨mB, J', _⟩ := ins_get I.hok hb'
    obtain ⟨od', J', _⟩ := J'.look
    refine PySem.W.cmp_K hr.units0 hF I.ok.mod.kin J J'.type notFirst_self O.hs O.hf ?_
    exact thn (run_fn (vs := [.ref a, .ref b]) F hr hb .nil hx I (.cons rfl (.cons rfl .nil)) q) fun _ _ z => cmpBack_of z
structure CmI (K : PySem.W.Frag) (C f : Addr) (op : CmpOp) : Prop where
  hs : PySem.W.findIn K (.ref C) (cmpInfo op).2.2 = some (some (.ref f))
  hf : PySem.W.isFn K (.ref f) = true
  su : PySem.W.subIn K (.ref C) (.type "int") = some false
structure IntCm (op : CmpOp) (id : String) : Prop where
  slot : Slot "int" (cmpInfo op).2.1 id
  hop : ∀ a b, compareOp op a b = richCompare op a b
  decl : ∀ {prog : Program} {w : World} {A : Around} {E : Value → Shared → Prop} {s : Shared} {x : Addr} {ox : Obj} {i : Int} {t : Tok} {Q : Value → Shared → Prop}, s.heap.get? x = some ox → (∀ p, ox.data ≠ .prim p) → Q .notImplemented s →
    wpAny (model prog w) A (call (.builtin id) [.int i t, .ref x]) Q E s
theorem int_lt : IntCm .Lt "int.__lt__" := ⟨F.slot_int_lt, fun _ _ => rfl, fun hx hd h => int_declines _ _ F.slot_int_lt F.entry_int_lt rfl (F.args_int_lt_2 _ _) hx hd h⟩
theorem int_le : IntCm .LtE "int.__le__" := ⟨F.slot_int_le, fun _ _ => rfl, fun hx hd h => int_declines _ _ F.slot_int_le F.entry_int_le rfl (F.args_int_le_2 _ _) hx hd h⟩
theorem int_gt : IntCm .Gt "int.__gt__" := ⟨F.slot_int_gt, fun _ _ => rfl, fun hx hd h => int_declines _ _ F.slot_int_gt F.entry_int_gt rfl (F.args_int_gt_2 _ _) hx hd h⟩
theorem int_ge : IntCm .GtE "int.__ge__" := ⟨F.slot_int_ge, fun _ _ => rfl, fun hx hd h => int_declines _ _ F.slot_int_ge F.entry_int_ge rfl (F.args_int_ge_2 _ _) hx hd h⟩
theorem int_eq : IntCm .Eq "int.__eq__" := ⟨F.slot_int_eq, fun _ _ => rfl, fun hx hd h => int_declines _ _ F.slot_int_eq F.entry_int_eq rfl (F.args_int_eq_2 _ _) hx hd h⟩
theorem int_ne : IntCm .NotEq "int.__ne__" := ⟨F.slot_int_ne, fun _ _ => rfl, fun hx hd h => int_declines _ _ F.slot_int_ne F.entry_int_ne rfl (F.args_int_ne_2 _ _) hx hd h⟩
theorem op_ownCI {CX : CXT} {k : Nat} {op : CmpOp} {id : String} {C f : Addr} {fd : FuncData} {ps : List Str} {sp : Sp} {E : XK} (N : IntCm op id) (O : CmI X.K C f op) (F : FnOk X.prog X.w X.K X.mg X.base CX k f fd ps sp) (hr : Room k X.A) (hb : Binds X.K fd ps []) (hx : Passes CX X E) :
    OpR X (compareOp op) (rOwnI C sp E) := fun pins s σ H x y v u Q I rx ry h => by
  obtain ⟨i, b, dy, gs, rfl, rfl, hb', q⟩ := h
  cases ry
  obtain ⟨t, rfl⟩ := rx
  obtain ⟨mB, J0, _⟩ := ins_get I.hok hb'
  obtain ⟨od, J, _⟩ := J0.look
  rw [N.hop]
  refine cmp_refl hr.units0 I.kIn J N.slot O.hs O.hf O.su (fun Q' q' => N.decl J.at_ (fun p => by intro z; cases z) q') ?_
  exact thn (run_fn (vs := [.ref b, .int i]) F hr hb .nil hx I (.cons rfl (.cons ⟨t, rfl⟩ .nil)) q) fun _ _ z => cmpBack_of z
end

/-! ### -x, abs(x), bool(x), C.m(..) of an own class -/
section
variable {prog : Program} {w : World} {A : Around} {E : Value → Shared → Prop} {s : Shared} {x : Addr}
theorem bool_inst {Q : Value → Shared → Prop} (h : wpAny (model prog w) A.in1.in1 (truthy (.ref x)) (fun b s' => Q (.bool b) s') E s) : wpAny (model prog w) A (call (.type "bool") [.ref x]) Q E s := by
  refine callType_newIn F.called_bool F.newNe_bool (F.typeCall_bool_1 _) (F.newCall_bool_1 _) (fun obj => F.args_object_init_2 obj _) F.entry_bool_new
    (S := fun A R s => wpAny (model prog w) A.in1 (truthy (.ref x)) (fun b s' => R (.ok (.ret (.bool b))) s') (fun e s' => R (.error e) s') s) (fun A R s hs => ?_) ?_
  · obtain ⟨hp, g, d, tk, os⟩ := s
    have f1 := F.conv_sub_bool
    unfold Builtin.«bool.__new__»
    repeat (any_goals (first | assumption | (with_reducible refine wpAny_bind (wpAny_mono hs (fun b s' hb => ?_) fun _ _ e => e)) | wp_step))
    all_goals first | exact hb | skip
  · exact wpAny_mono h (fun b s' hb => ⟨rfl, hb⟩) fun _ _ e => e
end
section
variable {X : Cx} {CX : CXT} {k : Nat} {C f p : Addr} {fd : FuncData} {ps : List Str} {sp : Sp} {E : XK}
/-- a def called somewhere below, from a built-in -/
theorem run_fnA {pins : List (Addr × Obj)} {σ : St} {H : Hp} {s : Shared} {Q : VK} {us : List Value} {vs : List V} {A : Around} (room : Room k A) (fr : A.frames = X.A.frames) (F : FnOk X.prog X.w X.K X.mg X.base CX k f fd ps sp) (hb : Binds X.K fd ps []) (hx : Passes CX X E)
    (I : Inv X pins σ H s) (r : Vals vs us) (h : sp vs H Q E) : wpAny (model X.prog X.w) A (call (.ref f) us) (EP X pins σ Q) X.xe s := by
  have e0 : Env0 X.prog X.w X.K X.mg X.base A X.stack s H := by
    have e := I.env0
    exact ⟨by rw [fr]; exact e.frames, e.mod, e.bs, e.bsz, e.funs, e.frf, e.hok, e.bare⟩
  have hl : us.length = ps.length := by rw [← r.length]; exact F.len _ _ _ _ h
  refine wpAny_call (codeAny_mono (F.run A X.stack s H ⟨us, []⟩ us vs Q E room e0 (by
    have := hb s us I.kIn (by simpa using hl)
    simpa using this) r h) fun r s' hq => ?_)
  cases r with
  | error e => exact hx pins σ H s e s' I hq
  | ok fl =>
    cases fl with
    | ret u => exact I.after hq
    | next => exact False.elim hq
    | brk => exact False.elim hq
    | cont => exact False.elim hq
theorem room_in1 {A : Around} (h : Room (k + 1) A) : Room k A.in1 := h.in1
structure UnF (K : PySem.W.Frag) (C f : Addr) (nm : Str) : Prop where
  hs : PySem.W.findIn K (.ref C) nm = some (some (.ref f))
  hf : PySem.W.isFn K (.ref f) = true
def rOwn1 (C : Addr) (sp : Sp) (E : XK) : V → Hp → VK → Prop := fun x H Q => ∃ a dx fs, x = .ref a ∧ H a = some (.ins C dx fs) ∧ sp [x] H Q E
theorem un_own (O : UnF X.K C f "__neg__") (F : FnOk X.prog X.w X.K X.mg X.base CX k f fd ps sp) (hr : Room k X.A) (hb : Binds X.K fd ps []) (hx : Passes CX X E) : UnR X (unaryOp .USub) (rOwn1 C sp E) := fun pins s σ H x v Q I rx h => by
  obtain ⟨a, dx, fs, rfl, ha, q⟩ := h
  cases rx
  obtain ⟨mA, J, _⟩ := ins_get I.hok ha
  obtain ⟨od, J, _⟩ := J.look
  obtain ⟨m, hF⟩ := I.fr
  refine PySem.W.ksp_neg hF I.ok.mod.kin J O.hs O.hf ?_
  exact run_fn (vs := [.ref a]) F hr hb .nil hx I (.cons rfl .nil) q
def rOwnC1 (C : Addr) (sp : Sp) (E : XK) : List V → Hp → VK → Prop := fun vs H Q => ∃ a dx fs, vs = [.ref a] ∧ H a = some (.ins C dx fs) ∧ sp vs H Q E
theorem call_absO (O : UnF X.K C f "__abs__") (F : FnOk X.prog X.w X.K X.mg X.base CX k f fd ps sp) (hr : Room (k + 1) X.A) (hb : Binds X.K fd ps []) (hx : Passes CX X E) : CallR X (.builtin "abs") (rOwnC1 C sp E) := fun pins s σ H xs us Q I r h => by
  obtain ⟨a, dx, fs, rfl, ha, q⟩ := h
  obtain ⟨u, rfl, ru⟩ := vals1 r
  cases ru
  obtain ⟨mA, J, _⟩ := ins_get I.hok ha
  obtain ⟨od, J, _⟩ := J.look
  refine Calls.call_function_entry PyProof.Rows.kind_abs PyProof.Rows.plain_abs PyProof.Rows.entry_abs (PyProof.Rows.args_abs _) ?_
  unfold Builtin.«abs»
  refine wpAny_bind (m := oneArg "abs" _) (wpAny_pure ?_)
  refine wpAny_bind (m := callSpecial? (.ref a) (Str.ofString "__abs__")) (PySem.W.special_fn I.kIn J O.hs (beq_iff_eq.mp O.hf) ?_)
  exact thn (run_fnA (vs := [.ref a]) (room_in1 hr) rfl F hb hx I (.cons rfl .nil) q) fun v s' z => wpAny_pure ⟨_, rfl, z⟩
theorem boolBack_of {pins : List (Addr × Obj)} {σ : St} {Q : VK} {u : Value} {s' : Shared} (h : EP X pins σ (fun v H' => (∃ b, v = .bl b) ∧ Q v H') u s') : PySem.W.BoolBack (fun b s' => EP X pins σ Q (.bool b) s') u s' := by
  obtain ⟨v, H', I, r, ⟨b, rfl⟩, q⟩ := h
  cases r
  exact ⟨.bl b, H', I, rfl, q⟩
def rOwnB (C : Addr) (sp : Sp) (E : XK) : List V → Hp → VK → Prop := fun vs H Q => ∃ a dx fs, vs = [.ref a] ∧ H a = some (.ins C dx fs) ∧ sp vs H (fun v H' => (∃ b, v = .bl b) ∧ Q v H') E
theorem call_boolO (O : UnF X.K C f "__bool__") (F : FnOk X.prog X.w X.K X.mg X.base CX k f fd ps sp) (hr : Room (k + 2) X.A) (hb : Binds X.K fd ps []) (hx : Passes CX X E) : CallR X (.type "bool") (rOwnB C sp E) := fun pins s σ H xs us Q I r h => by
  obtain ⟨a, dx, fs, rfl, ha, q⟩ := h
  obtain ⟨u, rfl, ru⟩ := vals1 r
  cases ru
  obtain ⟨mA, J, _⟩ := ins_get I.hok ha
  obtain ⟨od, J, _⟩ := J.look
  obtain ⟨m, hF⟩ := I.fr
  refine bool_inst (PySem.W.truthy_K hF I.ok.mod.kin J O.hs O.hf ?_)
  exact thn (run_fnA (vs := [.ref a]) (room_in1 (room_in1 hr)) rfl F hb hx I (.cons rfl .nil) q) fun v s' z => boolBack_of z
/-- C.m is a staticmethod: its record at p, its def at g -/
structure SMet (K : PySem.W.Frag) (C : Addr) (mc : Value) (m : Str) (p g : Addr) : Prop where
  at_ : PySem.W.findCls K (.ref C) mc m = some (.get (.builtin "staticmethod.__get__") (.ref p) .none (.ref C))
  rc : ∃ rest, PySem.W.recIn K p "staticmethod" = some (.ref g :: rest)
  kp : PySem.W.keepIn K (.ref g) = true
def tSMeth (C : Addr) (sp : Sp) (E : XK) (ta : TE) (t : TA) : TE := fun σ H Q => ta σ H fun x H1 => x = .ref C ∧ t σ H1 fun vs H2 => sp vs H2 Q E
theorem pe_smeth {o e : Expr} {es : List Expr} {m : Str} {pos apos : Pos} {ta : TE} {t : TA} {pl : Sem Bool} {mc : Value} (he : PE X o ta) (r : ClX.CRead X.K C mc) (c : SMet X.K C mc m p f) (F : FnOk X.prog X.w X.K X.mg X.base CX k f fd ps sp) (hr : Room k X.A) (hb : Binds X.K fd ps []) (hx : Passes CX X E) (ha : PA X (e :: es) t)
    (hst : starEach (e :: es) X.env = (false, eval e X.env) :: starEach es X.env := by rfl) (hpl : (backTo pos (starEach es X.env)).any (·.1) = false := by rfl)
    (ht : eval (.Call (.Attribute o m apos) (e :: es) [] pos) X.env = (do
      let ov ← eval o X.env
      standAt apos.atName
      let (f, first) ← holding [ov] (getMethod ov m pl)
      callWith pos f first (backTo pos (starEach (e :: es) X.env)) (backToKw pos (keywordEach [] X.env))) := by rfl) :
    PE X (.Call (.Attribute o m apos) (e :: es) [] pos) (tSMeth C sp E ta t) := by
  refine ⟨fun pins s σ H Q I h => ?_⟩
  refine PySem.W.methodCall_KW (pl := pl) (thn (he.run pins s σ H _ I h) fun u s1 ⟨x, H1, I1, rx, ex, q⟩ => ?_) ht
  subst ex
  obtain rfl : u = Value.ref C := rx
  obtain ⟨rest, hp⟩ := c.rc
  refine PySem.W.method_cls I1.kIn r.ga ?_
  refine PySem.W.cls_bind I1.kIn r.rd c.at_ ?_
  refine wpAny_call (PySem.W.sm_get (s := { s1 with toks := s1.toks + 1 }) I1.kIn hp (PySem.W.handed_on rfl ?_))
  refine PySem.W.callWith_K (h₀ := X.base) (first := []) I.ok.mod.kin c.kp (thn (ha.run pos pins _ σ H1 _ (I1.tok _) q) fun us s2 ⟨vs, H2, I2, rv, q2⟩ => ⟨I2.kIn, ?_⟩) hst hpl
  exact run_fn F hr hb .nil hx I2 rv (by rw [List.append_nil]; exact q2)
end
/-! ### isinstance with own classes -/
structure TyF (K : PySem.W.Frag) (C : Addr) : Prop where
  cl : Cls K C
  ha : PySem.W.findIn K (.ref C) "__class__" = some (some (.builtin "object.__class__"))
  hn : PySem.W.specialIn K (.builtin "object.__class__") "__get__" = some (some (.builtin "getset_descriptor.__get__"))
  tk : PySem.W.takesIn K (.builtin "object.__class__") = some true
  hm : PySem.W.mroIn K C (.type "object") = some true
/-- the type of a value -/
def tyO : Option HO → Option Value
  | some (.lst _) => some (.type "list")
  | some (.tup _) => some (.type "tuple")
  | some (.dK _) => some (.type "dict")
  | some (.ins C _ _) => some (.ref C)
  | _ => none
def tyV (H : Hp) : V → Option Value
  | .non => some (.type "NoneType")
  | .bl _ => some (.type "bool")
  | .int _ => some (.type "int")
  | .str _ => some (.type "str")
  | .ref a => tyO (H a)
  | _ => none
theorem tyV_non {H : Hp} : tyV H .non = some (.type "NoneType") := rfl
theorem tyV_bl {H : Hp} {b : Bool} : tyV H (.bl b) = some (.type "bool") := rfl
theorem tyV_int {H : Hp} {i : Int} : tyV H (.int i) = some (.type "int") := rfl
theorem tyV_str {H : Hp} {z : Str} : tyV H (.str z) = some (.type "str") := rfl
theorem tyV_ref {H : Hp} {a : Addr} : tyV H (.ref a) = tyO (H a) := rfl
theorem tyO_lst {xs : List V} : tyO (some (.lst xs)) = some (.type "list") := rfl
theorem tyO_tup {xs : List V} : tyO (some (.tup xs)) = some (.type "tuple") := rfl
theorem tyO_dK {kvs : List (Key × V)} : tyO (some (.dK kvs)) = some (.type "dict") := rfl
theorem tyO_ins {C dx : Addr} {fs : List (Str × V)} : tyO (some (.ins C dx fs)) = some (.ref C) := rfl
theorem tyV_ok {K : PySem.W.Frag} {H : Hp} {v : V} {t : Value} (h : tyV H v = some t) (hC : ∀ C, t = .ref C → TyF K C) : TyX K H v t := by
  cases v with
  | non => cases h; exact .base .non
  | bl b => cases h; exact .base (.bl b)
  | int i => cases h; exact .base (.int i)
  | str z => cases h; exact .base (.str z)
  | byt b => cases h
  | flt b => cases h
  | ty n => cases h
  | ref a =>
    have h : tyO (H a) = some t := h
    cases e : H a with
    | none => rw [e] at h; cases h
    | some o =>
      rw [e] at h
      cases o with
      | lst xs => cases h; exact .base (.lst e)
      | tup xs => cases h; exact .base (.tup e)
      | dK kvs => cases h; exact .base (.dK e)
      | ins C dx fs =>
        cases h
        have q := hC C rfl
        exact .base (.ins e q.cl q.ha q.hn q.tk q.hm)
      | _ => cases h
def clsV : V → Option Value
  | .ty n => some (.type n)
  | .ref C => some (.ref C)
  | _ => none
theorem clsV_ty {n : String} : clsV (.ty n) = some (.type n) := rfl
theorem clsV_ref {C : Addr} : clsV (.ref C) = some (.ref C) := rfl
def clsVs : List V → Option (List Value)
  | [] => some []
  | v :: r => (clsV v).bind fun u => (clsVs r).map fun us => u :: us
theorem clsVs_nil : clsVs [] = some [] := rfl
theorem clsVs_ty {n : String} {r : List V} : clsVs (.ty n :: r) = (clsVs r).map fun us => Value.type n :: us := rfl
theorem clsVs_ref {C : Addr} {r : List V} : clsVs (.ref C :: r) = (clsVs r).map fun us => Value.ref C :: us := rfl
theorem clsV_ok {v : V} {u : Value} (h : clsV v = some u) : ClsV v u := by
  cases v with
  | ty n => cases h; exact .ty n
  | ref C => cases h; exact .own C
  | _ => cases h
theorem clsVs_ok : ∀ {vs : List V} {us : List Value}, clsVs vs = some us → Paired ClsV vs us
  | [], us, h => by cases h; exact .nil
  | v :: r, us, h => by
    unfold clsVs at h
    cases e : clsV v with
    | none => rw [e] at h; cases h
    | some u =>
      rw [e] at h
      cases e2 : clsVs r with
      | none => rw [e2] at h; cases h
      | some ws => rw [e2] at h; cases h; exact .cons (clsV_ok e) (clsVs_ok e2)
section
variable {X : Cx}
def rIsW (K : PySem.W.Frag) : List V → Hp → VK → Prop := fun vs H Q => ∃ x c u t b, vs = [x, c] ∧ clsV c = some u ∧ tyV H x = some t ∧ (∀ C, t = .ref C → TyF K C) ∧ PySem.W.kitOne K t u = some b ∧ Q (.bl b) H
theorem call_isW : CallR X (.builtin "isinstance") (rIsW X.K) := fun pins s σ H xs us Q I r h => by
  obtain ⟨x, c, u, t, b, h1, h2, h3, h4, h5, h6⟩ := h
  exact call_isi pins s σ H xs us Q I r ⟨x, c, t, u, b, h1, clsV_ok h2, tyV_ok h3 h4, h5, h6⟩
def rIsWT (K : PySem.W.Frag) : List V → Hp → VK → Prop := fun vs H Q => ∃ x p cs us t b, vs = [x, .ref p] ∧ H p = some (.tup cs) ∧ clsVs cs = some us ∧ tyV H x = some t ∧ (∀ C, t = .ref C → TyF K C) ∧ PySem.W.kitAny K t us = some b ∧ Q (.bl b) H
theorem call_isWT : CallR X (.builtin "isinstance") (rIsWT X.K) := fun pins s σ H xs us Q I r h => by
  obtain ⟨x, p, cs, ws, t, b, h1, h2, h3, h4, h5, h6, h7⟩ := h
  exact call_isiT pins s σ H xs us Q I r ⟨x, p, cs, t, ws, b, h1, h2, clsVs_ok h3, tyV_ok h4 h5, h6, h7⟩
theorem kitAny_t {K : PySem.W.Frag} {t c : Value} {r : List Value} (h : PySem.W.kitOne K t c = some true) : PySem.W.kitAny K t (c :: r) = some true := by
  unfold PySem.W.kitAny
  rw [h]
theorem kitAny_f {K : PySem.W.Frag} {t c : Value} {r : List Value} (h : PySem.W.kitOne K t c = some false) : PySem.W.kitAny K t (c :: r) = PySem.W.kitAny K t r := by
  rw [PySem.W.kitAny]
  rw [h]
theorem kit_self {K : PySem.W.Frag} {t : Value} : PySem.W.kitOne K t t = some true := by
  unfold PySem.W.kitOne
  rw [if_pos (by simp)]
end
theorem kit_out {K : PySem.W.Frag} {C : Addr} {b : String} {r : Bool} (h : PySem.W.subIn K (.ref C) (.type b) = some r) (hm : PySem.W.kitMeta b = true := by decide) : PySem.W.kitOne K (.ref C) (.type b) = some r := by
  unfold PySem.W.kitOne
  rw [if_neg (by simp)]
  show (if PySem.W.kitMeta b = true then _ else _) = _
  rw [if_pos hm]
  exact h
theorem kit_in {K : PySem.W.Frag} {C : Addr} {t : Value} {r : Bool} (ic : PySem.W.isClsIn K C = true) (ty : PySem.W.typeIn K (.ref C) = some (.type "type")) (h : PySem.W.subIn K t (.ref C) = some r) (ne : t ≠ .ref C) : PySem.W.kitOne K t (.ref C) = some r := by
  unfold PySem.W.kitOne
  rw [if_neg (by simpa using ne)]
  show (if ((PySem.W.clsIn K C).isSome && PySem.W.typeIn K (.ref C) == some (.type "type")) = true then _ else _) = _
  have i2 : (PySem.W.clsIn K C).isSome = true := ic
  rw [if_pos (by rw [i2, ty]; rfl)]
  exact h

/-! ### comparisons with anything on the right; two rules for one node -/
section
variable {X : Cx}
def rOr (r r' : R2) : R2 := fun x y H Q => r x y H Q ∨ r' x y H Q
theorem opOr {f : Value → Value → Sem Value} {r r' : R2} (h : OpR X f r) (h' : OpR X f r') : OpR X f (rOr r r') := fun pins s σ H x y v u Q I rx ry q => by
  rcases q with q | q
  · exact h pins s σ H x y v u Q I rx ry q
  · exact h' pins s σ H x y v u Q I rx ry q
theorem looksTy {M : Model} {pins : List (Addr × Obj)} {σ : St} {H : Hp} {s : Shared} {y : V} {u t : Value} (I : Inv X pins σ H s) (r : RelV y u) (h : tyV H y = some t) : PySem.W.Looks M s.heap (typeOf u) t := by
  cases y with
  | non => cases h; cases r; exact PySem.W.Looks.of_pure rfl
  | bl b => cases h; cases r; exact PySem.W.Looks.of_pure rfl
  | int i => cases h; obtain ⟨_, rfl⟩ := r; exact PySem.W.Looks.of_pure rfl
  | str z => cases h; obtain ⟨_, rfl⟩ := r; exact PySem.W.Looks.of_pure rfl
  | byt b => cases h
  | flt b => cases h
  | ty n => cases h
  | ref a =>
    cases r
    have h : tyO (H a) = some t := h
    cases e : H a with
    | none => rw [e] at h; cases h
    | some o =>
      rw [e] at h
      cases o with
      | lst xs =>
        cases h
        obtain ⟨_, _, n, _, h1⟩ := (show ObjOk X.prog X.w H s.heap a (.lst xs) from I.hok a _ e)
        exact (PySem.W.Looks.ld h1).andThen .now
      | tup xs =>
        cases h
        obtain ⟨_, _, _, o, h1, h2, _⟩ := (show ObjOk X.prog X.w H s.heap a (.tup xs) from I.hok a _ e)
        exact h2 ▸ (PySem.W.Looks.ld h1).andThen .now
      | dK kvs =>
        cases h
        obtain ⟨_, _, vs, _, o, es, ep, h1, h2, _⟩ := (show ObjOk X.prog X.w H s.heap a (.dK kvs) from I.hok a _ e)
        exact h2.1 ▸ (PySem.W.Looks.ld h1).andThen .now
      | ins C dx fs =>
        cases h
        obtain ⟨mA, J, _⟩ := ins_get I.hok e
        obtain ⟨od, J, _⟩ := J.look
        exact J.type
      | _ => cases h
def rOwnA (K : PySem.W.Frag) (C : Addr) (sp : Sp) (E : XK) : R2 := fun x y H Q => ∃ a dx fs t, x = .ref a ∧ H a = some (.ins C dx fs) ∧ tyV H y = some t ∧ PySem.W.notFirst K C t = true ∧ sp [x, y] H Q E
theorem op_ownCA {CX : CXT} {k : Nat} {op : CmpOp} {C f : Addr} {fd : FuncData} {ps : List Str} {sp : Sp} {E : XK} (hop : ∀ a b, compareOp op a b = richCompare op a b) (O : CmF X.K C f op) (F : FnOk X.prog X.w X.K X.mg X.base CX k f fd ps sp) (hr : Room k X.A) (hb : Binds X.K fd ps []) (hx : Passes CX X E) :
    OpR X (compareOp op) (rOwnA X.K C sp E) := fun pins s σ H x y v u Q I rx ry h => by
  obtain ⟨a, dx, fs, t, rfl, ha, hy, hn, q⟩ := h
  cases rx
  obtain ⟨mA, J, _⟩ := ins_get I.hok ha
  obtain ⟨od, J, _⟩ := J.look
  obtain ⟨m, hF⟩ := I.fr
  rw [hop]
  refine PySem.W.cmp_K hr.units0 hF I.ok.mod.kin J (looksTy I ry hy) hn O.hs O.hf ?_
  exact thn (run_fn (vs := [.ref a, y]) F hr hb .nil hx I (.cons rfl (.cons ry .nil)) q) fun _ _ z => cmpBack_of z
end

/-! ### defs that are called where no repr is under way (A.guards = some []): what repr of a list asks -/
structure FnG (P : Program) (w : World) (K : PySem.W.Frag) (mg : Str → Option Value) (base : Heap) (CX : CXT) (k : Nat) (f : Addr) (fd : FuncData) (ps : List Str) (sp : Sp) : Prop where
  len : ∀ vs H Q E, sp vs H Q E → vs.length = ps.length
  run : ∀ (A : Around) (outer : List Env) (s : Shared) (H : Hp) (args : Args) (us : List Value) (vs : List V) (Q : VK) (E : XK), Room k A → A.guards = some [] → Env0 P w K mg base A outer s H → BindsTo s fd args (ps.zip us) → Vals vs us → sp vs H Q E →
    codeAny (model P w) A (.call (.ref f) args) (CR CX outer P w H s Q E) s
theorem fn_g {P : Program} {w : World} {K : PySem.W.Frag} {mg : Str → Option Value} {base : Heap} {CX : CXT} {k : Nat} {f : Addr} {fd : FuncData} {ps : List Str} {sp : Sp} (F : FnOk P w K mg base CX k f fd ps sp) : FnG P w K mg base CX k f fd ps sp :=
  ⟨F.len, fun A o s H ar us vs Q E hr _ => F.run A o s H ar us vs Q E hr⟩
theorem fnG_of {CX : CXT} {P : Program} {w : World} {K : PySem.W.Frag} {mg : Str → Option Value} {base : Heap} {k : Nat} {f : Addr} {name qual : Str} {params : Arguments} {body : List Stmt} {scope : Scope} {dV kV doc pm cdv ct oc : Value} {an od : Option Addr}
    {osl : Array (Option Value)} {N ps : List Str} {sp : Sp} (lk : K.lookup f = some ⟨oc, od, .func (PySem.W.fnOf name qual params body scope dV kV doc pm an cdv ct), osl⟩) (hcd : PySem.W.codeIn K cdv qual = true) (S : FnScope N ps scope)
    (len : ∀ vs H Q E, sp vs H Q E → vs.length = ps.length)
    (hbody : ∀ (A : Around) (outer : List Env) (s : Shared) (H : Hp) (vs : List V) (Q : VK) (E : XK), Room k (A.deeper (PyProof.Rows.envOfC qual scope s.heap.objs.size f cdv)) → A.guards = some [] → sp vs H Q E →
      ∃ t, PSs (cxOf CX P w K mg base N qual scope f cdv A outer s H E) body t ∧ t { nx := fun _ H' => Q .non H', rt := Q } (L2.start N vs) H) :
    FnG P w K mg base CX (k + 1) f (PySem.W.fnOf name qual params body scope dV kV doc pm an cdv ct) ps sp := by
  refine ⟨len, fun A outer s H args us vs Q E hr hg e0 hb r hsp => ?_⟩
  have kp : ∀ b o, base.get? b = some o → s.heap.get? b = some o := fun b o e => (e0.bs b o e).1
  have KX : K.In s.heap := e0.mod.kin.keeps kp
  refine codeAny_call_function hr.depth (KX _ _ lk) rfl S.co S.gen rfl (PySem.W.codeRec_of KX hcd) (hb _ _ _ _ ?_)
  refine wpAny_newFunctionEnv_cells S.kind (fun ⟨n, v⟩ hy => ?_) fun env he s1 x => ?_
  · rcases S.par n (List.of_mem_zip hy).1 with q | q
    · exact .inl q
    · exact .inr ⟨q, PySem.W.cellsFrom_some _ _ _ (.inl q)⟩
  subst he
  refine ⟨(e0.mod.nolimit.keeps kp).keeps x.toInCall.keep, codeAny_func ?_⟩
  obtain ⟨t, ht, hq⟩ := hbody A outer s H vs Q E (hr.deeper _) hg hsp
  refine wpAny_mono (ht.run [] s1 (L2.start N vs) H _ (inv_start S hr.hd e0 (len _ _ _ _ hsp) r x) hq) (fun fl s' hs => ?_) fun e s' hs => hs
  cases fl with
  | ret u =>
    obtain ⟨v, σ', H', J, rv, q⟩ := hs
    exact ⟨v, H', J.os, J.bare, J.base, J.hok, rv, q⟩
  | next =>
    obtain ⟨σ', H', J, q⟩ := hs
    exact ⟨V.non, H', J.os, J.bare, J.base, J.hok, rfl, q⟩
  | brk =>
    obtain ⟨_, _, _, q⟩ := hs
    exact q.elim
  | cont =>
    obtain ⟨_, _, _, q⟩ := hs
    exact q.elim
section
variable {P : Program} {w : World} {K : PySem.W.Frag} {mg : Str → Option Value} {base : Heap}
theorem okG {x qual : Str} {st : Stmt} {f : Addr} {fd : FuncData} {N ps : List Str} {k : Nat} {sp : Sp} (F : Fun K x qual st f fd) (S : FnScope N ps (defScope st)) (len : ∀ vs H Q E, sp vs H Q E → vs.length = ps.length)
    (hbody : ∀ (cdv : Value) (A : Around) (outer : List Env) (s : Shared) (H : Hp) (vs : List V) (Q : VK) (E : XK), Room k (A.deeper (PyProof.Rows.envOfC qual (defScope st) s.heap.objs.size f cdv)) → (cxOf CX0 P w K mg base N qual (defScope st) f cdv A outer s H E).nox.A.guards = some [] → sp vs H Q E →
      ∃ t, PSs (cxOf CX0 P w K mg base N qual (defScope st) f cdv A outer s H E).nox (defBody st) t ∧ t { nx := fun _ H' => Q .non H', rt := Q } (L2.start N vs) H) : FnG P w K mg base CX0 (k + 1) f fd ps sp := by
  obtain ⟨oc, od, kV, doc, pm, an, cdv, ct, osl, rfl, lk, hcd⟩ := F.ex
  refine fnG_of lk hcd S len fun A outer s H vs Q E hr hg hsp => ?_
  obtain ⟨t, h, q⟩ := hbody cdv A outer s H vs Q E hr hg hsp
  exact ⟨t, h.nox, q⟩
end
section
variable {X : Cx} {CX : CXT} {k : Nat} {f C : Addr} {fd : FuncData} {ps : List Str} {sp : Sp} {dvs : List V} {ds : List Value} {E : XK} {x m : Str} {p pos apos : Pos} {e o : Expr} {es : List Expr} {ta : TE} {t : TA}
theorem run_fnG {pins : List (Addr × Obj)} {σ : St} {H : Hp} {s : Shared} {Q : VK} {us : List Value} {vs : List V} (F : FnG X.prog X.w X.K X.mg X.base CX k f fd ps sp) (hr : Room k X.A) (hG : X.A.guards = some []) (hb : Binds X.K fd ps []) (hx : Passes CX X E)
    (I : Inv X pins σ H s) (r : Vals vs us) (h : sp vs H Q E) : wpAny (model X.prog X.w) X.A (call (.ref f) us) (EP X pins σ Q) X.xe s := by
  have hl : us.length = ps.length := by rw [← r.length]; exact F.len _ _ _ _ h
  have hb2 := hb s us I.kIn (by simpa using hl)
  rw [List.append_nil] at hb2
  refine wpAny_call (codeAny_mono (F.run X.A X.stack s H ⟨us, []⟩ us vs Q E hr hG I.env0 hb2 r h) fun r s' hq => ?_)
  cases r with
  | error e => exact hx pins σ H s e s' I hq
  | ok fl =>
    cases fl with
    | ret u => exact I.after hq
    | next => exact False.elim hq
    | brk => exact False.elim hq
    | cont => exact False.elim hq
theorem pe_callG (F : FnG X.prog X.w X.K X.mg X.base CX k f fd ps sp) (hr : Room k X.A) (hG : X.A.guards = some []) (hg : Gl X x) (hm : X.mg x = some (.ref f)) (hk : PySem.W.keepIn X.K (.ref f) = true) (hb : Binds X.K fd ps []) (hx : Passes CX X E)
    (ha : PA X (e :: es) t) (hdb : (x == ("__debug__" : Str)) = false := by decide) (he : starEach (e :: es) X.env = (false, eval e X.env) :: starEach es X.env := by rfl) (hpl : (backTo pos (starEach es X.env)).any (·.1) = false := by rfl) :
    PE X (.Call (.Name x p) (e :: es) [] pos) (tCall sp [] E t) := by
  refine ⟨fun pins s σ H Q I h => ?_⟩
  refine wpAny_Call_Name_kw (ld_glob I hg hm ?_ hdb)
  refine PySem.W.callWith_K (h₀ := X.base) I.ok.mod.kin hk (thn (ha.run pos pins s σ H _ I h) fun us s1 ⟨vs, H1, I1, r, q⟩ => ⟨I1.kIn, ?_⟩) he hpl
  exact run_fnG F hr hG hb hx I1 r (List.append_nil vs ▸ (show sp (vs ++ []) H1 Q E from q))
/-- repr of a list of bools -/
def btx (b : Bool) : Str := if b then "True" else "False"
def reprBs (bs : List Bool) : Str := listText (bs.map btx)
theorem reprs_b {P : Program} {w : World} : ∀ {bs : List Bool} {its : List Value}, Vals (bs.map V.bl) its → ∀ (i : Nat) (y : Value), its[i]? = some y → ∃ t, (bs.map btx)[i]? = some t ∧ ReprIs P w y t
  | [], _, h, i, y, e => by
    cases h
    simp at e
  | b :: bs, _, h, 0, y, e => by
    cases h with
    | cons h1 h2 =>
      cases h1
      have e2 : Value.bool b = y := Option.some.inj e
      subst e2
      exact ⟨btx b, rfl, ReprIs.bool b⟩
  | b :: bs, _, h, i + 1, y, e => by
    cases h with
    | cons h1 h2 => exact reprs_b h2 i y e
def rReprB : List V → Hp → VK → Prop := fun xs H Q => ∃ a b bs, xs = [.ref a] ∧ H a = some (.lst ((b :: bs).map V.bl)) ∧ (reprBs (b :: bs)).length ≤ sizeLine ∧ Q (.str (reprBs (b :: bs))) H
theorem call_reprB (hr : Room k X.A) (hG : X.A.guards = some []) : CallR X (.builtin "repr") rReprB := fun pins s σ H xs us Q I r h => by
  obtain ⟨a, b, bs, rfl, ha, hz, q⟩ := h
  obtain ⟨u, rfl, ru⟩ := vals1 r
  cases ru
  obtain ⟨its, rv, ⟨o, n, ho, hc, hdn, hd⟩, hlen⟩ := I.list (SqL.of ha)
  cases rv with
  | cons r1 r2 =>
    rename_i i1 i2
    have hT : s.TypeIs (.ref a) "list" := ⟨o, ho, hc⟩
    refine call_repr_slot (by have := hr.units; omega) hT PySem.F.slot_list_repr.toG ?_
    refine call_list_repr (g := []) (ts := (b :: bs).map btx) hT hG (fun _ _ _ h => (nomatch h)) ho hd ?_ ?_ (fun h' u tk kp => ?_) hz
    · have e := r2.length
      rw [List.size_toArray, List.length_cons, ← e, List.length_map, List.length_map]
      rfl
    · intro i y e
      exact reprs_b (bs := b :: bs) (.cons r1 r2) i y (by simpa using e)
    · exact ⟨_, u, rfl, V.str (reprBs (b :: bs)), H, I.kept (t' := tk) kp, ⟨u, rfl⟩, q⟩
end
/-! ### the end: the law is called where no repr is under way -/
section
open PySem.Spec PyProof.Rows
theorem law_callG {P : Program} {w : World} {K : PySem.W.Frag} {mg mb : Str → Option Value} {k : Nat} {fa a : Addr} {fd : FuncData} {x : Str} {sp : Sp} {s₁ : Shared} {vs : List Value} {ns : List Int}
    (KX : K.In s₁.heap) (hns : s₁.heap.Ns mainGlobals mg) (hb : s₁.heap.Ns builtinsNs mb) (hbb : ∀ x : Str, x ≠ "__name__" → mb x = bootBuiltins x) (hlim : s₁.heap.NoLimit) (hg : s₁.gens = #[])
    (ha : s₁.heap.get? a = some { cls := .type "list", data := .seq vs.toArray }) (hi : IntsAre vs ns) (hl : ns.length ≤ sizeLine) (hr : Room k callerA)
    (F : ∀ base : Heap, K.In base → base.Ns mainGlobals mg → FnG P w K mg base CX0 k fa fd [x] sp) (hbind : ∀ (s : Shared) (u : Value), BindsTo s fd ⟨[u], []⟩ [(x, u)])
    (hsp : ∀ H : Hp, SqL K H a (ns.map V.int) → sp [.ref a] H (fun v _ => v = .bl true) fun _ _ _ => False) :
    codeAny (model P w) callerA (.call (.ref fa) ⟨[.ref a], []⟩) (fun r s' => r = .ok (.ret (.bool true)) ∧ OldK s₁.heap s'.heap ∧ s'.os = s₁.os ∧ AllBare s'.gens) s₁ := by
  have rv := vals_ints hi
  have core : ∀ H : Hp, SqL K H a (ns.map V.int) → HOk P w H s₁.heap → (∀ b u, H b = some u → b = a ∧ K.lookup a = none ∧ ∃ o ys, u = .frz o ys) →
      codeAny (model P w) callerA (.call (.ref fa) ⟨[.ref a], []⟩) (fun r s' => r = .ok (.ret (.bool true)) ∧ OldK s₁.heap s'.heap ∧ s'.os = s₁.os ∧ AllBare s'.gens) s₁ := by
    intro H hS hok hA
    have at_ : ∀ {b : Addr} {o : Obj}, s₁.heap.get? b = some o → (∀ u, H b ≠ some u) → (hidT s₁.heap H).get? b = some o := fun {b o} e n => hidT_get e (by
      cases q : H b with
      | none => rfl
      | some u => exact absurd q (n u))
    have ns_ : ∀ {b : Addr} {m : Str → Option Value}, s₁.heap.Ns b m → (hidT s₁.heap H).Ns b m := fun {b m} ⟨o, es, ep, e, d, r⟩ => ⟨o, es, ep, at_ e (fun u q => by
      obtain ⟨rfl, _⟩ := hA b u q
      rw [ha] at e
      cases e
      have z : Data.seq vs.toArray _ = Data.dict es ep := d
      cases z), d, r⟩
    have hK : K.In (hidT s₁.heap H) := fun b o e => at_ (KX b o e) (fun u q => by
      obtain ⟨rfl, n, _⟩ := hA b u q
      rw [n] at e
      cases e)
    have hM : Mod K mg (hidT s₁.heap H) := ⟨hK, ns_ hns, ⟨mb, ns_ hb, hbb⟩, let ⟨mc, h1, h2⟩ := hlim; ⟨mc, ns_ h1, h2⟩⟩
    have e0 : Env0 P w K mg (hidT s₁.heap H) callerA [] s₁ H := ⟨rfl, hM, fun b o e => of_hidT e, Nat.le_of_eq (hidT_size _ _), trivial, fun b hb => absurd (show b ∈ ([] : List Addr) from hb) (by simp), hok, .of_eq hg⟩
    refine codeAny_mono ((F _ hK (ns_ hns)).run callerA [] s₁ H ⟨[.ref a], []⟩ [.ref a] [.ref a] _ _ hr rfl e0 (hbind s₁ (.ref a)) (.cons rfl .nil) (hsp H hS)) fun r s' h => ?_
    match r, h with
    | .error e, h => exact False.elim h
    | .ok .next, h => exact False.elim h
    | .ok .brk, h => exact False.elim h
    | .ok .cont, h => exact False.elim h
    | .ok (.ret u), h =>
      obtain ⟨v, H', os, bare, un, hok', r', q⟩ := h
      obtain rfl : v = .bl true := q
      obtain rfl : u = Value.bool true := r'
      refine ⟨rfl, OldK.of_keep fun b o e => ?_, os, bare⟩
      cases q : H b with
      | none => exact un.keep b o e q (by intro z; exact absurd (show b ∈ ([] : List Addr) from z) (by simp)) (by simp)
      | some u =>
        obtain ⟨_, _, o', ys, rfl⟩ := hA b u q
        have q2 := un.frzs b o' _ q
        obtain ⟨e1, _⟩ := hok b _ q
        obtain ⟨e2, _⟩ := hok' b _ q2
        rw [e] at e1
        cases e1
        exact e2
  cases hk : K.lookup a with
  | some o =>
    have e := KX a o hk
    rw [ha] at e
    cases e
    exact core (fun _ => none) (.inr ⟨_, vs.toArray, _, hk, rfl, rfl, rfl, by rw [List.size_toArray, hi.length]; exact hl, by simpa using rv⟩) (fun b u z => nomatch z) (fun b u z => nomatch z)
  | none =>
    refine core (fun b => if b = a then some (.frz { cls := .type "list", data := .seq vs.toArray } (.lst (ns.map V.int))) else none) (.inl (.inr ⟨{ cls := .type "list", data := .seq vs.toArray }, if_pos rfl⟩)) (fun b u z => ?_) (fun b u z => ?_)
    · by_cases hb : b = a
      · have z' := (if_pos hb).symm.trans z
        cases z'
        subst hb
        exact ⟨ha, by rw [List.length_map]; exact hl, vs, _, rv, ha⟩
      · exact nomatch (if_neg hb).symm.trans z
    · by_cases hb : b = a
      · exact ⟨hb, hk, _, _, (Option.some.inj ((if_pos hb).symm.trans z)).symm⟩
      · exact nomatch (if_neg hb).symm.trans z
theorem walk_ofG {l : PySem.W.OpenLaw} {n k : Nat} {q : Program} {loose : List Str} {XP : (Str → Option Value) → Heap → Prop} {YP : World → Heap → Prop} {d : DefRec} {K : Params → PySem.W.Frag} {sp : PySem.W.Frag → Sp} {x : Str}
    (hn : l.most = some n) (hn2 : n ≤ sizeLine) (hdf : d.params.defaults = []) (hr : Room k callerA)
    (hY : ∀ (w : World) (h : Heap), YP w h → (K w.params).In h)
    (F : ∀ (w : World) (mg : Str → Option Value) (fa : Addr) (h : Heap), (K w.params).In h → h.Ns mainGlobals mg → mg d.name = some (.ref fa) →
      ∃ fd : FuncData, (∀ (s : Shared) (u : Value), BindsTo s fd ⟨[u], []⟩ [(x, u)]) ∧
        ∀ base : Heap, (K w.params).In base → base.Ns mainGlobals mg → FnG l.prog w (K w.params) mg base CX0 k fa fd [x] (sp (K w.params)))
    (hsp : ∀ (K : PySem.W.Frag) (H : Hp) (a : Addr) (ns : List Int), ns.length ≤ n → SqL K H a (ns.map V.int) → sp K [.ref a] H (fun v _ => v = .bl true) fun _ _ _ => False) :
    PySem.W.WalkO q loose XP YP l.row.toRowW d [] (fun f vs => PySem.call f vs) := by
  refine Att.attach_call hn hdf fun w s₀ s₁ mg mb fa o pm cd doc a vs ns G Y ho hd hcd hmg hobj hints hlen hg => ?_
  have KX := hY w _ Y
  obtain ⟨fd, hb, hF⟩ := F w mg fa _ KX G.T.g hmg
  exact law_callG KX G.T.g G.T.b G.T.builtins G.T.nolimit hg hobj hints (Nat.le_trans hlen hn2) hr hF hb (fun H hS => hsp _ H a ns hlen hS)
end

def top (i : Nat) : Stmt := PySem.Challenge.pw_lineorigins_k03_ratios_compared.main.body.getD i (.Pass ⟨0, 0, 0, 0⟩)
abbrev sIsInteger : Stmt := top 5
abbrev nIsInteger : List Str := ["value"]
theorem scIsInteger : FnScope nIsInteger ["value"] (defScope sIsInteger) := ⟨rfl, rfl, rfl, by decide +kernel, rfl, by decide +kernel, by decide +kernel⟩
abbrev sCommonDivisor : Stmt := top 6
abbrev nCommonDivisor : List Str := ["first", "second", "one", "other"]
theorem scCommonDivisor : FnScope nCommonDivisor ["first", "second"] (defScope sCommonDivisor) := ⟨rfl, rfl, rfl, by decide +kernel, rfl, by decide +kernel, by decide +kernel⟩
abbrev sRatioInit : Stmt := inClass (top 7) 0
abbrev nRatioInit : List Str := ["self", "top", "bottom", "divisor"]
theorem scRatioInit : FnScope nRatioInit ["self", "top", "bottom"] (defScope sRatioInit) := ⟨rfl, rfl, rfl, by decide +kernel, rfl, by decide +kernel, by decide +kernel⟩
abbrev sRatioBool : Stmt := inClass (top 7) 15
abbrev nRatioBool : List Str := ["self"]
theorem scRatioBool : FnScope nRatioBool ["self"] (defScope sRatioBool) := ⟨rfl, rfl, rfl, by decide +kernel, rfl, by decide +kernel, by decide +kernel⟩
abbrev sRatioEq : Stmt := inClass (top 7) 16
abbrev nRatioEq : List Str := ["self", "other", "value"]
theorem scRatioEq : FnScope nRatioEq ["self", "other"] (defScope sRatioEq) := ⟨rfl, rfl, rfl, by decide +kernel, rfl, by decide +kernel, by decide +kernel⟩
abbrev sRatioNe : Stmt := inClass (top 7) 17
abbrev nRatioNe : List Str := ["self", "other", "value"]
theorem scRatioNe : FnScope nRatioNe ["self", "other"] (defScope sRatioNe) := ⟨rfl, rfl, rfl, by decide +kernel, rfl, by decide +kernel, by decide +kernel⟩
abbrev sRatioLt : Stmt := inClass (top 7) 18
abbrev nRatioLt : List Str := ["self", "other", "value"]
theorem scRatioLt : FnScope nRatioLt ["self", "other"] (defScope sRatioLt) := ⟨rfl, rfl, rfl, by decide +kernel, rfl, by decide +kernel, by decide +kernel⟩
abbrev sRatioLe : Stmt := inClass (top 7) 19
abbrev nRatioLe : List Str := ["self", "other", "value"]
theorem scRatioLe : FnScope nRatioLe ["self", "other"] (defScope sRatioLe) := ⟨rfl, rfl, rfl, by decide +kernel, rfl, by decide +kernel, by decide +kernel⟩
abbrev sRatioGt : Stmt := inClass (top 7) 20
abbrev nRatioGt : List Str := ["self", "other", "value"]
theorem scRatioGt : FnScope nRatioGt ["self", "other"] (defScope sRatioGt) := ⟨rfl, rfl, rfl, by decide +kernel, rfl, by decide +kernel, by decide +kernel⟩
abbrev sRatioGe : Stmt := inClass (top 7) 21
abbrev nRatioGe : List Str := ["self", "other", "value"]
theorem scRatioGe : FnScope nRatioGe ["self", "other"] (defScope sRatioGe) := ⟨rfl, rfl, rfl, by decide +kernel, rfl, by decide +kernel, by decide +kernel⟩
abbrev sIsNumber : Stmt := top 8
abbrev nIsNumber : List Str := ["value"]
theorem scIsNumber : FnScope nIsNumber ["value"] (defScope sIsNumber) := ⟨rfl, rfl, rfl, by decide +kernel, rfl, by decide +kernel, by decide +kernel⟩
abbrev sRatioOf : Stmt := top 9
abbrev nRatioOf : List Str := ["number"]
theorem scRatioOf : FnScope nRatioOf ["number"] (defScope sRatioOf) := ⟨rfl, rfl, rfl, by decide +kernel, rfl, by decide +kernel, by decide +kernel⟩
abbrev sLawPool : Stmt := top 11
abbrev nLawPool : List Str := ["_law_script", "_law_numbers", "_law_seed", "_law_cell"]
theorem scLawPool : FnScope nLawPool ["_law_script"] (defScope sLawPool) := ⟨rfl, rfl, rfl, by decide +kernel, rfl, by decide +kernel, by decide +kernel⟩
abbrev sLawMixed : Stmt := top 12
abbrev nLawMixed : List Str := ["_law_number", "_law_count", "_law_many"]
theorem scLawMixed : FnScope nLawMixed ["_law_number", "_law_count", "_law_many"] (defScope sLawMixed) := ⟨rfl, rfl, rfl, by decide +kernel, rfl, by decide +kernel, by decide +kernel⟩
abbrev sLawDraw : Stmt := top 13
abbrev nLawDraw : List Str := ["_law_pool_here", "_law_many", "_law_at", "_law_numbers", "_law_cell"]
theorem scLawDraw : FnScope nLawDraw ["_law_pool_here", "_law_many"] (defScope sLawDraw) := ⟨rfl, rfl, rfl, by decide +kernel, rfl, by decide +kernel, by decide +kernel⟩
abbrev sLawLowest : Stmt := top 14
abbrev nLawLowest : List Str := ["_law_upper", "_law_lower", "_law_one", "_law_other"]
theorem scLawLowest : FnScope nLawLowest ["_law_upper", "_law_lower"] (defScope sLawLowest) := ⟨rfl, rfl, rfl, by decide +kernel, rfl, by decide +kernel, by decide +kernel⟩
abbrev sLawInteger : Stmt := top 15
abbrev nLawInteger : List Str := ["_law_pool_here", "_law_size"]
theorem scLawInteger : FnScope nLawInteger ["_law_pool_here"] (defScope sLawInteger) := ⟨rfl, rfl, rfl, by decide +kernel, rfl, by decide +kernel, by decide +kernel⟩
abbrev sLawPair : Stmt := top 16
abbrev nLawPair : List Str := ["_law_pool_here", "_law_upper", "_law_lower", "_law_times"]
theorem scLawPair : FnScope nLawPair ["_law_pool_here"] (defScope sLawPair) := ⟨rfl, rfl, rfl, by decide +kernel, rfl, by decide +kernel, by decide +kernel⟩
abbrev sLawSigns : Stmt := top 17
abbrev nLawSigns : List Str := ["_law_one", "_law_other"]
theorem scLawSigns : FnScope nLawSigns ["_law_one", "_law_other"] (defScope sLawSigns) := ⟨rfl, rfl, rfl, by decide +kernel, rfl, by decide +kernel, by decide +kernel⟩
abbrev sLawDue : Stmt := top 18
abbrev nLawDue : List Str := ["_law_first", "_law_second", "_law_left", "_law_right_here"]
theorem scLawDue : FnScope nLawDue ["_law_first", "_law_second"] (defScope sLawDue) := ⟨rfl, rfl, rfl, by decide +kernel, rfl, by decide +kernel, by decide +kernel⟩
abbrev sLawRight : Stmt := top 19
abbrev nLawRight : List Str := ["_law_first", "_law_second", "_law_number", "_law_one", "_law_other", "_law_whole", "_law_some", "_law_row"]
theorem scLawRight : FnScope nLawRight ["_law_first", "_law_second", "_law_number"] (defScope sLawRight) := ⟨rfl, rfl, rfl, by decide +kernel, rfl, by decide +kernel, by decide +kernel⟩
abbrev sLaw : Stmt := top 20
abbrev nLaw : List Str := ["_law_script", "_law_pool_here", "_law_k", "_law_some", "_law_first", "_law_second", "_law_number", "_law_ratio", "_law_odd", "_law_one"]
theorem scLaw : FnScope nLaw ["_law_script"] (defScope sLaw) := ⟨rfl, rfl, rfl, by decide +kernel, rfl, by decide +kernel, by decide +kernel⟩
structure Adr where
  k_Ratio : Addr
  a_IsInteger : Addr
  d_IsInteger : FuncData
  a_CommonDivisor : Addr
  d_CommonDivisor : FuncData
  a_RatioInit : Addr
  d_RatioInit : FuncData
  a_RatioBool : Addr
  d_RatioBool : FuncData
  a_RatioEq : Addr
  d_RatioEq : FuncData
  a_RatioNe : Addr
  d_RatioNe : FuncData
  a_RatioLt : Addr
  d_RatioLt : FuncData
  a_RatioLe : Addr
  d_RatioLe : FuncData
  a_RatioGt : Addr
  d_RatioGt : FuncData
  a_RatioGe : Addr
  d_RatioGe : FuncData
  a_IsNumber : Addr
  d_IsNumber : FuncData
  a_RatioOf : Addr
  d_RatioOf : FuncData
  a_LawPool : Addr
  d_LawPool : FuncData
  a_LawMixed : Addr
  d_LawMixed : FuncData
  a_LawDraw : Addr
  d_LawDraw : FuncData
  a_LawLowest : Addr
  d_LawLowest : FuncData
  a_LawInteger : Addr
  d_LawInteger : FuncData
  a_LawPair : Addr
  d_LawPair : FuncData
  a_LawSigns : Addr
  d_LawSigns : FuncData
  a_LawDue : Addr
  d_LawDue : FuncData
  a_LawRight : Addr
  d_LawRight : FuncData
  a_Law : Addr
  d_Law : FuncData
structure Txt (K : PySem.W.Frag) (mg : Str → Option Value) (A : Adr) : Prop where
  k_Ratio : mg "Ratio" = some (.ref A.k_Ratio)
  t_Ratio : TyF K A.k_Ratio
  mk_Ratio : Mk K A.k_Ratio A.a_RatioInit
  n_Ratio_kept_top : NoAttr K A.k_Ratio "kept_top"
  n_Ratio_kept_bottom : NoAttr K A.k_Ratio "kept_bottom"
  q_Ratio_int : PySem.W.kitOne K (.ref A.k_Ratio) (.type "int") = some false
  q_Ratio_bool : PySem.W.kitOne K (.ref A.k_Ratio) (.type "bool") = some false
  q_int_Ratio : PySem.W.kitOne K (.type "int") (.ref A.k_Ratio) = some false
  q_bool_Ratio : PySem.W.kitOne K (.type "bool") (.ref A.k_Ratio) = some false
  q_str_Ratio : PySem.W.kitOne K (.type "str") (.ref A.k_Ratio) = some false
  q_list_Ratio : PySem.W.kitOne K (.type "list") (.ref A.k_Ratio) = some false
  q_tuple_Ratio : PySem.W.kitOne K (.type "tuple") (.ref A.k_Ratio) = some false
  q_dict_Ratio : PySem.W.kitOne K (.type "dict") (.ref A.k_Ratio) = some false
  q_NoneType_Ratio : PySem.W.kitOne K (.type "NoneType") (.ref A.k_Ratio) = some false
  cr_Ratio : ClX.CRead K A.k_Ratio (.type "type")
  w_Ratio_int : PySem.W.notFirst K A.k_Ratio (.type "int") = true
  w_Ratio_bool : PySem.W.notFirst K A.k_Ratio (.type "bool") = true
  w_Ratio_str : PySem.W.notFirst K A.k_Ratio (.type "str") = true
  w_Ratio_list : PySem.W.notFirst K A.k_Ratio (.type "list") = true
  w_Ratio_tuple : PySem.W.notFirst K A.k_Ratio (.type "tuple") = true
  w_Ratio_dict : PySem.W.notFirst K A.k_Ratio (.type "dict") = true
  w_Ratio_NoneType : PySem.W.notFirst K A.k_Ratio (.type "NoneType") = true
  f_IsInteger : Fun K "is_integer" "is_integer" sIsInteger A.a_IsInteger A.d_IsInteger
  m_IsInteger : mg "is_integer" = some (.ref A.a_IsInteger)
  b_IsInteger : Binds K A.d_IsInteger ["value"] []
  f_CommonDivisor : Fun K "common_divisor" "common_divisor" sCommonDivisor A.a_CommonDivisor A.d_CommonDivisor
  m_CommonDivisor : mg "common_divisor" = some (.ref A.a_CommonDivisor)
  b_CommonDivisor : Binds K A.d_CommonDivisor ["first", "second"] []
  f_RatioInit : FunD K "__init__" "Ratio.__init__" (defArgs sRatioInit) (defBody sRatioInit) (defScope sRatioInit) [.int 1] [] A.a_RatioInit A.d_RatioInit
  e1_RatioInit : ∃ ds, Vals [.int 1] ds ∧ Binds K A.d_RatioInit ["self", "top", "bottom"] ds
  h_RatioInit : Meth K A.k_Ratio "__init__" A.a_RatioInit
  b_RatioInit : Binds K A.d_RatioInit ["self", "top", "bottom"] []
  f_RatioBool : Fun K "__bool__" "Ratio.__bool__" sRatioBool A.a_RatioBool A.d_RatioBool
  h_RatioBool : Meth K A.k_Ratio "__bool__" A.a_RatioBool
  o_RatioBool : UnF K A.k_Ratio A.a_RatioBool "__bool__"
  b_RatioBool : Binds K A.d_RatioBool ["self"] []
  f_RatioEq : Fun K "__eq__" "Ratio.__eq__" sRatioEq A.a_RatioEq A.d_RatioEq
  h_RatioEq : Meth K A.k_Ratio "__eq__" A.a_RatioEq
  o_RatioEq : CmF K A.k_Ratio A.a_RatioEq .Eq
  r_RatioEq : CmI K A.k_Ratio A.a_RatioEq .Eq
  b_RatioEq : Binds K A.d_RatioEq ["self", "other"] []
  f_RatioNe : Fun K "__ne__" "Ratio.__ne__" sRatioNe A.a_RatioNe A.d_RatioNe
  h_RatioNe : Meth K A.k_Ratio "__ne__" A.a_RatioNe
  o_RatioNe : CmF K A.k_Ratio A.a_RatioNe .NotEq
  r_RatioNe : CmI K A.k_Ratio A.a_RatioNe .NotEq
  b_RatioNe : Binds K A.d_RatioNe ["self", "other"] []
  f_RatioLt : Fun K "__lt__" "Ratio.__lt__" sRatioLt A.a_RatioLt A.d_RatioLt
  h_RatioLt : Meth K A.k_Ratio "__lt__" A.a_RatioLt
  o_RatioLt : CmF K A.k_Ratio A.a_RatioLt .Lt
  r_RatioLt : CmI K A.k_Ratio A.a_RatioLt .Gt
  b_RatioLt : Binds K A.d_RatioLt ["self", "other"] []
  f_RatioLe : Fun K "__le__" "Ratio.__le__" sRatioLe A.a_RatioLe A.d_RatioLe
  h_RatioLe : Meth K A.k_Ratio "__le__" A.a_RatioLe
  o_RatioLe : CmF K A.k_Ratio A.a_RatioLe .LtE
  r_RatioLe : CmI K A.k_Ratio A.a_RatioLe .GtE
  b_RatioLe : Binds K A.d_RatioLe ["self", "other"] []
  f_RatioGt : Fun K "__gt__" "Ratio.__gt__" sRatioGt A.a_RatioGt A.d_RatioGt
  h_RatioGt : Meth K A.k_Ratio "__gt__" A.a_RatioGt
  o_RatioGt : CmF K A.k_Ratio A.a_RatioGt .Gt
  r_RatioGt : CmI K A.k_Ratio A.a_RatioGt .Lt
  b_RatioGt : Binds K A.d_RatioGt ["self", "other"] []
  f_RatioGe : Fun K "__ge__" "Ratio.__ge__" sRatioGe A.a_RatioGe A.d_RatioGe
  h_RatioGe : Meth K A.k_Ratio "__ge__" A.a_RatioGe
  o_RatioGe : CmF K A.k_Ratio A.a_RatioGe .GtE
  r_RatioGe : CmI K A.k_Ratio A.a_RatioGe .LtE
  b_RatioGe : Binds K A.d_RatioGe ["self", "other"] []
  f_IsNumber : Fun K "is_number" "is_number" sIsNumber A.a_IsNumber A.d_IsNumber
  m_IsNumber : mg "is_number" = some (.ref A.a_IsNumber)
  b_IsNumber : Binds K A.d_IsNumber ["value"] []
  f_RatioOf : Fun K "ratio_of" "ratio_of" sRatioOf A.a_RatioOf A.d_RatioOf
  m_RatioOf : mg "ratio_of" = some (.ref A.a_RatioOf)
  b_RatioOf : Binds K A.d_RatioOf ["number"] []
  f_LawPool : Fun K "_law_pool" "_law_pool" sLawPool A.a_LawPool A.d_LawPool
  m_LawPool : mg "_law_pool" = some (.ref A.a_LawPool)
  b_LawPool : Binds K A.d_LawPool ["_law_script"] []
  f_LawMixed : Fun K "_law_mixed" "_law_mixed" sLawMixed A.a_LawMixed A.d_LawMixed
  m_LawMixed : mg "_law_mixed" = some (.ref A.a_LawMixed)
  b_LawMixed : Binds K A.d_LawMixed ["_law_number", "_law_count", "_law_many"] []
  f_LawDraw : Fun K "_law_draw" "_law_draw" sLawDraw A.a_LawDraw A.d_LawDraw
  m_LawDraw : mg "_law_draw" = some (.ref A.a_LawDraw)
  b_LawDraw : Binds K A.d_LawDraw ["_law_pool_here", "_law_many"] []
  f_LawLowest : Fun K "_law_lowest" "_law_lowest" sLawLowest A.a_LawLowest A.d_LawLowest
  m_LawLowest : mg "_law_lowest" = some (.ref A.a_LawLowest)
  b_LawLowest : Binds K A.d_LawLowest ["_law_upper", "_law_lower"] []
  f_LawInteger : Fun K "_law_integer" "_law_integer" sLawInteger A.a_LawInteger A.d_LawInteger
  m_LawInteger : mg "_law_integer" = some (.ref A.a_LawInteger)
  b_LawInteger : Binds K A.d_LawInteger ["_law_pool_here"] []
  f_LawPair : Fun K "_law_pair" "_law_pair" sLawPair A.a_LawPair A.d_LawPair
  m_LawPair : mg "_law_pair" = some (.ref A.a_LawPair)
  b_LawPair : Binds K A.d_LawPair ["_law_pool_here"] []
  f_LawSigns : Fun K "_law_signs" "_law_signs" sLawSigns A.a_LawSigns A.d_LawSigns
  m_LawSigns : mg "_law_signs" = some (.ref A.a_LawSigns)
  b_LawSigns : Binds K A.d_LawSigns ["_law_one", "_law_other"] []
  f_LawDue : Fun K "_law_due" "_law_due" sLawDue A.a_LawDue A.d_LawDue
  m_LawDue : mg "_law_due" = some (.ref A.a_LawDue)
  b_LawDue : Binds K A.d_LawDue ["_law_first", "_law_second"] []
  f_LawRight : Fun K "_law_right" "_law_right" sLawRight A.a_LawRight A.d_LawRight
  m_LawRight : mg "_law_right" = some (.ref A.a_LawRight)
  b_LawRight : Binds K A.d_LawRight ["_law_first", "_law_second", "_law_number"] []
  f_Law : Fun K "law" "law" sLaw A.a_Law A.d_Law
  m_Law : mg "law" = some (.ref A.a_Law)
  b_Law : Binds K A.d_Law ["_law_script"] []
  z_isinstance : mg "isinstance" = none
  z_int : mg "int" = none
  z_bool : mg "bool" = none
  z_abs : mg "abs" = none
  z_NotImplemented : mg "NotImplemented" = none
  z_len : mg "len" = none
  z_repr : mg "repr" = none
  z_range : mg "range" = none
  z_str : mg "str" = none
/-! ## small words over the hand layer (own work) -/
section
variable {X : Cx}
/-- a list's item, a tuple's item, by the tracked object -/
def rIxH : R2 := fun x y H Q => ∃ p xs i v, x = .ref p ∧ y = .int i ∧ H p = some (.lst xs) ∧ atI xs i = some v ∧ Q v H
def rIxU : R2 := fun x y H Q => ∃ p xs i v, x = .ref p ∧ y = .int i ∧ H p = some (.tup xs) ∧ atI xs i = some v ∧ Q v H
theorem ix_lstH : IxR X rIxH := fun value slice pins s σ H x y v u Q I rx ry h hs => by
  obtain ⟨p, xs, i, z, h1, h2, h3, h4, h5⟩ := h
  exact ix_list value slice pins s σ H x y v u Q I rx ry ⟨p, xs, i, z, h1, h2, SqL.of h3, h4, h5⟩ hs
theorem ix_tupH : IxR X rIxU := fun value slice pins s σ H x y v u Q I rx ry h hs => by
  obtain ⟨p, xs, i, z, h1, h2, h3, h4, h5⟩ := h
  exact ix_tup value slice pins s σ H x y v u Q I rx ry ⟨p, xs, i, z, h1, h2, SqT.of h3, h4, h5⟩ hs
def rLenH : List V → Hp → VK → Prop := fun vs H Q => ∃ p ys, vs = [.ref p] ∧ H p = some (.lst ys) ∧ Q (.int ys.length) H
theorem call_lenH : CallR X (.builtin "len") rLenH := fun pins s σ H xs us Q I r h => by
  obtain ⟨p, ys, h1, h2, h3⟩ := h
  exact call_len_seq pins s σ H xs us Q I r ⟨p, ys, h1, Or.inl (SqL.of h2), h3⟩
def rLenU : List V → Hp → VK → Prop := fun vs H Q => ∃ p ys, vs = [.ref p] ∧ H p = some (.tup ys) ∧ Q (.int ys.length) H
theorem call_lenU : CallR X (.builtin "len") rLenU := fun pins s σ H xs us Q I r h => by
  obtain ⟨p, ys, h1, h2, h3⟩ := h
  exact call_len_seq pins s σ H xs us Q I r ⟨p, ys, h1, Or.inr (SqT.of h2), h3⟩
def rLenS : List V → Hp → VK → Prop := fun vs H Q => ∃ z, vs = [.str z] ∧ z.length ≤ sizeLine ∧ Q (.int z.length) H
theorem call_lenS : CallR X (.builtin "len") rLenS := call_len_str
/-- int(i) of an int -/
def rInt1 : List V → Hp → VK → Prop := fun vs H Q => ∃ i, vs = [.int i] ∧ Q (.int i) H
theorem call_intI : CallR X (.type "int") rInt1 := fun pins s σ H xs us Q I r h => call_int1 pins s σ H xs us Q I r (Or.inl h)
end
section
variable {α : Type} {a b c d e f g h : α} {r : List α}
theorem at0 : atI (a :: r) 0 = some a := by
  have q : ixN (a :: r).length 0 = some 0 := by
    unfold ixN
    rw [if_pos (by decide), if_pos (by rw [List.length_cons]; omega)]
    rfl
  unfold atI
  rw [q]
  rfl
theorem atN (n : Nat) {xs : List α} {v : α} (h : xs[n]? = some v) : atI xs (OfNat.ofNat n) = some v := atI_nat h
theorem at1 : atI (a :: b :: r) 1 = some b := atI_nat (j := 1) rfl
theorem at2 : atI (a :: b :: c :: r) 2 = some c := atI_nat (j := 2) rfl
theorem at3 : atI (a :: b :: c :: d :: r) 3 = some d := atI_nat (j := 3) rfl
theorem at4 : atI (a :: b :: c :: d :: e :: r) 4 = some e := atI_nat (j := 4) rfl
theorem at5 : atI (a :: b :: c :: d :: e :: f :: r) 5 = some f := atI_nat (j := 5) rfl
theorem ix51 : ixN 5 1 = some 1 := rfl
theorem ix52 : ixN 5 2 = some 2 := rfl
theorem ix54 : ixN 5 4 = some 4 := rfl
end
theorem scal_int {a b : Int} : scal (.int a) (.int b) = true := rfl
theorem scal_str {a b : Str} : scal (.str a) (.str b) = true := rfl
theorem scal_bl {a b : Bool} : scal (.bl a) (.bl b) = true := rfl
/-! ### loops -/
/-- the turns of a for, of a comprehension, as one word each (never opened by simp) -/
def forGo (J : It) (g : TG) (tb : TS) (D : Ends) (σ : St) (H1 : Hp) : Prop := ∃ W : Nat → Nat → St → Hp → Prop, (∃ m, W 0 m σ H1) ∧ ∀ i m σ H, W i m σ H →
  (J.stop i H ∧ D.nx σ H) ∨ (J.go i H ∧ ∃ N : St → Hp → Prop, (∀ σ' H', N σ' H' → ∃ m', m' < m ∧ W (i + 1) m' σ' H') ∧ ∀ x H', J.yld i H x H' → g x σ H' fun σ2 H2 => tb { D with nx := N, ct := N, bk := D.nx } σ2 H2)
theorem tFor_eq {wi : TI} {g : TG} {tb : TS} {D : Ends} {σ : St} {H : Hp} : tFor wi g tb D σ H = wi σ H fun J H1 => forGo J g tb D σ H1 := rfl
def lcGo (J : It) (g : TG) (tt : TT) (te : TE) (vs : List Nat) (σ : St) (D : Addr) (Q : VK) (H1 : Hp) : Prop := ∃ W : Nat → Nat → Hp → Prop, (∃ m, W 0 m (upd H1 D (.lst []))) ∧ ∀ i m H, W i m H →
  (J.stop i H ∧ Q (.ref D) H) ∨ (J.go i H ∧ ∃ Nx : Hp → Prop, (∀ H', Nx H' → ∃ m', m' < m ∧ W (i + 1) m' H') ∧ ∀ x H', J.yld i H x H' → g x (wipe σ vs) H' fun σ2 H2 => wipe σ2 vs = wipe σ vs ∧ tt σ2 H2 fun b H3 =>
    if b = true then te σ2 H3 fun y H4 => ∃ acc, H4 D = some (.lst acc) ∧ acc.length < sizeLine ∧ Nx (upd H4 D (.lst (acc ++ [y]))) else Nx H3)
theorem tLc_eq {wi : TI} {g : TG} {tt : TT} {te : TE} {vs : List Nat} {σ : St} {H : Hp} {Q : VK} : tLc wi g tt te vs σ H Q = wi σ H fun J H1 => ∀ D, H1 D = none → lcGo J g tt te vs σ D Q H1 := rfl
/-- what a walk gives, as a list -/
def sgn (c : Nat) : V := .str ⟨#[c]⟩
theorem walk_strY {z : Str} : Walk (Its z) (z.cps.toList.map sgn).length (fun _ => True) (YAt (z.cps.toList.map sgn)) := by
  have e : (z.cps.toList.map sgn).length = z.cps.size := by simp
  rw [e]
  refine walk_str.mono (fun _ h => h) fun i H x H' hi _ y => ?_
  obtain ⟨h1, c, h2, h3⟩ := y
  refine ⟨h1, ?_⟩
  rw [List.getElem?_map]
  have q : z.cps.toList[i]? = some c := by simpa using h2
  rw [q, h3]
  rfl
def rngV (lo : Int) (n : Nat) : List V := (List.range n).map fun i => V.int (lo + (i : Nat))
theorem rngV_len {lo : Int} {n : Nat} : (rngV lo n).length = n := by simp [rngV]
theorem walk_rangeY {lo : Int} {n : Nat} : Walk (Itr lo n) (rngV lo n).length (fun _ => True) (YAt (rngV lo n)) := by
  rw [rngV_len]
  refine walk_range.mono (fun _ h => h) fun i H x H' hi _ y => ?_
  obtain ⟨h1, h2⟩ := y
  refine ⟨h1, ?_⟩
  unfold rngV
  rw [List.getElem?_map, List.getElem?_range hi, h2]
  rfl
theorem take_get {α : Type} {l : List α} {i : Nat} {x : α} (h : l[i]? = some x) : l.take (i + 1) = l.take i ++ [x] := by
  rw [List.take_add_one, h]
  rfl
/-- a comprehension whose turns leave all that is tracked: what it chooses, what it gives -/
theorem lc_same {J : It} {xs : List V} {G : Hp → Prop} (w : Walk J xs.length G (YAt xs)) {g : TG} {tt : TT} {te : TE} {vs : List Nat} {σ : St} {D : Addr} {Q : VK} {H1 : Hp} (sel : V → Bool) (val : V → V)
    (hD : H1 D = none) (hG : ∀ H, Same H1 H → G H) (hz : xs.length ≤ 100000)
    (turn : ∀ x, x ∈ xs → ∀ H, Same H1 H → ∀ (R : VK) (R0 : Hp → Prop), (∀ H', Same H H' → sel x = true → R (val x) H') → (∀ H', Same H H' → sel x = false → R0 H') → g x (wipe σ vs) H fun σ2 H2 => wipe σ2 vs = wipe σ vs ∧ tt σ2 H2 fun b H3 => if b = true then te σ2 H3 R else R0 H3)
    (done : ∀ H, Same H1 H → H D = some (.lst ((xs.filter sel).map val)) → Q (.ref D) H) : lcGo J g tt te vs σ D Q H1 := by
  refine lc_it w (fun i H => Same H1 H ∧ H D = some (.lst (((xs.take i).filter sel).map val))) ⟨fun b o e => by rw [upd_ne (ne_of_none e hD)]; exact e, by rw [upd_same]; rfl⟩ (fun i H _ p => hG H p.1) (fun i x H H' hi p y => ?_) (fun H p => ?_)
  · obtain ⟨rfl, hx⟩ := y
    obtain ⟨s1, hacc⟩ := p
    have hm : x ∈ xs := List.mem_of_getElem? hx
    refine turn x hm _ s1 _ _ (fun H2 s2 hs => ?_) (fun H2 s2 hs => ?_)
    · refine ⟨_, s2 _ _ hacc, ?_, fun b o e => ?_, ?_⟩
      · rw [List.length_map]
        have q1 := List.length_filter_le sel (xs.take i)
        rw [List.length_take] at q1
        exact Nat.lt_of_le_of_lt (m := 100000) (by omega) (by decide)
      · rw [upd_ne (ne_of_none e hD)]
        exact s2 _ _ (s1 _ _ e)
      · rw [upd_same, take_get hx, List.filter_append, List.map_append, List.filter_cons, if_pos hs]
        rfl
    · refine ⟨s1.trans s2, ?_⟩
      rw [s2 _ _ hacc, take_get hx, List.filter_append, List.map_append, List.filter_cons, if_neg (by rw [hs]; decide)]
      simp
  · rw [List.take_length] at p
    exact done H p.1 p.2
theorem same_new {H : Hp} {p : Addr} {o : HO} (h : H p = none) : Same H (upd H p o) := fun b x e => by
  rw [upd_ne (ne_of_none e h)]
  exact e
theorem Same.tup {K : PySem.W.Frag} {H H' : Hp} {a : Addr} {xs : List V} (e : Same H H') (h : SqT K H a xs) : SqT K H' a xs := by
  rcases h with (h | ⟨o, h⟩) | h
  · exact .inl (.inl (e _ _ h))
  · exact .inl (.inr ⟨o, e _ _ h⟩)
  · exact .inr h
theorem cxOf_K {CX : CXT} {P : Program} {w : World} {K : PySem.W.Frag} {mg : Str → Option Value} {base : Heap} {N : List Str} {qual : Str} {scope : Scope} {f : Addr} {cd : Value} {A : Around} {outer : List Env} {s : Shared} {H : Hp} {E : XK} :
    (cxOf CX P w K mg base N qual scope f cd A outer s H E).K = K := rfl
theorem cut_to {xs : List V} {n : Nat} : cutV xs none (some (n : Int)) = xs.take n := by
  unfold cutV
  rw [HT.sIx_none, HT.sIx_nat]
  show List.take (min n xs.length - 0) xs = _
  rw [Nat.sub_zero]
  by_cases h : n ≤ xs.length
  · rw [Nat.min_eq_left h]
  · rw [Nat.min_eq_right (by omega), List.take_of_length_le (by omega), List.take_of_length_le (by omega)]
theorem cut_from {xs : List V} {n : Nat} : cutV xs (some (n : Int)) none = xs.drop n := by
  unfold cutV
  rw [HT.sIx_none, HT.sIx_nat]
  by_cases h : n ≤ xs.length
  · rw [Nat.min_eq_left h, List.take_of_length_le (by rw [List.length_drop]; omega)]
  · rw [Nat.min_eq_right (by omega), List.drop_of_length_le (by omega), List.drop_of_length_le (by omega), List.take_nil]
theorem cut_from1 {xs : List V} {n : Nat} : cutV xs (some ((n : Int) + 1)) none = xs.drop (n + 1) := cut_from (n := n + 1)
theorem mem_int {v : V} {ns : List Int} (h : v ∈ ns.map V.int) : ∃ i, v = .int i := by
  obtain ⟨i, _, e⟩ := List.mem_map.mp h
  exact ⟨i, e.symm⟩
/-- a for over what a walk gives -/
theorem for_go {J : It} {xs : List V} {G : Hp → Prop} (w : Walk J xs.length G (YAt xs)) {g : TG} {tb : TS} {D : Ends} {σ : St} {H : Hp} (Pv : Nat → St → Hp → Prop) (h0 : Pv 0 σ H) (hG : ∀ i σ H, i ≤ xs.length → Pv i σ H → G H)
    (hs : ∀ i x σ H, xs[i]? = some x → Pv i σ H → g x σ H fun σ2 H2 => tb { D with nx := Pv (i + 1), ct := Pv (i + 1), bk := D.nx } σ2 H2) (hd : ∀ σ H, Pv xs.length σ H → D.nx σ H) : forGo J g tb D σ H := by
  refine for_it w Pv h0 hG (fun i x σ H H' hi p y => ?_) hd
  obtain ⟨rfl, hx⟩ := y
  exact hs i x σ _ hx p
theorem new_facts {H H1 : Hp} {p : Addr} {o : HO} (hp : H p = none) (hG : upd H p o = H1) : Same H H1 ∧ H1 p = some o := by
  subst hG
  exact ⟨same_new hp, upd_same⟩

/-! ## the pool of draws -/
def spLawMixed : Sp := fun vs H Q _ => ∃ (n c m : Int), vs = [.int n, .int c, .int m] ∧ 0 ≤ n ∧ n < 4294967296 ∧ 0 ≤ c ∧ c ≤ 100000000 ∧ 0 < m ∧ ∀ v, 0 ≤ v → v < m → Q (.int v) H
theorem pow_ok {n c : Int} (h0 : 0 ≤ n) (h1 : n < 4294967296) (h2 : 0 ≤ c) (h3 : c ≤ 100000000) : (n + 7919 * c).natAbs < 2 ^ 64 := by
  have : (2 : Nat) ^ 64 = 18446744073709551616 := by decide
  omega
theorem nat_lt_of {c : Int} {a m : Nat} (h0 : 0 ≤ c) (h : c < (m : Int)) (hm : m ≤ 2 ^ a) : c.natAbs < 2 ^ a := Nat.lt_of_lt_of_le (by omega) hm
section
variable {P : Program} {w : World} {K : PySem.W.Frag} {mg : Str → Option Value} {base : Heap} {A : Adr}
theorem ok_mixed (T : Txt K mg A) : FnOk P w K mg base CX0 1 A.a_LawMixed A.d_LawMixed ["_law_number", "_law_count", "_law_many"] spLawMixed := by
  refine T.f_LawMixed.ok scLawMixed (fun vs H Q E h => ?_) (fun cdv A' outer s H vs Q E hr h => ?_)
  · obtain ⟨n, c, m, rfl, _⟩ := h
    rfl
  · obtain ⟨n, c, m, rfl, h0, h1, h2, h3, h4, k⟩ := h
    refine ⟨_, (pss_one (ps_ret (pe_op op_mod (pe_op op_fdivW (pe_callTy call_intI (by rfl) T.z_int (by decide +kernel) (pa_cons (pe_op op_mod (pe_op op_pow (pe_callTy call_intI (by rfl) T.z_int (by decide +kernel) (pa_cons (pe_op op_add (pv 0) (pe_op op_mulW pe_int (pv 1))) pa_nil)) pe_int) pe_int) pa_nil)) pe_int) (pv 2)))), ?_⟩
    simp only [tSeq, tNext, tRet, tRetN, tAsg, gName, gSub, tDrop, tIfS, tOp, tUn, tCB, tCons, tNil, tC, tVar, rI, rI0, rU, tAnd, tOr, tNot, tAndV, tOrV, tNotV, tIf, tTest, tB, tCall, tChain, tLst, tTup, tYes, rIxH, rIxU, rLenH, rLenU, rLenS, rInt1, rSetL, rEq, rNe, rCat, L2.start, List.map, List.length, List.length_cons, List.length_nil, List.replicate, List.getElem?_cons_zero, List.getElem?_cons_succ, List.set_cons_zero, List.set_cons_succ, List.set_nil, List.cons_append, List.nil_append, List.append_nil, Option.some.injEq, V.int.injEq, V.ref.injEq, V.str.injEq, V.bl.injEq, HO.lst.injEq, HO.tup.injEq, exists_eq_left', exists_and_left, exists_eq_left, List.cons.injEq, and_true, true_and, and_false, false_and, and_self, reduceCtorEq, exists_false, or_false, false_or, exists_const, at0, at1, at2, at3, at4, at5, ix51, ix52, ix54, upd_same, Nat.reduceAdd, Nat.reduceSub, Nat.zero_add, Int.reduceToNat, Int.reduceLE, Int.reduceLT, decide_eq_true_eq, Bool.not_eq_true, if_true, if_false, Bool.false_eq_true, ite_true, ite_false, Bool.not_true, Bool.not_false, decide_true, decide_false, tFor_eq, tLc_eq, iList, iTup, iRng1, iRng2, iStr, tSl, tPart, tNoPart, rSlL, cxOf_K, wipe]
    refine ⟨wide_mul (a := 13) (b := 27) (by decide) (nat_lt_of (m := 134217728) h2 (by omega) (by decide)) (by decide) (by decide) (by decide), ⟨by decide, by decide, pow_ok h0 h1 h2 h3⟩, wide_div (b := 5) (by decide) (by decide) (by decide) (by decide), h4, k _ (Int.emod_nonneg _ (by omega)) (Int.emod_lt_of_pos _ h4)⟩
/-- the pool's list stands at p, its numbers at l; at most c draws so far -/
def PoolAt (p l : Addr) (c : Nat) (H : Hp) : Prop := ∃ (ns : List Int) (t n z y : Int), H p = some (.lst [.ref l, .int t, .int n, .int z, .int y]) ∧ H l = some (.lst (ns.map V.int)) ∧ 0 ≤ t ∧ ns.length ≤ 63 ∧ 0 ≤ n ∧ n ≤ (c : Int) ∧ 0 ≤ z ∧ z < 2147483647
/-- all but the pool's two lists is as it was -/
def Off (p l : Addr) (H H' : Hp) : Prop := ∀ b, b ≠ p → b ≠ l → H' b = H b
def spLawDraw : Sp := fun vs H Q _ => ∃ (p l : Addr) (m : Int) (c : Nat), vs = [.ref p, .int m] ∧ 0 < m ∧ m < 1000000000000000000000000000000000000000 ∧ PoolAt p l c H ∧ c ≤ 90000000 ∧ ∀ v H', 0 ≤ v → v < m → PoolAt p l (c + 1) H' → Off p l H H' → Q (.int v) H'
theorem ok_draw (T : Txt K mg A) (gLawMixed : FnOk P w K mg base CX0 1 A.a_LawMixed A.d_LawMixed ["_law_number", "_law_count", "_law_many"] spLawMixed) : FnOk P w K mg base CX0 2 A.a_LawDraw A.d_LawDraw ["_law_pool_here", "_law_many"] spLawDraw := by
  refine T.f_LawDraw.ok scLawDraw (fun vs H Q E h => ?_) (fun cdv A' outer s H vs Q E hr h => ?_)
  · obtain ⟨p, l, m, c, rfl, _⟩ := h
    rfl
  · obtain ⟨p, l, m, c, rfl, m0, m1, ⟨ns, t, n, z, y, hp, hl, t0, nl, n0, n1, z0, z1⟩, c1, k⟩ := h
    have npl : p ≠ l := ne_of hp hl (by intro q; cases ns with | nil => cases q | cons _ _ => cases q)
    have e1 : ∀ (G : Hp) (o : HO), upd G p o l = G l := fun G o => upd_ne npl.symm
    have e2 : ∀ (G : Hp) (o : HO), upd G l o p = G p := fun G o => upd_ne npl
    have hm : CDivW 0 m := wide_div (b := 130) m0 (nat_lt_of (m := 1000000000000000000000000000000000000000) (by omega) (by omega) (by decide)) (by decide) (by decide)
    refine ⟨_, (pss_cons (ps_asg (pe_op op_add (pe_ix ix_lstH (pv 0) pe_int (fun _ _ => rfl)) pe_int) (pg_sub (pv 0) pe_int set_list))
      (pss_cons (ps_if (pt_cmpR (op_ge) (pe_ix ix_lstH (pv 0) pe_int (fun _ _ => rfl)) (pe_callB call_lenH (by rfl) T.z_len (by decide +kernel) (pa_cons (pe_ix ix_lstH (pv 0) pe_int (fun _ _ => rfl)) pa_nil)) (nomark _)) (pss_one (ps_ret (pe_call gLawMixed (hr.mono (by decide)) (by rfl) T.m_LawMixed T.f_LawMixed.kp T.b_LawMixed .nil pass0 (pa_cons (pe_ix ix_lstH (pv 0) pe_int (fun _ _ => rfl)) (pa_cons (pe_ix ix_lstH (pv 0) pe_int (fun _ _ => rfl)) (pa_cons (pv 1) pa_nil)))))) pss_nil)
      (pss_cons (ps_set (i := 2) scLawDraw.nd rfl (Or.inl rfl) (pe_ix ix_lstH (pv 0) pe_int (fun _ _ => rfl)))
      (pss_cons (ps_set (i := 3) scLawDraw.nd rfl (Or.inl rfl) (pe_ix ix_lstH (pv 0) pe_int (fun _ _ => rfl)))
      (pss_cons (ps_set (i := 4) scLawDraw.nd rfl (Or.inl rfl) (pe_ix ix_lstH (pv 3) (pv 2) (fun _ _ => rfl)))
      (pss_cons (ps_if (PW.pt (pw_and (pt_cmpR (op_ne) (pe_ix ix_lstH (pv 0) pe_int (fun _ _ => rfl)) pe_int (nomark _)) (pw_and1 (pt_cmpR (op_lt) (pv 4) (pe_op op_pow pe_int pe_int) (nomark _))))) (pss_cons (ps_asg (pe_op op_add (pe_ix ix_lstH (pv 0) pe_int (fun _ _ => rfl)) pe_int) (pg_sub (pv 0) pe_int set_list))
      (pss_cons (ps_if (pt_cmpR (op_eq) (pe_ix ix_lstH (pv 0) pe_int (fun _ _ => rfl)) pe_int (nomark _)) (pss_cons (ps_asg (pe_op op_add (pv 2) pe_int) (pg_sub (pv 0) pe_int set_list))
      (pss_one (ps_asg pe_int (pg_sub (pv 0) pe_int set_list)))) pss_nil)
      (pss_one (ps_ret (pe_call gLawMixed (hr.mono (by decide)) (by rfl) T.m_LawMixed T.f_LawMixed.kp T.b_LawMixed .nil pass0 (pa_cons (pe_op op_mod (pe_callTy call_intI (by rfl) T.z_int (by decide +kernel) (pa_cons (pv 4) pa_nil)) pe_int) (pa_cons (pe_ix ix_lstH (pv 0) pe_int (fun _ _ => rfl)) (pa_cons (pv 1) pa_nil)))))))) pss_nil)
      (pss_cons (ps_asg pe_int (pg_sub (pv 0) pe_int set_list))
      (pss_cons (ps_asg (pe_op op_fdivW (pe_callTy call_intI (by rfl) T.z_int (by decide +kernel) (pa_cons (pv 4) pa_nil)) (pv 1)) (pg_sub (pv 3) (pv 2) set_list))
      (pss_cons (ps_if (pt_cmpR (op_eq) (pe_ix ix_lstH (pv 3) (pv 2) (fun _ _ => rfl)) pe_int (nomark _)) (pss_cons (ps_asg (pe_op op_add (pv 2) pe_int) (pg_sub (pv 0) pe_int set_list))
      (pss_one (ps_asg pe_int (pg_sub (pv 0) pe_int set_list)))) pss_nil)
      (pss_one (ps_ret (pe_op op_mod (pe_callTy call_intI (by rfl) T.z_int (by decide +kernel) (pa_cons (pv 4) pa_nil)) (pv 1))))))))))))), ?_⟩
    have p10 : CPow 10 18 := ⟨by decide, by decide, by decide⟩
    have off : ∀ o o', Off p l H (upd (upd H p o) l o') := fun o o' b hb hb' => by rw [upd_ne hb', upd_ne hb]
    have off2 : ∀ o o', Off p l H (upd (upd H l o) p o') := fun o o' b hb hb' => by rw [upd_ne hb, upd_ne hb']
    have off1 : ∀ o, Off p l H (upd H p o) := fun o b hb hb' => by rw [upd_ne hb]
    have pool : ∀ (t' y' : Int), 0 ≤ t' → PoolAt p l (c + 1) (upd H p (.lst [.ref l, .int t', .int (n + 1), .int z, .int y'])) := fun t' y' h => ⟨ns, t', n + 1, z, y', upd_same, by rw [e1]; exact hl, h, nl, by omega, by omega, z0, z1⟩
    by_cases ht : t < (ns.length : Int)
    · have q : t = ((t.toNat : Nat) : Int) := (Int.toNat_of_nonneg t0).symm
      have q2 : t.toNat < ns.length := by omega
      have ha : atI (ns.map V.int) t = some (.int ns[t.toNat]) := at_of q (by rw [List.getElem?_map, List.getElem?_eq_getElem q2]; rfl)
      have hix : ixN ns.length t = some t.toNat := by
        unfold ixN
        rw [if_pos t0, if_pos ht]
      have hnt : ¬ ((ns.length : Int) ≤ t) := by omega
      have hset : ∀ v, (ns.map V.int).set t.toNat (.int v) = (ns.set t.toNat v).map V.int := fun v => by rw [List.map_set]
      have ha2 : ∀ v, atI ((ns.set t.toNat v).map V.int) t = some (.int v) := fun v => at_of q (by rw [List.getElem?_map, List.getElem?_set_self q2]; rfl)
      generalize ns[t.toNat] = v at ha
      simp only [tSeq, tNext, tRet, tRetN, tAsg, gName, gSub, tDrop, tIfS, tOp, tUn, tCB, tCons, tNil, tC, tVar, rI, rI0, rU, tAnd, tOr, tNot, tAndV, tOrV, tNotV, tIf, tTest, tB, tCall, tChain, tLst, tTup, tYes, rIxH, rIxU, rLenH, rLenU, rLenS, rInt1, rSetL, rEq, rNe, rCat, L2.start, List.map, List.length, List.length_cons, List.length_nil, List.replicate, List.getElem?_cons_zero, List.getElem?_cons_succ, List.set_cons_zero, List.set_cons_succ, List.set_nil, List.cons_append, List.nil_append, List.append_nil, Option.some.injEq, V.int.injEq, V.ref.injEq, V.str.injEq, V.bl.injEq, HO.lst.injEq, HO.tup.injEq, exists_eq_left', exists_and_left, exists_eq_left, List.cons.injEq, and_true, true_and, and_false, false_and, and_self, reduceCtorEq, exists_false, or_false, false_or, exists_const, at0, at1, at2, at3, at4, at5, ix51, ix52, ix54, upd_same, Nat.reduceAdd, Nat.reduceSub, Nat.zero_add, Int.reduceToNat, Int.reduceLE, Int.reduceLT, decide_eq_true_eq, Bool.not_eq_true, if_true, if_false, Bool.false_eq_true, ite_true, ite_false, Bool.not_true, Bool.not_false, decide_true, decide_false, tFor_eq, tLc_eq, iList, iTup, iRng1, iRng2, iStr, tSl, tPart, tNoPart, rSlL, cxOf_K, wipe, hp, hl, e1, e2, upd_upd, ha, hix, hnt, hset, ha2, scal_int, p10, List.length_map]
      have hv0 : 0 ≤ v % 2147483647 := Int.emod_nonneg _ (by decide)
      have hv1 : v % 2147483647 < 2147483647 := Int.emod_lt_of_pos _ (by decide)
      have r0 : 0 ≤ v % m := Int.emod_nonneg _ (by omega)
      have r1 : v % m < m := Int.emod_lt_of_pos _ m0
      have hd : CDivW v m := hm
      have mk : ∀ (t' y' : Int), 0 ≤ t' → spLawMixed [.int (v % 2147483647), .int (n + 1), .int m] (upd H p (.lst [.ref l, .int t', .int (n + 1), .int z, .int y'])) Q E0 := fun t' y' h =>
        ⟨_, _, _, rfl, hv0, by omega, by omega, by omega, m0, fun u u0 u1 => k u _ u0 u1 (pool t' y' h) (off1 _)⟩
      have hB : ∀ (ms : List Int), ms.length = ns.length → ∀ o, PoolAt p l (c + 1) (upd (upd (upd H p o) l (.lst (ms.map V.int))) p (.lst [.ref l, .int (t + 1), .int (n + 1), .int z, .int 0])) := fun ms hms o =>
        ⟨ms, t + 1, n + 1, z, 0, upd_same, by rw [e1, upd_same], by omega, by omega, by omega, by omega, z0, z1⟩
      have hC : ∀ (ms : List Int), ms.length = ns.length → PoolAt p l (c + 1) (upd (upd H p (.lst [.ref l, .int t, .int (n + 1), .int z, .int 2])) l (.lst (ms.map V.int))) := fun ms hms =>
        ⟨ms, t, n + 1, z, 2, by rw [e2, upd_same], upd_same, t0, by omega, by omega, by omega, z0, z1⟩
      have off3 : ∀ o o' o'', Off p l H (upd (upd (upd H p o) l o') p o'') := fun o o' o'' b hb hb' => by rw [upd_ne hb, upd_ne hb', upd_ne hb]
      have fin : CDivW v m ∧ if v / m = 0 then 0 < m ∧ Q (V.int (v % m)) (upd (upd (upd H p (HO.lst [V.ref l, V.int t, V.int (n + 1), V.int z, V.int 2])) l (HO.lst (List.map V.int (ns.set t.toNat (v / m))))) p (HO.lst [V.ref l, V.int (t + 1), V.int (n + 1), V.int z, V.int 0]))
          else 0 < m ∧ Q (V.int (v % m)) (upd (upd H p (HO.lst [V.ref l, V.int t, V.int (n + 1), V.int z, V.int 2])) l (HO.lst (List.map V.int (ns.set t.toNat (v / m))))) := by
        refine ⟨hd, ite2 (fun _ => ⟨m0, k _ _ r0 r1 (hB _ (by rw [List.length_set]) _) (off3 _ _ _)⟩) (fun _ => ⟨m0, k _ _ r0 r1 (hC _ (by rw [List.length_set])) (off _ _)⟩)⟩
      refine ite2 (fun _ => ?_) (fun _ => fin)
      refine ite2 (fun _ => ?_) (fun _ => fin)
      exact ite2 (fun _ => mk (t + 1) 0 (by omega)) (fun _ => mk t (y + 1) t0)
    · have hnt : (ns.length : Int) ≤ t := by omega
      simp only [tSeq, tNext, tRet, tRetN, tAsg, gName, gSub, tDrop, tIfS, tOp, tUn, tCB, tCons, tNil, tC, tVar, rI, rI0, rU, tAnd, tOr, tNot, tAndV, tOrV, tNotV, tIf, tTest, tB, tCall, tChain, tLst, tTup, tYes, rIxH, rIxU, rLenH, rLenU, rLenS, rInt1, rSetL, rEq, rNe, rCat, L2.start, List.map, List.length, List.length_cons, List.length_nil, List.replicate, List.getElem?_cons_zero, List.getElem?_cons_succ, List.set_cons_zero, List.set_cons_succ, List.set_nil, List.cons_append, List.nil_append, List.append_nil, Option.some.injEq, V.int.injEq, V.ref.injEq, V.str.injEq, V.bl.injEq, HO.lst.injEq, HO.tup.injEq, exists_eq_left', exists_and_left, exists_eq_left, List.cons.injEq, and_true, true_and, and_false, false_and, and_self, reduceCtorEq, exists_false, or_false, false_or, exists_const, at0, at1, at2, at3, at4, at5, ix51, ix52, ix54, upd_same, Nat.reduceAdd, Nat.reduceSub, Nat.zero_add, Int.reduceToNat, Int.reduceLE, Int.reduceLT, decide_eq_true_eq, Bool.not_eq_true, if_true, if_false, Bool.false_eq_true, ite_true, ite_false, Bool.not_true, Bool.not_false, decide_true, decide_false, tFor_eq, tLc_eq, iList, iTup, iRng1, iRng2, iStr, tSl, tPart, tNoPart, rSlL, cxOf_K, wipe, hp, hl, e1, e2, upd_upd, hnt, List.length_map]
      exact ⟨_, _, _, rfl, z0, by omega, by omega, by omega, m0, fun u u0 u1 => k u _ u0 u1 (pool t y t0) (off1 _)⟩
def spLawPool (K : PySem.W.Frag) : Sp := fun vs H Q _ => ∃ (a : Addr) (ns : List Int), vs = [.ref a] ∧ SqL K H a (ns.map V.int) ∧ ns.length ≤ 63 ∧ ∀ p l H', PoolAt p l 0 H' → H p = none → H l = none → Same H H' → Q (.ref p) H'
theorem ok_pool (T : Txt K mg A) : FnOk P w K mg base CX0 1 A.a_LawPool A.d_LawPool ["_law_script"] (spLawPool K) := by
  refine T.f_LawPool.ok scLawPool (fun vs H Q E h => ?_) (fun cdv A' outer s H vs Q E hr h => ?_)
  · obtain ⟨a, ns, rfl, _⟩ := h
    rfl
  · obtain ⟨a, ns, rfl, hS, nl, k⟩ := h
    refine ⟨_, (pss_cons (ps_setLc (i := 1) (own := [("_law_cell", 3)]) (g := gName 3) (tt := tYes) (by rfl) scLawPool.nd rfl rfl (sw_true rfl rfl rfl (by decide +kernel)) (pi_list (pe_slice sl_list (pv 0) po_none (po_some pe_int))) (blkOk_by (own := [("_law_cell", 3)]) (N := nLawPool) (sc := defScope sLawPool) (by decide +kernel)) (fun _ _ _ _ _ => pg_name (i := 3) scLawPool.nd rfl (Or.inl rfl)) (fun _ _ _ _ _ => pts_nil) (fun _ _ _ _ _ => (pe_callTy call_intI (by rfl) T.z_int (by decide +kernel) (pa_cons (pv 3) pa_nil))))
      (pss_cons (ps_set (i := 2) scLawPool.nd rfl (Or.inl rfl) pe_int)
      (pss_cons (ps_for PassesOwn.never rfl (pi_list (pv 1)) (pg_name (i := 3) scLawPool.nd rfl (Or.inl rfl)) (pss_one (ps_set (i := 2) scLawPool.nd rfl (Or.inl rfl) (pe_op op_mod (pe_callTy call_intI (by rfl) T.z_int (by decide +kernel) (pa_cons (pe_op op_add (pe_op op_mulW (pv 2) pe_int) (pv 3)) pa_nil)) pe_int))))
      (pss_one (ps_ret (pe_lst (pa_cons (pv 1) (pa_cons pe_int (pa_cons pe_int (pa_cons (pv 2) (pa_cons pe_int pa_nil))))))))))), ?_⟩
    simp only [tSeq, tNext, tRet, tRetN, tAsg, gName, gSub, tDrop, tIfS, tOp, tUn, tCB, tCons, tNil, tC, tVar, rI, rI0, rU, tAnd, tOr, tNot, tAndV, tOrV, tNotV, tIf, tTest, tB, tCall, tChain, tLst, tTup, tYes, rIxH, rIxU, rLenH, rLenU, rLenS, rInt1, rSetL, rEq, rNe, rCat, L2.start, List.map, List.length, List.length_cons, List.length_nil, List.replicate, List.getElem?_cons_zero, List.getElem?_cons_succ, List.set_cons_zero, List.set_cons_succ, List.set_nil, List.cons_append, List.nil_append, List.append_nil, Option.some.injEq, V.int.injEq, V.ref.injEq, V.str.injEq, V.bl.injEq, HO.lst.injEq, HO.tup.injEq, exists_eq_left', exists_and_left, exists_eq_left, List.cons.injEq, and_true, true_and, and_false, false_and, and_self, reduceCtorEq, exists_false, or_false, false_or, exists_const, at0, at1, at2, at3, at4, at5, ix51, ix52, ix54, upd_same, Nat.reduceAdd, Nat.reduceSub, Nat.zero_add, Int.reduceToNat, Int.reduceLE, Int.reduceLT, decide_eq_true_eq, Bool.not_eq_true, if_true, if_false, Bool.false_eq_true, ite_true, ite_false, Bool.not_true, Bool.not_false, decide_true, decide_false, tFor_eq, tLc_eq, iList, iTup, iRng1, iRng2, iStr, tSl, tPart, tNoPart, rSlL, cxOf_K, wipe]
    refine ⟨_, hS, fun p hp => ⟨⟨_, SqL.of upd_same⟩, fun D hD => ?_⟩⟩
    have hc : cutV (ns.map V.int) none (some 63) = ns.map V.int := by
      rw [show (63 : Int) = ((63 : Nat) : Int) from rfl, cut_to, List.take_of_length_le (by rw [List.length_map]; exact nl)]
    rw [hc] at hD ⊢
    have hDn : H D = none := (same_new hp).free hD
    refine lc_same (walk_list (K := K) (xs := ns.map V.int)) (fun _ => true) id hD (fun H2 s2 => s2.seq (SqL.of upd_same)) (by rw [List.length_map]; omega) (fun x hx H2 s2 R R0 h1 _ => ?_) (fun H2 s2 h2 => ?_)
    · obtain ⟨i, rfl⟩ := mem_int hx
      simp only [tSeq, tNext, tRet, tRetN, tAsg, gName, gSub, tDrop, tIfS, tOp, tUn, tCB, tCons, tNil, tC, tVar, rI, rI0, rU, tAnd, tOr, tNot, tAndV, tOrV, tNotV, tIf, tTest, tB, tCall, tChain, tLst, tTup, tYes, rIxH, rIxU, rLenH, rLenU, rLenS, rInt1, rSetL, rEq, rNe, rCat, L2.start, List.map, List.length, List.length_cons, List.length_nil, List.replicate, List.getElem?_cons_zero, List.getElem?_cons_succ, List.set_cons_zero, List.set_cons_succ, List.set_nil, List.cons_append, List.nil_append, List.append_nil, Option.some.injEq, V.int.injEq, V.ref.injEq, V.str.injEq, V.bl.injEq, HO.lst.injEq, HO.tup.injEq, exists_eq_left', exists_and_left, exists_eq_left, List.cons.injEq, and_true, true_and, and_false, false_and, and_self, reduceCtorEq, exists_false, or_false, false_or, exists_const, at0, at1, at2, at3, at4, at5, ix51, ix52, ix54, upd_same, Nat.reduceAdd, Nat.reduceSub, Nat.zero_add, Int.reduceToNat, Int.reduceLE, Int.reduceLT, decide_eq_true_eq, Bool.not_eq_true, if_true, if_false, Bool.false_eq_true, ite_true, ite_false, Bool.not_true, Bool.not_false, decide_true, decide_false, tFor_eq, tLc_eq, iList, iTup, iRng1, iRng2, iStr, tSl, tPart, tNoPart, rSlL, cxOf_K, wipe]
      exact h1 H2 (Same.refl _) rfl
    · have h2 : H2 D = some (.lst (ns.map V.int)) := by
        rw [h2, List.map_id, List.filter_eq_self.mpr fun _ _ => rfl]
      have sm : Same H H2 := (same_new hp).trans s2
      refine ⟨D, rfl, ⟨_, SqL.of h2⟩, for_go (walk_list (K := K) (xs := ns.map V.int)) (fun i σ H' => H' = H2 ∧ ∃ (z : Int) (v : Option V), σ = [some (.ref a), some (.ref D), some (.int z), v] ∧ 0 ≤ z ∧ z < 2147483647) ⟨rfl, 11, _, rfl, by decide, by decide⟩ (fun i σ H' _ q => by rw [q.1]; exact SqL.of h2) (fun i x σ H' hx q => ?_) (fun σ H' q => ?_)⟩
      · obtain ⟨rfl, z, v, rfl, z0, z1⟩ := q
        obtain ⟨u, rfl⟩ := mem_int (List.mem_of_getElem? hx)
        simp only [tSeq, tNext, tRet, tRetN, tAsg, gName, gSub, tDrop, tIfS, tOp, tUn, tCB, tCons, tNil, tC, tVar, rI, rI0, rU, tAnd, tOr, tNot, tAndV, tOrV, tNotV, tIf, tTest, tB, tCall, tChain, tLst, tTup, tYes, rIxH, rIxU, rLenH, rLenU, rLenS, rInt1, rSetL, rEq, rNe, rCat, L2.start, List.map, List.length, List.length_cons, List.length_nil, List.replicate, List.getElem?_cons_zero, List.getElem?_cons_succ, List.set_cons_zero, List.set_cons_succ, List.set_nil, List.cons_append, List.nil_append, List.append_nil, Option.some.injEq, V.int.injEq, V.ref.injEq, V.str.injEq, V.bl.injEq, HO.lst.injEq, HO.tup.injEq, exists_eq_left', exists_and_left, exists_eq_left, List.cons.injEq, and_true, true_and, and_false, false_and, and_self, reduceCtorEq, exists_false, or_false, false_or, exists_const, at0, at1, at2, at3, at4, at5, ix51, ix52, ix54, upd_same, Nat.reduceAdd, Nat.reduceSub, Nat.zero_add, Int.reduceToNat, Int.reduceLE, Int.reduceLT, decide_eq_true_eq, Bool.not_eq_true, if_true, if_false, Bool.false_eq_true, ite_true, ite_false, Bool.not_true, Bool.not_false, decide_true, decide_false, tFor_eq, tLc_eq, iList, iTup, iRng1, iRng2, iStr, tSl, tPart, tNoPart, rSlL, cxOf_K, wipe]
        exact ⟨wide_mul (a := 31) (b := 16) (nat_lt_of (m := 2147483648) z0 (by omega) (by decide)) (by decide) (by decide) (by decide) (by decide), _, _, ⟨rfl, rfl⟩, Int.emod_nonneg _ (by decide), Int.emod_lt_of_pos _ (by decide)⟩
      · obtain ⟨rfl, z, v, rfl, z0, z1⟩ := q
        simp only [tSeq, tNext, tRet, tRetN, tAsg, gName, gSub, tDrop, tIfS, tOp, tUn, tCB, tCons, tNil, tC, tVar, rI, rI0, rU, tAnd, tOr, tNot, tAndV, tOrV, tNotV, tIf, tTest, tB, tCall, tChain, tLst, tTup, tYes, rIxH, rIxU, rLenH, rLenU, rLenS, rInt1, rSetL, rEq, rNe, rCat, L2.start, List.map, List.length, List.length_cons, List.length_nil, List.replicate, List.getElem?_cons_zero, List.getElem?_cons_succ, List.set_cons_zero, List.set_cons_succ, List.set_nil, List.cons_append, List.nil_append, List.append_nil, Option.some.injEq, V.int.injEq, V.ref.injEq, V.str.injEq, V.bl.injEq, HO.lst.injEq, HO.tup.injEq, exists_eq_left', exists_and_left, exists_eq_left, List.cons.injEq, and_true, true_and, and_false, false_and, and_self, reduceCtorEq, exists_false, or_false, false_or, exists_const, at0, at1, at2, at3, at4, at5, ix51, ix52, ix54, upd_same, Nat.reduceAdd, Nat.reduceSub, Nat.zero_add, Int.reduceToNat, Int.reduceLE, Int.reduceLT, decide_eq_true_eq, Bool.not_eq_true, if_true, if_false, Bool.false_eq_true, ite_true, ite_false, Bool.not_true, Bool.not_false, decide_true, decide_false, tFor_eq, tLc_eq, iList, iTup, iRng1, iRng2, iStr, tSl, tPart, tNoPart, rSlL, cxOf_K, wipe]
        refine ⟨by decide, fun q hq => ?_⟩
        have nq : D ≠ q := ne_of_none h2 hq
        exact k q D _ ⟨ns, 0, 0, z, 0, upd_same, by rw [upd_ne nq]; exact h2, by omega, nl, by omega, by omega, z0, z1⟩ (sm.free hq) hDn (sm.trans (same_new hq))
end



/-! ### kinds of things -/
def kdO : Option HO → String
  | some (.lst _) => "list"
  | some (.tup _) => "tuple"
  | some (.dK _) => "dict"
  | _ => "?"
def kd (H : Hp) : V → String
  | .non => "NoneType"
  | .bl _ => "bool"
  | .int _ => "int"
  | .str _ => "str"
  | .ref a => kdO (H a)
  | _ => "?"
theorem kd_non {H : Hp} : kd H .non = "NoneType" := rfl
theorem kd_bl {H : Hp} {b : Bool} : kd H (.bl b) = "bool" := rfl
theorem kd_int {H : Hp} {i : Int} : kd H (.int i) = "int" := rfl
theorem kd_str {H : Hp} {z : Str} : kd H (.str z) = "str" := rfl
theorem kd_ref {H : Hp} {a : Addr} : kd H (.ref a) = kdO (H a) := rfl
theorem kdO_lst {xs : List V} : kdO (some (.lst xs)) = "list" := rfl
theorem kdO_tup {xs : List V} : kdO (some (.tup xs)) = "tuple" := rfl
theorem kdO_dK {kvs : List (Key × V)} : kdO (some (.dK kvs)) = "dict" := rfl
theorem nq_n : "NoneType" ≠ "?" := by decide
theorem nq_b : "bool" ≠ "?" := by decide
theorem nq_i : "int" ≠ "?" := by decide
theorem nq_s : "str" ≠ "?" := by decide
theorem nq_l : "list" ≠ "?" := by decide
theorem nq_t : "tuple" ≠ "?" := by decide
theorem nq_d : "dict" ≠ "?" := by decide
theorem kd_ty {K : PySem.W.Frag} {H : Hp} {v : V} (h : kd H v ≠ "?") : TyX K H v (.type (kd H v)) := by
  cases v with
  | non => exact .base .non
  | bl b => exact .base (.bl b)
  | int i => exact .base (.int i)
  | str z => exact .base (.str z)
  | byt b => exact absurd rfl h
  | flt b => exact absurd rfl h
  | ty n => exact absurd rfl h
  | ref a =>
    have h : kdO (H a) ≠ "?" := h
    show TyX K H (.ref a) (.type (kdO (H a)))
    cases e : H a with
    | none => rw [e] at h; exact absurd rfl h
    | some o =>
      rw [e] at h
      cases o with
      | lst xs => exact .base (.lst e)
      | tup xs => exact .base (.tup e)
      | dK kvs => exact .base (.dK e)
      | _ => exact absurd rfl h
def kitAnyB (t : String) : List String → Option Bool
  | [] => some false
  | c :: r => match kitB t c with
    | some true => some true
    | some false => kitAnyB t r
    | none => none
theorem kitAnyB_ok {K : PySem.W.Frag} {t : String} : ∀ {cs : List String} {b : Bool}, kitAnyB t cs = some b → PySem.W.kitAny K (.type t) (cs.map Value.type) = some b
  | [], b, h => h
  | c :: r, b, h => by
    unfold kitAnyB at h
    show PySem.W.kitAny K (.type t) (Value.type c :: r.map Value.type) = some b
    unfold PySem.W.kitAny
    cases e : kitB t c with
    | none => rw [e] at h; cases h
    | some d =>
      rw [kit_ty e]
      rw [e] at h
      cases d with
      | true => exact h
      | false => exact kitAnyB_ok h
theorem clsV_all : ∀ (cs : List String), Paired ClsV (cs.map V.ty) (cs.map Value.type)
  | [] => .nil
  | c :: r => .cons (.ty c) (clsV_all r)
section
variable {X : Cx}
/-- isinstance(x, T), T a built-in class; a tuple of such -/
def rIsB : List V → Hp → VK → Prop := fun vs H Q => ∃ x T b, vs = [x, .ty T] ∧ kd H x ≠ "?" ∧ kitB (kd H x) T = some b ∧ Q (.bl b) H
theorem call_isB : CallR X (.builtin "isinstance") rIsB := fun pins s σ H xs us Q I r h => by
  obtain ⟨x, T, b, h1, h2, h3, h4⟩ := h
  exact call_isi pins s σ H xs us Q I r ⟨x, .ty T, _, _, b, h1, .ty T, kd_ty h2, kit_ty h3, h4⟩
def rIsBT : List V → Hp → VK → Prop := fun vs H Q => ∃ x p ts cs b, vs = [x, .ref p] ∧ H p = some (.tup ts) ∧ ts = List.map V.ty cs ∧ kd H x ≠ "?" ∧ kitAnyB (kd H x) cs = some b ∧ Q (.bl b) H
theorem call_isBT : CallR X (.builtin "isinstance") rIsBT := fun pins s σ H xs us Q I r h => by
  obtain ⟨x, p, ts, cs, b, h1, h2, rfl, h3, h4, h5⟩ := h
  exact call_isiT pins s σ H xs us Q I r ⟨x, p, _, _, _, b, h1, h2, clsV_all cs, kd_ty h3, kitAnyB_ok h4, h5⟩
theorem ex_ty2 {a b : String} {P : List String → Prop} : (∃ cs, [V.ty a, V.ty b] = List.map V.ty cs ∧ P cs) ↔ P [a, b] := by
  constructor
  · rintro ⟨cs, h, p⟩
    match cs, h with
    | [c, d], h =>
      injection h with h1 h2
      injection h1 with h1
      injection h2 with h2 _
      injection h2 with h2
      subst h1 h2
      exact p
  · exact fun p => ⟨[a, b], rfl, p⟩
def rMulS : R2 := fun x y H Q => ∃ z n, x = .str z ∧ y = .int n ∧ MulOk z n ∧ Q (.str (Txt.mul z n)) H
theorem op_mul_str : OpR X (binaryOp .Mult) rMulS := fun pins s σ H x y v u Q I rx ry h => by
  obtain ⟨z, n, rfl, rfl, h1, q⟩ := h
  obtain ⟨t, rfl⟩ := rx
  obtain ⟨t', rfl⟩ := ry
  exact PySem.SB.mul h1 fun t2 k => ⟨.str _, H, I.tok k, ⟨_, rfl⟩, q⟩
end
theorem kit_ss : kitB "str" "str" = some true := by decide +kernel
theorem kit_ns : kitB "NoneType" "str" = some false := by decide +kernel
theorem kit_bs : kitB "bool" "str" = some false := by decide +kernel
theorem kit_is : kitB "int" "str" = some false := by decide +kernel
theorem kit_ls : kitB "list" "str" = some false := by decide +kernel
theorem kit_ts : kitB "tuple" "str" = some false := by decide +kernel
theorem kit_ds : kitB "dict" "str" = some false := by decide +kernel
theorem kit_bb : kitB "bool" "bool" = some true := by decide +kernel
theorem kit_LTl : kitAnyB "list" ["list", "tuple"] = some true := by decide +kernel
theorem kit_LTt : kitAnyB "tuple" ["list", "tuple"] = some true := by decide +kernel
theorem kit_LTd : kitAnyB "dict" ["list", "tuple"] = some false := by decide +kernel
theorem kit_LTs : kitAnyB "str" ["list", "tuple"] = some false := by decide +kernel
theorem kit_LTn : kitAnyB "NoneType" ["list", "tuple"] = some false := by decide +kernel
theorem kit_LTb : kitAnyB "bool" ["list", "tuple"] = some false := by decide +kernel
theorem kit_LTi : kitAnyB "int" ["list", "tuple"] = some false := by decide +kernel
/-- a small text -/
def Sm (z : Str) : Prop := z.length ≤ 1000 ∧ ∀ c ∈ z.cps.toList, c < 128
/-- a thing that the laws hand about -/
inductive Thg (H : Hp) : V → Prop
  | non : Thg H .non
  | bl (b : Bool) : Thg H (.bl b)
  | int (i : Int) : Thg H (.int i)
  | str {z : Str} (h : Sm z) : Thg H (.str z)
  | lst {a : Addr} {xs : List V} (e : H a = some (.lst xs)) : Thg H (.ref a)
  | tup {a : Addr} {xs : List V} (e : H a = some (.tup xs)) : Thg H (.ref a)
  | dic {a : Addr} {kvs : List (Key × V)} (e : H a = some (.dK kvs)) : Thg H (.ref a)
theorem Thg.mono {H H' : Hp} {v : V} (s : Same H H') (h : Thg H v) : Thg H' v := by
  cases h with
  | non => exact .non
  | bl b => exact .bl b
  | int i => exact .int i
  | str h => exact .str h
  | lst e => exact .lst (s _ _ e)
  | tup e => exact .tup (s _ _ e)
  | dic e => exact .dic (s _ _ e)
def codeOf : V → Nat
  | .str z => z.cps.toList.headD 0
  | _ => 0
theorem codeOf_sgn {c : Nat} : codeOf (sgn c) = c := rfl
theorem mem_sgn {x : V} {l : List Nat} (h : x ∈ l.map sgn) : ∃ c, c ∈ l ∧ x = sgn c := by
  obtain ⟨c, h1, h2⟩ := List.mem_map.mp h
  exact ⟨c, h1, h2.symm⟩
theorem filter_all {α : Type} {l : List α} : l.filter (fun _ => true) = l := List.filter_eq_self.mpr fun _ _ => rfl
theorem size1000 {n : Nat} (h : n ≤ 1000) : n ≤ sizeLine := Nat.le_trans h (by decide)
theorem lt1p {a b : Nat} : ([a] < [b]) ↔ a < b := by
  refine ⟨fun h => ?_, fun h => List.cons_lt_cons_iff.mpr (.inl h)⟩
  rcases List.cons_lt_cons_iff.mp h with h | ⟨_, h⟩
  · exact h
  · exact absurd h (List.not_lt_nil _)
section
variable {X : Cx}
/-- a list == [] -/
def rEqNil : R2 := fun x y H Q => ∃ a b xs ys, x = .ref a ∧ y = .ref b ∧ H a = some (.lst xs) ∧ H b = some (.lst ys) ∧ ys = [] ∧ Q (.bl xs.isEmpty) H
theorem op_eqNil (hu : X.A.units + 64 < cLine) : OpR X (compareOp .Eq) rEqNil := fun pins s σ H x y v u Q I rx ry h => by
  obtain ⟨a, b, xs, ys, rfl, rfl, ha, hb, rfl, q⟩ := h
  cases rx
  cases ry
  obtain ⟨its, r, pl, hz⟩ := I.list (SqL.of ha)
  obtain ⟨its2, r2, pl2, hz2⟩ := I.list (SqL.of hb)
  have hl := r.length
  have hl2 := r2.length
  have hu' : X.A.units < cLine := by omega
  cases xs with
  | nil =>
    have e1 : its = [] := List.eq_nil_of_length_eq_zero hl.symm
    have e2 : its2 = [] := List.eq_nil_of_length_eq_zero hl2.symm
    subst e1 e2
    exact SeqAt.eq_listAt (e := fun _ => true) pl.isList pl2.isList rfl hu' (fun j h1 _ => absurd h1 (by simp)) ⟨.bl true, H, I, rfl, q⟩
  | cons x r' =>
    refine SeqAt.eq_list_lengthsAt pl.isList pl2.isList ?_ hu' ⟨.bl false, H, I, rfl, q⟩
    simp only [List.size_toArray, ← hl, ← hl2, List.length_cons, List.length_nil]
    simp
end

/-! ### the world of a law: the pool, and what is known beside it -/
def OffS (p l : Addr) (H H' : Hp) : Prop := ∀ b o, b ≠ p → b ≠ l → H b = some o → H' b = some o
theorem OffS.refl {p l : Addr} {H : Hp} : OffS p l H H := fun _ _ _ _ h => h
theorem OffS.trans {p l : Addr} {H H1 H2 : Hp} (a : OffS p l H H1) (b : OffS p l H1 H2) : OffS p l H H2 := fun x o h1 h2 h => b x o h1 h2 (a x o h1 h2 h)
theorem Off.s {p l : Addr} {H H' : Hp} (h : Off p l H H') : OffS p l H H' := fun b o h1 h2 e => by rw [h b h1 h2]; exact e
theorem same_off {p l : Addr} {H H' : Hp} (h : Same H H') : OffS p l H H' := fun b o _ _ e => h b o e
theorem PoolAt.mono {p l : Addr} {c c' : Nat} {H : Hp} (h : PoolAt p l c H) (hc : c ≤ c') : PoolAt p l c' H := by
  obtain ⟨ns, t, n, z, y, h1, h2, h3, h4, h5, h6, h7⟩ := h
  exact ⟨ns, t, n, z, y, h1, h2, h3, h4, h5, by omega, h7⟩
theorem PoolAt.same {p l : Addr} {c : Nat} {H H' : Hp} (s : Same H H') (h : PoolAt p l c H) : PoolAt p l c H' := by
  obtain ⟨ns, t, n, z, y, h1, h2, h3⟩ := h
  exact ⟨ns, t, n, z, y, s _ _ h1, s _ _ h2, h3⟩
theorem PoolAt.np {p l : Addr} {c : Nat} {H : Hp} {q : Addr} (h : PoolAt p l c H) (hq : H q = none) : q ≠ p ∧ q ≠ l := by
  obtain ⟨ns, t, n, z, y, h1, h2, h3⟩ := h
  exact ⟨(ne_of_none h1 hq).symm, (ne_of_none h2 hq).symm⟩
/-- G: what is known, all of it in H, nothing of it the pool's -/
structure Wd (p l : Addr) (c : Nat) (G H : Hp) : Prop where
  pool : PoolAt p l c H
  kn : Same G H
  gp : G p = none
  gl : G l = none
theorem Wd.mono {p l : Addr} {c c' : Nat} {G H : Hp} (h : Wd p l c G H) (hc : c ≤ c') : Wd p l c' G H := ⟨h.pool.mono hc, h.kn, h.gp, h.gl⟩
theorem Wd.ne {p l : Addr} {c : Nat} {G H : Hp} (h : Wd p l c G H) {b : Addr} {o : HO} (e : G b = some o) : b ≠ p ∧ b ≠ l := ⟨ne_of_none e h.gp, ne_of_none e h.gl⟩
/-- all but the pool kept, the pool as it is now -/
theorem Wd.turn {p l : Addr} {c c' : Nat} {G H H' : Hp} (h : Wd p l c G H) (hp : PoolAt p l c' H') (off : OffS p l H H') : Wd p l c' G H' :=
  ⟨hp, fun b o e => off b o (h.ne e).1 (h.ne e).2 (h.kn b o e), h.gp, h.gl⟩
theorem Wd.same {p l : Addr} {c : Nat} {G H H' : Hp} (h : Wd p l c G H) (s : Same H H') : Wd p l c G H' := h.turn (h.pool.same s) (same_off s)
theorem Wd.add {p l : Addr} {c : Nat} {G H H' : Hp} {q : Addr} {o : HO} (h : Wd p l c G H) (s : OffS p l H H') (hp : PoolAt p l c H') (hq : H q = none) (e : H' q = some o) : Wd p l c (upd G q o) H' := by
  have n := h.pool.np hq
  refine ⟨hp, fun b u hb => ?_, by rw [upd_ne n.1.symm]; exact h.gp, by rw [upd_ne n.2.symm]; exact h.gl⟩
  by_cases hbq : b = q
  · subst hbq
    rw [upd_same] at hb
    rw [← Option.some.inj hb]
    exact e
  · rw [upd_ne hbq] at hb
    exact (h.turn hp s).kn b u hb
theorem Wd.new {p l : Addr} {c : Nat} {G H : Hp} {q : Addr} {o : HO} (h : Wd p l c G H) (hq : H q = none) : Wd p l c (upd G q o) (upd H q o) :=
  h.add (same_off (same_new hq)) (h.pool.same (same_new hq)) hq upd_same
theorem Wd.free {p l : Addr} {c : Nat} {G H : Hp} {q : Addr} (h : Wd p l c G H) (hq : H q = none) : G q = none := h.kn.free hq
theorem Wd.alloc {p l : Addr} {c : Nat} {G H H1 : Hp} {q : Addr} {o : HO} (h : Wd p l c G H) (hq : H q = none) (s : Same H H1) (e : H1 q = some o) : ∃ G1, Wd p l c G1 H1 ∧ Same G G1 ∧ G1 q = some o :=
  ⟨_, h.add (same_off s) (h.pool.same s) hq e, same_new (h.free hq), upd_same⟩
/-- what has come: more is known, all but the pool is kept, what is newly known was free -/
structure Gw (p l : Addr) (G H G' H' : Hp) : Prop where
  gg : Same G G'
  off : OffS p l H H'
  fr : ∀ b o, G' b = some o → G b = some o ∨ H b = none
theorem Gw.refl {p l : Addr} {G H : Hp} : Gw p l G H G H := ⟨Same.refl _, OffS.refl, fun _ _ h => .inl h⟩
theorem Gw.trans {p l : Addr} {c : Nat} {G H G1 H1 G2 H2 : Hp} (a : Gw p l G H G1 H1) (w1 : PoolAt p l c H1) (b : Gw p l G1 H1 G2 H2) : Gw p l G H G2 H2 := by
  refine ⟨a.gg.trans b.gg, a.off.trans b.off, fun x o h => ?_⟩
  rcases b.fr x o h with h1 | h1
  · exact a.fr x o h1
  · refine .inr ?_
    cases q : H x with
    | none => rfl
    | some u =>
      have n := w1.np h1
      rw [a.off x u n.1 n.2 q] at h1
      cases h1
theorem Gw.same {p l : Addr} {G H H' : Hp} (s : Same H H') : Gw p l G H G H' := ⟨Same.refl _, same_off s, fun _ _ h => .inl h⟩
theorem Gw.of {p l : Addr} {G H H' : Hp} (s : OffS p l H H') : Gw p l G H G H' := ⟨Same.refl _, s, fun _ _ h => .inl h⟩
theorem Gw.add {p l : Addr} {G H H' : Hp} {q : Addr} {o : HO} (s : OffS p l H H') (hq : H q = none) (hg : G q = none) : Gw p l G H (upd G q o) H' := by
  refine ⟨same_new hg, s, fun b u h => ?_⟩
  by_cases e : b = q
  · subst e
    exact .inr hq
  · rw [upd_ne e] at h
    exact .inl h
/-- a comprehension whose turns draw: at most k draws a turn, each item is as Pz says -/
theorem lc_pool {J : It} {xs : List V} {Gd : Hp → Prop} (w : Walk J xs.length Gd (YAt xs)) {g : TG} {tt : TT} {te : TE} {vs : List Nat} {σ : St} {D : Addr} {Q : VK} {H1 G : Hp} {p l : Addr} {c k : Nat} (Pz : V → Hp → Prop) (hmono : ∀ v G G', Same G G' → Pz v G → Pz v G')
    (hw : Wd p l c G H1) (hD : H1 D = none) (hGd : ∀ H, OffS p l H1 H → Gd H) (hz : xs.length ≤ 100000)
    (turn : ∀ x, x ∈ xs → ∀ G2 H2 c2, Gw p l G H1 G2 H2 → Wd p l c2 G2 H2 → c2 ≤ c + k * xs.length → ∀ (R : VK) (R0 : Hp → Prop), (∀ v G3 H3, Pz v G3 → Wd p l (c2 + k) G3 H3 → Gw p l G2 H2 G3 H3 → R v H3) → g x (wipe σ vs) H2 fun σ2 H3 => wipe σ2 vs = wipe σ vs ∧ tt σ2 H3 fun b H4 => if b = true then te σ2 H4 R else R0 H4)
    (done : ∀ acc G' H', acc.length = xs.length → (∀ v ∈ acc, Pz v G') → Gw p l G H1 G' H' → Wd p l (c + k * xs.length) G' H' → G' D = some (.lst acc) → Q (.ref D) H') : lcGo J g tt te vs σ D Q H1 := by
  have nD := hw.pool.np hD
  have offD : ∀ {H2 H3 : Hp} {o : HO}, OffS p l H1 H2 → OffS p l H2 H3 → OffS p l H1 (upd H3 D o) := fun a b x o h1 h2 e => by
    rw [upd_ne (ne_of_none e hD)]
    exact b x o h1 h2 (a x o h1 h2 e)
  refine lc_it w (fun i H => ∃ G' acc, acc.length = i ∧ (∀ v ∈ acc, Pz v G') ∧ Gw p l G H1 G' H ∧ Wd p l (c + k * i) G' H ∧ G' D = none ∧ H D = some (.lst acc)) ?_ (fun i H _ q => ?_) (fun i x H H' hi q y => ?_) (fun H q => ?_)
  · exact ⟨G, [], rfl, fun _ h => (nomatch h), Gw.same (same_new hD), (hw.same (same_new hD)), hw.free hD, upd_same⟩
  · obtain ⟨G', acc, _, _, gw, _⟩ := q
    exact hGd H gw.off
  · obtain ⟨rfl, hx⟩ := y
    obtain ⟨G2, acc, ha, hP, gw, hw2, gD, hacc⟩ := q
    have hk : k * i ≤ k * xs.length := Nat.mul_le_mul_left k (by omega)
    refine turn x (List.mem_of_getElem? hx) G2 _ (c + k * i) gw hw2 (by omega) _ _ fun v G3 H3 hv hw3 g3 => ?_
    have hD3 : H3 D = some (.lst acc) := g3.off D _ nD.1 nD.2 hacc
    have gD3 : G3 D = none := by
      cases e : G3 D with
      | none => rfl
      | some o =>
        rcases g3.fr D o e with h | h
        · rw [gD] at h; cases h
        · rw [hacc] at h; cases h
    have gw3 : Gw p l G H1 G3 H3 := gw.trans hw2.pool g3
    refine ⟨acc, hD3, Nat.lt_of_le_of_lt (m := 100000) (by omega) (by decide), G3, acc ++ [v], by rw [List.length_append, ha]; rfl, fun u hu => ?_, ⟨gw3.gg, offD gw3.off OffS.refl, gw3.fr⟩, ?_, gD3, upd_same⟩
    · rcases List.mem_append.mp hu with h | h
      · exact hmono u _ _ g3.gg (hP u h)
      · rw [List.mem_singleton.mp h]
        exact hv
    · have e : c + k * (i + 1) = c + k * i + k := by rw [Nat.mul_add, Nat.mul_one, Nat.add_assoc]
      rw [e]
      obtain ⟨ns, t, n, z, y, h1, h2, h3⟩ := hw3.pool
      refine ⟨⟨ns, t, n, z, y, by rw [upd_ne nD.1.symm]; exact h1, by rw [upd_ne nD.2.symm]; exact h2, h3⟩, fun b o hb => ?_, hw3.gp, hw3.gl⟩
      rw [upd_ne (ne_of_none hb gD3)]
      exact hw3.kn b o hb
  · obtain ⟨G', acc, ha, hP, gw, hw2, gD, hacc⟩ := q
    have sg : Same G' (upd G' D (.lst acc)) := same_new gD
    refine done acc (upd G' D (.lst acc)) H ha (fun v hv => hmono v _ _ sg (hP v hv)) ⟨gw.gg.trans sg, gw.off, fun b o hb => ?_⟩ ⟨hw2.pool, fun b o hb => ?_, by rw [upd_ne nD.1.symm]; exact hw2.gp, by rw [upd_ne nD.2.symm]; exact hw2.gl⟩ upd_same
    · by_cases e : b = D
      · subst e
        exact .inr hD
      · rw [upd_ne e] at hb
        exact gw.fr b o hb
    · by_cases e : b = D
      · subst e
        rw [upd_same] at hb
        rw [← Option.some.inj hb]
        exact hacc
      · rw [upd_ne e] at hb
        exact hw2.kn b o hb
/-! ### data compared -/
theorem dp_strs {K : PySem.W.Frag} {H : Hp} : ∀ (zs : List Str), DpAll K H (zs.map V.str) (zs.map PyData.str)
  | [] => .nil
  | z :: r => .cons (.str z) (dp_strs r)
theorem lay_strs : ∀ (zs : List Str), (∀ z ∈ zs, ∀ c ∈ z.cps.toList, c < 128) → PyData.canLayAll0 (zs.map PyData.str) = true
  | [], _ => rfl
  | z :: r, h => by
    have h1 : PyData.strOk z = true := by
      unfold PyData.strOk
      rw [Array.all_eq_true']
      intro c hc
      exact decide_eq_true (Nat.lt_trans (h z List.mem_cons_self c (by simpa using hc)) (by decide))
    show (PyData.canLay0 (.str z) && PyData.canLayAll0 (r.map PyData.str)) = true
    rw [lay_strs r fun y hy => h y (List.mem_cons_of_mem _ hy), Bool.and_true]
    exact h1
theorem dep_strs : ∀ (zs : List Str), PyData.depthAll (zs.map PyData.str) ≤ 1
  | [] => by simp [PyData.depthAll]
  | z :: r => by
    have := dep_strs r
    simp only [List.map_cons, PyData.depthAll, PyData.depth]
    omega
theorem shaped_strs {zs : List Str} (h : ∀ z ∈ zs, ∀ c ∈ z.cps.toList, c < 128) : SeqAt.shaped (.list (zs.map PyData.str)) = true := by
  unfold SeqAt.shaped
  have h1 := dep_strs zs
  have h2 : PyData.canLay0 (.list (zs.map PyData.str)) = true := lay_strs zs h
  rw [h2, Bool.true_and]
  refine decide_eq_true ?_
  simp only [PyData.depth]
  omega
theorem shaped_nil : SeqAt.shaped (.list []) = true := by decide
theorem eqv_nil {ds : List PyData} : PyData.eqv (.list ds) (.list []) = ds.isEmpty := by
  cases ds <;> simp [PyData.eqv, PyData.eqvAll]
theorem strs_of {xs : List V} (h : ∀ x ∈ xs, ∃ z, x = V.str z) : ∃ zs : List Str, xs = zs.map V.str := by
  induction xs with
  | nil => exact ⟨[], rfl⟩
  | cons x r ih =>
    obtain ⟨z, rfl⟩ := h x List.mem_cons_self
    obtain ⟨zs, rfl⟩ := ih fun y hy => h y (List.mem_cons_of_mem _ hy)
    exact ⟨z :: zs, rfl⟩
/-- texts == [] -/
theorem eqD_nil {K : PySem.W.Frag} {H : Hp} {a b : Addr} {zs : List Str} {Q : VK} (ha : H a = some (.lst (zs.map V.str))) (hb : H b = some (.lst [])) (h : ∀ z ∈ zs, ∀ c ∈ z.cps.toList, c < 128) (k : Q (.bl zs.isEmpty) H) : rEqD K (.ref a) (.ref b) H Q := by
  refine ⟨.list (zs.map PyData.str), .list [], .lst (SqL.of ha) (dp_strs zs), .lst (SqL.of hb) .nil, shaped_strs h, shaped_nil, ?_⟩
  rw [eqv_nil]
  cases zs <;> exact k
theorem eqD_nn {K : PySem.W.Frag} {H : Hp} {a b : Addr} {Q : VK} (ha : H a = some (.lst [])) (hb : H b = some (.lst [])) (k : Q (.bl true) H) : rEqD K (.ref a) (.ref b) H Q := eqD_nil (zs := []) ha hb (fun _ h => (nomatch h)) k
theorem neD_nn {K : PySem.W.Frag} {H : Hp} {a b : Addr} {Q : VK} (ha : H a = some (.lst [])) (hb : H b = some (.lst [])) (k : Q (.bl false) H) : rNeD K (.ref a) (.ref b) H Q := by
  refine ⟨.list [], .list [], .lst (SqL.of ha) .nil, .lst (SqL.of hb) .nil, shaped_nil, shaped_nil, ?_⟩
  rw [eqv_nil]
  exact k
/-! ### texts -/
theorem join_sm {ys : List Str} (h1 : ∀ y ∈ ys, y.length = 1) (h2 : ∀ y ∈ ys, ∀ c ∈ y.cps.toList, c < 128) : (Txt.join Str.empty ys).length ≤ ys.length ∧ ∀ c ∈ (Txt.join Str.empty ys).cps.toList, c < 128 := by
  have e : Txt.join Str.empty ys = Str.join Str.empty ys := StrLaws.glued_eq_join _ _
  rw [e]
  refine ⟨?_, fun c hc => ?_⟩
  · refine Nat.le_trans (StrLaws.join_length_le _ _) ?_
    have e2 : ys.map (·.length) = ys.map (fun _ => 1) := List.map_congr_left h1
    rw [e2, List.map_const', List.sum_replicate_nat]
    show ys.length * 1 + ys.length * 0 ≤ ys.length
    omega
  · rcases (PyProof.Rows.mem_join _ c ys).mp hc with ⟨t, ht, h⟩ | ⟨_, h⟩
    · exact h2 t ht c h
    · exact absurd (show c ∈ ([] : List Nat) from h) List.not_mem_nil
theorem at_of' {α : Type} {xs : List α} {z : Int} {j : Nat} {v : α} (e : z = (j : Int)) (h : xs[j]? = some v) : atI xs z = some v := by
  rw [e]
  exact atI_nat h
theorem atI_ex {α : Type} {xs : List α} {i : Int} (h0 : 0 ≤ i) (h1 : i < (xs.length : Int)) : ∃ v, atI xs i = some v ∧ v ∈ xs ∧ xs[i.toNat]? = some v := by
  have q : i = ((i.toNat : Nat) : Int) := (Int.toNat_of_nonneg h0).symm
  have q2 : i.toNat < xs.length := by omega
  have q3 : xs[i.toNat]? = some xs[i.toNat] := List.getElem?_eq_getElem q2
  exact ⟨xs[i.toNat], at_of' q q3, List.getElem_mem q2, q3⟩
theorem int62 {m : Int} (h0 : 0 ≤ m) (h : m ≤ 100000) : -2 ^ 62 ≤ m ∧ m < 2 ^ 62 := by
  have e : (2 : Int) ^ 62 = 4611686018427387904 := by decide
  omega
theorem wd0 {p l : Addr} {c : Nat} {H : Hp} (h : PoolAt p l c H) : Wd p l c (fun _ => none) H := ⟨h, fun _ _ e => (nomatch e), rfl, rfl⟩
theorem filter_empty {α : Type} {l : List α} {f : α → Bool} : (l.filter fun c => !f c).isEmpty = l.all f := by
  induction l with
  | nil => rfl
  | cons a r ih =>
    rw [List.filter_cons, List.all_cons]
    cases e : f a with
    | true => simpa [e] using ih
    | false => simp [e]
theorem rng_item {lo : Int} {n i : Nat} {x : V} (h : (rngV lo n)[i]? = some x) : x = .int (lo + (i : Int)) ∧ i < n := by
  have hi : i < n := by
    have := (List.getElem?_eq_some_iff.mp h).1
    rw [rngV_len] at this
    exact this
  unfold rngV at h
  rw [List.getElem?_map, List.getElem?_range hi] at h
  exact ⟨(Option.some.inj h).symm, hi⟩
theorem cutS_sm {z : Str} {lo hi : Option Int} (h : ∀ c ∈ z.cps.toList, c < 128) : ∀ c ∈ (cutS z lo hi).cps.toList, c < 128 := fun c hc => by
  unfold cutS at hc
  have hc : c ∈ (z.cps.toList.drop (HT.sIx z.length 0 lo)).take (HT.sIx z.length z.length hi - HT.sIx z.length 0 lo) := by simpa using hc
  exact h c (List.mem_of_mem_drop (List.mem_of_mem_take hc))
theorem app_sm {x y : Str} (h1 : ∀ c ∈ x.cps.toList, c < 128) (h2 : ∀ c ∈ y.cps.toList, c < 128) : ∀ c ∈ (x ++ y).cps.toList, c < 128 := fun c hc => by
  have e : (x ++ y).cps.toList = x.cps.toList ++ y.cps.toList := by
    show (x.cps ++ y.cps).toList = _
    rw [Array.toList_append]
  rw [e] at hc
  rcases List.mem_append.mp hc with h | h
  · exact h1 c h
  · exact h2 c h
theorem app_len {x y : Str} : (x ++ y).length = x.length + y.length := by
  show (x.cps ++ y.cps).size = _
  rw [Array.size_append]
  rfl

/-! ### plain: fractions -/
section
variable {X : Cx}
def CDivZ (_ j : Int) : Prop := j ≠ 0 ∧ j.natAbs.log2 < 9000
theorem op_fdivZ : OpR X (binaryOp .FloorDiv) (rI CDivZ fun i j => .int (i.fdiv j)) := opI fun i j _ _ _ _ _ hc q => PyProof.Rows.floordiv_int hc.1 q (.inl (PyProof.noPylong_of_log2 hc.2))
end
theorem log2_of {j : Int} {n : Nat} (h : j.natAbs < 2 ^ n) (hn : n ≤ 9000) : j.natAbs.log2 < 9000 := by
  by_cases h0 : j.natAbs = 0
  · rw [h0]; decide
  · exact Nat.lt_of_lt_of_le ((Nat.log2_lt h0).mpr h) hn
/-- the divisor that Ratio takes out -/
def dv (t b : Int) : Int := if b < 0 then -((Int.gcd t b : Nat) : Int) else (Int.gcd t b : Nat)
theorem gcd_pos_of {t b : Int} (hb : b ≠ 0) : 0 < Int.gcd t b := Int.gcd_pos_of_ne_zero_right _ hb
theorem dv_ne {t b : Int} (hb : b ≠ 0) : dv t b ≠ 0 := by
  have := gcd_pos_of (t := t) hb
  unfold dv
  split <;> omega
theorem dv_abs {t b : Int} : (dv t b).natAbs = Int.gcd t b := by
  unfold dv
  split <;> omega
theorem fdiv_exact {x d q : Int} (hd : d ≠ 0) (h : x = d * q) : x.fdiv d = q := by
  rw [h, Int.mul_comm]
  exact Int.mul_fdiv_cancel _ hd
theorem num_of {t b : Int} (hb : b ≠ 0) : t.fdiv (dv t b) = (Rat.divInt t b).num := by
  rw [Rat.num_divInt]
  have hg := gcd_pos_of (t := t) hb
  obtain ⟨k, hk⟩ : (Int.gcd t b : Int) ∣ t := Int.gcd_dvd_left ..
  refine fdiv_exact (dv_ne hb) ?_
  rw [Int.gcd_comm b t]
  unfold dv
  by_cases h : b < 0
  · rw [if_pos h, Int.sign_eq_neg_one_of_neg h]
    have e : (-1 : Int) * t = (Int.gcd t b : Int) * (-k) := by grind
    rw [e, Int.mul_ediv_cancel_left _ (by omega)]
    grind
  · rw [if_neg h, Int.sign_eq_one_of_pos (by omega), Int.one_mul]
    have e : t / (Int.gcd t b : Int) = k := Int.ediv_eq_of_eq_mul_right (by omega) hk
    rw [e]
    exact hk
theorem den_of {t b : Int} (hb : b ≠ 0) : b.fdiv (dv t b) = ((Rat.divInt t b).den : Int) := by
  rw [Rat.den_divInt, if_neg hb]
  have hg := gcd_pos_of (t := t) hb
  obtain ⟨k, hk⟩ : (Int.gcd t b : Int) ∣ b := Int.gcd_dvd_right ..
  refine fdiv_exact (dv_ne hb) ?_
  rw [Int.gcd_comm b t, Int.natCast_ediv]
  unfold dv
  by_cases h : b < 0
  · rw [if_pos h]
    have e : ((b.natAbs : Nat) : Int) = (Int.gcd t b : Int) * (-k) := by
      have : ((b.natAbs : Nat) : Int) = -b := by omega
      rw [this]
      grind
    rw [e, Int.mul_ediv_cancel_left _ (by omega)]
    grind
  · rw [if_neg h]
    have e : ((b.natAbs : Nat) : Int) = b := by omega
    have e2 : b / (Int.gcd t b : Int) = k := Int.ediv_eq_of_eq_mul_right (by omega) hk
    rw [e, e2]
    exact hk
theorem gcd_step {a b : Int} (ha : 0 ≤ a) (hb : 0 ≤ b) : Int.gcd (b % a) a = Int.gcd a b := by
  obtain ⟨n, rfl⟩ := Int.eq_ofNat_of_zero_le ha
  obtain ⟨m, rfl⟩ := Int.eq_ofNat_of_zero_le hb
  rw [← Int.natCast_emod, Int.gcd_natCast_natCast, Int.gcd_natCast_natCast]
  exact (Nat.gcd_rec n m).symm
def Bd (n : Nat) (q : Rat) : Prop := q.num.natAbs < 2 ^ n ∧ q.den < 2 ^ n
theorem bd_divInt {t b : Int} {n : Nat} (h1 : t.natAbs < 2 ^ n) (h2 : b.natAbs < 2 ^ n) (hb : b ≠ 0) : Bd n (Rat.divInt t b) := by
  have hg := gcd_pos_of (t := t) hb
  refine ⟨?_, ?_⟩
  · rw [← num_of hb]
    refine Nat.lt_of_le_of_lt ?_ h1
    obtain ⟨k, hk⟩ : (Int.gcd t b : Int) ∣ t := Int.gcd_dvd_left ..
    obtain ⟨k', hk'⟩ : ∃ k', t = dv t b * k' := by
      unfold dv
      split
      · exact ⟨-k, by grind⟩
      · exact ⟨k, hk⟩
    rw [fdiv_exact (dv_ne hb) hk']
    have e : t.natAbs = (dv t b).natAbs * k'.natAbs := by rw [← Int.natAbs_mul, ← hk']
    rw [e, dv_abs]
    exact Nat.le_mul_of_pos_left _ hg
  · rw [Rat.den_divInt, if_neg hb]
    exact Nat.lt_of_le_of_lt (Nat.div_le_self ..) h2
theorem mul_lt_pow {a b n m : Nat} (h1 : a < 2 ^ n) (h2 : b < 2 ^ m) : a * b < 2 ^ (n + m) := by
  rw [Nat.pow_add]
  exact Nat.mul_lt_mul'' h1 h2
theorem abs_mul {a b : Int} {n m : Nat} (h1 : a.natAbs < 2 ^ n) (h2 : b.natAbs < 2 ^ m) : (a * b).natAbs < 2 ^ (n + m) := by
  rw [Int.natAbs_mul]
  exact mul_lt_pow h1 h2
theorem abs_add {a b : Int} {n : Nat} (h1 : a.natAbs < 2 ^ n) (h2 : b.natAbs < 2 ^ n) : (a + b).natAbs < 2 ^ (n + 1) := by
  rw [Nat.pow_succ]
  omega
theorem abs_sub {a b : Int} {n : Nat} (h1 : a.natAbs < 2 ^ n) (h2 : b.natAbs < 2 ^ n) : (a - b).natAbs < 2 ^ (n + 1) := by
  rw [Nat.pow_succ]
  omega
theorem abs_mono {a : Int} {n m : Nat} (h1 : a.natAbs < 2 ^ n) (h : n ≤ m) : a.natAbs < 2 ^ m := Nat.lt_of_lt_of_le h1 (Nat.pow_le_pow_right (by decide) h)
theorem Bd.mono {q : Rat} {n m : Nat} (h : Bd n q) (l : n ≤ m) : Bd m q := ⟨abs_mono h.1 l, Nat.lt_of_lt_of_le h.2 (Nat.pow_le_pow_right (by decide) l)⟩
theorem add_num (p q : Rat) : Rat.divInt (p.num * q.den + q.num * p.den) (p.den * q.den) = p + q := by
  have hp : (p.den : Int) ≠ 0 := by have := p.den_nz; omega
  have hq : (q.den : Int) ≠ 0 := by have := q.den_nz; omega
  conv => rhs; rw [← Rat.num_divInt_den p, ← Rat.num_divInt_den q, Rat.divInt_add_divInt _ _ hp hq]
theorem sub_num (p q : Rat) : Rat.divInt (p.num * q.den - q.num * p.den) (p.den * q.den) = p - q := by
  have hp : (p.den : Int) ≠ 0 := by have := p.den_nz; omega
  have hq : (q.den : Int) ≠ 0 := by have := q.den_nz; omega
  conv => rhs; rw [← Rat.num_divInt_den p, ← Rat.num_divInt_den q, Rat.divInt_sub_divInt _ _ hp hq]
theorem mul_num (p q : Rat) : Rat.divInt (p.num * q.num) (p.den * q.den) = p * q := by
  conv => rhs; rw [← Rat.num_divInt_den p, ← Rat.num_divInt_den q, Rat.divInt_mul_divInt]
theorem lt_num (p q : Rat) : (p.num * q.den < q.num * p.den) = (p < q) := propext (Rat.lt_iff p q).symm
theorem le_num (p q : Rat) : (p.num * q.den ≤ q.num * p.den) = (p ≤ q) := propext (Rat.le_iff p q).symm
theorem eq_num (p q : Rat) : (p.num = q.num ∧ (p.den : Int) = q.den) = (p = q) := by
  apply propext
  constructor
  · rintro ⟨h1, h2⟩
    exact Rat.ext h1 (by omega)
  · rintro rfl
    exact ⟨rfl, rfl⟩
theorem of_num (i : Int) : Rat.divInt i 1 = (i : Rat) := Rat.num_divInt_den (i : Rat)
theorem neg_num (p : Rat) : Rat.divInt (-p.num) p.den = -p := by
  conv => rhs; rw [← Rat.num_divInt_den p, Rat.neg_divInt]
theorem div_num (p q : Rat) : Rat.divInt (p.num * q.den) (p.den * q.num) = p / q := by
  conv => rhs; rw [← Rat.num_divInt_den p, ← Rat.num_divInt_den q, Rat.div_def, Rat.inv_divInt, Rat.divInt_mul_divInt]
theorem abs_num (p : Rat) : Rat.divInt (if p.num < 0 then -p.num else p.num) p.den = p.abs := by
  by_cases h : p.num < 0
  · rw [if_pos h, neg_num]
    have h' : ¬ 0 ≤ p := fun z => by have := Rat.num_nonneg.mpr z; omega
    exact (Rat.abs_of_nonpos (by rcases Rat.le_total (a := 0) (b := p) with z | z; exact absurd z h'; exact z)).symm
  · rw [if_neg h, Rat.num_divInt_den]
    exact (Rat.abs_of_nonneg (Rat.num_nonneg.mp (by omega))).symm
theorem zero_num (p : Rat) : (p.num = 0) = (p = 0) := propext Rat.num_eq_zero
theorem radd_num (p : Rat) (i : Int) : Rat.divInt (p.num + i * p.den) p.den = (i : Rat) + p := by
  rw [Rat.add_comm, ← add_num p (i : Rat)]
  show _ = Rat.divInt (p.num * ((1 : Nat) : Int) + i * p.den) (p.den * ((1 : Nat) : Int))
  simp
theorem rsub_num (p : Rat) (i : Int) : Rat.divInt (i * p.den - p.num) p.den = (i : Rat) - p := by
  rw [← sub_num (i : Rat) p]
  show _ = Rat.divInt (i * p.den - p.num * ((1 : Nat) : Int)) (((1 : Nat) : Int) * p.den)
  simp
theorem rmul_num (p : Rat) (i : Int) : Rat.divInt (p.num * i) p.den = (i : Rat) * p := by
  rw [Rat.mul_comm, ← mul_num p (i : Rat)]
  show _ = Rat.divInt (p.num * i) (p.den * ((1 : Nat) : Int))
  simp

/-! ### a Ratio in the heap -/
theorem nox_K {X : Cx} : X.nox.K = X.K := rfl
def tNever : TS := fun _ _ _ => False
theorem ps_never {X : Cx} {st : Stmt} : PS X st tNever := ⟨fun _ _ _ _ _ _ h => h.elim⟩
def rf (q : Rat) : List (Str × V) := [("kept_top", .int q.num), ("kept_bottom", .int q.den)]
theorem kt_kb : ¬ (("kept_bottom" : Str) = "kept_top") := by decide +kernel
theorem rf_top {q : Rat} : (rf q).lookup ("kept_top" : Str) = some (V.int q.num) := by
  unfold rf
  rw [List.lookup_cons_self]
theorem rf_bot {q : Rat} : (rf q).lookup ("kept_bottom" : Str) = some (V.int q.den) := by
  unfold rf
  rw [List.lookup_cons, show (("kept_bottom" : Str) == "kept_top") = false from by simpa using kt_kb]
  rw [List.lookup_cons_self]
theorem rf_no {q : Rat} {m : Str} (h1 : ¬ m = "kept_top") (h2 : ¬ m = "kept_bottom") : (rf q).lookup m = (none : Option V) := by
  unfold rf
  rw [List.lookup_cons, show (m == ("kept_top" : Str)) = false from by simpa using h1]
  rw [List.lookup_cons, show (m == ("kept_bottom" : Str)) = false from by simpa using h2]
  rfl
theorem rf_put {t b : Int} {q : Rat} (h1 : t = q.num) (h2 : b = q.den) : putF "kept_bottom" (.int b) (putF "kept_top" (.int t) []) = rf q := by
  subst h1
  rw [h2]
  show (if ("kept_top" : Str) = "kept_bottom" then _ else (("kept_top" : Str), V.int q.num) :: putF "kept_bottom" (.int q.den) []) = rf q
  rw [if_neg (fun z => kt_kb z.symm)]
  rfl
def RatAt (C : Addr) (H : Hp) (v : V) (q : Rat) (n : Nat) : Prop := (∃ a dx, v = .ref a ∧ H a = some (.ins C dx (rf q))) ∧ Bd n q
def NumAt (C : Addr) (H : Hp) (v : V) (q : Rat) (n : Nat) : Prop := RatAt C H v q n ∨ ((∃ i : Int, v = .int i ∧ q = i) ∧ Bd n q)
theorem RatAt.same {C : Addr} {H H' : Hp} {v : V} {q : Rat} {n : Nat} (h : RatAt C H v q n) (s : Same H H') : RatAt C H' v q n := by
  obtain ⟨⟨a, dx, e, h⟩, b⟩ := h
  exact ⟨⟨a, dx, e, s _ _ h⟩, b⟩
theorem NumAt.same {C : Addr} {H H' : Hp} {v : V} {q : Rat} {n : Nat} (h : NumAt C H v q n) (s : Same H H') : NumAt C H' v q n := by
  rcases h with h | h
  · exact .inl (h.same s)
  · exact .inr h
def mkGo (C : Addr) (sp : Sp) (dvs : List V) (E : XK) (vs : List V) (H1 : Hp) (Q : VK) : Prop := ∀ x dx, H1 x = none → H1 dx = none → dx ≠ x → sp (.ref x :: (vs ++ dvs)) (upd (upd H1 dx (.own x)) x (.ins C dx [])) (fun v H2 => v = .non ∧ Q (.ref x) H2) E
theorem tMake_eq {C : Addr} {sp : Sp} {dvs : List V} {E : XK} {t : TA} {σ : St} {H : Hp} {Q : VK} : tMake C sp dvs E t σ H Q = t σ H fun vs H1 => mkGo C sp dvs E vs H1 Q := rfl
def spInit (C : Addr) : Sp := fun vs H Q _ => ∃ x dx t b, vs = [.ref x, .int t, .int b] ∧ b ≠ 0 ∧ b.natAbs < 2 ^ 9000 ∧ H x = some (.ins C dx []) ∧ Q .non (upd H x (.ins C dx (rf (Rat.divInt t b))))
theorem make_go {C : Addr} {E : XK} {vs dvs : List V} {H : Hp} {Q : VK} {t b : Int} {n : Nat} (e : vs ++ dvs = [.int t, .int b]) (hb : b ≠ 0) (h1 : t.natAbs < 2 ^ n) (h2 : b.natAbs < 2 ^ n) (hn : n ≤ 9000)
    (k : ∀ H' v, Same H H' → RatAt C H' v (Rat.divInt t b) n → Q v H') : mkGo C (spInit C) dvs E vs H Q := by
  intro x dx nx nd ne
  rw [e]
  refine ⟨x, dx, t, b, rfl, hb, abs_mono h2 hn, upd_same, rfl, ?_⟩
  refine k _ _ (fun c o hc => ?_) ⟨⟨x, dx, rfl, upd_same⟩, bd_divInt h1 h2 hb⟩
  have c1 : c ≠ x := fun z => by rw [z, nx] at hc; cases hc
  have c2 : c ≠ dx := fun z => by rw [z, nd] at hc; cases hc
  rw [upd_ne c1, upd_ne c1, upd_ne c2]
  exact hc
theorem mulw {i j : Int} {n m : Nat} (h1 : i.natAbs < 2 ^ n) (h2 : j.natAbs < 2 ^ m) (h : n + m ≤ 20000) : CMulW i j := wide_mul (a := n + 1) (b := m + 1) (abs_mono h1 (by omega)) (abs_mono h2 (by omega)) (by omega) (by omega) (by omega)
theorem mulws {p q : Rat} {n m : Nat} (h1 : Bd n p) (h2 : Bd m q) (h : n + m ≤ 20000) : CMulW p.num q.den ∧ CMulW q.num p.den ∧ CMulW p.den q.den ∧ CMulW p.num q.num ∧ CMulW p.den q.num :=
  ⟨mulw h1.1 (by simpa using h2.2) h, mulw h2.1 (by simpa using h1.2) (by omega), mulw (by simpa using h1.2) (by simpa using h2.2) h, mulw h1.1 h2.1 h, mulw (by simpa using h1.2) h2.1 h⟩
theorem den_ne (p : Rat) : (p.den : Int) ≠ 0 := by have := p.den_nz; omega
theorem den_lt {p : Rat} {n : Nat} (h : Bd n p) : (p.den : Int).natAbs < 2 ^ n := by simpa using h.2
/-! ### promises -/
def tys (C : Addr) : List Value := [.type "int", .type "bool", .type "str", .type "list", .type "tuple", .type "dict", .type "NoneType", .ref C]
def spIsInt (C : Addr) : Sp := fun vs H Q _ => ∃ v t, vs = [v] ∧ tyV H v = some t ∧ t ∈ tys C ∧ Q (.bl (decide (t = .type "int"))) H
def spIsNum (C : Addr) : Sp := fun vs H Q _ => ∃ v t, vs = [v] ∧ tyV H v = some t ∧ t ∈ tys C ∧ Q (.bl (decide (t = .type "int") || decide (t = .ref C))) H
def spGcd : Sp := fun vs H Q _ => ∃ t b : Int, vs = [.int t, .int b] ∧ 0 ≤ b ∧ Q (.int (Int.gcd t b : Nat)) H
def spOf (C : Addr) : Sp := fun vs H Q _ => ∃ v q n, vs = [v] ∧ NumAt C H v q n ∧ n ≤ 9000 ∧ ∀ H' v', Same H H' → RatAt C H' v' q n → Q v' H'
def spBin (C : Addr) (f : Rat → Rat → Rat) : Sp := fun vs H Q _ => ∃ x y p q n m, vs = [x, y] ∧ RatAt C H x p n ∧ NumAt C H y q m ∧ n + m + 1 ≤ 9000 ∧ ∀ H' v, Same H H' → RatAt C H' v (f p q) (n + m + 1) → Q v H'
def spRBin (C : Addr) (f : Rat → Rat → Rat) : Sp := fun vs H Q _ => ∃ (x : V) (i : Int) (p : Rat) (n m : Nat), vs = [x, .int i] ∧ RatAt C H x p n ∧ Bd m i ∧ n + m + 1 ≤ 9000 ∧ ∀ H' v, Same H H' → RatAt C H' v (f i p) (n + m + 1) → Q v H'
def spUn (C : Addr) (f : Rat → Rat) : Sp := fun vs H Q _ => ∃ x p n, vs = [x] ∧ RatAt C H x p n ∧ n ≤ 9000 ∧ ∀ H' v, Same H H' → RatAt C H' v (f p) n → Q v H'
def spCmp (C : Addr) (r : Rat → Rat → Bool) : Sp := fun vs H Q _ => ∃ x y p q n m, vs = [x, y] ∧ RatAt C H x p n ∧ NumAt C H y q m ∧ n + m ≤ 9000 ∧ ∀ H', Same H H' → Q (.bl (r p q)) H'
def spCmpA (C : Addr) (r : Rat → Rat → Bool) (b0 : Bool) : Sp := fun vs H Q E => spCmp C r vs H Q E ∨ ∃ x y t, vs = [x, y] ∧ tyV H y = some t ∧ t ∈ tys C ∧ t ≠ .type "int" ∧ t ≠ .ref C ∧ Q (.bl b0) H
def spDiv (C : Addr) : Sp := fun vs H Q _ => ∃ x y p q n m, vs = [x, y] ∧ RatAt C H x p n ∧ NumAt C H y q m ∧ q ≠ 0 ∧ n + m + 1 ≤ 9000 ∧ ∀ H' v, Same H H' → RatAt C H' v (p / q) (n + m + 1) → Q v H'
def spMid (C : Addr) : Sp := fun vs H Q _ => ∃ x y p q n m, vs = [x, y] ∧ RatAt C H x p n ∧ RatAt C H y q m ∧ n + m + 10 ≤ 9000 ∧ ∀ H' v, Same H H' → RatAt C H' v ((p + q) / 2) (n + m + 4) → Q v H'
def spTru (C : Addr) : Sp := fun vs H Q _ => ∃ x p n, vs = [x] ∧ RatAt C H x p n ∧ Q (.bl (decide (p ≠ 0))) H
section
variable {P : Program} {w : World} {K : PySem.W.Frag} {mg : Str → Option Value} {base : Heap} {A : Adr}
theorem numTy (T : Txt K mg A) {H : Hp} {y : V} {q : Rat} {m : Nat} (h : NumAt A.k_Ratio H y q m) : ∃ t, tyV H y = some t ∧ (∀ C', t = .ref C' → TyF K C') ∧ PySem.W.kitAny K t [.type "int", .ref A.k_Ratio] = some true ∧ t ∈ tys A.k_Ratio ∧ (decide (t = .type "int") || decide (t = .ref A.k_Ratio)) = true := by
  rcases h with ⟨⟨a, dx, rfl, h⟩, _⟩ | ⟨⟨i, rfl, _⟩, _⟩
  · refine ⟨.ref A.k_Ratio, by rw [tyV_ref, h]; rfl, fun C' z => by cases z; exact T.t_Ratio, ?_, by simp [tys], by simp⟩
    rw [kitAny_f T.q_Ratio_int, kitAny_t kit_self]
  · exact ⟨.type "int", rfl, fun C' z => (by cases z), kitAny_t kit_self, by simp [tys], by simp⟩
theorem ok_isint (T : Txt K mg A) : FnOk P w K mg base CX0 1 A.a_IsInteger A.d_IsInteger ["value"] (spIsInt A.k_Ratio) := by
  refine T.f_IsInteger.ok scIsInteger (fun vs H Q E h => ?_) (fun cdv A' outer s H vs Q E hr h => ?_)
  · obtain ⟨v, t, rfl, _⟩ := h
    rfl
  · obtain ⟨v, t, rfl, ht, hm, k⟩ := h
    refine ⟨_, (pss_one (ps_ret (pe_and (pe_callB call_isW (by rfl) T.z_isinstance (by decide +kernel) (pa_cons (pv 0) (pa_cons (pe_bltn (v := .ty "int") (by rfl) T.z_int (by decide +kernel) rfl) pa_nil))) (pe_one (pe_not (pe_callB call_isW (by rfl) T.z_isinstance (by decide +kernel) (pa_cons (pv 0) (pa_cons (pe_bltn (v := .ty "bool") (by rfl) T.z_bool (by decide +kernel) rfl) pa_nil)))))))), ?_⟩
    have e1 : PySem.W.kitOne K (.type "int") (.type "int") = some true := kit_self
    have e2 : PySem.W.kitOne K (.type "int") (.type "bool") = some false := kit_ty (by decide +kernel)
    have e3 : PySem.W.kitOne K (.type "bool") (.type "int") = some true := kit_ty (by decide +kernel)
    have e4 : PySem.W.kitOne K (.type "bool") (.type "bool") = some true := kit_self
    have e5 : PySem.W.kitOne K (.type "str") (.type "int") = some false := kit_ty (by decide +kernel)
    have e6 : PySem.W.kitOne K (.type "list") (.type "int") = some false := kit_ty (by decide +kernel)
    have e7 : PySem.W.kitOne K (.type "tuple") (.type "int") = some false := kit_ty (by decide +kernel)
    have e8 : PySem.W.kitOne K (.type "dict") (.type "int") = some false := kit_ty (by decide +kernel)
    have e9 : PySem.W.kitOne K (.type "NoneType") (.type "int") = some false := kit_ty (by decide +kernel)
    unfold tys at hm
    rcases (by simpa using hm) with rfl | rfl | rfl | rfl | rfl | rfl | rfl | rfl
    all_goals (try simp only [tSeq, tNext, tRet, tRetN, tAsg, gName, gSub, tDrop, tIfS, tOp, tUn, tCB, tCons, tNil, tC, tVar, rI, rI0, rU, tAnd, tOr, tNot, tAndV, tOrV, tNotV, tIf, tTest, tB, tCall, tChain, tLst, tTup, tYes, rIxH, rIsB, rIsBT, rMulS, kd_non, kd_bl, kd_int, kd_str, kd_ref, kdO_lst, kdO_tup, kdO_dK, nq_n, nq_b, nq_i, nq_s, nq_l, nq_t, nq_d, ne_eq, not_false_eq_true, kit_ss, kit_ns, kit_bs, kit_is, kit_ls, kit_ts, kit_ds, kit_bb, V.ty.injEq, and_assoc, rIxU, rLenH, rLenU, rLenS, rInt1, rSetL, rEq, rNe, rCat, L2.start, List.map, List.length, List.length_cons, List.length_nil, List.replicate, List.getElem?_cons_zero, List.getElem?_cons_succ, List.set_cons_zero, List.set_cons_succ, List.set_nil, List.cons_append, List.nil_append, List.append_nil, Option.some.injEq, V.int.injEq, V.ref.injEq, V.str.injEq, V.bl.injEq, HO.lst.injEq, HO.tup.injEq, exists_eq_left', exists_and_left, exists_eq_left, List.cons.injEq, and_true, true_and, and_false, false_and, and_self, reduceCtorEq, exists_false, or_false, false_or, exists_const, at0, at1, at2, at3, at4, at5, ix51, ix52, ix54, upd_same, Nat.reduceAdd, Nat.reduceSub, Nat.zero_add, Int.reduceToNat, Int.reduceLE, Int.reduceLT, decide_eq_true_eq, Bool.not_eq_true, if_true, if_false, Bool.false_eq_true, ite_true, ite_false, Bool.not_true, Bool.not_false, decide_true, decide_false, tFor_eq, tLc_eq, iList, iTup, iRng1, iRng2, iStr, tSl, tPart, tNoPart, rSlL, cxOf_K, wipe, ex_ty2, kit_LTl, kit_LTt, kit_LTd, kit_LTs, kit_LTn, kit_LTb, kit_LTi, tM1, rIxS, exists_eq', lt1p, tDNewK, rSlS, rEqNil, nox_K, rIsW, clsV_ty, clsV_ref, ht, e1, e2, e3, e4, e5, e6, e7, e8, e9, T.q_Ratio_int, Value.ref.injEq, forall_eq', T.t_Ratio, implies_true, forall_const, false_implies]; simpa using k)
theorem ok_isnum (T : Txt K mg A) (gIsInteger : FnOk P w K mg base CX0 1 A.a_IsInteger A.d_IsInteger ["value"] (spIsInt A.k_Ratio)) : FnOk P w K mg base CX0 2 A.a_IsNumber A.d_IsNumber ["value"] (spIsNum A.k_Ratio) := by
  refine T.f_IsNumber.ok scIsNumber (fun vs H Q E h => ?_) (fun cdv A' outer s H vs Q E hr h => ?_)
  · obtain ⟨v, t, rfl, _⟩ := h
    rfl
  · obtain ⟨v, t, rfl, ht, hm, k⟩ := h
    refine ⟨_, (pss_one (ps_ret (pe_or (pe_call gIsInteger (hr.mono (by decide)) (by rfl) T.m_IsInteger T.f_IsInteger.kp T.b_IsInteger .nil pass0 (pa_cons (pv 0) pa_nil)) (pe_one (pe_callB call_isW (by rfl) T.z_isinstance (by decide +kernel) (pa_cons (pv 0) (pa_cons (pe_glob (v := .ref A.k_Ratio) (by rfl) T.k_Ratio rfl) pa_nil))))))), ?_⟩
    have e1 : PySem.W.kitOne K (.ref A.k_Ratio) (.ref A.k_Ratio) = some true := kit_self
    try simp only [tSeq, tNext, tRet, tRetN, tAsg, gName, gSub, tDrop, tIfS, tOp, tUn, tCB, tCons, tNil, tC, tVar, rI, rI0, rU, tAnd, tOr, tNot, tAndV, tOrV, tNotV, tIf, tTest, tB, tCall, tChain, tLst, tTup, tYes, rIxH, rIsB, rIsBT, rMulS, kd_non, kd_bl, kd_int, kd_str, kd_ref, kdO_lst, kdO_tup, kdO_dK, nq_n, nq_b, nq_i, nq_s, nq_l, nq_t, nq_d, ne_eq, not_false_eq_true, kit_ss, kit_ns, kit_bs, kit_is, kit_ls, kit_ts, kit_ds, kit_bb, V.ty.injEq, and_assoc, rIxU, rLenH, rLenU, rLenS, rInt1, rSetL, rEq, rNe, rCat, L2.start, List.map, List.length, List.length_cons, List.length_nil, List.replicate, List.getElem?_cons_zero, List.getElem?_cons_succ, List.set_cons_zero, List.set_cons_succ, List.set_nil, List.cons_append, List.nil_append, List.append_nil, Option.some.injEq, V.int.injEq, V.ref.injEq, V.str.injEq, V.bl.injEq, HO.lst.injEq, HO.tup.injEq, exists_eq_left', exists_and_left, exists_eq_left, List.cons.injEq, and_true, true_and, and_false, false_and, and_self, reduceCtorEq, exists_false, or_false, false_or, exists_const, at0, at1, at2, at3, at4, at5, ix51, ix52, ix54, upd_same, Nat.reduceAdd, Nat.reduceSub, Nat.zero_add, Int.reduceToNat, Int.reduceLE, Int.reduceLT, decide_eq_true_eq, Bool.not_eq_true, if_true, if_false, Bool.false_eq_true, ite_true, ite_false, Bool.not_true, Bool.not_false, decide_true, decide_false, tFor_eq, tLc_eq, iList, iTup, iRng1, iRng2, iStr, tSl, tPart, tNoPart, rSlL, cxOf_K, wipe, ex_ty2, kit_LTl, kit_LTt, kit_LTd, kit_LTs, kit_LTn, kit_LTb, kit_LTi, tM1, rIxS, exists_eq', lt1p, tDNewK, rSlS, rEqNil]
    refine ⟨v, t, rfl, ht, hm, ?_⟩
    unfold tys at hm
    rcases (by simpa using hm) with rfl | rfl | rfl | rfl | rfl | rfl | rfl | rfl
    all_goals (try simp only [tSeq, tNext, tRet, tRetN, tAsg, gName, gSub, tDrop, tIfS, tOp, tUn, tCB, tCons, tNil, tC, tVar, rI, rI0, rU, tAnd, tOr, tNot, tAndV, tOrV, tNotV, tIf, tTest, tB, tCall, tChain, tLst, tTup, tYes, rIxH, rIsB, rIsBT, rMulS, kd_non, kd_bl, kd_int, kd_str, kd_ref, kdO_lst, kdO_tup, kdO_dK, nq_n, nq_b, nq_i, nq_s, nq_l, nq_t, nq_d, ne_eq, not_false_eq_true, kit_ss, kit_ns, kit_bs, kit_is, kit_ls, kit_ts, kit_ds, kit_bb, V.ty.injEq, and_assoc, rIxU, rLenH, rLenU, rLenS, rInt1, rSetL, rEq, rNe, rCat, L2.start, List.map, List.length, List.length_cons, List.length_nil, List.replicate, List.getElem?_cons_zero, List.getElem?_cons_succ, List.set_cons_zero, List.set_cons_succ, List.set_nil, List.cons_append, List.nil_append, List.append_nil, Option.some.injEq, V.int.injEq, V.ref.injEq, V.str.injEq, V.bl.injEq, HO.lst.injEq, HO.tup.injEq, exists_eq_left', exists_and_left, exists_eq_left, List.cons.injEq, and_true, true_and, and_false, false_and, and_self, reduceCtorEq, exists_false, or_false, false_or, exists_const, at0, at1, at2, at3, at4, at5, ix51, ix52, ix54, upd_same, Nat.reduceAdd, Nat.reduceSub, Nat.zero_add, Int.reduceToNat, Int.reduceLE, Int.reduceLT, decide_eq_true_eq, Bool.not_eq_true, if_true, if_false, Bool.false_eq_true, ite_true, ite_false, Bool.not_true, Bool.not_false, decide_true, decide_false, tFor_eq, tLc_eq, iList, iTup, iRng1, iRng2, iStr, tSl, tPart, tNoPart, rSlL, cxOf_K, wipe, ex_ty2, kit_LTl, kit_LTt, kit_LTd, kit_LTs, kit_LTn, kit_LTb, kit_LTi, tM1, rIxS, exists_eq', lt1p, tDNewK, rSlS, rEqNil, nox_K, rIsW, clsV_ty, clsV_ref, ht, e1, T.q_int_Ratio, T.q_bool_Ratio, T.q_str_Ratio, T.q_list_Ratio, T.q_tuple_Ratio, T.q_dict_Ratio, T.q_NoneType_Ratio, Value.ref.injEq, forall_eq', T.t_Ratio, implies_true, forall_const, false_implies]; simpa using k)
def GcdP (t b : Int) (H : Hp) : St → Hp → Prop := fun σ H' => ∃ a c : Int, σ = [some (.int t), some (.int b), some (.int a), some (.int c)] ∧ 0 ≤ a ∧ 0 ≤ c ∧ Int.gcd a c = Int.gcd t b ∧ H' = H
def gcdM : St → Hp → Nat := fun σ _ => match σ with
  | [_, _, some (.int a), _] => a.toNat
  | _ => 0
theorem ok_gcd (T : Txt K mg A) : FnOk P w K mg base CX0 1 A.a_CommonDivisor A.d_CommonDivisor ["first", "second"] spGcd := by
  refine T.f_CommonDivisor.ok scCommonDivisor (fun vs H Q E h => ?_) (fun cdv A' outer s H vs Q E hr h => ?_)
  · obtain ⟨t, b, rfl, _⟩ := h
    rfl
  · obtain ⟨t, b, rfl, hb, k⟩ := h
    refine ⟨_, (pss_cons (ps_par (i := 2) (j := 3) (by rfl) scCommonDivisor.nd rfl rfl (by decide) rfl rfl (pa_cons (pe_callB call_abs (by rfl) T.z_abs (by decide +kernel) (pa_cons (pv 0) pa_nil)) (pa_cons (pv 1) pa_nil)) (by rfl))
      (pss_cons (ps_while PassesOwn.never (pt_cmpR (op_gt) (pv 2) pe_int (nomark _)) (pss_one (ps_par (i := 2) (j := 3) (by rfl) scCommonDivisor.nd rfl rfl (by decide) rfl rfl (pa_cons (pe_op op_mod (pv 3) (pv 2)) (pa_cons (pv 2) pa_nil)) (by rfl))))
      (pss_one (ps_ret (pv 3))))), ?_⟩
    refine ⟨_, rfl, _, rfl, _, rfl, _, _, rfl, ?_⟩
    refine while_by (GcdP t b H) gcdM ⟨_, _, rfl, ?_, hb, ?_, rfl⟩ ?_ ?_
    · split <;> omega
    · split
      · rw [Int.neg_gcd]
      · rfl
    · rintro σ H' ⟨a, c, rfl, ha, hc, hg, rfl⟩
      refine ⟨_, rfl, _, _, rfl, rfl, _, rfl, ?_⟩
      show ite (decide (0 < a) = true) _ _
      by_cases h0 : 0 < a
      · rw [if_pos (decide_eq_true h0)]
        refine ⟨_, rfl, _, rfl, _, _, rfl, rfl, h0, _, rfl, _, _, rfl, ?_⟩
        refine ⟨⟨c % a, a, rfl, Int.emod_nonneg _ (by omega), by omega, by rw [gcd_step ha hc]; exact hg, rfl⟩, ?_⟩
        show (c % a).toNat < a.toNat
        have := Int.emod_lt_of_pos c h0
        omega
      · rw [if_neg (by simpa using h0)]
        have a0 : a = 0 := by omega
        subst a0
        refine ⟨_, rfl, ?_⟩
        rw [Int.zero_gcd] at hg
        rw [← hg] at k
        have e : ((c.natAbs : Nat) : Int) = c := by omega
        rw [e] at k
        exact k
    · rintro σ H' Q1 Q2 h ⟨v, e, i, j, e1, e2, l, e3, q⟩
      exact ⟨v, e, i, j, e1, e2, l, e3, h _ _ q⟩
end

section
variable {P : Program} {w : World} {K : PySem.W.Frag} {mg : Str → Option Value} {base : Heap} {A : Adr}

theorem ok_init (T : Txt K mg A) (gIsInteger : FnOk P w K mg base CX0 1 A.a_IsInteger A.d_IsInteger ["value"] (spIsInt A.k_Ratio)) (gCommonDivisor : FnOk P w K mg base CX0 1 A.a_CommonDivisor A.d_CommonDivisor ["first", "second"] spGcd) : FnOk P w K mg base CX0 2 A.a_RatioInit A.d_RatioInit ["self", "top", "bottom"] (spInit A.k_Ratio) := by
  refine T.f_RatioInit.ok scRatioInit (fun vs H Q E h => ?_) (fun cdv A' outer s H vs Q E hr h => ?_)
  · obtain ⟨x, dx, t, b, rfl, _⟩ := h
    rfl
  · obtain ⟨x, dx, t, b, rfl, hb, hB, hx, k⟩ := h
    refine ⟨_, (pss_cons (ps_if (pt_not (pt_val (pe_call gIsInteger (hr.mono (by decide)) (by rfl) T.m_IsInteger T.f_IsInteger.kp T.b_IsInteger .nil pass0 (pa_cons (pv 1) pa_nil)))) (pss_one ps_never) pss_nil)
      (pss_cons (ps_if (PW.pt (pw_or (pt_not (pt_val (pe_call gIsInteger (hr.mono (by decide)) (by rfl) T.m_IsInteger T.f_IsInteger.kp T.b_IsInteger .nil pass0 (pa_cons (pv 2) pa_nil)))) (pw_or1 (pt_cmpR (op_eq) (pv 2) pe_int (nomark _))))) (pss_one ps_never) pss_nil)
      (pss_cons (ps_set (i := 3) scRatioInit.nd rfl (Or.inl rfl) (pe_call gCommonDivisor (hr.mono (by decide)) (by rfl) T.m_CommonDivisor T.f_CommonDivisor.kp T.b_CommonDivisor .nil pass0 (pa_cons (pv 1) (pa_cons (pe_callB call_abs (by rfl) T.z_abs (by decide +kernel) (pa_cons (pv 2) pa_nil)) pa_nil))))
      (pss_cons (ps_if (pt_cmpR (op_lt) (pv 2) pe_int (nomark _)) (pss_one (ps_set (i := 3) scRatioInit.nd rfl (Or.inl rfl) (pe_un un_neg (pv 3)))) pss_nil)
      (pss_cons (ps_fld (pv 0) (pe_op op_fdivZ (pv 1) (pv 3)) rfl)
      (pss_one (ps_fld (pv 0) (pe_op op_fdivZ (pv 2) (pv 3)) rfl))))))), ?_⟩
    try simp only [tSeq, tNext, tRet, tRetN, tAsg, gName, gSub, tDrop, tIfS, tOp, tUn, tCB, tCons, tNil, tC, tVar, rI, rI0, rU, tAnd, tOr, tNot, tAndV, tOrV, tNotV, tIf, tTest, tB, tCall, tChain, tLst, tTup, tYes, rIxH, rIsB, rIsBT, rMulS, kd_non, kd_bl, kd_int, kd_str, kd_ref, kdO_lst, kdO_tup, kdO_dK, nq_n, nq_b, nq_i, nq_s, nq_l, nq_t, nq_d, ne_eq, not_false_eq_true, kit_ss, kit_ns, kit_bs, kit_is, kit_ls, kit_ts, kit_ds, kit_bb, V.ty.injEq, and_assoc, rIxU, rLenH, rLenU, rLenS, rInt1, rSetL, rEq, rNe, rCat, L2.start, List.map, List.length, List.length_cons, List.length_nil, List.replicate, List.getElem?_cons_zero, List.getElem?_cons_succ, List.set_cons_zero, List.set_cons_succ, List.set_nil, List.cons_append, List.nil_append, List.append_nil, Option.some.injEq, V.int.injEq, V.ref.injEq, V.str.injEq, V.bl.injEq, HO.lst.injEq, HO.tup.injEq, exists_eq_left', exists_and_left, exists_eq_left, List.cons.injEq, and_true, true_and, and_false, false_and, and_self, reduceCtorEq, exists_false, or_false, false_or, exists_const, at0, at1, at2, at3, at4, at5, ix51, ix52, ix54, upd_same, Nat.reduceAdd, Nat.reduceSub, Nat.zero_add, Int.reduceToNat, Int.reduceLE, Int.reduceLT, decide_eq_true_eq, Bool.not_eq_true, if_true, if_false, Bool.false_eq_true, ite_true, ite_false, Bool.not_true, Bool.not_false, decide_true, decide_false, tFor_eq, tLc_eq, iList, iTup, iRng1, iRng2, iStr, tSl, tPart, tNoPart, rSlL, cxOf_K, wipe, ex_ty2, kit_LTl, kit_LTt, kit_LTd, kit_LTs, kit_LTn, kit_LTb, kit_LTi, tM1, rIxS, exists_eq', lt1p, tDNewK, rSlS, rEqNil, nox_K, tNever]
    refine ⟨.int t, .type "int", rfl, rfl, by simp [tys], ?_⟩
    try simp only [tSeq, tNext, tRet, tRetN, tAsg, gName, gSub, tDrop, tIfS, tOp, tUn, tCB, tCons, tNil, tC, tVar, rI, rI0, rU, tAnd, tOr, tNot, tAndV, tOrV, tNotV, tIf, tTest, tB, tCall, tChain, tLst, tTup, tYes, rIxH, rIsB, rIsBT, rMulS, kd_non, kd_bl, kd_int, kd_str, kd_ref, kdO_lst, kdO_tup, kdO_dK, nq_n, nq_b, nq_i, nq_s, nq_l, nq_t, nq_d, ne_eq, not_false_eq_true, kit_ss, kit_ns, kit_bs, kit_is, kit_ls, kit_ts, kit_ds, kit_bb, V.ty.injEq, and_assoc, rIxU, rLenH, rLenU, rLenS, rInt1, rSetL, rEq, rNe, rCat, L2.start, List.map, List.length, List.length_cons, List.length_nil, List.replicate, List.getElem?_cons_zero, List.getElem?_cons_succ, List.set_cons_zero, List.set_cons_succ, List.set_nil, List.cons_append, List.nil_append, List.append_nil, Option.some.injEq, V.int.injEq, V.ref.injEq, V.str.injEq, V.bl.injEq, HO.lst.injEq, HO.tup.injEq, exists_eq_left', exists_and_left, exists_eq_left, List.cons.injEq, and_true, true_and, and_false, false_and, and_self, reduceCtorEq, exists_false, or_false, false_or, exists_const, at0, at1, at2, at3, at4, at5, ix51, ix52, ix54, upd_same, Nat.reduceAdd, Nat.reduceSub, Nat.zero_add, Int.reduceToNat, Int.reduceLE, Int.reduceLT, decide_eq_true_eq, Bool.not_eq_true, if_true, if_false, Bool.false_eq_true, ite_true, ite_false, Bool.not_true, Bool.not_false, decide_true, decide_false, tFor_eq, tLc_eq, iList, iTup, iRng1, iRng2, iStr, tSl, tPart, tNoPart, rSlL, cxOf_K, wipe, ex_ty2, kit_LTl, kit_LTt, kit_LTd, kit_LTs, kit_LTn, kit_LTb, kit_LTi, tM1, rIxS, exists_eq', lt1p, tDNewK, rSlS, rEqNil, nox_K, tNever]
    refine ⟨.int b, .type "int", rfl, rfl, by simp [tys], ?_⟩
    try simp only [tSeq, tNext, tRet, tRetN, tAsg, gName, gSub, tDrop, tIfS, tOp, tUn, tCB, tCons, tNil, tC, tVar, rI, rI0, rU, tAnd, tOr, tNot, tAndV, tOrV, tNotV, tIf, tTest, tB, tCall, tChain, tLst, tTup, tYes, rIxH, rIsB, rIsBT, rMulS, kd_non, kd_bl, kd_int, kd_str, kd_ref, kdO_lst, kdO_tup, kdO_dK, nq_n, nq_b, nq_i, nq_s, nq_l, nq_t, nq_d, ne_eq, not_false_eq_true, kit_ss, kit_ns, kit_bs, kit_is, kit_ls, kit_ts, kit_ds, kit_bb, V.ty.injEq, and_assoc, rIxU, rLenH, rLenU, rLenS, rInt1, rSetL, rEq, rNe, rCat, L2.start, List.map, List.length, List.length_cons, List.length_nil, List.replicate, List.getElem?_cons_zero, List.getElem?_cons_succ, List.set_cons_zero, List.set_cons_succ, List.set_nil, List.cons_append, List.nil_append, List.append_nil, Option.some.injEq, V.int.injEq, V.ref.injEq, V.str.injEq, V.bl.injEq, HO.lst.injEq, HO.tup.injEq, exists_eq_left', exists_and_left, exists_eq_left, List.cons.injEq, and_true, true_and, and_false, false_and, and_self, reduceCtorEq, exists_false, or_false, false_or, exists_const, at0, at1, at2, at3, at4, at5, ix51, ix52, ix54, upd_same, Nat.reduceAdd, Nat.reduceSub, Nat.zero_add, Int.reduceToNat, Int.reduceLE, Int.reduceLT, decide_eq_true_eq, Bool.not_eq_true, if_true, if_false, Bool.false_eq_true, ite_true, ite_false, Bool.not_true, Bool.not_false, decide_true, decide_false, tFor_eq, tLc_eq, iList, iTup, iRng1, iRng2, iStr, tSl, tPart, tNoPart, rSlL, cxOf_K, wipe, ex_ty2, kit_LTl, kit_LTt, kit_LTd, kit_LTs, kit_LTn, kit_LTb, kit_LTi, tM1, rIxS, exists_eq', lt1p, tDNewK, rSlS, rEqNil, nox_K, tNever, scal_int, hb]
    refine ⟨t, _, rfl, by split <;> omega, ?_⟩
    have e : ((Int.gcd t (if b < 0 then -b else b) : Nat) : Int) = (Int.gcd t b : Nat) := by
      split
      · rw [Int.gcd_neg]
      · rfl
    rw [e]
    have hl : (dv t b).natAbs.log2 < 9000 := log2_of (n := 9000) (Nat.lt_of_le_of_lt (by rw [dv_abs]; exact Nat.le_of_dvd (by omega) (Int.gcd_dvd_natAbs_right t b)) hB) (Nat.le_refl _)
    have c1 : CDivZ t (dv t b) := ⟨dv_ne hb, hl⟩
    have c2 : CDivZ b (dv t b) := ⟨dv_ne hb, hl⟩
    by_cases h0 : b < 0
    · have ed : -((Int.gcd t b : Nat) : Int) = dv t b := by unfold dv; rw [if_pos h0]
      try simp only [tSeq, tNext, tRet, tRetN, tAsg, gName, gSub, tDrop, tIfS, tOp, tUn, tCB, tCons, tNil, tC, tVar, rI, rI0, rU, tAnd, tOr, tNot, tAndV, tOrV, tNotV, tIf, tTest, tB, tCall, tChain, tLst, tTup, tYes, rIxH, rIsB, rIsBT, rMulS, kd_non, kd_bl, kd_int, kd_str, kd_ref, kdO_lst, kdO_tup, kdO_dK, nq_n, nq_b, nq_i, nq_s, nq_l, nq_t, nq_d, ne_eq, not_false_eq_true, kit_ss, kit_ns, kit_bs, kit_is, kit_ls, kit_ts, kit_ds, kit_bb, V.ty.injEq, and_assoc, rIxU, rLenH, rLenU, rLenS, rInt1, rSetL, rEq, rNe, rCat, L2.start, List.map, List.length, List.length_cons, List.length_nil, List.replicate, List.getElem?_cons_zero, List.getElem?_cons_succ, List.set_cons_zero, List.set_cons_succ, List.set_nil, List.cons_append, List.nil_append, List.append_nil, Option.some.injEq, V.int.injEq, V.ref.injEq, V.str.injEq, V.bl.injEq, HO.lst.injEq, HO.tup.injEq, exists_eq_left', exists_and_left, exists_eq_left, List.cons.injEq, and_true, true_and, and_false, false_and, and_self, reduceCtorEq, exists_false, or_false, false_or, exists_const, at0, at1, at2, at3, at4, at5, ix51, ix52, ix54, upd_same, Nat.reduceAdd, Nat.reduceSub, Nat.zero_add, Int.reduceToNat, Int.reduceLE, Int.reduceLT, decide_eq_true_eq, Bool.not_eq_true, if_true, if_false, Bool.false_eq_true, ite_true, ite_false, Bool.not_true, Bool.not_false, decide_true, decide_false, tFor_eq, tLc_eq, iList, iTup, iRng1, iRng2, iStr, tSl, tPart, tNoPart, rSlL, cxOf_K, wipe, ex_ty2, kit_LTl, kit_LTt, kit_LTd, kit_LTs, kit_LTn, kit_LTb, kit_LTi, tM1, rIxS, exists_eq', lt1p, tDNewK, rSlS, rEqNil, nox_K, sFld, hx, h0, ed, c1, c2, T.t_Ratio.cl, T.n_Ratio_kept_top, T.n_Ratio_kept_bottom, HO.ins.injEq, upd_upd, num_of hb, den_of hb]
      exact ⟨by decide, by show 1 < 1000; decide, by rw [rf_put rfl rfl]; exact k⟩
    · have ed : ((Int.gcd t b : Nat) : Int) = dv t b := by unfold dv; rw [if_neg h0]
      try simp only [tSeq, tNext, tRet, tRetN, tAsg, gName, gSub, tDrop, tIfS, tOp, tUn, tCB, tCons, tNil, tC, tVar, rI, rI0, rU, tAnd, tOr, tNot, tAndV, tOrV, tNotV, tIf, tTest, tB, tCall, tChain, tLst, tTup, tYes, rIxH, rIsB, rIsBT, rMulS, kd_non, kd_bl, kd_int, kd_str, kd_ref, kdO_lst, kdO_tup, kdO_dK, nq_n, nq_b, nq_i, nq_s, nq_l, nq_t, nq_d, ne_eq, not_false_eq_true, kit_ss, kit_ns, kit_bs, kit_is, kit_ls, kit_ts, kit_ds, kit_bb, V.ty.injEq, and_assoc, rIxU, rLenH, rLenU, rLenS, rInt1, rSetL, rEq, rNe, rCat, L2.start, List.map, List.length, List.length_cons, List.length_nil, List.replicate, List.getElem?_cons_zero, List.getElem?_cons_succ, List.set_cons_zero, List.set_cons_succ, List.set_nil, List.cons_append, List.nil_append, List.append_nil, Option.some.injEq, V.int.injEq, V.ref.injEq, V.str.injEq, V.bl.injEq, HO.lst.injEq, HO.tup.injEq, exists_eq_left', exists_and_left, exists_eq_left, List.cons.injEq, and_true, true_and, and_false, false_and, and_self, reduceCtorEq, exists_false, or_false, false_or, exists_const, at0, at1, at2, at3, at4, at5, ix51, ix52, ix54, upd_same, Nat.reduceAdd, Nat.reduceSub, Nat.zero_add, Int.reduceToNat, Int.reduceLE, Int.reduceLT, decide_eq_true_eq, Bool.not_eq_true, if_true, if_false, Bool.false_eq_true, ite_true, ite_false, Bool.not_true, Bool.not_false, decide_true, decide_false, tFor_eq, tLc_eq, iList, iTup, iRng1, iRng2, iStr, tSl, tPart, tNoPart, rSlL, cxOf_K, wipe, ex_ty2, kit_LTl, kit_LTt, kit_LTd, kit_LTs, kit_LTn, kit_LTb, kit_LTi, tM1, rIxS, exists_eq', lt1p, tDNewK, rSlS, rEqNil, nox_K, sFld, hx, h0, ed, c1, c2, T.t_Ratio.cl, T.n_Ratio_kept_top, T.n_Ratio_kept_bottom, HO.ins.injEq, upd_upd, num_of hb, den_of hb]
      exact ⟨by decide, by show 1 < 1000; decide, by rw [rf_put rfl rfl]; exact k⟩

theorem ok_of (T : Txt K mg A) (gRatioInit : FnOk P w K mg base CX0 2 A.a_RatioInit A.d_RatioInit ["self", "top", "bottom"] (spInit A.k_Ratio)) : FnOk P w K mg base CX0 4 A.a_RatioOf A.d_RatioOf ["number"] (spOf A.k_Ratio) := by
  refine T.f_RatioOf.ok scRatioOf (fun vs H Q E h => ?_) (fun cdv A' outer s H vs Q E hr h => ?_)
  · obtain ⟨v, q, n, rfl, _⟩ := h
    rfl
  · obtain ⟨v, q, n, rfl, hv, hn, k⟩ := h
    refine ⟨_, (pss_cons (ps_if (pt_val (pe_callB call_isW (by rfl) T.z_isinstance (by decide +kernel) (pa_cons (pv 0) (pa_cons (pe_glob (v := .ref A.k_Ratio) (by rfl) T.k_Ratio rfl) pa_nil)))) (pss_one (ps_ret (pv 0))) pss_nil)
      (pss_one (ps_ret (pe_make T.mk_Ratio gRatioInit (hr.mono (by decide)) (by rfl) T.k_Ratio T.e1_RatioInit.choose_spec.2 T.e1_RatioInit.choose_spec.1 pass0 (pa_cons (pv 0) pa_nil))))), ?_⟩
    have e1 : PySem.W.kitOne K (.ref A.k_Ratio) (.ref A.k_Ratio) = some true := kit_self
    rcases hv with hv | hv
    · have hv0 := hv
      obtain ⟨⟨a, dx, rfl, ha⟩, bd⟩ := hv
      try simp only [tSeq, tNext, tRet, tRetN, tAsg, gName, gSub, tDrop, tIfS, tOp, tUn, tCB, tCons, tNil, tC, tVar, rI, rI0, rU, tAnd, tOr, tNot, tAndV, tOrV, tNotV, tIf, tTest, tB, tCall, tChain, tLst, tTup, tYes, rIxH, rIsB, rIsBT, rMulS, kd_non, kd_bl, kd_int, kd_str, kd_ref, kdO_lst, kdO_tup, kdO_dK, nq_n, nq_b, nq_i, nq_s, nq_l, nq_t, nq_d, ne_eq, not_false_eq_true, kit_ss, kit_ns, kit_bs, kit_is, kit_ls, kit_ts, kit_ds, kit_bb, V.ty.injEq, and_assoc, rIxU, rLenH, rLenU, rLenS, rInt1, rSetL, rEq, rNe, rCat, L2.start, List.map, List.length, List.length_cons, List.length_nil, List.replicate, List.getElem?_cons_zero, List.getElem?_cons_succ, List.set_cons_zero, List.set_cons_succ, List.set_nil, List.cons_append, List.nil_append, List.append_nil, Option.some.injEq, V.int.injEq, V.ref.injEq, V.str.injEq, V.bl.injEq, HO.lst.injEq, HO.tup.injEq, exists_eq_left', exists_and_left, exists_eq_left, List.cons.injEq, and_true, true_and, and_false, false_and, and_self, reduceCtorEq, exists_false, or_false, false_or, exists_const, at0, at1, at2, at3, at4, at5, ix51, ix52, ix54, upd_same, Nat.reduceAdd, Nat.reduceSub, Nat.zero_add, Int.reduceToNat, Int.reduceLE, Int.reduceLT, decide_eq_true_eq, Bool.not_eq_true, if_true, if_false, Bool.false_eq_true, ite_true, ite_false, Bool.not_true, Bool.not_false, decide_true, decide_false, tFor_eq, tLc_eq, iList, iTup, iRng1, iRng2, iStr, tSl, tPart, tNoPart, rSlL, cxOf_K, wipe, ex_ty2, kit_LTl, kit_LTt, kit_LTd, kit_LTs, kit_LTn, kit_LTb, kit_LTi, tM1, rIxS, exists_eq', lt1p, tDNewK, rSlS, rEqNil, nox_K, tMake_eq, rIsW, clsV_ty, clsV_ref, tyV_ref, tyO_ins, ha, e1, Value.ref.injEq, forall_eq', T.t_Ratio, implies_true, forall_const, false_implies]
      exact k H _ (Same.refl H) hv0
    · obtain ⟨⟨i, rfl, rfl⟩, bd⟩ := hv
      try simp only [tSeq, tNext, tRet, tRetN, tAsg, gName, gSub, tDrop, tIfS, tOp, tUn, tCB, tCons, tNil, tC, tVar, rI, rI0, rU, tAnd, tOr, tNot, tAndV, tOrV, tNotV, tIf, tTest, tB, tCall, tChain, tLst, tTup, tYes, rIxH, rIsB, rIsBT, rMulS, kd_non, kd_bl, kd_int, kd_str, kd_ref, kdO_lst, kdO_tup, kdO_dK, nq_n, nq_b, nq_i, nq_s, nq_l, nq_t, nq_d, ne_eq, not_false_eq_true, kit_ss, kit_ns, kit_bs, kit_is, kit_ls, kit_ts, kit_ds, kit_bb, V.ty.injEq, and_assoc, rIxU, rLenH, rLenU, rLenS, rInt1, rSetL, rEq, rNe, rCat, L2.start, List.map, List.length, List.length_cons, List.length_nil, List.replicate, List.getElem?_cons_zero, List.getElem?_cons_succ, List.set_cons_zero, List.set_cons_succ, List.set_nil, List.cons_append, List.nil_append, List.append_nil, Option.some.injEq, V.int.injEq, V.ref.injEq, V.str.injEq, V.bl.injEq, HO.lst.injEq, HO.tup.injEq, exists_eq_left', exists_and_left, exists_eq_left, List.cons.injEq, and_true, true_and, and_false, false_and, and_self, reduceCtorEq, exists_false, or_false, false_or, exists_const, at0, at1, at2, at3, at4, at5, ix51, ix52, ix54, upd_same, Nat.reduceAdd, Nat.reduceSub, Nat.zero_add, Int.reduceToNat, Int.reduceLE, Int.reduceLT, decide_eq_true_eq, Bool.not_eq_true, if_true, if_false, Bool.false_eq_true, ite_true, ite_false, Bool.not_true, Bool.not_false, decide_true, decide_false, tFor_eq, tLc_eq, iList, iTup, iRng1, iRng2, iStr, tSl, tPart, tNoPart, rSlL, cxOf_K, wipe, ex_ty2, kit_LTl, kit_LTt, kit_LTd, kit_LTs, kit_LTn, kit_LTb, kit_LTi, tM1, rIxS, exists_eq', lt1p, tDNewK, rSlS, rEqNil, nox_K, tMake_eq, rIsW, clsV_ty, clsV_ref, tyV_int, T.q_int_Ratio, Value.ref.injEq, forall_eq', T.t_Ratio, implies_true, forall_const, false_implies]
      exact make_go (t := i) (b := 1) rfl (by decide) bd.1 bd.2 hn fun H' v s' hv => k H' v s' (by rw [of_num] at hv; exact hv)

theorem ok_RatioBool (T : Txt K mg A) : FnOk P w K mg base CX0 1 A.a_RatioBool A.d_RatioBool ["self"] (spTru A.k_Ratio) := by
  refine T.f_RatioBool.ok scRatioBool (fun vs H Q E h => ?_) (fun cdv A' outer s H vs Q E hr h => ?_)
  · obtain ⟨x, p, n, rfl, _⟩ := h
    rfl
  · obtain ⟨x, p, n, rfl, hx, k⟩ := h
    refine ⟨_, (pss_one (ps_ret (pe_callTy call_bool1 (by rfl) T.z_bool (by decide +kernel) (pa_cons (pe_cmpR (op_ne) (pe_fld (pv 0) rfl) pe_int (nomark _)) pa_nil)))), ?_⟩
    obtain ⟨⟨a, da, rfl, ha⟩, bp⟩ := hx
    try simp only [tSeq, tNext, tRet, tRetN, tAsg, gName, gSub, tDrop, tIfS, tOp, tUn, tCB, tCons, tNil, tC, tVar, rI, rI0, rU, tAnd, tOr, tNot, tAndV, tOrV, tNotV, tIf, tTest, tB, tCall, tChain, tLst, tTup, tYes, rIxH, rIsB, rIsBT, rMulS, kd_non, kd_bl, kd_int, kd_str, kd_ref, kdO_lst, kdO_tup, kdO_dK, nq_n, nq_b, nq_i, nq_s, nq_l, nq_t, nq_d, ne_eq, not_false_eq_true, kit_ss, kit_ns, kit_bs, kit_is, kit_ls, kit_ts, kit_ds, kit_bb, V.ty.injEq, and_assoc, rIxU, rLenH, rLenU, rLenS, rInt1, rSetL, rEq, rNe, rCat, L2.start, List.map, List.length, List.length_cons, List.length_nil, List.replicate, List.getElem?_cons_zero, List.getElem?_cons_succ, List.set_cons_zero, List.set_cons_succ, List.set_nil, List.cons_append, List.nil_append, List.append_nil, Option.some.injEq, V.int.injEq, V.ref.injEq, V.str.injEq, V.bl.injEq, HO.lst.injEq, HO.tup.injEq, exists_eq_left', exists_and_left, exists_eq_left, List.cons.injEq, and_true, true_and, and_false, false_and, and_self, reduceCtorEq, exists_false, or_false, false_or, exists_const, at0, at1, at2, at3, at4, at5, ix51, ix52, ix54, upd_same, Nat.reduceAdd, Nat.reduceSub, Nat.zero_add, Int.reduceToNat, Int.reduceLE, Int.reduceLT, decide_eq_true_eq, Bool.not_eq_true, if_true, if_false, Bool.false_eq_true, ite_true, ite_false, Bool.not_true, Bool.not_false, decide_true, decide_false, tFor_eq, tLc_eq, iList, iTup, iRng1, iRng2, iStr, tSl, tPart, tNoPart, rSlL, cxOf_K, wipe, ex_ty2, kit_LTl, kit_LTt, kit_LTd, kit_LTs, kit_LTn, kit_LTb, kit_LTi, tM1, rIxS, exists_eq', lt1p, tDNewK, rSlS, rEqNil, nox_K, tNever, tFld, sFld, tMake_eq, rf_top, rf_bot, T.t_Ratio.cl, T.n_Ratio_kept_top, T.n_Ratio_kept_bottom, List.lookup, exists_and_left, List.length_nil, ha, HO.ins.injEq, scal_int, zero_num]
    simpa using k

theorem ok_RatioLt (T : Txt K mg A) (gRatioOf : FnOk P w K mg base CX0 4 A.a_RatioOf A.d_RatioOf ["number"] (spOf A.k_Ratio)) : FnOk P w K mg base CX0 5 A.a_RatioLt A.d_RatioLt ["self", "other"] (spCmp A.k_Ratio (fun p q => decide (p < q))) := by
  refine T.f_RatioLt.ok scRatioLt (fun vs H Q E h => ?_) (fun cdv A' outer s H vs Q E hr h => ?_)
  · obtain ⟨x, y, p, q, n, m, rfl, _⟩ := h
    rfl
  · obtain ⟨x, y, p, q, n, m, rfl, hx, hy, hn, k⟩ := h
    refine ⟨_, (pss_cons (ps_if (pt_not (pt_val (pe_callB call_isWT (by rfl) T.z_isinstance (by decide +kernel) (pa_cons (pv 1) (pa_cons (pe_tup (pa_cons (pe_bltn (v := .ty "int") (by rfl) T.z_int (by decide +kernel) rfl) (pa_cons (pe_glob (v := .ref A.k_Ratio) (by rfl) T.k_Ratio rfl) pa_nil))) pa_nil))))) (pss_one ps_never) pss_nil)
      (pss_cons (ps_set (i := 2) scRatioLt.nd rfl (Or.inl rfl) (pe_call gRatioOf (hr.mono (by decide)) (by rfl) T.m_RatioOf T.f_RatioOf.kp T.b_RatioOf .nil pass0 (pa_cons (pv 1) pa_nil)))
      (pss_one (ps_ret (pe_cmpR (op_lt) (pe_op op_mulW (pe_fld (pv 0) rfl) (pe_fld (pv 2) rfl)) (pe_op op_mulW (pe_fld (pv 2) rfl) (pe_fld (pv 0) rfl)) (nomark _)))))), ?_⟩
    try simp only [tSeq, tNext, tRet, tRetN, tAsg, gName, gSub, tDrop, tIfS, tOp, tUn, tCB, tCons, tNil, tC, tVar, rI, rI0, rU, tAnd, tOr, tNot, tAndV, tOrV, tNotV, tIf, tTest, tB, tCall, tChain, tLst, tTup, tYes, rIxH, rIsB, rIsBT, rMulS, kd_non, kd_bl, kd_int, kd_str, kd_ref, kdO_lst, kdO_tup, kdO_dK, nq_n, nq_b, nq_i, nq_s, nq_l, nq_t, nq_d, ne_eq, not_false_eq_true, kit_ss, kit_ns, kit_bs, kit_is, kit_ls, kit_ts, kit_ds, kit_bb, V.ty.injEq, and_assoc, rIxU, rLenH, rLenU, rLenS, rInt1, rSetL, rEq, rNe, rCat, L2.start, List.map, List.length, List.length_cons, List.length_nil, List.replicate, List.getElem?_cons_zero, List.getElem?_cons_succ, List.set_cons_zero, List.set_cons_succ, List.set_nil, List.cons_append, List.nil_append, List.append_nil, Option.some.injEq, V.int.injEq, V.ref.injEq, V.str.injEq, V.bl.injEq, HO.lst.injEq, HO.tup.injEq, exists_eq_left', exists_and_left, exists_eq_left, List.cons.injEq, and_true, true_and, and_false, false_and, and_self, reduceCtorEq, exists_false, or_false, false_or, exists_const, at0, at1, at2, at3, at4, at5, ix51, ix52, ix54, upd_same, Nat.reduceAdd, Nat.reduceSub, Nat.zero_add, Int.reduceToNat, Int.reduceLE, Int.reduceLT, decide_eq_true_eq, Bool.not_eq_true, if_true, if_false, Bool.false_eq_true, ite_true, ite_false, Bool.not_true, Bool.not_false, decide_true, decide_false, tFor_eq, tLc_eq, iList, iTup, iRng1, iRng2, iStr, tSl, tPart, tNoPart, rSlL, cxOf_K, wipe, ex_ty2, kit_LTl, kit_LTt, kit_LTd, kit_LTs, kit_LTn, kit_LTb, kit_LTi, tM1, rIxS, exists_eq', lt1p, tDNewK, rSlS, rEqNil, nox_K]
    refine ⟨by decide, ?_⟩
    intro tp n_tp; generalize g_H1 : upd H tp _ = H1; obtain ⟨s_H1, h_tp⟩ := new_facts n_tp g_H1; clear g_H1
    have hy1 := hy.same s_H1
    obtain ⟨ty, t1, t2, t3, _, _⟩ := numTy T hy1
    try simp only [tSeq, tNext, tRet, tRetN, tAsg, gName, gSub, tDrop, tIfS, tOp, tUn, tCB, tCons, tNil, tC, tVar, rI, rI0, rU, tAnd, tOr, tNot, tAndV, tOrV, tNotV, tIf, tTest, tB, tCall, tChain, tLst, tTup, tYes, rIxH, rIsB, rIsBT, rMulS, kd_non, kd_bl, kd_int, kd_str, kd_ref, kdO_lst, kdO_tup, kdO_dK, nq_n, nq_b, nq_i, nq_s, nq_l, nq_t, nq_d, ne_eq, not_false_eq_true, kit_ss, kit_ns, kit_bs, kit_is, kit_ls, kit_ts, kit_ds, kit_bb, V.ty.injEq, and_assoc, rIxU, rLenH, rLenU, rLenS, rInt1, rSetL, rEq, rNe, rCat, L2.start, List.map, List.length, List.length_cons, List.length_nil, List.replicate, List.getElem?_cons_zero, List.getElem?_cons_succ, List.set_cons_zero, List.set_cons_succ, List.set_nil, List.cons_append, List.nil_append, List.append_nil, Option.some.injEq, V.int.injEq, V.ref.injEq, V.str.injEq, V.bl.injEq, HO.lst.injEq, HO.tup.injEq, exists_eq_left', exists_and_left, exists_eq_left, List.cons.injEq, and_true, true_and, and_false, false_and, and_self, reduceCtorEq, exists_false, or_false, false_or, exists_const, at0, at1, at2, at3, at4, at5, ix51, ix52, ix54, upd_same, Nat.reduceAdd, Nat.reduceSub, Nat.zero_add, Int.reduceToNat, Int.reduceLE, Int.reduceLT, decide_eq_true_eq, Bool.not_eq_true, if_true, if_false, Bool.false_eq_true, ite_true, ite_false, Bool.not_true, Bool.not_false, decide_true, decide_false, tFor_eq, tLc_eq, iList, iTup, iRng1, iRng2, iStr, tSl, tPart, tNoPart, rSlL, cxOf_K, wipe, ex_ty2, kit_LTl, kit_LTt, kit_LTd, kit_LTs, kit_LTn, kit_LTb, kit_LTi, tM1, rIxS, exists_eq', lt1p, tDNewK, rSlS, rEqNil, nox_K, tNever, rIsWT, clsVs_ty, clsVs_ref, clsVs_nil, Option.map_some, h_tp, t1, t3]
    refine ⟨t2, y, q, m, rfl, hy1, by omega, fun H2 v s2 hv => ?_⟩
    have hx2 := hx.same (s_H1.trans s2)
    obtain ⟨⟨b, db, rfl, hb⟩, bq⟩ := hv
    obtain ⟨⟨a, da, rfl, ha⟩, bp⟩ := hx2
    obtain ⟨c1, c2, c3, c4, c5⟩ := mulws bp bq (by omega)
    have k2 := k H2 (s_H1.trans s2)
    try simp only [tSeq, tNext, tRet, tRetN, tAsg, gName, gSub, tDrop, tIfS, tOp, tUn, tCB, tCons, tNil, tC, tVar, rI, rI0, rU, tAnd, tOr, tNot, tAndV, tOrV, tNotV, tIf, tTest, tB, tCall, tChain, tLst, tTup, tYes, rIxH, rIsB, rIsBT, rMulS, kd_non, kd_bl, kd_int, kd_str, kd_ref, kdO_lst, kdO_tup, kdO_dK, nq_n, nq_b, nq_i, nq_s, nq_l, nq_t, nq_d, ne_eq, not_false_eq_true, kit_ss, kit_ns, kit_bs, kit_is, kit_ls, kit_ts, kit_ds, kit_bb, V.ty.injEq, and_assoc, rIxU, rLenH, rLenU, rLenS, rInt1, rSetL, rEq, rNe, rCat, L2.start, List.map, List.length, List.length_cons, List.length_nil, List.replicate, List.getElem?_cons_zero, List.getElem?_cons_succ, List.set_cons_zero, List.set_cons_succ, List.set_nil, List.cons_append, List.nil_append, List.append_nil, Option.some.injEq, V.int.injEq, V.ref.injEq, V.str.injEq, V.bl.injEq, HO.lst.injEq, HO.tup.injEq, exists_eq_left', exists_and_left, exists_eq_left, List.cons.injEq, and_true, true_and, and_false, false_and, and_self, reduceCtorEq, exists_false, or_false, false_or, exists_const, at0, at1, at2, at3, at4, at5, ix51, ix52, ix54, upd_same, Nat.reduceAdd, Nat.reduceSub, Nat.zero_add, Int.reduceToNat, Int.reduceLE, Int.reduceLT, decide_eq_true_eq, Bool.not_eq_true, if_true, if_false, Bool.false_eq_true, ite_true, ite_false, Bool.not_true, Bool.not_false, decide_true, decide_false, tFor_eq, tLc_eq, iList, iTup, iRng1, iRng2, iStr, tSl, tPart, tNoPart, rSlL, cxOf_K, wipe, ex_ty2, kit_LTl, kit_LTt, kit_LTd, kit_LTs, kit_LTn, kit_LTb, kit_LTi, tM1, rIxS, exists_eq', lt1p, tDNewK, rSlS, rEqNil, nox_K, tNever, tFld, sFld, tMake_eq, rf_top, rf_bot, T.t_Ratio.cl, T.n_Ratio_kept_top, T.n_Ratio_kept_bottom, List.lookup, exists_and_left, List.length_nil, ha, hb, HO.ins.injEq, c1, c2, c3, c4, c5, lt_num, le_num]
    exact k2

theorem ok_RatioLe (T : Txt K mg A) (gRatioOf : FnOk P w K mg base CX0 4 A.a_RatioOf A.d_RatioOf ["number"] (spOf A.k_Ratio)) : FnOk P w K mg base CX0 5 A.a_RatioLe A.d_RatioLe ["self", "other"] (spCmp A.k_Ratio (fun p q => decide (p ≤ q))) := by
  refine T.f_RatioLe.ok scRatioLe (fun vs H Q E h => ?_) (fun cdv A' outer s H vs Q E hr h => ?_)
  · obtain ⟨x, y, p, q, n, m, rfl, _⟩ := h
    rfl
  · obtain ⟨x, y, p, q, n, m, rfl, hx, hy, hn, k⟩ := h
    refine ⟨_, (pss_cons (ps_if (pt_not (pt_val (pe_callB call_isWT (by rfl) T.z_isinstance (by decide +kernel) (pa_cons (pv 1) (pa_cons (pe_tup (pa_cons (pe_bltn (v := .ty "int") (by rfl) T.z_int (by decide +kernel) rfl) (pa_cons (pe_glob (v := .ref A.k_Ratio) (by rfl) T.k_Ratio rfl) pa_nil))) pa_nil))))) (pss_one ps_never) pss_nil)
      (pss_cons (ps_set (i := 2) scRatioLe.nd rfl (Or.inl rfl) (pe_call gRatioOf (hr.mono (by decide)) (by rfl) T.m_RatioOf T.f_RatioOf.kp T.b_RatioOf .nil pass0 (pa_cons (pv 1) pa_nil)))
      (pss_one (ps_ret (pe_cmpR (op_le) (pe_op op_mulW (pe_fld (pv 0) rfl) (pe_fld (pv 2) rfl)) (pe_op op_mulW (pe_fld (pv 2) rfl) (pe_fld (pv 0) rfl)) (nomark _)))))), ?_⟩
    try simp only [tSeq, tNext, tRet, tRetN, tAsg, gName, gSub, tDrop, tIfS, tOp, tUn, tCB, tCons, tNil, tC, tVar, rI, rI0, rU, tAnd, tOr, tNot, tAndV, tOrV, tNotV, tIf, tTest, tB, tCall, tChain, tLst, tTup, tYes, rIxH, rIsB, rIsBT, rMulS, kd_non, kd_bl, kd_int, kd_str, kd_ref, kdO_lst, kdO_tup, kdO_dK, nq_n, nq_b, nq_i, nq_s, nq_l, nq_t, nq_d, ne_eq, not_false_eq_true, kit_ss, kit_ns, kit_bs, kit_is, kit_ls, kit_ts, kit_ds, kit_bb, V.ty.injEq, and_assoc, rIxU, rLenH, rLenU, rLenS, rInt1, rSetL, rEq, rNe, rCat, L2.start, List.map, List.length, List.length_cons, List.length_nil, List.replicate, List.getElem?_cons_zero, List.getElem?_cons_succ, List.set_cons_zero, List.set_cons_succ, List.set_nil, List.cons_append, List.nil_append, List.append_nil, Option.some.injEq, V.int.injEq, V.ref.injEq, V.str.injEq, V.bl.injEq, HO.lst.injEq, HO.tup.injEq, exists_eq_left', exists_and_left, exists_eq_left, List.cons.injEq, and_true, true_and, and_false, false_and, and_self, reduceCtorEq, exists_false, or_false, false_or, exists_const, at0, at1, at2, at3, at4, at5, ix51, ix52, ix54, upd_same, Nat.reduceAdd, Nat.reduceSub, Nat.zero_add, Int.reduceToNat, Int.reduceLE, Int.reduceLT, decide_eq_true_eq, Bool.not_eq_true, if_true, if_false, Bool.false_eq_true, ite_true, ite_false, Bool.not_true, Bool.not_false, decide_true, decide_false, tFor_eq, tLc_eq, iList, iTup, iRng1, iRng2, iStr, tSl, tPart, tNoPart, rSlL, cxOf_K, wipe, ex_ty2, kit_LTl, kit_LTt, kit_LTd, kit_LTs, kit_LTn, kit_LTb, kit_LTi, tM1, rIxS, exists_eq', lt1p, tDNewK, rSlS, rEqNil, nox_K]
    refine ⟨by decide, ?_⟩
    intro tp n_tp; generalize g_H1 : upd H tp _ = H1; obtain ⟨s_H1, h_tp⟩ := new_facts n_tp g_H1; clear g_H1
    have hy1 := hy.same s_H1
    obtain ⟨ty, t1, t2, t3, _, _⟩ := numTy T hy1
    try simp only [tSeq, tNext, tRet, tRetN, tAsg, gName, gSub, tDrop, tIfS, tOp, tUn, tCB, tCons, tNil, tC, tVar, rI, rI0, rU, tAnd, tOr, tNot, tAndV, tOrV, tNotV, tIf, tTest, tB, tCall, tChain, tLst, tTup, tYes, rIxH, rIsB, rIsBT, rMulS, kd_non, kd_bl, kd_int, kd_str, kd_ref, kdO_lst, kdO_tup, kdO_dK, nq_n, nq_b, nq_i, nq_s, nq_l, nq_t, nq_d, ne_eq, not_false_eq_true, kit_ss, kit_ns, kit_bs, kit_is, kit_ls, kit_ts, kit_ds, kit_bb, V.ty.injEq, and_assoc, rIxU, rLenH, rLenU, rLenS, rInt1, rSetL, rEq, rNe, rCat, L2.start, List.map, List.length, List.length_cons, List.length_nil, List.replicate, List.getElem?_cons_zero, List.getElem?_cons_succ, List.set_cons_zero, List.set_cons_succ, List.set_nil, List.cons_append, List.nil_append, List.append_nil, Option.some.injEq, V.int.injEq, V.ref.injEq, V.str.injEq, V.bl.injEq, HO.lst.injEq, HO.tup.injEq, exists_eq_left', exists_and_left, exists_eq_left, List.cons.injEq, and_true, true_and, and_false, false_and, and_self, reduceCtorEq, exists_false, or_false, false_or, exists_const, at0, at1, at2, at3, at4, at5, ix51, ix52, ix54, upd_same, Nat.reduceAdd, Nat.reduceSub, Nat.zero_add, Int.reduceToNat, Int.reduceLE, Int.reduceLT, decide_eq_true_eq, Bool.not_eq_true, if_true, if_false, Bool.false_eq_true, ite_true, ite_false, Bool.not_true, Bool.not_false, decide_true, decide_false, tFor_eq, tLc_eq, iList, iTup, iRng1, iRng2, iStr, tSl, tPart, tNoPart, rSlL, cxOf_K, wipe, ex_ty2, kit_LTl, kit_LTt, kit_LTd, kit_LTs, kit_LTn, kit_LTb, kit_LTi, tM1, rIxS, exists_eq', lt1p, tDNewK, rSlS, rEqNil, nox_K, tNever, rIsWT, clsVs_ty, clsVs_ref, clsVs_nil, Option.map_some, h_tp, t1, t3]
    refine ⟨t2, y, q, m, rfl, hy1, by omega, fun H2 v s2 hv => ?_⟩
    have hx2 := hx.same (s_H1.trans s2)
    obtain ⟨⟨b, db, rfl, hb⟩, bq⟩ := hv
    obtain ⟨⟨a, da, rfl, ha⟩, bp⟩ := hx2
    obtain ⟨c1, c2, c3, c4, c5⟩ := mulws bp bq (by omega)
    have k2 := k H2 (s_H1.trans s2)
    try simp only [tSeq, tNext, tRet, tRetN, tAsg, gName, gSub, tDrop, tIfS, tOp, tUn, tCB, tCons, tNil, tC, tVar, rI, rI0, rU, tAnd, tOr, tNot, tAndV, tOrV, tNotV, tIf, tTest, tB, tCall, tChain, tLst, tTup, tYes, rIxH, rIsB, rIsBT, rMulS, kd_non, kd_bl, kd_int, kd_str, kd_ref, kdO_lst, kdO_tup, kdO_dK, nq_n, nq_b, nq_i, nq_s, nq_l, nq_t, nq_d, ne_eq, not_false_eq_true, kit_ss, kit_ns, kit_bs, kit_is, kit_ls, kit_ts, kit_ds, kit_bb, V.ty.injEq, and_assoc, rIxU, rLenH, rLenU, rLenS, rInt1, rSetL, rEq, rNe, rCat, L2.start, List.map, List.length, List.length_cons, List.length_nil, List.replicate, List.getElem?_cons_zero, List.getElem?_cons_succ, List.set_cons_zero, List.set_cons_succ, List.set_nil, List.cons_append, List.nil_append, List.append_nil, Option.some.injEq, V.int.injEq, V.ref.injEq, V.str.injEq, V.bl.injEq, HO.lst.injEq, HO.tup.injEq, exists_eq_left', exists_and_left, exists_eq_left, List.cons.injEq, and_true, true_and, and_false, false_and, and_self, reduceCtorEq, exists_false, or_false, false_or, exists_const, at0, at1, at2, at3, at4, at5, ix51, ix52, ix54, upd_same, Nat.reduceAdd, Nat.reduceSub, Nat.zero_add, Int.reduceToNat, Int.reduceLE, Int.reduceLT, decide_eq_true_eq, Bool.not_eq_true, if_true, if_false, Bool.false_eq_true, ite_true, ite_false, Bool.not_true, Bool.not_false, decide_true, decide_false, tFor_eq, tLc_eq, iList, iTup, iRng1, iRng2, iStr, tSl, tPart, tNoPart, rSlL, cxOf_K, wipe, ex_ty2, kit_LTl, kit_LTt, kit_LTd, kit_LTs, kit_LTn, kit_LTb, kit_LTi, tM1, rIxS, exists_eq', lt1p, tDNewK, rSlS, rEqNil, nox_K, tNever, tFld, sFld, tMake_eq, rf_top, rf_bot, T.t_Ratio.cl, T.n_Ratio_kept_top, T.n_Ratio_kept_bottom, List.lookup, exists_and_left, List.length_nil, ha, hb, HO.ins.injEq, c1, c2, c3, c4, c5, lt_num, le_num]
    exact k2

theorem ok_RatioGt (T : Txt K mg A) (gRatioOf : FnOk P w K mg base CX0 4 A.a_RatioOf A.d_RatioOf ["number"] (spOf A.k_Ratio)) : FnOk P w K mg base CX0 5 A.a_RatioGt A.d_RatioGt ["self", "other"] (spCmp A.k_Ratio (fun p q => decide (q < p))) := by
  refine T.f_RatioGt.ok scRatioGt (fun vs H Q E h => ?_) (fun cdv A' outer s H vs Q E hr h => ?_)
  · obtain ⟨x, y, p, q, n, m, rfl, _⟩ := h
    rfl
  · obtain ⟨x, y, p, q, n, m, rfl, hx, hy, hn, k⟩ := h
    refine ⟨_, (pss_cons (ps_if (pt_not (pt_val (pe_callB call_isWT (by rfl) T.z_isinstance (by decide +kernel) (pa_cons (pv 1) (pa_cons (pe_tup (pa_cons (pe_bltn (v := .ty "int") (by rfl) T.z_int (by decide +kernel) rfl) (pa_cons (pe_glob (v := .ref A.k_Ratio) (by rfl) T.k_Ratio rfl) pa_nil))) pa_nil))))) (pss_one ps_never) pss_nil)
      (pss_cons (ps_set (i := 2) scRatioGt.nd rfl (Or.inl rfl) (pe_call gRatioOf (hr.mono (by decide)) (by rfl) T.m_RatioOf T.f_RatioOf.kp T.b_RatioOf .nil pass0 (pa_cons (pv 1) pa_nil)))
      (pss_one (ps_ret (pe_cmpR (op_gt) (pe_op op_mulW (pe_fld (pv 0) rfl) (pe_fld (pv 2) rfl)) (pe_op op_mulW (pe_fld (pv 2) rfl) (pe_fld (pv 0) rfl)) (nomark _)))))), ?_⟩
    try simp only [tSeq, tNext, tRet, tRetN, tAsg, gName, gSub, tDrop, tIfS, tOp, tUn, tCB, tCons, tNil, tC, tVar, rI, rI0, rU, tAnd, tOr, tNot, tAndV, tOrV, tNotV, tIf, tTest, tB, tCall, tChain, tLst, tTup, tYes, rIxH, rIsB, rIsBT, rMulS, kd_non, kd_bl, kd_int, kd_str, kd_ref, kdO_lst, kdO_tup, kdO_dK, nq_n, nq_b, nq_i, nq_s, nq_l, nq_t, nq_d, ne_eq, not_false_eq_true, kit_ss, kit_ns, kit_bs, kit_is, kit_ls, kit_ts, kit_ds, kit_bb, V.ty.injEq, and_assoc, rIxU, rLenH, rLenU, rLenS, rInt1, rSetL, rEq, rNe, rCat, L2.start, List.map, List.length, List.length_cons, List.length_nil, List.replicate, List.getElem?_cons_zero, List.getElem?_cons_succ, List.set_cons_zero, List.set_cons_succ, List.set_nil, List.cons_append, List.nil_append, List.append_nil, Option.some.injEq, V.int.injEq, V.ref.injEq, V.str.injEq, V.bl.injEq, HO.lst.injEq, HO.tup.injEq, exists_eq_left', exists_and_left, exists_eq_left, List.cons.injEq, and_true, true_and, and_false, false_and, and_self, reduceCtorEq, exists_false, or_false, false_or, exists_const, at0, at1, at2, at3, at4, at5, ix51, ix52, ix54, upd_same, Nat.reduceAdd, Nat.reduceSub, Nat.zero_add, Int.reduceToNat, Int.reduceLE, Int.reduceLT, decide_eq_true_eq, Bool.not_eq_true, if_true, if_false, Bool.false_eq_true, ite_true, ite_false, Bool.not_true, Bool.not_false, decide_true, decide_false, tFor_eq, tLc_eq, iList, iTup, iRng1, iRng2, iStr, tSl, tPart, tNoPart, rSlL, cxOf_K, wipe, ex_ty2, kit_LTl, kit_LTt, kit_LTd, kit_LTs, kit_LTn, kit_LTb, kit_LTi, tM1, rIxS, exists_eq', lt1p, tDNewK, rSlS, rEqNil, nox_K]
    refine ⟨by decide, ?_⟩
    intro tp n_tp; generalize g_H1 : upd H tp _ = H1; obtain ⟨s_H1, h_tp⟩ := new_facts n_tp g_H1; clear g_H1
    have hy1 := hy.same s_H1
    obtain ⟨ty, t1, t2, t3, _, _⟩ := numTy T hy1
    try simp only [tSeq, tNext, tRet, tRetN, tAsg, gName, gSub, tDrop, tIfS, tOp, tUn, tCB, tCons, tNil, tC, tVar, rI, rI0, rU, tAnd, tOr, tNot, tAndV, tOrV, tNotV, tIf, tTest, tB, tCall, tChain, tLst, tTup, tYes, rIxH, rIsB, rIsBT, rMulS, kd_non, kd_bl, kd_int, kd_str, kd_ref, kdO_lst, kdO_tup, kdO_dK, nq_n, nq_b, nq_i, nq_s, nq_l, nq_t, nq_d, ne_eq, not_false_eq_true, kit_ss, kit_ns, kit_bs, kit_is, kit_ls, kit_ts, kit_ds, kit_bb, V.ty.injEq, and_assoc, rIxU, rLenH, rLenU, rLenS, rInt1, rSetL, rEq, rNe, rCat, L2.start, List.map, List.length, List.length_cons, List.length_nil, List.replicate, List.getElem?_cons_zero, List.getElem?_cons_succ, List.set_cons_zero, List.set_cons_succ, List.set_nil, List.cons_append, List.nil_append, List.append_nil, Option.some.injEq, V.int.injEq, V.ref.injEq, V.str.injEq, V.bl.injEq, HO.lst.injEq, HO.tup.injEq, exists_eq_left', exists_and_left, exists_eq_left, List.cons.injEq, and_true, true_and, and_false, false_and, and_self, reduceCtorEq, exists_false, or_false, false_or, exists_const, at0, at1, at2, at3, at4, at5, ix51, ix52, ix54, upd_same, Nat.reduceAdd, Nat.reduceSub, Nat.zero_add, Int.reduceToNat, Int.reduceLE, Int.reduceLT, decide_eq_true_eq, Bool.not_eq_true, if_true, if_false, Bool.false_eq_true, ite_true, ite_false, Bool.not_true, Bool.not_false, decide_true, decide_false, tFor_eq, tLc_eq, iList, iTup, iRng1, iRng2, iStr, tSl, tPart, tNoPart, rSlL, cxOf_K, wipe, ex_ty2, kit_LTl, kit_LTt, kit_LTd, kit_LTs, kit_LTn, kit_LTb, kit_LTi, tM1, rIxS, exists_eq', lt1p, tDNewK, rSlS, rEqNil, nox_K, tNever, rIsWT, clsVs_ty, clsVs_ref, clsVs_nil, Option.map_some, h_tp, t1, t3]
    refine ⟨t2, y, q, m, rfl, hy1, by omega, fun H2 v s2 hv => ?_⟩
    have hx2 := hx.same (s_H1.trans s2)
    obtain ⟨⟨b, db, rfl, hb⟩, bq⟩ := hv
    obtain ⟨⟨a, da, rfl, ha⟩, bp⟩ := hx2
    obtain ⟨c1, c2, c3, c4, c5⟩ := mulws bp bq (by omega)
    have k2 := k H2 (s_H1.trans s2)
    try simp only [tSeq, tNext, tRet, tRetN, tAsg, gName, gSub, tDrop, tIfS, tOp, tUn, tCB, tCons, tNil, tC, tVar, rI, rI0, rU, tAnd, tOr, tNot, tAndV, tOrV, tNotV, tIf, tTest, tB, tCall, tChain, tLst, tTup, tYes, rIxH, rIsB, rIsBT, rMulS, kd_non, kd_bl, kd_int, kd_str, kd_ref, kdO_lst, kdO_tup, kdO_dK, nq_n, nq_b, nq_i, nq_s, nq_l, nq_t, nq_d, ne_eq, not_false_eq_true, kit_ss, kit_ns, kit_bs, kit_is, kit_ls, kit_ts, kit_ds, kit_bb, V.ty.injEq, and_assoc, rIxU, rLenH, rLenU, rLenS, rInt1, rSetL, rEq, rNe, rCat, L2.start, List.map, List.length, List.length_cons, List.length_nil, List.replicate, List.getElem?_cons_zero, List.getElem?_cons_succ, List.set_cons_zero, List.set_cons_succ, List.set_nil, List.cons_append, List.nil_append, List.append_nil, Option.some.injEq, V.int.injEq, V.ref.injEq, V.str.injEq, V.bl.injEq, HO.lst.injEq, HO.tup.injEq, exists_eq_left', exists_and_left, exists_eq_left, List.cons.injEq, and_true, true_and, and_false, false_and, and_self, reduceCtorEq, exists_false, or_false, false_or, exists_const, at0, at1, at2, at3, at4, at5, ix51, ix52, ix54, upd_same, Nat.reduceAdd, Nat.reduceSub, Nat.zero_add, Int.reduceToNat, Int.reduceLE, Int.reduceLT, decide_eq_true_eq, Bool.not_eq_true, if_true, if_false, Bool.false_eq_true, ite_true, ite_false, Bool.not_true, Bool.not_false, decide_true, decide_false, tFor_eq, tLc_eq, iList, iTup, iRng1, iRng2, iStr, tSl, tPart, tNoPart, rSlL, cxOf_K, wipe, ex_ty2, kit_LTl, kit_LTt, kit_LTd, kit_LTs, kit_LTn, kit_LTb, kit_LTi, tM1, rIxS, exists_eq', lt1p, tDNewK, rSlS, rEqNil, nox_K, tNever, tFld, sFld, tMake_eq, rf_top, rf_bot, T.t_Ratio.cl, T.n_Ratio_kept_top, T.n_Ratio_kept_bottom, List.lookup, exists_and_left, List.length_nil, ha, hb, HO.ins.injEq, c1, c2, c3, c4, c5, lt_num, le_num]
    exact k2

theorem ok_RatioGe (T : Txt K mg A) (gRatioOf : FnOk P w K mg base CX0 4 A.a_RatioOf A.d_RatioOf ["number"] (spOf A.k_Ratio)) : FnOk P w K mg base CX0 5 A.a_RatioGe A.d_RatioGe ["self", "other"] (spCmp A.k_Ratio (fun p q => decide (q ≤ p))) := by
  refine T.f_RatioGe.ok scRatioGe (fun vs H Q E h => ?_) (fun cdv A' outer s H vs Q E hr h => ?_)
  · obtain ⟨x, y, p, q, n, m, rfl, _⟩ := h
    rfl
  · obtain ⟨x, y, p, q, n, m, rfl, hx, hy, hn, k⟩ := h
    refine ⟨_, (pss_cons (ps_if (pt_not (pt_val (pe_callB call_isWT (by rfl) T.z_isinstance (by decide +kernel) (pa_cons (pv 1) (pa_cons (pe_tup (pa_cons (pe_bltn (v := .ty "int") (by rfl) T.z_int (by decide +kernel) rfl) (pa_cons (pe_glob (v := .ref A.k_Ratio) (by rfl) T.k_Ratio rfl) pa_nil))) pa_nil))))) (pss_one ps_never) pss_nil)
      (pss_cons (ps_set (i := 2) scRatioGe.nd rfl (Or.inl rfl) (pe_call gRatioOf (hr.mono (by decide)) (by rfl) T.m_RatioOf T.f_RatioOf.kp T.b_RatioOf .nil pass0 (pa_cons (pv 1) pa_nil)))
      (pss_one (ps_ret (pe_cmpR (op_ge) (pe_op op_mulW (pe_fld (pv 0) rfl) (pe_fld (pv 2) rfl)) (pe_op op_mulW (pe_fld (pv 2) rfl) (pe_fld (pv 0) rfl)) (nomark _)))))), ?_⟩
    try simp only [tSeq, tNext, tRet, tRetN, tAsg, gName, gSub, tDrop, tIfS, tOp, tUn, tCB, tCons, tNil, tC, tVar, rI, rI0, rU, tAnd, tOr, tNot, tAndV, tOrV, tNotV, tIf, tTest, tB, tCall, tChain, tLst, tTup, tYes, rIxH, rIsB, rIsBT, rMulS, kd_non, kd_bl, kd_int, kd_str, kd_ref, kdO_lst, kdO_tup, kdO_dK, nq_n, nq_b, nq_i, nq_s, nq_l, nq_t, nq_d, ne_eq, not_false_eq_true, kit_ss, kit_ns, kit_bs, kit_is, kit_ls, kit_ts, kit_ds, kit_bb, V.ty.injEq, and_assoc, rIxU, rLenH, rLenU, rLenS, rInt1, rSetL, rEq, rNe, rCat, L2.start, List.map, List.length, List.length_cons, List.length_nil, List.replicate, List.getElem?_cons_zero, List.getElem?_cons_succ, List.set_cons_zero, List.set_cons_succ, List.set_nil, List.cons_append, List.nil_append, List.append_nil, Option.some.injEq, V.int.injEq, V.ref.injEq, V.str.injEq, V.bl.injEq, HO.lst.injEq, HO.tup.injEq, exists_eq_left', exists_and_left, exists_eq_left, List.cons.injEq, and_true, true_and, and_false, false_and, and_self, reduceCtorEq, exists_false, or_false, false_or, exists_const, at0, at1, at2, at3, at4, at5, ix51, ix52, ix54, upd_same, Nat.reduceAdd, Nat.reduceSub, Nat.zero_add, Int.reduceToNat, Int.reduceLE, Int.reduceLT, decide_eq_true_eq, Bool.not_eq_true, if_true, if_false, Bool.false_eq_true, ite_true, ite_false, Bool.not_true, Bool.not_false, decide_true, decide_false, tFor_eq, tLc_eq, iList, iTup, iRng1, iRng2, iStr, tSl, tPart, tNoPart, rSlL, cxOf_K, wipe, ex_ty2, kit_LTl, kit_LTt, kit_LTd, kit_LTs, kit_LTn, kit_LTb, kit_LTi, tM1, rIxS, exists_eq', lt1p, tDNewK, rSlS, rEqNil, nox_K]
    refine ⟨by decide, ?_⟩
    intro tp n_tp; generalize g_H1 : upd H tp _ = H1; obtain ⟨s_H1, h_tp⟩ := new_facts n_tp g_H1; clear g_H1
    have hy1 := hy.same s_H1
    obtain ⟨ty, t1, t2, t3, _, _⟩ := numTy T hy1
    try simp only [tSeq, tNext, tRet, tRetN, tAsg, gName, gSub, tDrop, tIfS, tOp, tUn, tCB, tCons, tNil, tC, tVar, rI, rI0, rU, tAnd, tOr, tNot, tAndV, tOrV, tNotV, tIf, tTest, tB, tCall, tChain, tLst, tTup, tYes, rIxH, rIsB, rIsBT, rMulS, kd_non, kd_bl, kd_int, kd_str, kd_ref, kdO_lst, kdO_tup, kdO_dK, nq_n, nq_b, nq_i, nq_s, nq_l, nq_t, nq_d, ne_eq, not_false_eq_true, kit_ss, kit_ns, kit_bs, kit_is, kit_ls, kit_ts, kit_ds, kit_bb, V.ty.injEq, and_assoc, rIxU, rLenH, rLenU, rLenS, rInt1, rSetL, rEq, rNe, rCat, L2.start, List.map, List.length, List.length_cons, List.length_nil, List.replicate, List.getElem?_cons_zero, List.getElem?_cons_succ, List.set_cons_zero, List.set_cons_succ, List.set_nil, List.cons_append, List.nil_append, List.append_nil, Option.some.injEq, V.int.injEq, V.ref.injEq, V.str.injEq, V.bl.injEq, HO.lst.injEq, HO.tup.injEq, exists_eq_left', exists_and_left, exists_eq_left, List.cons.injEq, and_true, true_and, and_false, false_and, and_self, reduceCtorEq, exists_false, or_false, false_or, exists_const, at0, at1, at2, at3, at4, at5, ix51, ix52, ix54, upd_same, Nat.reduceAdd, Nat.reduceSub, Nat.zero_add, Int.reduceToNat, Int.reduceLE, Int.reduceLT, decide_eq_true_eq, Bool.not_eq_true, if_true, if_false, Bool.false_eq_true, ite_true, ite_false, Bool.not_true, Bool.not_false, decide_true, decide_false, tFor_eq, tLc_eq, iList, iTup, iRng1, iRng2, iStr, tSl, tPart, tNoPart, rSlL, cxOf_K, wipe, ex_ty2, kit_LTl, kit_LTt, kit_LTd, kit_LTs, kit_LTn, kit_LTb, kit_LTi, tM1, rIxS, exists_eq', lt1p, tDNewK, rSlS, rEqNil, nox_K, tNever, rIsWT, clsVs_ty, clsVs_ref, clsVs_nil, Option.map_some, h_tp, t1, t3]
    refine ⟨t2, y, q, m, rfl, hy1, by omega, fun H2 v s2 hv => ?_⟩
    have hx2 := hx.same (s_H1.trans s2)
    obtain ⟨⟨b, db, rfl, hb⟩, bq⟩ := hv
    obtain ⟨⟨a, da, rfl, ha⟩, bp⟩ := hx2
    obtain ⟨c1, c2, c3, c4, c5⟩ := mulws bp bq (by omega)
    have k2 := k H2 (s_H1.trans s2)
    try simp only [tSeq, tNext, tRet, tRetN, tAsg, gName, gSub, tDrop, tIfS, tOp, tUn, tCB, tCons, tNil, tC, tVar, rI, rI0, rU, tAnd, tOr, tNot, tAndV, tOrV, tNotV, tIf, tTest, tB, tCall, tChain, tLst, tTup, tYes, rIxH, rIsB, rIsBT, rMulS, kd_non, kd_bl, kd_int, kd_str, kd_ref, kdO_lst, kdO_tup, kdO_dK, nq_n, nq_b, nq_i, nq_s, nq_l, nq_t, nq_d, ne_eq, not_false_eq_true, kit_ss, kit_ns, kit_bs, kit_is, kit_ls, kit_ts, kit_ds, kit_bb, V.ty.injEq, and_assoc, rIxU, rLenH, rLenU, rLenS, rInt1, rSetL, rEq, rNe, rCat, L2.start, List.map, List.length, List.length_cons, List.length_nil, List.replicate, List.getElem?_cons_zero, List.getElem?_cons_succ, List.set_cons_zero, List.set_cons_succ, List.set_nil, List.cons_append, List.nil_append, List.append_nil, Option.some.injEq, V.int.injEq, V.ref.injEq, V.str.injEq, V.bl.injEq, HO.lst.injEq, HO.tup.injEq, exists_eq_left', exists_and_left, exists_eq_left, List.cons.injEq, and_true, true_and, and_false, false_and, and_self, reduceCtorEq, exists_false, or_false, false_or, exists_const, at0, at1, at2, at3, at4, at5, ix51, ix52, ix54, upd_same, Nat.reduceAdd, Nat.reduceSub, Nat.zero_add, Int.reduceToNat, Int.reduceLE, Int.reduceLT, decide_eq_true_eq, Bool.not_eq_true, if_true, if_false, Bool.false_eq_true, ite_true, ite_false, Bool.not_true, Bool.not_false, decide_true, decide_false, tFor_eq, tLc_eq, iList, iTup, iRng1, iRng2, iStr, tSl, tPart, tNoPart, rSlL, cxOf_K, wipe, ex_ty2, kit_LTl, kit_LTt, kit_LTd, kit_LTs, kit_LTn, kit_LTb, kit_LTi, tM1, rIxS, exists_eq', lt1p, tDNewK, rSlS, rEqNil, nox_K, tNever, tFld, sFld, tMake_eq, rf_top, rf_bot, T.t_Ratio.cl, T.n_Ratio_kept_top, T.n_Ratio_kept_bottom, List.lookup, exists_and_left, List.length_nil, ha, hb, HO.ins.injEq, c1, c2, c3, c4, c5, lt_num, le_num]
    exact k2

theorem ok_RatioEq_A (T : Txt K mg A) (gIsNumber : FnOk P w K mg base CX0 2 A.a_IsNumber A.d_IsNumber ["value"] (spIsNum A.k_Ratio)) (gRatioOf : FnOk P w K mg base CX0 4 A.a_RatioOf A.d_RatioOf ["number"] (spOf A.k_Ratio)) : FnOk P w K mg base CX0 5 A.a_RatioEq A.d_RatioEq ["self", "other"] (spCmpA A.k_Ratio (fun p q => decide (p = q)) false) := by
  refine T.f_RatioEq.ok scRatioEq (fun vs H Q E h => ?_) (fun cdv A' outer s H vs Q E hr h => ?_)
  · rcases h with ⟨x, y, p, q, n, m, rfl, _⟩ | ⟨x, y, t, rfl, _⟩ <;> rfl
  · refine ⟨_, (pss_cons (ps_if (pt_not (pt_val (pe_call gIsNumber (hr.mono (by decide)) (by rfl) T.m_IsNumber T.f_IsNumber.kp T.b_IsNumber .nil pass0 (pa_cons (pv 1) pa_nil)))) (pss_one (ps_ret pe_bl)) pss_nil)
      (pss_cons (ps_set (i := 2) scRatioEq.nd rfl (Or.inl rfl) (pe_call gRatioOf (hr.mono (by decide)) (by rfl) T.m_RatioOf T.f_RatioOf.kp T.b_RatioOf .nil pass0 (pa_cons (pv 1) pa_nil)))
      (pss_one (ps_ret (pe_and (pe_cmpR (op_eq) (pe_fld (pv 0) rfl) (pe_fld (pv 2) rfl) (nomark _)) (pe_one (pe_cmpR (op_eq) (pe_fld (pv 0) rfl) (pe_fld (pv 2) rfl) (nomark _)))))))), ?_⟩
    rcases h with ⟨x, y, p, q, n, m, rfl, hx, hy, hn, k⟩ | ⟨x, y, t, rfl, h1, h2, h3, h4, k⟩
    · obtain ⟨ty, t1, t2, t3, t4, t5⟩ := numTy T hy
      try simp only [tSeq, tNext, tRet, tRetN, tAsg, gName, gSub, tDrop, tIfS, tOp, tUn, tCB, tCons, tNil, tC, tVar, rI, rI0, rU, tAnd, tOr, tNot, tAndV, tOrV, tNotV, tIf, tTest, tB, tCall, tChain, tLst, tTup, tYes, rIxH, rIsB, rIsBT, rMulS, kd_non, kd_bl, kd_int, kd_str, kd_ref, kdO_lst, kdO_tup, kdO_dK, nq_n, nq_b, nq_i, nq_s, nq_l, nq_t, nq_d, ne_eq, not_false_eq_true, kit_ss, kit_ns, kit_bs, kit_is, kit_ls, kit_ts, kit_ds, kit_bb, V.ty.injEq, and_assoc, rIxU, rLenH, rLenU, rLenS, rInt1, rSetL, rEq, rNe, rCat, L2.start, List.map, List.length, List.length_cons, List.length_nil, List.replicate, List.getElem?_cons_zero, List.getElem?_cons_succ, List.set_cons_zero, List.set_cons_succ, List.set_nil, List.cons_append, List.nil_append, List.append_nil, Option.some.injEq, V.int.injEq, V.ref.injEq, V.str.injEq, V.bl.injEq, HO.lst.injEq, HO.tup.injEq, exists_eq_left', exists_and_left, exists_eq_left, List.cons.injEq, and_true, true_and, and_false, false_and, and_self, reduceCtorEq, exists_false, or_false, false_or, exists_const, at0, at1, at2, at3, at4, at5, ix51, ix52, ix54, upd_same, Nat.reduceAdd, Nat.reduceSub, Nat.zero_add, Int.reduceToNat, Int.reduceLE, Int.reduceLT, decide_eq_true_eq, Bool.not_eq_true, if_true, if_false, Bool.false_eq_true, ite_true, ite_false, Bool.not_true, Bool.not_false, decide_true, decide_false, tFor_eq, tLc_eq, iList, iTup, iRng1, iRng2, iStr, tSl, tPart, tNoPart, rSlL, cxOf_K, wipe, ex_ty2, kit_LTl, kit_LTt, kit_LTd, kit_LTs, kit_LTn, kit_LTb, kit_LTi, tM1, rIxS, exists_eq', lt1p, tDNewK, rSlS, rEqNil, nox_K, tNever]
      refine ⟨y, ty, rfl, t1, t4, ?_⟩
      rw [t5]
      try simp only [tSeq, tNext, tRet, tRetN, tAsg, gName, gSub, tDrop, tIfS, tOp, tUn, tCB, tCons, tNil, tC, tVar, rI, rI0, rU, tAnd, tOr, tNot, tAndV, tOrV, tNotV, tIf, tTest, tB, tCall, tChain, tLst, tTup, tYes, rIxH, rIsB, rIsBT, rMulS, kd_non, kd_bl, kd_int, kd_str, kd_ref, kdO_lst, kdO_tup, kdO_dK, nq_n, nq_b, nq_i, nq_s, nq_l, nq_t, nq_d, ne_eq, not_false_eq_true, kit_ss, kit_ns, kit_bs, kit_is, kit_ls, kit_ts, kit_ds, kit_bb, V.ty.injEq, and_assoc, rIxU, rLenH, rLenU, rLenS, rInt1, rSetL, rEq, rNe, rCat, L2.start, List.map, List.length, List.length_cons, List.length_nil, List.replicate, List.getElem?_cons_zero, List.getElem?_cons_succ, List.set_cons_zero, List.set_cons_succ, List.set_nil, List.cons_append, List.nil_append, List.append_nil, Option.some.injEq, V.int.injEq, V.ref.injEq, V.str.injEq, V.bl.injEq, HO.lst.injEq, HO.tup.injEq, exists_eq_left', exists_and_left, exists_eq_left, List.cons.injEq, and_true, true_and, and_false, false_and, and_self, reduceCtorEq, exists_false, or_false, false_or, exists_const, at0, at1, at2, at3, at4, at5, ix51, ix52, ix54, upd_same, Nat.reduceAdd, Nat.reduceSub, Nat.zero_add, Int.reduceToNat, Int.reduceLE, Int.reduceLT, decide_eq_true_eq, Bool.not_eq_true, if_true, if_false, Bool.false_eq_true, ite_true, ite_false, Bool.not_true, Bool.not_false, decide_true, decide_false, tFor_eq, tLc_eq, iList, iTup, iRng1, iRng2, iStr, tSl, tPart, tNoPart, rSlL, cxOf_K, wipe, ex_ty2, kit_LTl, kit_LTt, kit_LTd, kit_LTs, kit_LTn, kit_LTb, kit_LTi, tM1, rIxS, exists_eq', lt1p, tDNewK, rSlS, rEqNil, nox_K, tNever]
      refine ⟨y, q, m, rfl, hy, by omega, fun H2 v s2 hv => ?_⟩
      have hx2 := hx.same s2
      obtain ⟨⟨b, db, rfl, hb⟩, bq⟩ := hv
      obtain ⟨⟨a, da, rfl, ha⟩, bp⟩ := hx2
      have k2 := k H2 s2
      try simp only [tSeq, tNext, tRet, tRetN, tAsg, gName, gSub, tDrop, tIfS, tOp, tUn, tCB, tCons, tNil, tC, tVar, rI, rI0, rU, tAnd, tOr, tNot, tAndV, tOrV, tNotV, tIf, tTest, tB, tCall, tChain, tLst, tTup, tYes, rIxH, rIsB, rIsBT, rMulS, kd_non, kd_bl, kd_int, kd_str, kd_ref, kdO_lst, kdO_tup, kdO_dK, nq_n, nq_b, nq_i, nq_s, nq_l, nq_t, nq_d, ne_eq, not_false_eq_true, kit_ss, kit_ns, kit_bs, kit_is, kit_ls, kit_ts, kit_ds, kit_bb, V.ty.injEq, and_assoc, rIxU, rLenH, rLenU, rLenS, rInt1, rSetL, rEq, rNe, rCat, L2.start, List.map, List.length, List.length_cons, List.length_nil, List.replicate, List.getElem?_cons_zero, List.getElem?_cons_succ, List.set_cons_zero, List.set_cons_succ, List.set_nil, List.cons_append, List.nil_append, List.append_nil, Option.some.injEq, V.int.injEq, V.ref.injEq, V.str.injEq, V.bl.injEq, HO.lst.injEq, HO.tup.injEq, exists_eq_left', exists_and_left, exists_eq_left, List.cons.injEq, and_true, true_and, and_false, false_and, and_self, reduceCtorEq, exists_false, or_false, false_or, exists_const, at0, at1, at2, at3, at4, at5, ix51, ix52, ix54, upd_same, Nat.reduceAdd, Nat.reduceSub, Nat.zero_add, Int.reduceToNat, Int.reduceLE, Int.reduceLT, decide_eq_true_eq, Bool.not_eq_true, if_true, if_false, Bool.false_eq_true, ite_true, ite_false, Bool.not_true, Bool.not_false, decide_true, decide_false, tFor_eq, tLc_eq, iList, iTup, iRng1, iRng2, iStr, tSl, tPart, tNoPart, rSlL, cxOf_K, wipe, ex_ty2, kit_LTl, kit_LTt, kit_LTd, kit_LTs, kit_LTn, kit_LTb, kit_LTi, tM1, rIxS, exists_eq', lt1p, tDNewK, rSlS, rEqNil, nox_K, tNever, tFld, sFld, tMake_eq, rf_top, rf_bot, T.t_Ratio.cl, T.n_Ratio_kept_top, T.n_Ratio_kept_bottom, List.lookup, exists_and_left, List.length_nil, ha, hb, HO.ins.injEq, scal_int]
      have e := eq_num p q
      by_cases h1 : p.num = q.num
      · by_cases h2 : (p.den : Int) = q.den
        · have h3 : p = q := e ▸ ⟨h1, h2⟩
          simpa [h1, h2, h3] using k2
        · have h3 : ¬ p = q := fun z => h2 (by rw [z])
          simpa [h1, h2, h3] using k2
      · have h3 : ¬ p = q := fun z => h1 (by rw [z])
        simpa [h1, h3] using k2
    · try simp only [tSeq, tNext, tRet, tRetN, tAsg, gName, gSub, tDrop, tIfS, tOp, tUn, tCB, tCons, tNil, tC, tVar, rI, rI0, rU, tAnd, tOr, tNot, tAndV, tOrV, tNotV, tIf, tTest, tB, tCall, tChain, tLst, tTup, tYes, rIxH, rIsB, rIsBT, rMulS, kd_non, kd_bl, kd_int, kd_str, kd_ref, kdO_lst, kdO_tup, kdO_dK, nq_n, nq_b, nq_i, nq_s, nq_l, nq_t, nq_d, ne_eq, not_false_eq_true, kit_ss, kit_ns, kit_bs, kit_is, kit_ls, kit_ts, kit_ds, kit_bb, V.ty.injEq, and_assoc, rIxU, rLenH, rLenU, rLenS, rInt1, rSetL, rEq, rNe, rCat, L2.start, List.map, List.length, List.length_cons, List.length_nil, List.replicate, List.getElem?_cons_zero, List.getElem?_cons_succ, List.set_cons_zero, List.set_cons_succ, List.set_nil, List.cons_append, List.nil_append, List.append_nil, Option.some.injEq, V.int.injEq, V.ref.injEq, V.str.injEq, V.bl.injEq, HO.lst.injEq, HO.tup.injEq, exists_eq_left', exists_and_left, exists_eq_left, List.cons.injEq, and_true, true_and, and_false, false_and, and_self, reduceCtorEq, exists_false, or_false, false_or, exists_const, at0, at1, at2, at3, at4, at5, ix51, ix52, ix54, upd_same, Nat.reduceAdd, Nat.reduceSub, Nat.zero_add, Int.reduceToNat, Int.reduceLE, Int.reduceLT, decide_eq_true_eq, Bool.not_eq_true, if_true, if_false, Bool.false_eq_true, ite_true, ite_false, Bool.not_true, Bool.not_false, decide_true, decide_false, tFor_eq, tLc_eq, iList, iTup, iRng1, iRng2, iStr, tSl, tPart, tNoPart, rSlL, cxOf_K, wipe, ex_ty2, kit_LTl, kit_LTt, kit_LTd, kit_LTs, kit_LTn, kit_LTb, kit_LTi, tM1, rIxS, exists_eq', lt1p, tDNewK, rSlS, rEqNil, nox_K, tNever]
      refine ⟨y, t, rfl, h1, h2, ?_⟩
      rw [decide_eq_false h3, decide_eq_false h4]
      try simp only [tSeq, tNext, tRet, tRetN, tAsg, gName, gSub, tDrop, tIfS, tOp, tUn, tCB, tCons, tNil, tC, tVar, rI, rI0, rU, tAnd, tOr, tNot, tAndV, tOrV, tNotV, tIf, tTest, tB, tCall, tChain, tLst, tTup, tYes, rIxH, rIsB, rIsBT, rMulS, kd_non, kd_bl, kd_int, kd_str, kd_ref, kdO_lst, kdO_tup, kdO_dK, nq_n, nq_b, nq_i, nq_s, nq_l, nq_t, nq_d, ne_eq, not_false_eq_true, kit_ss, kit_ns, kit_bs, kit_is, kit_ls, kit_ts, kit_ds, kit_bb, V.ty.injEq, and_assoc, rIxU, rLenH, rLenU, rLenS, rInt1, rSetL, rEq, rNe, rCat, L2.start, List.map, List.length, List.length_cons, List.length_nil, List.replicate, List.getElem?_cons_zero, List.getElem?_cons_succ, List.set_cons_zero, List.set_cons_succ, List.set_nil, List.cons_append, List.nil_append, List.append_nil, Option.some.injEq, V.int.injEq, V.ref.injEq, V.str.injEq, V.bl.injEq, HO.lst.injEq, HO.tup.injEq, exists_eq_left', exists_and_left, exists_eq_left, List.cons.injEq, and_true, true_and, and_false, false_and, and_self, reduceCtorEq, exists_false, or_false, false_or, exists_const, at0, at1, at2, at3, at4, at5, ix51, ix52, ix54, upd_same, Nat.reduceAdd, Nat.reduceSub, Nat.zero_add, Int.reduceToNat, Int.reduceLE, Int.reduceLT, decide_eq_true_eq, Bool.not_eq_true, if_true, if_false, Bool.false_eq_true, ite_true, ite_false, Bool.not_true, Bool.not_false, decide_true, decide_false, tFor_eq, tLc_eq, iList, iTup, iRng1, iRng2, iStr, tSl, tPart, tNoPart, rSlL, cxOf_K, wipe, ex_ty2, kit_LTl, kit_LTt, kit_LTd, kit_LTs, kit_LTn, kit_LTb, kit_LTi, tM1, rIxS, exists_eq', lt1p, tDNewK, rSlS, rEqNil, nox_K, tNever, Bool.or_self]
      exact k

theorem ok_RatioNe_A (T : Txt K mg A) (gIsNumber : FnOk P w K mg base CX0 2 A.a_IsNumber A.d_IsNumber ["value"] (spIsNum A.k_Ratio)) (gRatioOf : FnOk P w K mg base CX0 4 A.a_RatioOf A.d_RatioOf ["number"] (spOf A.k_Ratio)) : FnOk P w K mg base CX0 5 A.a_RatioNe A.d_RatioNe ["self", "other"] (spCmpA A.k_Ratio (fun p q => !decide (p = q)) true) := by
  refine T.f_RatioNe.ok scRatioNe (fun vs H Q E h => ?_) (fun cdv A' outer s H vs Q E hr h => ?_)
  · rcases h with ⟨x, y, p, q, n, m, rfl, _⟩ | ⟨x, y, t, rfl, _⟩ <;> rfl
  · refine ⟨_, (pss_cons (ps_if (pt_not (pt_val (pe_call gIsNumber (hr.mono (by decide)) (by rfl) T.m_IsNumber T.f_IsNumber.kp T.b_IsNumber .nil pass0 (pa_cons (pv 1) pa_nil)))) (pss_one (ps_ret pe_bl)) pss_nil)
      (pss_cons (ps_set (i := 2) scRatioNe.nd rfl (Or.inl rfl) (pe_call gRatioOf (hr.mono (by decide)) (by rfl) T.m_RatioOf T.f_RatioOf.kp T.b_RatioOf .nil pass0 (pa_cons (pv 1) pa_nil)))
      (pss_one (ps_ret (pe_or (pe_cmpR (op_ne) (pe_fld (pv 0) rfl) (pe_fld (pv 2) rfl) (nomark _)) (pe_one (pe_cmpR (op_ne) (pe_fld (pv 0) rfl) (pe_fld (pv 2) rfl) (nomark _)))))))), ?_⟩
    rcases h with ⟨x, y, p, q, n, m, rfl, hx, hy, hn, k⟩ | ⟨x, y, t, rfl, h1, h2, h3, h4, k⟩
    · obtain ⟨ty, t1, t2, t3, t4, t5⟩ := numTy T hy
      try simp only [tSeq, tNext, tRet, tRetN, tAsg, gName, gSub, tDrop, tIfS, tOp, tUn, tCB, tCons, tNil, tC, tVar, rI, rI0, rU, tAnd, tOr, tNot, tAndV, tOrV, tNotV, tIf, tTest, tB, tCall, tChain, tLst, tTup, tYes, rIxH, rIsB, rIsBT, rMulS, kd_non, kd_bl, kd_int, kd_str, kd_ref, kdO_lst, kdO_tup, kdO_dK, nq_n, nq_b, nq_i, nq_s, nq_l, nq_t, nq_d, ne_eq, not_false_eq_true, kit_ss, kit_ns, kit_bs, kit_is, kit_ls, kit_ts, kit_ds, kit_bb, V.ty.injEq, and_assoc, rIxU, rLenH, rLenU, rLenS, rInt1, rSetL, rEq, rNe, rCat, L2.start, List.map, List.length, List.length_cons, List.length_nil, List.replicate, List.getElem?_cons_zero, List.getElem?_cons_succ, List.set_cons_zero, List.set_cons_succ, List.set_nil, List.cons_append, List.nil_append, List.append_nil, Option.some.injEq, V.int.injEq, V.ref.injEq, V.str.injEq, V.bl.injEq, HO.lst.injEq, HO.tup.injEq, exists_eq_left', exists_and_left, exists_eq_left, List.cons.injEq, and_true, true_and, and_false, false_and, and_self, reduceCtorEq, exists_false, or_false, false_or, exists_const, at0, at1, at2, at3, at4, at5, ix51, ix52, ix54, upd_same, Nat.reduceAdd, Nat.reduceSub, Nat.zero_add, Int.reduceToNat, Int.reduceLE, Int.reduceLT, decide_eq_true_eq, Bool.not_eq_true, if_true, if_false, Bool.false_eq_true, ite_true, ite_false, Bool.not_true, Bool.not_false, decide_true, decide_false, tFor_eq, tLc_eq, iList, iTup, iRng1, iRng2, iStr, tSl, tPart, tNoPart, rSlL, cxOf_K, wipe, ex_ty2, kit_LTl, kit_LTt, kit_LTd, kit_LTs, kit_LTn, kit_LTb, kit_LTi, tM1, rIxS, exists_eq', lt1p, tDNewK, rSlS, rEqNil, nox_K, tNever]
      refine ⟨y, ty, rfl, t1, t4, ?_⟩
      rw [t5]
      try simp only [tSeq, tNext, tRet, tRetN, tAsg, gName, gSub, tDrop, tIfS, tOp, tUn, tCB, tCons, tNil, tC, tVar, rI, rI0, rU, tAnd, tOr, tNot, tAndV, tOrV, tNotV, tIf, tTest, tB, tCall, tChain, tLst, tTup, tYes, rIxH, rIsB, rIsBT, rMulS, kd_non, kd_bl, kd_int, kd_str, kd_ref, kdO_lst, kdO_tup, kdO_dK, nq_n, nq_b, nq_i, nq_s, nq_l, nq_t, nq_d, ne_eq, not_false_eq_true, kit_ss, kit_ns, kit_bs, kit_is, kit_ls, kit_ts, kit_ds, kit_bb, V.ty.injEq, and_assoc, rIxU, rLenH, rLenU, rLenS, rInt1, rSetL, rEq, rNe, rCat, L2.start, List.map, List.length, List.length_cons, List.length_nil, List.replicate, List.getElem?_cons_zero, List.getElem?_cons_succ, List.set_cons_zero, List.set_cons_succ, List.set_nil, List.cons_append, List.nil_append, List.append_nil, Option.some.injEq, V.int.injEq, V.ref.injEq, V.str.injEq, V.bl.injEq, HO.lst.injEq, HO.tup.injEq, exists_eq_left', exists_and_left, exists_eq_left, List.cons.injEq, and_true, true_and, and_false, false_and, and_self, reduceCtorEq, exists_false, or_false, false_or, exists_const, at0, at1, at2, at3, at4, at5, ix51, ix52, ix54, upd_same, Nat.reduceAdd, Nat.reduceSub, Nat.zero_add, Int.reduceToNat, Int.reduceLE, Int.reduceLT, decide_eq_true_eq, Bool.not_eq_true, if_true, if_false, Bool.false_eq_true, ite_true, ite_false, Bool.not_true, Bool.not_false, decide_true, decide_false, tFor_eq, tLc_eq, iList, iTup, iRng1, iRng2, iStr, tSl, tPart, tNoPart, rSlL, cxOf_K, wipe, ex_ty2, kit_LTl, kit_LTt, kit_LTd, kit_LTs, kit_LTn, kit_LTb, kit_LTi, tM1, rIxS, exists_eq', lt1p, tDNewK, rSlS, rEqNil, nox_K, tNever]
      refine ⟨y, q, m, rfl, hy, by omega, fun H2 v s2 hv => ?_⟩
      have hx2 := hx.same s2
      obtain ⟨⟨b, db, rfl, hb⟩, bq⟩ := hv
      obtain ⟨⟨a, da, rfl, ha⟩, bp⟩ := hx2
      have k2 := k H2 s2
      try simp only [tSeq, tNext, tRet, tRetN, tAsg, gName, gSub, tDrop, tIfS, tOp, tUn, tCB, tCons, tNil, tC, tVar, rI, rI0, rU, tAnd, tOr, tNot, tAndV, tOrV, tNotV, tIf, tTest, tB, tCall, tChain, tLst, tTup, tYes, rIxH, rIsB, rIsBT, rMulS, kd_non, kd_bl, kd_int, kd_str, kd_ref, kdO_lst, kdO_tup, kdO_dK, nq_n, nq_b, nq_i, nq_s, nq_l, nq_t, nq_d, ne_eq, not_false_eq_true, kit_ss, kit_ns, kit_bs, kit_is, kit_ls, kit_ts, kit_ds, kit_bb, V.ty.injEq, and_assoc, rIxU, rLenH, rLenU, rLenS, rInt1, rSetL, rEq, rNe, rCat, L2.start, List.map, List.length, List.length_cons, List.length_nil, List.replicate, List.getElem?_cons_zero, List.getElem?_cons_succ, List.set_cons_zero, List.set_cons_succ, List.set_nil, List.cons_append, List.nil_append, List.append_nil, Option.some.injEq, V.int.injEq, V.ref.injEq, V.str.injEq, V.bl.injEq, HO.lst.injEq, HO.tup.injEq, exists_eq_left', exists_and_left, exists_eq_left, List.cons.injEq, and_true, true_and, and_false, false_and, and_self, reduceCtorEq, exists_false, or_false, false_or, exists_const, at0, at1, at2, at3, at4, at5, ix51, ix52, ix54, upd_same, Nat.reduceAdd, Nat.reduceSub, Nat.zero_add, Int.reduceToNat, Int.reduceLE, Int.reduceLT, decide_eq_true_eq, Bool.not_eq_true, if_true, if_false, Bool.false_eq_true, ite_true, ite_false, Bool.not_true, Bool.not_false, decide_true, decide_false, tFor_eq, tLc_eq, iList, iTup, iRng1, iRng2, iStr, tSl, tPart, tNoPart, rSlL, cxOf_K, wipe, ex_ty2, kit_LTl, kit_LTt, kit_LTd, kit_LTs, kit_LTn, kit_LTb, kit_LTi, tM1, rIxS, exists_eq', lt1p, tDNewK, rSlS, rEqNil, nox_K, tNever, tFld, sFld, tMake_eq, rf_top, rf_bot, T.t_Ratio.cl, T.n_Ratio_kept_top, T.n_Ratio_kept_bottom, List.lookup, exists_and_left, List.length_nil, ha, hb, HO.ins.injEq, scal_int]
      have e := eq_num p q
      by_cases h1 : p.num = q.num
      · by_cases h2 : (p.den : Int) = q.den
        · have h3 : p = q := e ▸ ⟨h1, h2⟩
          simpa [h1, h2, h3] using k2
        · have h3 : ¬ p = q := fun z => h2 (by rw [z])
          simpa [h1, h2, h3] using k2
      · have h3 : ¬ p = q := fun z => h1 (by rw [z])
        simpa [h1, h3] using k2
    · try simp only [tSeq, tNext, tRet, tRetN, tAsg, gName, gSub, tDrop, tIfS, tOp, tUn, tCB, tCons, tNil, tC, tVar, rI, rI0, rU, tAnd, tOr, tNot, tAndV, tOrV, tNotV, tIf, tTest, tB, tCall, tChain, tLst, tTup, tYes, rIxH, rIsB, rIsBT, rMulS, kd_non, kd_bl, kd_int, kd_str, kd_ref, kdO_lst, kdO_tup, kdO_dK, nq_n, nq_b, nq_i, nq_s, nq_l, nq_t, nq_d, ne_eq, not_false_eq_true, kit_ss, kit_ns, kit_bs, kit_is, kit_ls, kit_ts, kit_ds, kit_bb, V.ty.injEq, and_assoc, rIxU, rLenH, rLenU, rLenS, rInt1, rSetL, rEq, rNe, rCat, L2.start, List.map, List.length, List.length_cons, List.length_nil, List.replicate, List.getElem?_cons_zero, List.getElem?_cons_succ, List.set_cons_zero, List.set_cons_succ, List.set_nil, List.cons_append, List.nil_append, List.append_nil, Option.some.injEq, V.int.injEq, V.ref.injEq, V.str.injEq, V.bl.injEq, HO.lst.injEq, HO.tup.injEq, exists_eq_left', exists_and_left, exists_eq_left, List.cons.injEq, and_true, true_and, and_false, false_and, and_self, reduceCtorEq, exists_false, or_false, false_or, exists_const, at0, at1, at2, at3, at4, at5, ix51, ix52, ix54, upd_same, Nat.reduceAdd, Nat.reduceSub, Nat.zero_add, Int.reduceToNat, Int.reduceLE, Int.reduceLT, decide_eq_true_eq, Bool.not_eq_true, if_true, if_false, Bool.false_eq_true, ite_true, ite_false, Bool.not_true, Bool.not_false, decide_true, decide_false, tFor_eq, tLc_eq, iList, iTup, iRng1, iRng2, iStr, tSl, tPart, tNoPart, rSlL, cxOf_K, wipe, ex_ty2, kit_LTl, kit_LTt, kit_LTd, kit_LTs, kit_LTn, kit_LTb, kit_LTi, tM1, rIxS, exists_eq', lt1p, tDNewK, rSlS, rEqNil, nox_K, tNever]
      refine ⟨y, t, rfl, h1, h2, ?_⟩
      rw [decide_eq_false h3, decide_eq_false h4]
      try simp only [tSeq, tNext, tRet, tRetN, tAsg, gName, gSub, tDrop, tIfS, tOp, tUn, tCB, tCons, tNil, tC, tVar, rI, rI0, rU, tAnd, tOr, tNot, tAndV, tOrV, tNotV, tIf, tTest, tB, tCall, tChain, tLst, tTup, tYes, rIxH, rIsB, rIsBT, rMulS, kd_non, kd_bl, kd_int, kd_str, kd_ref, kdO_lst, kdO_tup, kdO_dK, nq_n, nq_b, nq_i, nq_s, nq_l, nq_t, nq_d, ne_eq, not_false_eq_true, kit_ss, kit_ns, kit_bs, kit_is, kit_ls, kit_ts, kit_ds, kit_bb, V.ty.injEq, and_assoc, rIxU, rLenH, rLenU, rLenS, rInt1, rSetL, rEq, rNe, rCat, L2.start, List.map, List.length, List.length_cons, List.length_nil, List.replicate, List.getElem?_cons_zero, List.getElem?_cons_succ, List.set_cons_zero, List.set_cons_succ, List.set_nil, List.cons_append, List.nil_append, List.append_nil, Option.some.injEq, V.int.injEq, V.ref.injEq, V.str.injEq, V.bl.injEq, HO.lst.injEq, HO.tup.injEq, exists_eq_left', exists_and_left, exists_eq_left, List.cons.injEq, and_true, true_and, and_false, false_and, and_self, reduceCtorEq, exists_false, or_false, false_or, exists_const, at0, at1, at2, at3, at4, at5, ix51, ix52, ix54, upd_same, Nat.reduceAdd, Nat.reduceSub, Nat.zero_add, Int.reduceToNat, Int.reduceLE, Int.reduceLT, decide_eq_true_eq, Bool.not_eq_true, if_true, if_false, Bool.false_eq_true, ite_true, ite_false, Bool.not_true, Bool.not_false, decide_true, decide_false, tFor_eq, tLc_eq, iList, iTup, iRng1, iRng2, iStr, tSl, tPart, tNoPart, rSlL, cxOf_K, wipe, ex_ty2, kit_LTl, kit_LTt, kit_LTd, kit_LTs, kit_LTn, kit_LTb, kit_LTi, tM1, rIxS, exists_eq', lt1p, tDNewK, rSlS, rEqNil, nox_K, tNever, Bool.or_self]
      exact k

end

/-! ### values of expressions over Ratios -/
def EvR (C : Addr) (t : TE) (σ : St) (H : Hp) (q : Rat) (n : Nat) : Prop := ∀ H1, Same H H1 → ∀ Q : VK, (∀ H2 v, Same H1 H2 → RatAt C H2 v q n → Q v H2) → t σ H1 Q
def EvN (C : Addr) (t : TE) (σ : St) (H : Hp) (q : Rat) (n : Nat) : Prop := ∀ H1, Same H H1 → ∀ Q : VK, (∀ H2 v, Same H1 H2 → NumAt C H2 v q n → Q v H2) → t σ H1 Q
def EvI (t : TE) (σ : St) (H : Hp) (i : Int) : Prop := ∀ H1, Same H H1 → ∀ Q : VK, Q (.int i) H1 → t σ H1 Q
def EvB (t : TE) (σ : St) (H : Hp) (b : Bool) : Prop := ∀ H1, Same H H1 → ∀ Q : VK, (∀ H2, Same H1 H2 → Q (.bl b) H2) → t σ H1 Q
def EvT (t : TT) (σ : St) (H : Hp) (b : Bool) : Prop := ∀ H1, Same H H1 → ∀ Q : Bool → Hp → Prop, (∀ H2, Same H1 H2 → Q b H2) → t σ H1 Q
section
variable {C : Addr} {σ : St} {H : Hp} {p q : Rat} {n m : Nat} {t t1 t2 t3 : TE} {E : XK} {b b1 b2 : Bool} {v : V} {i : Nat}
theorem EvR.var (h : σ[i]? = some (some v)) (hv : RatAt C H v q n) : EvR C (tVar i) σ H q n := fun H1 s1 Q k => ⟨v, h, k H1 v (Same.refl _) (hv.same s1)⟩
theorem EvR.num (h : EvR C t σ H q n) : EvN C t σ H q n := fun H1 s1 Q k => h H1 s1 Q fun H2 v s2 hv => k H2 v s2 (.inl hv)
theorem bd_int {z : Int} {n : Nat} (h : z.natAbs < 2 ^ n) (hn : 0 < n) : Bd n (z : Rat) := ⟨h, Nat.one_lt_two_pow (by omega)⟩
theorem EvN.int {z : Int} (h : z.natAbs < 2 ^ 2) : EvN C (tC (.int z)) σ H (z : Rat) 2 := fun H1 s1 Q k => k H1 _ (Same.refl _) (.inr ⟨⟨z, rfl, rfl⟩, bd_int h (by decide)⟩)
theorem EvN.var {z : Int} (h : σ[i]? = some (some (.int z))) (hv : Bd n (z : Rat)) : EvN C (tVar i) σ H (z : Rat) n := fun H1 s1 Q k => ⟨_, h, k H1 _ (Same.refl _) (.inr ⟨⟨z, rfl, rfl⟩, hv⟩)⟩
theorem EvI.var {z : Int} (h : σ[i]? = some (some (.int z))) : EvI (tVar i) σ H z := fun H1 s1 Q k => ⟨_, h, k⟩
theorem NumAt.own {y : V} (h : NumAt C H y q n) : (∃ i, y = .int i) ∨ ∃ b dy gs, y = .ref b ∧ H b = some (.ins C dy gs) := by
  rcases h with ⟨⟨a, dx, rfl, h⟩, _⟩ | ⟨⟨i, rfl, _⟩, _⟩
  · exact .inr ⟨a, dx, _, rfl, h⟩
  · exact .inl ⟨i, rfl⟩
theorem EvR.bin {f : Rat → Rat → Rat} (h1 : EvR C t1 σ H p n) (h2 : EvN C t2 σ H q m) (hn : n + m + 1 ≤ 9000) : EvR C (tOp (rOwn C (spBin C f) E) t1 t2) σ H (f p q) (n + m + 1) := fun H1 s1 Q k =>
  h1 H1 s1 _ fun H2 v s2 hv => h2 H2 (s1.trans s2) _ fun H3 u s3 hu => by
    have hv3 := hv.same s3
    obtain ⟨⟨a, dx, rfl, ha⟩, _⟩ := id hv3
    exact ⟨a, dx, _, rfl, ha, hu.own, _, _, p, q, n, m, rfl, hv3, hu, hn, fun H4 w s4 hw => k H4 w ((s2.trans s3).trans s4) hw⟩
theorem EvR.rbin {f : Rat → Rat → Rat} {z : Int} (h1 : EvI t1 σ H z) (hz : Bd m (z : Rat)) (h2 : EvR C t2 σ H p n) (hn : n + m + 1 ≤ 9000) : EvR C (tOp (rOwnI C (spRBin C f) E) t1 t2) σ H (f z p) (n + m + 1) := fun H1 s1 Q k =>
  h1 H1 s1 _ (h2 H1 s1 _ fun H3 u s3 hu => by
    obtain ⟨⟨a, dx, rfl, ha⟩, _⟩ := id hu
    exact ⟨z, a, dx, _, rfl, rfl, ha, _, z, p, n, m, rfl, hu, hz, hn, fun H4 w s4 hw => k H4 w (s3.trans s4) hw⟩)
theorem EvR.un {f : Rat → Rat} (h1 : EvR C t σ H p n) (hn : n ≤ 9000) : EvR C (tUn (rOwn1 C (spUn C f) E) t) σ H (f p) n := fun H1 s1 Q k =>
  h1 H1 s1 _ fun H2 v s2 hv => by
    obtain ⟨⟨a, dx, rfl, ha⟩, _⟩ := id hv
    exact ⟨a, dx, _, rfl, ha, _, p, n, rfl, hv, hn, fun H4 w s4 hw => k H4 w (s2.trans s4) hw⟩
theorem EvR.abs {f : Rat → Rat} (h1 : EvR C t σ H p n) (hn : n ≤ 9000) : EvR C (tCB (rOwnC1 C (spUn C f) E) (tCons t tNil)) σ H (f p) n := fun H1 s1 Q k =>
  h1 H1 s1 _ fun H2 v s2 hv => by
    obtain ⟨⟨a, dx, rfl, ha⟩, _⟩ := id hv
    exact ⟨a, dx, _, rfl, ha, _, p, n, rfl, hv, hn, fun H4 w s4 hw => k H4 w (s2.trans s4) hw⟩
theorem EvB.tru (h1 : EvR C t σ H p n) : EvB (tCB (rOwnB C (spTru C) E) (tCons t tNil)) σ H (decide (p ≠ 0)) := fun H1 s1 Q k =>
  h1 H1 s1 _ fun H2 v s2 hv => by
    obtain ⟨⟨a, dx, rfl, ha⟩, _⟩ := id hv
    exact ⟨a, dx, _, rfl, ha, _, p, n, rfl, hv, ⟨_, rfl⟩, k H2 s2⟩
theorem EvB.cmp {r : Rat → Rat → Bool} (h1 : EvR C t1 σ H p n) (h2 : EvN C t2 σ H q m) (hn : n + m ≤ 9000) : EvB (tOp (rOwn C (spCmp C r) E) t1 t2) σ H (r p q) := fun H1 s1 Q k =>
  h1 H1 s1 _ fun H2 v s2 hv => h2 H2 (s1.trans s2) _ fun H3 u s3 hu => by
    have hv3 := hv.same s3
    obtain ⟨⟨a, dx, rfl, ha⟩, _⟩ := id hv3
    exact ⟨a, dx, _, rfl, ha, hu.own, _, _, p, q, n, m, rfl, hv3, hu, hn, fun H4 s4 => k H4 ((s2.trans s3).trans s4)⟩
theorem EvB.cmpI {r : Rat → Rat → Bool} {z : Int} (h1 : EvI t1 σ H z) (hz : Bd m (z : Rat)) (h2 : EvR C t2 σ H p n) (hn : n + m ≤ 9000) : EvB (tOp (rOwnI C (spCmp C r) E) t1 t2) σ H (r p z) := fun H1 s1 Q k =>
  h1 H1 s1 _ (h2 H1 s1 _ fun H3 u s3 hu => by
    obtain ⟨⟨a, dx, rfl, ha⟩, _⟩ := id hu
    exact ⟨z, a, dx, _, rfl, rfl, ha, _, _, p, z, n, m, rfl, hu, .inr ⟨⟨z, rfl, rfl⟩, hz⟩, hn, fun H4 s4 => k H4 (s3.trans s4)⟩)
theorem dvd_no : ¬ (("divided" : Str) = "kept_top") := by decide +kernel
theorem dvd_no2 : ¬ (("divided" : Str) = "kept_bottom") := by decide +kernel
theorem EvR.div (h1 : EvR C t1 σ H p n) (h2 : EvN C t2 σ H q m) (hq : q ≠ 0) (hn : n + m + 1 ≤ 9000) : EvR C (tMeth C "divided" (spDiv C) [] E t1 (tCons t2 tNil)) σ H (p / q) (n + m + 1) := fun H1 s1 Q k =>
  h1 H1 s1 _ fun H2 v s2 hv => by
    obtain ⟨⟨a, dx, rfl, ha⟩, _⟩ := id hv
    refine ⟨a, dx, _, rfl, ha, rf_no dvd_no dvd_no2, h2 H2 (s1.trans s2) _ fun H3 u s3 hu => ?_⟩
    exact ⟨_, _, p, q, n, m, rfl, hv.same s3, hu, hq, hn, fun H4 w s4 hw => k H4 w ((s2.trans s3).trans s4) hw⟩
theorem EvR.mid (h1 : EvR C t1 σ H p n) (h2 : EvR C t2 σ H q m) (hn : n + m + 10 ≤ 9000) : EvR C (tSMeth C (spMid C) E (tC (.ref C)) (tCons t1 (tCons t2 tNil))) σ H ((p + q) / 2) (n + m + 4) := fun H1 s1 Q k =>
  ⟨rfl, h1 H1 s1 _ fun H2 v s2 hv => h2 H2 (s1.trans s2) _ fun H3 u s3 hu => ⟨_, _, p, q, n, m, rfl, hv.same s3, hu, hn, fun H4 w s4 hw => k H4 w ((s2.trans s3).trans s4) hw⟩⟩
theorem EvR.of (h1 : EvN C t σ H p n) (hn : n ≤ 9000) : EvR C (tCall (spOf C) [] E (tCons t tNil)) σ H p n := fun H1 s1 Q k =>
  h1 H1 s1 _ fun H2 v s2 hv => ⟨v, p, n, rfl, hv, hn, fun H4 w s4 hw => k H4 w (s2.trans s4) hw⟩
theorem EvB.notV (h : EvB t σ H b) : EvB (tNotV t) σ H (!b) := fun H1 s1 Q k => h H1 s1 _ fun H2 s2 => ⟨b, rfl, k H2 s2⟩
theorem EvB.andV (h1 : EvB t1 σ H b1) (h2 : b1 = true → EvB t2 σ H b2) : EvB (tAndV t1 t2) σ H (b1 && b2) := fun H1 s1 Q k => h1 H1 s1 _ fun H2 s2 => by
  refine ⟨b1, rfl, ?_⟩
  cases b1 with
  | true => exact h2 rfl H2 (s1.trans s2) Q fun H3 s3 => k H3 (s2.trans s3)
  | false => exact k H2 s2
theorem EvB.ne (h1 : EvB t1 σ H b1) (h2 : EvB t2 σ H b2) : EvB (tOp rNe t1 t2) σ H (b1 != b2) := fun H1 s1 Q k => h1 H1 s1 _ fun H2 s2 => h2 H2 (s1.trans s2) _ fun H3 s3 => by
  refine ⟨rfl, ?_⟩
  have e : (!decide (V.bl b1 = V.bl b2)) = (b1 != b2) := by cases b1 <;> cases b2 <;> rfl
  rw [e]
  exact k H3 (s2.trans s3)
theorem EvB.eqB (h1 : EvB t1 σ H b1) (h2 : EvB t2 σ H b2) : EvB (tOp rEq t1 t2) σ H (b1 == b2) := fun H1 s1 Q k => h1 H1 s1 _ fun H2 s2 => h2 H2 (s1.trans s2) _ fun H3 s3 => by
  refine ⟨rfl, ?_⟩
  have e : (decide (V.bl b1 = V.bl b2)) = (b1 == b2) := by cases b1 <;> cases b2 <;> rfl
  rw [e]
  exact k H3 (s2.trans s3)
theorem EvT.test (h : EvB t σ H b) : EvT (tTest t) σ H b := fun H1 s1 Q k => h H1 s1 _ fun H2 s2 => ⟨b, rfl, k H2 s2⟩
theorem EvT.bb (h : EvB t σ H b) : EvT (tB t) σ H b := fun H1 s1 Q k => h H1 s1 _ fun H2 s2 => ⟨b, rfl, k H2 s2⟩
theorem EvT.not {c : TT} (h : EvT c σ H b) : EvT (tNot c) σ H (!b) := fun H1 s1 Q k => h H1 s1 _ fun H2 s2 => k H2 s2
theorem EvT.and {c d : TT} (h1 : EvT c σ H b1) (h2 : b1 = true → EvT d σ H b2) : EvT (tAnd c d) σ H (b1 && b2) := fun H1 s1 Q k => h1 H1 s1 _ fun H2 s2 => by
  show ite (b1 = true) _ _
  cases b1 with
  | true => rw [if_pos rfl]; exact h2 rfl H2 (s1.trans s2) Q fun H3 s3 => k H3 (s2.trans s3)
  | false => rw [if_neg (by decide)]; exact k H2 s2
theorem EvT.or {c d : TT} (h1 : EvT c σ H b1) (h2 : b1 = false → EvT d σ H b2) : EvT (tOr c d) σ H (b1 || b2) := fun H1 s1 Q k => h1 H1 s1 _ fun H2 s2 => by
  show ite (b1 = true) _ _
  cases b1 with
  | true => rw [if_pos rfl]; exact k H2 s2
  | false => rw [if_neg (by decide)]; exact h2 rfl H2 (s1.trans s2) Q fun H3 s3 => k H3 (s2.trans s3)
/-- if test: .. (the test is false); what comes behind -/
theorem if_no {c : TT} {u v : TS} {D : Ends} (h : EvT c σ H b) (hb : b = false) (k : ∀ H2, Same H H2 → v D σ H2) : tIfS c u v D σ H := h H (Same.refl _) _ fun H2 s2 => by
  show ite (b = true) _ _
  rw [hb, if_neg (by decide)]
  exact k H2 s2
theorem if_yes {c : TT} {u v : TS} {D : Ends} (h : EvT c σ H b) (hb : b = true) (k : ∀ H2, Same H H2 → u D σ H2) : tIfS c u v D σ H := h H (Same.refl _) _ fun H2 s2 => by
  show ite (b = true) _ _
  rw [hb, if_pos rfl]
  exact k H2 s2
theorem EvT.mono {c : TT} {H0 : Hp} (h : EvT c σ H0 b) (s : Same H0 H) : EvT c σ H b := fun H1 s1 => h H1 (s.trans s1)
theorem EvB.mono {H0 : Hp} (h : EvB t σ H0 b) (s : Same H0 H) : EvB t σ H b := fun H1 s1 => h H1 (s.trans s1)
theorem seq_no {c : TT} {u v : TS} {D : Ends} {H0 : Hp} (s : Same H0 H) (h : EvT c σ H0 b) (hb : b = false) (k : ∀ H2, Same H0 H2 → v D σ H2) : tSeq (tIfS c u tNext) v D σ H := if_no (h.mono s) hb fun H2 s2 => k H2 (s.trans s2)
theorem seq_yes {c : TT} {u v v0 : TS} {D : Ends} {H0 : Hp} (s : Same H0 H) (h : EvT c σ H0 b) (hb : b = true) (k : ∀ H2, Same H0 H2 → u { D with nx := v D } σ H2) : tSeq (tIfS c u v0) v D σ H := if_yes (h.mono s) hb fun H2 s2 => k H2 (s.trans s2)
theorem if_noB {c : TT} {u : TS} {D : Ends} {H0 : Hp} (s : Same H0 H) (h : EvT c σ H0 b) (hb : b = false) (k : ∀ H2, Same H0 H2 → D.nx σ H2) : tIfS c u tNext D σ H := if_no (h.mono s) hb fun H2 s2 => k H2 (s.trans s2)
theorem ret_b {D : Ends} {H0 : Hp} (s : Same H0 H) (h : EvB t σ H0 b) (k : ∀ H2, Same H0 H2 → D.rt (.bl b) H2) : tRet t D σ H := (h.mono s) H (Same.refl _) _ fun H2 s2 => k H2 (s.trans s2)
theorem ret_ev {D : Ends} (h : EvB t σ H b) (k : ∀ H2, Same H H2 → D.rt (.bl b) H2) : tRet t D σ H := h H (Same.refl _) _ k
end
section
variable {X : Cx}
theorem mem_bools {hp : Heap} : ∀ {bs : List Bool} {its : List Value}, Vals (bs.map V.bl) its → ReadsAll hp its (bs.map PyData.bool) []
  | [], _, h => by cases h; exact .nil
  | b :: r, _, h => by
    cases h with
    | cons h1 h2 =>
      cases h1
      exact .cons (as := []) (.bool b) (mem_bools h2)
theorem count_bools (k : Bool) : ∀ bs : List Bool, Spec.countIn (.bool k) (bs.map PyData.bool) = (bs.count k : Nat)
  | [] => rfl
  | b :: r => by
    rw [List.map_cons, Spec.countIn, count_bools k r, List.count_cons]
    cases b <;> cases k <;> simp [Spec.same] <;> omega
def rCountB : V → List V → Hp → VK → Prop := fun x xs H Q => ∃ (a : Addr) (bs : List Bool) (k : Bool), x = V.ref a ∧ xs = [.bl k] ∧ H a = some (.lst (bs.map V.bl)) ∧ Q (.int (bs.count k : Nat)) H
theorem mt_countB : MtR X "list.count" rCountB := by
  intro pins s σ H x xs v us Q I rx rxs h
  obtain ⟨a, bs, k, rfl, rfl, hs, q⟩ := h
  cases rx
  cases rxs with
  | cons ry rt =>
    cases ry
    cases rt
    obtain ⟨its, rv, ⟨o, n, ho, hc, hdn, hd⟩, hlen⟩ := I.list (SqL.of hs)
    refine PyProof.Rows.count_list_bools (vs := its) (xs := bs.map PyData.bool) (as := []) (hp := s.heap) ⟨o, ho, hc, n, hd⟩ (mem_bools rv) (by simp [Spec.Shape.has]) ?_
    rw [count_bools]
    exact ⟨.int (bs.count k : Nat), H, I.tok _, ⟨_, rfl⟩, q⟩
end
theorem EvB.count3 {K : PySem.W.Frag} {σ : St} {H : Hp} {t1 t2 t3 : TE} {b1 b2 b3 : Bool} {z : Int} (h1 : EvB t1 σ H b1) (h2 : EvB t2 σ H b2) (h3 : EvB t3 σ H b3) :
    EvB (tOp rNe (tBM K "list" rCountB (tLst (tCons t1 (tCons t2 (tCons t3 tNil)))) (tCons (tC (.bl true)) tNil)) (tC (.int z))) σ H (!decide ((([b1, b2, b3].count true : Nat) : Int) = z)) := fun H1 s1 Q k =>
  h1 H1 s1 _ fun H2 s2 => h2 H2 (s1.trans s2) _ fun H3 s3 => h3 H3 ((s1.trans s2).trans s3) _ fun H4 s4 => by
    refine ⟨(by decide : 3 ≤ sizeLine), fun p hp => ?_⟩
    obtain ⟨s5, h5⟩ := new_facts hp (rfl : upd H4 p (.lst [.bl b1, .bl b2, .bl b3]) = _)
    refine ⟨Or.inl ⟨rfl, _, SqL.of h5⟩, ?_⟩
    refine ⟨p, [b1, b2, b3], true, rfl, rfl, h5, rfl, ?_⟩
    have e : decide (V.int (([b1, b2, b3].count true : Nat) : Int) = V.int z) = decide ((([b1, b2, b3].count true : Nat) : Int) = z) := decide_eq_decide.mpr (by rw [V.int.injEq])
    rw [e]
    exact k _ (((s2.trans s3).trans s4).trans s5)
theorem set_ev {C : Addr} {σ : St} {H H0 : Hp} {t : TE} {q : Rat} {n : Nat} {i : Nat} {D : Ends} {v : TS} (s : Same H0 H) (h : EvR C t σ H0 q n) (k : ∀ H2 x, Same H0 H2 → RatAt C H2 x q n → v D (σ.set i (some x)) H2) : tSeq (tAsg t (gName i)) v D σ H :=
  h H s _ fun H2 x s2 hx => k H2 x (s.trans s2) hx



theorem make_go' {C : Addr} {E : XK} {vs dvs : List V} {H : Hp} {Q : VK} {t b : Int} {n : Nat} (e : vs ++ dvs = [.int t, .int b]) (hb : b ≠ 0) (h1 : t.natAbs < 2 ^ n) (h2 : b.natAbs < 2 ^ n) (hn : n ≤ 9000)
    (k : ∀ H' a dx, H a = none → Same H H' → H' a = some (.ins C dx (rf (Rat.divInt t b))) → Bd n (Rat.divInt t b) → Q (.ref a) H') : mkGo C (spInit C) dvs E vs H Q := by
  intro x dx nx nd ne
  rw [e]
  refine ⟨x, dx, t, b, rfl, hb, abs_mono h2 hn, upd_same, rfl, ?_⟩
  refine k _ x dx nx (fun c o hc => ?_) upd_same (bd_divInt h1 h2 hb)
  have c1 : c ≠ x := fun z => by rw [z, nx] at hc; cases hc
  have c2 : c ≠ dx := fun z => by rw [z, nd] at hc; cases hc
  rw [upd_ne c1, upd_ne c1, upd_ne c2]
  exact hc
theorem p97 : (100000000000000000000000000000 : Nat) ≤ 2 ^ 97 := by decide
theorem p97' : (2 : Nat) ^ 97 * 6 < 2 ^ 100 := by decide
theorem pickI (xs : List Int) {v : Int} (h0 : 0 ≤ v) (h1 : v < (xs.length : Int)) : ∃ i, atI (xs.map V.int) v = some (.int i) ∧ i ∈ xs := by
  obtain ⟨u, hu, hm, _⟩ := atI_ex (xs := xs.map V.int) h0 (by rw [List.length_map]; exact h1)
  obtain ⟨i, hi, rfl⟩ := List.mem_map.mp hm
  exact ⟨i, hu, hi⟩
def spInteger : Sp := fun vs H Q _ => ∃ (p l : Addr) (c : Nat), vs = [.ref p] ∧ PoolAt p l c H ∧ c ≤ 80000000 ∧ ∀ (i : Int) H', i.natAbs < 2 ^ 97 → PoolAt p l (c + 3) H' → OffS p l H H' → Q (.int i) H'
def spPair : Sp := fun vs H Q _ => ∃ (p l : Addr) (c : Nat), vs = [.ref p] ∧ PoolAt p l c H ∧ c ≤ 70000000 ∧ ∀ (a : Addr) (u b : Int) H', H a = none → H' a = some (.tup [.int u, .int b]) → b ≠ 0 → u.natAbs < 2 ^ 100 → b.natAbs < 2 ^ 100 → PoolAt p l (c + 8) H' → OffS p l H H' → Q (.ref a) H'
section
variable {P : Program} {w : World} {K : PySem.W.Frag} {mg : Str → Option Value} {base : Heap} {A : Adr}
theorem ok_integer (T : Txt K mg A) (gLawDraw : FnOk P w K mg base CX0 2 A.a_LawDraw A.d_LawDraw ["_law_pool_here", "_law_many"] spLawDraw) : FnOk P w K mg base CX0 3 A.a_LawInteger A.d_LawInteger ["_law_pool_here"] spInteger := by
  refine T.f_LawInteger.ok scLawInteger (fun vs H Q E h => ?_) (fun cdv A' outer s H vs Q E hr h => ?_)
  · obtain ⟨p, l, c, rfl, _⟩ := h
    rfl
  · obtain ⟨p, l, c, rfl, hp, hc, k⟩ := h
    refine ⟨_, (pss_cons (ps_set (i := 1) scLawInteger.nd rfl (Or.inl rfl) (pe_ix ix_lstH (pe_lst (pa_cons pe_int (pa_cons pe_int (pa_cons pe_int (pa_cons (pe_op op_pow pe_int pe_int) pa_nil))))) (pe_call gLawDraw (hr.mono (by decide)) (by rfl) T.m_LawDraw T.f_LawDraw.kp T.b_LawDraw .nil pass0 (pa_cons (pv 0) (pa_cons pe_int pa_nil))) (fun _ _ => rfl)))
      (pss_one (ps_ret (pe_op op_mulW (pe_call gLawDraw (hr.mono (by decide)) (by rfl) T.m_LawDraw T.f_LawDraw.kp T.b_LawDraw .nil pass0 (pa_cons (pv 0) (pa_cons (pv 1) pa_nil))) (pe_ix ix_lstH (pe_lst (pa_cons pe_int (pa_cons (pe_un un_neg pe_int) pa_nil))) (pe_call gLawDraw (hr.mono (by decide)) (by rfl) T.m_LawDraw T.f_LawDraw.kp T.b_LawDraw .nil pass0 (pa_cons (pv 0) (pa_cons pe_int pa_nil))) (fun _ _ => rfl)))))), ?_⟩
    try simp only [tSeq, tNext, tRet, tRetN, tAsg, gName, gSub, tDrop, tIfS, tOp, tUn, tCB, tCons, tNil, tC, tVar, rI, rI0, rU, tAnd, tOr, tNot, tAndV, tOrV, tNotV, tIf, tTest, tB, tCall, tChain, tLst, tTup, tYes, rIxH, rIsB, rIsBT, rMulS, kd_non, kd_bl, kd_int, kd_str, kd_ref, kdO_lst, kdO_tup, kdO_dK, nq_n, nq_b, nq_i, nq_s, nq_l, nq_t, nq_d, ne_eq, not_false_eq_true, kit_ss, kit_ns, kit_bs, kit_is, kit_ls, kit_ts, kit_ds, kit_bb, V.ty.injEq, and_assoc, rIxU, rLenH, rLenU, rLenS, rInt1, rSetL, rEq, rNe, rCat, L2.start, List.map, List.length, List.length_cons, List.length_nil, List.replicate, List.getElem?_cons_zero, List.getElem?_cons_succ, List.set_cons_zero, List.set_cons_succ, List.set_nil, List.cons_append, List.nil_append, List.append_nil, Option.some.injEq, V.int.injEq, V.ref.injEq, V.str.injEq, V.bl.injEq, HO.lst.injEq, HO.tup.injEq, exists_eq_left', exists_and_left, exists_eq_left, List.cons.injEq, and_true, true_and, and_false, false_and, and_self, reduceCtorEq, exists_false, or_false, false_or, exists_const, at0, at1, at2, at3, at4, at5, ix51, ix52, ix54, upd_same, Nat.reduceAdd, Nat.reduceSub, Nat.zero_add, Int.reduceToNat, Int.reduceLE, Int.reduceLT, decide_eq_true_eq, Bool.not_eq_true, if_true, if_false, Bool.false_eq_true, ite_true, ite_false, Bool.not_true, Bool.not_false, decide_true, decide_false, tFor_eq, tLc_eq, iList, iTup, iRng1, iRng2, iStr, tSl, tPart, tNoPart, rSlL, cxOf_K, wipe, ex_ty2, kit_LTl, kit_LTt, kit_LTd, kit_LTs, kit_LTn, kit_LTb, kit_LTi, tM1, rIxS, exists_eq', lt1p, tDNewK, rSlS, rEqNil]
    have w0 := wd0 hp
    refine ⟨⟨by decide, by decide, by decide⟩, by decide, ?_⟩
    intro q1 n_q1; generalize g_H1 : upd H q1 _ = H1; obtain ⟨s_H1, h_q1⟩ := new_facts n_q1 g_H1; clear g_H1; obtain ⟨G1, w_G1, k_G1, f_q1⟩ := w0.alloc n_q1 s_H1 h_q1
    refine ⟨p, l, 4, c, rfl, by decide, by decide, w_G1.pool, by omega, fun v H2 v0 v1 hp2 off2 => ?_⟩
    have w2 := w_G1.turn hp2 (Off.s off2)
    obtain ⟨z, hz, mz⟩ := pickI [9, 9, 40, 10 ^ 29] v0 v1
    simp only [List.map] at hz
    have z0 : 0 < z ∧ z ≤ 100000000000000000000000000000 := by
      simp only [List.mem_cons, List.not_mem_nil, or_false] at mz
      rcases mz with rfl | rfl | rfl | rfl <;> decide
    try simp only [tSeq, tNext, tRet, tRetN, tAsg, gName, gSub, tDrop, tIfS, tOp, tUn, tCB, tCons, tNil, tC, tVar, rI, rI0, rU, tAnd, tOr, tNot, tAndV, tOrV, tNotV, tIf, tTest, tB, tCall, tChain, tLst, tTup, tYes, rIxH, rIsB, rIsBT, rMulS, kd_non, kd_bl, kd_int, kd_str, kd_ref, kdO_lst, kdO_tup, kdO_dK, nq_n, nq_b, nq_i, nq_s, nq_l, nq_t, nq_d, ne_eq, not_false_eq_true, kit_ss, kit_ns, kit_bs, kit_is, kit_ls, kit_ts, kit_ds, kit_bb, V.ty.injEq, and_assoc, rIxU, rLenH, rLenU, rLenS, rInt1, rSetL, rEq, rNe, rCat, L2.start, List.map, List.length, List.length_cons, List.length_nil, List.replicate, List.getElem?_cons_zero, List.getElem?_cons_succ, List.set_cons_zero, List.set_cons_succ, List.set_nil, List.cons_append, List.nil_append, List.append_nil, Option.some.injEq, V.int.injEq, V.ref.injEq, V.str.injEq, V.bl.injEq, HO.lst.injEq, HO.tup.injEq, exists_eq_left', exists_and_left, exists_eq_left, List.cons.injEq, and_true, true_and, and_false, false_and, and_self, reduceCtorEq, exists_false, or_false, false_or, exists_const, at0, at1, at2, at3, at4, at5, ix51, ix52, ix54, upd_same, Nat.reduceAdd, Nat.reduceSub, Nat.zero_add, Int.reduceToNat, Int.reduceLE, Int.reduceLT, decide_eq_true_eq, Bool.not_eq_true, if_true, if_false, Bool.false_eq_true, ite_true, ite_false, Bool.not_true, Bool.not_false, decide_true, decide_false, tFor_eq, tLc_eq, iList, iTup, iRng1, iRng2, iStr, tSl, tPart, tNoPart, rSlL, cxOf_K, wipe, ex_ty2, kit_LTl, kit_LTt, kit_LTd, kit_LTs, kit_LTn, kit_LTb, kit_LTi, tM1, rIxS, exists_eq', lt1p, tDNewK, rSlS, rEqNil, w2.kn _ _ f_q1, hz]
    refine ⟨p, l, z, c + 1, rfl, z0.1, by omega, w2.pool, by omega, fun u H3 u0 u1 hp3 off3 => ?_⟩
    have w3 := w2.turn hp3 (Off.s off3)
    refine ⟨by decide, ?_⟩
    intro q2 n_q2; generalize g_H4 : upd H3 q2 _ = H4; obtain ⟨s_H4, h_q2⟩ := new_facts n_q2 g_H4; clear g_H4; obtain ⟨G4, w_G4, k_G4, f_q2⟩ := w3.alloc n_q2 s_H4 h_q2
    refine ⟨p, l, 2, c + 2, rfl, by decide, by decide, w_G4.pool, by omega, fun x H5 x0 x1 hp5 off5 => ?_⟩
    have w5 := w_G4.turn hp5 (Off.s off5)
    obtain ⟨y, hy, my⟩ := pickI [1, -1] x0 x1
    simp only [List.map] at hy
    have y0 : y = 1 ∨ y = -1 := by simpa using my
    try simp only [tSeq, tNext, tRet, tRetN, tAsg, gName, gSub, tDrop, tIfS, tOp, tUn, tCB, tCons, tNil, tC, tVar, rI, rI0, rU, tAnd, tOr, tNot, tAndV, tOrV, tNotV, tIf, tTest, tB, tCall, tChain, tLst, tTup, tYes, rIxH, rIsB, rIsBT, rMulS, kd_non, kd_bl, kd_int, kd_str, kd_ref, kdO_lst, kdO_tup, kdO_dK, nq_n, nq_b, nq_i, nq_s, nq_l, nq_t, nq_d, ne_eq, not_false_eq_true, kit_ss, kit_ns, kit_bs, kit_is, kit_ls, kit_ts, kit_ds, kit_bb, V.ty.injEq, and_assoc, rIxU, rLenH, rLenU, rLenS, rInt1, rSetL, rEq, rNe, rCat, L2.start, List.map, List.length, List.length_cons, List.length_nil, List.replicate, List.getElem?_cons_zero, List.getElem?_cons_succ, List.set_cons_zero, List.set_cons_succ, List.set_nil, List.cons_append, List.nil_append, List.append_nil, Option.some.injEq, V.int.injEq, V.ref.injEq, V.str.injEq, V.bl.injEq, HO.lst.injEq, HO.tup.injEq, exists_eq_left', exists_and_left, exists_eq_left, List.cons.injEq, and_true, true_and, and_false, false_and, and_self, reduceCtorEq, exists_false, or_false, false_or, exists_const, at0, at1, at2, at3, at4, at5, ix51, ix52, ix54, upd_same, Nat.reduceAdd, Nat.reduceSub, Nat.zero_add, Int.reduceToNat, Int.reduceLE, Int.reduceLT, decide_eq_true_eq, Bool.not_eq_true, if_true, if_false, Bool.false_eq_true, ite_true, ite_false, Bool.not_true, Bool.not_false, decide_true, decide_false, tFor_eq, tLc_eq, iList, iTup, iRng1, iRng2, iStr, tSl, tPart, tNoPart, rSlL, cxOf_K, wipe, ex_ty2, kit_LTl, kit_LTt, kit_LTd, kit_LTs, kit_LTn, kit_LTb, kit_LTi, tM1, rIxS, exists_eq', lt1p, tDNewK, rSlS, rEqNil, w5.kn _ _ f_q2, hy]
    have eu : u.natAbs < 2 ^ 97 := Nat.lt_of_lt_of_le (m := 100000000000000000000000000000) (by omega) p97
    have ey : y.natAbs < 2 ^ 1 := by rcases y0 with rfl | rfl <;> decide
    refine ⟨mulw eu ey (by omega), k _ H5 ?_ hp5 ?_⟩
    · rw [Int.natAbs_mul]
      rcases y0 with rfl | rfl <;> simpa using eu
    · exact (((same_off s_H1).trans (Off.s off2)).trans (Off.s off3)).trans ((same_off s_H4).trans (Off.s off5))
theorem ok_pair (T : Txt K mg A) (gLawDraw : FnOk P w K mg base CX0 2 A.a_LawDraw A.d_LawDraw ["_law_pool_here", "_law_many"] spLawDraw) (gLawInteger : FnOk P w K mg base CX0 3 A.a_LawInteger A.d_LawInteger ["_law_pool_here"] spInteger) : FnOk P w K mg base CX0 4 A.a_LawPair A.d_LawPair ["_law_pool_here"] spPair := by
  refine T.f_LawPair.ok scLawPair (fun vs H Q E h => ?_) (fun cdv A' outer s H vs Q E hr h => ?_)
  · obtain ⟨p, l, c, rfl, _⟩ := h
    rfl
  · obtain ⟨p, l, c, rfl, hp, hc, k⟩ := h
    refine ⟨_, (pss_cons (ps_par (i := 1) (j := 2) (by rfl) scLawPair.nd rfl rfl (by decide) rfl rfl (pa_cons (pe_call gLawInteger (hr.mono (by decide)) (by rfl) T.m_LawInteger T.f_LawInteger.kp T.b_LawInteger .nil pass0 (pa_cons (pv 0) pa_nil)) (pa_cons (pe_op op_add pe_int (pe_callB call_abs (by rfl) T.z_abs (by decide +kernel) (pa_cons (pe_call gLawInteger (hr.mono (by decide)) (by rfl) T.m_LawInteger T.f_LawInteger.kp T.b_LawInteger .nil pass0 (pa_cons (pv 0) pa_nil)) pa_nil))) pa_nil)) (by rfl))
      (pss_cons (ps_set (i := 3) scLawPair.nd rfl (Or.inl rfl) (pe_ix ix_lstH (pe_lst (pa_cons pe_int (pa_cons pe_int (pa_cons pe_int (pa_cons pe_int pa_nil))))) (pe_call gLawDraw (hr.mono (by decide)) (by rfl) T.m_LawDraw T.f_LawDraw.kp T.b_LawDraw .nil pass0 (pa_cons (pv 0) (pa_cons pe_int pa_nil))) (fun _ _ => rfl)))
      (pss_one (ps_ret (pe_tup (pa_cons (pe_op op_mulW (pv 1) (pv 3)) (pa_cons (pe_op op_mulW (pe_op op_mulW (pv 2) (pv 3)) (pe_ix ix_lstH (pe_lst (pa_cons pe_int (pa_cons (pe_un un_neg pe_int) pa_nil))) (pe_call gLawDraw (hr.mono (by decide)) (by rfl) T.m_LawDraw T.f_LawDraw.kp T.b_LawDraw .nil pass0 (pa_cons (pv 0) (pa_cons pe_int pa_nil))) (fun _ _ => rfl))) pa_nil))))))), ?_⟩
    try simp only [tSeq, tNext, tRet, tRetN, tAsg, gName, gSub, tDrop, tIfS, tOp, tUn, tCB, tCons, tNil, tC, tVar, rI, rI0, rU, tAnd, tOr, tNot, tAndV, tOrV, tNotV, tIf, tTest, tB, tCall, tChain, tLst, tTup, tYes, rIxH, rIsB, rIsBT, rMulS, kd_non, kd_bl, kd_int, kd_str, kd_ref, kdO_lst, kdO_tup, kdO_dK, nq_n, nq_b, nq_i, nq_s, nq_l, nq_t, nq_d, ne_eq, not_false_eq_true, kit_ss, kit_ns, kit_bs, kit_is, kit_ls, kit_ts, kit_ds, kit_bb, V.ty.injEq, and_assoc, rIxU, rLenH, rLenU, rLenS, rInt1, rSetL, rEq, rNe, rCat, L2.start, List.map, List.length, List.length_cons, List.length_nil, List.replicate, List.getElem?_cons_zero, List.getElem?_cons_succ, List.set_cons_zero, List.set_cons_succ, List.set_nil, List.cons_append, List.nil_append, List.append_nil, Option.some.injEq, V.int.injEq, V.ref.injEq, V.str.injEq, V.bl.injEq, HO.lst.injEq, HO.tup.injEq, exists_eq_left', exists_and_left, exists_eq_left, List.cons.injEq, and_true, true_and, and_false, false_and, and_self, reduceCtorEq, exists_false, or_false, false_or, exists_const, at0, at1, at2, at3, at4, at5, ix51, ix52, ix54, upd_same, Nat.reduceAdd, Nat.reduceSub, Nat.zero_add, Int.reduceToNat, Int.reduceLE, Int.reduceLT, decide_eq_true_eq, Bool.not_eq_true, if_true, if_false, Bool.false_eq_true, ite_true, ite_false, Bool.not_true, Bool.not_false, decide_true, decide_false, tFor_eq, tLc_eq, iList, iTup, iRng1, iRng2, iStr, tSl, tPart, tNoPart, rSlL, cxOf_K, wipe, ex_ty2, kit_LTl, kit_LTt, kit_LTd, kit_LTs, kit_LTn, kit_LTb, kit_LTi, tM1, rIxS, exists_eq', lt1p, tDNewK, rSlS, rEqNil, tPar]
    have w0 := wd0 hp
    refine ⟨p, l, c, rfl, hp, by omega, fun i H1 hi hp1 off1 => ?_⟩
    have w1 := w0.turn hp1 off1
    refine ⟨p, l, c + 3, rfl, hp1, by omega, fun j H2 hj hp2 off2 => ?_⟩
    have w2 := w1.turn hp2 off2
    try simp only [tSeq, tNext, tRet, tRetN, tAsg, gName, gSub, tDrop, tIfS, tOp, tUn, tCB, tCons, tNil, tC, tVar, rI, rI0, rU, tAnd, tOr, tNot, tAndV, tOrV, tNotV, tIf, tTest, tB, tCall, tChain, tLst, tTup, tYes, rIxH, rIsB, rIsBT, rMulS, kd_non, kd_bl, kd_int, kd_str, kd_ref, kdO_lst, kdO_tup, kdO_dK, nq_n, nq_b, nq_i, nq_s, nq_l, nq_t, nq_d, ne_eq, not_false_eq_true, kit_ss, kit_ns, kit_bs, kit_is, kit_ls, kit_ts, kit_ds, kit_bb, V.ty.injEq, and_assoc, rIxU, rLenH, rLenU, rLenS, rInt1, rSetL, rEq, rNe, rCat, L2.start, List.map, List.length, List.length_cons, List.length_nil, List.replicate, List.getElem?_cons_zero, List.getElem?_cons_succ, List.set_cons_zero, List.set_cons_succ, List.set_nil, List.cons_append, List.nil_append, List.append_nil, Option.some.injEq, V.int.injEq, V.ref.injEq, V.str.injEq, V.bl.injEq, HO.lst.injEq, HO.tup.injEq, exists_eq_left', exists_and_left, exists_eq_left, List.cons.injEq, and_true, true_and, and_false, false_and, and_self, reduceCtorEq, exists_false, or_false, false_or, exists_const, at0, at1, at2, at3, at4, at5, ix51, ix52, ix54, upd_same, Nat.reduceAdd, Nat.reduceSub, Nat.zero_add, Int.reduceToNat, Int.reduceLE, Int.reduceLT, decide_eq_true_eq, Bool.not_eq_true, if_true, if_false, Bool.false_eq_true, ite_true, ite_false, Bool.not_true, Bool.not_false, decide_true, decide_false, tFor_eq, tLc_eq, iList, iTup, iRng1, iRng2, iStr, tSl, tPart, tNoPart, rSlL, cxOf_K, wipe, ex_ty2, kit_LTl, kit_LTt, kit_LTd, kit_LTs, kit_LTn, kit_LTb, kit_LTi, tM1, rIxS, exists_eq', lt1p, tDNewK, rSlS, rEqNil, tPar]
    refine ⟨by decide, ?_⟩
    intro q1 n_q1; generalize g_H3 : upd H2 q1 _ = H3; obtain ⟨s_H3, h_q1⟩ := new_facts n_q1 g_H3; clear g_H3; obtain ⟨G3, w_G3, k_G3, f_q1⟩ := w2.alloc n_q1 s_H3 h_q1
    refine ⟨p, l, 4, c + 6, rfl, by decide, by decide, w_G3.pool, by omega, fun v H4 v0 v1 hp4 off4 => ?_⟩
    have w4 := w_G3.turn hp4 (Off.s off4)
    obtain ⟨z, hz, mz⟩ := pickI [1, 1, 2, 6] v0 v1
    simp only [List.map] at hz
    have z0 : 0 < z ∧ z ≤ 6 := by
      simp only [List.mem_cons, List.not_mem_nil, or_false] at mz
      rcases mz with rfl | rfl | rfl | rfl <;> decide
    have ez : z.natAbs < 2 ^ 3 := by omega
    have ej : (1 + if j < 0 then -j else j).natAbs < 2 ^ 98 := by
      have : (2 : Nat) ^ 98 = 2 ^ 97 + 2 ^ 97 := by decide
      split <;> omega
    have c1 : CMulW i z := mulw hi ez (by omega)
    have c2 : CMulW (1 + if j < 0 then -j else j) z := mulw ej ez (by omega)
    try simp only [tSeq, tNext, tRet, tRetN, tAsg, gName, gSub, tDrop, tIfS, tOp, tUn, tCB, tCons, tNil, tC, tVar, rI, rI0, rU, tAnd, tOr, tNot, tAndV, tOrV, tNotV, tIf, tTest, tB, tCall, tChain, tLst, tTup, tYes, rIxH, rIsB, rIsBT, rMulS, kd_non, kd_bl, kd_int, kd_str, kd_ref, kdO_lst, kdO_tup, kdO_dK, nq_n, nq_b, nq_i, nq_s, nq_l, nq_t, nq_d, ne_eq, not_false_eq_true, kit_ss, kit_ns, kit_bs, kit_is, kit_ls, kit_ts, kit_ds, kit_bb, V.ty.injEq, and_assoc, rIxU, rLenH, rLenU, rLenS, rInt1, rSetL, rEq, rNe, rCat, L2.start, List.map, List.length, List.length_cons, List.length_nil, List.replicate, List.getElem?_cons_zero, List.getElem?_cons_succ, List.set_cons_zero, List.set_cons_succ, List.set_nil, List.cons_append, List.nil_append, List.append_nil, Option.some.injEq, V.int.injEq, V.ref.injEq, V.str.injEq, V.bl.injEq, HO.lst.injEq, HO.tup.injEq, exists_eq_left', exists_and_left, exists_eq_left, List.cons.injEq, and_true, true_and, and_false, false_and, and_self, reduceCtorEq, exists_false, or_false, false_or, exists_const, at0, at1, at2, at3, at4, at5, ix51, ix52, ix54, upd_same, Nat.reduceAdd, Nat.reduceSub, Nat.zero_add, Int.reduceToNat, Int.reduceLE, Int.reduceLT, decide_eq_true_eq, Bool.not_eq_true, if_true, if_false, Bool.false_eq_true, ite_true, ite_false, Bool.not_true, Bool.not_false, decide_true, decide_false, tFor_eq, tLc_eq, iList, iTup, iRng1, iRng2, iStr, tSl, tPart, tNoPart, rSlL, cxOf_K, wipe, ex_ty2, kit_LTl, kit_LTt, kit_LTd, kit_LTs, kit_LTn, kit_LTb, kit_LTi, tM1, rIxS, exists_eq', lt1p, tDNewK, rSlS, rEqNil, w4.kn _ _ f_q1, hz, c1, c2]
    refine ⟨by decide, ?_⟩
    intro q2 n_q2; generalize g_H5 : upd H4 q2 _ = H5; obtain ⟨s_H5, h_q2⟩ := new_facts n_q2 g_H5; clear g_H5; obtain ⟨G5, w_G5, k_G5, f_q2⟩ := w4.alloc n_q2 s_H5 h_q2
    refine ⟨p, l, 2, c + 7, rfl, by decide, by decide, w_G5.pool, by omega, fun x H6 x0 x1 hp6 off6 => ?_⟩
    have w6 := w_G5.turn hp6 (Off.s off6)
    obtain ⟨y, hy, my⟩ := pickI [1, -1] x0 x1
    simp only [List.map] at hy
    have y0 : y = 1 ∨ y = -1 := by simpa using my
    have ey : y.natAbs < 2 ^ 1 := by rcases y0 with rfl | rfl <;> decide
    have ejz := abs_mul ej ez
    have c3 : CMulW ((1 + if j < 0 then -j else j) * z) y := mulw ejz ey (by omega)
    try simp only [tSeq, tNext, tRet, tRetN, tAsg, gName, gSub, tDrop, tIfS, tOp, tUn, tCB, tCons, tNil, tC, tVar, rI, rI0, rU, tAnd, tOr, tNot, tAndV, tOrV, tNotV, tIf, tTest, tB, tCall, tChain, tLst, tTup, tYes, rIxH, rIsB, rIsBT, rMulS, kd_non, kd_bl, kd_int, kd_str, kd_ref, kdO_lst, kdO_tup, kdO_dK, nq_n, nq_b, nq_i, nq_s, nq_l, nq_t, nq_d, ne_eq, not_false_eq_true, kit_ss, kit_ns, kit_bs, kit_is, kit_ls, kit_ts, kit_ds, kit_bb, V.ty.injEq, and_assoc, rIxU, rLenH, rLenU, rLenS, rInt1, rSetL, rEq, rNe, rCat, L2.start, List.map, List.length, List.length_cons, List.length_nil, List.replicate, List.getElem?_cons_zero, List.getElem?_cons_succ, List.set_cons_zero, List.set_cons_succ, List.set_nil, List.cons_append, List.nil_append, List.append_nil, Option.some.injEq, V.int.injEq, V.ref.injEq, V.str.injEq, V.bl.injEq, HO.lst.injEq, HO.tup.injEq, exists_eq_left', exists_and_left, exists_eq_left, List.cons.injEq, and_true, true_and, and_false, false_and, and_self, reduceCtorEq, exists_false, or_false, false_or, exists_const, at0, at1, at2, at3, at4, at5, ix51, ix52, ix54, upd_same, Nat.reduceAdd, Nat.reduceSub, Nat.zero_add, Int.reduceToNat, Int.reduceLE, Int.reduceLT, decide_eq_true_eq, Bool.not_eq_true, if_true, if_false, Bool.false_eq_true, ite_true, ite_false, Bool.not_true, Bool.not_false, decide_true, decide_false, tFor_eq, tLc_eq, iList, iTup, iRng1, iRng2, iStr, tSl, tPart, tNoPart, rSlL, cxOf_K, wipe, ex_ty2, kit_LTl, kit_LTt, kit_LTd, kit_LTs, kit_LTn, kit_LTb, kit_LTi, tM1, rIxS, exists_eq', lt1p, tDNewK, rSlS, rEqNil, w6.kn _ _ f_q2, hy, c3]
    refine ⟨by decide, fun q3 n3 => ?_⟩
    have jz : (1 + if j < 0 then -j else j).natAbs * z.natAbs < 2 ^ 100 := by
      have h1 : (1 + if j < 0 then -j else j).natAbs ≤ 2 ^ 97 := by split <;> omega
      exact Nat.lt_of_le_of_lt (Nat.mul_le_mul h1 (by omega : z.natAbs ≤ 6)) p97'
    have off : OffS p l H H6 := ((off1.trans off2).trans ((same_off s_H3).trans (Off.s off4))).trans ((same_off s_H5).trans (Off.s off6))
    have np := hp6.np n3
    refine k q3 _ _ _ ?_ upd_same ?_ ?_ ?_ ?_ ?_
    · cases e : H q3 with
      | none => rfl
      | some o =>
        rw [off q3 o np.1 np.2 e] at n3
        cases n3
    · have h1 : (1 + if j < 0 then -j else j) ≠ 0 := by split <;> omega
      exact Int.mul_ne_zero (Int.mul_ne_zero h1 (by omega)) (by rcases y0 with rfl | rfl <;> decide)
    · rw [Int.natAbs_mul]
      exact Nat.lt_of_le_of_lt (Nat.mul_le_mul (Nat.le_of_lt hi) (by omega : z.natAbs ≤ 6)) p97'
    · rw [Int.natAbs_mul, Int.natAbs_mul]
      rcases y0 with rfl | rfl <;> simpa using jz
    · exact hp6.same (same_new n3)
    · exact off.trans (same_off (same_new n3))
end

/-! ### k03: lowest terms, comparisons told -/
def sgnB (p q : Rat) : List Bool := [decide (p < q), decide (p ≤ q), decide (q < p), decide (q ≤ p), decide (p = q), !decide (p = q)]
def rt (q : Rat) : HO := .tup [.int q.num, .int q.den]
theorem lowest_num {u l : Int} {g : Nat} (hl : 0 < l) (hg : g = Int.gcd u l) : u.fdiv (g : Int) = (Rat.divInt u l).num ∧ l.fdiv (g : Int) = ((Rat.divInt u l).den : Int) := by
  have e : dv u l = (g : Int) := by
    unfold dv
    rw [if_neg (by omega), hg]
  rw [← e]
  exact ⟨num_of (by omega), den_of (by omega)⟩
def spLowest : Sp := fun vs H Q _ => ∃ u l : Int, vs = [.int u, .int l] ∧ 0 < l ∧ l.natAbs < 2 ^ 9000 ∧ ∀ a, H a = none → Q (.ref a) (upd H a (rt (Rat.divInt u l)))
def LowP (u l : Int) (H : Hp) : St → Hp → Prop := fun σ H' => ∃ a c : Int, σ = [some (.int u), some (.int l), some (.int a), some (.int c)] ∧ 0 ≤ a ∧ 0 ≤ c ∧ Int.gcd a c = Int.gcd u l ∧ H' = H
def lowM : St → Hp → Nat := fun σ _ => match σ with
  | [_, _, _, some (.int c)] => c.toNat
  | _ => 0
theorem gcd_step2 {a c : Int} (ha : 0 ≤ a) (hc : 0 ≤ c) : Int.gcd c (a % c) = Int.gcd a c := by
  rw [Int.gcd_comm, gcd_step hc ha, Int.gcd_comm]
section
variable {P : Program} {w : World} {K : PySem.W.Frag} {mg : Str → Option Value} {base : Heap} {A : Adr}
theorem ok_lowest (T : Txt K mg A) : FnOk P w K mg base CX0 1 A.a_LawLowest A.d_LawLowest ["_law_upper", "_law_lower"] spLowest := by
  refine T.f_LawLowest.ok scLawLowest (fun vs H Q E h => ?_) (fun cdv A' outer s H vs Q E hr h => ?_)
  · obtain ⟨u, l, rfl, _⟩ := h
    rfl
  · obtain ⟨u, l, rfl, hl, hb, k⟩ := h
    refine ⟨_, (pss_cons (ps_par (i := 2) (j := 3) (by rfl) scLawLowest.nd rfl rfl (by decide) rfl rfl (pa_cons (pe_callB call_abs (by rfl) T.z_abs (by decide +kernel) (pa_cons (pv 0) pa_nil)) (pa_cons (pv 1) pa_nil)) (by rfl))
      (pss_cons (ps_while PassesOwn.never (pt_cmpR (op_gt) (pv 3) pe_int (nomark _)) (pss_one (ps_par (i := 2) (j := 3) (by rfl) scLawLowest.nd rfl rfl (by decide) rfl rfl (pa_cons (pv 3) (pa_cons (pe_op op_mod (pe_callTy call_intI (by rfl) T.z_int (by decide +kernel) (pa_cons (pv 2) pa_nil)) (pv 3)) pa_nil)) (by rfl))))
      (pss_one (ps_ret (pe_tup (pa_cons (pe_op op_fdivZ (pv 0) (pv 2)) (pa_cons (pe_op op_fdivZ (pv 1) (pv 2)) pa_nil))))))), ?_⟩
    refine ⟨_, rfl, _, rfl, _, rfl, _, _, rfl, ?_⟩
    refine while_by (LowP u l H) lowM ⟨_, _, rfl, ?_, by omega, ?_, rfl⟩ ?_ ?_
    · split <;> omega
    · split
      · rw [Int.neg_gcd]
      · rfl
    · rintro σ H' ⟨a, c, rfl, ha, hc, hg, rfl⟩
      refine ⟨_, rfl, _, _, rfl, rfl, _, rfl, ?_⟩
      show ite (decide (0 < c) = true) _ _
      by_cases h0 : 0 < c
      · rw [if_pos (decide_eq_true h0)]
        refine ⟨_, rfl, _, rfl, _, rfl, _, rfl, _, _, rfl, rfl, h0, _, _, rfl, ?_⟩
        refine ⟨⟨c, a % c, rfl, hc, Int.emod_nonneg _ (by omega), by rw [gcd_step2 ha hc]; exact hg, rfl⟩, ?_⟩
        show (a % c).toNat < c.toNat
        have := Int.emod_lt_of_pos a h0
        omega
      · rw [if_neg (by simpa using h0)]
        have c0 : c = 0 := by omega
        subst c0
        rw [Int.gcd_zero] at hg
        have ea : a = ((a.natAbs : Nat) : Int) := by omega
        have gp : 0 < Int.gcd u l := gcd_pos_of (by omega)
        obtain ⟨e1, e2⟩ := lowest_num hl hg
        rw [← ea] at e1 e2
        have bd : a.natAbs < 2 ^ 9000 := Nat.lt_of_le_of_lt (by rw [hg]; exact Nat.le_of_dvd (by omega) (Int.gcd_dvd_natAbs_right u l)) hb
        have cd : CDivZ u a := ⟨by omega, log2_of bd (Nat.le_refl _)⟩
        have cd2 : CDivZ l a := ⟨by omega, log2_of bd (Nat.le_refl _)⟩
        refine ⟨_, rfl, _, rfl, _, _, rfl, rfl, cd, _, rfl, _, rfl, _, _, rfl, rfl, cd2, (by show 2 ≤ sizeLine; decide), fun p hp => ?_⟩
        show Q (.ref p) (upd H' p (.tup [.int (u.fdiv a), .int (l.fdiv a)]))
        rw [e1, e2]
        exact k p hp
    · rintro σ H' Q1 Q2 h ⟨v, e, i, j, e1, e2, l, e3, q⟩
      exact ⟨v, e, i, j, e1, e2, l, e3, h _ _ q⟩
def Two (C : Addr) (H : Hp) (x y : V) (p q : Rat) (n m : Nat) : Prop := (RatAt C H x p n ∧ NumAt C H y q m) ∨ ((∃ i : Int, x = .int i ∧ p = i) ∧ Bd n p ∧ RatAt C H y q m)
theorem Two.same {C : Addr} {H H' : Hp} {x y : V} {p q : Rat} {n m : Nat} (h : Two C H x y p q n m) (s : Same H H') : Two C H' x y p q n m := by
  rcases h with ⟨h1, h2⟩ | ⟨h1, h2, h3⟩
  · exact .inl ⟨h1.same s, h2.same s⟩
  · exact .inr ⟨h1, h2, h3.same s⟩
def spSigns (C : Addr) : Sp := fun vs H Q _ => ∃ x y p q n m, vs = [x, y] ∧ Two C H x y p q n m ∧ n + m ≤ 9000 ∧ ∀ H' a, Same H H' → H a = none → H' a = some (.lst ((sgnB p q).map V.bl)) → Q (.ref a) H'
theorem ev_two {C : Addr} {r r' : Rat → Rat → Bool} {E E' : XK} {sp sp' : Sp} {σ : St} {H : Hp} {x y : V} {p q : Rat} {n m : Nat} (h0 : σ[0]? = some (some x)) (h1 : σ[1]? = some (some y)) (ht : Two C H x y p q n m) (hn : n + m ≤ 9000) (hr : r' q p = r p q)
    (hs : ∀ vs H Q E, spCmp C r vs H Q E → sp vs H Q E) (hs' : ∀ vs H Q E, spCmp C r' vs H Q E → sp' vs H Q E) :
    EvB (tOp (rOr (rOwn C sp E) (rOwnI C sp' E')) (tVar 0) (tVar 1)) σ H (r p q) := fun H1 s1 Q k => by
  refine ⟨x, h0, y, h1, ?_⟩
  rcases ht.same s1 with ⟨hx, hy⟩ | ⟨⟨i, rfl, rfl⟩, hb, hy⟩
  · obtain ⟨⟨a, dx, rfl, ha⟩, _⟩ := id hx
    exact .inl ⟨a, dx, _, rfl, ha, hy.own, hs _ _ _ _ ⟨_, _, p, q, n, m, rfl, hx, hy, hn, fun H4 s4 => k H4 s4⟩⟩
  · obtain ⟨⟨a, dx, rfl, ha⟩, _⟩ := id hy
    refine .inr ⟨i, a, dx, _, rfl, rfl, ha, hs' _ _ _ _ ⟨_, _, q, i, m, n, rfl, hy, .inr ⟨⟨i, rfl, rfl⟩, hb⟩, by omega, fun H4 s4 => ?_⟩⟩
    rw [hr]
    exact k H4 s4
theorem list6 {σ : St} {H : Hp} {t1 t2 t3 t4 t5 t6 : TE} {b1 b2 b3 b4 b5 b6 : Bool} {Q : VK} (h1 : EvB t1 σ H b1) (h2 : EvB t2 σ H b2) (h3 : EvB t3 σ H b3) (h4 : EvB t4 σ H b4) (h5 : EvB t5 σ H b5) (h6 : EvB t6 σ H b6)
    (k : ∀ H' a, Same H H' → H a = none → H' a = some (.lst ([b1, b2, b3, b4, b5, b6].map V.bl)) → Q (.ref a) H') : tLst (tCons t1 (tCons t2 (tCons t3 (tCons t4 (tCons t5 (tCons t6 tNil)))))) σ H Q :=
  h1 H (Same.refl _) _ fun H1 s1 => h2 H1 s1 _ fun H2 s2 => h3 H2 (s1.trans s2) _ fun H3 s3 => h4 H3 ((s1.trans s2).trans s3) _ fun H4 s4 => h5 H4 (((s1.trans s2).trans s3).trans s4) _ fun H5 s5 => h6 H5 ((((s1.trans s2).trans s3).trans s4).trans s5) _ fun H6 s6 => by
    have s := ((((s1.trans s2).trans s3).trans s4).trans s5).trans s6
    exact ⟨(by show 6 ≤ sizeLine; decide), fun p hp => k _ p (s.trans (same_new hp)) (s.free hp) upd_same⟩
theorem ok_signs (T : Txt K mg A) (gRatioLt : FnOk P w K mg base CX0 5 A.a_RatioLt A.d_RatioLt ["self", "other"] (spCmp A.k_Ratio (fun p q => decide (p < q)))) (gRatioLe : FnOk P w K mg base CX0 5 A.a_RatioLe A.d_RatioLe ["self", "other"] (spCmp A.k_Ratio (fun p q => decide (p ≤ q))))
    (gRatioGt : FnOk P w K mg base CX0 5 A.a_RatioGt A.d_RatioGt ["self", "other"] (spCmp A.k_Ratio (fun p q => decide (q < p)))) (gRatioGe : FnOk P w K mg base CX0 5 A.a_RatioGe A.d_RatioGe ["self", "other"] (spCmp A.k_Ratio (fun p q => decide (q ≤ p))))
    (gRatioEq : FnOk P w K mg base CX0 5 A.a_RatioEq A.d_RatioEq ["self", "other"] (spCmpA A.k_Ratio (fun p q => decide (p = q)) false)) (gRatioNe : FnOk P w K mg base CX0 5 A.a_RatioNe A.d_RatioNe ["self", "other"] (spCmpA A.k_Ratio (fun p q => !decide (p = q)) true)) :
    FnOk P w K mg base CX0 6 A.a_LawSigns A.d_LawSigns ["_law_one", "_law_other"] (spSigns A.k_Ratio) := by
  refine T.f_LawSigns.ok scLawSigns (fun vs H Q E h => ?_) (fun cdv A' outer s H vs Q E hr h => ?_)
  · obtain ⟨x, y, p, q, n, m, rfl, _⟩ := h
    rfl
  · obtain ⟨x, y, p, q, n, m, rfl, ht, hn, k⟩ := h
    refine ⟨_, (pss_one (ps_ret (pe_lst (pa_cons (pe_cmpR (opOr (op_ownC (fun _ _ => rfl) T.o_RatioLt gRatioLt (hr.mono (by decide)) T.b_RatioLt pass0) (op_ownCI int_lt T.r_RatioGt gRatioGt (hr.mono (by decide)) T.b_RatioGt pass0)) (pv 0) (pv 1) (nomark _)) (pa_cons (pe_cmpR (opOr (op_ownC (fun _ _ => rfl) T.o_RatioLe gRatioLe (hr.mono (by decide)) T.b_RatioLe pass0) (op_ownCI int_le T.r_RatioGe gRatioGe (hr.mono (by decide)) T.b_RatioGe pass0)) (pv 0) (pv 1) (nomark _)) (pa_cons (pe_cmpR (opOr (op_ownC (fun _ _ => rfl) T.o_RatioGt gRatioGt (hr.mono (by decide)) T.b_RatioGt pass0) (op_ownCI int_gt T.r_RatioLt gRatioLt (hr.mono (by decide)) T.b_RatioLt pass0)) (pv 0) (pv 1) (nomark _)) (pa_cons (pe_cmpR (opOr (op_ownC (fun _ _ => rfl) T.o_RatioGe gRatioGe (hr.mono (by decide)) T.b_RatioGe pass0) (op_ownCI int_ge T.r_RatioLe gRatioLe (hr.mono (by decide)) T.b_RatioLe pass0)) (pv 0) (pv 1) (nomark _)) (pa_cons (pe_cmpR (opOr (op_ownC (fun _ _ => rfl) T.o_RatioEq gRatioEq (hr.mono (by decide)) T.b_RatioEq pass0) (op_ownCI int_eq T.r_RatioEq gRatioEq (hr.mono (by decide)) T.b_RatioEq pass0)) (pv 0) (pv 1) (nomark _)) (pa_cons (pe_cmpR (opOr (op_ownC (fun _ _ => rfl) T.o_RatioNe gRatioNe (hr.mono (by decide)) T.b_RatioNe pass0) (op_ownCI int_ne T.r_RatioNe gRatioNe (hr.mono (by decide)) T.b_RatioNe pass0)) (pv 0) (pv 1) (nomark _)) pa_nil))))))))), ?_⟩
    refine list6 (b1 := decide (p < q)) (b2 := decide (p ≤ q)) (b3 := decide (q < p)) (b4 := decide (q ≤ p)) (b5 := decide (p = q)) (b6 := !decide (p = q)) ?_ ?_ ?_ ?_ ?_ ?_ k
    · exact ev_two (r := fun p q => decide (p < q)) (r' := fun p q => decide (q < p)) rfl rfl ht hn rfl (fun _ _ _ _ h => h) (fun _ _ _ _ h => h)
    · exact ev_two (r := fun p q => decide (p ≤ q)) (r' := fun p q => decide (q ≤ p)) rfl rfl ht hn rfl (fun _ _ _ _ h => h) (fun _ _ _ _ h => h)
    · exact ev_two (r := fun p q => decide (q < p)) (r' := fun p q => decide (p < q)) rfl rfl ht hn rfl (fun _ _ _ _ h => h) (fun _ _ _ _ h => h)
    · exact ev_two (r := fun p q => decide (q ≤ p)) (r' := fun p q => decide (p ≤ q)) rfl rfl ht hn rfl (fun _ _ _ _ h => h) (fun _ _ _ _ h => h)
    · exact ev_two (r := fun p q => decide (p = q)) (r' := fun p q => decide (p = q)) rfl rfl ht hn (decide_eq_decide.mpr eq_comm) (fun _ _ _ _ h => .inl h) (fun _ _ _ _ h => .inl h)
    · exact ev_two (r := fun p q => !decide (p = q)) (r' := fun p q => !decide (p = q)) rfl rfl ht hn (by show (!decide (q = p)) = !decide (p = q); rw [decide_eq_decide.mpr eq_comm]) (fun _ _ _ _ h => .inl h) (fun _ _ _ _ h => .inl h)
def spDue : Sp := fun vs H Q _ => ∃ (a b : Addr) (p q : Rat) (n m : Nat), vs = [.ref a, .ref b] ∧ H a = some (rt p) ∧ H b = some (rt q) ∧ Bd n p ∧ Bd m q ∧ n + m ≤ 9000 ∧ ∀ c, H c = none → Q (.ref c) (upd H c (.lst ((sgnB p q).map V.bl)))
theorem crossEq (p q : Rat) : (p.num * q.den = q.num * p.den) = (p = q) := by
  apply propext
  constructor
  · intro h
    have h1 : p ≤ q := by rw [← le_num]; omega
    have h2 : q ≤ p := by rw [← le_num]; omega
    exact Rat.le_antisymm h1 h2
  · rintro rfl
    rfl
theorem ok_due (T : Txt K mg A) : FnOk P w K mg base CX0 1 A.a_LawDue A.d_LawDue ["_law_first", "_law_second"] spDue := by
  refine T.f_LawDue.ok scLawDue (fun vs H Q E h => ?_) (fun cdv A' outer s H vs Q E hr h => ?_)
  · obtain ⟨a, b, p, q, n, m, rfl, _⟩ := h
    rfl
  · obtain ⟨a, b, p, q, n, m, rfl, ha, hb, bp, bq, hn, k⟩ := h
    refine ⟨_, (pss_cons (ps_par (i := 2) (j := 3) (by rfl) scLawDue.nd rfl rfl (by decide) rfl rfl (pa_cons (pe_op op_mulW (pe_ix ix_tupH (pv 0) pe_int (fun _ _ => rfl)) (pe_ix ix_tupH (pv 1) pe_int (fun _ _ => rfl))) (pa_cons (pe_op op_mulW (pe_ix ix_tupH (pv 1) pe_int (fun _ _ => rfl)) (pe_ix ix_tupH (pv 0) pe_int (fun _ _ => rfl))) pa_nil)) (by rfl))
      (pss_one (ps_ret (pe_lst (pa_cons (pe_cmpR (op_lt) (pv 2) (pv 3) (nomark _)) (pa_cons (pe_cmpR (op_le) (pv 2) (pv 3) (nomark _)) (pa_cons (pe_cmpR (op_gt) (pv 2) (pv 3) (nomark _)) (pa_cons (pe_cmpR (op_ge) (pv 2) (pv 3) (nomark _)) (pa_cons (pe_cmpR (op_eq) (pv 2) (pv 3) (nomark _)) (pa_cons (pe_cmpR (op_ne) (pv 2) (pv 3) (nomark _)) pa_nil)))))))))), ?_⟩
    obtain ⟨c1, c2, c3, c4, c5⟩ := mulws bp bq (by omega)
    unfold rt at ha hb
    try simp only [tSeq, tNext, tRet, tRetN, tAsg, gName, gSub, tDrop, tIfS, tOp, tUn, tCB, tCons, tNil, tC, tVar, rI, rI0, rU, tAnd, tOr, tNot, tAndV, tOrV, tNotV, tIf, tTest, tB, tCall, tChain, tLst, tTup, tYes, rIxH, rIsB, rIsBT, rMulS, kd_non, kd_bl, kd_int, kd_str, kd_ref, kdO_lst, kdO_tup, kdO_dK, nq_n, nq_b, nq_i, nq_s, nq_l, nq_t, nq_d, ne_eq, not_false_eq_true, kit_ss, kit_ns, kit_bs, kit_is, kit_ls, kit_ts, kit_ds, kit_bb, V.ty.injEq, and_assoc, rIxU, rLenH, rLenU, rLenS, rInt1, rSetL, rEq, rNe, rCat, L2.start, List.map, List.length, List.length_cons, List.length_nil, List.replicate, List.getElem?_cons_zero, List.getElem?_cons_succ, List.set_cons_zero, List.set_cons_succ, List.set_nil, List.cons_append, List.nil_append, List.append_nil, Option.some.injEq, V.int.injEq, V.ref.injEq, V.str.injEq, V.bl.injEq, HO.lst.injEq, HO.tup.injEq, exists_eq_left', exists_and_left, exists_eq_left, List.cons.injEq, and_true, true_and, and_false, false_and, and_self, reduceCtorEq, exists_false, or_false, false_or, exists_const, at0, at1, at2, at3, at4, at5, ix51, ix52, ix54, upd_same, Nat.reduceAdd, Nat.reduceSub, Nat.zero_add, Int.reduceToNat, Int.reduceLE, Int.reduceLT, decide_eq_true_eq, Bool.not_eq_true, if_true, if_false, Bool.false_eq_true, ite_true, ite_false, Bool.not_true, Bool.not_false, decide_true, decide_false, tFor_eq, tLc_eq, iList, iTup, iRng1, iRng2, iStr, tSl, tPart, tNoPart, rSlL, cxOf_K, wipe, ex_ty2, kit_LTl, kit_LTt, kit_LTd, kit_LTs, kit_LTn, kit_LTb, kit_LTi, tM1, rIxS, exists_eq', lt1p, tDNewK, rSlS, rEqNil, tPar, ha, hb, c1, c2, scal_int]
    refine ⟨by decide, fun c hc => ?_⟩
    have k2 := k c hc
    unfold sgnB at k2
    simp only [lt_num, le_num, crossEq]
    exact k2
end



def rtA (H : Hp) (v : V) (p : Rat) : Prop := ∃ a, v = .ref a ∧ H a = some (rt p)
theorem rtA.same {H H' : Hp} {v : V} {p : Rat} (h : rtA H v p) (s : Same H H') : rtA H' v p := by
  obtain ⟨a, e, h⟩ := h
  exact ⟨a, e, s _ _ h⟩
/-- a row of _law_some: two lists of the same truths -/
def RowA (H : Hp) (v : V) : Prop := ∃ r a b, v = .ref r ∧ H r = some (.lst [.ref a, .ref b]) ∧ ∃ x xs, H a = some (.lst ((x :: xs).map V.bl)) ∧ H b = some (.lst ((x :: xs).map V.bl)) ∧ (reprBs (x :: xs)).length ≤ sizeLine
theorem RowA.same {H H' : Hp} {v : V} (h : RowA H v) (s : Same H H') : RowA H' v := by
  obtain ⟨r, a, b, e, h1, x, xs, h2, h3, h4⟩ := h
  exact ⟨r, a, b, e, s _ _ h1, x, xs, s _ _ h2, s _ _ h3, h4⟩
theorem repr6 (p q : Rat) : (reprBs (sgnB p q)).length ≤ sizeLine := by
  unfold sgnB
  generalize decide (p < q) = a
  generalize decide (p ≤ q) = b
  generalize decide (q < p) = c
  generalize decide (q ≤ p) = d
  generalize decide (p = q) = e
  refine size1000 ?_
  cases a <;> cases b <;> cases c <;> cases d <;> cases e <;> decide +kernel
theorem repr2 (a b : Bool) : (reprBs [a, b]).length ≤ sizeLine := by
  refine size1000 ?_
  cases a <;> cases b <;> decide +kernel
theorem row_mk {H H2 : Hp} {a c r : Addr} {p q : Rat} (h4 : H a = some (.lst ((sgnB p q).map V.bl))) (nc : H c = none) (nr : upd H c (.lst ((sgnB p q).map V.bl)) r = none) (e : upd (upd H c (.lst ((sgnB p q).map V.bl))) r (.lst [.ref a, .ref c]) = H2) :
    Same H H2 ∧ RowA H2 (.ref r) := by
  obtain ⟨s3, hc⟩ := new_facts nc rfl
  obtain ⟨s4, hr⟩ := new_facts nr e
  exact ⟨s3.trans s4, r, a, c, rfl, hr, _, _, s4 _ _ (s3 _ _ h4), s4 _ _ hc, repr6 p q⟩
/-- the same, seen without what stands at L -/
def off (H : Hp) (L : Addr) : Hp := fun b => if b = L then none else H b
theorem off_same {H : Hp} {L : Addr} : Same (off H L) H := fun b o e => by
  unfold off at e
  split at e
  · cases e
  · exact e
theorem off_to {H H' : Hp} {L : Addr} (h : ∀ b o, b ≠ L → H b = some o → H' b = some o) : Same (off H L) (off H' L) := fun b o e => by
  unfold off at e ⊢
  by_cases z : b = L
  · rw [if_pos z] at e
    cases e
  · rw [if_neg z] at e ⊢
    exact h b o z e
theorem off_none {H : Hp} {L : Addr} (h : H L = none) : off H L = H := by
  funext b
  unfold off
  by_cases z : b = L
  · rw [if_pos z, z, h]
  · rw [if_neg z]
theorem off_at {H : Hp} {L b : Addr} {o : HO} (h : H b = some o) (n : b ≠ L) : off H L b = some o := by
  unfold off
  rw [if_neg n]
  exact h
theorem row_mkL {H0 H H2 : Hp} {L a c r : Addr} {o : HO} {p q : Rat} (hL : H0 L = some o) (na : H0 a = none) (s : Same H0 H) (h4 : H a = some (.lst ((sgnB p q).map V.bl))) (nc : H c = none) (nr : upd H c (.lst ((sgnB p q).map V.bl)) r = none) (e : upd (upd H c (.lst ((sgnB p q).map V.bl))) r (.lst [.ref a, .ref c]) = H2) :
    RowA (off H2 L) (.ref r) := by
  obtain ⟨s3, hc⟩ := new_facts nc rfl
  obtain ⟨s4, hr⟩ := new_facts nr e
  have h1 := s _ _ hL
  have n1 : a ≠ L := (ne_of_none hL na).symm
  have n2 : c ≠ L := (ne_of_none h1 nc).symm
  have n3 : r ≠ L := (ne_of_none (s3 _ _ h1) nr).symm
  exact ⟨r, a, c, rfl, off_at hr n3, _, _, off_at (s4 _ _ (s3 _ _ h4)) n1, off_at (s4 _ _ hc) n2, repr6 p q⟩
/-- appended to what stands at L -/
theorem app_off {H H1 : Hp} {L : Addr} {o : HO} (e : upd H L o = H1) : (∀ b u, b ≠ L → H b = some u → H1 b = some u) ∧ H1 L = some o := by
  subst e
  exact ⟨fun b u n h => by rw [upd_ne n]; exact h, upd_same⟩
def spRight : Sp := fun vs H Q _ => ∃ (a b : V) (i : Int) (p q : Rat), vs = [a, b, .int i] ∧ rtA H a p ∧ rtA H b q ∧ Bd 110 p ∧ Bd 110 q ∧ Bd 110 (i : Rat) ∧ ∀ H', Same H H' → Q (.bl true) H'
theorem rt_at {H : Hp} {a : Addr} {p : Rat} (h : H a = some (rt p)) : H a = some (.tup [.int p.num, .int p.den]) := h
section
variable {P : Program} {w : World} {K : PySem.W.Frag} {mg : Str → Option Value} {base : Heap} {A : Adr}
theorem ok_right (T : Txt K mg A) (gRatioInit : FnOk P w K mg base CX0 2 A.a_RatioInit A.d_RatioInit ["self", "top", "bottom"] (spInit A.k_Ratio)) (gLawSigns : FnOk P w K mg base CX0 6 A.a_LawSigns A.d_LawSigns ["_law_one", "_law_other"] (spSigns A.k_Ratio))
    (gLawDue : FnOk P w K mg base CX0 1 A.a_LawDue A.d_LawDue ["_law_first", "_law_second"] spDue) (gRatioBool : FnOk P w K mg base CX0 1 A.a_RatioBool A.d_RatioBool ["self"] (spTru A.k_Ratio)) :
    FnG P w K mg base CX0 8 A.a_LawRight A.d_LawRight ["_law_first", "_law_second", "_law_number"] spRight := by
  refine okG T.f_LawRight scLawRight (fun vs H Q E h => ?_) (fun cdv A' outer s H vs Q E hr hG h => ?_)
  · obtain ⟨a, b, i, p, q, rfl, _⟩ := h
    rfl
  · obtain ⟨a, b, i, p, q, rfl, ⟨a, rfl, ha⟩, ⟨b, rfl, hb⟩, bp, bq, bi, k⟩ := h
    refine ⟨_, (pss_cons (ps_par (i := 3) (j := 4) (by rfl) scLawRight.nd rfl rfl (by decide) rfl rfl (pa_cons (pe_make T.mk_Ratio gRatioInit (hr.mono (by decide)) (by rfl) T.k_Ratio T.b_RatioInit .nil pass0 (pa_cons (pe_ix ix_tupH (pv 0) pe_int (fun _ _ => rfl)) (pa_cons (pe_ix ix_tupH (pv 0) pe_int (fun _ _ => rfl)) pa_nil))) (pa_cons (pe_make T.mk_Ratio gRatioInit (hr.mono (by decide)) (by rfl) T.k_Ratio T.b_RatioInit .nil pass0 (pa_cons (pe_ix ix_tupH (pv 1) pe_int (fun _ _ => rfl)) (pa_cons (pe_ix ix_tupH (pv 1) pe_int (fun _ _ => rfl)) pa_nil))) pa_nil)) (by rfl))
      (pss_cons (ps_set (i := 5) scLawRight.nd rfl (Or.inl rfl) (pe_tup (pa_cons (pv 2) (pa_cons pe_int pa_nil))))
      (pss_cons (ps_set (i := 6) scLawRight.nd rfl (Or.inl rfl) (pe_lst (pa_cons (pe_lst (pa_cons (pe_call gLawSigns (hr.mono (by decide)) (by rfl) T.m_LawSigns T.f_LawSigns.kp T.b_LawSigns .nil pass0 (pa_cons (pv 3) (pa_cons (pv 4) pa_nil))) (pa_cons (pe_call gLawDue (hr.mono (by decide)) (by rfl) T.m_LawDue T.f_LawDue.kp T.b_LawDue .nil pass0 (pa_cons (pv 0) (pa_cons (pv 1) pa_nil))) pa_nil))) (pa_cons (pe_lst (pa_cons (pe_call gLawSigns (hr.mono (by decide)) (by rfl) T.m_LawSigns T.f_LawSigns.kp T.b_LawSigns .nil pass0 (pa_cons (pv 4) (pa_cons (pv 3) pa_nil))) (pa_cons (pe_call gLawDue (hr.mono (by decide)) (by rfl) T.m_LawDue T.f_LawDue.kp T.b_LawDue .nil pass0 (pa_cons (pv 1) (pa_cons (pv 0) pa_nil))) pa_nil))) pa_nil))))
      (pss_cons (ps_expr (pe_bm PySem.F.plainAttrs_list PySem.F.slot_list_append PySem.F.type_list_append mt_append (pv 6) (pa_cons (pe_lst (pa_cons (pe_call gLawSigns (hr.mono (by decide)) (by rfl) T.m_LawSigns T.f_LawSigns.kp T.b_LawSigns .nil pass0 (pa_cons (pv 3) (pa_cons (pv 2) pa_nil))) (pa_cons (pe_call gLawDue (hr.mono (by decide)) (by rfl) T.m_LawDue T.f_LawDue.kp T.b_LawDue .nil pass0 (pa_cons (pv 0) (pa_cons (pv 5) pa_nil))) pa_nil))) pa_nil)))
      (pss_cons (ps_expr (pe_bm PySem.F.plainAttrs_list PySem.F.slot_list_append PySem.F.type_list_append mt_append (pv 6) (pa_cons (pe_lst (pa_cons (pe_call gLawSigns (hr.mono (by decide)) (by rfl) T.m_LawSigns T.f_LawSigns.kp T.b_LawSigns .nil pass0 (pa_cons (pv 2) (pa_cons (pv 3) pa_nil))) (pa_cons (pe_call gLawDue (hr.mono (by decide)) (by rfl) T.m_LawDue T.f_LawDue.kp T.b_LawDue .nil pass0 (pa_cons (pv 5) (pa_cons (pv 0) pa_nil))) pa_nil))) pa_nil)))
      (pss_cons (ps_expr (pe_bm PySem.F.plainAttrs_list PySem.F.slot_list_append PySem.F.type_list_append mt_append (pv 6) (pa_cons (pe_lst (pa_cons (pe_call gLawSigns (hr.mono (by decide)) (by rfl) T.m_LawSigns T.f_LawSigns.kp T.b_LawSigns .nil pass0 (pa_cons (pv 3) (pa_cons (pe_make T.mk_Ratio gRatioInit (hr.mono (by decide)) (by rfl) T.k_Ratio T.b_RatioInit .nil pass0 (pa_cons (pe_ix ix_tupH (pv 0) pe_int (fun _ _ => rfl)) (pa_cons (pe_ix ix_tupH (pv 0) pe_int (fun _ _ => rfl)) pa_nil))) pa_nil))) (pa_cons (pe_call gLawDue (hr.mono (by decide)) (by rfl) T.m_LawDue T.f_LawDue.kp T.b_LawDue .nil pass0 (pa_cons (pv 0) (pa_cons (pv 0) pa_nil))) pa_nil))) pa_nil)))
      (pss_cons (ps_if (pt_cmpR (op_neD hr.units) (pe_lc (own := [("_law_row", 7)]) (g := gName 7)  (by rfl) scLawRight.nd (pi_list (pv 6)) (blkOk_by (own := [("_law_row", 7)]) (N := nLawRight) (sc := defScope sLawRight) (by decide +kernel)) (fun _ _ _ _ _ => pg_name (i := 7) scLawRight.nd rfl (Or.inl rfl)) (fun _ _ _ _ _ => (pts_one (pt_cmpR (op_ne) (pe_callB (call_reprB hr hG) (by rfl) T.z_repr (by decide +kernel) (pa_cons (pe_ix ix_lstH (pv 7) pe_int (fun _ _ => rfl)) pa_nil)) (pe_callB (call_reprB hr hG) (by rfl) T.z_repr (by decide +kernel) (pa_cons (pe_ix ix_lstH (pv 7) pe_int (fun _ _ => rfl)) pa_nil)) (nomark _)))) (fun _ _ _ _ _ => (pv 7))) (pe_lst pa_nil) (nomark _)) (pss_one (ps_ret pe_bl)) pss_nil)
      (pss_one (ps_ret (pe_cmpR (op_eq) (pe_callB (call_reprB hr hG) (by rfl) T.z_repr (by decide +kernel) (pa_cons (pe_lst (pa_cons (pe_callTy (call_boolO T.o_RatioBool gRatioBool (hr.mono (by decide)) T.b_RatioBool pass0) (by rfl) T.z_bool (by decide +kernel) (pa_cons (pv 3) pa_nil)) (pa_cons (pe_callTy (call_boolO T.o_RatioBool gRatioBool (hr.mono (by decide)) T.b_RatioBool pass0) (by rfl) T.z_bool (by decide +kernel) (pa_cons (pv 4) pa_nil)) pa_nil))) pa_nil)) (pe_callB (call_reprB hr hG) (by rfl) T.z_repr (by decide +kernel) (pa_cons (pe_lst (pa_cons (pe_cmpR (op_ne) (pe_ix ix_tupH (pv 0) pe_int (fun _ _ => rfl)) pe_int (nomark _)) (pa_cons (pe_cmpR (op_ne) (pe_ix ix_tupH (pv 1) pe_int (fun _ _ => rfl)) pe_int (nomark _)) pa_nil))) pa_nil)) (nomark _))))))))))), ?_⟩
    have ha' := rt_at ha
    have hb' := rt_at hb
    try simp only [tSeq, tNext, tRet, tRetN, tAsg, gName, gSub, tDrop, tIfS, tOp, tUn, tCB, tCons, tNil, tC, tVar, rI, rI0, rU, tAnd, tOr, tNot, tAndV, tOrV, tNotV, tIf, tTest, tB, tCall, tChain, tLst, tTup, tYes, rIxH, rIsB, rIsBT, rMulS, kd_non, kd_bl, kd_int, kd_str, kd_ref, kdO_lst, kdO_tup, kdO_dK, nq_n, nq_b, nq_i, nq_s, nq_l, nq_t, nq_d, ne_eq, not_false_eq_true, kit_ss, kit_ns, kit_bs, kit_is, kit_ls, kit_ts, kit_ds, kit_bb, V.ty.injEq, and_assoc, rIxU, rLenH, rLenU, rLenS, rInt1, rSetL, rEq, rNe, rCat, L2.start, List.map, List.length, List.length_cons, List.length_nil, List.replicate, List.getElem?_cons_zero, List.getElem?_cons_succ, List.set_cons_zero, List.set_cons_succ, List.set_nil, List.cons_append, List.nil_append, List.append_nil, Option.some.injEq, V.int.injEq, V.ref.injEq, V.str.injEq, V.bl.injEq, HO.lst.injEq, HO.tup.injEq, exists_eq_left', exists_and_left, exists_eq_left, List.cons.injEq, and_true, true_and, and_false, false_and, and_self, reduceCtorEq, exists_false, or_false, false_or, exists_const, at0, at1, at2, at3, at4, at5, ix51, ix52, ix54, upd_same, Nat.reduceAdd, Nat.reduceSub, Nat.zero_add, Int.reduceToNat, Int.reduceLE, Int.reduceLT, decide_eq_true_eq, Bool.not_eq_true, if_true, if_false, Bool.false_eq_true, ite_true, ite_false, Bool.not_true, Bool.not_false, decide_true, decide_false, tFor_eq, tLc_eq, iList, iTup, iRng1, iRng2, iStr, tSl, tPart, tNoPart, rSlL, cxOf_K, wipe, ex_ty2, kit_LTl, kit_LTt, kit_LTd, kit_LTs, kit_LTn, kit_LTb, kit_LTi, tM1, rIxS, exists_eq', lt1p, tDNewK, rSlS, rEqNil, tPar, tMake_eq, ha']
    refine make_go' (t := p.num) (b := p.den) (n := 110) rfl (den_ne p) bp.1 (den_lt bp) (by decide) fun H1 c1 d1 n1 s1 hc1 _ => ?_
    rw [Rat.num_divInt_den] at hc1
    try simp only [tSeq, tNext, tRet, tRetN, tAsg, gName, gSub, tDrop, tIfS, tOp, tUn, tCB, tCons, tNil, tC, tVar, rI, rI0, rU, tAnd, tOr, tNot, tAndV, tOrV, tNotV, tIf, tTest, tB, tCall, tChain, tLst, tTup, tYes, rIxH, rIsB, rIsBT, rMulS, kd_non, kd_bl, kd_int, kd_str, kd_ref, kdO_lst, kdO_tup, kdO_dK, nq_n, nq_b, nq_i, nq_s, nq_l, nq_t, nq_d, ne_eq, not_false_eq_true, kit_ss, kit_ns, kit_bs, kit_is, kit_ls, kit_ts, kit_ds, kit_bb, V.ty.injEq, and_assoc, rIxU, rLenH, rLenU, rLenS, rInt1, rSetL, rEq, rNe, rCat, L2.start, List.map, List.length, List.length_cons, List.length_nil, List.replicate, List.getElem?_cons_zero, List.getElem?_cons_succ, List.set_cons_zero, List.set_cons_succ, List.set_nil, List.cons_append, List.nil_append, List.append_nil, Option.some.injEq, V.int.injEq, V.ref.injEq, V.str.injEq, V.bl.injEq, HO.lst.injEq, HO.tup.injEq, exists_eq_left', exists_and_left, exists_eq_left, List.cons.injEq, and_true, true_and, and_false, false_and, and_self, reduceCtorEq, exists_false, or_false, false_or, exists_const, at0, at1, at2, at3, at4, at5, ix51, ix52, ix54, upd_same, Nat.reduceAdd, Nat.reduceSub, Nat.zero_add, Int.reduceToNat, Int.reduceLE, Int.reduceLT, decide_eq_true_eq, Bool.not_eq_true, if_true, if_false, Bool.false_eq_true, ite_true, ite_false, Bool.not_true, Bool.not_false, decide_true, decide_false, tFor_eq, tLc_eq, iList, iTup, iRng1, iRng2, iStr, tSl, tPart, tNoPart, rSlL, cxOf_K, wipe, ex_ty2, kit_LTl, kit_LTt, kit_LTd, kit_LTs, kit_LTn, kit_LTb, kit_LTi, tM1, rIxS, exists_eq', lt1p, tDNewK, rSlS, rEqNil, tPar, tMake_eq, s1 _ _ hb']
    refine make_go' (t := q.num) (b := q.den) (n := 110) rfl (den_ne q) bq.1 (den_lt bq) (by decide) fun H2 c2 d2 n2 s2 hc2 _ => ?_
    rw [Rat.num_divInt_den] at hc2
    have r1 : RatAt A.k_Ratio H2 (.ref c1) p 110 := ⟨⟨c1, d1, rfl, s2 _ _ hc1⟩, bp⟩
    have r2 : RatAt A.k_Ratio H2 (.ref c2) q 110 := ⟨⟨c2, d2, rfl, hc2⟩, bq⟩
    have u1 : rtA H2 (.ref a) p := ⟨a, rfl, s2 _ _ (s1 _ _ ha)⟩
    have u2 : rtA H2 (.ref b) q := ⟨b, rfl, s2 _ _ (s1 _ _ hb)⟩
    have s02 := s1.trans s2
    clear ha' hb' ha hb hc1 hc2
    refine ⟨by decide, fun w1 nw1 => ?_⟩
    generalize g3 : upd H2 w1 _ = H3
    obtain ⟨s3, hw1⟩ := new_facts nw1 g3
    have u3 : rtA H3 (.ref w1) (i : Rat) := ⟨w1, rfl, hw1⟩
    have r1 := r1.same s3
    have r2 := r2.same s3
    have u1 := u1.same s3
    have u2 := u2.same s3
    have s03 := s02.trans s3
    clear g3 hw1
    refine ⟨_, _, p, q, 110, 110, rfl, (.inl ⟨r1, .inl r2⟩), by decide, fun H4_ a4_ s4_ n4_ h4_ => ?_⟩
    obtain ⟨a5_, e5_, h5_⟩ := (u1).same s4_
    obtain ⟨b5_, e6_, h6_⟩ := (u2).same s4_
    refine ⟨a5_, b5_, p, q, 110, 110, by rw [← e5_, ← e6_], h5_, h6_, bp, bq, by decide, fun c5_ nc5_ => ?_⟩
    clear h5_ h6_ e5_ e6_ a5_ b5_
    refine ⟨by decide, fun w4 nr5_ => ?_⟩
    generalize g5_ : upd (upd H4_ c5_ _) w4 _ = H4
    obtain ⟨s6_, row_w4⟩ := row_mk h4_ nc5_ nr5_ g5_
    have s04 := Same.trans s03 (Same.trans s4_ s6_)
    have st_H4 := Same.trans s4_ s6_
    clear g5_ h4_ nc5_ nr5_ s4_ s6_ n4_
    have r1 := r1.same st_H4
    have r2 := r2.same st_H4
    have u1 := u1.same st_H4
    have u2 := u2.same st_H4
    have u3 := u3.same st_H4
    refine ⟨_, _, q, p, 110, 110, rfl, (.inl ⟨r2, .inl r1⟩), by decide, fun H4_ a4_ s4_ n4_ h4_ => ?_⟩
    obtain ⟨a5_, e5_, h5_⟩ := (u2).same s4_
    obtain ⟨b5_, e6_, h6_⟩ := (u1).same s4_
    refine ⟨a5_, b5_, q, p, 110, 110, by rw [← e5_, ← e6_], h5_, h6_, bq, bp, by decide, fun c5_ nc5_ => ?_⟩
    clear h5_ h6_ e5_ e6_ a5_ b5_
    refine ⟨by decide, fun w5 nr5_ => ?_⟩
    generalize g5_ : upd (upd H4_ c5_ _) w5 _ = H5
    obtain ⟨s6_, row_w5⟩ := row_mk h4_ nc5_ nr5_ g5_
    have s05 := Same.trans s04 (Same.trans s4_ s6_)
    have st_H5 := Same.trans s4_ s6_
    clear g5_ h4_ nc5_ nr5_ s4_ s6_ n4_
    have r1 := r1.same st_H5
    have r2 := r2.same st_H5
    have u1 := u1.same st_H5
    have u2 := u2.same st_H5
    have u3 := u3.same st_H5
    have row_w4 := row_w4.same st_H5
    refine ⟨by decide, ?_⟩
    intro L n_L; generalize g_H6 : upd H5 L _ = H6; obtain ⟨s_H6, h_L⟩ := new_facts n_L g_H6; clear g_H6
    have nL : H L = none := s05.free n_L
    have row_w4 := RowA.same row_w4 (off_none n_L ▸ off_to (L := L) fun b o _ h => s_H6 b o h)
    have row_w5 := RowA.same row_w5 (off_none n_L ▸ off_to (L := L) fun b o _ h => s_H6 b o h)
    have k5 : Same H5 H6 := s_H6
    try simp only [tSeq, tNext, tRet, tRetN, tAsg, gName, gSub, tDrop, tIfS, tOp, tUn, tCB, tCons, tNil, tC, tVar, rI, rI0, rU, tAnd, tOr, tNot, tAndV, tOrV, tNotV, tIf, tTest, tB, tCall, tChain, tLst, tTup, tYes, rIxH, rIsB, rIsBT, rMulS, kd_non, kd_bl, kd_int, kd_str, kd_ref, kdO_lst, kdO_tup, kdO_dK, nq_n, nq_b, nq_i, nq_s, nq_l, nq_t, nq_d, ne_eq, not_false_eq_true, kit_ss, kit_ns, kit_bs, kit_is, kit_ls, kit_ts, kit_ds, kit_bb, V.ty.injEq, and_assoc, rIxU, rLenH, rLenU, rLenS, rInt1, rSetL, rEq, rNe, rCat, L2.start, List.map, List.length, List.length_cons, List.length_nil, List.replicate, List.getElem?_cons_zero, List.getElem?_cons_succ, List.set_cons_zero, List.set_cons_succ, List.set_nil, List.cons_append, List.nil_append, List.append_nil, Option.some.injEq, V.int.injEq, V.ref.injEq, V.str.injEq, V.bl.injEq, HO.lst.injEq, HO.tup.injEq, exists_eq_left', exists_and_left, exists_eq_left, List.cons.injEq, and_true, true_and, and_false, false_and, and_self, reduceCtorEq, exists_false, or_false, false_or, exists_const, at0, at1, at2, at3, at4, at5, ix51, ix52, ix54, upd_same, Nat.reduceAdd, Nat.reduceSub, Nat.zero_add, Int.reduceToNat, Int.reduceLE, Int.reduceLT, decide_eq_true_eq, Bool.not_eq_true, if_true, if_false, Bool.false_eq_true, ite_true, ite_false, Bool.not_true, Bool.not_false, decide_true, decide_false, tFor_eq, tLc_eq, iList, iTup, iRng1, iRng2, iStr, tSl, tPart, tNoPart, rSlL, cxOf_K, wipe, ex_ty2, kit_LTl, kit_LTt, kit_LTd, kit_LTs, kit_LTn, kit_LTb, kit_LTi, tM1, rIxS, exists_eq', lt1p, tDNewK, rSlS, rEqNil]
    refine ⟨_, rfl, Or.inl ⟨rfl, _, SqL.of h_L⟩, ?_⟩
    try simp only [tSeq, tNext, tRet, tRetN, tAsg, gName, gSub, tDrop, tIfS, tOp, tUn, tCB, tCons, tNil, tC, tVar, rI, rI0, rU, tAnd, tOr, tNot, tAndV, tOrV, tNotV, tIf, tTest, tB, tCall, tChain, tLst, tTup, tYes, rIxH, rIsB, rIsBT, rMulS, kd_non, kd_bl, kd_int, kd_str, kd_ref, kdO_lst, kdO_tup, kdO_dK, nq_n, nq_b, nq_i, nq_s, nq_l, nq_t, nq_d, ne_eq, not_false_eq_true, kit_ss, kit_ns, kit_bs, kit_is, kit_ls, kit_ts, kit_ds, kit_bb, V.ty.injEq, and_assoc, rIxU, rLenH, rLenU, rLenS, rInt1, rSetL, rEq, rNe, rCat, L2.start, List.map, List.length, List.length_cons, List.length_nil, List.replicate, List.getElem?_cons_zero, List.getElem?_cons_succ, List.set_cons_zero, List.set_cons_succ, List.set_nil, List.cons_append, List.nil_append, List.append_nil, Option.some.injEq, V.int.injEq, V.ref.injEq, V.str.injEq, V.bl.injEq, HO.lst.injEq, HO.tup.injEq, exists_eq_left', exists_and_left, exists_eq_left, List.cons.injEq, and_true, true_and, and_false, false_and, and_self, reduceCtorEq, exists_false, or_false, false_or, exists_const, at0, at1, at2, at3, at4, at5, ix51, ix52, ix54, upd_same, Nat.reduceAdd, Nat.reduceSub, Nat.zero_add, Int.reduceToNat, Int.reduceLE, Int.reduceLT, decide_eq_true_eq, Bool.not_eq_true, if_true, if_false, Bool.false_eq_true, ite_true, ite_false, Bool.not_true, Bool.not_false, decide_true, decide_false, tFor_eq, tLc_eq, iList, iTup, iRng1, iRng2, iStr, tSl, tPart, tNoPart, rSlL, cxOf_K, wipe, ex_ty2, kit_LTl, kit_LTt, kit_LTd, kit_LTs, kit_LTn, kit_LTb, kit_LTi, tM1, rIxS, exists_eq', lt1p, tDNewK, rSlS, rEqNil]
    refine ⟨_, _, p, (i : Rat), 110, 110, rfl, (.inl ⟨r1.same k5, .inr ⟨⟨i, rfl, rfl⟩, bi⟩⟩), by decide, fun H4_ a4_ s4_ n4_ h4_ => ?_⟩
    obtain ⟨a5_, e5_, h5_⟩ := ((u1.same k5)).same s4_
    obtain ⟨b5_, e6_, h6_⟩ := ((u3.same k5)).same s4_
    refine ⟨a5_, b5_, p, (i : Rat), 110, 110, by rw [← e5_, ← e6_], h5_, h6_, bp, bi, by decide, fun c5_ nc5_ => ?_⟩
    clear h5_ h6_ e5_ e6_ a5_ b5_
    refine ⟨by decide, fun w6 nr5_ => ?_⟩
    generalize g5_ : upd (upd H4_ c5_ _) w6 _ = H7
    obtain ⟨s6_, row_w6⟩ := row_mk h4_ nc5_ nr5_ g5_
    have rowL_w6 := row_mkL h_L n4_ s4_ h4_ nc5_ nr5_ g5_
    have k7 := Same.trans k5 (Same.trans s4_ s6_)
    have st_H7 := Same.trans s4_ s6_
    clear g5_ h4_ nc5_ nr5_ s4_ s6_ n4_
    refine ⟨L, _, _, rfl, rfl, st_H7 _ _ h_L, (by show 2 < sizeLine; decide), ?_⟩
    generalize g8 : upd H7 L _ = H8
    obtain ⟨o8, h8⟩ := app_off g8
    have k8 : Same H5 H8 := fun b o e => o8 b o (ne_of_none e n_L) (k7 b o e)
    have row_w4 := row_w4.same ((off_to fun b o _ h => st_H7 b o h).trans (off_to o8))
    have row_w5 := row_w5.same ((off_to fun b o _ h => st_H7 b o h).trans (off_to o8))
    have rowL_w6 := rowL_w6.same (off_to o8)
    clear g8 o8 row_w6 st_H7 k7
    try simp only [tSeq, tNext, tRet, tRetN, tAsg, gName, gSub, tDrop, tIfS, tOp, tUn, tCB, tCons, tNil, tC, tVar, rI, rI0, rU, tAnd, tOr, tNot, tAndV, tOrV, tNotV, tIf, tTest, tB, tCall, tChain, tLst, tTup, tYes, rIxH, rIsB, rIsBT, rMulS, kd_non, kd_bl, kd_int, kd_str, kd_ref, kdO_lst, kdO_tup, kdO_dK, nq_n, nq_b, nq_i, nq_s, nq_l, nq_t, nq_d, ne_eq, not_false_eq_true, kit_ss, kit_ns, kit_bs, kit_is, kit_ls, kit_ts, kit_ds, kit_bb, V.ty.injEq, and_assoc, rIxU, rLenH, rLenU, rLenS, rInt1, rSetL, rEq, rNe, rCat, L2.start, List.map, List.length, List.length_cons, List.length_nil, List.replicate, List.getElem?_cons_zero, List.getElem?_cons_succ, List.set_cons_zero, List.set_cons_succ, List.set_nil, List.cons_append, List.nil_append, List.append_nil, Option.some.injEq, V.int.injEq, V.ref.injEq, V.str.injEq, V.bl.injEq, HO.lst.injEq, HO.tup.injEq, exists_eq_left', exists_and_left, exists_eq_left, List.cons.injEq, and_true, true_and, and_false, false_and, and_self, reduceCtorEq, exists_false, or_false, false_or, exists_const, at0, at1, at2, at3, at4, at5, ix51, ix52, ix54, upd_same, Nat.reduceAdd, Nat.reduceSub, Nat.zero_add, Int.reduceToNat, Int.reduceLE, Int.reduceLT, decide_eq_true_eq, Bool.not_eq_true, if_true, if_false, Bool.false_eq_true, ite_true, ite_false, Bool.not_true, Bool.not_false, decide_true, decide_false, tFor_eq, tLc_eq, iList, iTup, iRng1, iRng2, iStr, tSl, tPart, tNoPart, rSlL, cxOf_K, wipe, ex_ty2, kit_LTl, kit_LTt, kit_LTd, kit_LTs, kit_LTn, kit_LTb, kit_LTi, tM1, rIxS, exists_eq', lt1p, tDNewK, rSlS, rEqNil]
    refine ⟨_, rfl, Or.inl ⟨rfl, _, SqL.of h8⟩, ?_⟩
    try simp only [tSeq, tNext, tRet, tRetN, tAsg, gName, gSub, tDrop, tIfS, tOp, tUn, tCB, tCons, tNil, tC, tVar, rI, rI0, rU, tAnd, tOr, tNot, tAndV, tOrV, tNotV, tIf, tTest, tB, tCall, tChain, tLst, tTup, tYes, rIxH, rIsB, rIsBT, rMulS, kd_non, kd_bl, kd_int, kd_str, kd_ref, kdO_lst, kdO_tup, kdO_dK, nq_n, nq_b, nq_i, nq_s, nq_l, nq_t, nq_d, ne_eq, not_false_eq_true, kit_ss, kit_ns, kit_bs, kit_is, kit_ls, kit_ts, kit_ds, kit_bb, V.ty.injEq, and_assoc, rIxU, rLenH, rLenU, rLenS, rInt1, rSetL, rEq, rNe, rCat, L2.start, List.map, List.length, List.length_cons, List.length_nil, List.replicate, List.getElem?_cons_zero, List.getElem?_cons_succ, List.set_cons_zero, List.set_cons_succ, List.set_nil, List.cons_append, List.nil_append, List.append_nil, Option.some.injEq, V.int.injEq, V.ref.injEq, V.str.injEq, V.bl.injEq, HO.lst.injEq, HO.tup.injEq, exists_eq_left', exists_and_left, exists_eq_left, List.cons.injEq, and_true, true_and, and_false, false_and, and_self, reduceCtorEq, exists_false, or_false, false_or, exists_const, at0, at1, at2, at3, at4, at5, ix51, ix52, ix54, upd_same, Nat.reduceAdd, Nat.reduceSub, Nat.zero_add, Int.reduceToNat, Int.reduceLE, Int.reduceLT, decide_eq_true_eq, Bool.not_eq_true, if_true, if_false, Bool.false_eq_true, ite_true, ite_false, Bool.not_true, Bool.not_false, decide_true, decide_false, tFor_eq, tLc_eq, iList, iTup, iRng1, iRng2, iStr, tSl, tPart, tNoPart, rSlL, cxOf_K, wipe, ex_ty2, kit_LTl, kit_LTt, kit_LTd, kit_LTs, kit_LTn, kit_LTb, kit_LTi, tM1, rIxS, exists_eq', lt1p, tDNewK, rSlS, rEqNil]
    refine ⟨_, _, (i : Rat), p, 110, 110, rfl, (.inr ⟨⟨i, rfl, rfl⟩, bi, r1.same k8⟩), by decide, fun H4_ a4_ s4_ n4_ h4_ => ?_⟩
    obtain ⟨a5_, e5_, h5_⟩ := ((u3.same k8)).same s4_
    obtain ⟨b5_, e6_, h6_⟩ := ((u1.same k8)).same s4_
    refine ⟨a5_, b5_, (i : Rat), p, 110, 110, by rw [← e5_, ← e6_], h5_, h6_, bi, bp, by decide, fun c5_ nc5_ => ?_⟩
    clear h5_ h6_ e5_ e6_ a5_ b5_
    refine ⟨by decide, fun w7 nr5_ => ?_⟩
    generalize g5_ : upd (upd H4_ c5_ _) w7 _ = H9
    obtain ⟨s6_, row_w7⟩ := row_mk h4_ nc5_ nr5_ g5_
    have rowL_w7 := row_mkL h8 n4_ s4_ h4_ nc5_ nr5_ g5_
    have k9 := Same.trans k8 (Same.trans s4_ s6_)
    have st_H9 := Same.trans s4_ s6_
    clear g5_ h4_ nc5_ nr5_ s4_ s6_ n4_
    refine ⟨L, _, _, rfl, rfl, st_H9 _ _ h8, (by show 3 < sizeLine; decide), ?_⟩
    generalize g10 : upd H9 L _ = H10
    obtain ⟨o10, h10⟩ := app_off g10
    have k10 : Same H5 H10 := fun b o e => o10 b o (ne_of_none e n_L) (k9 b o e)
    have row_w4 := row_w4.same ((off_to fun b o _ h => st_H9 b o h).trans (off_to o10))
    have row_w5 := row_w5.same ((off_to fun b o _ h => st_H9 b o h).trans (off_to o10))
    have rowL_w6 := rowL_w6.same ((off_to fun b o _ h => st_H9 b o h).trans (off_to o10))
    have rowL_w7 := rowL_w7.same (off_to o10)
    clear g10 o10 row_w7 st_H9 k9
    try simp only [tSeq, tNext, tRet, tRetN, tAsg, gName, gSub, tDrop, tIfS, tOp, tUn, tCB, tCons, tNil, tC, tVar, rI, rI0, rU, tAnd, tOr, tNot, tAndV, tOrV, tNotV, tIf, tTest, tB, tCall, tChain, tLst, tTup, tYes, rIxH, rIsB, rIsBT, rMulS, kd_non, kd_bl, kd_int, kd_str, kd_ref, kdO_lst, kdO_tup, kdO_dK, nq_n, nq_b, nq_i, nq_s, nq_l, nq_t, nq_d, ne_eq, not_false_eq_true, kit_ss, kit_ns, kit_bs, kit_is, kit_ls, kit_ts, kit_ds, kit_bb, V.ty.injEq, and_assoc, rIxU, rLenH, rLenU, rLenS, rInt1, rSetL, rEq, rNe, rCat, L2.start, List.map, List.length, List.length_cons, List.length_nil, List.replicate, List.getElem?_cons_zero, List.getElem?_cons_succ, List.set_cons_zero, List.set_cons_succ, List.set_nil, List.cons_append, List.nil_append, List.append_nil, Option.some.injEq, V.int.injEq, V.ref.injEq, V.str.injEq, V.bl.injEq, HO.lst.injEq, HO.tup.injEq, exists_eq_left', exists_and_left, exists_eq_left, List.cons.injEq, and_true, true_and, and_false, false_and, and_self, reduceCtorEq, exists_false, or_false, false_or, exists_const, at0, at1, at2, at3, at4, at5, ix51, ix52, ix54, upd_same, Nat.reduceAdd, Nat.reduceSub, Nat.zero_add, Int.reduceToNat, Int.reduceLE, Int.reduceLT, decide_eq_true_eq, Bool.not_eq_true, if_true, if_false, Bool.false_eq_true, ite_true, ite_false, Bool.not_true, Bool.not_false, decide_true, decide_false, tFor_eq, tLc_eq, iList, iTup, iRng1, iRng2, iStr, tSl, tPart, tNoPart, rSlL, cxOf_K, wipe, ex_ty2, kit_LTl, kit_LTt, kit_LTd, kit_LTs, kit_LTn, kit_LTb, kit_LTi, tM1, rIxS, exists_eq', lt1p, tDNewK, rSlS, rEqNil]
    refine ⟨_, rfl, Or.inl ⟨rfl, _, SqL.of h10⟩, ?_⟩
    obtain ⟨_, e1, h1⟩ := u1.same k10
    cases e1
    try simp only [tSeq, tNext, tRet, tRetN, tAsg, gName, gSub, tDrop, tIfS, tOp, tUn, tCB, tCons, tNil, tC, tVar, rI, rI0, rU, tAnd, tOr, tNot, tAndV, tOrV, tNotV, tIf, tTest, tB, tCall, tChain, tLst, tTup, tYes, rIxH, rIsB, rIsBT, rMulS, kd_non, kd_bl, kd_int, kd_str, kd_ref, kdO_lst, kdO_tup, kdO_dK, nq_n, nq_b, nq_i, nq_s, nq_l, nq_t, nq_d, ne_eq, not_false_eq_true, kit_ss, kit_ns, kit_bs, kit_is, kit_ls, kit_ts, kit_ds, kit_bb, V.ty.injEq, and_assoc, rIxU, rLenH, rLenU, rLenS, rInt1, rSetL, rEq, rNe, rCat, L2.start, List.map, List.length, List.length_cons, List.length_nil, List.replicate, List.getElem?_cons_zero, List.getElem?_cons_succ, List.set_cons_zero, List.set_cons_succ, List.set_nil, List.cons_append, List.nil_append, List.append_nil, Option.some.injEq, V.int.injEq, V.ref.injEq, V.str.injEq, V.bl.injEq, HO.lst.injEq, HO.tup.injEq, exists_eq_left', exists_and_left, exists_eq_left, List.cons.injEq, and_true, true_and, and_false, false_and, and_self, reduceCtorEq, exists_false, or_false, false_or, exists_const, at0, at1, at2, at3, at4, at5, ix51, ix52, ix54, upd_same, Nat.reduceAdd, Nat.reduceSub, Nat.zero_add, Int.reduceToNat, Int.reduceLE, Int.reduceLT, decide_eq_true_eq, Bool.not_eq_true, if_true, if_false, Bool.false_eq_true, ite_true, ite_false, Bool.not_true, Bool.not_false, decide_true, decide_false, tFor_eq, tLc_eq, iList, iTup, iRng1, iRng2, iStr, tSl, tPart, tNoPart, rSlL, cxOf_K, wipe, ex_ty2, kit_LTl, kit_LTt, kit_LTd, kit_LTs, kit_LTn, kit_LTb, kit_LTi, tM1, rIxS, exists_eq', lt1p, tDNewK, rSlS, rEqNil, tMake_eq, rt_at h1]
    refine make_go' (t := p.num) (b := p.den) (n := 110) rfl (den_ne p) bp.1 (den_lt bp) (by decide) fun H11 c3 d3 n3 s11 hc3 _ => ?_
    rw [Rat.num_divInt_den] at hc3
    have h11 := s11 _ _ h10
    have k11 := k10.trans s11
    try simp only [tSeq, tNext, tRet, tRetN, tAsg, gName, gSub, tDrop, tIfS, tOp, tUn, tCB, tCons, tNil, tC, tVar, rI, rI0, rU, tAnd, tOr, tNot, tAndV, tOrV, tNotV, tIf, tTest, tB, tCall, tChain, tLst, tTup, tYes, rIxH, rIsB, rIsBT, rMulS, kd_non, kd_bl, kd_int, kd_str, kd_ref, kdO_lst, kdO_tup, kdO_dK, nq_n, nq_b, nq_i, nq_s, nq_l, nq_t, nq_d, ne_eq, not_false_eq_true, kit_ss, kit_ns, kit_bs, kit_is, kit_ls, kit_ts, kit_ds, kit_bb, V.ty.injEq, and_assoc, rIxU, rLenH, rLenU, rLenS, rInt1, rSetL, rEq, rNe, rCat, L2.start, List.map, List.length, List.length_cons, List.length_nil, List.replicate, List.getElem?_cons_zero, List.getElem?_cons_succ, List.set_cons_zero, List.set_cons_succ, List.set_nil, List.cons_append, List.nil_append, List.append_nil, Option.some.injEq, V.int.injEq, V.ref.injEq, V.str.injEq, V.bl.injEq, HO.lst.injEq, HO.tup.injEq, exists_eq_left', exists_and_left, exists_eq_left, List.cons.injEq, and_true, true_and, and_false, false_and, and_self, reduceCtorEq, exists_false, or_false, false_or, exists_const, at0, at1, at2, at3, at4, at5, ix51, ix52, ix54, upd_same, Nat.reduceAdd, Nat.reduceSub, Nat.zero_add, Int.reduceToNat, Int.reduceLE, Int.reduceLT, decide_eq_true_eq, Bool.not_eq_true, if_true, if_false, Bool.false_eq_true, ite_true, ite_false, Bool.not_true, Bool.not_false, decide_true, decide_false, tFor_eq, tLc_eq, iList, iTup, iRng1, iRng2, iStr, tSl, tPart, tNoPart, rSlL, cxOf_K, wipe, ex_ty2, kit_LTl, kit_LTt, kit_LTd, kit_LTs, kit_LTn, kit_LTb, kit_LTi, tM1, rIxS, exists_eq', lt1p, tDNewK, rSlS, rEqNil]
    refine ⟨_, _, p, p, 110, 110, rfl, (.inl ⟨r1.same k11, .inl ⟨⟨c3, d3, rfl, hc3⟩, bp⟩⟩), by decide, fun H4_ a4_ s4_ n4_ h4_ => ?_⟩
    obtain ⟨a5_, e5_, h5_⟩ := ((u1.same k11)).same s4_
    obtain ⟨b5_, e6_, h6_⟩ := ((u1.same k11)).same s4_
    refine ⟨a5_, b5_, p, p, 110, 110, by rw [← e5_, ← e6_], h5_, h6_, bp, bp, by decide, fun c5_ nc5_ => ?_⟩
    clear h5_ h6_ e5_ e6_ a5_ b5_
    refine ⟨by decide, fun w8 nr5_ => ?_⟩
    generalize g5_ : upd (upd H4_ c5_ _) w8 _ = H12
    obtain ⟨s6_, row_w8⟩ := row_mk h4_ nc5_ nr5_ g5_
    have rowL_w8 := row_mkL h11 n4_ s4_ h4_ nc5_ nr5_ g5_
    have k12 := Same.trans k11 (Same.trans s4_ s6_)
    have st_H12 := Same.trans s4_ s6_
    clear g5_ h4_ nc5_ nr5_ s4_ s6_ n4_
    refine ⟨L, _, _, rfl, rfl, st_H12 _ _ h11, (by show 4 < sizeLine; decide), ?_⟩
    generalize g13 : upd H12 L _ = H13
    obtain ⟨o13, h13⟩ := app_off g13
    have k13 : Same H5 H13 := fun b o e => o13 b o (ne_of_none e n_L) (k12 b o e)
    have t13 := ((off_to (L := L) fun b o _ h => s11 b o h).trans (off_to fun b o _ h => st_H12 b o h)).trans (off_to o13)
    have row_w4 := (row_w4.same t13).same off_same
    have row_w5 := (row_w5.same t13).same off_same
    have row_w6 := (rowL_w6.same t13).same off_same
    have row_w7 := (rowL_w7.same t13).same off_same
    have row_w8 := (rowL_w8.same (off_to o13)).same off_same
    have rows : ∀ v ∈ [V.ref w4, V.ref w5, V.ref w6, V.ref w7, V.ref w8], RowA H13 v := by
      intro v hv
      simp only [List.mem_cons, List.not_mem_nil, or_false] at hv
      rcases hv with rfl | rfl | rfl | rfl | rfl <;> assumption
    have s13 : Same H H13 := s05.trans k13
    clear g13 o13 t13 k12 st_H12 rowL_w6 rowL_w7 rowL_w8
    try simp only [tSeq, tNext, tRet, tRetN, tAsg, gName, gSub, tDrop, tIfS, tOp, tUn, tCB, tCons, tNil, tC, tVar, rI, rI0, rU, tAnd, tOr, tNot, tAndV, tOrV, tNotV, tIf, tTest, tB, tCall, tChain, tLst, tTup, tYes, rIxH, rIsB, rIsBT, rMulS, kd_non, kd_bl, kd_int, kd_str, kd_ref, kdO_lst, kdO_tup, kdO_dK, nq_n, nq_b, nq_i, nq_s, nq_l, nq_t, nq_d, ne_eq, not_false_eq_true, kit_ss, kit_ns, kit_bs, kit_is, kit_ls, kit_ts, kit_ds, kit_bb, V.ty.injEq, and_assoc, rIxU, rLenH, rLenU, rLenS, rInt1, rSetL, rEq, rNe, rCat, L2.start, List.map, List.length, List.length_cons, List.length_nil, List.replicate, List.getElem?_cons_zero, List.getElem?_cons_succ, List.set_cons_zero, List.set_cons_succ, List.set_nil, List.cons_append, List.nil_append, List.append_nil, Option.some.injEq, V.int.injEq, V.ref.injEq, V.str.injEq, V.bl.injEq, HO.lst.injEq, HO.tup.injEq, exists_eq_left', exists_and_left, exists_eq_left, List.cons.injEq, and_true, true_and, and_false, false_and, and_self, reduceCtorEq, exists_false, or_false, false_or, exists_const, at0, at1, at2, at3, at4, at5, ix51, ix52, ix54, upd_same, Nat.reduceAdd, Nat.reduceSub, Nat.zero_add, Int.reduceToNat, Int.reduceLE, Int.reduceLT, decide_eq_true_eq, Bool.not_eq_true, if_true, if_false, Bool.false_eq_true, ite_true, ite_false, Bool.not_true, Bool.not_false, decide_true, decide_false, tFor_eq, tLc_eq, iList, iTup, iRng1, iRng2, iStr, tSl, tPart, tNoPart, rSlL, cxOf_K, wipe, ex_ty2, kit_LTl, kit_LTt, kit_LTd, kit_LTs, kit_LTn, kit_LTb, kit_LTi, tM1, rIxS, exists_eq', lt1p, tDNewK, rSlS, rEqNil]
    refine ⟨⟨_, SqL.of h13⟩, fun D nD => ?_⟩
    refine lc_same (walk_list (K := K) (xs := [V.ref w4, V.ref w5, V.ref w6, V.ref w7, V.ref w8])) (fun _ => false) id nD (fun H' s' => s'.seq (SqL.of h13)) (by show 5 ≤ 100000; decide) (fun x hx H' s' R R0 h1 h0 => ?_) (fun H14 s14 h14 => ?_)
    · obtain ⟨r, a', b', rfl, hr', x, xs, ha', hb', hz⟩ := (rows x hx).same s'
      try simp only [tSeq, tNext, tRet, tRetN, tAsg, gName, gSub, tDrop, tIfS, tOp, tUn, tCB, tCons, tNil, tC, tVar, rI, rI0, rU, tAnd, tOr, tNot, tAndV, tOrV, tNotV, tIf, tTest, tB, tCall, tChain, tLst, tTup, tYes, rIxH, rIsB, rIsBT, rMulS, kd_non, kd_bl, kd_int, kd_str, kd_ref, kdO_lst, kdO_tup, kdO_dK, nq_n, nq_b, nq_i, nq_s, nq_l, nq_t, nq_d, ne_eq, not_false_eq_true, kit_ss, kit_ns, kit_bs, kit_is, kit_ls, kit_ts, kit_ds, kit_bb, V.ty.injEq, and_assoc, rIxU, rLenH, rLenU, rLenS, rInt1, rSetL, rEq, rNe, rCat, L2.start, List.map, List.length, List.length_cons, List.length_nil, List.replicate, List.getElem?_cons_zero, List.getElem?_cons_succ, List.set_cons_zero, List.set_cons_succ, List.set_nil, List.cons_append, List.nil_append, List.append_nil, Option.some.injEq, V.int.injEq, V.ref.injEq, V.str.injEq, V.bl.injEq, HO.lst.injEq, HO.tup.injEq, exists_eq_left', exists_and_left, exists_eq_left, List.cons.injEq, and_true, true_and, and_false, false_and, and_self, reduceCtorEq, exists_false, or_false, false_or, exists_const, at0, at1, at2, at3, at4, at5, ix51, ix52, ix54, upd_same, Nat.reduceAdd, Nat.reduceSub, Nat.zero_add, Int.reduceToNat, Int.reduceLE, Int.reduceLT, decide_eq_true_eq, Bool.not_eq_true, if_true, if_false, Bool.false_eq_true, ite_true, ite_false, Bool.not_true, Bool.not_false, decide_true, decide_false, tFor_eq, tLc_eq, iList, iTup, iRng1, iRng2, iStr, tSl, tPart, tNoPart, rSlL, cxOf_K, wipe, ex_ty2, kit_LTl, kit_LTt, kit_LTd, kit_LTs, kit_LTn, kit_LTb, kit_LTi, tM1, rIxS, exists_eq', lt1p, tDNewK, rSlS, rEqNil, hr']
      refine ⟨a', x, xs, rfl, ha', hz, ?_⟩
      try simp only [tSeq, tNext, tRet, tRetN, tAsg, gName, gSub, tDrop, tIfS, tOp, tUn, tCB, tCons, tNil, tC, tVar, rI, rI0, rU, tAnd, tOr, tNot, tAndV, tOrV, tNotV, tIf, tTest, tB, tCall, tChain, tLst, tTup, tYes, rIxH, rIsB, rIsBT, rMulS, kd_non, kd_bl, kd_int, kd_str, kd_ref, kdO_lst, kdO_tup, kdO_dK, nq_n, nq_b, nq_i, nq_s, nq_l, nq_t, nq_d, ne_eq, not_false_eq_true, kit_ss, kit_ns, kit_bs, kit_is, kit_ls, kit_ts, kit_ds, kit_bb, V.ty.injEq, and_assoc, rIxU, rLenH, rLenU, rLenS, rInt1, rSetL, rEq, rNe, rCat, L2.start, List.map, List.length, List.length_cons, List.length_nil, List.replicate, List.getElem?_cons_zero, List.getElem?_cons_succ, List.set_cons_zero, List.set_cons_succ, List.set_nil, List.cons_append, List.nil_append, List.append_nil, Option.some.injEq, V.int.injEq, V.ref.injEq, V.str.injEq, V.bl.injEq, HO.lst.injEq, HO.tup.injEq, exists_eq_left', exists_and_left, exists_eq_left, List.cons.injEq, and_true, true_and, and_false, false_and, and_self, reduceCtorEq, exists_false, or_false, false_or, exists_const, at0, at1, at2, at3, at4, at5, ix51, ix52, ix54, upd_same, Nat.reduceAdd, Nat.reduceSub, Nat.zero_add, Int.reduceToNat, Int.reduceLE, Int.reduceLT, decide_eq_true_eq, Bool.not_eq_true, if_true, if_false, Bool.false_eq_true, ite_true, ite_false, Bool.not_true, Bool.not_false, decide_true, decide_false, tFor_eq, tLc_eq, iList, iTup, iRng1, iRng2, iStr, tSl, tPart, tNoPart, rSlL, cxOf_K, wipe, ex_ty2, kit_LTl, kit_LTt, kit_LTd, kit_LTs, kit_LTn, kit_LTb, kit_LTi, tM1, rIxS, exists_eq', lt1p, tDNewK, rSlS, rEqNil, hr']
      refine ⟨b', x, xs, rfl, hb', hz, ?_⟩
      try simp only [tSeq, tNext, tRet, tRetN, tAsg, gName, gSub, tDrop, tIfS, tOp, tUn, tCB, tCons, tNil, tC, tVar, rI, rI0, rU, tAnd, tOr, tNot, tAndV, tOrV, tNotV, tIf, tTest, tB, tCall, tChain, tLst, tTup, tYes, rIxH, rIsB, rIsBT, rMulS, kd_non, kd_bl, kd_int, kd_str, kd_ref, kdO_lst, kdO_tup, kdO_dK, nq_n, nq_b, nq_i, nq_s, nq_l, nq_t, nq_d, ne_eq, not_false_eq_true, kit_ss, kit_ns, kit_bs, kit_is, kit_ls, kit_ts, kit_ds, kit_bb, V.ty.injEq, and_assoc, rIxU, rLenH, rLenU, rLenS, rInt1, rSetL, rEq, rNe, rCat, L2.start, List.map, List.length, List.length_cons, List.length_nil, List.replicate, List.getElem?_cons_zero, List.getElem?_cons_succ, List.set_cons_zero, List.set_cons_succ, List.set_nil, List.cons_append, List.nil_append, List.append_nil, Option.some.injEq, V.int.injEq, V.ref.injEq, V.str.injEq, V.bl.injEq, HO.lst.injEq, HO.tup.injEq, exists_eq_left', exists_and_left, exists_eq_left, List.cons.injEq, and_true, true_and, and_false, false_and, and_self, reduceCtorEq, exists_false, or_false, false_or, exists_const, at0, at1, at2, at3, at4, at5, ix51, ix52, ix54, upd_same, Nat.reduceAdd, Nat.reduceSub, Nat.zero_add, Int.reduceToNat, Int.reduceLE, Int.reduceLT, decide_eq_true_eq, Bool.not_eq_true, if_true, if_false, Bool.false_eq_true, ite_true, ite_false, Bool.not_true, Bool.not_false, decide_true, decide_false, tFor_eq, tLc_eq, iList, iTup, iRng1, iRng2, iStr, tSl, tPart, tNoPart, rSlL, cxOf_K, wipe, ex_ty2, kit_LTl, kit_LTt, kit_LTd, kit_LTs, kit_LTn, kit_LTb, kit_LTi, tM1, rIxS, exists_eq', lt1p, tDNewK, rSlS, rEqNil, scal_str]
      exact h0 _ (Same.refl _) rfl
    · have h14' : H14 D = some (.lst []) := h14
      refine ⟨by decide, fun z nz => ?_⟩
      refine neD_nn (by rw [upd_ne (ne_of_none h14' nz)]; exact h14') upd_same ?_
      have k15 : Same H5 (upd H14 z (.lst [])) := k13.trans (s14.trans (same_new nz))
      have s15 : Same H (upd H14 z (.lst [])) := s13.trans (s14.trans (same_new nz))
      generalize upd H14 z (.lst []) = H15 at k15 s15 ⊢
      try simp only [tSeq, tNext, tRet, tRetN, tAsg, gName, gSub, tDrop, tIfS, tOp, tUn, tCB, tCons, tNil, tC, tVar, rI, rI0, rU, tAnd, tOr, tNot, tAndV, tOrV, tNotV, tIf, tTest, tB, tCall, tChain, tLst, tTup, tYes, rIxH, rIsB, rIsBT, rMulS, kd_non, kd_bl, kd_int, kd_str, kd_ref, kdO_lst, kdO_tup, kdO_dK, nq_n, nq_b, nq_i, nq_s, nq_l, nq_t, nq_d, ne_eq, not_false_eq_true, kit_ss, kit_ns, kit_bs, kit_is, kit_ls, kit_ts, kit_ds, kit_bb, V.ty.injEq, and_assoc, rIxU, rLenH, rLenU, rLenS, rInt1, rSetL, rEq, rNe, rCat, L2.start, List.map, List.length, List.length_cons, List.length_nil, List.replicate, List.getElem?_cons_zero, List.getElem?_cons_succ, List.set_cons_zero, List.set_cons_succ, List.set_nil, List.cons_append, List.nil_append, List.append_nil, Option.some.injEq, V.int.injEq, V.ref.injEq, V.str.injEq, V.bl.injEq, HO.lst.injEq, HO.tup.injEq, exists_eq_left', exists_and_left, exists_eq_left, List.cons.injEq, and_true, true_and, and_false, false_and, and_self, reduceCtorEq, exists_false, or_false, false_or, exists_const, at0, at1, at2, at3, at4, at5, ix51, ix52, ix54, upd_same, Nat.reduceAdd, Nat.reduceSub, Nat.zero_add, Int.reduceToNat, Int.reduceLE, Int.reduceLT, decide_eq_true_eq, Bool.not_eq_true, if_true, if_false, Bool.false_eq_true, ite_true, ite_false, Bool.not_true, Bool.not_false, decide_true, decide_false, tFor_eq, tLc_eq, iList, iTup, iRng1, iRng2, iStr, tSl, tPart, tNoPart, rSlL, cxOf_K, wipe, ex_ty2, kit_LTl, kit_LTt, kit_LTd, kit_LTs, kit_LTn, kit_LTb, kit_LTi, tM1, rIxS, exists_eq', lt1p, tDNewK, rSlS, rEqNil]
      obtain ⟨⟨_, d1', e, hq1⟩, _⟩ := r1.same k15
      cases e
      refine ⟨c1, d1', _, rfl, hq1, _, p, 110, rfl, ⟨⟨c1, d1', rfl, hq1⟩, bp⟩, ⟨_, rfl⟩, ?_⟩
      obtain ⟨⟨_, d2', e, hq2⟩, _⟩ := r2.same k15
      cases e
      refine ⟨c2, d2', _, rfl, hq2, _, q, 110, rfl, ⟨⟨c2, d2', rfl, hq2⟩, bq⟩, ⟨_, rfl⟩, ?_⟩
      refine ⟨by decide, ?_⟩
      intro z1 n_z1; generalize g_H16 : upd H15 z1 _ = H16; obtain ⟨s_H16, h_z1⟩ := new_facts n_z1 g_H16; clear g_H16
      refine ⟨z1, decide (p ≠ 0), [decide (q ≠ 0)], rfl, h_z1, repr2 _ _, ?_⟩
      obtain ⟨_, e1, h1⟩ := u1.same (k15.trans s_H16)
      cases e1
      obtain ⟨_, e2, h2⟩ := u2.same (k15.trans s_H16)
      cases e2
      try simp only [tSeq, tNext, tRet, tRetN, tAsg, gName, gSub, tDrop, tIfS, tOp, tUn, tCB, tCons, tNil, tC, tVar, rI, rI0, rU, tAnd, tOr, tNot, tAndV, tOrV, tNotV, tIf, tTest, tB, tCall, tChain, tLst, tTup, tYes, rIxH, rIsB, rIsBT, rMulS, kd_non, kd_bl, kd_int, kd_str, kd_ref, kdO_lst, kdO_tup, kdO_dK, nq_n, nq_b, nq_i, nq_s, nq_l, nq_t, nq_d, ne_eq, not_false_eq_true, kit_ss, kit_ns, kit_bs, kit_is, kit_ls, kit_ts, kit_ds, kit_bb, V.ty.injEq, and_assoc, rIxU, rLenH, rLenU, rLenS, rInt1, rSetL, rEq, rNe, rCat, L2.start, List.map, List.length, List.length_cons, List.length_nil, List.replicate, List.getElem?_cons_zero, List.getElem?_cons_succ, List.set_cons_zero, List.set_cons_succ, List.set_nil, List.cons_append, List.nil_append, List.append_nil, Option.some.injEq, V.int.injEq, V.ref.injEq, V.str.injEq, V.bl.injEq, HO.lst.injEq, HO.tup.injEq, exists_eq_left', exists_and_left, exists_eq_left, List.cons.injEq, and_true, true_and, and_false, false_and, and_self, reduceCtorEq, exists_false, or_false, false_or, exists_const, at0, at1, at2, at3, at4, at5, ix51, ix52, ix54, upd_same, Nat.reduceAdd, Nat.reduceSub, Nat.zero_add, Int.reduceToNat, Int.reduceLE, Int.reduceLT, decide_eq_true_eq, Bool.not_eq_true, if_true, if_false, Bool.false_eq_true, ite_true, ite_false, Bool.not_true, Bool.not_false, decide_true, decide_false, tFor_eq, tLc_eq, iList, iTup, iRng1, iRng2, iStr, tSl, tPart, tNoPart, rSlL, cxOf_K, wipe, ex_ty2, kit_LTl, kit_LTt, kit_LTd, kit_LTs, kit_LTn, kit_LTb, kit_LTi, tM1, rIxS, exists_eq', lt1p, tDNewK, rSlS, rEqNil, rt_at h1, rt_at h2, scal_int]
      refine ⟨by decide, fun z2 nz2 => ?_⟩
      refine ⟨z2, decide (p ≠ 0), [decide (q ≠ 0)], rfl, ?_, repr2 _ _, ?_⟩
      · rw [upd_same]
        have e1 := zero_num p
        have e2 := zero_num q
        simp only [e1, e2, ne_eq, decide_not, List.map]
      · try simp only [tSeq, tNext, tRet, tRetN, tAsg, gName, gSub, tDrop, tIfS, tOp, tUn, tCB, tCons, tNil, tC, tVar, rI, rI0, rU, tAnd, tOr, tNot, tAndV, tOrV, tNotV, tIf, tTest, tB, tCall, tChain, tLst, tTup, tYes, rIxH, rIsB, rIsBT, rMulS, kd_non, kd_bl, kd_int, kd_str, kd_ref, kdO_lst, kdO_tup, kdO_dK, nq_n, nq_b, nq_i, nq_s, nq_l, nq_t, nq_d, ne_eq, not_false_eq_true, kit_ss, kit_ns, kit_bs, kit_is, kit_ls, kit_ts, kit_ds, kit_bb, V.ty.injEq, and_assoc, rIxU, rLenH, rLenU, rLenS, rInt1, rSetL, rEq, rNe, rCat, L2.start, List.map, List.length, List.length_cons, List.length_nil, List.replicate, List.getElem?_cons_zero, List.getElem?_cons_succ, List.set_cons_zero, List.set_cons_succ, List.set_nil, List.cons_append, List.nil_append, List.append_nil, Option.some.injEq, V.int.injEq, V.ref.injEq, V.str.injEq, V.bl.injEq, HO.lst.injEq, HO.tup.injEq, exists_eq_left', exists_and_left, exists_eq_left, List.cons.injEq, and_true, true_and, and_false, false_and, and_self, reduceCtorEq, exists_false, or_false, false_or, exists_const, at0, at1, at2, at3, at4, at5, ix51, ix52, ix54, upd_same, Nat.reduceAdd, Nat.reduceSub, Nat.zero_add, Int.reduceToNat, Int.reduceLE, Int.reduceLT, decide_eq_true_eq, Bool.not_eq_true, if_true, if_false, Bool.false_eq_true, ite_true, ite_false, Bool.not_true, Bool.not_false, decide_true, decide_false, tFor_eq, tLc_eq, iList, iTup, iRng1, iRng2, iStr, tSl, tPart, tNoPart, rSlL, cxOf_K, wipe, ex_ty2, kit_LTl, kit_LTt, kit_LTd, kit_LTs, kit_LTn, kit_LTb, kit_LTi, tM1, rIxS, exists_eq', lt1p, tDNewK, rSlS, rEqNil, scal_str]
        exact k _ (s15.trans (s_H16.trans (same_new nz2)))
end



/-- one statement at a time: what follows is N -/
theorem seq_gen {t v : TS} {D : Ends} {σ : St} {H : Hp} (h : ∀ N : St → Hp → Prop, (∀ σ H, N σ H = v D σ H) → t { D with nx := N } σ H) : tSeq t v D σ H := h (v D) fun _ _ => rfl
theorem join {J : St → Hp → Prop} {t v : TS} {D : Ends} {σ : St} {H : Hp} (k : ∀ σ H, J σ H → v D σ H) (h : ∀ N : St → Hp → Prop, (∀ σ H, J σ H → N σ H) → t { D with nx := N } σ H) : tSeq t v D σ H := h (v D) k
def LK (a p l : Addr) (i : Nat) (σ : St) (H : Hp) : Prop := ∃ (v2 v3 v4 v5 v6 v7 v8 v9 : Option V) (c : Nat), σ = [some (.ref a), some (.ref p), v2, v3, v4, v5, v6, v7, v8, v9] ∧ PoolAt p l c H ∧ c ≤ 40 * i
def JK (a p l ax : Addr) (px : Rat) (m : Nat) (σ : St) (H : Hp) : Prop := ∃ (v2 v3 : Option V) (v5 : V) (v6 v7 v8 v9 : Option V) (c : Nat) (G : Hp) (q : Rat), σ = [some (.ref a), some (.ref p), v2, v3, some (.ref ax), some v5, v6, v7, v8, v9] ∧ Wd p l c G H ∧ c ≤ m ∧ G ax = some (rt px) ∧ rtA G v5 q ∧ Bd 110 q
def LO (vs : List (Option V)) (H0 : Hp) (i : Nat) (σ : St) (H : Hp) : Prop := ∃ v8 v9 : Option V, σ = vs ++ [v8, v9] ∧ Same H0 H
theorem ty_same {H H' : Hp} {v : V} {t : Value} (s : Same H H') (h : tyV H v = some t) : tyV H' v = some t := by
  cases v with
  | ref a =>
    have h : tyO (H a) = some t := h
    show tyO (H' a) = some t
    cases e : H a with
    | none => rw [e] at h; cases h
    | some o => rw [s _ _ e, ← e]; exact h
  | _ => exact h
def LowZ : V → Hp → Prop := fun v G => ∃ p, rtA G v p ∧ Bd 100 p
def spLaw (K : PySem.W.Frag) : Sp := fun vs H Q _ => ∃ (a : Addr) (ns : List Int), vs = [.ref a] ∧ SqL K H a (ns.map V.int) ∧ ns.length ≤ 63 ∧ ∀ H', Q (.bl true) H'
/-- where a new tuple is told, the pool's world goes on -/
theorem Wd.told {p l : Addr} {c c' : Nat} {G H H' : Hp} {q : Addr} {o : HO} (h : Wd p l c G H) (nq : H q = none) (hq : H' q = some o) (hp : PoolAt p l c' H') (off : OffS p l H H') : ∃ G1, Wd p l c' G1 H' ∧ Same G G1 ∧ G1 q = some o := by
  have np := h.pool.np nq
  have w5 := h.turn hp off
  refine ⟨upd G q o, ⟨hp, fun x u e => ?_, by rw [upd_ne np.1.symm]; exact h.gp, by rw [upd_ne np.2.symm]; exact h.gl⟩, same_new (h.free nq), upd_same⟩
  by_cases ex : x = q
  · subst ex
    rw [upd_same] at e
    rw [← Option.some.inj e]
    exact hq
  · rw [upd_ne ex] at e
    exact w5.kn x u e
theorem fdiv_abs {n d : Int} (hd : 0 < d) : (n.fdiv d).natAbs ≤ n.natAbs := by
  rw [Int.fdiv_eq_ediv_of_nonneg _ (by omega)]
  have h1 := Int.mul_ediv_add_emod n d
  have h2 := Int.emod_nonneg n (show d ≠ 0 by omega)
  have h3 := Int.emod_lt_of_pos n hd
  generalize n / d = q at *
  generalize n % d = r at *
  by_cases hq : 0 ≤ q
  · have : q ≤ d * q := by
      have := Int.mul_le_mul_of_nonneg_right (show 1 ≤ d by omega) hq
      omega
    omega
  · have : d * q + d ≤ q + 1 := by
      have e : d * q + d = d * (q + 1) := by grind
      rw [e]
      have := Int.mul_le_mul_of_nonpos_right (show 1 ≤ d by omega) (show q + 1 ≤ 0 by omega)
      omega
    omega
section
variable {P : Program} {w : World} {K : PySem.W.Frag} {mg : Str → Option Value} {base : Heap} {A : Adr}
theorem ok_law_of (T : Txt K mg A) (gLawPool : FnOk P w K mg base CX0 1 A.a_LawPool A.d_LawPool ["_law_script"] (spLawPool K)) (gLawDraw : FnOk P w K mg base CX0 2 A.a_LawDraw A.d_LawDraw ["_law_pool_here", "_law_many"] spLawDraw)
    (gLawInteger : FnOk P w K mg base CX0 3 A.a_LawInteger A.d_LawInteger ["_law_pool_here"] spInteger) (gLawPair : FnOk P w K mg base CX0 4 A.a_LawPair A.d_LawPair ["_law_pool_here"] spPair)
    (gLawLowest : FnOk P w K mg base CX0 1 A.a_LawLowest A.d_LawLowest ["_law_upper", "_law_lower"] spLowest) (gLawRight : FnG P w K mg base CX0 8 A.a_LawRight A.d_LawRight ["_law_first", "_law_second", "_law_number"] spRight)
    (gRatioInit : FnOk P w K mg base CX0 2 A.a_RatioInit A.d_RatioInit ["self", "top", "bottom"] (spInit A.k_Ratio))
    (gRatioEq : FnOk P w K mg base CX0 5 A.a_RatioEq A.d_RatioEq ["self", "other"] (spCmpA A.k_Ratio (fun p q => decide (p = q)) false)) (gRatioNe : FnOk P w K mg base CX0 5 A.a_RatioNe A.d_RatioNe ["self", "other"] (spCmpA A.k_Ratio (fun p q => !decide (p = q)) true)) :
    FnG P w K mg base CX0 9 A.a_Law A.d_Law ["_law_script"] (spLaw K) := by
  refine okG T.f_Law scLaw (fun vs H Q E h => ?_) (fun cdv A' outer s H vs Q E hr hG h => ?_)
  · obtain ⟨a, ns, rfl, _⟩ := h
    rfl
  · obtain ⟨a, ns, rfl, hS, hlen, k⟩ := h
    refine ⟨_, (pss_cons (ps_set (i := 1) scLaw.nd rfl (Or.inl rfl) (pe_call gLawPool (hr.mono (by decide)) (by rfl) T.m_LawPool T.f_LawPool.kp T.b_LawPool .nil pass0 (pa_cons (pv 0) pa_nil)))
      (pss_cons (ps_for PassesOwn.never rfl (pi_range1 (by rfl) T.z_range (pa_cons pe_int pa_nil)) (pg_name (i := 2) scLaw.nd rfl (Or.inl rfl)) (pss_cons (ps_set (i := 3) scLaw.nd rfl (Or.inl rfl) (pe_lst (pa_cons (pe_call gLawPair (hr.mono (by decide)) (by rfl) T.m_LawPair T.f_LawPair.kp T.b_LawPair .nil pass0 (pa_cons (pv 1) pa_nil)) (pa_cons (pe_call gLawPair (hr.mono (by decide)) (by rfl) T.m_LawPair T.f_LawPair.kp T.b_LawPair .nil pass0 (pa_cons (pv 1) pa_nil)) pa_nil))))
      (pss_cons (ps_asg (pe_lc (own := [("_law_one", 9)]) (g := gName 9) (tt := tYes) (by rfl) scLaw.nd (pi_list (pv 3)) (blkOk_by (own := [("_law_one", 9)]) (N := nLaw) (sc := defScope sLaw) (by decide +kernel)) (fun _ _ _ _ _ => pg_name (i := 9) scLaw.nd rfl (Or.inl rfl)) (fun _ _ _ _ _ => pts_nil) (fun _ _ _ _ _ => (pe_call gLawLowest (hr.mono (by decide)) (by rfl) T.m_LawLowest T.f_LawLowest.kp T.b_LawLowest .nil pass0 (pa_cons (pe_ix ix_tupH (pv 9) pe_int (fun _ _ => rfl)) (pa_cons (pe_callB call_abs (by rfl) T.z_abs (by decide +kernel) (pa_cons (pe_ix ix_tupH (pv 9) pe_int (fun _ _ => rfl)) pa_nil)) pa_nil))))) (pg_unl rfl (pgs_cons (pg_name (i := 4) scLaw.nd rfl (Or.inl rfl)) (pgs_cons (pg_name (i := 5) scLaw.nd rfl (Or.inl rfl)) pgs_nil))))
      (pss_cons (ps_if (pt_cmpR (op_eq) (pe_call gLawDraw (hr.mono (by decide)) (by rfl) T.m_LawDraw T.f_LawDraw.kp T.b_LawDraw .nil pass0 (pa_cons (pv 1) (pa_cons pe_int pa_nil))) pe_int (nomark _)) (pss_one (ps_set (i := 5) scLaw.nd rfl (Or.inl rfl) (pe_call gLawLowest (hr.mono (by decide)) (by rfl) T.m_LawLowest T.f_LawLowest.kp T.b_LawLowest .nil pass0 (pa_cons (pe_op op_sub (pe_op op_add (pe_op op_mulW (pe_ix ix_tupH (pv 4) pe_int (fun _ _ => rfl)) pe_int) (pe_call gLawDraw (hr.mono (by decide)) (by rfl) T.m_LawDraw T.f_LawDraw.kp T.b_LawDraw .nil pass0 (pa_cons (pv 1) (pa_cons pe_int pa_nil)))) pe_int) (pa_cons (pe_op op_mulW (pe_ix ix_tupH (pv 4) pe_int (fun _ _ => rfl)) pe_int) pa_nil))))) pss_nil)
      (pss_cons (ps_set (i := 6) scLaw.nd rfl (Or.inl rfl) (pe_ix ix_lstH (pe_lst (pa_cons (pe_call gLawInteger (hr.mono (by decide)) (by rfl) T.m_LawInteger T.f_LawInteger.kp T.b_LawInteger .nil pass0 (pa_cons (pv 1) pa_nil)) (pa_cons (pe_op op_fdivZ (pe_ix ix_tupH (pv 4) pe_int (fun _ _ => rfl)) (pe_ix ix_tupH (pv 4) pe_int (fun _ _ => rfl))) pa_nil))) (pe_call gLawDraw (hr.mono (by decide)) (by rfl) T.m_LawDraw T.f_LawDraw.kp T.b_LawDraw .nil pass0 (pa_cons (pv 1) (pa_cons pe_int pa_nil))) (fun _ _ => rfl)))
      (pss_cons (ps_if (PW.pt (pw_or (pt_not (pt_val (pe_callG gLawRight (hr.mono (by decide)) hG (by rfl) T.m_LawRight T.f_LawRight.kp T.b_LawRight pass0 (pa_cons (pv 4) (pa_cons (pv 5) (pa_cons (pv 6) pa_nil)))))) (pw_or1 (pt_not (pt_val (pe_callG gLawRight (hr.mono (by decide)) hG (by rfl) T.m_LawRight T.f_LawRight.kp T.b_LawRight pass0 (pa_cons (pv 5) (pa_cons (pv 4) (pa_cons pe_int pa_nil))))))))) (pss_one (ps_ret pe_bl)) pss_nil)
      (pss_cons (ps_set (i := 7) scLaw.nd rfl (Or.inl rfl) (pe_make T.mk_Ratio gRatioInit (hr.mono (by decide)) (by rfl) T.k_Ratio T.b_RatioInit .nil pass0 (pa_cons (pe_ix ix_tupH (pv 4) pe_int (fun _ _ => rfl)) (pa_cons (pe_ix ix_tupH (pv 4) pe_int (fun _ _ => rfl)) pa_nil))))
      (pss_one (ps_for PassesOwn.never rfl (pi_list (pe_lst (pa_cons pe_non (pa_cons (pe_callTy call_str_int (by rfl) T.z_str (by decide +kernel) (pa_cons (pe_ix ix_tupH (pv 4) pe_int (fun _ _ => rfl)) pa_nil)) (pa_cons (pv 4) (pa_cons (pe_lst (pa_cons (pe_ix ix_tupH (pv 4) pe_int (fun _ _ => rfl)) pa_nil)) (pa_cons pe_dnewK (pa_cons pe_bl (pa_cons pe_bl pa_nil))))))))) (pg_name (i := 8) scLaw.nd rfl (Or.inl rfl)) (pss_one (ps_if (PW.pt (pw_or (pt_cmpR (op_ownCA (fun _ _ => rfl) T.o_RatioEq gRatioEq (hr.mono (by decide)) T.b_RatioEq pass0) (pv 7) (pv 8) (nomark _)) (pw_or1 (pt_not (pt_cmpR (op_ownCA (fun _ _ => rfl) T.o_RatioNe gRatioNe (hr.mono (by decide)) T.b_RatioNe pass0) (pv 7) (pv 8) (nomark _)))))) (pss_one (ps_ret pe_bl)) pss_nil)))))))))))
      (pss_one (ps_ret pe_bl)))), ?_⟩
    refine ⟨_, rfl, a, ns, rfl, hS, hlen, fun p l H1 hp np nl s1 => ?_⟩
    refine ⟨_, rfl, by decide, by decide, ?_⟩
    refine for_go (walk_rangeY (lo := 0) (n := 8)) (LK a p l) ⟨_, _, _, _, _, _, _, _, 0, rfl, hp, by omega⟩ (fun _ _ _ _ _ => trivial) (fun i x σ H2 hx q => ?_) (fun σ H2 q => k _)
    obtain ⟨v2, v3, v4, v5, v6, v7, v8, v9, c, rfl, hp2, hc⟩ := q
    obtain ⟨rfl, hi⟩ := rng_item hx
    have w2 := wd0 hp2
    refine seq_gen fun N eN => ?_
    try simp only [tSeq, tNext, tRet, tRetN, tAsg, gName, gSub, tDrop, tIfS, tOp, tUn, tCB, tCons, tNil, tC, tVar, rI, rI0, rU, tAnd, tOr, tNot, tAndV, tOrV, tNotV, tIf, tTest, tB, tCall, tChain, tLst, tTup, tYes, rIxH, rIsB, rIsBT, rMulS, kd_non, kd_bl, kd_int, kd_str, kd_ref, kdO_lst, kdO_tup, kdO_dK, nq_n, nq_b, nq_i, nq_s, nq_l, nq_t, nq_d, ne_eq, not_false_eq_true, kit_ss, kit_ns, kit_bs, kit_is, kit_ls, kit_ts, kit_ds, kit_bb, V.ty.injEq, and_assoc, rIxU, rLenH, rLenU, rLenS, rInt1, rSetL, rEq, rNe, rCat, L2.start, List.map, List.length, List.length_cons, List.length_nil, List.replicate, List.getElem?_cons_zero, List.getElem?_cons_succ, List.set_cons_zero, List.set_cons_succ, List.set_nil, List.cons_append, List.nil_append, List.append_nil, Option.some.injEq, V.int.injEq, V.ref.injEq, V.str.injEq, V.bl.injEq, HO.lst.injEq, HO.tup.injEq, exists_eq_left', exists_and_left, exists_eq_left, List.cons.injEq, and_true, true_and, and_false, false_and, and_self, reduceCtorEq, exists_false, or_false, false_or, exists_const, at0, at1, at2, at3, at4, at5, ix51, ix52, ix54, upd_same, Nat.reduceAdd, Nat.reduceSub, Nat.zero_add, Int.reduceToNat, Int.reduceLE, Int.reduceLT, decide_eq_true_eq, Bool.not_eq_true, if_true, if_false, Bool.false_eq_true, ite_true, ite_false, Bool.not_true, Bool.not_false, decide_true, decide_false, tFor_eq, tLc_eq, iList, iTup, iRng1, iRng2, iStr, tSl, tPart, tNoPart, rSlL, cxOf_K, wipe, ex_ty2, kit_LTl, kit_LTt, kit_LTd, kit_LTs, kit_LTn, kit_LTb, kit_LTi, tM1, rIxS, exists_eq', lt1p, tDNewK, rSlS, rEqNil]
    refine ⟨p, l, c, rfl, w2.pool, by omega, fun q1 u1 b1 H3 n1 h1 b10 b11 b12 hp3 off3 => ?_⟩
    obtain ⟨G3, w3, g3, f1⟩ := w2.told n1 h1 hp3 off3
    refine ⟨p, l, _, rfl, w3.pool, by omega, fun q2 u2 b2 H4 n2 h2 b20 b21 b22 hp4 off4 => ?_⟩
    obtain ⟨G4, w4, g4, f2⟩ := w3.told n2 h2 hp4 off4
    have f1 := g4 _ _ f1
    refine ⟨by decide, ?_⟩
    intro D1 n_D1; generalize g_H5 : upd H4 D1 _ = H5; obtain ⟨s_H5, h_D1⟩ := new_facts n_D1 g_H5; clear g_H5; obtain ⟨G5, w_G5, k_G5, f_D1⟩ := w4.alloc n_D1 s_H5 h_D1
    have f1 := k_G5 _ _ f1
    have f2 := k_G5 _ _ f2
    rw [eN]
    clear eN N
    refine seq_gen fun N eN => ?_
    try simp only [tSeq, tNext, tRet, tRetN, tAsg, gName, gSub, tDrop, tIfS, tOp, tUn, tCB, tCons, tNil, tC, tVar, rI, rI0, rU, tAnd, tOr, tNot, tAndV, tOrV, tNotV, tIf, tTest, tB, tCall, tChain, tLst, tTup, tYes, rIxH, rIsB, rIsBT, rMulS, kd_non, kd_bl, kd_int, kd_str, kd_ref, kdO_lst, kdO_tup, kdO_dK, nq_n, nq_b, nq_i, nq_s, nq_l, nq_t, nq_d, ne_eq, not_false_eq_true, kit_ss, kit_ns, kit_bs, kit_is, kit_ls, kit_ts, kit_ds, kit_bb, V.ty.injEq, and_assoc, rIxU, rLenH, rLenU, rLenS, rInt1, rSetL, rEq, rNe, rCat, L2.start, List.map, List.length, List.length_cons, List.length_nil, List.replicate, List.getElem?_cons_zero, List.getElem?_cons_succ, List.set_cons_zero, List.set_cons_succ, List.set_nil, List.cons_append, List.nil_append, List.append_nil, Option.some.injEq, V.int.injEq, V.ref.injEq, V.str.injEq, V.bl.injEq, HO.lst.injEq, HO.tup.injEq, exists_eq_left', exists_and_left, exists_eq_left, List.cons.injEq, and_true, true_and, and_false, false_and, and_self, reduceCtorEq, exists_false, or_false, false_or, exists_const, at0, at1, at2, at3, at4, at5, ix51, ix52, ix54, upd_same, Nat.reduceAdd, Nat.reduceSub, Nat.zero_add, Int.reduceToNat, Int.reduceLE, Int.reduceLT, decide_eq_true_eq, Bool.not_eq_true, if_true, if_false, Bool.false_eq_true, ite_true, ite_false, Bool.not_true, Bool.not_false, decide_true, decide_false, tFor_eq, tLc_eq, iList, iTup, iRng1, iRng2, iStr, tSl, tPart, tNoPart, rSlL, cxOf_K, wipe, ex_ty2, kit_LTl, kit_LTt, kit_LTd, kit_LTs, kit_LTn, kit_LTb, kit_LTi, tM1, rIxS, exists_eq', lt1p, tDNewK, rSlS, rEqNil]
    have items : ∀ x ∈ [V.ref q1, V.ref q2], ∃ (q : Addr) (u b : Int), x = .ref q ∧ G5 q = some (.tup [.int u, .int b]) ∧ b ≠ 0 ∧ u.natAbs < 2 ^ 100 ∧ b.natAbs < 2 ^ 100 := by
      intro v hv
      simp only [List.mem_cons, List.not_mem_nil, or_false] at hv
      rcases hv with rfl | rfl
      · exact ⟨_, _, _, rfl, f1, b10, b11, b12⟩
      · exact ⟨_, _, _, rfl, f2, b20, b21, b22⟩
    have hD1 := w_G5.kn _ _ f_D1
    refine ⟨⟨_, SqL.of hD1⟩, fun D2 nD2 => ?_⟩
    refine lc_pool (walk_list (K := K) (a := D1) (xs := [V.ref q1, V.ref q2])) (k := 0) LowZ (fun v G G' s h => by obtain ⟨q, h, b⟩ := h; exact ⟨q, h.same s, b⟩) w_G5 nD2 (fun H4 o4 => SqL.of (o4 _ _ (w_G5.ne f_D1).1 (w_G5.ne f_D1).2 hD1)) (by show 2 ≤ 100000; decide) (fun x hx G6 H6 c6 gw6 hw6 hc6 R R0 h1 => ?_) (fun acc G6 H6 ha hP gw6 w6 hD2 => ?_)
    · obtain ⟨q, u, b, rfl, hq, hb, ba, bb⟩ := items x hx
      have hq6 := hw6.kn _ _ (gw6.gg _ _ hq)
      try simp only [tSeq, tNext, tRet, tRetN, tAsg, gName, gSub, tDrop, tIfS, tOp, tUn, tCB, tCons, tNil, tC, tVar, rI, rI0, rU, tAnd, tOr, tNot, tAndV, tOrV, tNotV, tIf, tTest, tB, tCall, tChain, tLst, tTup, tYes, rIxH, rIsB, rIsBT, rMulS, kd_non, kd_bl, kd_int, kd_str, kd_ref, kdO_lst, kdO_tup, kdO_dK, nq_n, nq_b, nq_i, nq_s, nq_l, nq_t, nq_d, ne_eq, not_false_eq_true, kit_ss, kit_ns, kit_bs, kit_is, kit_ls, kit_ts, kit_ds, kit_bb, V.ty.injEq, and_assoc, rIxU, rLenH, rLenU, rLenS, rInt1, rSetL, rEq, rNe, rCat, L2.start, List.map, List.length, List.length_cons, List.length_nil, List.replicate, List.getElem?_cons_zero, List.getElem?_cons_succ, List.set_cons_zero, List.set_cons_succ, List.set_nil, List.cons_append, List.nil_append, List.append_nil, Option.some.injEq, V.int.injEq, V.ref.injEq, V.str.injEq, V.bl.injEq, HO.lst.injEq, HO.tup.injEq, exists_eq_left', exists_and_left, exists_eq_left, List.cons.injEq, and_true, true_and, and_false, false_and, and_self, reduceCtorEq, exists_false, or_false, false_or, exists_const, at0, at1, at2, at3, at4, at5, ix51, ix52, ix54, upd_same, Nat.reduceAdd, Nat.reduceSub, Nat.zero_add, Int.reduceToNat, Int.reduceLE, Int.reduceLT, decide_eq_true_eq, Bool.not_eq_true, if_true, if_false, Bool.false_eq_true, ite_true, ite_false, Bool.not_true, Bool.not_false, decide_true, decide_false, tFor_eq, tLc_eq, iList, iTup, iRng1, iRng2, iStr, tSl, tPart, tNoPart, rSlL, cxOf_K, wipe, ex_ty2, kit_LTl, kit_LTt, kit_LTd, kit_LTs, kit_LTn, kit_LTb, kit_LTi, tM1, rIxS, exists_eq', lt1p, tDNewK, rSlS, rEqNil, hq6]
      refine ⟨u, _, rfl, by split <;> omega, ?_, fun z nz => ?_⟩
      · refine abs_mono (n := 100) ?_ (by decide)
        split <;> omega
      · have hbz : (if b < 0 then -b else b) ≠ 0 := by split <;> omega
        exact h1 _ _ _ ⟨_, ⟨z, rfl, upd_same⟩, bd_divInt ba (by split <;> omega) hbz⟩ (hw6.new nz) (Gw.add (same_off (same_new nz)) nz (hw6.free nz))
    · obtain ⟨x, y, rfl⟩ : ∃ x y, acc = [x, y] := by
        match acc, ha with
        | [x, y], _ => exact ⟨x, y, rfl⟩
      refine ⟨D2, _, rfl, SqL.of (w6.kn _ _ hD2), rfl, _, _, rfl, _, _, rfl, rfl, ?_⟩
      obtain ⟨px, gx, bx⟩ := hP x (by simp)
      obtain ⟨py, gy, by_⟩ := hP y (by simp)
      rw [eN]
      clear eN N
      obtain ⟨ax, rfl, gx⟩ := gx
      have hax := gx
      refine join (J := JK a p l ax px (40 * i + 22)) (fun σ H7 j => ?_) (fun N hN => ?_)
      · obtain ⟨v2, v3, v5, v6, v7, v8, v9, c7, G7, q, rfl, w7, hc7, gx, gy, by_⟩ := j
        refine seq_gen fun N eN => ?_
        try simp only [tSeq, tNext, tRet, tRetN, tAsg, gName, gSub, tDrop, tIfS, tOp, tUn, tCB, tCons, tNil, tC, tVar, rI, rI0, rU, tAnd, tOr, tNot, tAndV, tOrV, tNotV, tIf, tTest, tB, tCall, tChain, tLst, tTup, tYes, rIxH, rIsB, rIsBT, rMulS, kd_non, kd_bl, kd_int, kd_str, kd_ref, kdO_lst, kdO_tup, kdO_dK, nq_n, nq_b, nq_i, nq_s, nq_l, nq_t, nq_d, ne_eq, not_false_eq_true, kit_ss, kit_ns, kit_bs, kit_is, kit_ls, kit_ts, kit_ds, kit_bb, V.ty.injEq, and_assoc, rIxU, rLenH, rLenU, rLenS, rInt1, rSetL, rEq, rNe, rCat, L2.start, List.map, List.length, List.length_cons, List.length_nil, List.replicate, List.getElem?_cons_zero, List.getElem?_cons_succ, List.set_cons_zero, List.set_cons_succ, List.set_nil, List.cons_append, List.nil_append, List.append_nil, Option.some.injEq, V.int.injEq, V.ref.injEq, V.str.injEq, V.bl.injEq, HO.lst.injEq, HO.tup.injEq, exists_eq_left', exists_and_left, exists_eq_left, List.cons.injEq, and_true, true_and, and_false, false_and, and_self, reduceCtorEq, exists_false, or_false, false_or, exists_const, at0, at1, at2, at3, at4, at5, ix51, ix52, ix54, upd_same, Nat.reduceAdd, Nat.reduceSub, Nat.zero_add, Int.reduceToNat, Int.reduceLE, Int.reduceLT, decide_eq_true_eq, Bool.not_eq_true, if_true, if_false, Bool.false_eq_true, ite_true, ite_false, Bool.not_true, Bool.not_false, decide_true, decide_false, tFor_eq, tLc_eq, iList, iTup, iRng1, iRng2, iStr, tSl, tPart, tNoPart, rSlL, cxOf_K, wipe, ex_ty2, kit_LTl, kit_LTt, kit_LTd, kit_LTs, kit_LTn, kit_LTb, kit_LTi, tM1, rIxS, exists_eq', lt1p, tDNewK, rSlS, rEqNil]
        refine ⟨p, l, c7, rfl, w7.pool, by omega, fun n H8 hn hp8 off8 => ?_⟩
        have w8 := w7.turn hp8 off8
        have hx8 := rt_at (w8.kn _ _ gx)
        have cd : CDivZ px.num px.den := ⟨den_ne px, log2_of (den_lt bx) (by decide)⟩
        try simp only [tSeq, tNext, tRet, tRetN, tAsg, gName, gSub, tDrop, tIfS, tOp, tUn, tCB, tCons, tNil, tC, tVar, rI, rI0, rU, tAnd, tOr, tNot, tAndV, tOrV, tNotV, tIf, tTest, tB, tCall, tChain, tLst, tTup, tYes, rIxH, rIsB, rIsBT, rMulS, kd_non, kd_bl, kd_int, kd_str, kd_ref, kdO_lst, kdO_tup, kdO_dK, nq_n, nq_b, nq_i, nq_s, nq_l, nq_t, nq_d, ne_eq, not_false_eq_true, kit_ss, kit_ns, kit_bs, kit_is, kit_ls, kit_ts, kit_ds, kit_bb, V.ty.injEq, and_assoc, rIxU, rLenH, rLenU, rLenS, rInt1, rSetL, rEq, rNe, rCat, L2.start, List.map, List.length, List.length_cons, List.length_nil, List.replicate, List.getElem?_cons_zero, List.getElem?_cons_succ, List.set_cons_zero, List.set_cons_succ, List.set_nil, List.cons_append, List.nil_append, List.append_nil, Option.some.injEq, V.int.injEq, V.ref.injEq, V.str.injEq, V.bl.injEq, HO.lst.injEq, HO.tup.injEq, exists_eq_left', exists_and_left, exists_eq_left, List.cons.injEq, and_true, true_and, and_false, false_and, and_self, reduceCtorEq, exists_false, or_false, false_or, exists_const, at0, at1, at2, at3, at4, at5, ix51, ix52, ix54, upd_same, Nat.reduceAdd, Nat.reduceSub, Nat.zero_add, Int.reduceToNat, Int.reduceLE, Int.reduceLT, decide_eq_true_eq, Bool.not_eq_true, if_true, if_false, Bool.false_eq_true, ite_true, ite_false, Bool.not_true, Bool.not_false, decide_true, decide_false, tFor_eq, tLc_eq, iList, iTup, iRng1, iRng2, iStr, tSl, tPart, tNoPart, rSlL, cxOf_K, wipe, ex_ty2, kit_LTl, kit_LTt, kit_LTd, kit_LTs, kit_LTn, kit_LTb, kit_LTi, tM1, rIxS, exists_eq', lt1p, tDNewK, rSlS, rEqNil, hx8, cd]
        refine ⟨by decide, ?_⟩
        intro D3 n_D3; generalize g_H9 : upd H8 D3 _ = H9; obtain ⟨s_H9, h_D3⟩ := new_facts n_D3 g_H9; clear g_H9; obtain ⟨G9, w_G9, k_G9, f_D3⟩ := w8.alloc n_D3 s_H9 h_D3
        refine ⟨p, l, 2, c7 + 3, rfl, by decide, by decide, w_G9.pool, by omega, fun v H10 v0 v1 hp10 off10 => ?_⟩
        have w10 := w_G9.turn hp10 (Off.s off10)
        obtain ⟨z, hz, mz⟩ := pickI [n, px.num.fdiv px.den] v0 v1
        simp only [List.map] at hz
        have bz : Bd 110 (z : Rat) := by
          refine bd_int (abs_mono (n := 100) ?_ (by decide)) (by decide)
          simp only [List.mem_cons, List.not_mem_nil, or_false] at mz
          rcases mz with rfl | rfl
          · exact abs_mono hn (by decide)
          · exact Nat.lt_of_le_of_lt (fdiv_abs (by have := px.den_pos; omega)) bx.1
        try simp only [tSeq, tNext, tRet, tRetN, tAsg, gName, gSub, tDrop, tIfS, tOp, tUn, tCB, tCons, tNil, tC, tVar, rI, rI0, rU, tAnd, tOr, tNot, tAndV, tOrV, tNotV, tIf, tTest, tB, tCall, tChain, tLst, tTup, tYes, rIxH, rIsB, rIsBT, rMulS, kd_non, kd_bl, kd_int, kd_str, kd_ref, kdO_lst, kdO_tup, kdO_dK, nq_n, nq_b, nq_i, nq_s, nq_l, nq_t, nq_d, ne_eq, not_false_eq_true, kit_ss, kit_ns, kit_bs, kit_is, kit_ls, kit_ts, kit_ds, kit_bb, V.ty.injEq, and_assoc, rIxU, rLenH, rLenU, rLenS, rInt1, rSetL, rEq, rNe, rCat, L2.start, List.map, List.length, List.length_cons, List.length_nil, List.replicate, List.getElem?_cons_zero, List.getElem?_cons_succ, List.set_cons_zero, List.set_cons_succ, List.set_nil, List.cons_append, List.nil_append, List.append_nil, Option.some.injEq, V.int.injEq, V.ref.injEq, V.str.injEq, V.bl.injEq, HO.lst.injEq, HO.tup.injEq, exists_eq_left', exists_and_left, exists_eq_left, List.cons.injEq, and_true, true_and, and_false, false_and, and_self, reduceCtorEq, exists_false, or_false, false_or, exists_const, at0, at1, at2, at3, at4, at5, ix51, ix52, ix54, upd_same, Nat.reduceAdd, Nat.reduceSub, Nat.zero_add, Int.reduceToNat, Int.reduceLE, Int.reduceLT, decide_eq_true_eq, Bool.not_eq_true, if_true, if_false, Bool.false_eq_true, ite_true, ite_false, Bool.not_true, Bool.not_false, decide_true, decide_false, tFor_eq, tLc_eq, iList, iTup, iRng1, iRng2, iStr, tSl, tPart, tNoPart, rSlL, cxOf_K, wipe, ex_ty2, kit_LTl, kit_LTt, kit_LTd, kit_LTs, kit_LTn, kit_LTb, kit_LTi, tM1, rIxS, exists_eq', lt1p, tDNewK, rSlS, rEqNil, w10.kn _ _ f_D3, hz]
        rw [eN]
        clear eN N
        have gx10 : rtA H10 (.ref ax) px := ⟨ax, rfl, w10.kn _ _ (k_G9 _ _ gx)⟩
        have gy10 : rtA H10 v5 q := (gy.same k_G9).same w10.kn
        have hp10' := w10.pool
        clear w10 w_G9 w8 w7
        refine seq_gen fun N eN => ?_
        try simp only [tSeq, tNext, tRet, tRetN, tAsg, gName, gSub, tDrop, tIfS, tOp, tUn, tCB, tCons, tNil, tC, tVar, rI, rI0, rU, tAnd, tOr, tNot, tAndV, tOrV, tNotV, tIf, tTest, tB, tCall, tChain, tLst, tTup, tYes, rIxH, rIsB, rIsBT, rMulS, kd_non, kd_bl, kd_int, kd_str, kd_ref, kdO_lst, kdO_tup, kdO_dK, nq_n, nq_b, nq_i, nq_s, nq_l, nq_t, nq_d, ne_eq, not_false_eq_true, kit_ss, kit_ns, kit_bs, kit_is, kit_ls, kit_ts, kit_ds, kit_bb, V.ty.injEq, and_assoc, rIxU, rLenH, rLenU, rLenS, rInt1, rSetL, rEq, rNe, rCat, L2.start, List.map, List.length, List.length_cons, List.length_nil, List.replicate, List.getElem?_cons_zero, List.getElem?_cons_succ, List.set_cons_zero, List.set_cons_succ, List.set_nil, List.cons_append, List.nil_append, List.append_nil, Option.some.injEq, V.int.injEq, V.ref.injEq, V.str.injEq, V.bl.injEq, HO.lst.injEq, HO.tup.injEq, exists_eq_left', exists_and_left, exists_eq_left, List.cons.injEq, and_true, true_and, and_false, false_and, and_self, reduceCtorEq, exists_false, or_false, false_or, exists_const, at0, at1, at2, at3, at4, at5, ix51, ix52, ix54, upd_same, Nat.reduceAdd, Nat.reduceSub, Nat.zero_add, Int.reduceToNat, Int.reduceLE, Int.reduceLT, decide_eq_true_eq, Bool.not_eq_true, if_true, if_false, Bool.false_eq_true, ite_true, ite_false, Bool.not_true, Bool.not_false, decide_true, decide_false, tFor_eq, tLc_eq, iList, iTup, iRng1, iRng2, iStr, tSl, tPart, tNoPart, rSlL, cxOf_K, wipe, ex_ty2, kit_LTl, kit_LTt, kit_LTd, kit_LTs, kit_LTn, kit_LTb, kit_LTi, tM1, rIxS, exists_eq', lt1p, tDNewK, rSlS, rEqNil]
        refine ⟨_, _, z, px, q, rfl, gx10, gy10, bx.mono (by decide), by_, bz, fun H11 s11 => ?_⟩
        try simp only [tSeq, tNext, tRet, tRetN, tAsg, gName, gSub, tDrop, tIfS, tOp, tUn, tCB, tCons, tNil, tC, tVar, rI, rI0, rU, tAnd, tOr, tNot, tAndV, tOrV, tNotV, tIf, tTest, tB, tCall, tChain, tLst, tTup, tYes, rIxH, rIsB, rIsBT, rMulS, kd_non, kd_bl, kd_int, kd_str, kd_ref, kdO_lst, kdO_tup, kdO_dK, nq_n, nq_b, nq_i, nq_s, nq_l, nq_t, nq_d, ne_eq, not_false_eq_true, kit_ss, kit_ns, kit_bs, kit_is, kit_ls, kit_ts, kit_ds, kit_bb, V.ty.injEq, and_assoc, rIxU, rLenH, rLenU, rLenS, rInt1, rSetL, rEq, rNe, rCat, L2.start, List.map, List.length, List.length_cons, List.length_nil, List.replicate, List.getElem?_cons_zero, List.getElem?_cons_succ, List.set_cons_zero, List.set_cons_succ, List.set_nil, List.cons_append, List.nil_append, List.append_nil, Option.some.injEq, V.int.injEq, V.ref.injEq, V.str.injEq, V.bl.injEq, HO.lst.injEq, HO.tup.injEq, exists_eq_left', exists_and_left, exists_eq_left, List.cons.injEq, and_true, true_and, and_false, false_and, and_self, reduceCtorEq, exists_false, or_false, false_or, exists_const, at0, at1, at2, at3, at4, at5, ix51, ix52, ix54, upd_same, Nat.reduceAdd, Nat.reduceSub, Nat.zero_add, Int.reduceToNat, Int.reduceLE, Int.reduceLT, decide_eq_true_eq, Bool.not_eq_true, if_true, if_false, Bool.false_eq_true, ite_true, ite_false, Bool.not_true, Bool.not_false, decide_true, decide_false, tFor_eq, tLc_eq, iList, iTup, iRng1, iRng2, iStr, tSl, tPart, tNoPart, rSlL, cxOf_K, wipe, ex_ty2, kit_LTl, kit_LTt, kit_LTd, kit_LTs, kit_LTn, kit_LTb, kit_LTi, tM1, rIxS, exists_eq', lt1p, tDNewK, rSlS, rEqNil]
        refine ⟨_, _, 0, q, px, rfl, gy10.same s11, gx10.same s11, by_, bx.mono (by decide), bd_int (z := 0) (by decide) (by decide), fun H12 s12 => ?_⟩
        try simp only [tSeq, tNext, tRet, tRetN, tAsg, gName, gSub, tDrop, tIfS, tOp, tUn, tCB, tCons, tNil, tC, tVar, rI, rI0, rU, tAnd, tOr, tNot, tAndV, tOrV, tNotV, tIf, tTest, tB, tCall, tChain, tLst, tTup, tYes, rIxH, rIsB, rIsBT, rMulS, kd_non, kd_bl, kd_int, kd_str, kd_ref, kdO_lst, kdO_tup, kdO_dK, nq_n, nq_b, nq_i, nq_s, nq_l, nq_t, nq_d, ne_eq, not_false_eq_true, kit_ss, kit_ns, kit_bs, kit_is, kit_ls, kit_ts, kit_ds, kit_bb, V.ty.injEq, and_assoc, rIxU, rLenH, rLenU, rLenS, rInt1, rSetL, rEq, rNe, rCat, L2.start, List.map, List.length, List.length_cons, List.length_nil, List.replicate, List.getElem?_cons_zero, List.getElem?_cons_succ, List.set_cons_zero, List.set_cons_succ, List.set_nil, List.cons_append, List.nil_append, List.append_nil, Option.some.injEq, V.int.injEq, V.ref.injEq, V.str.injEq, V.bl.injEq, HO.lst.injEq, HO.tup.injEq, exists_eq_left', exists_and_left, exists_eq_left, List.cons.injEq, and_true, true_and, and_false, false_and, and_self, reduceCtorEq, exists_false, or_false, false_or, exists_const, at0, at1, at2, at3, at4, at5, ix51, ix52, ix54, upd_same, Nat.reduceAdd, Nat.reduceSub, Nat.zero_add, Int.reduceToNat, Int.reduceLE, Int.reduceLT, decide_eq_true_eq, Bool.not_eq_true, if_true, if_false, Bool.false_eq_true, ite_true, ite_false, Bool.not_true, Bool.not_false, decide_true, decide_false, tFor_eq, tLc_eq, iList, iTup, iRng1, iRng2, iStr, tSl, tPart, tNoPart, rSlL, cxOf_K, wipe, ex_ty2, kit_LTl, kit_LTt, kit_LTd, kit_LTs, kit_LTn, kit_LTb, kit_LTi, tM1, rIxS, exists_eq', lt1p, tDNewK, rSlS, rEqNil]
        rw [eN]
        clear eN N
        have gx12 := (gx10.same s11).same s12
        have hp12 := (hp10'.same s11).same s12
        clear gx10 gy10 hp10'
        refine seq_gen fun N eN => ?_
        obtain ⟨_, e, hx12⟩ := gx12
        cases e
        try simp only [tSeq, tNext, tRet, tRetN, tAsg, gName, gSub, tDrop, tIfS, tOp, tUn, tCB, tCons, tNil, tC, tVar, rI, rI0, rU, tAnd, tOr, tNot, tAndV, tOrV, tNotV, tIf, tTest, tB, tCall, tChain, tLst, tTup, tYes, rIxH, rIsB, rIsBT, rMulS, kd_non, kd_bl, kd_int, kd_str, kd_ref, kdO_lst, kdO_tup, kdO_dK, nq_n, nq_b, nq_i, nq_s, nq_l, nq_t, nq_d, ne_eq, not_false_eq_true, kit_ss, kit_ns, kit_bs, kit_is, kit_ls, kit_ts, kit_ds, kit_bb, V.ty.injEq, and_assoc, rIxU, rLenH, rLenU, rLenS, rInt1, rSetL, rEq, rNe, rCat, L2.start, List.map, List.length, List.length_cons, List.length_nil, List.replicate, List.getElem?_cons_zero, List.getElem?_cons_succ, List.set_cons_zero, List.set_cons_succ, List.set_nil, List.cons_append, List.nil_append, List.append_nil, Option.some.injEq, V.int.injEq, V.ref.injEq, V.str.injEq, V.bl.injEq, HO.lst.injEq, HO.tup.injEq, exists_eq_left', exists_and_left, exists_eq_left, List.cons.injEq, and_true, true_and, and_false, false_and, and_self, reduceCtorEq, exists_false, or_false, false_or, exists_const, at0, at1, at2, at3, at4, at5, ix51, ix52, ix54, upd_same, Nat.reduceAdd, Nat.reduceSub, Nat.zero_add, Int.reduceToNat, Int.reduceLE, Int.reduceLT, decide_eq_true_eq, Bool.not_eq_true, if_true, if_false, Bool.false_eq_true, ite_true, ite_false, Bool.not_true, Bool.not_false, decide_true, decide_false, tFor_eq, tLc_eq, iList, iTup, iRng1, iRng2, iStr, tSl, tPart, tNoPart, rSlL, cxOf_K, wipe, ex_ty2, kit_LTl, kit_LTt, kit_LTd, kit_LTs, kit_LTn, kit_LTb, kit_LTi, tM1, rIxS, exists_eq', lt1p, tDNewK, rSlS, rEqNil, tMake_eq, rt_at hx12]
        refine make_go' (t := px.num) (b := px.den) (n := 100) rfl (den_ne px) bx.1 (den_lt bx) (by decide) fun H13 m dm nm s13 hm bm => ?_
        rw [Rat.num_divInt_den] at hm bm
        have hx13 := rt_at (s13 _ _ hx12)
        have hp13 := hp12.same s13
        rw [eN]
        clear eN N
        have lg : px.num.natAbs.log2 < 1920 := Nat.lt_of_le_of_lt (by
          by_cases z : px.num.natAbs = 0
          · rw [z]; decide
          · exact Nat.le_of_lt ((Nat.log2_lt z).mpr bx.1)) (show 100 < 1920 by decide)
        try simp only [tSeq, tNext, tRet, tRetN, tAsg, gName, gSub, tDrop, tIfS, tOp, tUn, tCB, tCons, tNil, tC, tVar, rI, rI0, rU, tAnd, tOr, tNot, tAndV, tOrV, tNotV, tIf, tTest, tB, tCall, tChain, tLst, tTup, tYes, rIxH, rIsB, rIsBT, rMulS, kd_non, kd_bl, kd_int, kd_str, kd_ref, kdO_lst, kdO_tup, kdO_dK, nq_n, nq_b, nq_i, nq_s, nq_l, nq_t, nq_d, ne_eq, not_false_eq_true, kit_ss, kit_ns, kit_bs, kit_is, kit_ls, kit_ts, kit_ds, kit_bb, V.ty.injEq, and_assoc, rIxU, rLenH, rLenU, rLenS, rInt1, rSetL, rEq, rNe, rCat, L2.start, List.map, List.length, List.length_cons, List.length_nil, List.replicate, List.getElem?_cons_zero, List.getElem?_cons_succ, List.set_cons_zero, List.set_cons_succ, List.set_nil, List.cons_append, List.nil_append, List.append_nil, Option.some.injEq, V.int.injEq, V.ref.injEq, V.str.injEq, V.bl.injEq, HO.lst.injEq, HO.tup.injEq, exists_eq_left', exists_and_left, exists_eq_left, List.cons.injEq, and_true, true_and, and_false, false_and, and_self, reduceCtorEq, exists_false, or_false, false_or, exists_const, at0, at1, at2, at3, at4, at5, ix51, ix52, ix54, upd_same, Nat.reduceAdd, Nat.reduceSub, Nat.zero_add, Int.reduceToNat, Int.reduceLE, Int.reduceLT, decide_eq_true_eq, Bool.not_eq_true, if_true, if_false, Bool.false_eq_true, ite_true, ite_false, Bool.not_true, Bool.not_false, decide_true, decide_false, tFor_eq, tLc_eq, iList, iTup, iRng1, iRng2, iStr, tSl, tPart, tNoPart, rSlL, cxOf_K, wipe, ex_ty2, kit_LTl, kit_LTt, kit_LTd, kit_LTs, kit_LTn, kit_LTb, kit_LTi, tM1, rIxS, exists_eq', lt1p, tDNewK, rSlS, rEqNil, hx13, lg]
        refine ⟨by decide, ?_⟩
        intro z1 n_z1; generalize g_H14 : upd H13 z1 _ = H14; obtain ⟨s_H14, h_z1⟩ := new_facts n_z1 g_H14; clear g_H14
        intro z2 n_z2; generalize g_H15 : upd H14 z2 _ = H15; obtain ⟨s_H15, h_z2⟩ := new_facts n_z2 g_H15; clear g_H15
        refine ⟨by decide, ?_⟩
        intro z3 n_z3; generalize g_H16 : upd H15 z3 _ = H16; obtain ⟨s_H16, h_z3⟩ := new_facts n_z3 g_H16; clear g_H16
        have hm16 := s_H16 _ _ (s_H15 _ _ (s_H14 _ _ hm))
        have hx16 := s_H16 _ _ (s_H15 _ _ (s_H14 _ _ hx13))
        have hz1 := s_H16 _ _ (s_H15 _ _ h_z1)
        have hz2 := s_H16 _ _ h_z2
        have hp16 := ((hp13.same s_H14).same s_H15).same s_H16
        have odd : ∀ v ∈ [V.non, V.str (Str.ofString (toString px.num)), V.ref ax, V.ref z1, V.ref z2, V.bl true, V.bl false], ∃ t, tyV H16 v = some t ∧ PySem.W.notFirst K A.k_Ratio t = true ∧ t ∈ tys A.k_Ratio ∧ t ≠ .type "int" ∧ t ≠ .ref A.k_Ratio := by
          intro v hv
          simp only [List.mem_cons, List.not_mem_nil, or_false] at hv
          rcases hv with rfl | rfl | rfl | rfl | rfl | rfl | rfl
          · exact ⟨_, rfl, T.w_Ratio_NoneType, by simp [tys], by decide, by intro z; cases z⟩
          · exact ⟨_, rfl, T.w_Ratio_str, by simp [tys], by decide, by intro z; cases z⟩
          · exact ⟨.type "tuple", by rw [tyV_ref, hx16]; rfl, T.w_Ratio_tuple, by simp [tys], by decide, by intro z; cases z⟩
          · exact ⟨.type "list", by rw [tyV_ref, hz1]; rfl, T.w_Ratio_list, by simp [tys], by decide, by intro z; cases z⟩
          · exact ⟨.type "dict", by rw [tyV_ref, hz2]; rfl, T.w_Ratio_dict, by simp [tys], by decide, by intro z; cases z⟩
          · exact ⟨_, rfl, T.w_Ratio_bool, by simp [tys], by decide, by intro z; cases z⟩
          · exact ⟨_, rfl, T.w_Ratio_bool, by simp [tys], by decide, by intro z; cases z⟩
        generalize [V.non, V.str (Str.ofString (toString px.num)), V.ref ax, V.ref z1, V.ref z2, V.bl true, V.bl false] = os at odd h_z3
        refine ⟨⟨_, SqL.of h_z3⟩, for_go (walk_list (K := K) (a := z3) (xs := os)) (LO [some (.ref a), some (.ref p), v2, v3, some (.ref ax), some v5, some (.int z), some (.ref m)] H16) ⟨_, _, rfl, Same.refl _⟩ (fun i σ H' _ q => ?_) (fun j x σ H' hx q => ?_) (fun σ H' q => ?_)⟩
        · obtain ⟨_, _, _, s⟩ := q
          exact s.seq (SqL.of h_z3)
        · obtain ⟨v8, v9, rfl, s17⟩ := q
          obtain ⟨t, t1, t2, t3, t4, t5⟩ := odd x (List.mem_of_getElem? hx)
          have t1 := ty_same s17 t1
          have hm17 := s17 _ _ hm16
          try simp only [tSeq, tNext, tRet, tRetN, tAsg, gName, gSub, tDrop, tIfS, tOp, tUn, tCB, tCons, tNil, tC, tVar, rI, rI0, rU, tAnd, tOr, tNot, tAndV, tOrV, tNotV, tIf, tTest, tB, tCall, tChain, tLst, tTup, tYes, rIxH, rIsB, rIsBT, rMulS, kd_non, kd_bl, kd_int, kd_str, kd_ref, kdO_lst, kdO_tup, kdO_dK, nq_n, nq_b, nq_i, nq_s, nq_l, nq_t, nq_d, ne_eq, not_false_eq_true, kit_ss, kit_ns, kit_bs, kit_is, kit_ls, kit_ts, kit_ds, kit_bb, V.ty.injEq, and_assoc, rIxU, rLenH, rLenU, rLenS, rInt1, rSetL, rEq, rNe, rCat, L2.start, List.map, List.length, List.length_cons, List.length_nil, List.replicate, List.getElem?_cons_zero, List.getElem?_cons_succ, List.set_cons_zero, List.set_cons_succ, List.set_nil, List.cons_append, List.nil_append, List.append_nil, Option.some.injEq, V.int.injEq, V.ref.injEq, V.str.injEq, V.bl.injEq, HO.lst.injEq, HO.tup.injEq, exists_eq_left', exists_and_left, exists_eq_left, List.cons.injEq, and_true, true_and, and_false, false_and, and_self, reduceCtorEq, exists_false, or_false, false_or, exists_const, at0, at1, at2, at3, at4, at5, ix51, ix52, ix54, upd_same, Nat.reduceAdd, Nat.reduceSub, Nat.zero_add, Int.reduceToNat, Int.reduceLE, Int.reduceLT, decide_eq_true_eq, Bool.not_eq_true, if_true, if_false, Bool.false_eq_true, ite_true, ite_false, Bool.not_true, Bool.not_false, decide_true, decide_false, tFor_eq, tLc_eq, iList, iTup, iRng1, iRng2, iStr, tSl, tPart, tNoPart, rSlL, cxOf_K, wipe, ex_ty2, kit_LTl, kit_LTt, kit_LTd, kit_LTs, kit_LTn, kit_LTb, kit_LTi, tM1, rIxS, exists_eq', lt1p, tDNewK, rSlS, rEqNil]
          refine ⟨m, dm, _, t, rfl, hm17, t1, t2, .inr ⟨_, _, t, rfl, t1, t3, t4, t5, ?_⟩⟩
          try simp only [tSeq, tNext, tRet, tRetN, tAsg, gName, gSub, tDrop, tIfS, tOp, tUn, tCB, tCons, tNil, tC, tVar, rI, rI0, rU, tAnd, tOr, tNot, tAndV, tOrV, tNotV, tIf, tTest, tB, tCall, tChain, tLst, tTup, tYes, rIxH, rIsB, rIsBT, rMulS, kd_non, kd_bl, kd_int, kd_str, kd_ref, kdO_lst, kdO_tup, kdO_dK, nq_n, nq_b, nq_i, nq_s, nq_l, nq_t, nq_d, ne_eq, not_false_eq_true, kit_ss, kit_ns, kit_bs, kit_is, kit_ls, kit_ts, kit_ds, kit_bb, V.ty.injEq, and_assoc, rIxU, rLenH, rLenU, rLenS, rInt1, rSetL, rEq, rNe, rCat, L2.start, List.map, List.length, List.length_cons, List.length_nil, List.replicate, List.getElem?_cons_zero, List.getElem?_cons_succ, List.set_cons_zero, List.set_cons_succ, List.set_nil, List.cons_append, List.nil_append, List.append_nil, Option.some.injEq, V.int.injEq, V.ref.injEq, V.str.injEq, V.bl.injEq, HO.lst.injEq, HO.tup.injEq, exists_eq_left', exists_and_left, exists_eq_left, List.cons.injEq, and_true, true_and, and_false, false_and, and_self, reduceCtorEq, exists_false, or_false, false_or, exists_const, at0, at1, at2, at3, at4, at5, ix51, ix52, ix54, upd_same, Nat.reduceAdd, Nat.reduceSub, Nat.zero_add, Int.reduceToNat, Int.reduceLE, Int.reduceLT, decide_eq_true_eq, Bool.not_eq_true, if_true, if_false, Bool.false_eq_true, ite_true, ite_false, Bool.not_true, Bool.not_false, decide_true, decide_false, tFor_eq, tLc_eq, iList, iTup, iRng1, iRng2, iStr, tSl, tPart, tNoPart, rSlL, cxOf_K, wipe, ex_ty2, kit_LTl, kit_LTt, kit_LTd, kit_LTs, kit_LTn, kit_LTb, kit_LTi, tM1, rIxS, exists_eq', lt1p, tDNewK, rSlS, rEqNil]
          refine ⟨m, dm, _, t, rfl, hm17, t1, t2, .inr ⟨_, _, t, rfl, t1, t3, t4, t5, ?_⟩⟩
          try simp only [tSeq, tNext, tRet, tRetN, tAsg, gName, gSub, tDrop, tIfS, tOp, tUn, tCB, tCons, tNil, tC, tVar, rI, rI0, rU, tAnd, tOr, tNot, tAndV, tOrV, tNotV, tIf, tTest, tB, tCall, tChain, tLst, tTup, tYes, rIxH, rIsB, rIsBT, rMulS, kd_non, kd_bl, kd_int, kd_str, kd_ref, kdO_lst, kdO_tup, kdO_dK, nq_n, nq_b, nq_i, nq_s, nq_l, nq_t, nq_d, ne_eq, not_false_eq_true, kit_ss, kit_ns, kit_bs, kit_is, kit_ls, kit_ts, kit_ds, kit_bb, V.ty.injEq, and_assoc, rIxU, rLenH, rLenU, rLenS, rInt1, rSetL, rEq, rNe, rCat, L2.start, List.map, List.length, List.length_cons, List.length_nil, List.replicate, List.getElem?_cons_zero, List.getElem?_cons_succ, List.set_cons_zero, List.set_cons_succ, List.set_nil, List.cons_append, List.nil_append, List.append_nil, Option.some.injEq, V.int.injEq, V.ref.injEq, V.str.injEq, V.bl.injEq, HO.lst.injEq, HO.tup.injEq, exists_eq_left', exists_and_left, exists_eq_left, List.cons.injEq, and_true, true_and, and_false, false_and, and_self, reduceCtorEq, exists_false, or_false, false_or, exists_const, at0, at1, at2, at3, at4, at5, ix51, ix52, ix54, upd_same, Nat.reduceAdd, Nat.reduceSub, Nat.zero_add, Int.reduceToNat, Int.reduceLE, Int.reduceLT, decide_eq_true_eq, Bool.not_eq_true, if_true, if_false, Bool.false_eq_true, ite_true, ite_false, Bool.not_true, Bool.not_false, decide_true, decide_false, tFor_eq, tLc_eq, iList, iTup, iRng1, iRng2, iStr, tSl, tPart, tNoPart, rSlL, cxOf_K, wipe, ex_ty2, kit_LTl, kit_LTt, kit_LTd, kit_LTs, kit_LTn, kit_LTb, kit_LTi, tM1, rIxS, exists_eq', lt1p, tDNewK, rSlS, rEqNil]
          exact ⟨_, _, rfl, s17⟩
        · obtain ⟨v8, v9, rfl, s17⟩ := q
          exact ⟨_, _, _, _, _, _, _, _, _, rfl, hp16.same s17, by omega⟩
      · have c6 : 40 * i + 16 + 0 ≤ 40 * i + 22 := by omega
        try simp only [tSeq, tNext, tRet, tRetN, tAsg, gName, gSub, tDrop, tIfS, tOp, tUn, tCB, tCons, tNil, tC, tVar, rI, rI0, rU, tAnd, tOr, tNot, tAndV, tOrV, tNotV, tIf, tTest, tB, tCall, tChain, tLst, tTup, tYes, rIxH, rIsB, rIsBT, rMulS, kd_non, kd_bl, kd_int, kd_str, kd_ref, kdO_lst, kdO_tup, kdO_dK, nq_n, nq_b, nq_i, nq_s, nq_l, nq_t, nq_d, ne_eq, not_false_eq_true, kit_ss, kit_ns, kit_bs, kit_is, kit_ls, kit_ts, kit_ds, kit_bb, V.ty.injEq, and_assoc, rIxU, rLenH, rLenU, rLenS, rInt1, rSetL, rEq, rNe, rCat, L2.start, List.map, List.length, List.length_cons, List.length_nil, List.replicate, List.getElem?_cons_zero, List.getElem?_cons_succ, List.set_cons_zero, List.set_cons_succ, List.set_nil, List.cons_append, List.nil_append, List.append_nil, Option.some.injEq, V.int.injEq, V.ref.injEq, V.str.injEq, V.bl.injEq, HO.lst.injEq, HO.tup.injEq, exists_eq_left', exists_and_left, exists_eq_left, List.cons.injEq, and_true, true_and, and_false, false_and, and_self, reduceCtorEq, exists_false, or_false, false_or, exists_const, at0, at1, at2, at3, at4, at5, ix51, ix52, ix54, upd_same, Nat.reduceAdd, Nat.reduceSub, Nat.zero_add, Int.reduceToNat, Int.reduceLE, Int.reduceLT, decide_eq_true_eq, Bool.not_eq_true, if_true, if_false, Bool.false_eq_true, ite_true, ite_false, Bool.not_true, Bool.not_false, decide_true, decide_false, tFor_eq, tLc_eq, iList, iTup, iRng1, iRng2, iStr, tSl, tPart, tNoPart, rSlL, cxOf_K, wipe, ex_ty2, kit_LTl, kit_LTt, kit_LTd, kit_LTs, kit_LTn, kit_LTb, kit_LTi, tM1, rIxS, exists_eq', lt1p, tDNewK, rSlS, rEqNil]
        refine ⟨p, l, 3, _, rfl, by decide, by decide, w6.pool, by omega, fun v H7 v0 v1 hp7 off7 => ?_⟩
        have w7 := w6.turn hp7 (Off.s off7)
        try simp only [tSeq, tNext, tRet, tRetN, tAsg, gName, gSub, tDrop, tIfS, tOp, tUn, tCB, tCons, tNil, tC, tVar, rI, rI0, rU, tAnd, tOr, tNot, tAndV, tOrV, tNotV, tIf, tTest, tB, tCall, tChain, tLst, tTup, tYes, rIxH, rIsB, rIsBT, rMulS, kd_non, kd_bl, kd_int, kd_str, kd_ref, kdO_lst, kdO_tup, kdO_dK, nq_n, nq_b, nq_i, nq_s, nq_l, nq_t, nq_d, ne_eq, not_false_eq_true, kit_ss, kit_ns, kit_bs, kit_is, kit_ls, kit_ts, kit_ds, kit_bb, V.ty.injEq, and_assoc, rIxU, rLenH, rLenU, rLenS, rInt1, rSetL, rEq, rNe, rCat, L2.start, List.map, List.length, List.length_cons, List.length_nil, List.replicate, List.getElem?_cons_zero, List.getElem?_cons_succ, List.set_cons_zero, List.set_cons_succ, List.set_nil, List.cons_append, List.nil_append, List.append_nil, Option.some.injEq, V.int.injEq, V.ref.injEq, V.str.injEq, V.bl.injEq, HO.lst.injEq, HO.tup.injEq, exists_eq_left', exists_and_left, exists_eq_left, List.cons.injEq, and_true, true_and, and_false, false_and, and_self, reduceCtorEq, exists_false, or_false, false_or, exists_const, at0, at1, at2, at3, at4, at5, ix51, ix52, ix54, upd_same, Nat.reduceAdd, Nat.reduceSub, Nat.zero_add, Int.reduceToNat, Int.reduceLE, Int.reduceLT, decide_eq_true_eq, Bool.not_eq_true, if_true, if_false, Bool.false_eq_true, ite_true, ite_false, Bool.not_true, Bool.not_false, decide_true, decide_false, tFor_eq, tLc_eq, iList, iTup, iRng1, iRng2, iStr, tSl, tPart, tNoPart, rSlL, cxOf_K, wipe, ex_ty2, kit_LTl, kit_LTt, kit_LTd, kit_LTs, kit_LTn, kit_LTb, kit_LTi, tM1, rIxS, exists_eq', lt1p, tDNewK, rSlS, rEqNil, scal_int]
        refine ite2 (fun hv => ?_) (fun hv => ?_)
        · have c1 : CMulW px.num 3 := mulw bx.1 (m := 2) (by decide) (by decide)
          have c2 : CMulW px.den 3 := mulw (den_lt bx) (m := 2) (by decide) (by decide)
          try simp only [tSeq, tNext, tRet, tRetN, tAsg, gName, gSub, tDrop, tIfS, tOp, tUn, tCB, tCons, tNil, tC, tVar, rI, rI0, rU, tAnd, tOr, tNot, tAndV, tOrV, tNotV, tIf, tTest, tB, tCall, tChain, tLst, tTup, tYes, rIxH, rIsB, rIsBT, rMulS, kd_non, kd_bl, kd_int, kd_str, kd_ref, kdO_lst, kdO_tup, kdO_dK, nq_n, nq_b, nq_i, nq_s, nq_l, nq_t, nq_d, ne_eq, not_false_eq_true, kit_ss, kit_ns, kit_bs, kit_is, kit_ls, kit_ts, kit_ds, kit_bb, V.ty.injEq, and_assoc, rIxU, rLenH, rLenU, rLenS, rInt1, rSetL, rEq, rNe, rCat, L2.start, List.map, List.length, List.length_cons, List.length_nil, List.replicate, List.getElem?_cons_zero, List.getElem?_cons_succ, List.set_cons_zero, List.set_cons_succ, List.set_nil, List.cons_append, List.nil_append, List.append_nil, Option.some.injEq, V.int.injEq, V.ref.injEq, V.str.injEq, V.bl.injEq, HO.lst.injEq, HO.tup.injEq, exists_eq_left', exists_and_left, exists_eq_left, List.cons.injEq, and_true, true_and, and_false, false_and, and_self, reduceCtorEq, exists_false, or_false, false_or, exists_const, at0, at1, at2, at3, at4, at5, ix51, ix52, ix54, upd_same, Nat.reduceAdd, Nat.reduceSub, Nat.zero_add, Int.reduceToNat, Int.reduceLE, Int.reduceLT, decide_eq_true_eq, Bool.not_eq_true, if_true, if_false, Bool.false_eq_true, ite_true, ite_false, Bool.not_true, Bool.not_false, decide_true, decide_false, tFor_eq, tLc_eq, iList, iTup, iRng1, iRng2, iStr, tSl, tPart, tNoPart, rSlL, cxOf_K, wipe, ex_ty2, kit_LTl, kit_LTt, kit_LTd, kit_LTs, kit_LTn, kit_LTb, kit_LTi, tM1, rIxS, exists_eq', lt1p, tDNewK, rSlS, rEqNil, rt_at (w7.kn _ _ gx), c1]
          refine ⟨p, l, 3, _, rfl, by decide, by decide, w7.pool, by omega, fun u H8 u0 u1 hp8 off8 => ?_⟩
          have w8 := w7.turn hp8 (Off.s off8)
          try simp only [tSeq, tNext, tRet, tRetN, tAsg, gName, gSub, tDrop, tIfS, tOp, tUn, tCB, tCons, tNil, tC, tVar, rI, rI0, rU, tAnd, tOr, tNot, tAndV, tOrV, tNotV, tIf, tTest, tB, tCall, tChain, tLst, tTup, tYes, rIxH, rIsB, rIsBT, rMulS, kd_non, kd_bl, kd_int, kd_str, kd_ref, kdO_lst, kdO_tup, kdO_dK, nq_n, nq_b, nq_i, nq_s, nq_l, nq_t, nq_d, ne_eq, not_false_eq_true, kit_ss, kit_ns, kit_bs, kit_is, kit_ls, kit_ts, kit_ds, kit_bb, V.ty.injEq, and_assoc, rIxU, rLenH, rLenU, rLenS, rInt1, rSetL, rEq, rNe, rCat, L2.start, List.map, List.length, List.length_cons, List.length_nil, List.replicate, List.getElem?_cons_zero, List.getElem?_cons_succ, List.set_cons_zero, List.set_cons_succ, List.set_nil, List.cons_append, List.nil_append, List.append_nil, Option.some.injEq, V.int.injEq, V.ref.injEq, V.str.injEq, V.bl.injEq, HO.lst.injEq, HO.tup.injEq, exists_eq_left', exists_and_left, exists_eq_left, List.cons.injEq, and_true, true_and, and_false, false_and, and_self, reduceCtorEq, exists_false, or_false, false_or, exists_const, at0, at1, at2, at3, at4, at5, ix51, ix52, ix54, upd_same, Nat.reduceAdd, Nat.reduceSub, Nat.zero_add, Int.reduceToNat, Int.reduceLE, Int.reduceLT, decide_eq_true_eq, Bool.not_eq_true, if_true, if_false, Bool.false_eq_true, ite_true, ite_false, Bool.not_true, Bool.not_false, decide_true, decide_false, tFor_eq, tLc_eq, iList, iTup, iRng1, iRng2, iStr, tSl, tPart, tNoPart, rSlL, cxOf_K, wipe, ex_ty2, kit_LTl, kit_LTt, kit_LTd, kit_LTs, kit_LTn, kit_LTb, kit_LTi, tM1, rIxS, exists_eq', lt1p, tDNewK, rSlS, rEqNil, rt_at (w8.kn _ _ gx), c2]
          have d0 : (0 : Int) < px.den * 3 := by have := px.den_pos; omega
          have e3 : (2 : Nat) ^ 102 = 2 ^ 100 * 4 := by decide
          have e4 : 2 < (2 : Nat) ^ 100 := by decide
          have b1 : (px.num * 3 + u - 1).natAbs < 2 ^ 102 := by have := bx.1; omega
          have b2 : ((px.den : Int) * 3).natAbs < 2 ^ 102 := by have := bx.2; omega
          refine ⟨_, _, rfl, d0, abs_mono b2 (by decide), fun y nz => ?_⟩
          have nw := w8.new (o := rt (Rat.divInt (px.num * 3 + u - 1) (px.den * 3))) nz
          exact hN _ _ ⟨_, _, _, _, _, _, _, _, _, _, rfl, nw, by omega, (same_new (w8.free nz)) _ _ gx, ⟨y, rfl, upd_same⟩, (bd_divInt b1 b2 (by omega)).mono (by decide)⟩
        · exact hN _ _ ⟨_, _, _, _, _, _, _, _, _, _, rfl, w7, by omega, gx, gy, by_.mono (by decide)⟩
end


section
variable {P : Program} {w : World} {K : PySem.W.Frag} {mg : Str → Option Value} {base : Heap} {A : Adr}
theorem ok_law (T : Txt K mg A) : FnG P w K mg base CX0 9 A.a_Law A.d_Law ["_law_script"] (spLaw K) :=
  have ii := ok_isint T
  have ini := ok_init T ii (ok_gcd T)
  have isn := ok_isnum T ii
  have o := ok_of T ini
  have dr := ok_draw T (ok_mixed T)
  have i := ok_integer T dr
  have eq := ok_RatioEq_A T isn o
  have ne := ok_RatioNe_A T isn o
  ok_law_of T (ok_pool T) dr i (ok_pair T dr i) (ok_lowest T) (ok_right T ini (ok_signs T (ok_RatioLt T o) (ok_RatioLe T o) (ok_RatioGt T o) (ok_RatioGe T o) eq ne) (ok_due T) (ok_RatioBool T)) ini eq ne
end
theorem all_mk {l : PySem.W.OpenLaw} {w : World} {K : PySem.W.Frag} {h : Heap} {mg : Str → Option Value} {fa : Addr} {C_Ratio : Addr} {f1 : Addr} {od1 an1 : Option Addr} {sl1 : Array (Option Value)} {oc1 kV1 dc1 pm1 cd1 ct1 : Value} {f2 : Addr} {od2 an2 : Option Addr} {sl2 : Array (Option Value)} {oc2 kV2 dc2 pm2 cd2 ct2 : Value} {f3 : Addr} {od3 an3 : Option Addr} {sl3 : Array (Option Value)} {oc3 kV3 dc3 pm3 cd3 ct3 : Value} {T3 : Addr} {tc3 : Value} {tD3 : Option Addr} {ts3 : Array (Option Value)} {nn3 : Nat} {tk3_0 : Tok} {f4 : Addr} {od4 an4 : Option Addr} {sl4 : Array (Option Value)} {oc4 kV4 dc4 pm4 cd4 ct4 : Value} {f5 : Addr} {od5 an5 : Option Addr} {sl5 : Array (Option Value)} {oc5 kV5 dc5 pm5 cd5 ct5 : Value} {f6 : Addr} {od6 an6 : Option Addr} {sl6 : Array (Option Value)} {oc6 kV6 dc6 pm6 cd6 ct6 : Value} {f7 : Addr} {od7 an7 : Option Addr} {sl7 : Array (Option Value)} {oc7 kV7 dc7 pm7 cd7 ct7 : Value} {f8 : Addr} {od8 an8 : Option Addr} {sl8 : Array (Option Value)} {oc8 kV8 dc8 pm8 cd8 ct8 : Value} {f9 : Addr} {od9 an9 : Option Addr} {sl9 : Array (Option Value)} {oc9 kV9 dc9 pm9 cd9 ct9 : Value} {f10 : Addr} {od10 an10 : Option Addr} {sl10 : Array (Option Value)} {oc10 kV10 dc10 pm10 cd10 ct10 : Value} {f11 : Addr} {od11 an11 : Option Addr} {sl11 : Array (Option Value)} {oc11 kV11 dc11 pm11 cd11 ct11 : Value} {f12 : Addr} {od12 an12 : Option Addr} {sl12 : Array (Option Value)} {oc12 kV12 dc12 pm12 cd12 ct12 : Value} {f13 : Addr} {od13 an13 : Option Addr} {sl13 : Array (Option Value)} {oc13 kV13 dc13 pm13 cd13 ct13 : Value} {f14 : Addr} {od14 an14 : Option Addr} {sl14 : Array (Option Value)} {oc14 kV14 dc14 pm14 cd14 ct14 : Value} {f15 : Addr} {od15 an15 : Option Addr} {sl15 : Array (Option Value)} {oc15 kV15 dc15 pm15 cd15 ct15 : Value} {f16 : Addr} {od16 an16 : Option Addr} {sl16 : Array (Option Value)} {oc16 kV16 dc16 pm16 cd16 ct16 : Value} {f17 : Addr} {od17 an17 : Option Addr} {sl17 : Array (Option Value)} {oc17 kV17 dc17 pm17 cd17 ct17 : Value} {f18 : Addr} {od18 an18 : Option Addr} {sl18 : Array (Option Value)} {oc18 kV18 dc18 pm18 cd18 ct18 : Value} {f19 : Addr} {od19 an19 : Option Addr} {sl19 : Array (Option Value)} {oc19 kV19 dc19 pm19 cd19 ct19 : Value} {f20 : Addr} {od20 an20 : Option Addr} {sl20 : Array (Option Value)} {oc20 kV20 dc20 pm20 cd20 ct20 : Value} {f21 : Addr} {od21 an21 : Option Addr} {sl21 : Array (Option Value)} {oc21 kV21 dc21 pm21 cd21 ct21 : Value} {f22 : Addr} {od22 an22 : Option Addr} {sl22 : Array (Option Value)} {oc22 kV22 dc22 pm22 cd22 ct22 : Value}  (X : K.In h) (G : h.Ns mainGlobals mg) (hfa : mg "law" = some (.ref fa))
    (aCRatio : PySem.W.nsIn K mainGlobals "Ratio" = some (some (.ref C_Ratio)))
    (pgRatio : PySem.W.plainGet K C_Ratio Str.empty = true)
    (hdRatio : PySem.W.hasDictIn K C_Ratio = true)
    (poRatio : PySem.W.plainOver K C_Ratio = true)
    (saRatio : PySem.W.findIn K (.ref C_Ratio) "__setattr__" = some (some (.builtin "object.__setattr__")))
    (haRatio : PySem.W.findIn K (.ref C_Ratio) "__class__" = some (some (.builtin "object.__class__")))
    (hnRatio : PySem.W.specialIn K (.builtin "object.__class__") "__get__" = some (some (.builtin "getset_descriptor.__get__")))
    (tkRatio : PySem.W.takesIn K (.builtin "object.__class__") = some true)
    (hmRatio : PySem.W.mroIn K C_Ratio (.type "object") = some true)
    (mkRatio : PySem.W.makesIn K C_Ratio = true)
    (kcRatio : PySem.W.keepIn K (.ref C_Ratio) = true)
    (nRatiokept_top : PySem.W.findIn K (.ref C_Ratio) "kept_top" = some none)
    (nRatiokept_bottom : PySem.W.findIn K (.ref C_Ratio) "kept_bottom" = some none)
    (icRatio : PySem.W.isClsIn K C_Ratio = true)
    (tyRatio : PySem.W.typeIn K (.ref C_Ratio) = some (.type "type"))
    (qoRatioint : PySem.W.subIn K (.ref C_Ratio) (.type "int") = some false)
    (qoRatiobool : PySem.W.subIn K (.ref C_Ratio) (.type "bool") = some false)
    (qiRatioint : PySem.W.subIn K (.type "int") (.ref C_Ratio) = some false)
    (qiRatiobool : PySem.W.subIn K (.type "bool") (.ref C_Ratio) = some false)
    (qiRatiostr : PySem.W.subIn K (.type "str") (.ref C_Ratio) = some false)
    (qiRatiolist : PySem.W.subIn K (.type "list") (.ref C_Ratio) = some false)
    (qiRatiotuple : PySem.W.subIn K (.type "tuple") (.ref C_Ratio) = some false)
    (qiRatiodict : PySem.W.subIn K (.type "dict") (.ref C_Ratio) = some false)
    (qiRatioNoneType : PySem.W.subIn K (.type "NoneType") (.ref C_Ratio) = some false)
    (rdRatio : PySem.W.readsIn K C_Ratio (.type "type") = true)
    (rgRatio : PySem.W.specialIn K (.ref C_Ratio) "__getattribute__" = some (some (.builtin "type.__getattribute__")))
    (wRatioint : PySem.W.notFirst K C_Ratio (.type "int") = true)
    (wRatiobool : PySem.W.notFirst K C_Ratio (.type "bool") = true)
    (wRatiostr : PySem.W.notFirst K C_Ratio (.type "str") = true)
    (wRatiolist : PySem.W.notFirst K C_Ratio (.type "list") = true)
    (wRatiotuple : PySem.W.notFirst K C_Ratio (.type "tuple") = true)
    (wRatiodict : PySem.W.notFirst K C_Ratio (.type "dict") = true)
    (wRatioNoneType : PySem.W.notFirst K C_Ratio (.type "NoneType") = true)
    (sfRatio : PySem.W.selfFirst K C_Ratio = true)
    (nfRatio : PySem.W.notFirst K C_Ratio (.type "int") = true)
    (siRatio : PySem.W.subIn K (.ref C_Ratio) (.type "int") = some false)
    (isRatio : PySem.W.subIn K (.type "int") (.ref C_Ratio) = some false)
    (a1 : PySem.W.nsIn K mainGlobals "is_integer" = some (some (.ref f1)))
    (l1 : K.lookup f1 = some ⟨oc1, od1, .func (PySem.W.fnOf "is_integer" "is_integer" (defArgs sIsInteger) (defBody sIsInteger) (defScope sIsInteger) .none kV1 dc1 pm1 an1 cd1 ct1), sl1⟩)
    (c1 : PySem.W.codeIn K cd1 "is_integer" = true)
    (k1 : PySem.W.keepIn K (.ref f1) = true)
    (a2 : PySem.W.nsIn K mainGlobals "common_divisor" = some (some (.ref f2)))
    (l2 : K.lookup f2 = some ⟨oc2, od2, .func (PySem.W.fnOf "common_divisor" "common_divisor" (defArgs sCommonDivisor) (defBody sCommonDivisor) (defScope sCommonDivisor) .none kV2 dc2 pm2 an2 cd2 ct2), sl2⟩)
    (c2 : PySem.W.codeIn K cd2 "common_divisor" = true)
    (k2 : PySem.W.keepIn K (.ref f2) = true)
    (a3 : PySem.W.findIn K (.ref C_Ratio) "__init__" = some (some (.ref f3)))
    (i3 : PySem.W.isFn K (.ref f3) = true)
    (l3 : K.lookup f3 = some ⟨oc3, od3, .func (PySem.W.fnOf "__init__" "Ratio.__init__" (defArgs sRatioInit) (defBody sRatioInit) (defScope sRatioInit) (.ref T3) kV3 dc3 pm3 an3 cd3 ct3), sl3⟩)
    (c3 : PySem.W.codeIn K cd3 "Ratio.__init__" = true)
    (k3 : PySem.W.keepIn K (.ref f3) = true)
    (lt3 : K.lookup T3 = some ⟨tc3, tD3, .seq #[.int 1 tk3_0] nn3, ts3⟩)
    (a4 : PySem.W.findIn K (.ref C_Ratio) "__bool__" = some (some (.ref f4)))
    (i4 : PySem.W.isFn K (.ref f4) = true)
    (l4 : K.lookup f4 = some ⟨oc4, od4, .func (PySem.W.fnOf "__bool__" "Ratio.__bool__" (defArgs sRatioBool) (defBody sRatioBool) (defScope sRatioBool) .none kV4 dc4 pm4 an4 cd4 ct4), sl4⟩)
    (c4 : PySem.W.codeIn K cd4 "Ratio.__bool__" = true)
    (k4 : PySem.W.keepIn K (.ref f4) = true)
    (a5 : PySem.W.findIn K (.ref C_Ratio) "__eq__" = some (some (.ref f5)))
    (i5 : PySem.W.isFn K (.ref f5) = true)
    (l5 : K.lookup f5 = some ⟨oc5, od5, .func (PySem.W.fnOf "__eq__" "Ratio.__eq__" (defArgs sRatioEq) (defBody sRatioEq) (defScope sRatioEq) .none kV5 dc5 pm5 an5 cd5 ct5), sl5⟩)
    (c5 : PySem.W.codeIn K cd5 "Ratio.__eq__" = true)
    (k5 : PySem.W.keepIn K (.ref f5) = true)
    (a6 : PySem.W.findIn K (.ref C_Ratio) "__ne__" = some (some (.ref f6)))
    (i6 : PySem.W.isFn K (.ref f6) = true)
    (l6 : K.lookup f6 = some ⟨oc6, od6, .func (PySem.W.fnOf "__ne__" "Ratio.__ne__" (defArgs sRatioNe) (defBody sRatioNe) (defScope sRatioNe) .none kV6 dc6 pm6 an6 cd6 ct6), sl6⟩)
    (c6 : PySem.W.codeIn K cd6 "Ratio.__ne__" = true)
    (k6 : PySem.W.keepIn K (.ref f6) = true)
    (a7 : PySem.W.findIn K (.ref C_Ratio) "__lt__" = some (some (.ref f7)))
    (i7 : PySem.W.isFn K (.ref f7) = true)
    (l7 : K.lookup f7 = some ⟨oc7, od7, .func (PySem.W.fnOf "__lt__" "Ratio.__lt__" (defArgs sRatioLt) (defBody sRatioLt) (defScope sRatioLt) .none kV7 dc7 pm7 an7 cd7 ct7), sl7⟩)
    (c7 : PySem.W.codeIn K cd7 "Ratio.__lt__" = true)
    (k7 : PySem.W.keepIn K (.ref f7) = true)
    (a8 : PySem.W.findIn K (.ref C_Ratio) "__le__" = some (some (.ref f8)))
    (i8 : PySem.W.isFn K (.ref f8) = true)
    (l8 : K.lookup f8 = some ⟨oc8, od8, .func (PySem.W.fnOf "__le__" "Ratio.__le__" (defArgs sRatioLe) (defBody sRatioLe) (defScope sRatioLe) .none kV8 dc8 pm8 an8 cd8 ct8), sl8⟩)
    (c8 : PySem.W.codeIn K cd8 "Ratio.__le__" = true)
    (k8 : PySem.W.keepIn K (.ref f8) = true)
    (a9 : PySem.W.findIn K (.ref C_Ratio) "__gt__" = some (some (.ref f9)))
    (i9 : PySem.W.isFn K (.ref f9) = true)
    (l9 : K.lookup f9 = some ⟨oc9, od9, .func (PySem.W.fnOf "__gt__" "Ratio.__gt__" (defArgs sRatioGt) (defBody sRatioGt) (defScope sRatioGt) .none kV9 dc9 pm9 an9 cd9 ct9), sl9⟩)
    (c9 : PySem.W.codeIn K cd9 "Ratio.__gt__" = true)
    (k9 : PySem.W.keepIn K (.ref f9) = true)
    (a10 : PySem.W.findIn K (.ref C_Ratio) "__ge__" = some (some (.ref f10)))
    (i10 : PySem.W.isFn K (.ref f10) = true)
    (l10 : K.lookup f10 = some ⟨oc10, od10, .func (PySem.W.fnOf "__ge__" "Ratio.__ge__" (defArgs sRatioGe) (defBody sRatioGe) (defScope sRatioGe) .none kV10 dc10 pm10 an10 cd10 ct10), sl10⟩)
    (c10 : PySem.W.codeIn K cd10 "Ratio.__ge__" = true)
    (k10 : PySem.W.keepIn K (.ref f10) = true)
    (a11 : PySem.W.nsIn K mainGlobals "is_number" = some (some (.ref f11)))
    (l11 : K.lookup f11 = some ⟨oc11, od11, .func (PySem.W.fnOf "is_number" "is_number" (defArgs sIsNumber) (defBody sIsNumber) (defScope sIsNumber) .none kV11 dc11 pm11 an11 cd11 ct11), sl11⟩)
    (c11 : PySem.W.codeIn K cd11 "is_number" = true)
    (k11 : PySem.W.keepIn K (.ref f11) = true)
    (a12 : PySem.W.nsIn K mainGlobals "ratio_of" = some (some (.ref f12)))
    (l12 : K.lookup f12 = some ⟨oc12, od12, .func (PySem.W.fnOf "ratio_of" "ratio_of" (defArgs sRatioOf) (defBody sRatioOf) (defScope sRatioOf) .none kV12 dc12 pm12 an12 cd12 ct12), sl12⟩)
    (c12 : PySem.W.codeIn K cd12 "ratio_of" = true)
    (k12 : PySem.W.keepIn K (.ref f12) = true)
    (a13 : PySem.W.nsIn K mainGlobals "_law_pool" = some (some (.ref f13)))
    (l13 : K.lookup f13 = some ⟨oc13, od13, .func (PySem.W.fnOf "_law_pool" "_law_pool" (defArgs sLawPool) (defBody sLawPool) (defScope sLawPool) .none kV13 dc13 pm13 an13 cd13 ct13), sl13⟩)
    (c13 : PySem.W.codeIn K cd13 "_law_pool" = true)
    (k13 : PySem.W.keepIn K (.ref f13) = true)
    (a14 : PySem.W.nsIn K mainGlobals "_law_mixed" = some (some (.ref f14)))
    (l14 : K.lookup f14 = some ⟨oc14, od14, .func (PySem.W.fnOf "_law_mixed" "_law_mixed" (defArgs sLawMixed) (defBody sLawMixed) (defScope sLawMixed) .none kV14 dc14 pm14 an14 cd14 ct14), sl14⟩)
    (c14 : PySem.W.codeIn K cd14 "_law_mixed" = true)
    (k14 : PySem.W.keepIn K (.ref f14) = true)
    (a15 : PySem.W.nsIn K mainGlobals "_law_draw" = some (some (.ref f15)))
    (l15 : K.lookup f15 = some ⟨oc15, od15, .func (PySem.W.fnOf "_law_draw" "_law_draw" (defArgs sLawDraw) (defBody sLawDraw) (defScope sLawDraw) .none kV15 dc15 pm15 an15 cd15 ct15), sl15⟩)
    (c15 : PySem.W.codeIn K cd15 "_law_draw" = true)
    (k15 : PySem.W.keepIn K (.ref f15) = true)
    (a16 : PySem.W.nsIn K mainGlobals "_law_lowest" = some (some (.ref f16)))
    (l16 : K.lookup f16 = some ⟨oc16, od16, .func (PySem.W.fnOf "_law_lowest" "_law_lowest" (defArgs sLawLowest) (defBody sLawLowest) (defScope sLawLowest) .none kV16 dc16 pm16 an16 cd16 ct16), sl16⟩)
    (c16 : PySem.W.codeIn K cd16 "_law_lowest" = true)
    (k16 : PySem.W.keepIn K (.ref f16) = true)
    (a17 : PySem.W.nsIn K mainGlobals "_law_integer" = some (some (.ref f17)))
    (l17 : K.lookup f17 = some ⟨oc17, od17, .func (PySem.W.fnOf "_law_integer" "_law_integer" (defArgs sLawInteger) (defBody sLawInteger) (defScope sLawInteger) .none kV17 dc17 pm17 an17 cd17 ct17), sl17⟩)
    (c17 : PySem.W.codeIn K cd17 "_law_integer" = true)
    (k17 : PySem.W.keepIn K (.ref f17) = true)
    (a18 : PySem.W.nsIn K mainGlobals "_law_pair" = some (some (.ref f18)))
    (l18 : K.lookup f18 = some ⟨oc18, od18, .func (PySem.W.fnOf "_law_pair" "_law_pair" (defArgs sLawPair) (defBody sLawPair) (defScope sLawPair) .none kV18 dc18 pm18 an18 cd18 ct18), sl18⟩)
    (c18 : PySem.W.codeIn K cd18 "_law_pair" = true)
    (k18 : PySem.W.keepIn K (.ref f18) = true)
    (a19 : PySem.W.nsIn K mainGlobals "_law_signs" = some (some (.ref f19)))
    (l19 : K.lookup f19 = some ⟨oc19, od19, .func (PySem.W.fnOf "_law_signs" "_law_signs" (defArgs sLawSigns) (defBody sLawSigns) (defScope sLawSigns) .none kV19 dc19 pm19 an19 cd19 ct19), sl19⟩)
    (c19 : PySem.W.codeIn K cd19 "_law_signs" = true)
    (k19 : PySem.W.keepIn K (.ref f19) = true)
    (a20 : PySem.W.nsIn K mainGlobals "_law_due" = some (some (.ref f20)))
    (l20 : K.lookup f20 = some ⟨oc20, od20, .func (PySem.W.fnOf "_law_due" "_law_due" (defArgs sLawDue) (defBody sLawDue) (defScope sLawDue) .none kV20 dc20 pm20 an20 cd20 ct20), sl20⟩)
    (c20 : PySem.W.codeIn K cd20 "_law_due" = true)
    (k20 : PySem.W.keepIn K (.ref f20) = true)
    (a21 : PySem.W.nsIn K mainGlobals "_law_right" = some (some (.ref f21)))
    (l21 : K.lookup f21 = some ⟨oc21, od21, .func (PySem.W.fnOf "_law_right" "_law_right" (defArgs sLawRight) (defBody sLawRight) (defScope sLawRight) .none kV21 dc21 pm21 an21 cd21 ct21), sl21⟩)
    (c21 : PySem.W.codeIn K cd21 "_law_right" = true)
    (k21 : PySem.W.keepIn K (.ref f21) = true)
    (a22 : PySem.W.nsIn K mainGlobals "law" = some (some (.ref f22)))
    (l22 : K.lookup f22 = some ⟨oc22, od22, .func (PySem.W.fnOf "law" "law" (defArgs sLaw) (defBody sLaw) (defScope sLaw) .none kV22 dc22 pm22 an22 cd22 ct22), sl22⟩)
    (c22 : PySem.W.codeIn K cd22 "law" = true)
    (k22 : PySem.W.keepIn K (.ref f22) = true)
    (z0 : PySem.W.nsIn K mainGlobals "isinstance" = some none)
    (z1 : PySem.W.nsIn K mainGlobals "int" = some none)
    (z2 : PySem.W.nsIn K mainGlobals "bool" = some none)
    (z3 : PySem.W.nsIn K mainGlobals "abs" = some none)
    (z9 : PySem.W.nsIn K mainGlobals "NotImplemented" = some none)
    (z11 : PySem.W.nsIn K mainGlobals "len" = some none)
    (z15 : PySem.W.nsIn K mainGlobals "repr" = some none)
    (z19 : PySem.W.nsIn K mainGlobals "range" = some none)
    (z22 : PySem.W.nsIn K mainGlobals "str" = some none) :
    ∃ fd : FuncData, (∀ (s : Shared) (v : Value), BindsTo s fd ⟨[v], []⟩ [("_law_script", v)]) ∧ ∀ base : Heap, K.In base → base.Ns mainGlobals mg → FnG l.prog w K mg base CX0 9 fa fd ["_law_script"] (spLaw K) := by
  have e := hfa.symm.trans (PySem.W.mg_of X G a22)
  cases e
  have F1 := fun_mk (st := sIsInteger) l1 c1 k1
  have b1 := F1.binds (ps := ["value"]) fun _ _ _ _ _ _ us hl => match us, hl with | [_], _ => rfl
  have F2 := fun_mk (st := sCommonDivisor) l2 c2 k2
  have b2 := F2.binds (ps := ["first", "second"]) fun _ _ _ _ _ _ us hl => match us, hl with | [_, _], _ => rfl
  have F3 : FunD K "__init__" "Ratio.__init__" (defArgs sRatioInit) (defBody sRatioInit) (defScope sRatioInit) [.int 1] [] f3 (PySem.W.fnOf "__init__" "Ratio.__init__" (defArgs sRatioInit) (defBody sRatioInit) (defScope sRatioInit) (.ref T3) kV3 dc3 pm3 an3 cd3 ct3) := ⟨⟨_, _, _, _, _, _, _, _, _, _, rfl, l3, c3, Or.inr ⟨by simp, _, _, _, _, rfl, lt3, rfl, (.cons ⟨_, rfl⟩ .nil)⟩, Or.inl rfl⟩, k3⟩
  have b3 : Binds K (PySem.W.fnOf "__init__" "Ratio.__init__" (defArgs sRatioInit) (defBody sRatioInit) (defScope sRatioInit) (.ref T3) kV3 dc3 pm3 an3 cd3 ct3) ["self", "top", "bottom"] [] := by
    obtain ⟨ds, v, b⟩ := F3.binds1 (ps := ["self", "top", "bottom"]) 3 1 (by simp) (by decide) fun _ _ _ _ _ _ _ us its h1 h2 => match us, its, h1, h2 with | [_, _, _], [_], _, _ => ⟨_, rfl, rfl⟩
    cases v
    exact b
  have e1_3 := F3.binds1 (ps := ["self", "top", "bottom"]) 2 0 (by simp) (by decide) fun _ _ _ _ _ _ _ us its h1 h2 => match us, its, h1, h2 with | [_, _], [_], _, _ => ⟨_, rfl, rfl⟩
  have F4 := fun_mk (st := sRatioBool) l4 c4 k4
  have b4 := F4.binds (ps := ["self"]) fun _ _ _ _ _ _ us hl => match us, hl with | [_], _ => rfl
  have F5 := fun_mk (st := sRatioEq) l5 c5 k5
  have b5 := F5.binds (ps := ["self", "other"]) fun _ _ _ _ _ _ us hl => match us, hl with | [_, _], _ => rfl
  have F6 := fun_mk (st := sRatioNe) l6 c6 k6
  have b6 := F6.binds (ps := ["self", "other"]) fun _ _ _ _ _ _ us hl => match us, hl with | [_, _], _ => rfl
  have F7 := fun_mk (st := sRatioLt) l7 c7 k7
  have b7 := F7.binds (ps := ["self", "other"]) fun _ _ _ _ _ _ us hl => match us, hl with | [_, _], _ => rfl
  have F8 := fun_mk (st := sRatioLe) l8 c8 k8
  have b8 := F8.binds (ps := ["self", "other"]) fun _ _ _ _ _ _ us hl => match us, hl with | [_, _], _ => rfl
  have F9 := fun_mk (st := sRatioGt) l9 c9 k9
  have b9 := F9.binds (ps := ["self", "other"]) fun _ _ _ _ _ _ us hl => match us, hl with | [_, _], _ => rfl
  have F10 := fun_mk (st := sRatioGe) l10 c10 k10
  have b10 := F10.binds (ps := ["self", "other"]) fun _ _ _ _ _ _ us hl => match us, hl with | [_, _], _ => rfl
  have F11 := fun_mk (st := sIsNumber) l11 c11 k11
  have b11 := F11.binds (ps := ["value"]) fun _ _ _ _ _ _ us hl => match us, hl with | [_], _ => rfl
  have F12 := fun_mk (st := sRatioOf) l12 c12 k12
  have b12 := F12.binds (ps := ["number"]) fun _ _ _ _ _ _ us hl => match us, hl with | [_], _ => rfl
  have F13 := fun_mk (st := sLawPool) l13 c13 k13
  have b13 := F13.binds (ps := ["_law_script"]) fun _ _ _ _ _ _ us hl => match us, hl with | [_], _ => rfl
  have F14 := fun_mk (st := sLawMixed) l14 c14 k14
  have b14 := F14.binds (ps := ["_law_number", "_law_count", "_law_many"]) fun _ _ _ _ _ _ us hl => match us, hl with | [_, _, _], _ => rfl
  have F15 := fun_mk (st := sLawDraw) l15 c15 k15
  have b15 := F15.binds (ps := ["_law_pool_here", "_law_many"]) fun _ _ _ _ _ _ us hl => match us, hl with | [_, _], _ => rfl
  have F16 := fun_mk (st := sLawLowest) l16 c16 k16
  have b16 := F16.binds (ps := ["_law_upper", "_law_lower"]) fun _ _ _ _ _ _ us hl => match us, hl with | [_, _], _ => rfl
  have F17 := fun_mk (st := sLawInteger) l17 c17 k17
  have b17 := F17.binds (ps := ["_law_pool_here"]) fun _ _ _ _ _ _ us hl => match us, hl with | [_], _ => rfl
  have F18 := fun_mk (st := sLawPair) l18 c18 k18
  have b18 := F18.binds (ps := ["_law_pool_here"]) fun _ _ _ _ _ _ us hl => match us, hl with | [_], _ => rfl
  have F19 := fun_mk (st := sLawSigns) l19 c19 k19
  have b19 := F19.binds (ps := ["_law_one", "_law_other"]) fun _ _ _ _ _ _ us hl => match us, hl with | [_, _], _ => rfl
  have F20 := fun_mk (st := sLawDue) l20 c20 k20
  have b20 := F20.binds (ps := ["_law_first", "_law_second"]) fun _ _ _ _ _ _ us hl => match us, hl with | [_, _], _ => rfl
  have F21 := fun_mk (st := sLawRight) l21 c21 k21
  have b21 := F21.binds (ps := ["_law_first", "_law_second", "_law_number"]) fun _ _ _ _ _ _ us hl => match us, hl with | [_, _, _], _ => rfl
  have F22 := fun_mk (st := sLaw) l22 c22 k22
  have b22 := F22.binds (ps := ["_law_script"]) fun _ _ _ _ _ _ us hl => match us, hl with | [_], _ => rfl
  have T : Txt K mg ⟨C_Ratio, f1, PySem.W.fnOf "is_integer" "is_integer" (defArgs sIsInteger) (defBody sIsInteger) (defScope sIsInteger) .none kV1 dc1 pm1 an1 cd1 ct1, f2, PySem.W.fnOf "common_divisor" "common_divisor" (defArgs sCommonDivisor) (defBody sCommonDivisor) (defScope sCommonDivisor) .none kV2 dc2 pm2 an2 cd2 ct2, f3, PySem.W.fnOf "__init__" "Ratio.__init__" (defArgs sRatioInit) (defBody sRatioInit) (defScope sRatioInit) (.ref T3) kV3 dc3 pm3 an3 cd3 ct3, f4, PySem.W.fnOf "__bool__" "Ratio.__bool__" (defArgs sRatioBool) (defBody sRatioBool) (defScope sRatioBool) .none kV4 dc4 pm4 an4 cd4 ct4, f5, PySem.W.fnOf "__eq__" "Ratio.__eq__" (defArgs sRatioEq) (defBody sRatioEq) (defScope sRatioEq) .none kV5 dc5 pm5 an5 cd5 ct5, f6, PySem.W.fnOf "__ne__" "Ratio.__ne__" (defArgs sRatioNe) (defBody sRatioNe) (defScope sRatioNe) .none kV6 dc6 pm6 an6 cd6 ct6, f7, PySem.W.fnOf "__lt__" "Ratio.__lt__" (defArgs sRatioLt) (defBody sRatioLt) (defScope sRatioLt) .none kV7 dc7 pm7 an7 cd7 ct7, f8, PySem.W.fnOf "__le__" "Ratio.__le__" (defArgs sRatioLe) (defBody sRatioLe) (defScope sRatioLe) .none kV8 dc8 pm8 an8 cd8 ct8, f9, PySem.W.fnOf "__gt__" "Ratio.__gt__" (defArgs sRatioGt) (defBody sRatioGt) (defScope sRatioGt) .none kV9 dc9 pm9 an9 cd9 ct9, f10, PySem.W.fnOf "__ge__" "Ratio.__ge__" (defArgs sRatioGe) (defBody sRatioGe) (defScope sRatioGe) .none kV10 dc10 pm10 an10 cd10 ct10, f11, PySem.W.fnOf "is_number" "is_number" (defArgs sIsNumber) (defBody sIsNumber) (defScope sIsNumber) .none kV11 dc11 pm11 an11 cd11 ct11, f12, PySem.W.fnOf "ratio_of" "ratio_of" (defArgs sRatioOf) (defBody sRatioOf) (defScope sRatioOf) .none kV12 dc12 pm12 an12 cd12 ct12, f13, PySem.W.fnOf "_law_pool" "_law_pool" (defArgs sLawPool) (defBody sLawPool) (defScope sLawPool) .none kV13 dc13 pm13 an13 cd13 ct13, f14, PySem.W.fnOf "_law_mixed" "_law_mixed" (defArgs sLawMixed) (defBody sLawMixed) (defScope sLawMixed) .none kV14 dc14 pm14 an14 cd14 ct14, f15, PySem.W.fnOf "_law_draw" "_law_draw" (defArgs sLawDraw) (defBody sLawDraw) (defScope sLawDraw) .none kV15 dc15 pm15 an15 cd15 ct15, f16, PySem.W.fnOf "_law_lowest" "_law_lowest" (defArgs sLawLowest) (defBody sLawLowest) (defScope sLawLowest) .none kV16 dc16 pm16 an16 cd16 ct16, f17, PySem.W.fnOf "_law_integer" "_law_integer" (defArgs sLawInteger) (defBody sLawInteger) (defScope sLawInteger) .none kV17 dc17 pm17 an17 cd17 ct17, f18, PySem.W.fnOf "_law_pair" "_law_pair" (defArgs sLawPair) (defBody sLawPair) (defScope sLawPair) .none kV18 dc18 pm18 an18 cd18 ct18, f19, PySem.W.fnOf "_law_signs" "_law_signs" (defArgs sLawSigns) (defBody sLawSigns) (defScope sLawSigns) .none kV19 dc19 pm19 an19 cd19 ct19, f20, PySem.W.fnOf "_law_due" "_law_due" (defArgs sLawDue) (defBody sLawDue) (defScope sLawDue) .none kV20 dc20 pm20 an20 cd20 ct20, f21, PySem.W.fnOf "_law_right" "_law_right" (defArgs sLawRight) (defBody sLawRight) (defScope sLawRight) .none kV21 dc21 pm21 an21 cd21 ct21, _, PySem.W.fnOf "law" "law" (defArgs sLaw) (defBody sLaw) (defScope sLaw) .none kV22 dc22 pm22 an22 cd22 ct22⟩ := ⟨PySem.W.mg_of X G aCRatio, ⟨⟨pgRatio, hdRatio, poRatio, saRatio⟩, haRatio, hnRatio, tkRatio, hmRatio⟩, ⟨mkRatio, a3, i3, kcRatio⟩, nRatiokept_top, nRatiokept_bottom, kit_out qoRatioint, kit_out qoRatiobool, kit_in icRatio tyRatio qiRatioint (by intro z; cases z), kit_in icRatio tyRatio qiRatiobool (by intro z; cases z), kit_in icRatio tyRatio qiRatiostr (by intro z; cases z), kit_in icRatio tyRatio qiRatiolist (by intro z; cases z), kit_in icRatio tyRatio qiRatiotuple (by intro z; cases z), kit_in icRatio tyRatio qiRatiodict (by intro z; cases z), kit_in icRatio tyRatio qiRatioNoneType (by intro z; cases z), ⟨rdRatio, rgRatio⟩, wRatioint, wRatiobool, wRatiostr, wRatiolist, wRatiotuple, wRatiodict, wRatioNoneType, F1, PySem.W.mg_of X G a1, b1, F2, PySem.W.mg_of X G a2, b2, F3, e1_3, ⟨a3, i3, k3⟩, b3, F4, ⟨a4, i4, k4⟩, ⟨a4, i4⟩, b4, F5, ⟨a5, i5, k5⟩, ⟨a5, i5, nfRatio⟩, ⟨a5, i5, siRatio⟩, b5, F6, ⟨a6, i6, k6⟩, ⟨a6, i6, nfRatio⟩, ⟨a6, i6, siRatio⟩, b6, F7, ⟨a7, i7, k7⟩, ⟨a7, i7, nfRatio⟩, ⟨a7, i7, siRatio⟩, b7, F8, ⟨a8, i8, k8⟩, ⟨a8, i8, nfRatio⟩, ⟨a8, i8, siRatio⟩, b8, F9, ⟨a9, i9, k9⟩, ⟨a9, i9, nfRatio⟩, ⟨a9, i9, siRatio⟩, b9, F10, ⟨a10, i10, k10⟩, ⟨a10, i10, nfRatio⟩, ⟨a10, i10, siRatio⟩, b10, F11, PySem.W.mg_of X G a11, b11, F12, PySem.W.mg_of X G a12, b12, F13, PySem.W.mg_of X G a13, b13, F14, PySem.W.mg_of X G a14, b14, F15, PySem.W.mg_of X G a15, b15, F16, PySem.W.mg_of X G a16, b16, F17, PySem.W.mg_of X G a17, b17, F18, PySem.W.mg_of X G a18, b18, F19, PySem.W.mg_of X G a19, b19, F20, PySem.W.mg_of X G a20, b20, F21, PySem.W.mg_of X G a21, b21, F22, PySem.W.mg_of X G a22, b22, PySem.W.mg_none_of X G z0, PySem.W.mg_none_of X G z1, PySem.W.mg_none_of X G z2, PySem.W.mg_none_of X G z3, PySem.W.mg_none_of X G z9, PySem.W.mg_none_of X G z11, PySem.W.mg_none_of X G z15, PySem.W.mg_none_of X G z19, PySem.W.mg_none_of X G z22⟩
  exact ⟨_, fun s v => .of_eq rfl, fun base _ _ => ok_law T⟩
end My
open PySem PySem.W PyProof.Rows in
set_option maxRecDepth 100000 in
set_option maxHeartbeats 0 in
theorem PySem.Challenge.cw_lineorigins_k03_ratios_compared_holds : PySem.Challenge.rw_lineorigins_k03_ratios_compared.Holds := by
  w_on; o_law; k_head; (case hw => w_witness2)
  k_fill
  refine My.walk_ofG (l := PySem.Challenge.rw_lineorigins_k03_ratios_compared) (n := 63) (k := 9) (x := "_law_script") (sp := fun K => My.spLaw K) rfl (by decide) rfl ⟨rfl, by decide, by decide⟩ (fun w h Y => PySem.W.kIn_of Y) ?F (fun _ _ a ns hl hS => ⟨a, ns, rfl, hS, hl, fun _ => rfl⟩)
  case F =>
    intro w mg fa h KX G hmg
    refine' My.all_mk KX G hmg ?aCRatio ?pgRatio ?hdRatio ?poRatio ?saRatio ?haRatio ?hnRatio ?tkRatio ?hmRatio ?mkRatio ?kcRatio ?nRatiokept_top ?nRatiokept_bottom ?icRatio ?tyRatio ?qoRatioint ?qoRatiobool ?qiRatioint ?qiRatiobool ?qiRatiostr ?qiRatiolist ?qiRatiotuple ?qiRatiodict ?qiRatioNoneType ?rdRatio ?rgRatio ?wRatioint ?wRatiobool ?wRatiostr ?wRatiolist ?wRatiotuple ?wRatiodict ?wRatioNoneType ?sfRatio ?nfRatio ?siRatio ?isRatio ?a1 ?l1 ?c1 ?k1 ?a2 ?l2 ?c2 ?k2 ?a3 ?i3 ?l3 ?c3 ?k3 ?lt3 ?a4 ?i4 ?l4 ?c4 ?k4 ?a5 ?i5 ?l5 ?c5 ?k5 ?a6 ?i6 ?l6 ?c6 ?k6 ?a7 ?i7 ?l7 ?c7 ?k7 ?a8 ?i8 ?l8 ?c8 ?k8 ?a9 ?i9 ?l9 ?c9 ?k9 ?a10 ?i10 ?l10 ?c10 ?k10 ?a11 ?l11 ?c11 ?k11 ?a12 ?l12 ?c12 ?k12 ?a13 ?l13 ?c13 ?k13 ?a14 ?l14 ?c14 ?k14 ?a15 ?l15 ?c15 ?k15 ?a16 ?l16 ?c16 ?k16 ?a17 ?l17 ?c17 ?k17 ?a18 ?l18 ?c18 ?k18 ?a19 ?l19 ?c19 ?k19 ?a20 ?l20 ?c20 ?k20 ?a21 ?l21 ?c21 ?k21 ?a22 ?l22 ?c22 ?k22 ?z0 ?z1 ?z2 ?z3 ?z9 ?z11 ?z15 ?z19 ?z22
    (case aCRatio => k_is); (case pgRatio => k_is); (case hdRatio => k_is); (case poRatio => k_is); (case saRatio => k_is); (case haRatio => k_is); (case hnRatio => k_is); (case tkRatio => k_is); (case hmRatio => k_is); (case mkRatio => k_is); (case kcRatio => k_is); (case nRatiokept_top => k_is); (case nRatiokept_bottom => k_is); (case icRatio => k_is); (case tyRatio => k_is); (case qoRatioint => k_is); (case qoRatiobool => k_is); (case qiRatioint => k_is); (case qiRatiobool => k_is); (case qiRatiostr => k_is); (case qiRatiolist => k_is); (case qiRatiotuple => k_is); (case qiRatiodict => k_is); (case qiRatioNoneType => k_is); (case rdRatio => k_is); (case rgRatio => k_is); (case wRatioint => k_is); (case wRatiobool => k_is); (case wRatiostr => k_is); (case wRatiolist => k_is); (case wRatiotuple => k_is); (case wRatiodict => k_is); (case wRatioNoneType => k_is); (case sfRatio => k_is); (case nfRatio => k_is); (case siRatio => k_is); (case isRatio => k_is); (case a1 => k_is); (case l1 => k_is); (case c1 => k_is); (case k1 => k_is); (case a2 => k_is); (case l2 => k_is); (case c2 => k_is); (case k2 => k_is); (case a3 => k_is); (case i3 => k_is); (case l3 => k_is); (case c3 => k_is); (case k3 => k_is); (case lt3 => k_is); (case a4 => k_is); (case i4 => k_is); (case l4 => k_is); (case c4 => k_is); (case k4 => k_is); (case a5 => k_is); (case i5 => k_is); (case l5 => k_is); (case c5 => k_is); (case k5 => k_is); (case a6 => k_is); (case i6 => k_is); (case l6 => k_is); (case c6 => k_is); (case k6 => k_is); (case a7 => k_is); (case i7 => k_is); (case l7 => k_is); (case c7 => k_is); (case k7 => k_is); (case a8 => k_is); (case i8 => k_is); (case l8 => k_is); (case c8 => k_is); (case k8 => k_is); (case a9 => k_is); (case i9 => k_is); (case l9 => k_is); (case c9 => k_is); (case k9 => k_is); (case a10 => k_is); (case i10 => k_is); (case l10 => k_is); (case c10 => k_is); (case k10 => k_is); (case a11 => k_is); (case l11 => k_is); (case c11 => k_is); (case k11 => k_is); (case a12 => k_is); (case l12 => k_is); (case c12 => k_is); (case k12 => k_is); (case a13 => k_is); (case l13 => k_is); (case c13 => k_is); (case k13 => k_is); (case a14 => k_is); (case l14 => k_is); (case c14 => k_is); (case k14 => k_is); (case a15 => k_is); (case l15 => k_is); (case c15 => k_is); (case k15 => k_is); (case a16 => k_is); (case l16 => k_is); (case c16 => k_is); (case k16 => k_is); (case a17 => k_is); (case l17 => k_is); (case c17 => k_is); (case k17 => k_is); (case a18 => k_is); (case l18 => k_is); (case c18 => k_is); (case k18 => k_is); (case a19 => k_is); (case l19 => k_is); (case c19 => k_is); (case k19 => k_is); (case a20 => k_is); (case l20 => k_is); (case c20 => k_is); (case k20 => k_is); (case a21 => k_is); (case l21 => k_is); (case c21 => k_is); (case k21 => k_is); (case a22 => k_is); (case l22 => k_is); (case c22 => k_is); (case k22 => k_is); (case z0 => k_is); (case z1 => k_is); (case z2 => k_is); (case z3 => k_is); (case z9 => k_is); (case z11 => k_is); (case z15 => k_is); (case z19 => k_is); (case z22 => k_is)
