import PyProof.Rows.All
import Wide.All
import OpenK.AllK
import Wide.FinOn
import HandS.ForMost
import HandS.IsInst
import HandS.Wide
import HandS.Walk
import HandS.Evl
import HandS.TupLe
import HandS.Defaults
import HandS.NoneIn
import HandS.ClsMeth
import HandS.Exc
import HandS.Lambda
import HandS.EndTab
import HandS.Property
import HandS.MakeKw
import HandS.MakeKwOnly
import HandS.ExcOwn
import HandS.WordsExc
import HandS.ExcIs
import KE.KExcSuper
import KE.KTryMore
import KE.KExcIs
import KE.KNest
import HandS.Set
import HandS.SetFor
import HandS.SetTxt0
import HandS.SetTxtIn
import HandS.More
import PyProof.InstNe
import KE.KCallOwn
import KE.KRevSl
import HandS.Star
import HandS.Style
import HandS.Replace
import PySem.Challenge.RW_lineorigins_k09_versions
set_option Elab.async false
set_option linter.all false
set_option maxRecDepth 100000
set_option maxHeartbeats 4000000
namespace My
open PySem L2


/-! ### exceptions of the program's own: __init__ says super().__init__('..') and keeps its argument (over ValueError) -/
section
open PySem.W PySem.Calls PyProof.Rows PySem.HandSPX
def xA (p1 p2 : Pos) : Arguments := { posonlyargs := [], args := [{ arg := "self", annotation := none, pos := p1 }, { arg := "value", annotation := none, pos := p2 }], vararg := none, kwonlyargs := [], kw_defaults := [], kwarg := none, defaults := [] }
def xB (m : Str) (j : Nat) (q0 q1 q2 q3 q4 q5 q6 q7 q8 q9 : Pos) : List Stmt := [.Expr (.Call (.Attribute (.Call (.Name "super" q0) [] [] q1) "__init__" q2) [.Constant (.str m) j q3] [] q4) q5, .Assign [.Attribute (.Name "self" q6) "value" q7] (.Name "value" q8) q9]
def xS : Scope := { kind := .function, names := [(PySem.Str.ofString "self", .local), (PySem.Str.ofString "value", .local), (PySem.Str.ofString "__class__", .free), (PySem.Str.ofString "super", .globalImplicit)], isGenerator := false, isCoroutine := false, more := [] }
theorem xk1 : xS.names.lookup ("super" : Str) = some .globalImplicit := by decide +kernel
theorem xk2 : xS.names.lookup ("__class__" : Str) = some .free := by decide +kernel
theorem xk3 : xS.names.lookup ("self" : Str) = some .local := by decide +kernel
theorem xk4 : xS.names.lookup ("value" : Str) = some .local := by decide +kernel
/-- what the written part says of such a class, at C, and of its __init__, at fI -/
structure XTxt (prog : Program) (K : Frag) (mg : Str → Option Value) (x : Str) (C fI : Addr) : Prop where
  gC : mg x = some (.ref C)
  su : mg "super" = none
  cls : ∃ nm q N bs bm sn sub ab col dd k0 k1 k2 k3 k5, K.lookup C = some (excClassObj nm q C N bs bm true sn sub ab col dd k0 k1 k2 k3 k5 "ValueError.__new__") ∧ refsVE bm = true
  sa : findIn K (.ref C) "__setattr__" = some (some (.builtin "object.__setattr__"))
  ga : findIn K (.ref C) "__getattribute__" = some (some (.builtin "BaseException.__getattribute__"))
  gg : findIn K (.ref C) "__getattr__" = some none
  no : findIn K (.ref C) "value" = some none
  iC : findIn K (.ref C) "__init__" = some (some (.ref fI))
  tI : typeIn K (.ref fI) = some (.type "function")
  kC : keepIn K (.ref C) = true
  exC : subIn K (.ref C) (.type "BaseException") = some true
  veC : subIn K (.ref C) (.type "ValueError") = some true
  tyC : typeIn K (.ref C) = some (.type "type")
  hdC : hasDictIn K C = true
  mC : mroIn K C (.ref C) = some true
  op : nsIn K cStatics "thirdparty.any" = some none
  sI : ks_superIn K C C "__init__" = some (some (.builtin "ValueError.__init__"))
  top : (prog.main.scope.names.lookup ("super" : Str)).isSome = false
  fn : ∃ (oc : Value) (od : Option Addr) (doc pm : Value) (an : Option Addr) (cda cc : Addr) (ct : Value) (osl : Array (Option Value)) (qual m : Str) (j : Nat) (p1 p2 q0 q1 q2 q3 q4 q5 q6 q7 q8 q9 : Pos) (ccl : Value) (cdd : Option Addr) (vs : Array Value) (ccs : Array (Option Value)) (cl : Value) (cld : Option Addr) (csl : Array (Option Value)) (file : Str) (tf : Tok),
    K.lookup fI = some ⟨oc, od, .func (ksFn "__init__" qual (xA p1 p2) (xB m j q0 q1 q2 q3 q4 q5 q6 q7 q8 q9) xS .none .none doc pm an (.ref cda) ct cc), osl⟩ ∧ codeIn K (.ref cda) qual = true ∧
    K.lookup cda = some ⟨ccl, cdd, .fields vs, ccs⟩ ∧ vs[2]? = some (.str file tf) ∧ ((prog.main.file : Str) == file) = true ∧ K.lookup cc = some ⟨cl, cld, .cell (some (.ref C)), csl⟩ ∧ (q2.endLine == q4.line) = true
/-- what __init__ leaves of a fresh exception at x -/
structure XEnd (h h' : Heap) (x C dx : Addr) (v : Value) : Prop where
  keep : ∀ b o, b ≠ x → h.get? b = some o → h'.get? b = some o
  obj : ∃ t1 : Addr, h'.get? x = some { cls := .ref C, dict := some dx, data := .fields #[.ref t1, .none, .none, .none, .bool false, .none] }
  dbig : h.objs.size ≤ dx
  dne : dx ≠ x
  ns : h'.Ns1 dx (fun y => if y = "value" then some v else none)
section
variable {prog : Program} {w : World} {A : Around} {E : Value → Shared → Prop} {R : Result → Shared → Prop} {s : Shared} {K : Frag} {mg : Str → Option Value} {C fI : Addr} {n : Str}
theorem x_init (T : XTxt prog K mg n C fI) {x t0 : Addr} {v : Value} (X : K.In s.heap) (hg : s.heap.Ns mainGlobals mg) (hb : ∃ mb, s.heap.Ns builtinsNs mb ∧ ∀ x : Str, x ≠ "__name__" → mb x = bootBuiltins x) (hlim : s.heap.NoLimit) (hx : s.heap.get? x = some (excO C t0)) (hnx : K.lookup x = none) (hroom : A.depth < recursionLimit)
    (hq : ∀ h' tk dx, XEnd s.heap h' x C dx v → R (.ok (.ret .none)) { s with heap := h', toks := tk }) :
    codeAny (model prog w) A (.call (.ref fI) ⟨[.ref x, v], []⟩) R s := by
  obtain ⟨oc, od, doc, pm, an, cda, cc, ct, osl, qual, m, j, p1, p2, q0, q1, q2, q3, q4, q5, q6, q7, q8, q9, ccl, cdd, vs, ccs, cl, cld, csl, file, tf, ho, hcd, hcode, hvs, hfile, hcell, hline⟩ := T.fn
  obtain ⟨nm, q, N, bs, bm, sn, sub, ab, col, dd, k0, k1, k2, k3, k5, hC, hbm⟩ := T.cls
  obtain ⟨mb, hb, hbb⟩ := hb
  have hcl : clsIn K C = some { name := nm, bases := bs, mro := .ref C :: bm, ns := N, qualname := q, hasDict := true, slotNames := sn, subclasses := sub, abstract := ab, collection := col, hasDel := false } := by unfold clsIn; rw [hC] <;> rfl
  refine ks_codeAny_call_defAt (fd := ksFn "__init__" qual (xA p1 p2) (xB m j q0 q1 q2 q3 q4 q5 q6 q7 q8 q9) xS .none .none doc pm an (.ref cda) ct cc) (body := xB m j q0 q1 q2 q3 q4 q5 q6 q7 q8 q9) (binds := [("self", .ref x), ("value", v)]) hroom (X _ _ ho) rfl hlim (codeRec_of X hcd) rfl (BindsTo.of_eq (by first | rfl | with_unfolding_all rfl)) (show ∀ x ∈ xS.names, x.2 ≠ .cell by decide +kernel) (by
    intro y hy
    simp only [List.mem_cons, List.not_mem_nil, or_false] at hy
    rcases hy with rfl | rfl
    · show xS.names.lookup ("self" : Str) = _
      decide +kernel
    · show xS.names.lookup ("value" : Str) = _
      decide +kernel) (fun h₁ hns k => ?_) rfl rfl rfl
  have X₁ : K.In h₁ := X.keeps k
  have hx₁ := k _ _ hx
  have I₁ : InstAt h₁ x (excO C t0) C none := ⟨hx₁, rfl, rfl, trivial⟩
  obtain ⟨oD, hD1, hD2⟩ : ∃ oD, h₁.get? C = some oD ∧ ∃ cd, oD.data = .cls cd := ⟨_, X₁ _ _ hC, _, rfl⟩
  obtain ⟨cdD, hD2⟩ := hD2
  refine ks_wpAt_execs_cons (ks_wpAt_Expr_any (ks_wpAt_MethodCall (pl := pure false) ?_ ?_))
  rotate_left
  · show (attributeBase _ _ _ _ >>= fun ov => standAt _ >>= fun _ => methodCall _ _ _ _ _ ov _ _ _) = _
    refine congrArg _ (funext fun ov => congrArg _ (funext fun _ => ?_))
    unfold methodCall methodCallPos
    rw [hline]
    rfl
  refine ks_wpAt_super_base (env := ksEnv qual xS s.heap.objs.size fI (.ref cda) cc) (ar := { arg := "self", annotation := none, pos := p1 }) xk1 xk2 (by decide) rfl (X₁ _ _ ho) rfl rfl rfl (X₁ _ _ hcode) rfl hvs hfile T.top ?_
  refine ks_loadName_global rfl xk1 (loadGlobal_builtin (env := ksEnv qual xS s.heap.objs.size fI (.ref cda) cc) (hg.keeps k) T.su (hb.keeps k) ((hbb _ (by decide +kernel)).trans (by first | rfl | decide +kernel)) ⟨rfl, ?_⟩)
  refine wpAny_loadName_free rfl xk2 rfl ⟨_, X₁ _ _ hcell, rfl⟩ ?_
  refine wpAny_loadName_local rfl xk3 hns (v := .ref x) (by first | rfl | with_unfolding_all rfl | kernel_rfl) ?_
  refine ks_wpAny_isType_cls hD1 hD2 ⟨rfl, ?_⟩
  refine ks_wpAny_call_super hD1 hD2 hx₁ rfl (fun c e => by cases e) (looks_mroIn X₁ T.mC) (fun h₂ e₂ k₂ => ?_)
  have X₂ : K.In h₂ := X₁.keeps k₂
  have hx₂ := k₂ _ _ hx₁
  have I₂ : InstAt h₂ x (excO C t0) C none := ⟨hx₂, rfl, rfl, trivial⟩
  have hm : alongIn K "__init__" (((Value.ref C :: bm).dropWhile (· != .ref C)).drop 1) = some (some (.builtin "ValueError.__init__")) := by
    have z := T.sI
    unfold ks_superIn at z
    rw [hcl] at z
    exact z
  refine kxs_getMethod kxs_ValueError e₂ (looks_opaque X₂ T.op) (l₀ := .ref C :: bm) (fun A Q E s k q => wpAny_bind ((looks_clsIn X₂ hcl) A _ E s k (wpAny_pure q))) rfl X₂ hm (I₂.type.andThen (looks_subIn X₂ T.veC)) (ks_ne X₂ I₂ hcl) (by decide) ?_
  have k₃ : ∀ b o, h₂.get? b = some o → (h₂.push (kxs_mw "ValueError.__init__" x)).get? b = some o := fun b o e => Heap.get?_push_of_some _ e
  have hu : (h₂.push (kxs_mw "ValueError.__init__" x)).get? h₂.objs.size = some (kxs_mw "ValueError.__init__" x) := Heap.get?_push_at rfl rfl
  generalize hh : h₂.push (kxs_mw "ValueError.__init__" x) = h₃ at k₃ hu ⊢
  generalize hu' : h₂.objs.size = u at hu ⊢
  have X₃ : K.In h₃ := X₂.keeps k₃
  have hx₃ := k₃ _ _ hx₂
  have ns₃ := (hns.keeps k₂).keeps k₃
  refine kxs_callWith (i := "ValueError.__init__") (x := x) rfl (evalArgs_plain ?_)
  show wpAny _ _ (spliced ((false, eval (.Constant (.str m) j q3) _) :: backTo q4 (starEach [] _))) _ _ _
  refine Calls.spliced_cons (Calls.Constant_str (Calls.spliced_nil ⟨hu, ?_⟩))
  refine wpAny_call (codeAny_of_tree ?_)
  show wpAny _ _ (callAny (.ref u) ⟨_, []⟩) _ _ _
  simp only [callAny]
  refine wpAny_bind (wpAny_load hu ?_)
  simp only [kxs_mw, show (Value.type "method-wrapper" == Value.type "method" || Value.type "method-wrapper" == Value.type "builtin_function_or_method" || Value.type "method-wrapper" == Value.type "method-wrapper") = true by decide, if_true]
  refine KFB.if_so (by decide) ?_
  refine wpAny_bind (check_bound_init F.excBase_ValueError.toExcCallFacts (X₃ _ _ hC) hx₃ rfl ?_)
  refine wpAny_bind (wpAny_pure (wpAny_pure ?_))
  refine ⟨plainId_quiet F.excBase_ValueError.init.plain _, codeAny_builtin F.excBase_ValueError.initEntry ?_⟩
  refine exc_init_tree (cls := .ref C) (t0 := t0) (dv := none) (c2 := .none) (c3 := .none) (b4 := .bool false) hx₃ (by show 1 ≤ sizeLine; decide) (fun h₄ k₄ hx₄ _ => ?_)
  have hxL : s.heap.objs.size ≠ x := Nat.ne_of_gt (Heap.lt_size hx)
  have X₄ : K.In h₄ := fun b o e => k₄ b o (fun z => by rw [z, hnx] at e; cases e) (X₃ b o e)
  have ns₄ : h₄.Ns s.heap.objs.size (fun y => [(("self" : Str), Value.ref x), ("value", v)].reverse.lookup y) := by
    obtain ⟨oL, es, ep, hL, r⟩ := ns₃
    exact ⟨oL, es, ep, k₄ _ _ hxL hL, r⟩
  refine ks_wpAt_execs_cons (wpAt_of_wpAny (plainObj_wpAny_Assign_Attribute ?_))
  refine wpAny_Name (wpAny_loadName_local rfl xk4 ns₄ (v := v) (by first | rfl | with_unfolding_all rfl | kernel_rfl) ?_) (by decide)
  refine wpAny_Name (wpAny_loadName_local rfl xk3 ns₄ (v := .ref x) (by first | rfl | with_unfolding_all rfl | kernel_rfl) ?_) (by decide)
  refine set_plain X₄ (ox := excRec (.ref C) h₃.objs.size none .none .none (.bool false)) (od := none) ⟨hx₄, rfl, rfl, trivial⟩ T.sa ?_
  refine exc_osa X₄ hx₄ hcl (show refsVE (.ref C :: bm) = true from hbm) rfl T.no (fun h₅ tk₅ dx k₅ dn dne hx₅ hn₅ => ?_)
  have sz1 : s.heap.objs.size < h₁.objs.size := hns.lt
  have sz4 : s.heap.objs.size ≤ h₄.objs.size := Nat.le_of_lt ns₄.lt
  refine wpAt_of_wpAny (wpAny_execs_nil ?_)
  refine hq h₅ _ dx ⟨fun b o hb e => k₅ b o hb (k₄ b o hb (k₃ b o (k₂ b o (k b o e)))), ⟨_, hx₅⟩, Nat.le_trans sz4 dn, dne, hn₅⟩
/-- a made exception -/
structure XMade (h h' : Heap) (e C d : Addr) (v : Value) : Prop where
  keep : ∀ b o, h.get? b = some o → h'.get? b = some o
  new : h.objs.size ≤ e
  obj : ∃ oe vs, h'.get? e = some oe ∧ oe.cls = .ref C ∧ oe.dict = some d ∧ oe.data = .fields vs ∧ vs[1]? = some .none
  dbig : h.objs.size ≤ d
  dne : d ≠ e
  ns : h'.Ns1 d (fun y => if y = "value" then some v else none)
theorem x_made (T : XTxt prog K mg n C fI) {v : Value} (X : K.In s.heap) (hg : s.heap.Ns mainGlobals mg) (hb : ∃ mb, s.heap.Ns builtinsNs mb ∧ ∀ x : Str, x ≠ "__name__" → mb x = bootBuiltins x) (hlim : s.heap.NoLimit) (hroom : A.depth + 1 < recursionLimit)
    (hq : ∀ h' tk e d, XMade s.heap h' e C d v → R (.ok (.ret (.ref e))) { s with heap := h', toks := tk }) :
    codeAny (model prog w) A (.call (.ref C) ⟨[v], []⟩) R s := by
  obtain ⟨nm, q, N, bs, bm, sn, sub, ab, col, dd, k0, k1, k2, k3, k5, hC, hbm⟩ := T.cls
  obtain ⟨hp, g, dr, tk, os⟩ := s
  have k : ∀ b o, hp.get? b = some o → ((hp.push (kdv_tup [v])).push (excO C hp.objs.size)).get? b = some o := fun b o e => Heap.get?_push_of_some _ (Heap.get?_push_of_some _ e)
  have hnx : K.lookup (hp.objs.size + 1) = none := by
    cases e : K.lookup (hp.objs.size + 1) with
    | none => rfl
    | some o =>
      have z : hp.get? (hp.objs.size + 1) = some o := X _ _ e
      have := Heap.lt_size z
      exact absurd (Nat.lt_of_succ_lt this) (Nat.lt_irrefl _)
  refine call_own F.excBase_ValueError (fun Y => refsVE_contains Y bm hbm) (X _ _ hC) (looks_findIn X T.iC) (fun self => bind_fn X self T.tI) (by show 1 ≤ sizeLine; decide) ?_
  obtain ⟨mb, hb, hbb⟩ := hb
  refine x_init (s := ⟨(hp.push (kdv_tup [v])).push (excO C hp.objs.size), g, dr, tk, os⟩) (t0 := hp.objs.size) T (X.keeps k) (hg.keeps k) ⟨mb, hb.keeps k, hbb⟩ (hlim.keeps k) (by heap_get) hnx hroom fun h' tk' dx M => ?_
  obtain ⟨t1, hx⟩ := M.obj
  have z : hp.objs.size + 1 + 1 ≤ dx := by
    have q := M.dbig
    rw [Heap.size_push, Heap.size_push] at q
    exact q
  exact ⟨rfl, hq h' tk' (hp.objs.size + 1) dx ⟨fun b o e => M.keep b o (Nat.ne_of_lt (Nat.lt_succ_of_lt (Heap.lt_size e))) (k b o e), Nat.le_succ _, ⟨_, _, hx, rfl, rfl, rfl, rfl⟩, Nat.le_trans (Nat.le_trans (Nat.le_succ _) (Nat.le_succ _)) z, M.dne, M.ns⟩⟩
end
end
theorem relO_val {v : V} {v' : Value} (r : RelV v v') (f : Str) : RelO (List.lookup f [(("value" : Str), v)]) (if f = "value" then some v' else none) := by
  by_cases hw : f = "value"
  · subst hw
    rw [if_pos rfl, List.lookup_cons_self]
    exact r
  · rw [if_neg hw, List.lookup_cons, show (f == ("value" : Str)) = false from by simpa using hw]
    trivial
section
variable {X : Cx} {C fI : Addr} {n : Str}
/-- C(e), as an exception that is made -/
def tMkX (C : Addr) (ta : TA) : St → Hp → XK → Prop := fun σ H Q => ta σ H fun vs H1 => ∃ v, vs = [v] ∧ ∀ d, H1 d = none → Q (.ref C) (some d) (upd H1 d (.xd [(("value" : Str), v)]))
theorem pmk_x {a : Expr} {ta : TA} {p pos : Pos} {k : Nat} (T : XTxt X.prog X.K X.mg n C fI) (hr : Room k X.A) (ha : PA X [a] ta) (hg : Gl X n) (hdb : (n == ("__debug__" : Str)) = false := by decide)
    (he : starEach (a :: []) X.env = (false, eval a X.env) :: starEach [] X.env := by rfl) (hpl : (backTo pos (starEach [] X.env)).any (·.1) = false := by rfl) :
    PMk X (.Call (.Name n p) [a] [] pos) (tMkX C ta) := by
  intro pins s σ H Q I h
  refine wpAny_Call_Name_kw (ld_glob I hg T.gC ?_ hdb)
  refine PySem.W.callWith_K (h₀ := X.base) I.ok.mod.kin T.kC (thn (ha.run pos pins s σ H _ I h) fun us s1 ⟨vs, H1, I1, r1, v, ev, q1⟩ => ⟨I1.kIn, ?_⟩) he hpl
  subst ev
  cases r1 with
  | @cons _ v' _ us' rv rn =>
    cases rn
    show wpAny _ _ (call (.ref C) [v']) _ _ _
    have hlim := I1.nolimit
    have mg1 := I1.mod.glob.keeps I1.bk
    obtain ⟨mb, mb1, mb2⟩ := I1.mod.blt
    have mb1 := mb1.keeps I1.bk
    obtain ⟨hp, g, dr, tk, os⟩ := s1
    refine wpAny_call (x_made T I1.kIn mg1 ⟨mb, mb1, mb2⟩ hlim (by have := hr.dp; omega) fun h' tk' e d M => ?_)
    show MkP X pins σ Q (.ref e) ⟨h', g, dr, tk', os⟩
    obtain ⟨oe, fv, hoe, hc, hd, hdat, h1⟩ := M.obj
    obtain ⟨G', g1, g2⟩ := restrict h' fun b => decide (b ≠ e)
    have gk : ∀ b, b ≠ e → G'.get? b = h'.get? b := fun b hb => g1 b (decide_eq_true hb)
    have ge : G'.get? e = none := g2 e (by simp)
    have old : ∀ b o, hp.get? b = some o → G'.get? b = some o := fun b o q => (gk b (Nat.ne_of_lt (Nat.lt_of_lt_of_le (Heap.lt_size q) M.new))).trans (M.keep b o q)
    have ob : ObjOk X.prog X.w (upd H1 d (.xd [(("value" : Str), v)])) G' d (.xd [(("value" : Str), v)]) := ⟨_, M.ns.at (fun o q => (gk d M.dne).trans q), fun f => relO_val rv f⟩
    have J : Inv X pins σ (upd H1 d (.xd [(("value" : Str), v)])) ⟨G', g, dr, tk', os⟩ := I1.laid (t' := tk') old M.dbig ob
    refine ⟨e, oe, fv, ⟨G', g, dr, tk', os⟩, _, .ref C, some d, rfl, J, fun b o q => ?_, ge, hoe, ⟨hc, hd⟩, hdat, h1, ?_, rfl, I1.bare, raises_own T.exC T.tyC, q1 d (I1.hok.fresh M.dbig)⟩
    · by_cases hb : b = e
      · have q' : G'.get? b = some o := q
        rw [hb, ge] at q'
        cases q'
      · exact (gk b hb).symm.trans q
    · rw [upd_ne (Ne.symm M.dne)]
      exact I1.hok.fresh M.new
/-- raise C(e) -/
def tRaiseX (C : Addr) (W : WX) (ta : TA) : TS := fun _ σ H => tMkX C ta σ H fun cls d H' => W cls d σ H'
theorem ps_raiseX {a : Expr} {ta : TA} {W : WX} {p pos pos2 : Pos} {k : Nat} (hc : X.calm = true) (T : XTxt X.prog X.K X.mg n C fI) (hr : Room k X.A) (tk : Takes X W) (ha : PA X [a] ta) (hg : Gl X n) (hdb : (n == ("__debug__" : Str)) = false := by decide)
    (he : starEach (a :: []) X.env = (false, eval a X.env) :: starEach [] X.env := by rfl) (hpl : (backTo pos (starEach [] X.env)).any (·.1) = false := by rfl) :
    PS X (.Raise (some (.Call (.Name n p) [a] [] pos)) none pos2) (tRaiseX C W ta) := ps_raise hc tk (pmk_x T hr ha hg hdb he hpl)
end



/-! ### an exception that was caught and is kept under a name -/
/-- at a: an exception of the class cls, its dict d -/
def XO (cls : Value) (d : Option Addr) (a : Addr) : HO := .ext fun h => ∃ (oe : Obj) (vs : Array Value), h.get? a = some oe ∧ Zc cls d oe ∧ oe.data = .fields vs
theorem xo_ok {P : Program} {w : World} {H : Hp} {h : Heap} {a : Addr} {cls : Value} {d : Option Addr} {oe : Obj} {vs : Array Value} (e : h.get? a = some oe) (z : Zc cls d oe) (hd : oe.data = .fields vs) : ObjOk P w H h a (XO cls d a) :=
  ⟨⟨oe, vs, e, z, hd⟩, ⟨oe, e⟩, fun _ _ ⟨o, v, q, r⟩ k => ⟨o, v, k o q, r⟩⟩
theorem xo_at {P : Program} {w : World} {H : Hp} {h : Heap} {a : Addr} {cls : Value} {d : Option Addr} (hok : HOk P w H h) (e : H a = some (XO cls d a)) : ∃ (oe : Obj) (vs : Array Value), h.get? a = some oe ∧ Zc cls d oe ∧ oe.data = .fields vs := by
  have x : ObjOk P w H h a (.ext fun h => ∃ (oe : Obj) (vs : Array Value), h.get? a = some oe ∧ Zc cls d oe ∧ oe.data = .fields vs) := hok a _ e
  exact x.1
section
variable {X : Cx} {pins : List (Addr × Obj)} {σ σ0 : St} {H : Hp} {s sI : Shared} {a : Addr} {o : HO}
/-- what came since the entry may be tracked from now on -/
theorem track (J : Inv X pins σ0 H sI) (hna : sI.heap.get? a = none) (I : Inv X pins σ H s) (na : H a = none) (new : ObjOk X.prog X.w (upd H a o) s.heap a o) : Inv X pins σ (upd H a o) s := by
  have neI : ∀ {b : Addr} {u : Obj}, sI.heap.get? b = some u → b ≠ a := fun {b u} e z => by
    rw [z, hna] at e
    cases e
  have keepN : ∀ {b : Addr} {u : HO}, H b = some u → b ≠ a := fun {b u} e => ne_of_none e na
  refine ⟨I.ok, I.os, I.bare, ⟨I.base.keep, I.base.slot, fun b u e n hx => ?_, I.base.there, fun b xs e => ?_, fun b u v e => ?_, fun b ps e => ?_⟩, I.loc, I.cell, ?_, fun x c e => ?_, fun p hp => ?_, fun b u e => ?_, I.len⟩
  · obtain ⟨u', q⟩ := J.base.there b u e hx
    rw [upd_ne (neI q)]
    exact I.base.free b u e n hx
  · have q := I.base.tups b xs e
    rw [upd_ne (keepN q)]
    exact q
  · have q := I.base.frzs b u v e
    rw [upd_ne (keepN q)]
    exact q
  · obtain ⟨m, q⟩ := I.base.tbls b ps e
    exact ⟨m, by rw [upd_ne (keepN q)]; exact q⟩
  · obtain ⟨m, ⟨oL, es, ep, hL, _⟩, _⟩ := J.loc
    rw [upd_ne (neI hL)]
    exact I.free
  · obtain ⟨v, oc, hc, _⟩ := J.cell x c e
    rw [upd_ne (neI hc)]
    exact I.freeC x c e
  · obtain ⟨e, n, ne, nf, d⟩ := I.pin p hp
    obtain ⟨e', _⟩ := J.pin p hp
    exact ⟨e, by rw [upd_ne (neI e')]; exact n, ne, nf, d⟩
  · by_cases hb : b = a
    · subst hb
      rw [upd_same] at e
      cases e
      exact new
    · rw [upd_ne hb] at e
      exact (I.hok b u e).stay (fun _ _ _ q => q) (fun c q => by rw [upd_ne (keepN q)]; exact q) fun c xs q => by rw [upd_ne (keepN q)]; exact q
end
section
variable {X : Cx} {x1 x2 x3 n y : Str} {c1 c2 c3 : Value} {i j : Nat} {body : List Stmt} {a1 a2 a3 tp py pn' pa pos pos' : Pos} {kt : Nat} {tb : WX → TS}
theorem flyingZ_keeps {B h h' : Heap} {l : List Env} {a : Addr} {Z : Obj → Prop} (f : HandSPX.FlyingZ B l a Z h) (k : ∀ b o, h.get? b = some o → h'.get? b = some o) : HandSPX.FlyingZ B l a Z h' := by
  obtain ⟨f1, f2, f3, oe, vs, T, oT, ts, he, hz, hd, h1, hn, hne, hT, hdT, h3⟩ := f
  exact ⟨fun b o q => k b o (f1 b o q), f2, f3.of_keeps fun b o q _ => ⟨o, k b o q, rfl⟩, oe, vs, T, oT, ts, k _ _ he, hz, hd, h1, hn, hne, k _ _ hT, hdT, h3⟩
/-- what is wished of what is raised in: try: .. except (x1, x2, x3) as n: y = n -/
def wKeep (K : PySem.W.Frag) (cs : List Value) (i j : Nat) (D : Ends) : WX := fun cls d σ H =>
  PySem.W.exmAny K cls cs = some true ∧ ∀ a, H a = none → D.nx (((σ.set i (some (.ref a))).set j (some (.ref a))).set i none) (upd H a (XO cls d a))
theorem ps_try_keep (hs : X.stack = X.env :: X.outer) (hf : X.env.frame = some X.env.locals) (hN : X.N.Nodup) (hi : X.N[i]? = some n) (hj : X.N[j]? = some y) (hln : X.env.kindOf n = some .local) (hly : X.env.kindOf y = some .local)
    (g1 : Gl X x1) (g2 : Gl X x2) (g3 : Gl X x3) (m1 : X.mg x1 = some c1) (m2 : X.mg x2 = some c2) (m3 : X.mg x3 = some c3)
    (hb : ∀ (W : WX) (pn : List (Addr × Obj)) (xe : Value → Shared → Prop), Takes (X.tr pn xe) W → PSs (X.tr pn xe) body (tb W))
    (d1 : (x1 == ("__debug__" : Str)) = false := by decide) (d2 : (x2 == ("__debug__" : Str)) = false := by decide) (d3 : (x3 == ("__debug__" : Str)) = false := by decide) (dn : (n == ("__debug__" : Str)) = false := by decide) (dc : (n == ("__classdict__" : Str)) = false := by decide)
    (hsw : swapsWith (.Name n pn') (some (.Name y py)) pa.line X.env = pure false := by rfl) :
    PS X (.Try body [.ExceptHandler (some (.Tuple [.Name x1 a1, .Name x2 a2, .Name x3 a3] kt tp)) (some n) [.Assign [.Name y py] (.Name n pn') pa] pos'] [] [] pos) (fun D σ H => tb (wKeep X.K [c1, c2, c3] i j D) D σ H) := by
  refine ⟨fun pins s σ H D I h => ?_⟩
  have ok := I.ok
  have hfr : X.A.frames = some (X.env :: X.outer) := by rw [ok.frames, hs]
  have hloc : Loc X.env.scope n := .inl hln
  refine wpAny_Try_except ?_
  refine wpAny_mono ((hb (wKeep X.K [c1, c2, c3] i j D) (X.pn ++ pins) (fun e s₁ => wpAny (model X.prog X.w) X.A (noteFrame e X.env) (fun _ s₂ => wpAny (model X.prog X.w) X.A (setFlight e none) (fun _ s₃ =>
    wpAny (model X.prog X.w) X.A (handleBy e X.env [.ExceptHandler (some (.Tuple [.Name x1 a1, .Name x2 a2, .Name x3 a3] kt tp)) (some n) [.Assign [.Name y py] (.Name n pn') pa] pos']) (SP X pins D) X.xe s₃) X.xe s₂) X.xe s₁) (fun u s' xx => ?_)).run [] s σ H D (I.toTry _) h) (fun f s1 hsp => ?_) (fun e s1 he => he)
  · obtain ⟨a, B, sI, pins', σ', H', cls, d, rfl, J', nb, up, sky, na, os, ag, hm, hyes⟩ := xx
    have J : Inv X pins σ' H' sI := J'.ofTry ok
    have hBa : B.get? a = none := by
      rcases sky with ⟨_, q, _⟩ | ⟨_, q, _⟩ | ⟨_, q, _⟩ <;> exact q
    have sky' : Sky B (X.env :: X.outer) a (Zc cls d) X.env.locals s'.heap := by rw [← hs]; exact sky
    show wpAny (model X.prog X.w) X.A (noteFrame (.ref a) X.env) _ _ _
    refine Sky.land Zc.steady hfr hf sky' fun h3 fl3 up3 => ?_
    have J3 : Inv X pins σ' H' { s' with heap := h3 } := J.landed nb fl3.1 (up.trans up3) os ag
    obtain ⟨oe3, vs3, he3, hz3, hd3⟩ := fl3.there
    have nfr : a ∉ frs (X.env :: X.outer) := fun hm => by
      obtain ⟨_, o', e', hnf⟩ := fl3.2.2.1.mem hm
      rw [he3] at e'
      cases e'
      exact hnf _ hd3
    have hsI : sI.heap.get? a = none := by
      cases q : sI.heap.get? a with
      | none => rfl
      | some o =>
        have z := nb a o q (by rw [hs]; exact nfr)
        rw [hBa] at z
        cases z
    have nL : a ≠ X.env.locals := fun z => nfr (List.mem_filterMap.mpr ⟨X.env, List.mem_cons_self, by rw [hf, z]⟩)
    have nF : a ∉ X.fs := fun hm => by
      obtain ⟨e, he, q⟩ := List.mem_filterMap.mp hm
      exact nfr (List.mem_filterMap.mpr ⟨e, List.mem_cons_of_mem _ he, q⟩)
    have S3 := J3.suite he3 hd3 na nL nF
    refine wpAny_handleBy_cons (codeAny_handlers_test ?_) (by intro q; cases q)
    have LT : PySem.W.Looks (model X.prog X.w) h3 (typeOf (.ref a)) cls := fun A Q E s k q => wpAny_typeOf_ref (k _ _ he3) (by rw [hz3.1]; exact q)
    refine wpAny_Tuple ?_
    refine wpAny_items_cons (ld_glob (X := X.suite a ((a, oe3) :: (X.pn ++ pins))) S3 g1 m1 ?_ d1)
    refine wpAny_items_cons (ld_glob (X := X.suite a ((a, oe3) :: (X.pn ++ pins))) S3 g2 m2 ?_ d2)
    refine wpAny_items_cons (ld_glob (X := X.suite a ((a, oe3) :: (X.pn ++ pins))) S3 g3 m3 ?_ d3)
    refine wpAny_items_nil ⟨by show 3 ≤ sizeLine; decide, ?_⟩
    have kp : ∀ q o, h3.get? q = some o → (h3.push { cls := .type "tuple", data := .seq [c1, c2, c3].toArray }).get? q = some o := fun _ _ z => Heap.get?_push_of_some _ z
    refine (PySem.W.exm_tup3 (J3.kIn.keeps kp) (LT.keeps kp) (Heap.get?_push_size h3 rfl) hm).here ?_
    have fl3' : HandSPX.FlyingZ B (X.env :: X.outer) a (Zc cls d) (h3.push { cls := .type "tuple", data := .seq [c1, c2, c3].toArray }) := flyingZ_keeps fl3 kp
    refine codeAny_handlers_suite_as ?_
    refine HandSPX.lands_againZ fl3' fun h4 fl4 up4 => ?_
    have J4 : Inv X pins σ' H' { s' with heap := h4 } := J.landed nb fl4.1 (((up.trans up3).trans (Heap.UpToSlots.of_keeps kp)).trans up4) os ag
    obtain ⟨oe4, vs4, he4, hz4, hd4⟩ := fl4.there
    have S4 := J4.suite he4 hd4 na nL nF
    refine store_ok (X := X.suite a ((a, oe4) :: (X.pn ++ pins))) (v := .ref a) S4 hN hi hloc rfl (fun s5 S5 => ?_) (.inr hln)
    have lenN : i < σ'.length := by rw [J.len]; exact (List.getElem?_eq_some_iff.mp hi).1
    have rd : PSs (X.suite a ((a, oe4) :: (X.pn ++ pins))) [.Assign [.Name y py] (.Name n pn') pa] (tAsg (tVar i) (gName j)) :=
      pss_one (ps_set (X := X.suite a ((a, oe4) :: (X.pn ++ pins))) (i := j) hN hj (.inl hly) (pe_var (i := i) hi (.inl hln) dn dc) hsw (.inr hly))
    refine wpAny_mono (rd.run [] s5 _ H' { nx := fun σ6 H6 => σ6 = (σ'.set i (some (.ref a))).set j (some (.ref a)) ∧ H6 = H', rt := fun _ _ => False } S5 ⟨.ref a, by rw [List.getElem?_set_self lenN], rfl, rfl⟩) (fun f s6 hsp => ?_) (fun _ _ z => False.elim z)
    cases f with
    | next =>
      obtain ⟨σ6, H6, S6, rfl, rfl⟩ := hsp
      refine gone_ok (X := X.suite a ((a, oe4) :: (X.pn ++ pins))) S6 hN hi hln fun s7 S7 => ?_
      obtain ⟨e7, _⟩ := S7.pin (a, oe4) (List.mem_append_left _ List.mem_cons_self)
      exact ⟨_, _, track J hsI (S7.unsuite ok) na (xo_ok e7 hz4 hd4), hyes a na⟩
    | brk =>
      obtain ⟨_, _, _, q⟩ := hsp
      exact q.elim
    | cont =>
      obtain ⟨_, _, _, q⟩ := hsp
      exact q.elim
    | ret u =>
      obtain ⟨_, _, _, _, _, q⟩ := hsp
      exact q.elim
  · cases f with
    | next =>
      obtain ⟨σ', H', J', q⟩ := hsp
      exact wpAny_execs_nil ⟨σ', H', J'.ofTry ok, q⟩
    | brk =>
      obtain ⟨σ', H', J', q⟩ := hsp
      exact ⟨σ', H', J'.ofTry ok, q⟩
    | cont =>
      obtain ⟨σ', H', J', q⟩ := hsp
      exact ⟨σ', H', J'.ofTry ok, q⟩
    | ret u =>
      obtain ⟨v, σ', H', J', r, q⟩ := hsp
      exact ⟨v, σ', H', J'.ofTry ok, r, q⟩
end



/-! ## operators of an own class (own work over the library's rules) -/
section
variable {prog : Program} {w : World} {A : Around} {E : Value → Shared → Prop} {s : Shared} {K : PySem.W.Frag} {x C f : Addr} {ox : Obj} {od : Option Obj} {i : Int} {t : Tok}
/-- int's own slot declines an instance -/
theorem int_declines {name : Str} {id : String} {B : Builtin} (nm : String) (g : Int → Int → Sem Fin) {Q : Value → Shared → Prop} (slot : Slot "int" name id) (entry : entryFor table id = some B)
    (hB : B = Builtin.Int.intBinary nm g) (args : argsOk id ⟨[.int i t, .ref x], []⟩)
    (hx : s.heap.get? x = some ox) (hd : ∀ p, ox.data ≠ .prim p) (h : Q .notImplemented s) : wpAny (model prog w) A (call (.builtin id) [.int i t, .ref x]) Q E s := by
  refine wpAny_call_entry slot (typeIs_int s i t) entry ?_ args
  subst hB
  have e1 : slotArgs nm 1 ⟨[.int i t, .ref x], []⟩ = pure (.int i t, [.ref x]) := rfl
  have e2 : Builtin.Int.intOfSelf (.int i t) = pure i := rfl
  unfold Builtin.Int.intBinary
  refine wpAny_bind (wpAny_of_eq e1 ?_)
  refine wpAny_bind (wpAny_of_eq e2 ?_)
  refine wpAny_bind ?_
  show wpAny _ _ (load x >>= fun o => match o.data with | .prim (.int i _) => pure (some i) | _ => pure none) _ _ _
  refine wpAny_bind (wpAny_load hx ?_)
  obtain ⟨c, dd, dt, sl⟩ := ox
  cases dt with
  | prim p => exact absurd rfl (hd p)
  | _ => exact wpAny_pure (wpAny_bind (wpAny_rule (wpAny_pure ⟨_, rfl, h⟩)))
/-- int op instance, by the instance's reflected method -/
theorem bin_refl {op : Operator} {idI : String} {f0 : Addr} {Q : Value → Shared → Prop} (X : K.In s.heap) (I : PySem.W.InstAt s.heap x ox C od) (s1 : PySem.W.selfFirst K C = true)
    (slot : Slot "int" (PySem.dunder op.info.2) idI) (fills : fillsNumberSlot (.type "int") op.info.2 = pure true) (hs0 : PySem.W.findIn K (.ref C) (PySem.dunder op.info.2) = some (some (.ref f0)))
    (hs : PySem.W.findIn K (.ref C) (dunderR op.info.2) = some (some (.ref f))) (hf : PySem.W.isFn K (.ref f) = true) (hsub : PySem.W.subIn K (.ref C) (.type "int") = some false)
    (hni : ∀ Q' : Value → Shared → Prop, Q' .notImplemented s → wpAny (model prog w) A (call (.builtin idI) [.int i t, .ref x]) Q' E s)
    (h : wpAny (model prog w) A (call (.ref f) [.ref x, .int i t]) (PySem.W.CmpBack Q) E s) : wpAny (model prog w) A (binaryOp op (.int i t) (.ref x)) Q E s := by
  obtain ⟨cd, rest, hcd, hm⟩ := PySem.W.ksp_first s1
  rcases hi : op.info with ⟨sym, nm⟩
  rw [hi] at hs hs0 slot fills
  dsimp only at hs hs0 slot fills
  have two := PySem.W.ksp_try X I hs hf h
  simp only [binaryOp, hi]
  refine wpAny_holding (wpAny_bind ?_)
  simp only [binaryOp1]
  refine wpAny_bind (wpAny_typeOf (typeIs_int s i t) (wpAny_bind (I.type.here (wpAny_bind (wpAny_of_eq fills ?_)))))
  have hne : (Value.type "int" == Value.ref C) = false := Bool.eq_false_iff.mpr fun q => by cases beq_iff_eq.mp q
  simp only [hne, Bool.false_eq_true, if_false]
  refine wpAny_bind ((PySem.W.fills_K X hcd hm hs0).here ?_)
  simp only [Bool.and_self, if_true]
  refine wpAny_bind ((PySem.W.looks_subIn X hsub).here ?_)
  have hpy : numberSlotInPython (.type "int") nm = pure false := rfl
  simp only [Bool.false_eq_true, if_false, pure_bind, Bool.not_false, Bool.and_self, if_true, hpy]
  refine wpAny_bind (wpAny_tryMethod_declines (typeIs_int s i t) slot (hni _ ⟨rfl, ?_⟩))
  refine wpAny_bind (wpAny_mono two (fun r s' z => ?_) fun _ _ e => e)
  obtain ⟨v, rfl, hq⟩ := z
  exact wpAny_bind (wpAny_rule (wpAny_pure (wpAny_pure hq)))
/-- int cmp instance -/
theorem cmp_refl {op : CmpOp} {idI : String} {Q : Value → Shared → Prop} (hu : A.units < cLine) (X : K.In s.heap) (I : PySem.W.InstAt s.heap x ox C od) (slot : Slot "int" (cmpInfo op).2.1 idI)
    (hs : PySem.W.findIn K (.ref C) (cmpInfo op).2.2 = some (some (.ref f))) (hf : PySem.W.isFn K (.ref f) = true) (hsub : PySem.W.subIn K (.ref C) (.type "int") = some false)
    (hni : ∀ Q' : Value → Shared → Prop, Q' .notImplemented s → wpAny (model prog w) A (call (.builtin idI) [.int i t, .ref x]) Q' E s)
    (h : wpAny (model prog w) A (call (.ref f) [.ref x, .int i t]) (PySem.W.CmpBack Q) E s) : wpAny (model prog w) A (richCompare op (.int i t) (.ref x)) Q E s := by
  have two : wpAny (model prog w) A (tryCompare (.ref x) (cmpInfo op).2.2 (.int i t)) (fun r s' => ∃ v, r = some v ∧ Q v s') E s := by
    unfold tryCompare
    refine wpAny_bind (PySem.W.ifBound_K X I hs hf (wpAny_mono h (fun v s' hv => ?_) fun _ _ e => e))
    cases v <;> first | exact hv.elim | exact wpAny_pure ⟨_, rfl, hv⟩
  unfold richCompare
  simp only [(typeIs_int s i t).oneThing_none]
  refine wpAny_holding (wpAny_bind (wpAny_cRoomFor hu ?_))
  refine wpAny_bind (wpAny_typeOf (typeIs_int s i t) (wpAny_bind (I.type.here ?_)))
  have hne : (Value.type "int" != Value.ref C) = true := by
    rw [bne, Bool.not_eq_true']
    exact Bool.eq_false_iff.mpr fun q => by cases beq_iff_eq.mp q
  simp only [hne, if_true]
  refine wpAny_bind ((PySem.W.looks_subIn X hsub).here ?_)
  simp only [Bool.false_eq_true, if_false, Bool.not_false, if_true]
  refine wpAny_bind (wpAny_tryCompare_declines (typeIs_int s i t) slot (hni _ ⟨rfl, ?_⟩))
  refine wpAny_bind (wpAny_mono two (fun r s' z => ?_) fun _ _ e => e)
  obtain ⟨v, rfl, hq⟩ := z
  exact wpAny_pure hq
end

section
variable {X : Cx}
theorem cmpBack_of {pins : List (Addr × Obj)} {σ : St} {Q : VK} {u : Value} {s' : Shared} (h : EP X pins σ Q u s') : PySem.W.CmpBack (EP X pins σ Q) u s' := by
  cases u with
  | notImplemented =>
    obtain ⟨v, H', I, r, q⟩ := h
    cases v with
    | non => cases r
    | bl _ => cases r
    | int _ => obtain ⟨t, e⟩ := r; cases e
    | str _ => obtain ⟨t, e⟩ := r; cases e
    | byt _ => obtain ⟨t, e⟩ := r; cases e
    | flt _ => obtain ⟨t, e⟩ := r; cases e
    | ref _ => cases r
    | ty _ => cases r
  | _ => exact h
/-- what the class is asked for an operator -/
structure OpF (K : PySem.W.Frag) (C f : Addr) (op : Operator) : Prop where
  s1 : PySem.W.selfFirst K C = true
  hs : PySem.W.findIn K (.ref C) (PySem.dunder op.info.2) = some (some (.ref f))
  hf : PySem.W.isFn K (.ref f) = true
  rr : ∃ rc, PySem.W.findIn K (.ref C) (dunderR op.info.2) = some rc ∧ (rc = none ∨ ∃ g : Addr, rc = some (.ref g))
  i1 : ∃ fo, PySem.W.findIn K (.type "int") (PySem.dunder op.info.2) = some fo
  i2 : ∃ ro, PySem.W.findIn K (.type "int") (dunderR op.info.2) = some ro
  su : PySem.W.subIn K (.type "int") (.ref C) = some false
/-- x op y, x an instance of C, y an int or an instance of C: by the method's promise -/
def rOwn (C : Addr) (sp : Sp) (E : XK) : R2 := fun x y H Q => ∃ a dx fs, x = .ref a ∧ H a = some (.ins C dx fs) ∧ ((∃ i, y = .int i) ∨ ∃ b dy gs, y = .ref b ∧ H b = some (.ins C dy gs)) ∧ sp [x, y] H Q E
theorem op_own {CX : CXT} {k : Nat} {op : Operator} {C f : Addr} {fd : FuncData} {ps : List Str} {sp : Sp} {E : XK} (O : OpF X.K C f op) (F : FnOk X.prog X.w X.K X.mg X.base CX k f fd ps sp) (hr : Room k X.A) (hb : Binds X.K fd ps []) (hx : Passes CX X E) :
    OpR X (binaryOp op) (rOwn C sp E) := fun pins s σ H x y v u Q I rx ry h => by
  obtain ⟨a, dx, fs, rfl, ha, hy, q⟩ := h
  cases rx
  obtain ⟨mA, J, _⟩ := ins_get I.hok ha
  obtain ⟨od, J, _⟩ := J.look
  obtain ⟨m, hF⟩ := I.fr
  obtain ⟨rc, hrc, hp⟩ := O.rr
  obtain ⟨fo, h1⟩ := O.i1
  obtain ⟨ro, h2⟩ := O.i2
  rcases hy with ⟨i, rfl⟩ | ⟨b, dy, gs, rfl, hb'⟩
  · obtain ⟨t, rfl⟩ := ry
    refine PySem.W.ksp_binT hF I.ok.mod.kin J rfl O.s1 O.hs O.hf hrc hp h1 h2 O.su ?_
    exact thn (run_fn (vs := [.ref a, .int i]) F hr hb .nil hx I (.cons rfl (.cons ⟨t, rfl⟩ .nil)) q) fun _ _ z => cmpBack_of z
  · cases ry
    obtain ⟨mB, J', _⟩ := ins_get I.hok hb'
    obtain ⟨od', J', _⟩ := J'.look
    refine PySem.W.binop_K hF I.ok.mod.kin J J'.type O.s1 O.hs O.hf ?_
    exact thn (run_fn (vs := [.ref a, .ref b]) F hr hb .nil hx I (.cons rfl (.cons rfl .nil)) q) fun _ _ z => cmpBack_of z
/-- int op instance -/
structure OpI (K : PySem.W.Frag) (C f : Addr) (op : Operator) (id : String) : Prop where
  s1 : PySem.W.selfFirst K C = true
  h0 : ∃ f0 : Addr, PySem.W.findIn K (.ref C) (PySem.dunder op.info.2) = some (some (.ref f0))
  hs : PySem.W.findIn K (.ref C) (dunderR op.info.2) = some (some (.ref f))
  hf : PySem.W.isFn K (.ref f) = true
  su : PySem.W.subIn K (.ref C) (.type "int") = some false
/-- what is known of int's own slot -/
structure IntOp (op : Operator) (id : String) : Prop where
  slot : Slot "int" (PySem.dunder op.info.2) id
  fills : fillsNumberSlot (.type "int") op.info.2 = pure true
  decl : ∀ {prog : Program} {w : World} {A : Around} {E : Value → Shared → Prop} {s : Shared} {x : Addr} {ox : Obj} {i : Int} {t : Tok} {Q : Value → Shared → Prop}, s.heap.get? x = some ox → (∀ p, ox.data ≠ .prim p) → Q .notImplemented s →
    wpAny (model prog w) A (call (.builtin id) [.int i t, .ref x]) Q E s
theorem int_add : IntOp .Add "int.__add__" := ⟨F.slot_int_add, F.fills_int_add, fun hx hd h => int_declines _ _ F.slot_int_add F.entry_int_add rfl (F.args_int_add_2 _ _) hx hd h⟩
theorem int_sub : IntOp .Sub "int.__sub__" := ⟨F.slot_int_sub, F.fills_int_sub, fun hx hd h => int_declines _ _ F.slot_int_sub F.entry_int_sub rfl (F.args_int_sub_2 _ _) hx hd h⟩
theorem int_mul : IntOp .Mult "int.__mul__" := ⟨F.slot_int_mul, F.fills_int_mul, fun hx hd h => int_declines _ _ F.slot_int_mul F.entry_int_mul rfl (F.args_int_mul_2 _ _) hx hd h⟩
def rOwnI (C : Addr) (sp : Sp) (E : XK) : R2 := fun x y H Q => ∃ i b dy gs, x = .int i ∧ y = .ref b ∧ H b = some (.ins C dy gs) ∧ sp [y, x] H Q E
theorem op_ownI {CX : CXT} {k : Nat} {op : Operator} {id : String} {C f : Addr} {fd : FuncData} {ps : List Str} {sp : Sp} {E : XK} (N : IntOp op id) (O : OpI X.K C f op id) (F : FnOk X.prog X.w X.K X.mg X.base CX k f fd ps sp) (hr : Room k X.A) (hb : Binds X.K fd ps []) (hx : Passes CX X E) :
    OpR X (binaryOp op) (rOwnI C sp E) := fun pins s σ H x y v u Q I rx ry h => by
  obtain ⟨i, b, dy, gs, rfl, rfl, hb', q⟩ := h
  cases ry
  obtain ⟨t, rfl⟩ := rx
  obtain ⟨mB, J0, _⟩ := ins_get I.hok hb'
  obtain ⟨od, J, _⟩ := J0.look
  obtain ⟨f0, h0⟩ := O.h0
  refine bin_refl I.kIn J O.s1 N.slot N.fills h0 O.hs O.hf O.su (fun Q' q' => N.decl J.at_ (fun p => by intro z; cases z) q') ?_
  exact thn (run_fn (vs := [.ref b, .int i]) F hr hb .nil hx I (.cons rfl (.cons ⟨t, rfl⟩ .nil)) q) fun _ _ z => cmpBack_of z
/-- comparisons -/
structure CmF (K : PySem.W.Frag) (C f : Addr) (op : CmpOp) : Prop where
  hs : PySem.W.findIn K (.ref C) (cmpInfo op).2.1 = some (some (.ref f))
  hf : PySem.W.isFn K (.ref f) = true
  n1 : PySem.W.notFirst K C (.type "int") = true
theorem notFirst_self {K : PySem.W.Frag} {C : Addr} : PySem.W.notFirst K C (.ref C) = true := by simp [PySem.W.notFirst]
theorem op_ownC {CX : CXT} {k : Nat} {op : CmpOp} {C f : Addr} {fd : FuncData} {ps : List Str} {sp : Sp} {E : XK} (hop : ∀ a b, compareOp op a b = richCompare op a b) (O : CmF X.K C f op) (F : FnOk X.prog X.w X.K X.mg X.base CX k f fd ps sp) (hr : Room k X.A) (hb : Binds X.K fd ps []) (hx : Passes CX X E) :
    OpR X (compareOp op) (rOwn C sp E) := fun pins s σ H x y v u Q I rx ry h => by
  obtain ⟨a, dx, fs, rfl, ha, hy, q⟩ := h
  cases rx
  obtain ⟨mA, J, _⟩ := ins_get I.hok ha
  obtain ⟨od, J, _⟩ := J.look
  obtain ⟨m, hF⟩ := I.fr
  rw [hop]
  rcases hy with ⟨i, rfl⟩ | ⟨b, dy, gs, rfl, hb'⟩
  · obtain ⟨t, rfl⟩ := ry
    refine PySem.W.cmp_K hr.units0 hF I.ok.mod.kin J (PySem.W.Looks.of_pure rfl) O.n1 O.hs O.hf ?_
    exact thn (run_fn (vs := [.ref a, .int i]) F hr hb .nil hx I (.cons rfl (.cons ⟨t, rfl⟩ .nil)) q) fun _ _ z => cmpBack_of z
  · cases ry
    obtain ⟨mB, J', _⟩ := ins_get I.hok hb'
    obtain ⟨od', J', _⟩ := J'.look
    refine PySem.W.cmp_K hr.units0 hF I.ok.mod.kin J J'.type notFirst_self O.hs O.hf ?_
    exact thn (run_fn (vs := [.ref a, .ref b]) F hr hb .nil hx I (.cons rfl (.cons rfl .nil)) q) fun _ _ z => cmpBack_of z
structure CmI (K : PySem.W.Frag) (C f : Addr) (op : CmpOp) : Prop where
  hs : PySem.W.findIn K (.ref C) (cmpInfo op).2.2 = some (some (.ref f))
  hf : PySem.W.isFn K (.ref f) = true
  su : PySem.W.subIn K (.ref C) (.type "int") = some false
structure IntCm (op : CmpOp) (id : String) : Prop where
  slot : Slot "int" (cmpInfo op).2.1 id
  hop : ∀ a b, compareOp op a b = richCompare op a b
  decl : ∀ {prog : Program} {w : World} {A : Around} {E : Value → Shared → Prop} {s : Shared} {x : Addr} {ox : Obj} {i : Int} {t : Tok} {Q : Value → Shared → Prop}, s.heap.get? x = some ox → (∀ p, ox.data ≠ .prim p) → Q .notImplemented s →
    wpAny (model prog w) A (call (.builtin id) [.int i t, .ref x]) Q E s
theorem int_lt : IntCm .Lt "int.__lt__" := ⟨F.slot_int_lt, fun _ _ => rfl, fun hx hd h => int_declines _ _ F.slot_int_lt F.entry_int_lt rfl (F.args_int_lt_2 _ _) hx hd h⟩
theorem int_le : IntCm .LtE "int.__le__" := ⟨F.slot_int_le, fun _ _ => rfl, fun hx hd h => int_declines _ _ F.slot_int_le F.entry_int_le rfl (F.args_int_le_2 _ _) hx hd h⟩
theorem int_gt : IntCm .Gt "int.__gt__" := ⟨F.slot_int_gt, fun _ _ => rfl, fun hx hd h => int_declines _ _ F.slot_int_gt F.entry_int_gt rfl (F.args_int_gt_2 _ _) hx hd h⟩
theorem int_ge : IntCm .GtE "int.__ge__" := ⟨F.slot_int_ge, fun _ _ => rfl, fun hx hd h => int_declines _ _ F.slot_int_ge F.entry_int_ge rfl (F.args_int_ge_2 _ _) hx hd h⟩
theorem int_eq : IntCm .Eq "int.__eq__" := ⟨F.slot_int_eq, fun _ _ => rfl, fun hx hd h => int_declines _ _ F.slot_int_eq F.entry_int_eq rfl (F.args_int_eq_2 _ _) hx hd h⟩
theorem int_ne : IntCm .NotEq "int.__ne__" := ⟨F.slot_int_ne, fun _ _ => rfl, fun hx hd h => int_declines _ _ F.slot_int_ne F.entry_int_ne rfl (F.args_int_ne_2 _ _) hx hd h⟩
theorem op_ownCI {CX : CXT} {k : Nat} {op : CmpOp} {id : String} {C f : Addr} {fd : FuncData} {ps : List Str} {sp : Sp} {E : XK} (N : IntCm op id) (O : CmI X.K C f op) (F : FnOk X.prog X.w X.K X.mg X.base CX k f fd ps sp) (hr : Room k X.A) (hb : Binds X.K fd ps []) (hx : Passes CX X E) :
    OpR X (compareOp op) (rOwnI C sp E) := fun pins s σ H x y v u Q I rx ry h => by
  obtain ⟨i, b, dy, gs, rfl, rfl, hb', q⟩ := h
  cases ry
  obtain ⟨t, rfl⟩ := rx
  obtain ⟨mB, J0, _⟩ := ins_get I.hok hb'
  obtain ⟨od, J, _⟩ := J0.look
  rw [N.hop]
  refine cmp_refl hr.units0 I.kIn J N.slot O.hs O.hf O.su (fun Q' q' => N.decl J.at_ (fun p => by intro z; cases z) q') ?_
  exact thn (run_fn (vs := [.ref b, .int i]) F hr hb .nil hx I (.cons rfl (.cons ⟨t, rfl⟩ .nil)) q) fun _ _ z => cmpBack_of z
end

/-! ### -x, abs(x), bool(x), C.m(..) of an own class -/
section
variable {prog : Program} {w : World} {A : Around} {E : Value → Shared → Prop} {s : Shared} {x : Addr}
theorem bool_inst {Q : Value → Shared → Prop} (h : wpAny (model prog w) A.in1.in1 (truthy (.ref x)) (fun b s' => Q (.bool b) s') E s) : wpAny (model prog w) A (call (.type "bool") [.ref x]) Q E s := by
  refine callType_newIn F.called_bool F.newNe_bool (F.typeCall_bool_1 _) (F.newCall_bool_1 _) (fun obj => F.args_object_init_2 obj _) F.entry_bool_new
    (S := fun A R s => wpAny (model prog w) A.in1 (truthy (.ref x)) (fun b s' => R (.ok (.ret (.bool b))) s') (fun e s' => R (.error e) s') s) (fun A R s hs => ?_) ?_
  · obtain ⟨hp, g, d, tk, os⟩ := s
    have f1 := F.conv_sub_bool
    unfold Builtin.«bool.__new__»
    repeat (any_goals (first | assumption | (with_reducible refine wpAny_bind (wpAny_mono hs (fun b s' hb => ?_) fun _ _ e => e)) | wp_step))
    all_goals first | exact hb | skip
  · exact wpAny_mono h (fun b s' hb => ⟨rfl, hb⟩) fun _ _ e => e
end
section
variable {X : Cx} {CX : CXT} {k : Nat} {C f p : Addr} {fd : FuncData} {ps : List Str} {sp : Sp} {E : XK}
/-- a def called somewhere below, from a built-in -/
theorem run_fnA {pins : List (Addr × Obj)} {σ : St} {H : Hp} {s : Shared} {Q : VK} {us : List Value} {vs : List V} {A : Around} (room : Room k A) (fr : A.frames = X.A.frames) (F : FnOk X.prog X.w X.K X.mg X.base CX k f fd ps sp) (hb : Binds X.K fd ps []) (hx : Passes CX X E)
    (I : Inv X pins σ H s) (r : Vals vs us) (h : sp vs H Q E) : wpAny (model X.prog X.w) A (call (.ref f) us) (EP X pins σ Q) X.xe s := by
  have e0 : Env0 X.prog X.w X.K X.mg X.base A X.stack s H := by
    have e := I.env0
    exact ⟨by rw [fr]; exact e.frames, e.mod, e.bs, e.bsz, e.funs, e.frf, e.hok, e.bare⟩
  have hl : us.length = ps.length := by rw [← r.length]; exact F.len _ _ _ _ h
  refine wpAny_call (codeAny_mono (F.run A X.stack s H ⟨us, []⟩ us vs Q E room e0 (by
    have := hb s us I.kIn (by simpa using hl)
    simpa using this) r h) fun r s' hq => ?_)
  cases r with
  | error e => exact hx pins σ H s e s' I hq
  | ok fl =>
    cases fl with
    | ret u => exact I.after hq
    | next => exact False.elim hq
    | brk => exact False.elim hq
    | cont => exact False.elim hq
theorem room_in1 {A : Around} (h : Room (k + 1) A) : Room k A.in1 := h.in1
structure UnF (K : PySem.W.Frag) (C f : Addr) (nm : Str) : Prop where
  hs : PySem.W.findIn K (.ref C) nm = some (some (.ref f))
  hf : PySem.W.isFn K (.ref f) = true
def rOwn1 (C : Addr) (sp : Sp) (E : XK) : V → Hp → VK → Prop := fun x H Q => ∃ a dx fs, x = .ref a ∧ H a = some (.ins C dx fs) ∧ sp [x] H Q E
theorem un_own (O : UnF X.K C f "__neg__") (F : FnOk X.prog X.w X.K X.mg X.base CX k f fd ps sp) (hr : Room k X.A) (hb : Binds X.K fd ps []) (hx : Passes CX X E) : UnR X (unaryOp .USub) (rOwn1 C sp E) := fun pins s σ H x v Q I rx h => by
  obtain ⟨a, dx, fs, rfl, ha, q⟩ := h
  cases rx
  obtain ⟨mA, J, _⟩ := ins_get I.hok ha
  obtain ⟨od, J, _⟩ := J.look
  obtain ⟨m, hF⟩ := I.fr
  refine PySem.W.ksp_neg hF I.ok.mod.kin J O.hs O.hf ?_
  exact run_fn (vs := [.ref a]) F hr hb .nil hx I (.cons rfl .nil) q
def rOwnC1 (C : Addr) (sp : Sp) (E : XK) : List V → Hp → VK → Prop := fun vs H Q => ∃ a dx fs, vs = [.ref a] ∧ H a = some (.ins C dx fs) ∧ sp vs H Q E
theorem call_absO (O : UnF X.K C f "__abs__") (F : FnOk X.prog X.w X.K X.mg X.base CX k f fd ps sp) (hr : Room (k + 1) X.A) (hb : Binds X.K fd ps []) (hx : Passes CX X E) : CallR X (.builtin "abs") (rOwnC1 C sp E) := fun pins s σ H xs us Q I r h => by
  obtain ⟨a, dx, fs, rfl, ha, q⟩ := h
  obtain ⟨u, rfl, ru⟩ := vals1 r
  cases ru
  obtain ⟨mA, J, _⟩ := ins_get I.hok ha
  obtain ⟨od, J, _⟩ := J.look
  refine Calls.call_function_entry PyProof.Rows.kind_abs PyProof.Rows.plain_abs PyProof.Rows.entry_abs (PyProof.Rows.args_abs _) ?_
  unfold Builtin.«abs»
  refine wpAny_bind (m := oneArg "abs" _) (wpAny_pure ?_)
  refine wpAny_bind (m := callSpecial? (.ref a) (Str.ofString "__abs__")) (PySem.W.special_fn I.kIn J O.hs (beq_iff_eq.mp O.hf) ?_)
  exact thn (run_fnA (vs := [.ref a]) (room_in1 hr) rfl F hb hx I (.cons rfl .nil) q) fun v s' z => wpAny_pure ⟨_, rfl, z⟩
theorem boolBack_of {pins : List (Addr × Obj)} {σ : St} {Q : VK} {u : Value} {s' : Shared} (h : EP X pins σ (fun v H' => (∃ b, v = .bl b) ∧ Q v H') u s') : PySem.W.BoolBack (fun b s' => EP X pins σ Q (.bool b) s') u s' := by
  obtain ⟨v, H', I, r, ⟨b, rfl⟩, q⟩ := h
  cases r
  exact ⟨.bl b, H', I, rfl, q⟩
def rOwnB (C : Addr) (sp : Sp) (E : XK) : List V → Hp → VK → Prop := fun vs H Q => ∃ a dx fs, vs = [.ref a] ∧ H a = some (.ins C dx fs) ∧ sp vs H (fun v H' => (∃ b, v = .bl b) ∧ Q v H') E
theorem call_boolO (O : UnF X.K C f "__bool__") (F : FnOk X.prog X.w X.K X.mg X.base CX k f fd ps sp) (hr : Room (k + 2) X.A) (hb : Binds X.K fd ps []) (hx : Passes CX X E) : CallR X (.type "bool") (rOwnB C sp E) := fun pins s σ H xs us Q I r h => by
  obtain ⟨a, dx, fs, rfl, ha, q⟩ := h
  obtain ⟨u, rfl, ru⟩ := vals1 r
  cases ru
  obtain ⟨mA, J, _⟩ := ins_get I.hok ha
  obtain ⟨od, J, _⟩ := J.look
  obtain ⟨m, hF⟩ := I.fr
  refine bool_inst (PySem.W.truthy_K hF I.ok.mod.kin J O.hs O.hf ?_)
  exact thn (run_fnA (vs := [.ref a]) (room_in1 (room_in1 hr)) rfl F hb hx I (.cons rfl .nil) q) fun v s' z => boolBack_of z
/-- C.m is a staticmethod: its record at p, its def at g -/
structure SMet (K : PySem.W.Frag) (C : Addr) (mc : Value) (m : Str) (p g : Addr) : Prop where
  at_ : PySem.W.findCls K (.ref C) mc m = some (.get (.builtin "staticmethod.__get__") (.ref p) .none (.ref C))
  rc : ∃ rest, PySem.W.recIn K p "staticmethod" = some (.ref g :: rest)
  kp : PySem.W.keepIn K (.ref g) = true
def tSMeth (C : Addr) (sp : Sp) (E : XK) (ta : TE) (t : TA) : TE := fun σ H Q => ta σ H fun x H1 => x = .ref C ∧ t σ H1 fun vs H2 => sp vs H2 Q E
theorem pe_smeth {o e : Expr} {es : List Expr} {m : Str} {pos apos : Pos} {ta : TE} {t : TA} {pl : Sem Bool} {mc : Value} (he : PE X o ta) (r : ClX.CRead X.K C mc) (c : SMet X.K C mc m p f) (F : FnOk X.prog X.w X.K X.mg X.base CX k f fd ps sp) (hr : Room k X.A) (hb : Binds X.K fd ps []) (hx : Passes CX X E) (ha : PA X (e :: es) t)
    (hst : starEach (e :: es) X.env = (false, eval e X.env) :: starEach es X.env := by rfl) (hpl : (backTo pos (starEach es X.env)).any (·.1) = false := by rfl)
    (ht : eval (.Call (.Attribute o m apos) (e :: es) [] pos) X.env = (do
      let ov ← eval o X.env
      standAt apos.atName
      let (f, first) ← holding [ov] (getMethod ov m pl)
      callWith pos f first (backTo pos (starEach (e :: es) X.env)) (backToKw pos (keywordEach [] X.env))) := by rfl) :
    PE X (.Call (.Attribute o m apos) (e :: es) [] pos) (tSMeth C sp E ta t) := by
  refine ⟨fun pins s σ H Q I h => ?_⟩
  refine PySem.W.methodCall_KW (pl := pl) (thn (he.run pins s σ H _ I h) fun u s1 ⟨x, H1, I1, rx, ex, q⟩ => ?_) ht
  subst ex
  obtain rfl : u = Value.ref C := rx
  obtain ⟨rest, hp⟩ := c.rc
  refine PySem.W.method_cls I1.kIn r.ga ?_
  refine PySem.W.cls_bind I1.kIn r.rd c.at_ ?_
  refine wpAny_call (PySem.W.sm_get (s := { s1 with toks := s1.toks + 1 }) I1.kIn hp (PySem.W.handed_on rfl ?_))
  refine PySem.W.callWith_K (h₀ := X.base) (first := []) I.ok.mod.kin c.kp (thn (ha.run pos pins _ σ H1 _ (I1.tok _) q) fun us s2 ⟨vs, H2, I2, rv, q2⟩ => ⟨I2.kIn, ?_⟩) hst hpl
  exact run_fn F hr hb .nil hx I2 rv (by rw [List.append_nil]; exact q2)
end
/-! ### isinstance with own classes -/
structure TyF (K : PySem.W.Frag) (C : Addr) : Prop where
  cl : Cls K C
  ha : PySem.W.findIn K (.ref C) "__class__" = some (some (.builtin "object.__class__"))
  hn : PySem.W.specialIn K (.builtin "object.__class__") "__get__" = some (some (.builtin "getset_descriptor.__get__"))
  tk : PySem.W.takesIn K (.builtin "object.__class__") = some true
  hm : PySem.W.mroIn K C (.type "object") = some true
/-- the type of a value -/
def tyO : Option HO → Option Value
  | some (.lst _) => some (.type "list")
  | some (.tup _) => some (.type "tuple")
  | some (.dK _) => some (.type "dict")
  | some (.ins C _ _) => some (.ref C)
  | _ => none
def tyV (H : Hp) : V → Option Value
  | .non => some (.type "NoneType")
  | .bl _ => some (.type "bool")
  | .int _ => some (.type "int")
  | .str _ => some (.type "str")
  | .ref a => tyO (H a)
  | _ => none
theorem tyV_non {H : Hp} : tyV H .non = some (.type "NoneType") := rfl
theorem tyV_bl {H : Hp} {b : Bool} : tyV H (.bl b) = some (.type "bool") := rfl
theorem tyV_int {H : Hp} {i : Int} : tyV H (.int i) = some (.type "int") := rfl
theorem tyV_str {H : Hp} {z : Str} : tyV H (.str z) = some (.type "str") := rfl
theorem tyV_ref {H : Hp} {a : Addr} : tyV H (.ref a) = tyO (H a) := rfl
theorem tyO_lst {xs : List V} : tyO (some (.lst xs)) = some (.type "list") := rfl
theorem tyO_tup {xs : List V} : tyO (some (.tup xs)) = some (.type "tuple") := rfl
theorem tyO_dK {kvs : List (Key × V)} : tyO (some (.dK kvs)) = some (.type "dict") := rfl
theorem tyO_ins {C dx : Addr} {fs : List (Str × V)} : tyO (some (.ins C dx fs)) = some (.ref C) := rfl
theorem tyV_ok {K : PySem.W.Frag} {H : Hp} {v : V} {t : Value} (h : tyV H v = some t) (hC : ∀ C, t = .ref C → TyF K C) : TyX K H v t := by
  cases v with
  | non => cases h; exact .base .non
  | bl b => cases h; exact .base (.bl b)
  | int i => cases h; exact .base (.int i)
  | str z => cases h; exact .base (.str z)
  | byt b => cases h
  | flt b => cases h
  | ty n => cases h
  | ref a =>
    have h : tyO (H a) = some t := h
    cases e : H a with
    | none => rw [e] at h; cases h
    | some o =>
      rw [e] at h
      cases o with
      | lst xs => cases h; exact .base (.lst e)
      | tup xs => cases h; exact .base (.tup e)
      | dK kvs => cases h; exact .base (.dK e)
      | ins C dx fs =>
        cases h
        have q := hC C rfl
        exact .base (.ins e q.cl q.ha q.hn q.tk q.hm)
      | _ => cases h
def clsV : V → Option Value
  | .ty n => some (.type n)
  | .ref C => some (.ref C)
  | _ => none
theorem clsV_ty {n : String} : clsV (.ty n) = some (.type n) := rfl
theorem clsV_ref {C : Addr} : clsV (.ref C) = some (.ref C) := rfl
def clsVs : List V → Option (List Value)
  | [] => some []
  | v :: r => (clsV v).bind fun u => (clsVs r).map fun us => u :: us
theorem clsVs_nil : clsVs [] = some [] := rfl
theorem clsVs_ty {n : String} {r : List V} : clsVs (.ty n :: r) = (clsVs r).map fun us => Value.type n :: us := rfl
theorem clsVs_ref {C : Addr} {r : List V} : clsVs (.ref C :: r) = (clsVs r).map fun us => Value.ref C :: us := rfl
theorem clsV_ok {v : V} {u : Value} (h : clsV v = some u) : ClsV v u := by
  cases v with
  | ty n => cases h; exact .ty n
  | ref C => cases h; exact .own C
  | _ => cases h
theorem clsVs_ok : ∀ {vs : List V} {us : List Value}, clsVs vs = some us → Paired ClsV vs us
  | [], us, h => by cases h; exact .nil
  | v :: r, us, h => by
    unfold clsVs at h
    cases e : clsV v with
    | none => rw [e] at h; cases h
    | some u =>
      rw [e] at h
      cases e2 : clsVs r with
      | none => rw [e2] at h; cases h
      | some ws => rw [e2] at h; cases h; exact .cons (clsV_ok e) (clsVs_ok e2)
section
variable {X : Cx}
def rIsW (K : PySem.W.Frag) : List V → Hp → VK → Prop := fun vs H Q => ∃ x c u t b, vs = [x, c] ∧ clsV c = some u ∧ tyV H x = some t ∧ (∀ C, t = .ref C → TyF K C) ∧ PySem.W.kitOne K t u = some b ∧ Q (.bl b) H
theorem call_isW : CallR X (.builtin "isinstance") (rIsW X.K) := fun pins s σ H xs us Q I r h => by
  obtain ⟨x, c, u, t, b, h1, h2, h3, h4, h5, h6⟩ := h
  exact call_isi pins s σ H xs us Q I r ⟨x, c, t, u, b, h1, clsV_ok h2, tyV_ok h3 h4, h5, h6⟩
def rIsWT (K : PySem.W.Frag) : List V → Hp → VK → Prop := fun vs H Q => ∃ x p cs us t b, vs = [x, .ref p] ∧ H p = some (.tup cs) ∧ clsVs cs = some us ∧ tyV H x = some t ∧ (∀ C, t = .ref C → TyF K C) ∧ PySem.W.kitAny K t us = some b ∧ Q (.bl b) H
theorem call_isWT : CallR X (.builtin "isinstance") (rIsWT X.K) := fun pins s σ H xs us Q I r h => by
  obtain ⟨x, p, cs, ws, t, b, h1, h2, h3, h4, h5, h6, h7⟩ := h
  exact call_isiT pins s σ H xs us Q I r ⟨x, p, cs, t, ws, b, h1, h2, clsVs_ok h3, tyV_ok h4 h5, h6, h7⟩
theorem kitAny_t {K : PySem.W.Frag} {t c : Value} {r : List Value} (h : PySem.W.kitOne K t c = some true) : PySem.W.kitAny K t (c :: r) = some true := by
  unfold PySem.W.kitAny
  rw [h]
theorem kitAny_f {K : PySem.W.Frag} {t c : Value} {r : List Value} (h : PySem.W.kitOne K t c = some false) : PySem.W.kitAny K t (c :: r) = PySem.W.kitAny K t r := by
  rw [PySem.W.kitAny]
  rw [h]
theorem kit_self {K : PySem.W.Frag} {t : Value} : PySem.W.kitOne K t t = some true := by
  unfold PySem.W.kitOne
  rw [if_pos (by simp)]
end
theorem kit_out {K : PySem.W.Frag} {C : Addr} {b : String} {r : Bool} (h : PySem.W.subIn K (.ref C) (.type b) = some r) (hm : PySem.W.kitMeta b = true := by decide) : PySem.W.kitOne K (.ref C) (.type b) = some r := by
  unfold PySem.W.kitOne
  rw [if_neg (by simp)]
  show (if PySem.W.kitMeta b = true then _ else _) = _
  rw [if_pos hm]
  exact h
theorem kit_in {K : PySem.W.Frag} {C : Addr} {t : Value} {r : Bool} (ic : PySem.W.isClsIn K C = true) (ty : PySem.W.typeIn K (.ref C) = some (.type "type")) (h : PySem.W.subIn K t (.ref C) = some r) (ne : t ≠ .ref C) : PySem.W.kitOne K t (.ref C) = some r := by
  unfold PySem.W.kitOne
  rw [if_neg (by simpa using ne)]
  show (if ((PySem.W.clsIn K C).isSome && PySem.W.typeIn K (.ref C) == some (.type "type")) = true then _ else _) = _
  have i2 : (PySem.W.clsIn K C).isSome = true := ic
  rw [if_pos (by rw [i2, ty]; rfl)]
  exact h

/-! ### comparisons with anything on the right; two rules for one node -/
section
variable {X : Cx}
def rOr (r r' : R2) : R2 := fun x y H Q => r x y H Q ∨ r' x y H Q
theorem opOr {f : Value → Value → Sem Value} {r r' : R2} (h : OpR X f r) (h' : OpR X f r') : OpR X f (rOr r r') := fun pins s σ H x y v u Q I rx ry q => by
  rcases q with q | q
  · exact h pins s σ H x y v u Q I rx ry q
  · exact h' pins s σ H x y v u Q I rx ry q
theorem looksTy {M : Model} {pins : List (Addr × Obj)} {σ : St} {H : Hp} {s : Shared} {y : V} {u t : Value} (I : Inv X pins σ H s) (r : RelV y u) (h : tyV H y = some t) : PySem.W.Looks M s.heap (typeOf u) t := by
  cases y with
  | non => cases h; cases r; exact PySem.W.Looks.of_pure rfl
  | bl b => cases h; cases r; exact PySem.W.Looks.of_pure rfl
  | int i => cases h; obtain ⟨_, rfl⟩ := r; exact PySem.W.Looks.of_pure rfl
  | str z => cases h; obtain ⟨_, rfl⟩ := r; exact PySem.W.Looks.of_pure rfl
  | byt b => cases h
  | flt b => cases h
  | ty n => cases h
  | ref a =>
    cases r
    have h : tyO (H a) = some t := h
    cases e : H a with
    | none => rw [e] at h; cases h
    | some o =>
      rw [e] at h
      cases o with
      | lst xs =>
        cases h
        obtain ⟨_, _, n, _, h1⟩ := (show ObjOk X.prog X.w H s.heap a (.lst xs) from I.hok a _ e)
        exact (PySem.W.Looks.ld h1).andThen .now
      | tup xs =>
        cases h
        obtain ⟨_, _, _, o, h1, h2, _⟩ := (show ObjOk X.prog X.w H s.heap a (.tup xs) from I.hok a _ e)
        exact h2 ▸ (PySem.W.Looks.ld h1).andThen .now
      | dK kvs =>
        cases h
        obtain ⟨_, _, vs, _, o, es, ep, h1, h2, _⟩ := (show ObjOk X.prog X.w H s.heap a (.dK kvs) from I.hok a _ e)
        exact h2.1 ▸ (PySem.W.Looks.ld h1).andThen .now
      | ins C dx fs =>
        cases h
        obtain ⟨mA, J, _⟩ := ins_get I.hok e
        obtain ⟨od, J, _⟩ := J.look
        exact J.type
      | _ => cases h
def rOwnA (K : PySem.W.Frag) (C : Addr) (sp : Sp) (E : XK) : R2 := fun x y H Q => ∃ a dx fs t, x = .ref a ∧ H a = some (.ins C dx fs) ∧ tyV H y = some t ∧ PySem.W.notFirst K C t = true ∧ sp [x, y] H Q E
theorem op_ownCA {CX : CXT} {k : Nat} {op : CmpOp} {C f : Addr} {fd : FuncData} {ps : List Str} {sp : Sp} {E : XK} (hop : ∀ a b, compareOp op a b = richCompare op a b) (O : CmF X.K C f op) (F : FnOk X.prog X.w X.K X.mg X.base CX k f fd ps sp) (hr : Room k X.A) (hb : Binds X.K fd ps []) (hx : Passes CX X E) :
    OpR X (compareOp op) (rOwnA X.K C sp E) := fun pins s σ H x y v u Q I rx ry h => by
  obtain ⟨a, dx, fs, t, rfl, ha, hy, hn, q⟩ := h
  cases rx
  obtain ⟨mA, J, _⟩ := ins_get I.hok ha
  obtain ⟨od, J, _⟩ := J.look
  obtain ⟨m, hF⟩ := I.fr
  rw [hop]
  refine PySem.W.cmp_K hr.units0 hF I.ok.mod.kin J (looksTy I ry hy) hn O.hs O.hf ?_
  exact thn (run_fn (vs := [.ref a, y]) F hr hb .nil hx I (.cons rfl (.cons ry .nil)) q) fun _ _ z => cmpBack_of z
end

/-! ### defs that are called where no repr is under way (A.guards = some []): what repr of a list asks -/
structure FnG (P : Program) (w : World) (K : PySem.W.Frag) (mg : Str → Option Value) (base : Heap) (CX : CXT) (k : Nat) (f : Addr) (fd : FuncData) (ps : List Str) (sp : Sp) : Prop where
  len : ∀ vs H Q E, sp vs H Q E → vs.length = ps.length
  run : ∀ (A : Around) (outer : List Env) (s : Shared) (H : Hp) (args : Args) (us : List Value) (vs : List V) (Q : VK) (E : XK), Room k A → A.guards = some [] → Env0 P w K mg base A outer s H → BindsTo s fd args (ps.zip us) → Vals vs us → sp vs H Q E →
    codeAny (model P w) A (.call (.ref f) args) (CR CX outer P w H s Q E) s
theorem fn_g {P : Program} {w : World} {K : PySem.W.Frag} {mg : Str → Option Value} {base : Heap} {CX : CXT} {k : Nat} {f : Addr} {fd : FuncData} {ps : List Str} {sp : Sp} (F : FnOk P w K mg base CX k f fd ps sp) : FnG P w K mg base CX k f fd ps sp :=
  ⟨F.len, fun A o s H ar us vs Q E hr _ => F.run A o s H ar us vs Q E hr⟩
theorem fnG_of {CX : CXT} {P : Program} {w : World} {K : PySem.W.Frag} {mg : Str → Option Value} {base : Heap} {k : Nat} {f : Addr} {name qual : Str} {params : Arguments} {body : List Stmt} {scope : Scope} {dV kV doc pm cdv ct oc : Value} {an od : Option Addr}
    {osl : Array (Option Value)} {N ps : List Str} {sp : Sp} (lk : K.lookup f = some ⟨oc, od, .func (PySem.W.fnOf name qual params body scope dV kV doc pm an cdv ct), osl⟩) (hcd : PySem.W.codeIn K cdv qual = true) (S : FnScope N ps scope)
    (len : ∀ vs H Q E, sp vs H Q E → vs.length = ps.length)
    (hbody : ∀ (A : Around) (outer : List Env) (s : Shared) (H : Hp) (vs : List V) (Q : VK) (E : XK), Room k (A.deeper (PyProof.Rows.envOfC qual scope s.heap.objs.size f cdv)) → A.guards = some [] → sp vs H Q E →
      ∃ t, PSs (cxOf CX P w K mg base N qual scope f cdv A outer s H E) body t ∧ t { nx := fun _ H' => Q .non H', rt := Q } (L2.start N vs) H) :
    FnG P w K mg base CX (k + 1) f (PySem.W.fnOf name qual params body scope dV kV doc pm an cdv ct) ps sp := by
  refine ⟨len, fun A outer s H args us vs Q E hr hg e0 hb r hsp => ?_⟩
  have kp : ∀ b o, base.get? b = some o → s.heap.get? b = some o := fun b o e => (e0.bs b o e).1
  have KX : K.In s.heap := e0.mod.kin.keeps kp
  refine codeAny_call_function hr.depth (KX _ _ lk) rfl S.co S.gen rfl (PySem.W.codeRec_of KX hcd) (hb _ _ _ _ ?_)
  refine wpAny_newFunctionEnv_cells S.kind (fun ⟨n, v⟩ hy => ?_) fun env he s1 x => ?_
  · rcases S.par n (List.of_mem_zip hy).1 with q | q
    · exact .inl q
    · exact .inr ⟨q, PySem.W.cellsFrom_some _ _ _ (.inl q)⟩
  subst he
  refine ⟨(e0.mod.nolimit.keeps kp).keeps x.toInCall.keep, codeAny_func ?_⟩
  obtain ⟨t, ht, hq⟩ := hbody A outer s H vs Q E (hr.deeper _) hg hsp
  refine wpAny_mono (ht.run [] s1 (L2.start N vs) H _ (inv_start S hr.hd e0 (len _ _ _ _ hsp) r x) hq) (fun fl s' hs => ?_) fun e s' hs => hs
  cases fl with
  | ret u =>
    obtain ⟨v, σ', H', J, rv, q⟩ := hs
    exact ⟨v, H', J.os, J.bare, J.base, J.hok, rv, q⟩
  | next =>
    obtain ⟨σ', H', J, q⟩ := hs
    exact ⟨V.non, H', J.os, J.bare, J.base, J.hok, rfl, q⟩
  | brk =>
    obtain ⟨_, _, _, q⟩ := hs
    exact q.elim
  | cont =>
    obtain ⟨_, _, _, q⟩ := hs
    exact q.elim
section
variable {P : Program} {w : World} {K : PySem.W.Frag} {mg : Str → Option Value} {base : Heap}
theorem okG {x qual : Str} {st : Stmt} {f : Addr} {fd : FuncData} {N ps : List Str} {k : Nat} {sp : Sp} (F : Fun K x qual st f fd) (S : FnScope N ps (defScope st)) (len : ∀ vs H Q E, sp vs H Q E → vs.length = ps.length)
    (hbody : ∀ (cdv : Value) (A : Around) (outer : List Env) (s : Shared) (H : Hp) (vs : List V) (Q : VK) (E : XK), Room k (A.deeper (PyProof.Rows.envOfC qual (defScope st) s.heap.objs.size f cdv)) → (cxOf CX0 P w K mg base N qual (defScope st) f cdv A outer s H E).nox.A.guards = some [] → sp vs H Q E →
      ∃ t, PSs (cxOf CX0 P w K mg base N qual (defScope st) f cdv A outer s H E).nox (defBody st) t ∧ t { nx := fun _ H' => Q .non H', rt := Q } (L2.start N vs) H) : FnG P w K mg base CX0 (k + 1) f fd ps sp := by
  obtain ⟨oc, od, kV, doc, pm, an, cdv, ct, osl, rfl, lk, hcd⟩ := F.ex
  refine fnG_of lk hcd S len fun A outer s H vs Q E hr hg hsp => ?_
  obtain ⟨t, h, q⟩ := hbody cdv A outer s H vs Q E hr hg hsp
  exact ⟨t, h.nox, q⟩
end
section
variable {X : Cx} {CX : CXT} {k : Nat} {f C : Addr} {fd : FuncData} {ps : List Str} {sp : Sp} {dvs : List V} {ds : List Value} {E : XK} {x m : Str} {p pos apos : Pos} {e o : Expr} {es : List Expr} {ta : TE} {t : TA}
theorem run_fnG {pins : List (Addr × Obj)} {σ : St} {H : Hp} {s : Shared} {Q : VK} {us : List Value} {vs : List V} (F : FnG X.prog X.w X.K X.mg X.base CX k f fd ps sp) (hr : Room k X.A) (hG : X.A.guards = some []) (hb : Binds X.K fd ps []) (hx : Passes CX X E)
    (I : Inv X pins σ H s) (r : Vals vs us) (h : sp vs H Q E) : wpAny (model X.prog X.w) X.A (call (.ref f) us) (EP X pins σ Q) X.xe s := by
  have hl : us.length = ps.length := by rw [← r.length]; exact F.len _ _ _ _ h
  have hb2 := hb s us I.kIn (by simpa using hl)
  rw [List.append_nil] at hb2
  refine wpAny_call (codeAny_mono (F.run X.A X.stack s H ⟨us, []⟩ us vs Q E hr hG I.env0 hb2 r h) fun r s' hq => ?_)
  cases r with
  | error e => exact hx pins σ H s e s' I hq
  | ok fl =>
    cases fl with
    | ret u => exact I.after hq
    | next => exact False.elim hq
    | brk => exact False.elim hq
    | cont => exact False.elim hq
theorem pe_callG (F : FnG X.prog X.w X.K X.mg X.base CX k f fd ps sp) (hr : Room k X.A) (hG : X.A.guards = some []) (hg : Gl X x) (hm : X.mg x = some (.ref f)) (hk : PySem.W.keepIn X.K (.ref f) = true) (hb : Binds X.K fd ps []) (hx : Passes CX X E)
    (ha : PA X (e :: es) t) (hdb : (x == ("__debug__" : Str)) = false := by decide) (he : starEach (e :: es) X.env = (false, eval e X.env) :: starEach es X.env := by rfl) (hpl : (backTo pos (starEach es X.env)).any (·.1) = false := by rfl) :
    PE X (.Call (.Name x p) (e :: es) [] pos) (tCall sp [] E t) := by
  refine ⟨fun pins s σ H Q I h => ?_⟩
  refine wpAny_Call_Name_kw (ld_glob I hg hm ?_ hdb)
  refine PySem.W.callWith_K (h₀ := X.base) I.ok.mod.kin hk (thn (ha.run pos pins s σ H _ I h) fun us s1 ⟨vs, H1, I1, r, q⟩ => ⟨I1.kIn, ?_⟩) he hpl
  exact run_fnG F hr hG hb hx I1 r (List.append_nil vs ▸ (show sp (vs ++ []) H1 Q E from q))
theorem pe_callG0 (F : FnG X.prog X.w X.K X.mg X.base CX k f fd ps sp) (hr : Room k X.A) (hG : X.A.guards = some []) (hg : Gl X x) (hm : X.mg x = some (.ref f)) (hk : PySem.W.keepIn X.K (.ref f) = true) (hb : Binds X.K fd ps []) (hx : Passes CX X E)
    (hdb : (x == ("__debug__" : Str)) = false := by decide) : PE X (.Call (.Name x p) [] [] pos) (fun _ H Q => sp [] H Q E) := by
  refine ⟨fun pins s σ H Q I h => ?_⟩
  refine wpAny_Call_Name_kw (ld_glob I hg hm ?_ hdb)
  exact PySem.W.callWith_K0 I.kIn hk (run_fnG (us := []) F hr hG hb hx I .nil h)
/-- repr of a list of bools -/
def btx (b : Bool) : Str := if b then "True" else "False"
def reprBs (bs : List Bool) : Str := listText (bs.map btx)
theorem reprs_b {P : Program} {w : World} : ∀ {bs : List Bool} {its : List Value}, Vals (bs.map V.bl) its → ∀ (i : Nat) (y : Value), its[i]? = some y → ∃ t, (bs.map btx)[i]? = some t ∧ ReprIs P w y t
  | [], _, h, i, y, e => by
    cases h
    simp at e
  | b :: bs, _, h, 0, y, e => by
    cases h with
    | cons h1 h2 =>
      cases h1
      have e2 : Value.bool b = y := Option.some.inj e
      subst e2
      exact ⟨btx b, rfl, ReprIs.bool b⟩
  | b :: bs, _, h, i + 1, y, e => by
    cases h with
    | cons h1 h2 => exact reprs_b h2 i y e
def rReprB : List V → Hp → VK → Prop := fun xs H Q => ∃ a b bs, xs = [.ref a] ∧ H a = some (.lst ((b :: bs).map V.bl)) ∧ (reprBs (b :: bs)).length ≤ sizeLine ∧ Q (.str (reprBs (b :: bs))) H
theorem call_reprB (hr : Room k X.A) (hG : X.A.guards = some []) : CallR X (.builtin "repr") rReprB := fun pins s σ H xs us Q I r h => by
  obtain ⟨a, b, bs, rfl, ha, hz, q⟩ := h
  obtain ⟨u, rfl, ru⟩ := vals1 r
  cases ru
  obtain ⟨its, rv, ⟨o, n, ho, hc, hdn, hd⟩, hlen⟩ := I.list (SqL.of ha)
  cases rv with
  | cons r1 r2 =>
    rename_i i1 i2
    have hT : s.TypeIs (.ref a) "list" := ⟨o, ho, hc⟩
    refine call_repr_slot (by have := hr.units; omega) hT PySem.F.slot_list_repr.toG ?_
    refine call_list_repr (g := []) (ts := (b :: bs).map btx) hT hG (fun _ _ _ h => (nomatch h)) ho hd ?_ ?_ (fun h' u tk kp => ?_) hz
    · have e := r2.length
      rw [List.size_toArray, List.length_cons, ← e, List.length_map, List.length_map]
      rfl
    · intro i y e
      exact reprs_b (bs := b :: bs) (.cons r1 r2) i y (by simpa using e)
    · exact ⟨_, u, rfl, V.str (reprBs (b :: bs)), H, I.kept (t' := tk) kp, ⟨u, rfl⟩, q⟩
end
/-! ### the end: the law is called where no repr is under way -/
section
open PySem.Spec PyProof.Rows
theorem law_callG {P : Program} {w : World} {K : PySem.W.Frag} {mg mb : Str → Option Value} {k : Nat} {fa a : Addr} {fd : FuncData} {x : Str} {sp : Sp} {s₁ : Shared} {vs : List Value} {ns : List Int}
    (KX : K.In s₁.heap) (hns : s₁.heap.Ns mainGlobals mg) (hb : s₁.heap.Ns builtinsNs mb) (hbb : ∀ x : Str, x ≠ "__name__" → mb x = bootBuiltins x) (hlim : s₁.heap.NoLimit) (hg : s₁.gens = #[])
    (ha : s₁.heap.get? a = some { cls := .type "list", data := .seq vs.toArray }) (hi : IntsAre vs ns) (hl : ns.length ≤ sizeLine) (hr : Room k callerA)
    (F : ∀ base : Heap, K.In base → base.Ns mainGlobals mg → FnG P w K mg base CX0 k fa fd [x] sp) (hbind : ∀ (s : Shared) (u : Value), BindsTo s fd ⟨[u], []⟩ [(x, u)])
    (hsp : ∀ H : Hp, SqL K H a (ns.map V.int) → sp [.ref a] H (fun v _ => v = .bl true) fun _ _ _ => False) :
    codeAny (model P w) callerA (.call (.ref fa) ⟨[.ref a], []⟩) (fun r s' => r = .ok (.ret (.bool true)) ∧ OldK s₁.heap s'.heap ∧ s'.os = s₁.os ∧ AllBare s'.gens) s₁ := by
  have rv := vals_ints hi
  have core : ∀ H : Hp, SqL K H a (ns.map V.int) → HOk P w H s₁.heap → (∀ b u, H b = some u → b = a ∧ K.lookup a = none ∧ ∃ o ys, u = .frz o ys) →
      codeAny (model P w) callerA (.call (.ref fa) ⟨[.ref a], []⟩) (fun r s' => r = .ok (.ret (.bool true)) ∧ OldK s₁.heap s'.heap ∧ s'.os = s₁.os ∧ AllBare s'.gens) s₁ := by
    intro H hS hok hA
    have at_ : ∀ {b : Addr} {o : Obj}, s₁.heap.get? b = some o → (∀ u, H b ≠ some u) → (hidT s₁.heap H).get? b = some o := fun {b o} e n => hidT_get e (by
      cases q : H b with
      | none => rfl
      | some u => exact absurd q (n u))
    have ns_ : ∀ {b : Addr} {m : Str → Option Value}, s₁.heap.Ns b m → (hidT s₁.heap H).Ns b m := fun {b m} ⟨o, es, ep, e, d, r⟩ => ⟨o, es, ep, at_ e (fun u q => by
      obtain ⟨rfl, _⟩ := hA b u q
      rw [ha] at e
      cases e
      have z : Data.seq vs.toArray _ = Data.dict es ep := d
      cases z), d, r⟩
    have hK : K.In (hidT s₁.heap H) := fun b o e => at_ (KX b o e) (fun u q => by
      obtain ⟨rfl, n, _⟩ := hA b u q
      rw [n] at e
      cases e)
    have hM : Mod K mg (hidT s₁.heap H) := ⟨hK, ns_ hns, ⟨mb, ns_ hb, hbb⟩, let ⟨mc, h1, h2⟩ := hlim; ⟨mc, ns_ h1, h2⟩⟩
    have e0 : Env0 P w K mg (hidT s₁.heap H) callerA [] s₁ H := ⟨rfl, hM, fun b o e => of_hidT e, Nat.le_of_eq (hidT_size _ _), trivial, fun b hb => absurd (show b ∈ ([] : List Addr) from hb) (by simp), hok, .of_eq hg⟩
    refine codeAny_mono ((F _ hK (ns_ hns)).run callerA [] s₁ H ⟨[.ref a], []⟩ [.ref a] [.ref a] _ _ hr rfl e0 (hbind s₁ (.ref a)) (.cons rfl .nil) (hsp H hS)) fun r s' h => ?_
    match r, h with
    | .error e, h => exact False.elim h
    | .ok .next, h => exact False.elim h
    | .ok .brk, h => exact False.elim h
    | .ok .cont, h => exact False.elim h
    | .ok (.ret u), h =>
      obtain ⟨v, H', os, bare, un, hok', r', q⟩ := h
      obtain rfl : v = .bl true := q
      obtain rfl : u = Value.bool true := r'
      refine ⟨rfl, OldK.of_keep fun b o e => ?_, os, bare⟩
      cases q : H b with
      | none => exact un.keep b o e q (by intro z; exact absurd (show b ∈ ([] : List Addr) from z) (by simp)) (by simp)
      | some u =>
        obtain ⟨_, _, o', ys, rfl⟩ := hA b u q
        have q2 := un.frzs b o' _ q
        obtain ⟨e1, _⟩ := hok b _ q
        obtain ⟨e2, _⟩ := hok' b _ q2
        rw [e] at e1
        cases e1
        exact e2
  cases hk : K.lookup a with
  | some o =>
    have e := KX a o hk
    rw [ha] at e
    cases e
    exact core (fun _ => none) (.inr ⟨_, vs.toArray, _, hk, rfl, rfl, rfl, by rw [List.size_toArray, hi.length]; exact hl, by simpa using rv⟩) (fun b u z => nomatch z) (fun b u z => nomatch z)
  | none =>
    refine core (fun b => if b = a then some (.frz { cls := .type "list", data := .seq vs.toArray } (.lst (ns.map V.int))) else none) (.inl (.inr ⟨{ cls := .type "list", data := .seq vs.toArray }, if_pos rfl⟩)) (fun b u z => ?_) (fun b u z => ?_)
    · by_cases hb : b = a
      · have z' := (if_pos hb).symm.trans z
        cases z'
        subst hb
        exact ⟨ha, by rw [List.length_map]; exact hl, vs, _, rv, ha⟩
      · exact nomatch (if_neg hb).symm.trans z
    · by_cases hb : b = a
      · exact ⟨hb, hk, _, _, (Option.some.inj ((if_pos hb).symm.trans z)).symm⟩
      · exact nomatch (if_neg hb).symm.trans z
theorem walk_ofG {l : PySem.W.OpenLaw} {n k : Nat} {q : Program} {loose : List Str} {XP : (Str → Option Value) → Heap → Prop} {YP : World → Heap → Prop} {d : DefRec} {K : Params → PySem.W.Frag} {sp : PySem.W.Frag → Sp} {x : Str}
    (hn : l.most = some n) (hn2 : n ≤ sizeLine) (hdf : d.params.defaults = []) (hr : Room k callerA)
    (hY : ∀ (w : World) (h : Heap), YP w h → (K w.params).In h)
    (F : ∀ (w : World) (mg : Str → Option Value) (fa : Addr) (h : Heap), (K w.params).In h → h.Ns mainGlobals mg → mg d.name = some (.ref fa) →
      ∃ fd : FuncData, (∀ (s : Shared) (u : Value), BindsTo s fd ⟨[u], []⟩ [(x, u)]) ∧
        ∀ base : Heap, (K w.params).In base → base.Ns mainGlobals mg → FnG l.prog w (K w.params) mg base CX0 k fa fd [x] (sp (K w.params)))
    (hsp : ∀ (K : PySem.W.Frag) (H : Hp) (a : Addr) (ns : List Int), ns.length ≤ n → SqL K H a (ns.map V.int) → sp K [.ref a] H (fun v _ => v = .bl true) fun _ _ _ => False) :
    PySem.W.WalkO q loose XP YP l.row.toRowW d [] (fun f vs => PySem.call f vs) := by
  refine Att.attach_call hn hdf fun w s₀ s₁ mg mb fa o pm cd doc a vs ns G Y ho hd hcd hmg hobj hints hlen hg => ?_
  have KX := hY w _ Y
  obtain ⟨fd, hb, hF⟩ := F w mg fa _ KX G.T.g hmg
  exact law_callG KX G.T.g G.T.b G.T.builtins G.T.nolimit hg hobj hints (Nat.le_trans hlen hn2) hr hF hb (fun H hS => hsp _ H a ns hlen hS)
end

/-! ### isinstance(e, C), e.value of a kept exception; repr of data; lists of texts compared -/
structure XIs (K : PySem.W.Frag) (D : Addr) : Prop where
  cl : (PySem.W.clsIn K D).isSome = true
  ga : PySem.W.findIn K (.ref D) "__getattribute__" = some (some (.builtin "BaseException.__getattribute__"))
  gg : PySem.W.findIn K (.ref D) "__getattr__" = some none
  ex : PySem.W.subIn K (.ref D) (.type "BaseException") = some true
  ha : PySem.W.findIn K (.ref D) "__class__" = some (some (.builtin "object.__class__"))
  hn : PySem.W.specialIn K (.builtin "object.__class__") "__get__" = some (some (.builtin "getset_descriptor.__get__"))
  tk : PySem.W.takesIn K (.builtin "object.__class__") = some true
  hm : PySem.W.mroIn K D (.type "object") = some true
  hd : PySem.W.hasDictIn K D = true
  no : PySem.W.findIn K (.ref D) "value" = some none
section
variable {X : Cx}
theorem xo_inst {pins : List (Addr × Obj)} {σ : St} {H : Hp} {s : Shared} {D a dd : Addr} {fs : List (Str × V)} (I : Inv X pins σ H s) (ha : H a = some (XO (.ref D) (some dd) a)) (hd : H dd = some (.xd fs)) :
    ∃ oe od, PySem.W.InstAt s.heap a oe D (some od) ∧ ∃ mA, s.heap.Ns1 dd mA ∧ s.heap.get? dd = some od ∧ ∀ f, RelO (fs.lookup f) (mA f) := by
  obtain ⟨oe, vs, e1, z, e2⟩ := xo_at I.hok ha
  obtain ⟨mA, hns, hr⟩ := (show ObjOk X.prog X.w H s.heap dd (.xd fs) from I.hok dd _ hd)
  obtain ⟨od, es, ep, ho, _⟩ := id hns
  exact ⟨oe, od, ⟨e1, z.1, by unfold PySem.W.notCls; rw [e2] <;> rfl, by rw [z.2]; exact ho⟩, mA, hns, ho, hr⟩
def rIsX (K : PySem.W.Frag) : List V → Hp → VK → Prop := fun xs H Q => ∃ (a D dd : Addr) (fs : List (Str × V)) (c : V) (u : Value) (b : Bool), xs = [.ref a, c] ∧ H a = some (XO (.ref D) (some dd) a) ∧ H dd = some (.xd fs) ∧ XIs K D ∧ clsV c = some u ∧ PySem.W.kitOne K (.ref D) u = some b ∧ Q (.bl b) H
theorem call_isX : CallR X (.builtin "isinstance") (rIsX X.K) := fun pins s σ H xs us Q I r h => by
  obtain ⟨a, D, dd, fs, c, u, b, rfl, ha, hd, C, hc, e, q⟩ := h
  cases r with
  | cons rx rr =>
    cases rr with
    | cons rt rr =>
      cases rr
      cases rx
      have ec := (clsV_ok hc).eq rt
      subst ec
      obtain ⟨oe, od, J, _⟩ := xo_inst I ha hd
      exact PySem.W.kia_one (PySem.W.kitx_exc C.cl C.ga C.gg C.ex C.ha C.hn C.tk C.hm) I.kIn J e (fun z => nomatch z) fun tk => ⟨.bl b, H, I.kept (t' := tk) fun _ _ z => z, rfl, q⟩
def tXV (K : PySem.W.Frag) (te : TE) : TE := fun σ H Q => te σ H fun x H1 => ∃ (a D dd : Addr) (v : V), x = .ref a ∧ H1 a = some (XO (.ref D) (some dd) a) ∧ H1 dd = some (.xd [("value", v)]) ∧ XIs K D ∧ Q v H1
theorem pe_xv {e : Expr} {te : TE} {pos : Pos} (he : PE X e te) (hb : attributeBase e "value" X.env (eval e X.env) = eval e X.env := by rfl) : PE X (.Attribute e "value" pos) (tXV X.K te) := by
  refine ⟨fun pins s σ H Q I h => ?_⟩
  refine attr_of hb (thn (he.run pins s σ H _ I h) fun u s1 ⟨x, H1, I1, rx, a, D, dd, v, ex, ha, hd, C, q⟩ => ?_)
  subst ex
  obtain rfl : u = Value.ref a := rx
  obtain ⟨oe, od, J, mA, hns, ho, hr⟩ := xo_inst I1 ha hd
  obtain ⟨od', ho', hl⟩ := lookIn_ns hns
  rw [ho] at ho'
  cases ho'
  have l : List.lookup ("value" : Str) [(("value" : Str), v)] = some v := List.lookup_cons_self
  obtain ⟨u, hu, ru⟩ := RelO.some_of (v := v) (o := mA "value") (by rw [← l]; exact hr "value")
  exact HandSPX.exc_get I1.kIn J C.ga C.gg C.ex (PySem.W.findObj_own C.hd C.no rfl (by rw [hl, hu])) (handed_of ru) ⟨v, H1, I1.tok _, ru, q⟩
/-- repr of data (lists, tuples, scalars; {}) -/
def Dx (K : PySem.W.Frag) (H : Hp) (v : V) (d : PyData) : Prop := (Dp K H v d ∧ d.hasDict = false) ∨ ∃ a, v = .ref a ∧ H a = some (.dK []) ∧ d = .dict []
def rReprD (K : PySem.W.Frag) : List V → Hp → VK → Prop := fun xs H Q => ∃ v d, xs = [v] ∧ Dx K H v d ∧ d.showable = true ∧ d.shown.length ≤ sizeLine ∧ d.depth ≤ 20 ∧ Q (.str d.shown) H
theorem call_reprD {k : Nat} (hr : Room k X.A) (hG : X.A.guards = some []) : CallR X (.builtin "repr") (rReprD X.K) := fun pins s σ H xs us Q I r h => by
  obtain ⟨v, d, rfl, hd, hs, hz, hdep, q⟩ := h
  obtain ⟨u, rfl, ru⟩ := vals1 r
  have hu := hr.units
  have fin : ∀ (a : Addr) (as : List Addr), u = .ref a → Reads s.heap u d as → (d.hasDict = true → sysModules ∉ as) → wpAny (model X.prog X.w) X.A (call (.builtin "repr") [u]) (EP X pins σ Q) X.xe s := fun a as e rd hsm => by
    subst e
    exact repr_of_reads' rd hs hsm hG (by omega) (fun _ _ e => e) (fun h' u tk k => ⟨.str d.shown, H, I.kept (t' := tk) k, ⟨u, rfl⟩, q⟩) hz
  rcases hd with ⟨hd, hn⟩ | ⟨a, rfl, ha, rfl⟩
  · obtain ⟨as, rd⟩ := Dp.reads I d v u hd ru
    have hsm : d.hasDict = true → sysModules ∉ as := PyData.noDict_hsm hn
    cases hd with
    | non =>
      cases ru
      exact PySem.P.repr_of_none ⟨.str "None", H, I.tok _, ⟨_, rfl⟩, by simpa [PyData.shown] using q⟩
    | bl b =>
      cases ru
      exact PySem.P.repr_of_bool ⟨.str _, H, I.tok _, ⟨_, rfl⟩, by simpa [PyData.shown] using q⟩
    | int i =>
      obtain ⟨t, rfl⟩ := ru
      exact PySem.P.repr_of_int (by simpa [PyData.showable] using hs) ⟨.str _, H, I.tok _, ⟨_, rfl⟩, by simpa [PyData.shown] using q⟩
    | str x =>
      obtain ⟨t, rfl⟩ := ru
      exact PySem.P.repr_of_str ⟨.str _, H, I.tok _, ⟨_, rfl⟩, by simpa [PyData.shown] using q⟩ (by simpa [PyData.shown] using hz)
    | lst h1 h2 => exact fin _ as ru rd hsm
    | tup h1 h2 => exact fin _ as ru rd hsm
  · cases ru
    obtain ⟨_, hsys, vs, kv, o, es, ep, h1, h2, h3, h4, h5, h6⟩ := (show ObjOk X.prog X.w H s.heap a (.dK []) from I.hok a _ ha)
    cases kv
    have e0 : es.toList = [] := by
      generalize es.toList = l at h5
      cases h5
      rfl
    refine fin a [a] rfl (.dict (as := []) (bs := []) h1 h2.1 h3 (by rw [e0]; exact .nil) (by rw [e0]; exact .nil)) fun _ hm => ?_
    rw [List.mem_singleton] at hm
    rw [← hm] at hsys
    simp at hsys
/-- lists of texts, == and != -/
theorem strs_item : ∀ {zs : List Str} {its : List Value}, Vals (zs.map V.str) its → ∀ (j : Nat) (h : j < its.toArray.size), ∃ z t, zs[j]? = some z ∧ its.toArray[j] = .str z t
  | [], _, h, j, hj => by cases h; simp at hj
  | z :: zs, _, h, 0, hj => by
    cases h with
    | cons h1 h2 =>
      obtain ⟨t, rfl⟩ := h1
      exact ⟨z, t, rfl, rfl⟩
  | z :: zs, _, h, j + 1, hj => by
    cases h with
    | cons h1 h2 =>
      obtain ⟨z', t, e1, e2⟩ := strs_item h2 j (by simpa using hj)
      exact ⟨z', t, e1, by simpa using e2⟩
def eqJ (zs ws : List Str) (j : Nat) : Bool := match zs[j]?, ws[j]? with
  | some z, some w => z == w
  | _, _ => false
theorem eqJ_all : ∀ {zs ws : List Str}, zs.length = ws.length → (List.range zs.length).all (eqJ zs ws) = decide (zs = ws)
  | [], [], _ => rfl
  | z :: zs, w :: ws, h => by
    have ih := eqJ_all (zs := zs) (ws := ws) (by simpa using h)
    rw [List.length_cons, List.range_succ_eq_map, List.all_cons, List.all_map]
    have e : (List.range zs.length).all (eqJ (z :: zs) (w :: ws) ∘ Nat.succ) = (List.range zs.length).all (eqJ zs ws) := rfl
    rw [e, ih]
    show ((z == w) && decide (zs = ws)) = decide (z :: zs = w :: ws)
    rw [Bool.eq_iff_iff]
    simp
def rEqSs : R2 := fun x y H Q => ∃ (a b : Addr) (zs ws : List Str), x = .ref a ∧ y = .ref b ∧ H a = some (.lst (zs.map V.str)) ∧ H b = some (.lst (ws.map V.str)) ∧ Q (.bl (decide (zs = ws))) H
def rNeSs : R2 := fun x y H Q => ∃ (a b : Addr) (zs ws : List Str), x = .ref a ∧ y = .ref b ∧ H a = some (.lst (zs.map V.str)) ∧ H b = some (.lst (ws.map V.str)) ∧ Q (.bl (!decide (zs = ws))) H
theorem ss_core {pins : List (Addr × Obj)} {σ : St} {H : Hp} {s : Shared} {a b : Addr} {zs ws : List Str} (hu : X.A.units < cLine) (I : Inv X pins σ H s) (ha : H a = some (.lst (zs.map V.str))) (hb : H b = some (.lst (ws.map V.str))) :
    ∃ its its2 : List Value, s.heap.IsList a its.toArray ∧ s.heap.IsList b its2.toArray ∧ its.toArray.size = zs.length ∧ its2.toArray.size = ws.length ∧ ∀ j (h1 : j < its.toArray.size) (h2 : j < its2.toArray.size), SeqAt.EqAt X.A.in1 s its.toArray[j] its2.toArray[j] (eqJ zs ws j) := by
  obtain ⟨its, r, pl, hz⟩ := I.list (SqL.of ha)
  obtain ⟨its2, r2, pl2, hz2⟩ := I.list (SqL.of hb)
  refine ⟨its, its2, pl.isList, pl2.isList, ?_, ?_, fun j h1 h2 => ?_⟩
  · rw [List.size_toArray, ← r.length, List.length_map]
  · rw [List.size_toArray, ← r2.length, List.length_map]
  · obtain ⟨z, t, e1, e2⟩ := strs_item r j h1
    obtain ⟨w', t', e3, e4⟩ := strs_item r2 j h2
    rw [e2, e4]
    unfold eqJ
    rw [e1, e3]
    exact SeqAt.EqAt.str_str _ _ _ _
theorem op_eqSs (hu : X.A.units + 64 < cLine) : OpR X (compareOp .Eq) rEqSs := fun pins s σ H x y v u Q I rx ry h => by
  obtain ⟨a, b, zs, ws, rfl, rfl, ha, hb, q⟩ := h
  cases rx
  cases ry
  obtain ⟨its, its2, l1, l2, n1, n2, he⟩ := ss_core (by omega) I ha hb
  by_cases hl : zs.length = ws.length
  · refine SeqAt.eq_listAt l1 l2 (by omega) (by omega) he ⟨.bl _, H, I, rfl, ?_⟩
    rw [n1, eqJ_all hl]
    exact q
  · refine SeqAt.eq_list_lengthsAt l1 l2 (by rw [n1, n2]; simpa using hl) (by omega) ⟨.bl false, H, I, rfl, ?_⟩
    rw [decide_eq_false (fun z => hl (by rw [z]))] at q
    exact q
theorem op_neSs (hu : X.A.units + 64 < cLine) : OpR X (compareOp .NotEq) rNeSs := fun pins s σ H x y v u Q I rx ry h => by
  obtain ⟨a, b, zs, ws, rfl, rfl, ha, hb, q⟩ := h
  cases rx
  cases ry
  obtain ⟨its, its2, l1, l2, n1, n2, he⟩ := ss_core (by omega) I ha hb
  by_cases hl : zs.length = ws.length
  · refine SeqAt.RcNeAt.lists l1 l2 (by omega) (by omega) he X.prog X.w X.xe _ ⟨.bl _, H, I, rfl, ?_⟩
    rw [n1, eqJ_all hl]
    exact q
  · refine SeqAt.RcNeAt.lists_lengths l1 l2 (by rw [n1, n2]; simpa using hl) (by omega) X.prog X.w X.xe _ ⟨.bl true, H, I, rfl, ?_⟩
    rw [decide_eq_false (fun z => hl (by rw [z]))] at q
    exact q
end



/-! ### the end with tables of code objects, where no repr is under way -/
section
open PySem.Spec PyProof.Rows LamX
theorem law_callGT {P : Program} {w : World} {K : PySem.W.Frag} {mg mb : Str → Option Value} {k : Nat} {fa a : Addr} {cs : List (Addr × Addr)} {fd : FuncData} {x : Str} {sp : Sp} {s₁ : Shared} {vs : List Value} {ns : List Int}
    (KX : K.In s₁.heap) (hns : s₁.heap.Ns mainGlobals mg) (hb : s₁.heap.Ns builtinsNs mb) (hbb : ∀ x : Str, x ≠ "__name__" → mb x = bootBuiltins x) (hlim : s₁.heap.NoLimit) (hg : s₁.gens = #[])
    (hT : ∀ p ∈ cs, s₁.heap.get? p.2 = some { cls := .none, data := .fields #[] }) (nT : ∀ p ∈ cs, K.lookup p.2 = none) (C : ∀ p ∈ cs, PySem.W.CodeHd s₁.heap p.1 p.2)
    (hbm : ∃ (bm : Addr) (ob : Obj), mg "__builtins__" = some (.ref bm) ∧ bm ≠ builtinsNs ∧ s₁.heap.get? bm = some ob ∧ ob.cls = .type "module" ∧ ob.dict = some builtinsNs ∧ ob.data = .plain)
    (ha : s₁.heap.get? a = some { cls := .type "list", data := .seq vs.toArray }) (hi : IntsAre vs ns) (hl : ns.length ≤ sizeLine) (hr : Room k callerA)
    (F : ∀ base : Heap, K.In base → base.Ns mainGlobals mg → (∀ p ∈ cs, TabB base mg p.1 p.2) → FnG P w K mg base CX0 k fa fd [x] sp) (hbind : ∀ (s : Shared) (u : Value), BindsTo s fd ⟨[u], []⟩ [(x, u)])
    (hsp : ∀ H : Hp, (∀ p ∈ cs, H p.2 = some (.tbl #[])) → SqL K H a (ns.map V.int) → sp [.ref a] H (fun v _ => v = .bl true) fun _ _ _ => False) :
    codeAny (model P w) callerA (.call (.ref fa) ⟨[.ref a], []⟩) (fun r s' => r = .ok (.ret (.bool true)) ∧ OldK s₁.heap s'.heap ∧ s'.os = s₁.os ∧ AllBare s'.gens) s₁ := by
  have rv := vals_ints hi
  let tb : List Addr := cs.map (·.2)
  have isT : ∀ b ∈ tb, s₁.heap.get? b = some { cls := .none, data := .fields #[] } := fun b hb => by
    obtain ⟨p, hp, rfl⟩ := List.mem_map.mp hb
    exact hT p hp
  have inT : ∀ p ∈ cs, p.2 ∈ tb := fun p hp => List.mem_map.mpr ⟨p, hp, rfl⟩
  have aT : a ∉ tb := fun z => by
    have q := isT a z
    rw [ha] at q
    exact nomatch (congrArg Obj.data (Option.some.inj q) : Data.seq vs.toArray _ = Data.fields #[])
  have core : ∀ H : Hp, (∀ b ∈ tb, H b = some (.tbl #[])) → SqL K H a (ns.map V.int) → HOk P w H s₁.heap →
      (∀ b u, H b = some u → b ∈ tb ∨ (b = a ∧ K.lookup a = none ∧ ∃ o ys, u = .frz o ys)) →
      codeAny (model P w) callerA (.call (.ref fa) ⟨[.ref a], []⟩) (fun r s' => r = .ok (.ret (.bool true)) ∧ OldK s₁.heap s'.heap ∧ s'.os = s₁.os ∧ AllBare s'.gens) s₁ := by
    intro H hH hS hok hA
    -- what is neither the script nor a table is not tracked
    have out : ∀ {b : Addr} {o : Obj}, s₁.heap.get? b = some o → o.data ≠ .fields #[] → (∀ xs n, o.data ≠ .seq xs n) → H b = none := fun {b o} e n1 n2 => by
      cases q : H b with
      | none => rfl
      | some u =>
        rcases hA b u q with h | ⟨h, _⟩
        · rw [isT b h] at e
          cases e
          exact absurd rfl n1
        · rw [h, ha] at e
          cases e
          exact absurd rfl (n2 _ _)
    have lay : ∀ {b : Addr} {o : Obj}, s₁.heap.get? b = some o → H b = none → (hidT s₁.heap H).get? b = some o := fun e n => hidT_get e n
    have ns_ : ∀ {b : Addr} {m : Str → Option Value}, s₁.heap.Ns b m → (hidT s₁.heap H).Ns b m := fun {b m} ⟨o, es, ep, e, d, r⟩ =>
      ⟨o, es, ep, lay e (out e (fun z => by rw [d] at z; cases z) (fun xs n z => by rw [d] at z; cases z)), d, r⟩
    have hK : K.In (hidT s₁.heap H) := fun b o e => lay (KX b o e) (by
      cases q : H b with
      | none => rfl
      | some u =>
        rcases hA b u q with h | ⟨h, n, _⟩
        · obtain ⟨p, hp, rfl⟩ := List.mem_map.mp h
          rw [nT p hp] at e
          cases e
        · rw [h, n] at e
          cases e)
    have hM : Mod K mg (hidT s₁.heap H) := ⟨hK, ns_ hns, ⟨mb, ns_ hb, hbb⟩, let ⟨mc, h1, h2⟩ := hlim; ⟨mc, ns_ h1, h2⟩⟩
    have TB : ∀ p ∈ cs, TabB (hidT s₁.heap H) mg p.1 p.2 := fun p hp => by
      refine ⟨?_, ?_, fun z => ?_⟩
      · obtain ⟨o, us, file, tf, flags, tg, inF, text, tt, e1, r1, r2, r3, rest⟩ := C p hp
        refine ⟨o, us, file, tf, flags, tg, inF, text, tt, lay e1 (out e1 (fun z => ?_) fun xs n z => ?_), r1, r2, r3, rest⟩
        · rw [r2] at z
          cases z
          simp at r3
        · rw [r2] at z
          cases z
      · obtain ⟨bm, ob, b1, b2, b3, b4, b5, b6⟩ := hbm
        refine ⟨bm, ob, b1, b2, fun q => ?_, fun q => ?_, lay b3 (out b3 (fun z => ?_) fun xs n z => ?_), b4, b5, b6⟩
        · obtain ⟨o, es, ep, e, hd, _⟩ := hns
          rw [q, e] at b3
          cases b3
          rw [hd] at b6
          cases b6
        · rw [q, hT p hp] at b3
          cases b3
          cases b6
        · rw [b6] at z
          cases z
        · rw [b6] at z
          cases z
      · obtain ⟨o, es, ep, e, hd, _⟩ := hns
        rw [z, hT p hp] at e
        cases e
        cases hd
    have e0 : Env0 P w K mg (hidT s₁.heap H) callerA [] s₁ H := ⟨rfl, hM, fun b o e => of_hidT e, Nat.le_of_eq (hidT_size _ _), trivial, fun b hb => absurd (show b ∈ ([] : List Addr) from hb) (by simp), hok, .of_eq hg⟩
    refine codeAny_mono ((F _ hK (ns_ hns) TB).run callerA [] s₁ H ⟨[.ref a], []⟩ [.ref a] [.ref a] _ _ hr rfl e0 (hbind s₁ (.ref a)) (.cons rfl .nil) (hsp H (fun p hp => hH _ (inT p hp)) hS)) fun r s' h => ?_
    match r, h with
    | .error e, h => exact False.elim h
    | .ok .next, h => exact False.elim h
    | .ok .brk, h => exact False.elim h
    | .ok .cont, h => exact False.elim h
    | .ok (.ret u), h =>
      obtain ⟨v, H', os, bare, un, hok', r', q⟩ := h
      obtain rfl : v = .bl true := q
      obtain rfl : u = Value.bool true := r'
      have old : ∀ b o, b ∉ tb → s₁.heap.get? b = some o → s'.heap.get? b = some o := fun b o nb e => by
        cases q : H b with
        | none => exact un.keep b o e q (by intro z; exact absurd (show b ∈ ([] : List Addr) from z) (by simp)) (by simp)
        | some u =>
          rcases hA b u q with h | ⟨_, _, o', ys, rfl⟩
          · exact absurd h nb
          · obtain ⟨e1, _⟩ := hok b _ q
            obtain ⟨e2, _⟩ := hok' b _ (un.frzs b o' _ q)
            rw [e] at e1
            cases e1
            exact e2
      have grown : ∀ b ∈ tb, ∃ more : Array Value, s'.heap.get? b = some { cls := .none, data := .fields more } := fun b hb => by
        obtain ⟨more, z⟩ := un.tbls b #[] (hH b hb)
        exact ⟨_, hok' b _ z⟩
      refine ⟨rfl, ⟨fun b o e => ?_, fun b o e => ?_⟩, os, bare⟩
      · by_cases hb : b ∈ tb
        · obtain ⟨more, hm⟩ := grown b hb
          obtain ⟨p, hp, rfl⟩ := List.mem_map.mp hb
          rw [hT p hp] at e
          cases e
          exact .inr (.inl ⟨((C p hp).tab (hT p hp)).isCodeTable, rfl, #[], more, rfl, by rw [Array.empty_append]; exact hm⟩)
        · exact .inl (old b o hb e)
      · by_cases hb : b ∈ tb
        · obtain ⟨more, hm⟩ := grown b hb
          exact ⟨_, hm⟩
        · exact ⟨o, old b o hb e⟩
  cases hk : K.lookup a with
  | some o =>
    have e := KX a o hk
    rw [ha] at e
    cases e
    refine core (fun b => if b ∈ tb then some (.tbl #[]) else none) (fun b h => if_pos h) (.inr ⟨_, vs.toArray, _, hk, rfl, rfl, rfl, by rw [List.size_toArray, hi.length]; exact hl, by simpa using rv⟩) (fun b u z => ?_) (fun b u z => ?_)
    · by_cases hb : b ∈ tb
      · have z' := (if_pos hb).symm.trans z
        cases z'
        exact isT b hb
      · exact nomatch (if_neg hb).symm.trans z
    · by_cases hb : b ∈ tb
      · exact .inl hb
      · exact nomatch (if_neg hb).symm.trans z
  | none =>
    refine core (fun b => if b ∈ tb then some (.tbl #[]) else if b = a then some (.frz { cls := .type "list", data := .seq vs.toArray } (.lst (ns.map V.int))) else none) (fun b h => if_pos h)
      (.inl (.inr ⟨{ cls := .type "list", data := .seq vs.toArray }, (if_neg aT).trans (if_pos rfl)⟩)) (fun b u z => ?_) (fun b u z => ?_)
    · by_cases hb : b ∈ tb
      · have z' := (if_pos hb).symm.trans z
        cases z'
        exact isT b hb
      · have z' := (if_neg hb).symm.trans z
        by_cases hba : b = a
        · have z'' := (if_pos hba).symm.trans z'
          cases z''
          rw [hba]
          exact ⟨ha, by rw [List.length_map]; exact hl, vs, _, rv, ha⟩
        · exact nomatch (if_neg hba).symm.trans z'
    · by_cases hb : b ∈ tb
      · exact .inl hb
      · have z' := (if_neg hb).symm.trans z
        by_cases hba : b = a
        · have z'' := (if_pos hba).symm.trans z'
          exact .inr ⟨hba, hk, _, _, (Option.some.inj z'').symm⟩
        · exact nomatch (if_neg hba).symm.trans z'
theorem walk_ofGT {l : PySem.W.OpenLaw} {n k : Nat} {q : Program} {loose : List Str} {XP : (Str → Option Value) → Heap → Prop} {YP : World → Heap → Prop} {d : DefRec} {K : Params → PySem.W.Frag} {sp : PySem.W.Frag → List (Addr × Addr) → Sp} {x : Str} (names : List Str)
    (hn : l.most = some n) (hn2 : n ≤ sizeLine) (hdf : d.params.defaults = []) (hr : Room k callerA)
    (hY : ∀ (w : World) (h : Heap), YP w h → (K w.params).In h) (hrec : ∀ y ∈ names, ((recsOf q).find? fun e => e.name == y).isSome = true)
    (F : ∀ (w : World) (mg : Str → Option Value) (fa : Addr) (h : Heap), (K w.params).In h → h.Ns mainGlobals mg → mg d.name = some (.ref fa) →
      ∃ (fd : FuncData) (cs : List (Addr × Addr)), (∀ p ∈ cs, ∃ y ∈ names, PySem.W.tabIn (K w.params) y = some p) ∧ (∀ p ∈ cs, (K w.params).lookup p.2 = none) ∧ (∀ (s : Shared) (u : Value), BindsTo s fd ⟨[u], []⟩ [(x, u)]) ∧
        ∀ base : Heap, (K w.params).In base → base.Ns mainGlobals mg → (∀ p ∈ cs, TabB base mg p.1 p.2) → FnG l.prog w (K w.params) mg base CX0 k fa fd [x] (sp (K w.params) cs))
    (hsp : ∀ (K : PySem.W.Frag) (cs : List (Addr × Addr)) (H : Hp) (a : Addr) (ns : List Int), ns.length ≤ n → (∀ p ∈ cs, H p.2 = some (.tbl #[])) → SqL K H a (ns.map V.int) → sp K cs [.ref a] H (fun v _ => v = .bl true) fun _ _ _ => False) :
    PySem.W.WalkO q loose XP YP l.row.toRowW d [] (fun f vs => PySem.call f vs) := by
  refine Att.attach_call hn hdf fun w s₀ s₁ mg mb fa o pm cd doc a vs ns G Y ho hd hcd hmg hobj hints hlen hg => ?_
  have KX := hY w _ Y
  obtain ⟨fd, cs, ht, nt, hb, hF⟩ := F w mg fa _ KX G.T.g hmg
  have tabs : ∀ p ∈ cs, PySem.W.CodeHd s₁.heap p.1 p.2 ∧ s₁.heap.get? p.2 = some { cls := .none, data := .fields #[] } := fun p hp => by
    obtain ⟨y, hy, e⟩ := ht p hp
    obtain ⟨dr, hdr⟩ := Option.isSome_iff_exists.mp (hrec y hy)
    exact PySem.W.tab_of G.T KX hdr e
  exact law_callGT KX G.T.g G.T.b G.T.builtins G.T.nolimit hg (fun p hp => (tabs p hp).2) nt (fun p hp => (tabs p hp).1) G.T.bmain hobj hints (Nat.le_trans hlen hn2) hr hF hb (fun H hH hS => hsp _ cs H a ns hlen hH hS)
end



/-! ### f(lambda: ..): the def that calls what it got, where what is raised is told at its own slots -/
section
open PySem.Spec PyProof.Rows LamX
variable {X : Cx} {pins : List (Addr × Obj)} {σ : L2.St} {H : Hp} {s : Shared}
/-- the def's context, entered at s from X -/
abbrev cxC (X : Cx) (Ng : List Str) (x : Str) (sg : Scope) (g : Addr) (cdg : Value) (s : Shared) (H : Hp) : Cx := cxOf CX0 X.prog X.w X.K X.mg X.base Ng x sg g cdg X.A X.stack s H E0
theorem pe_actS {Ng : List Str} {x : Str} {sg : Scope} {g f c' : Addr} {cdg pm ctv : Value} {params : Arguments} {body : Expr} {scope : Scope} {k i : Nat} {a : Str} {pn : List (Addr × Obj)} {xe : Value → Shared → Prop} {W : WX} {tb : XK → TE} {p1 p2 : Pos}
    (I : Inv X pins σ H s) (L : LamS X.env.scope scope) (hf : s.heap.get? f = some (PySem.W.kla_obj "<lambda>" (X.env.qual ++ "<lambda>") params body scope (cloFrom X.env.cells scope.names []) pm c' ctv)) (hfn : H f = none) (hfr : f ∉ frs X.stack)
    (hbind : bindArgs (PySem.W.kla_fn "<lambda>" (X.env.qual ++ "<lambda>") params body scope (cloFrom X.env.cells scope.names []) pm (.ref c') ctv) ⟨[], []⟩ = pure [])
    (tk : Takes ((cxC X Ng x sg g cdg s H).tr pn xe) W) (hr : Room (k + 1) (X.A.deeper (envOfC x sg s.heap.objs.size g cdg)))
    (hbody : ∀ (A : Around) (outer : List Env) (s : Shared) (H : Hp) (E : XK), Room k (A.deeper (lamEnv X scope s.heap.objs.size f c')) → A.guards = X.A.guards → PE (lamCx X A outer s H E scope f c') body (tb E))
    (hN : Ng[i]? = some a) (hv : Vis sg a) (hd : (a == ("__debug__" : Str)) = false := by decide) (hcd : (a == ("__classdict__" : Str)) = false := by decide) :
    PE ((cxC X Ng x sg g cdg s H).tr pn xe) (.Call (.Name a p1) [] [] p2) (fun σZ HZ Q => σZ[i]? = some (some (.ref f)) ∧ HZ c' = some (CodeO c' (X.env.qual ++ "<lambda>")) ∧ ∃ (E : XK) (Q' : VK), (∀ cls d H', E cls d H' → W cls d σZ H') ∧ (∀ v H', Q' v H' → Q v H') ∧ tb E σ HZ Q') := by
  refine ⟨fun pinsZ sZ σZ HZ Q IZ ⟨hs, hc, E, Q', hW, hQ, ht⟩ => ?_⟩
  refine wpAny_Call_Name_kw (thn ((pe_var (pos := p1) (i := i) hN hv hd hcd).run pinsZ sZ σZ HZ (fun v H1 => v = .ref f ∧ H1 = HZ) IZ ⟨.ref f, hs, rfl, rfl⟩) fun u s1 ⟨v, H1, I1, r1, ev, eH⟩ => ?_)
  subst ev eH
  obtain rfl : u = Value.ref f := r1
  have of1 := I1.base.keep f _ hf hfn hfr (fun z => nomatch (show f ∈ ([] : List Addr) from z))
  refine PySem.W.callWith_F0 ⟨_, _, _, _, of1⟩ ?_
  obtain ⟨⟨oc, vs, t, hoc, hdc, hvc⟩, _, _⟩ := I1.hok c' _ hc
  refine wpAny_call ?_
  refine codeAny_mono (R := CR (L2.CX X.prog X.w) (envOfC x sg s.heap.objs.size g cdg :: X.stack) X.prog X.w H1 s1 Q' E) ?_ fun r s' hq => ?_
  · refine PySem.W.kla_callFunE hr.depth of1 rfl L.co L.gen rfl ⟨c', oc, vs, t, rfl, hoc, hdc, hvc⟩ ?_
    show wpAny _ _ (bindArgs _ ⟨[], []⟩) _ _ _
    rw [hbind]
    refine wpAny_pure (wpAny_newFunctionEnv (fun y hy => (L.own y hy).2) (fun y hy => absurd hy (by simp)) (fun h₁ hns hsb => ⟨I1.nolimit.fresh _ hsb, ?_⟩) L.kind)
    have kp : ∀ b o, s1.heap.get? b = some o → h₁.get? b = some o := fun b o e => hsb.extBut b o (Nat.ne_of_lt (Heap.lt_size e)) (Heap.get?_push_of_some _ e)
    have J : Inv (lamCx X (X.A.deeper (envOfC x sg s.heap.objs.size g cdg)) (envOfC x sg s.heap.objs.size g cdg :: X.stack) s1 H1 E scope f c') [] σ H1 { s1 with heap := h₁, toks := s1.toks + ([] : List (Str × Value)).length } :=
      lam_start2 I L I1.env0 hr.hd I1.base hns kp
    refine PySem.W.kla_codeExpr (wpAny_mono ((hbody _ _ s1 H1 E (hr.deeper _) rfl).run [] _ _ H1 Q' J ht) (fun v s' ⟨w', H', J', rv, q⟩ => ?_) fun e s' hq => hq)
    exact ⟨w', H', J'.os, J'.bare, J'.base, J'.hok, rv, q⟩
  · cases r with
    | error e => exact tk e s' (XE.of_call I1 hW hq)
    | ok fl =>
      cases fl with
      | ret u =>
        obtain ⟨v, H', I', r, q⟩ := I1.after hq
        exact ⟨v, H', I', r, hQ _ _ q⟩
      | next => exact False.elim hq
      | brk => exact False.elim hq
      | cont => exact False.elim hq
/-- what the def (x at g) makes of what it got: TT of the lambda's reading -/
def GivesC (X : Cx) (Ng : List Str) (x : Str) (sg : Scope) (g : Addr) (cdg : Value) (bg : List Stmt) (a : Str) (q : Str) (TT : (XK → Hp → VK → Prop) → Hp → VK → Prop) : Prop :=
  ∀ (f c' : Addr) (s : Shared) (H : Hp) (Q : VK) (tl : XK → Hp → VK → Prop),
    (∀ (W : WX) (pn : List (Addr × Obj)) (xe : Value → Shared → Prop) (p1 p2 : Pos), Takes ((cxC X Ng x sg g cdg s H).tr pn xe) W →
      PE ((cxC X Ng x sg g cdg s H).tr pn xe) (.Call (.Name a p1) [] [] p2) (fun σZ HZ Q => σZ[0]? = some (some (.ref f)) ∧ HZ c' = some (CodeO c' q) ∧ ∃ (E : XK) (Q' : VK), (∀ cls d H', E cls d H' → W cls d σZ H') ∧ (∀ v H', Q' v H' → Q v H') ∧ tl E HZ Q')) →
    H c' = some (CodeO c' q) → TT tl H Q → ∃ t, PSs (cxC X Ng x sg g cdg s H).nox bg t ∧ t { nx := fun _ H' => Q .non H', rt := Q } (L2.start Ng [.ref f]) H
/-- x(lambda: body) -/
theorem pe_lamC {T : List (Addr × Str)} {TT : (XK → Hp → VK → Prop) → Hp → VK → Prop} {x a : Str} {g c P : Addr} {k : Nat} {pg : Arguments} {bg : List Stmt} {sg : Scope} {dV kV doc pm cdv ct oc : Value} {an od : Option Addr} {osl : Array (Option Value)} {Ng : List Str}
    {params : Arguments} {body : Expr} {scope : Scope} {t : XK → TE} {p lpos pos : Pos} (hg : Gl X x) (hm : X.mg x = some (.ref g)) (hk : PySem.W.keepIn X.K (.ref g) = true)
    (lk : X.K.lookup g = some ⟨oc, od, .func (PySem.W.fnOf x x pg bg sg dV kV doc pm an cdv ct), osl⟩) (hcg : PySem.W.codeIn X.K cdv x = true) (hb : L2.Binds X.K (PySem.W.fnOf x x pg bg sg dV kV doc pm an cdv ct) [a] []) (Sg : FnScope Ng [a] sg) (hNg : Ng[0]? = some a) (hva : Vis sg a)
    (hG : GivesC X Ng x sg g cdv bg a (X.env.qual ++ "<lambda>") TT)
    (TB : TabB X.base X.mg c P) (hcode : X.env.code = .ref c) (hmT : (P, X.env.qual ++ "<lambda>") ∈ T) (hu : ∀ p ∈ T, p.1 = P → p.2 = X.env.qual ++ "<lambda>") (hr : Room (k + 2) X.A) (L : LamS X.env.scope scope) (hdef : defaultsOf params X.env = ([], []))
    (hbind : ∀ (q : Str) (cl : List (Str × Addr)) (pm cv ctv : Value), bindArgs (PySem.W.kla_fn "<lambda>" q params body scope cl pm cv ctv) ⟨[], []⟩ = pure [])
    (hbody : ∀ (A : Around) (outer : List Env) (s : Shared) (H : Hp) (E : XK) (f c' : Addr), Room k (A.deeper (lamEnv X scope s.heap.objs.size f c')) → A.guards = X.A.guards → PE (lamCx X A outer s H E scope f c') body (t E))
    (hdb : (x == ("__debug__" : Str)) = false := by decide) (hd : (a == ("__debug__" : Str)) = false := by decide) (hcd : (a == ("__classdict__" : Str)) = false := by decide) :
    PE X (.Call (.Name x p) [.Lambda params body scope lpos] [] pos) (tLam T TT t) := by
  refine ⟨fun pins s σ H Q I ⟨hT, h⟩ => ?_⟩
  refine wpAny_Call_Name_kw (ld_glob I hg hm ?_ hdb)
  refine PySem.W.callWith_K (h₀ := X.base) I.ok.mod.kin hk ?_ (by rfl) (by rfl)
  show wpAny _ _ (spliced ((false, eval (.Lambda params body scope lpos) X.env) :: backTo pos (starEach [] X.env))) _ _ s
  refine Calls.spliced_cons (lam_make2 I TB hcode hmT hu hT hdef (L.has I.ok) fun f c' pm' ctv H1 s' I1 eN T1 hf hfn hfr hco => ?_)
  refine Calls.spliced_nil ⟨I1.kIn, ?_⟩
  refine wpAny_call (codeAny_mono (R := CR CX0 X.stack X.prog X.w H1 s' Q E0) ?_ fun r s2 hq => ?_)
  · refine run_ofS (N := Ng) (ps := [a]) (us := [.ref f]) (vs := [.ref f]) lk hcg Sg hr I1.env0 (hb s' [.ref f] I1.kIn rfl) (.cons rfl .nil) rfl fun hr' => ?_
    obtain ⟨t', ht', hq'⟩ := hG f c' s' H1 Q (fun E H' Q' => t E σ H' Q') (fun W pn xe p1 p2 tk => pe_actS (i := 0) I1 L hf hfn hfr (hbind _ _ _ _ _) tk hr' (fun A outer s H E hr2 hg2 => hbody A outer s H E f c' hr2 hg2) hNg hva hd hcd) hco (h H1 eN T1)
    exact ⟨t', ht'.nox, hq'⟩
  · cases r with
    | error e => exact (show False from hq).elim
    | ok fl =>
      cases fl with
      | ret u => exact I1.after hq
      | next => exact False.elim hq
      | brk => exact False.elim hq
      | cont => exact False.elim hq
end



/-! ### the kinds of errors that the laws tell -/
/-- D is the j-th of the classes es (all but the last two over LineError) -/
structure KindAt (K : PySem.W.Frag) (es : Nat → Addr) (l t n D : Addr) (j : Nat) : Prop where
  lt : j < 13
  kit : ∀ i, i < 16 → PySem.W.kitOne K (.ref D) (.ref (es i)) = some (decide (i = j))
  ve : PySem.W.kitOne K (.ref D) (.type "ValueError") = some true
  xi : XIs K D
  ex : PySem.W.exmAny K (.ref D) [.ref l, .ref t, .ref n] = some true
theorem isCls_some {K : PySem.W.Frag} {C : Addr} (h : PySem.W.isClsIn K C = true) : (PySem.W.clsIn K C).isSome = true := h
theorem kit_inR {K : PySem.W.Frag} {C D : Addr} (mc : PySem.W.mroIn K D (.ref D) = some true) (ic : PySem.W.isClsIn K C = true) (ty : PySem.W.typeIn K (.ref C) = some (.type "type")) (h : PySem.W.subIn K (.ref D) (.ref C) = some false) : PySem.W.kitOne K (.ref D) (.ref C) = some false := by
  refine kit_in ic ty h fun e => ?_
  rw [← e] at h
  have h' : PySem.W.mroIn K D (.ref D) = some false := h
  rw [mc] at h'
  cases h'
theorem exm3 {K : PySem.W.Frag} {D c1 c2 c3 : Value} (h1 : PySem.W.exmOne K D c1 = some true) (h2 : PySem.W.exmOne K D c2 = some false) (h3 : PySem.W.exmOne K D c3 = some false) : PySem.W.exmAny K D [c1, c2, c3] = some true := by
  simp [PySem.W.exmAny, h1, h2, h3]
/-- a def of the module, its code object told -/
structure FunC (K : PySem.W.Frag) (x : Str) (st : Stmt) (f : Addr) (fd : FuncData) (c : Addr) : Prop where
  ex : ∃ (oc : Value) (od : Option Addr) (kV doc pm : Value) (an : Option Addr) (ct : Value) (osl : Array (Option Value)),
    fd = PySem.W.fnOf x x (defArgs st) (defBody st) (defScope st) .none kV doc pm an (.ref c) ct ∧ K.lookup f = some ⟨oc, od, .func fd, osl⟩ ∧ PySem.W.codeIn K (.ref c) x = true
  kp : PySem.W.keepIn K (.ref f) = true
theorem tab_mk {K : PySem.W.Frag} {x : Str} {f c P : Addr} {oc cl : Value} {od cld : Option Addr} {fd : FuncData} {sl csl : Array (Option Value)} {vs : Array Value} (a : PySem.W.nsIn K mainGlobals x = some (some (.ref f))) (l : K.lookup f = some ⟨oc, od, .func fd, sl⟩) (e : fd.code = .ref c)
    (lk : K.lookup c = some ⟨cl, cld, .fields vs, csl⟩) (v : vs[11]? = some (.ref P)) : PySem.W.tabIn K x = some (c, P) := by
  unfold PySem.W.tabIn
  rw [a]
  dsimp only
  rw [l]
  dsimp only
  rw [e]
  dsimp only
  rw [lk]
  dsimp only
  rw [v]
section
variable {P : Program} {w : World} {K : PySem.W.Frag} {mg : Str → Option Value} {base : Heap}
theorem okGC {x : Str} {st : Stmt} {f c : Addr} {fd : FuncData} {N ps : List Str} {k : Nat} {sp : Sp} (F : FunC K x st f fd c) (S : FnScope N ps (defScope st)) (len : ∀ vs H Q E, sp vs H Q E → vs.length = ps.length)
    (hbody : ∀ (A : Around) (outer : List Env) (s : Shared) (H : Hp) (vs : List V) (Q : VK) (E : XK), Room k (A.deeper (PyProof.Rows.envOfC x (defScope st) s.heap.objs.size f (.ref c))) → (cxOf CX0 P w K mg base N x (defScope st) f (.ref c) A outer s H E).nox.A.guards = some [] → sp vs H Q E →
      ∃ t, PSs (cxOf CX0 P w K mg base N x (defScope st) f (.ref c) A outer s H E).nox (defBody st) t ∧ t { nx := fun _ H' => Q .non H', rt := Q } (L2.start N vs) H) : FnG P w K mg base CX0 (k + 1) f fd ps sp := by
  obtain ⟨oc, od, kV, doc, pm, an, ct, osl, rfl, lk, hcd⟩ := F.ex
  refine fnG_of lk hcd S len fun A outer s H vs Q E hr hg hsp => ?_
  obtain ⟨t, h, q⟩ := hbody A outer s H vs Q E hr hg hsp
  exact ⟨t, h.nox, q⟩
end

/-! ### calls with keywords -/
def pick {α : Type} (is : List Nat) (xs : List α) : List α := is.filterMap fun i => xs[i]?
theorem pick_rel (is : List Nat) {xs : List V} {ys : List Value} (h : Vals xs ys) : Vals (pick is xs) (pick is ys) := by
  have key : ∀ i : Nat, (xs[i]? = none ∧ ys[i]? = none) ∨ ∃ x y, xs[i]? = some x ∧ ys[i]? = some y ∧ RelV x y := by
    induction h with
    | nil => exact fun i => .inl ⟨rfl, rfl⟩
    | cons r t ih =>
      intro i
      cases i with
      | zero => exact .inr ⟨_, _, rfl, rfl, r⟩
      | succ i => exact ih i
  unfold pick
  induction is with
  | nil => exact .nil
  | cons i is ih =>
    rw [List.filterMap_cons, List.filterMap_cons]
    rcases key i with ⟨h1, h2⟩ | ⟨x, y, h1, h2, r⟩
    · rw [h1, h2]
      exact ih
    · rw [h1, h2]
      exact .cons r ih
def mkGoK (C : Addr) (sp : Sp) (gV : List V → List V → List V) (E : XK) (vs zs : List V) (H : Hp) (Q : VK) : Prop := ∀ x dx, H x = none → H dx = none → dx ≠ x → sp (gV (.ref x :: vs) zs) (upd (upd H dx (.own x)) x (.ins C dx [])) (fun v H3 => v = .non ∧ Q (.ref x) H3) E
theorem tMakeK_eq {C : Addr} {n m : Nat} {sp : Sp} {gV : List V → List V → List V} {E : XK} {t tk : TA} {σ : St} {H : Hp} {Q : VK} : tMakeK C n m sp gV E t tk σ H Q = t σ H fun vs H1 => tk σ H1 fun zs H2 => vs.length = n ∧ zs.length = m ∧ mkGoK C sp gV E vs zs H2 Q := rfl
theorem makeK_go {C : Addr} {sp : Sp} {gV : List V → List V → List V} {E : XK} {vs zs ws : List V} {H : Hp} {Q : VK} (h : ∀ x, gV (.ref x :: vs) zs = .ref x :: (ws ++ [])) (k : ∀ x dx, H x = none → H dx = none → dx ≠ x → sp (.ref x :: (ws ++ [])) (upd (upd H dx (.own x)) x (.ins C dx [])) (fun v H3 => v = .non ∧ Q (.ref x) H3) E) : mkGoK C sp gV E vs zs H Q := fun x dx h1 h2 h3 => by
  rw [h]
  exact k x dx h1 h2 h3



/-! ### sets of one-sign texts: set(t), len(set(t)), sorted(set(t)) -/
section
open PySem.Froz PyProof.Rows
def TOk (w : World) (t : SetTable) : Prop := Ris t.place.toList ∧ (w.params.followText "set-order" = true ∨ t.led = true)
theorem TOk.unplain {w : World} {t : SetTable} (d : TOk w t) : TOk w (if t.plain = true then { t with plain := false } else t) := by
  split
  · exact d
  · exact d
theorem TOk.tail {w : World} {ep : Nat} {es1 : Array (Int × Value)} {t2 : SetTable} {wd : Bool} (d : TOk w t2) : TOk w (tailTx ep es1 t2 wd).2.2 := by
  unfold tailTx
  split
  · exact ⟨relayAll_ris _ _ _, by rw [relayAll_led]; exact d.2⟩
  · exact d
theorem TOk.add {w : World} {h : Int} {v : Value} {D : SD} (d : TOk w D.2.2) : TOk w (addTx h v D).2.2 :=
  TOk.tail (TOk.unplain ⟨layNew_ris _ _ _ _ d.1, by rw [layNew_led]; exact d.2⟩)
theorem TOk.run {w : World} : ∀ (cs : List Nat) (tk : Tok) (D : SD), TOk w D.2.2 → TOk w (runD w cs tk D).2.2
  | [], _, _, d => d
  | c :: cs, tk, D, d => TOk.run cs (tk + 2) _ d.add
theorem txOk_run {P : Program} {w : World} : ∀ (cs : List Nat) (tk : Tok) (D : SD) (l : List Str), TxOk P w D l → TxOk P w (runD w cs tk D) ((cs.map sing).reverse ++ l)
  | [], _, _, _, d => d
  | c :: cs, tk, D, l, d => by
    have q := txOk_run cs (tk + 2) _ (sing c :: l) (add_ok tk d)
    rw [List.map_cons, List.reverse_cons, List.append_assoc]
    exact q
theorem perm_of_sub {α : Type} [BEq α] [LawfulBEq α] : ∀ {l m : List α}, l.Nodup → (∀ x ∈ l, x ∈ m) → m.length = l.length → m.Perm l
  | [], m, _, _, h => by rw [List.length_eq_zero_iff.mp h]
  | x :: l, m, hn, hs, h => by
    obtain ⟨h1, h2⟩ := List.nodup_cons.mp hn
    have hx := hs x List.mem_cons_self
    refine (List.perm_cons_erase hx).trans (List.Perm.cons x (perm_of_sub h2 (fun y hy => ?_) ?_))
    · have ne : y ≠ x := fun e => h1 (e ▸ hy)
      exact (List.mem_erase_of_ne ne).mpr (hs y (List.mem_cons_of_mem _ hy))
    · rw [List.length_erase_of_mem hx, h]
      rfl
def addU (l : List Str) (c : Nat) : List Str := if sing c ∈ l then l else sing c :: l
/-- the unlike signs of a text -/
def dist (cs : List Nat) : List Str := cs.foldl addU []
theorem sing_inj {c d : Nat} (h : sing c = sing d) : c = d := by
  have q2 : [c] = [d] := congrArg (fun y : Str => y.cps.toList) h
  exact (List.cons.inj q2).1
theorem addU_len (l : List Str) (c : Nat) : (addU l c).length ≤ l.length + 1 := by
  unfold addU
  split
  · exact Nat.le_succ _
  · exact Nat.le_refl _
theorem foldU_len : ∀ (cs : List Nat) (l : List Str), (cs.foldl addU l).length ≤ l.length + cs.length
  | [], l => Nat.le_refl _
  | c :: cs, l => by
    have q := foldU_len cs (addU l c)
    have q2 := addU_len l c
    show ((cs.foldl addU (addU l c))).length ≤ l.length + (cs.length + 1)
    omega
theorem foldU_full : ∀ (cs : List Nat) (l : List Str), (cs.foldl addU l).length = l.length + cs.length → cs.Nodup ∧ ∀ c ∈ cs, sing c ∉ l
  | [], l, _ => ⟨List.nodup_nil, fun c h => by simp at h⟩
  | c :: cs, l, h => by
    have q := foldU_len cs (addU l c)
    have q2 := addU_len l c
    have h' : (cs.foldl addU (addU l c)).length = l.length + (cs.length + 1) := h
    have hc : sing c ∉ l := fun hm => by
      have e : addU l c = l := if_pos hm
      rw [e] at q h'
      omega
    have e : addU l c = sing c :: l := if_neg hc
    rw [e] at h'
    obtain ⟨a1, a2⟩ := foldU_full cs (sing c :: l) (by rw [h', List.length_cons]; omega)
    refine ⟨List.nodup_cons.mpr ⟨fun hm => a2 c hm List.mem_cons_self, a1⟩, fun d hd => ?_⟩
    rcases List.mem_cons.mp hd with rfl | hd
    · exact hc
    · exact fun hm => a2 d hd (List.mem_cons_of_mem _ hm)
theorem dist_nodup {cs : List Nat} (h : (dist cs).length = cs.length) : cs.Nodup := (foldU_full cs [] (by rw [← dist, h]; simp)).1
theorem foldU_nodup : ∀ (cs : List Nat) (l : List Str), cs.Nodup → (∀ c ∈ cs, sing c ∉ l) → (cs.foldl addU l).length = l.length + cs.length
  | [], l, _, _ => rfl
  | c :: cs, l, hn, h => by
    obtain ⟨h1, h2⟩ := List.nodup_cons.mp hn
    have e : addU l c = sing c :: l := if_neg (h c List.mem_cons_self)
    show (cs.foldl addU (addU l c)).length = l.length + (cs.length + 1)
    rw [e, foldU_nodup cs _ h2 fun d hd hm => ?_, List.length_cons]
    · omega
    · rcases List.mem_cons.mp hm with q | q
      · exact h1 (sing_inj q ▸ hd)
      · exact h d (List.mem_cons_of_mem _ hd) q
theorem dist_len {cs : List Nat} (h : cs.Nodup) : (dist cs).length = cs.length := by
  have q := foldU_nodup cs [] h fun _ _ => by simp
  simpa [dist] using q
theorem dist_le (cs : List Nat) : (dist cs).length ≤ cs.length := by
  have q := foldU_len cs []
  simpa [dist] using q
section
variable {P : Program} {w : World} {A : Around} {R : Result → Shared → Prop}
theorem update_any {a it : Addr} (hne : a ≠ it) {x : Str} {u : Tok} (hh : A.handled = none) : ∀ (cs : List Nat) (i : Nat) (l : List Str) (s : Shared), x.cps.toList.drop i = cs →
    s.heap.SetOf (strKind P w) a (fun k => decide (k ∈ l)) l.length → s.heap.get? it = some (itObj x u i) → l.length + cs.length < scanBound →
    (∀ h' tk, h'.SetOf (strKind P w) a (fun k => decide (k ∈ cs.foldl addU l)) (cs.foldl addU l).length → (∀ b o, b ≠ a → b ≠ it → s.heap.get? b = some o → h'.get? b = some o) → R (.ok (.ret .none)) { s with heap := h', toks := tk }) →
    codeAny (model P w) A (.builtin "set.update.loop" ⟨[.ref a, .ref it], []⟩) R s
  | [], i, l, s, hd, ha, hit, hb, h => by
    refine codeAny_builtin PyProof.Rows.F.entry_set_update_loop ?_
    rw [Around.under_plainId PyProof.Rows.F.plain_set_update_loop _]
    show wpAny _ A.in1 (pyNext (.ref it) >>= _) _ _ s
    refine wpAny_bind (end_x (u := u) (by exact hh) hit (at_end hd) ?_)
    show wpAny _ A.in1 (ret Value.none) _ _ _
    refine wpAny_pure (h _ s.toks ?_ fun b o n1 n2 e => ?_)
    · obtain ⟨o, es, ep, t, ho, rest⟩ := ha
      exact ⟨o, es, ep, t, Heap.get?_push_of_some _ (Heap.get?_push_of_some _ (PySem.Heap.get?_update_of_ne _ (Ne.symm hne) ho)), rest⟩
    · exact Heap.get?_push_of_some _ (Heap.get?_push_of_some _ (PySem.Heap.get?_update_of_ne _ (Ne.symm n2) e))
  | c :: r, i, l, s, hd, ha, hit, hb, h => by
    obtain ⟨hx, hd2⟩ := at_of hd
    have hb2 : l.length + (r.length + 1) < scanBound := hb
    refine codeAny_builtin PyProof.Rows.F.entry_set_update_loop ?_
    rw [Around.under_plainId PyProof.Rows.F.plain_set_update_loop _]
    show wpAny _ A.in1 (pyNext (.ref it) >>= _) _ _ s
    refine wpAny_bind (next_x (u := u) hit hx ?_)
    show wpAny _ A.in1 (holding [Value.str (sing c) s.toks] (setAdd a (.str (sing c) s.toks)) >>= _) _ _ _
    refine wpAny_bind (wpAny_holding ?_)
    unfold setAdd
    refine wpAny_holding ?_
    refine wpAny_bind ((strKind P w).pyHash (k := sing c) (is_str _ _) ?_)
    have ha1 : (s.heap.update it (fun _ => itObj x u (i + 1))).SetOf (strKind P w) a (fun k => decide (k ∈ l)) l.length := by
      obtain ⟨o, es, ep, t, ho, rest⟩ := ha
      exact ⟨o, es, ep, t, PySem.Heap.get?_update_of_ne _ (Ne.symm hne) ho, rest⟩
    refine wpAny_setAddHashed_of (knd := strKind P w) (s := { s with heap := s.heap.update it (fun _ => itObj x u (i + 1)), toks := s.toks + 1 + 1 }) (is_str _ _) rfl ha1 (by omega) fun h' hsb hS => ?_
    have hS2 : h'.SetOf (strKind P w) a (fun k => decide (k ∈ addU l c)) (addU l c).length := by
      refine SetOf_congr hS (fun k => ?_) ?_
      · unfold addU
        by_cases hm : sing c ∈ l
        · rw [if_pos hm]
          by_cases e : k = sing c
          · subst e; simp [hm]
          · simp [e]
        · rw [if_neg hm]
          by_cases e : k = sing c
          · subst e; simp
          · simp [e]
      · unfold addU
        by_cases hm : sing c ∈ l
        · simp [hm]
        · simp [hm]
    refine wpAny_pure ⟨plainId_quiet PyProof.Rows.F.plain_set_update_loop _, update_any (u := u) hne hh r (i + 1) (addU l c) _ hd2 hS2 ?_ ?_ fun h2 tk hF hk => h h2 tk hF fun b o n1 n2 e => hk b o n1 n2 ?_⟩
    · rw [hsb.2 it (Ne.symm hne)]
      exact get_upd _ hit rfl
    · have q2 := addU_len l c
      omega
    · rw [hsb.2 b n1]
      exact PySem.Heap.get?_update_of_ne _ (Ne.symm n2) e
end
section
variable {P : Program} {w : World} {A : Around} {E : Value → Shared → Prop} {s : Shared}
def set0 (w : World) : Obj := { cls := .type "set", dict := none, data := .set #[] 0 (.fresh 0 0 (!w.params.followText "set-order")) }
set_option maxHeartbeats 3200000 in
theorem set_shell {x : Str} {u : Tok} {Q : Value → Shared → Prop} (hh : A.handled = none) (ha : x.cps.all (· < 128) = true) (Φ : Shared → Prop)
    (loop : ∀ (A' : Around) (R : Result → Shared → Prop), A'.handled = none → (∀ s', Φ s' → R (.ok (.ret .none)) s') →
      codeAny (model P w) A' (.builtin "set.update.loop" ⟨[.ref s.heap.objs.size, .ref (s.heap.push (set0 w)).objs.size], []⟩) R { s with heap := (s.heap.push (set0 w)).push (itObj x u 0) })
    (h : ∀ s', Φ s' → Q (.ref s.heap.objs.size) s') : wpAny (model P w) A (call (.type "set") [.str x u]) Q E s := by
  obtain ⟨c, tl, hmro⟩ := F.called_set.mro
  have hmade := F.called_set.made
  have hsub := F.called_set.sub
  refine wpAny_call (codeAny_of_tree ?_)
  show wpAny _ _ (callAny (.type "set") _) _ _ _
  refine wpAny_pure ⟨Code.quiet_builtin _ (by decide +kernel), codeAny_builtin F.entry_type_call ?_⟩
  rw [Around.under_plain (weight_type_call_type "set" [.str x u] []) rfl]
  have h1 := F.called_set.notType
  have h2 := F.called_set.canCreate
  have hct := F.typeCall_set_1 (.str x u)
  repeat (any_goals (first | assumption | wp_step))
  refine codeAny_mono (code_set_led1 (.str x u) (E := E) (Q₁ := fun obj s₁ => obj = .ref s.heap.objs.size ∧ s₁ = { s with heap := s.heap.push (set0 w) }) ⟨rfl, rfl⟩) fun r s₁ hr => ?_
  cases r with
  | error e => exact hr
  | ok fl =>
    cases fl with
    | ret obj =>
      obtain ⟨rfl, rfl⟩ := hr
      have hS : (s.heap.push (set0 w)).get? s.heap.objs.size = some (set0 w) := Heap.get?_push_size _ rfl
      have hT : Shared.TypeIs { s with heap := s.heap.push (set0 w) } (.ref s.heap.objs.size) "set" := ⟨_, hS, rfl⟩
      have hli := F.called_set.init.lookup
      have hbi := F.called_set.init.bind (.ref s.heap.objs.size)
      repeat (any_goals (first | assumption | wp_step))
      refine codeAny_mono (codeAny_call_builtin (R := wants (fun r s₂ => r = .none ∧ Φ s₂) E) F.called_set.init.plain F.entry_set_init (check_set_init_1 hT ?_)) fun r₂ s₂ hr₂ => ?_
      · have hsls := PySem.F.sub_str_set
        have hslf := PySem.F.sub_str_frozenset
        have hne : (Value.type "str" == Value.type "dict") = false := by decide
        have hS' : (s.heap.push (set0 w)).get? s.heap.objs.size = some { cls := .type "set", dict := none, data := .set #[] 0 (.fresh 0 0 (!w.params.followText "set-order")) } := hS
        unfold Builtin.«set.__init__» noKeywords Builtin.Frozenset.updateFrom
        generalize hPI : pyIter = PI
        wp_walk
        subst hPI
        refine wpAny_pyIter_ascii ha ?_
        refine wpAny_bind (wpAny_runValue ?_)
        have hh3 : A.in1.in1.in1.handled = none := by simp [hh]
        refine loop _ _ hh3 fun s' hs' => ?_
        show wpAny _ _ _ _ _ _
        refine wpAny_pure ?_
        show wpAny _ _ (ret Value.none) _ _ _
        exact wpAny_pure ⟨rfl, hs'⟩
      · cases r₂ with
        | error e => exact hr₂
        | ok fl₂ =>
          cases fl₂ with
          | ret r =>
            obtain ⟨rfl, hΦ⟩ := hr₂
            repeat (any_goals (first | assumption | wp_step))
            exact h _ hΦ
          | _ => exact hr₂.elim
    | _ => exact hr.elim
theorem set_any {x : Str} {u : Tok} {Q : Value → Shared → Prop} (hh : A.handled = none) (ha : x.cps.all (· < 128) = true) (hl : x.cps.size < 1000)
    (h : ∀ h' tk, h'.SetOf (strKind P w) s.heap.objs.size (fun k => decide (k ∈ dist x.cps.toList)) (dist x.cps.toList).length → (∀ b o, s.heap.get? b = some o → h'.get? b = some o) → Q (.ref s.heap.objs.size) { s with heap := h', toks := tk }) :
    wpAny (model P w) A (call (.type "set") [.str x u]) Q E s := by
  refine set_shell hh ha (fun s' => ∃ h' tk, s' = { s with heap := h', toks := tk } ∧ h'.SetOf (strKind P w) s.heap.objs.size (fun k => decide (k ∈ dist x.cps.toList)) (dist x.cps.toList).length ∧ ∀ b o, s.heap.get? b = some o → h'.get? b = some o) (fun A' R hA hR => ?_) fun s' ⟨h', tk, e, e1, e2⟩ => by
      subst e
      exact h h' tk e1 e2
  have hS : ((s.heap.push (set0 w)).push (itObj x u 0)).get? s.heap.objs.size = some (set0 w) := Heap.get?_push_of_some _ (Heap.get?_push_size _ rfl)
  refine update_any (by rw [Heap.size_push]; exact Nat.ne_of_lt (Nat.lt_succ_self _)) hA x.cps.toList 0 [] _ rfl ?_ (Heap.get?_push_size _ rfl) (by rw [Array.length_toList]; unfold scanBound; simp; omega) fun h' tk hF hk => hR _ ⟨h', tk, rfl, hF, fun b o e => ?_⟩
  · exact PyProof.Rows.SetOf_congr ((PyProof.Rows.setObjOf_fresh (knd := strKind P w) (!w.params.followText "set-order")).setOf hS (by unfold scanBound; simp)) (fun _ => by simp) rfl
  · have hb0 : b < s.heap.objs.size := Heap.lt_size e
    exact hk b o (Nat.ne_of_lt hb0) (by rw [Heap.size_push]; exact Nat.ne_of_lt (Nat.lt_succ_of_lt hb0)) (Heap.get?_push_of_some _ (Heap.get?_push_of_some _ e))
theorem set_nodup {x : Str} {u : Tok} {Q : Value → Shared → Prop} (hh : A.handled = none) (ha : x.cps.all (· < 128) = true) (hl : x.cps.size < 1000) (hn : x.cps.toList.Nodup)
    (h : ∀ h' tk D, h'.get? s.heap.objs.size = some (sObj "set" D) → TxOk P w D ((x.cps.toList.map sing).reverse) → TOk w D.2.2 → (∀ b o, s.heap.get? b = some o → h'.get? b = some o) → Q (.ref s.heap.objs.size) { s with heap := h', toks := tk }) :
    wpAny (model P w) A (call (.type "set") [.str x u]) Q E s := by
  have hne : s.heap.objs.size ≠ (s.heap.push (set0 w)).objs.size := by rw [Heap.size_push]; exact Nat.ne_of_lt (Nat.lt_succ_self _)
  refine set_shell hh ha (fun s' => ∃ h' tk D, s' = { s with heap := h', toks := tk } ∧ h'.get? s.heap.objs.size = some (sObj "set" D) ∧ TxOk P w D ((x.cps.toList.map sing).reverse) ∧ TOk w D.2.2 ∧ ∀ b o, s.heap.get? b = some o → h'.get? b = some o) (fun A' R hA hR => ?_) fun s' ⟨h', tk, D, e, e1, e2, e3, e4⟩ => by
      subst e
      exact h h' tk D e1 e2 e3 e4
  have hS : ((s.heap.push (set0 w)).push (itObj x u 0)).get? s.heap.objs.size = some (sObj "set" (#[], 0, .fresh 0 0 (!w.params.followText "set-order"))) := Heap.get?_push_of_some _ (Heap.get?_push_size _ rfl)
  have T0 : TxOk P w ((#[], 0, .fresh 0 0 (!w.params.followText "set-order")) : SD) [] := TxOk.nil (by rfl)
  have O0 : TOk w ((#[], 0, .fresh 0 0 (!w.params.followText "set-order")) : SD).2.2 := by
    refine ⟨List.Pairwise.nil, ?_⟩
    show w.params.followText "set-order" = true ∨ (!w.params.followText "set-order") = true
    cases w.params.followText "set-order" <;> simp
  refine code_update hne hA x.cps.toList 0 _ [] _ rfl hS (Heap.get?_push_size _ rfl) T0 (fun _ _ => by simp) hn (by rw [Array.length_toList]; unfold scanBound; simp; omega) (hR _ ?_)
  have T1 := txOk_run (P := P) (w := w) x.cps.toList s.toks _ [] T0
  rw [List.append_nil] at T1
  refine ⟨_, _, runD w x.cps.toList s.toks (#[], 0, .fresh 0 0 (!w.params.followText "set-order")), rfl, ?_, T1, TOk.run _ _ _ O0, fun b o e => ?_⟩
  · refine Heap.get?_push_of_some _ (Heap.get?_push_of_some _ ?_)
    exact PySem.Heap.get?_update_of_ne _ (Ne.symm hne) (get_upd _ hS rfl)
  · have hb0 : b < s.heap.objs.size := Heap.lt_size e
    have n1 : b ≠ s.heap.objs.size := Nat.ne_of_lt hb0
    have n2 : b ≠ (s.heap.push (set0 w)).objs.size := by rw [Heap.size_push]; exact Nat.ne_of_lt (Nat.lt_succ_of_lt hb0)
    refine Heap.get?_push_of_some _ (Heap.get?_push_of_some _ ?_)
    exact PySem.Heap.get?_update_of_ne _ (Ne.symm n2) (PySem.Heap.get?_update_of_ne _ (Ne.symm n1) (Heap.get?_push_of_some _ (Heap.get?_push_of_some _ e)))
end
section
variable {X : Cx} {a : Expr} {ta : TE} {p p2 q pos : Pos}
def tLenSetS (ta : TE) : TE := fun σ H Q => ta σ H fun x H1 => ∃ t, x = V.str t ∧ t.cps.all (· < 128) = true ∧ t.cps.size < 1000 ∧ Q (.int (dist t.cps.toList).length) H1
theorem pe_lenSetS (hc : X.calm = true) (hg : Gl X "len") (hm : X.mg "len" = none) (hg2 : Gl X "set") (hm2 : X.mg "set" = none) (ha : PE X a ta)
    (na : starEach [a] X.env = (false, eval a X.env) :: starEach [] X.env := by rfl) : PE X (.Call (.Name "len" p) [.Call (.Name "set" p2) [a] [] q] [] pos) (tLenSetS ta) := by
  refine ⟨fun pins s σ H Q I h => ?_⟩
  refine Call_ (ld_blt I hg hm PySem.boot_len ?_)
  refine PyProof.Rows.callWith_builtin1 (PyProof.Rows.args_cons ?_ rfl) rfl rfl
  refine Call_ (ld_blt I hg2 hm2 PyProof.Rows.boot_set ?_)
  refine PyProof.Rows.callWith_type1 (PyProof.Rows.args_cons (thn (ha.run pins s σ H _ I h) fun v s1 ⟨x, H1, I1, r1, q1⟩ => PyProof.Rows.args_nil ?_) na) na rfl
  obtain ⟨t, rfl, h1, h2, q1⟩ := q1
  obtain ⟨u, rfl⟩ := r1
  refine set_any (I1.ok.hd hc) h1 h2 fun h' tk hS hk => ?_
  refine PyProof.Rows.args_nil ?_
  obtain ⟨o, es, ep, tb, ho, hex, hd, _, _, _, hf, hn⟩ := hS
  have I2 : Inv X pins σ H1 { s1 with heap := h', toks := tk } := I1.kept hk
  have hle := dist_le t.cps.toList
  rw [Array.length_toList] at hle
  have hle2 : (dist t.cps.toList).length < 1000 := Nat.lt_of_le_of_lt hle h2
  have hle3 : es.size < 1000 := by rw [hn]; exact hle2
  refine call_len_set ho hex hd hf (by omega) ⟨.int (dist t.cps.toList).length, H1, I2.tok _, ⟨_, by rw [hn]⟩, q1⟩
def tSortSetS (ta : TE) : TE := fun σ H Q => ta σ H fun x H1 => ∃ t, x = V.str t ∧ t.cps.all (· < 128) = true ∧ t.cps.size < 64 ∧ t.cps.toList.Nodup ∧
  ∀ ys p, ys.Perm (t.cps.toList.map sing) → sortedS ys = true → H1 p = none → Q (.ref p) (upd H1 p (.lst (ys.map V.str)))
theorem strsAre_of : ∀ (l : List Value), (∀ v ∈ l, ∃ k tk, v = Value.str k tk) → ∃ ks, StrsAre l ks
  | [], _ => ⟨[], .nil⟩
  | v :: l, h => by
    obtain ⟨k, tk, rfl⟩ := h v List.mem_cons_self
    obtain ⟨ks, r⟩ := strsAre_of l fun u hu => h u (List.mem_cons_of_mem _ hu)
    exact ⟨k :: ks, .cons k tk r⟩
theorem strs_mem : ∀ {l : List Value} {ks : List Str}, StrsAre l ks → ∀ k, k ∈ ks ↔ ∃ tk, Value.str k tk ∈ l
  | _, _, .nil, k => by simp
  | _, _, .cons y t r, k => by
    constructor
    · intro h
      rcases List.mem_cons.mp h with e | h
      · exact ⟨t, by rw [e]; exact List.mem_cons_self⟩
      · obtain ⟨tk, m⟩ := (strs_mem r k).mp h
        exact ⟨tk, List.mem_cons_of_mem _ m⟩
    · rintro ⟨tk, h⟩
      rcases List.mem_cons.mp h with e | h
      · cases e
        exact List.mem_cons_self
      · exact List.mem_cons_of_mem _ ((strs_mem r k).mpr ⟨tk, h⟩)
theorem strs_len : ∀ {l : List Value} {ks : List Str}, StrsAre l ks → l.length = ks.length
  | _, _, .nil => rfl
  | _, _, .cons y t r => congrArg (· + 1) (strs_len r)
theorem pe_sortSetS (hc : X.calm = true) (hg : Gl X "sorted") (hm : X.mg "sorted" = none) (hg2 : Gl X "set") (hm2 : X.mg "set" = none) (ha : PE X a ta)
    (na : starEach [a] X.env = (false, eval a X.env) :: starEach [] X.env := by rfl) : PE X (.Call (.Name "sorted" p) [.Call (.Name "set" p2) [a] [] q] [] pos) (tSortSetS ta) := by
  refine ⟨fun pins s σ H Q I h => ?_⟩
  refine Call_ (ld_blt I hg hm PyProof.Rows.boot_sorted ?_)
  refine PyProof.Rows.callWith_builtin1 (PyProof.Rows.args_cons ?_ rfl) rfl rfl
  refine Call_ (ld_blt I hg2 hm2 PyProof.Rows.boot_set ?_)
  refine PyProof.Rows.callWith_type1 (PyProof.Rows.args_cons (thn (ha.run pins s σ H _ I h) fun v s1 ⟨x, H1, I1, r1, q1⟩ => PyProof.Rows.args_nil ?_) na) na rfl
  obtain ⟨t, rfl, h1, h2, hnd, q1⟩ := q1
  obtain ⟨u, rfl⟩ := r1
  refine set_nodup (I1.ok.hd hc) h1 (by omega) hnd fun h' tk D hD T O hk => ?_
  refine PyProof.Rows.args_nil ?_
  have I2 : Inv X pins σ H1 { s1 with heap := h', toks := tk } := I1.kept hk
  obtain ⟨es, ep, tb⟩ := D
  have hsz : es.size = t.cps.size := by
    have e := T.sz
    rw [List.length_reverse, List.length_map, Array.length_toList] at e
    exact e
  refine Calls.call_function_entry kind_sorted plain_sorted entry_sorted (args_sorted1 _) ?_
  unfold Builtin.«sorted»
  refine wpAny_bind (m := checkCount "sorted" 1 1 _) (wpAny_pure ?_)
  refine wpAny_bind (collect_set (A := X.A.in1) (s := { s1 with heap := h', toks := tk }) (I1.ok.hd hc) ⟨_, hD, rfl, rfl⟩ T.fit (by rw [hsz]; unfold scanBound; omega) O.1 O.2 fun s3 vs k1 hz g1 o1 pm => ?_)
  have hvl : vs.length = t.cps.size := by rw [pm.length_eq, List.length_map, Array.length_toList]; exact hsz
  obtain ⟨ks, hS⟩ := strsAre_of vs fun v hv => by
    obtain ⟨e, he, q⟩ := List.mem_map.mp (pm.mem_iff.mp hv)
    obtain ⟨⟨k, hk1, _⟩, _⟩ := T.el e he
    obtain ⟨tt, ev⟩ := Value.isStrOf_shape (x := k) (v := e.2) hk1
    exact ⟨k, tt, by rw [← q]; exact ev⟩
  have hkl : ks.length = t.cps.size := by rw [← strs_len hS]; exact hvl
  have hkp : ks.Perm (t.cps.toList.map sing) := by
    refine perm_of_sub (List.Pairwise.map sing (fun x y hne e => hne (sing_inj e)) hnd) (fun k hk2 => ?_) (by rw [hkl, List.length_map, Array.length_toList])
    obtain ⟨e, he, hi⟩ := (T.mem k).mp (List.mem_reverse.mpr hk2)
    obtain ⟨tt, ev⟩ := Value.isStrOf_shape (x := k) (v := e.2) hi
    exact (strs_mem hS k).mpr ⟨tt, pm.mem_iff.mpr (List.mem_map.mpr ⟨e, he, ev⟩)⟩
  refine wpAny_bind (wpAny_newList ?_ (by rw [hvl, sizeLine_eq]; omega))
  have hoL : (s3.heap.push (seqObj "list" vs.toArray 0)).get? s3.heap.objs.size = some (seqObj "list" vs.toArray 0) := Heap.get?_push_size _ rfl
  refine wpAny_bind (wpAny_holding (wpAny_call_entry slot_list_sort ⟨_, hoL, rfl⟩ entry_list_sort
    (list_sort_treeK strKind_oneLt hoL hS.keysOf (fun v₁ v₂ rest e => keyKind_strs (by rw [← e]; exact hS)) (by rw [hvl]; exact h2) fun st' hp hs => ⟨_, rfl, ?_⟩) (args_list_sort _)))
  obtain ⟨ys, y1, y2, y3⟩ := sorted_out_str hS hp hs
  obtain ⟨e', he'⟩ := PyProof.Rows.sortedHeap_at (vs := vs) (out := (arrOf st').map (·.2)) hoL
  have hlen : (ys.map V.str).length ≤ sizeLine := by
    rw [List.length_map, y2.length_eq, hkl, sizeLine_eq]
    omega
  generalize hh4 : sortedHeap (s3.heap.push (seqObj "list" vs.toArray 0)) s3.heap.objs.size vs ((arrOf st').map (·.2)) = h4 at he'
  have kp : ∀ b o, h'.get? b = some o → h4.get? b = some o := fun b o e => by
    have e3 := k1 b o e
    have hb : b < s3.heap.objs.size := Heap.lt_size e3
    rw [← hh4, PyProof.Rows.sortedHeap_old (Nat.ne_of_lt hb) (by rw [size_push']; exact Nat.lt_succ_of_lt hb)]
    exact Heap.get?_push_of_some _ e3
  have hn4 : H1 s3.heap.objs.size = none := I2.hok.fresh hz
  have J : Inv X pins σ (upd H1 s3.heap.objs.size (.lst (ys.map V.str))) { ({ s1 with heap := h', toks := tk } : Shared) with heap := h4, gens := s3.gens, drawn := s3.drawn, toks := s3.toks } :=
    I2.call (ch := []) (Un.laid kp hz hn4) (I2.hok.laid kp hz (show ObjOk X.prog X.w _ _ _ (.lst (ys.map V.str)) from ⟨hlen, ((arrOf st').map (·.2)).toList, e', vals_of_strs y1, by rw [Array.toArray_toList]; exact he'⟩)) (by rw [g1]; exact I2.bare) (fun _ z => nomatch z)
  have e : ({ s3 with heap := h4 } : Shared) = { ({ s1 with heap := h', toks := tk } : Shared) with heap := h4, gens := s3.gens, drawn := s3.drawn, toks := s3.toks } := by
    cases s3
    cases s1
    cases o1
    rfl
  refine wpAny_pure ⟨_, rfl, ?_⟩
  try dsimp only
  rw [e]
  exact ⟨.ref s3.heap.objs.size, _, J, rfl, q1 ys _ (y2.trans hkp) y3 hn4⟩
end
end



/-! ### x != y by the own __eq__ (no __ne__); x(..), x an instance with __call__ -/
structure NeF (K : PySem.W.Frag) (C f : Addr) : Prop where
  hs : PySem.W.findIn K (.ref C) "__eq__" = some (some (.ref f))
  hf : PySem.W.isFn K (.ref f) = true
  hn : PySem.W.findIn K (.ref C) "__ne__" = some (some (.builtin "object.__ne__"))
  hm : PySem.W.mroIn K C (.type "object") = some true
section
open PySem.W
variable {prog : Program} {w : World} {A : Around} {E : Value → Shared → Prop} {s : Shared} {K : Frag} {x C f : Addr} {ox : Obj} {od : Option Obj}
theorem check_slotK {M : Model} {id owner n : String} {rest : List Value} {Q : Unit → Shared → Prop} (hk : builtinKind id = some .slot) (hs : splitId id = some (owner, n)) (ha : argsOk id ⟨.ref x :: rest, []⟩)
    (X : K.In s.heap) (I : InstAt s.heap x ox C od) (hm : mroIn K C (.type owner) = some true) (hq : Q () s) : wpAny M A (checkBuiltinCall id ⟨.ref x :: rest, []⟩) Q E s := by
  have L0 := I.type (M := M)
  have L1 := looks_mroIn (M := M) X hm
  simp only [checkBuiltinCall, hk, hs]
  refine wpAny_bind ?_
  unfold isInstance
  refine wpAny_bind (L0.here (L1.here ?_))
  cases hsig : Manifest.signature? id with
  | none => exact wpAny_pure hq
  | some sig =>
    simp only [argsOk, hsig] at ha
    have h2 : Bind.checkArgs id sig ⟨.ref x :: rest, []⟩ = pure () := ha
    show wpAny M A (Bind.checkArgs id sig ⟨.ref x :: rest, []⟩) Q E _
    rw [h2]
    exact wpAny_pure hq
theorem ifBound_B {M : Model} {name : Str} {id : String} {args : List Value} {Q : Option Value → Shared → Prop} (X : K.In s.heap) (I : InstAt s.heap x ox C od) (hs : findIn K (.ref C) name = some (some (.builtin id)))
    (hb : bindSpecial (.builtin id) (.ref x) = pure (.builtin id, [.ref x])) (h : wpAny M A (call (.builtin id) (.ref x :: args)) (fun v => Q (some v)) E s) : wpAny M A (callSpecialIfBound? (.ref x) name args) Q E s := by
  simp only [callSpecialIfBound?, bindSpecialIfBound?]
  refine wpAny_holding (wpAny_bind (wpAny_bind (wpAny_bind (I.type.here ((looks_findIn X hs).here ?_)))))
  refine wpAny_bind (wpAny_askSetting (wpAny_ite ?_))
  have fin : wpAny M A (call (.builtin id) ([.ref x] ++ args) >>= fun v => pure (some v)) Q E s := wpAny_bind (wpAny_mono h (fun v s' h' => wpAny_pure h') fun _ _ h' => h')
  split
  · rw [hb]
    exact wpAny_bind (wpAny_pure (wpAny_pure (by exact fin)))
  · rw [hb]
    exact wpAny_tryCatch (wpAny_bind (wpAny_pure (wpAny_pure (by exact fin))))
theorem ne_K {y : Addr} {oy : Obj} {ody : Option Obj} {Q : Value → Shared → Prop} (hu : A.units + 1 < cLine) (X : K.In s.heap) (I : InstAt s.heap x ox C od) (J : InstAt s.heap y oy C ody) (O : NeF K C f)
    (hcall : wpAny (model prog w) A.in1 (call (.ref f) [.ref x, .ref y]) (fun v s' => ∃ b, v = .bool b ∧ Q (.bool (!b)) s') E s) : wpAny (model prog w) A (richCompare .NotEq (.ref x) (.ref y)) Q E s := by
  have one : wpAny (model prog w) A (tryCompare (.ref x) "__ne__" (.ref y)) (fun r s' => ∃ v, r = some v ∧ Q v s') E s := by
    unfold tryCompare
    refine wpAny_bind (ifBound_B X I O.hn (PySem.F.slot_object_ne.bind _) (wpAny_call (codeAny_call_builtin PySem.F.slot_object_ne.plain PySem.F.cmpEntry_ne
      (check_slotK PySem.F.cmpKind_ne PySem.F.cmpSplit_ne (PySem.F.cmpArgs_ne _ _) X I O.hm ?_))))
    unfold Builtin.«object.__ne__»
    refine wpAny_bind (m := slotArgs "__ne__" 1 _) (wpAny_pure ?_)
    refine wpAny_bind (wpAny_cRoomFor hu ?_)
    refine wpAny_bind (m := callSpecialIfBound? (.ref x) (Str.ofString "__eq__") [.ref y]) (ifBound_K X I O.hs O.hf (wpAny_mono hcall (fun v s' hv => ?_) fun _ _ e => e))
    obtain ⟨b, rfl, hq⟩ := hv
    dsimp only
    refine wpAny_bind (m := truthy (.bool b)) (wpAny_truthy_bool ?_)
    exact wpAny_pure (wpAny_pure ⟨_, rfl, hq⟩)
  unfold richCompare
  simp only [oneThing_ref]
  refine wpAny_holding (wpAny_bind (wpAny_cRoomFor (Nat.lt_of_succ_lt hu) ?_))
  rw [cmpInfo_NotEq]
  dsimp only
  refine wpAny_bind (I.type.here (wpAny_bind (J.type.here ?_)))
  rw [show (Value.ref C != Value.ref C) = false from by simp]
  simp only [Bool.false_eq_true, if_false]
  refine wpAny_bind (wpAny_pure ?_)
  simp only [Bool.false_eq_true, if_false]
  refine wpAny_bind (wpAny_mono one (fun r s' z => ?_) fun _ _ e => e)
  obtain ⟨v, rfl, hq⟩ := z
  exact wpAny_pure hq
end
section
open PyProof.Rows
variable {X : Cx} {CX : CXT} {k : Nat} {C f : Addr} {fd : FuncData} {ps : List Str} {sp : Sp} {E : XK}
def rOwnNe (C : Addr) (sp : Sp) (E : XK) : R2 := fun x y H Q => ∃ a dx fs b dy gs, x = .ref a ∧ y = .ref b ∧ H a = some (.ins C dx fs) ∧ H b = some (.ins C dy gs) ∧ sp [x, y] H (fun v H' => ∃ r, v = .bl r ∧ Q (.bl (!r)) H') E
theorem op_ownNe (O : NeF X.K C f) (F : FnOk X.prog X.w X.K X.mg X.base CX k f fd ps sp) (hr : Room (k + 1) X.A) (hb : Binds X.K fd ps []) (hx : Passes CX X E) : OpR X (compareOp .NotEq) (rOwnNe C sp E) := fun pins s σ H x y v u Q I rx ry h => by
  obtain ⟨a, dx, fs, b, dy, gs, rfl, rfl, ha, hb', q⟩ := h
  cases rx
  cases ry
  obtain ⟨mA, J, _⟩ := ins_get I.hok ha
  obtain ⟨od, J, _⟩ := J.look
  obtain ⟨mB, J', _⟩ := ins_get I.hok hb'
  obtain ⟨od', J', _⟩ := J'.look
  show wpAny _ _ (richCompare .NotEq (.ref a) (.ref b)) _ _ _
  refine ne_K (by have := hr.units; omega) I.kIn J J' O ?_
  refine thn (run_fnA (vs := [.ref a, .ref b]) (room_in1 hr) rfl F hb hx I (.cons rfl (.cons rfl .nil)) q) fun w s' z => ?_
  obtain ⟨v', H', I', r', r, rfl, q'⟩ := z
  cases r'
  exact ⟨r, rfl, .bl (!r), H', I', rfl, q'⟩
/-- x(e, ..), x an instance of C -/
def tCallI (C : Addr) (sp : Sp) (E : XK) (tf : TE) (t : TA) : TE := fun σ H Q => tf σ H fun y H1 => ∃ a, y = V.ref a ∧ t σ H1 fun vs H2 => (∃ dx fs, H2 a = some (.ins C dx fs)) ∧ sp (V.ref a :: vs) H2 Q E
theorem pe_callI {fe e : Expr} {es : List Expr} {pos : Pos} {tf : TE} {t : TA} (hf : PE X fe tf) (c : StX.CallO X.K C f) (F : FnOk X.prog X.w X.K X.mg X.base CX k f fd ps sp) (hr : Room k X.A) (hb : Binds X.K fd ps []) (hx : Passes CX X E) (ha : PA X (e :: es) t)
    (ht : eval (.Call fe (e :: es) [] pos) X.env = (do callWith pos (← eval fe X.env) [] (backTo pos (starEach (e :: es) X.env)) (backToKw pos (keywordEach [] X.env))) := by rfl)
    (he : starEach (e :: es) X.env = (false, eval e X.env) :: starEach es X.env := by rfl) (hpl : (backTo pos (starEach es X.env)).any (·.1) = false := by rfl) : PE X (.Call fe (e :: es) [] pos) (tCallI C sp E tf t) := by
  refine ⟨fun pins s σ H Q I h => ?_⟩
  refine Call_ (thn (hf.run pins s σ H _ I h) fun u s1 ⟨y, H1, I1, ry, a, ey, q⟩ => ?_) ht
  subst ey
  obtain rfl : u = Value.ref a := ry
  refine StX.callO_with (thn (ha.run pos pins s1 σ H1 _ I1 q) fun us s2 ⟨vs, H2, I2, r, ⟨dx, fs, hi⟩, q2⟩ => ?_) he hpl
  obtain ⟨mA, J, _⟩ := ins_get I2.hok hi
  obtain ⟨od, J, _⟩ := J.look
  refine ⟨⟨C, _, od, J, rfl⟩, ?_⟩
  have r2 : Vals (V.ref a :: vs) (Value.ref a :: us) := .cons rfl r
  have hl : (Value.ref a :: us).length = ps.length := by rw [← r2.length]; exact F.len _ _ _ _ q2
  have hb2 := hb s2 (Value.ref a :: us) I2.kIn (by simpa using hl)
  rw [List.append_nil] at hb2
  refine wpAny_call (PySem.W.kco_code (a := ⟨[] ++ us, []⟩) I2.kIn J rfl c.at_ c.fn c.fi (codeAny_mono (F.run X.A X.stack s2 H2 ⟨Value.ref a :: us, []⟩ (Value.ref a :: us) (V.ref a :: vs) Q E hr I2.env0 hb2 r2 q2) fun r s' hq => ?_))
  cases r with
  | error e => exact hx pins σ H2 s2 e s' I2 hq
  | ok fl =>
    cases fl with
    | ret u => exact I2.after hq
    | next => exact False.elim hq
    | brk => exact False.elim hq
    | cont => exact False.elim hq
theorem pe_fldK {e : Expr} {ta : TE} {f : Str} {pos : Pos} (K : PySem.W.Frag) (he : PE X e ta) (hb : attributeBase e f X.env (eval e X.env) = eval e X.env) (hK : X.K = K := by rfl) : PE X (.Attribute e f pos) (tFld K ta f) := by
  subst hK
  exact pe_fld he hb
/-! ### z[::-1] -/
def revS (z : Str) : Str := ⟨z.cps.toList.reverse.toArray⟩
theorem rev_indices (z : Str) : (Builtin.Str.strSliceIndices none none (-1) z.length).filterMap (z.cps[·]?) = z.cps.toList.reverse := by
  have e : Builtin.Str.strSliceIndices none none (-1) z.length = (List.range z.length).reverse := by
    rw [← PySem.W.krv_range, ← PySem.W.krv_sliceRange]
    rfl
  rw [e, List.filterMap_reverse]
  exact congrArg List.reverse (PySem.W.krv_all z.cps)
def tRevS (te : TE) : TE := fun σ H Q => te σ H fun x H1 => ∃ z, x = .str z ∧ z.length ≤ sizeLine ∧ Q (.str (revS z)) H1
theorem pe_revS {e : Expr} {te : TE} {j : Nat} {p1 p2 p3 pos : Pos} (he : PE X e te) : PE X (.Subscript e (.Slice none none (some (.UnaryOp .USub (.Constant (.int 1) j p1) p2)) p3) pos) (tRevS te) := by
  refine ⟨fun pins s σ H Q I h => ?_⟩
  refine Subscript_ (thn (he.run pins s σ H _ I h) fun v s1 ⟨x, H1, I1, r1, q1⟩ => ?_)
  obtain ⟨z, ex, hz, q⟩ := q1
  subst ex
  obtain ⟨t, rfl⟩ := r1
  have hst : PO X (some (.UnaryOp .USub (.Constant (.int 1) j p1) p2)) (tPart (tUn (rU fun i => .int (-i)) (tC (.int 1)))) := po_some (pe_un un_neg pe_int)
  refine wpAny_Slice (thn (po_none.run pins s1 σ H1 (fun o H2 => o = none ∧ H2 = H1) I1 ⟨rfl, rfl⟩) fun vl s2 ⟨l, H2, I2, pl, el, e2⟩ => ?_)
  subst el e2
  refine thn (po_none.run pins s2 σ H2 (fun o H3 => o = none ∧ H3 = H2) I2 ⟨rfl, rfl⟩) fun vu s3 ⟨u, H3, I3, pu, eu, e3⟩ => ?_
  subst eu e3
  refine thn (hst.run pins s3 σ H3 (fun o H4 => o = some (-1) ∧ H4 = H3) I3 ⟨1, rfl, -1, rfl, rfl, rfl⟩) fun vs s4 ⟨o, H4, I4, ps, eo, e4⟩ => ?_
  subst eo e4
  have I5 : Inv X pins σ H4 { s4 with heap := s4.heap.push { cls := .type "slice", data := .fields #[vl, vu, vs] } } := I4.kept (t' := s4.toks) fun b ob q => Heap.get?_push_of_some _ q
  show wpAny (model X.prog X.w) X.A (subscriptTail e (.Slice none none (some (.UnaryOp .USub (.Constant (.int 1) j p1) p2)) p3) (.str z t) (.ref s4.heap.objs.size)) (EP X pins σ Q) X.xe { s4 with heap := s4.heap.push { cls := .type "slice", data := .fields #[vl, vu, vs] } }
  refine tail_any (T := "str") (ops := [.str z t, .ref s4.heap.objs.size]) (typeIs_str _ _ _) (PySem.F.slot_str_getitem.lookup) ?_ (by with_unfolding_all rfl)
  obtain ⟨l, rfl, hl⟩ := IsPart.raw pl
  obtain ⟨u, rfl, hu⟩ := IsPart.raw pu
  obtain ⟨st, rfl, hst'⟩ := IsPart.raw ps
  cases l with
  | some _ => cases hl
  | none =>
    cases u with
    | some _ => cases hu
    | none =>
      cases st with
      | none => cases hst'
      | some m =>
        obtain ⟨i, tk⟩ := m
        have ei : i = -1 := Option.some.inj hst'
        subst ei
        refine wpAny_getItem_str_slice (l := none) (u := none) (st := some (-1, tk)) ⟨_, Heap.get?_push_size _ rfl, rfl, rfl⟩ rfl ?_
        show Made.post (if ((-1 : Int) == 1 && (Builtin.Str.strSliceIndices none none (-1) z.length).length == z.length) = true then Made.val (.str z t) else Made.str ⟨((Builtin.Str.strSliceIndices none none (-1) z.length).filterMap (z.cps[·]?)).toArray⟩) _ _
        rw [if_neg (by simp), rev_indices]
        refine ⟨?_, .str (revS z), H4, I5.tok _, ⟨_, rfl⟩, q⟩
        show (z.cps.toList.reverse.toArray).size ≤ sizeLine
        rw [List.size_toArray, List.length_reverse, Array.length_toList]
        exact hz
end



/-! ### len(x), v in x, x[i] of an own class -/
section
open PyProof.Rows
variable {X : Cx} {CX : CXT} {k : Nat} {C f : Addr} {fd : FuncData} {ps : List Str} {sp : Sp} {E : XK}
def rLenO (C : Addr) (sp : Sp) (E : XK) : List V → Hp → VK → Prop := fun vs H Q => ∃ a dx fs, vs = [.ref a] ∧ H a = some (.ins C dx fs) ∧ sp vs H (fun v H' => ∃ n : Nat, v = .int (n : Int) ∧ n ≤ 1000000 ∧ Q (.int (n : Int)) H') E
theorem call_lenO (O : UnF X.K C f "__len__") (F : FnOk X.prog X.w X.K X.mg X.base CX k f fd ps sp) (hr : Room (k + 1) X.A) (hb : Binds X.K fd ps []) (hx : Passes CX X E) : CallR X (.builtin "len") (rLenO C sp E) := fun pins s σ H xs us Q I r h => by
  obtain ⟨a, dx, fs, rfl, ha, q⟩ := h
  obtain ⟨u, rfl, ru⟩ := vals1 r
  cases ru
  obtain ⟨mA, J, _⟩ := ins_get I.hok ha
  obtain ⟨od, J, _⟩ := J.look
  obtain ⟨m, hF⟩ := I.fr
  refine PySem.W.len_K hF I.ok.mod.kin J O.hs O.hf ?_
  refine thn (run_fnA (vs := [.ref a]) (room_in1 hr) rfl F hb hx I (.cons rfl .nil) q) fun v s' z => ?_
  obtain ⟨v', H', I', r', n, rfl, hn, q'⟩ := z
  obtain ⟨t, rfl⟩ := r'
  exact ⟨⟨by omega, by omega⟩, .int (n : Int), H', I'.tok _, ⟨_, rfl⟩, q'⟩
def rInO (C : Addr) (sp : Sp) (E : XK) (g : Bool → Bool) : R2 := fun x y H Q => ∃ a dx fs, y = .ref a ∧ H a = some (.ins C dx fs) ∧ sp [y, x] H (fun v H' => ∃ b, v = .bl b ∧ Q (.bl (g b)) H') E
theorem op_inO (O : UnF X.K C f "__contains__") (F : FnOk X.prog X.w X.K X.mg X.base CX k f fd ps sp) (hr : Room k X.A) (hb : Binds X.K fd ps []) (hx : Passes CX X E) : OpR X (compareOp .In) (rInO C sp E id) := fun pins s σ H x y v u Q I rx ry h => by
  obtain ⟨a, dx, fs, rfl, ha, q⟩ := h
  cases ry
  obtain ⟨mA, J, _⟩ := ins_get I.hok ha
  obtain ⟨od, J, _⟩ := J.look
  obtain ⟨m, hF⟩ := I.fr
  refine PySem.W.in_K hF I.ok.mod.kin J O.hs O.hf ?_
  refine thn (run_fn (vs := [.ref a, x]) F hr hb .nil hx I (.cons rfl (.cons rx .nil)) q) fun v s' z => ?_
  obtain ⟨v', H', I', r', b, rfl, q'⟩ := z
  cases r'
  exact wpAny_truthy_bool ⟨.bl b, H', I', rfl, q'⟩
theorem op_notInO (O : UnF X.K C f "__contains__") (F : FnOk X.prog X.w X.K X.mg X.base CX k f fd ps sp) (hr : Room k X.A) (hb : Binds X.K fd ps []) (hx : Passes CX X E) : OpR X (compareOp .NotIn) (rInO C sp E Bool.not) := fun pins s σ H x y v u Q I rx ry h => by
  obtain ⟨a, dx, fs, rfl, ha, q⟩ := h
  cases ry
  obtain ⟨mA, J, _⟩ := ins_get I.hok ha
  obtain ⟨od, J, _⟩ := J.look
  obtain ⟨m, hF⟩ := I.fr
  refine PySem.W.notIn_K hF I.ok.mod.kin J O.hs O.hf ?_
  refine thn (run_fn (vs := [.ref a, x]) F hr hb .nil hx I (.cons rfl (.cons rx .nil)) q) fun v s' z => ?_
  obtain ⟨v', H', I', r', b, rfl, q'⟩ := z
  cases r'
  exact wpAny_truthy_bool ⟨.bl (!b), H', I', rfl, q'⟩
def rIxO (C : Addr) (sp : Sp) (E : XK) : R2 := fun x y H Q => ∃ a dx fs, x = .ref a ∧ H a = some (.ins C dx fs) ∧ sp [x, y] H Q E
theorem pe_ixO {a b : Expr} {ta tb : TE} {pos : Pos} (O : UnF X.K C f "__getitem__") (fi : PySem.W.fnIn X.K f = true) (F : FnOk X.prog X.w X.K X.mg X.base CX k f fd ps sp) (hr : Room (k + 1) X.A) (hb : Binds X.K fd ps []) (hx : Passes CX X E) (ha : PE X a ta) (hb' : PE X b tb)
    (hs : ∀ (x : Addr) (i : Value), subscripted b true (.ref x) i = runValue (.builtin "lifetime.subscript" ⟨[.ref x, i], []⟩) := by intro _ _; with_unfolding_all rfl) : PE X (.Subscript a b pos) (tOp (rIxO C sp E) ta tb) := by
  refine ⟨fun pins s σ H Q I h => ?_⟩
  refine Subscript_ (binT ha hb' I h fun v u s2 x y H2 I2 rx ry q => ?_)
  obtain ⟨c, dx, fs, rfl, hc, q⟩ := q
  cases rx
  obtain ⟨mA, J, _⟩ := ins_get I2.hok hc
  obtain ⟨od, J, _⟩ := J.look
  obtain ⟨m, hF⟩ := I2.fr
  exact PySem.W.sub_K hF I2.ok.mod.kin J O.hs fi O.hf (run_fnA (vs := [.ref c, y]) (room_in1 hr) rfl F hb hx I2 (.cons rfl (.cons ry .nil)) q) (hs _ _)
end



/-! ### sets of ints out of a list or a tuple: len(set(xs)), sorted(set(xs)) -/
section
open PySem.Froz PyProof.Rows
variable {P : Program} {w : World} {A : Around} {E : Value → Shared → Prop} {s : Shared}
set_option maxHeartbeats 3200000 in
theorem shellL {l : Addr} {items : Array Value} {Q : Value → Shared → Prop} (hh : A.handled = none) (hl : s.heap.IsList l items) (Φ : Shared → Prop)
    (loop : ∀ (A' : Around) (R : Result → Shared → Prop), A'.handled = none → (∀ s', Φ s' → R (.ok (.ret .none)) s') →
      codeAny (model P w) A' (.builtin "set.update.loop" ⟨[.ref s.heap.objs.size, .ref (s.heap.push (set0 w)).objs.size], []⟩) R { s with heap := (s.heap.push (set0 w)).push { cls := .type "list_iterator", data := .fields #[.ref l, .int 0 0] } })
    (h : ∀ s', Φ s' → Q (.ref s.heap.objs.size) s') : wpAny (model P w) A (call (.type "set") [.ref l]) Q E s := by
  obtain ⟨c, tl, hmro⟩ := F.called_set.mro
  have hmade := F.called_set.made
  have hsub := F.called_set.sub
  refine wpAny_call (codeAny_of_tree ?_)
  show wpAny _ _ (callAny (.type "set") _) _ _ _
  refine wpAny_pure ⟨Code.quiet_builtin _ (by decide +kernel), codeAny_builtin F.entry_type_call ?_⟩
  rw [Around.under_plain (weight_type_call_type "set" [.ref l] []) rfl]
  have h1 := F.called_set.notType
  have h2 := F.called_set.canCreate
  have hct := F.typeCall_set_1 (.ref l)
  repeat (any_goals (first | assumption | wp_step))
  refine codeAny_mono (code_set_led1 (.ref l) (E := E) (Q₁ := fun obj s₁ => obj = .ref s.heap.objs.size ∧ s₁ = { s with heap := s.heap.push (set0 w) }) ⟨rfl, rfl⟩) fun r s₁ hr => ?_
  cases r with
  | error e => exact hr
  | ok fl =>
    cases fl with
    | ret obj =>
      obtain ⟨rfl, rfl⟩ := hr
      have hS : (s.heap.push (set0 w)).get? s.heap.objs.size = some (set0 w) := Heap.get?_push_size _ rfl
      have hT : Shared.TypeIs { s with heap := s.heap.push (set0 w) } (.ref s.heap.objs.size) "set" := ⟨_, hS, rfl⟩
      have hli := F.called_set.init.lookup
      have hbi := F.called_set.init.bind (.ref s.heap.objs.size)
      repeat (any_goals (first | assumption | wp_step))
      refine codeAny_mono (codeAny_call_builtin (R := wants (fun r s₂ => r = .none ∧ Φ s₂) E) F.called_set.init.plain F.entry_set_init (check_set_init_1 hT ?_)) fun r₂ s₂ hr₂ => ?_
      · obtain ⟨ol, hol, hcl, nl, hdl⟩ := hl
        obtain ⟨ocls, odict, odata, oslots⟩ := ol
        simp only at hcl hdl
        subst hcl
        subst hdl
        have hol' : (s.heap.push (set0 w)).get? l = some { cls := .type "list", dict := odict, data := .seq items nl, slots := oslots } := Heap.get?_push_of_some _ hol
        have hsls := F.sub_list_set
        have hslf := F.sub_list_frozenset
        have hne : (Value.type "list" == Value.type "dict") = false := by decide
        have hl1 : (s.heap.push (set0 w)).IsList l items := ⟨_, hol', rfl, nl, rfl⟩
        have hS' : (s.heap.push (set0 w)).get? s.heap.objs.size = some { cls := .type "set", dict := none, data := .set #[] 0 (.fresh 0 0 (!w.params.followText "set-order")) } := hS
        unfold Builtin.«set.__init__» noKeywords Builtin.Frozenset.updateFrom
        generalize hPI : pyIter = PI
        wp_walk
        subst hPI
        refine wpAny_pyIter_list hl1 ?_
        refine wpAny_bind (wpAny_runValue ?_)
        have hh3 : A.in1.in1.in1.handled = none := by simp [hh]
        refine loop _ _ hh3 fun s' hs' => ?_
        show wpAny _ _ _ _ _ _
        refine wpAny_pure ?_
        show wpAny _ _ (ret Value.none) _ _ _
        exact wpAny_pure ⟨rfl, hs'⟩
      · cases r₂ with
        | error e => exact hr₂
        | ok fl₂ =>
          cases fl₂ with
          | ret r =>
            obtain ⟨rfl, hΦ⟩ := hr₂
            repeat (any_goals (first | assumption | wp_step))
            exact h _ hΦ
          | _ => exact hr₂.elim
    | _ => exact hr.elim
theorem set_listI {l : Addr} {items : Array Value} (ns : List Int) {Q : Value → Shared → Prop} (hh : A.handled = none) (hl : s.heap.IsList l items) (hit : IntsAre items.toList ns) (hb : ns.length + 1 < scanBound)
    (h : ∀ (h' : Heap) (tk c : Nat), SetR w h' s.heap.objs.size (fun j => decide (j ∈ ns)) c → (∀ b o, s.heap.get? b = some o → h'.get? b = some o) → Q (.ref s.heap.objs.size) { s with heap := h', toks := tk }) :
    wpAny (model P w) A (call (.type "set") [.ref l]) Q E s := by
  have hisz : items.size = ns.length := by
    have q := IntsAre.length hit
    rw [Array.length_toList] at q
    exact q
  have hlS : l < s.heap.objs.size := by
    obtain ⟨ol, hol, _⟩ := hl
    exact Heap.lt_size hol
  refine shellL hh hl (fun s' => ∃ h' tk c, s' = { s with heap := h', toks := tk } ∧ SetR w h' s.heap.objs.size (fun j => decide (j ∈ ns)) c ∧ ∀ b o, s.heap.get? b = some o → h'.get? b = some o) (fun A' R hA hR => ?_) fun s' ⟨h', tk, c, e, e1, e2⟩ => by
      subst e
      exact h h' tk c e1 e2
  have hl1 : (s.heap.push (set0 w)).IsList l items := by
    obtain ⟨ol, hol, r⟩ := hl
    exact ⟨ol, Heap.get?_push_of_some _ hol, r⟩
  have hneI : l ≠ (s.heap.push (set0 w)).objs.size := by rw [Heap.size_push]; exact Nat.ne_of_lt (Nat.lt_succ_of_lt hlS)
  have hSf : s.heap.objs.size ∉ [(s.heap.push (set0 w)).objs.size, l] := by
    rw [Heap.size_push]
    simp only [List.mem_cons, List.mem_singleton, List.not_mem_nil, or_false, not_or]
    exact ⟨Nat.ne_of_lt (Nat.lt_succ_self _), Nat.ne_of_gt hlS⟩
  have hval : ∀ (i : Nat) (v : Value), items[i]? = some v → ∃ k t, ns[i]? = some k ∧ v = .int k t := fun i v hv => by
    have hi : i < ns.length := by rw [← hisz]; exact (Array.getElem?_eq_some_iff.mp hv).1
    obtain ⟨t, e⟩ := PyProof.Rows.IntsAre.int_at hit i v (by rw [Array.getElem?_toList]; exact hv)
    refine ⟨ns[i], t, List.getElem?_eq_getElem hi, ?_⟩
    rw [e, List.getD_eq_getElem?_getD, List.getElem?_eq_getElem hi] <;> rfl
  have hS : ((s.heap.push (set0 w)).push { cls := .type "list_iterator", data := .fields #[.ref l, .int 0 0] }).get? s.heap.objs.size = some { cls := .type "set", dict := none, data := .set #[] 0 (.fresh 0 0 (!w.params.followText "set-order")) } := Heap.get?_push_of_some _ (Heap.get?_push_size _ rfl)
  refine set_update_ints ((Walks.list (A := A'.in1) (by simpa using hA) _ l hneI items).toS) s.heap.objs.size hSf ns hisz hb hval (items.size - 0) 0 _ (by omega) (Nat.zero_le _)
    ⟨⟨_, Heap.get?_push_size _ rfl, rfl, rfl⟩, (hl1.push _)⟩ ⟨0, Nat.le_refl 0, setR_new_at hS⟩ fun s' c' hm hc' hS' => hR _ ?_
  obtain ⟨h', g2, d', tk', os'⟩ := s'
  have eg : g2 = s.gens := hm.gens
  have ed : d' = s.drawn := hm.drawn
  have eo : os' = s.os := hm.os
  subst eg
  subst ed
  subst eo
  refine ⟨h', tk', c', rfl, hS', fun b o e => ?_⟩
  have hb0 : b < s.heap.objs.size := Heap.lt_size e
  refine hm.heap b o ?_ (Heap.get?_push_of_some _ (Heap.get?_push_of_some _ e))
  simp only [List.mem_cons, List.mem_singleton, List.not_mem_nil, or_false, not_or]
  exact ⟨Nat.ne_of_lt hb0, by rw [Heap.size_push]; exact Nat.ne_of_lt (Nat.lt_succ_of_lt hb0)⟩
end



/-- each once -/
def nd : List Int → List Int
  | [] => []
  | x :: r => if x ∈ r then nd r else x :: nd r
theorem mem_nd {k : Int} : ∀ {l : List Int}, k ∈ nd l ↔ k ∈ l
  | [] => Iff.rfl
  | x :: r => by
    unfold nd
    by_cases h : x ∈ r
    · rw [if_pos h, mem_nd (l := r)]
      refine ⟨fun z => List.mem_cons_of_mem _ z, fun z => ?_⟩
      rcases List.mem_cons.mp z with e | e
      · rw [e]; exact h
      · exact e
    · rw [if_neg h, List.mem_cons, List.mem_cons, mem_nd (l := r)]
theorem nodup_nd : ∀ (l : List Int), (nd l).Nodup
  | [] => List.nodup_nil
  | x :: r => by
    unfold nd
    by_cases h : x ∈ r
    · rw [if_pos h]; exact nodup_nd r
    · rw [if_neg h]; exact List.nodup_cons.mpr ⟨fun z => h (mem_nd.mp z), nodup_nd r⟩
theorem nd_le : ∀ (l : List Int), (nd l).length ≤ l.length
  | [] => Nat.le_refl _
  | x :: r => by
    have q := nd_le r
    unfold nd
    by_cases h : x ∈ r
    · rw [if_pos h, List.length_cons]; omega
    · rw [if_neg h, List.length_cons, List.length_cons]; omega
theorem nd_full : ∀ {l : List Int}, (nd l).length = l.length → l.Nodup
  | [], _ => List.nodup_nil
  | x :: r, h => by
    have q := nd_le r
    unfold nd at h
    by_cases hx : x ∈ r
    · rw [if_pos hx, List.length_cons] at h; omega
    · rw [if_neg hx, List.length_cons, List.length_cons] at h
      exact List.nodup_cons.mpr ⟨hx, nd_full (by omega)⟩
theorem nd_nodup : ∀ {l : List Int}, l.Nodup → (nd l).length = l.length
  | [], _ => rfl
  | x :: r, h => by
    obtain ⟨h1, h2⟩ := List.nodup_cons.mp h
    unfold nd
    rw [if_neg h1, List.length_cons, List.length_cons, nd_nodup h2]
theorem len_sub {α : Type} [BEq α] [LawfulBEq α] : ∀ {l m : List α}, l.Nodup → (∀ x ∈ l, x ∈ m) → l.length ≤ m.length
  | [], _, _, _ => Nat.zero_le _
  | x :: l, m, hn, hs => by
    obtain ⟨h1, h2⟩ := List.nodup_cons.mp hn
    have hx := hs x List.mem_cons_self
    have q := len_sub (m := m.erase x) h2 fun y hy => by
      have ne : y ≠ x := fun e => h1 (e ▸ hy)
      exact (List.mem_erase_of_ne ne).mpr (hs y (List.mem_cons_of_mem _ hy))
    rw [List.length_erase_of_mem hx] at q
    have p : 0 < m.length := List.length_pos_of_mem hx
    rw [List.length_cons]
    omega
theorem setR_count {w : World} {h : Heap} {a : Addr} {ns : List Int} {c : Nat} (R : SetR w h a (fun j => decide (j ∈ ns)) c) : c = (nd ns).length := by
  obtain ⟨o, es, ep, t, ho, hex, hdt, g, dn, hm, hb, hf, hn, hr, hl⟩ := R
  have hm' : ∀ k, k ∈ ns ↔ k ∈ es.toList.map keyOf := fun k => by
    have q := hm k
    rw [decide_eq_true_eq] at q
    exact q
  have hk : (es.toList.map keyOf).length = c := by rw [List.length_map, Array.length_toList]; exact hn
  have a1 := len_sub (nodup_nd ns) fun x hx => (hm' x).mp (mem_nd.mp hx)
  have a2 := len_sub dn fun x hx => mem_nd.mpr ((hm' x).mpr hx)
  omega
section
open PyProof.Rows
variable {X : Cx}
/-- x is a list or a tuple of these ints -/
def SqI (K : PySem.W.Frag) (H : Hp) (x : V) (ns : List Int) : Prop := ∃ a, x = .ref a ∧ (SqL K H a (ns.map V.int) ∨ SqT K H a (ns.map V.int))
theorem set_seqI {pins : List (Addr × Obj)} {σ : L2.St} {H : Hp} {s : Shared} {x : V} {u : Value} {ns : List Int} {Q : Value → Shared → Prop} (hc : X.calm = true) (I : Inv X pins σ H s) (r : RelV x u) (hq : SqI X.K H x ns) (hl : ns.length ≤ 1000)
    (h : ∀ (h' : Heap) (tk c : Nat), SetR X.w h' s.heap.objs.size (fun j => decide (j ∈ ns)) c → (∀ b o, s.heap.get? b = some o → h'.get? b = some o) → Q (.ref s.heap.objs.size) { s with heap := h', toks := tk }) :
    wpAny (model X.prog X.w) X.A (call (.type "set") [u]) Q X.xe s := by
  obtain ⟨a, rfl, hq⟩ := hq
  cases r
  rcases hq with hq | hq
  · obtain ⟨its, rv, pl, hz⟩ := I.list hq
    exact set_listI ns (I.ok.hd hc) pl.isList (by simpa using rv.ints) (by unfold scanBound; omega) h
  · obtain ⟨its, rv, pt, hz⟩ := I.tuple hq
    exact call_set_tupI ns (I.ok.hd hc) (show s.heap.IsTuple a its.toArray from pt) (ints_of_vals rv) (by unfold scanBound; omega) fun h' tk c R _ k => h h' tk c R k
variable {a : Expr} {ta : TE} {p p2 q pos : Pos}
def tLenSetI2 (K : PySem.W.Frag) (ta : TE) : TE := fun σ H Q => ta σ H fun x H1 => ∃ ns, SqI K H1 x ns ∧ ns.length ≤ 1000 ∧ Q (.int (nd ns).length) H1
theorem pe_lenSetI2 (hc : X.calm = true) (hg : Gl X "len") (hm : X.mg "len" = none) (hg2 : Gl X "set") (hm2 : X.mg "set" = none) (ha : PE X a ta)
    (na : starEach [a] X.env = (false, eval a X.env) :: starEach [] X.env := by rfl) : PE X (.Call (.Name "len" p) [.Call (.Name "set" p2) [a] [] q] [] pos) (tLenSetI2 X.K ta) := by
  refine ⟨fun pins s σ H Q I h => ?_⟩
  refine Call_ (ld_blt I hg hm PySem.boot_len ?_)
  refine PyProof.Rows.callWith_builtin1 (PyProof.Rows.args_cons ?_ rfl) rfl rfl
  refine Call_ (ld_blt I hg2 hm2 PyProof.Rows.boot_set ?_)
  refine PyProof.Rows.callWith_type1 (PyProof.Rows.args_cons (thn (ha.run pins s σ H _ I h) fun v s1 ⟨x, H1, I1, r1, q1⟩ => PyProof.Rows.args_nil ?_) na) na rfl
  obtain ⟨ns, hq, hl, q1⟩ := q1
  refine set_seqI hc I1 r1 hq hl fun h' tk c R hk => ?_
  refine PyProof.Rows.args_nil ?_
  have ec := setR_count R
  have hle := nd_le ns
  obtain ⟨o, es, ep, t, ho, hex, hd, _, _, _, _, hf, hn, _⟩ := R
  have I2 : Inv X pins σ H1 { s1 with heap := h', toks := tk } := I1.kept hk
  have hz : es.size = (nd ns).length := hn.trans ec
  refine call_len_set ho hex hd hf (by omega) ⟨.int (nd ns).length, H1, I2.tok _, ⟨_, by rw [hz]⟩, q1⟩
def tSortSetI2 (K : PySem.W.Frag) (ta : TE) : TE := fun σ H Q => ta σ H fun x H1 => ∃ ns, SqI K H1 x ns ∧ ns.length < 64 ∧
  ∀ (ms : List Int) (p : Addr), ms.Pairwise (· < ·) → (∀ k : Int, k ∈ ms ↔ k ∈ ns) → H1 p = none → Q (.ref p) (upd H1 p (.lst (ms.map V.int)))
theorem pe_sortSetI2 (hc : X.calm = true) (hg : Gl X "sorted") (hm : X.mg "sorted" = none) (hg2 : Gl X "set") (hm2 : X.mg "set" = none) (ha : PE X a ta)
    (na : starEach [a] X.env = (false, eval a X.env) :: starEach [] X.env := by rfl) : PE X (.Call (.Name "sorted" p) [.Call (.Name "set" p2) [a] [] q] [] pos) (tSortSetI2 X.K ta) := by
  refine ⟨fun pins s σ H Q I h => ?_⟩
  refine Call_ (ld_blt I hg hm PyProof.Rows.boot_sorted ?_)
  refine PyProof.Rows.callWith_builtin1 (PyProof.Rows.args_cons ?_ rfl) rfl rfl
  refine Call_ (ld_blt I hg2 hm2 PyProof.Rows.boot_set ?_)
  refine PyProof.Rows.callWith_type1 (PyProof.Rows.args_cons (thn (ha.run pins s σ H _ I h) fun v s1 ⟨x, H1, I1, r1, q1⟩ => PyProof.Rows.args_nil ?_) na) na rfl
  obtain ⟨ns, hq, hl, q1⟩ := q1
  refine set_seqI hc I1 r1 hq (by omega) fun h' tk c R hk => ?_
  refine PyProof.Rows.args_nil ?_
  have ec := setR_count R
  have hle := nd_le ns
  have I2 : Inv X pins σ H1 { s1 with heap := h', toks := tk } := I1.kept hk
  refine sorted_set (s := { s1 with heap := h', toks := tk }) R (I1.ok.hd hc) (by omega) fun s' p out c2 ms k g o hp hg hi hs hm hl2 => ?_
  have hlen : (ms.map V.int).length ≤ sizeLine := by rw [List.length_map, hl2, sizeLine_eq]; omega
  have hn : H1 p = none := I2.hok.fresh hp
  have J : Inv X pins σ (upd H1 p (.lst (ms.map V.int))) { ({ s1 with heap := h', toks := tk } : Shared) with heap := s'.heap, gens := s'.gens, drawn := s'.drawn, toks := s'.toks } :=
    I2.call (ch := []) (Un.laid k hp hn) (I2.hok.laid k hp ⟨hlen, out.toList, c2, vals_of_ints hi, hg⟩) (by rw [g]; exact I2.bare) (fun _ z => nomatch z)
  have e : s' = { ({ s1 with heap := h', toks := tk } : Shared) with heap := s'.heap, gens := s'.gens, drawn := s'.drawn, toks := s'.toks } := by
    cases s'
    cases s1
    cases o
    rfl
  rw [e]
  exact ⟨.ref p, _, J, rfl, q1 ms p hs (fun k => by rw [hm k, decide_eq_true_eq]) hn⟩
end



abbrev PW : Program := PySem.Challenge.pw_lineorigins_k09_versions
def top (i : Nat) : Stmt := PySem.Challenge.pw_lineorigins_k09_versions.main.body.getD i (.Pass ⟨0, 0, 0, 0⟩)
abbrev sIsSign : Stmt := top 22
abbrev nIsSign : List Str := ["sign"]
theorem scIsSign : FnScope nIsSign ["sign"] (defScope sIsSign) := ⟨rfl, rfl, rfl, by decide +kernel, rfl, by decide +kernel, by decide +kernel⟩
abbrev sIsLine : Stmt := top 23
abbrev nIsLine : List Str := ["value", "sign"]
theorem scIsLine : FnScope nIsLine ["value"] (defScope sIsLine) := ⟨rfl, rfl, rfl, by decide +kernel, rfl, by decide +kernel, by decide +kernel⟩
abbrev sIsText : Stmt := top 24
abbrev nIsText : List Str := ["value", "line"]
theorem scIsText : FnScope nIsText ["value"] (defScope sIsText) := ⟨rfl, rfl, rfl, by decide +kernel, rfl, by decide +kernel, by decide +kernel⟩
abbrev sIsInteger : Stmt := top 26
abbrev nIsInteger : List Str := ["value"]
theorem scIsInteger : FnScope nIsInteger ["value"] (defScope sIsInteger) := ⟨rfl, rfl, rfl, by decide +kernel, rfl, by decide +kernel, by decide +kernel⟩
abbrev sIsCount : Stmt := top 27
abbrev nIsCount : List Str := ["value"]
theorem scIsCount : FnScope nIsCount ["value"] (defScope sIsCount) := ⟨rfl, rfl, rfl, by decide +kernel, rfl, by decide +kernel, by decide +kernel⟩
abbrev sIsName : Stmt := top 31
abbrev nIsName : List Str := ["value", "sign"]
theorem scIsName : FnScope nIsName ["value"] (defScope sIsName) := ⟨rfl, rfl, rfl, by decide +kernel, rfl, by decide +kernel, by decide +kernel⟩
abbrev sAreParents : Stmt := top 32
abbrev nAreParents : List Str := ["value", "number"]
theorem scAreParents : FnScope nAreParents ["value"] (defScope sAreParents) := ⟨rfl, rfl, rfl, by decide +kernel, rfl, by decide +kernel, by decide +kernel⟩
abbrev sVersionInit : Stmt := inClass (top 33) 0
abbrev nVersionInit : List Str := ["self", "lines", "parents", "author"]
theorem scVersionInit : FnScope nVersionInit ["self", "lines", "parents", "author"] (defScope sVersionInit) := ⟨rfl, rfl, rfl, by decide +kernel, rfl, by decide +kernel, by decide +kernel⟩
abbrev sVersionLines : Stmt := inClass (top 33) 1
abbrev nVersionLines : List Str := ["self"]
theorem scVersionLines : FnScope nVersionLines ["self"] (defScope sVersionLines) := ⟨rfl, rfl, rfl, by decide +kernel, rfl, by decide +kernel, by decide +kernel⟩
abbrev sVersionParents : Stmt := inClass (top 33) 2
abbrev nVersionParents : List Str := ["self"]
theorem scVersionParents : FnScope nVersionParents ["self"] (defScope sVersionParents) := ⟨rfl, rfl, rfl, by decide +kernel, rfl, by decide +kernel, by decide +kernel⟩
abbrev sVersionAuthor : Stmt := inClass (top 33) 3
abbrev nVersionAuthor : List Str := ["self"]
theorem scVersionAuthor : FnScope nVersionAuthor ["self"] (defScope sVersionAuthor) := ⟨rfl, rfl, rfl, by decide +kernel, rfl, by decide +kernel, by decide +kernel⟩
abbrev sVersionLen : Stmt := inClass (top 33) 5
abbrev nVersionLen : List Str := ["self"]
theorem scVersionLen : FnScope nVersionLen ["self"] (defScope sVersionLen) := ⟨rfl, rfl, rfl, by decide +kernel, rfl, by decide +kernel, by decide +kernel⟩
abbrev sVersionContains : Stmt := inClass (top 33) 6
abbrev nVersionContains : List Str := ["self", "line"]
theorem scVersionContains : FnScope nVersionContains ["self", "line"] (defScope sVersionContains) := ⟨rfl, rfl, rfl, by decide +kernel, rfl, by decide +kernel, by decide +kernel⟩
abbrev sVersionGetitem : Stmt := inClass (top 33) 7
abbrev nVersionGetitem : List Str := ["self", "index"]
theorem scVersionGetitem : FnScope nVersionGetitem ["self", "index"] (defScope sVersionGetitem) := ⟨rfl, rfl, rfl, by decide +kernel, rfl, by decide +kernel, by decide +kernel⟩
abbrev sVersionEq : Stmt := inClass (top 33) 8
abbrev nVersionEq : List Str := ["self", "other"]
theorem scVersionEq : FnScope nVersionEq ["self", "other"] (defScope sVersionEq) := ⟨rfl, rfl, rfl, by decide +kernel, rfl, by decide +kernel, by decide +kernel⟩
abbrev sLawPool : Stmt := top 35
abbrev nLawPool : List Str := ["_law_script", "_law_numbers", "_law_seed", "_law_cell"]
theorem scLawPool : FnScope nLawPool ["_law_script"] (defScope sLawPool) := ⟨rfl, rfl, rfl, by decide +kernel, rfl, by decide +kernel, by decide +kernel⟩
abbrev sLawMixed : Stmt := top 36
abbrev nLawMixed : List Str := ["_law_number", "_law_count", "_law_many"]
theorem scLawMixed : FnScope nLawMixed ["_law_number", "_law_count", "_law_many"] (defScope sLawMixed) := ⟨rfl, rfl, rfl, by decide +kernel, rfl, by decide +kernel, by decide +kernel⟩
abbrev sLawDraw : Stmt := top 37
abbrev nLawDraw : List Str := ["_law_pool_here", "_law_many", "_law_at", "_law_numbers", "_law_cell"]
theorem scLawDraw : FnScope nLawDraw ["_law_pool_here", "_law_many"] (defScope sLawDraw) := ⟨rfl, rfl, rfl, by decide +kernel, rfl, by decide +kernel, by decide +kernel⟩
abbrev sLawExact : Stmt := top 38
abbrev nLawExact : List Str := ["_law_found", "_law_due"]
theorem scLawExact : FnScope nLawExact ["_law_found", "_law_due"] (defScope sLawExact) := ⟨rfl, rfl, rfl, by decide +kernel, rfl, by decide +kernel, by decide +kernel⟩
abbrev sLawKind : Stmt := top 39
abbrev nLawKind : List Str := ["_law_error", "_law_kinds", "_law_words"]
theorem scLawKind : FnScope nLawKind ["_law_error"] (defScope sLawKind) := ⟨rfl, rfl, rfl, by decide +kernel, rfl, by decide +kernel, by decide +kernel⟩
abbrev sLawCaught : Stmt := top 40
abbrev nLawCaught : List Str := ["_law_call", "_law_caught_here", "e", "_law_word"]
theorem scLawCaught : FnScope nLawCaught ["_law_call"] (defScope sLawCaught) := ⟨rfl, rfl, rfl, by decide +kernel, rfl, by decide +kernel, by decide +kernel⟩
abbrev sLawOwnLines : Stmt := top 41
abbrev nLawOwnLines : List Str := ["_law_pool_here", "_law_words", "_law_k"]
theorem scLawOwnLines : FnScope nLawOwnLines ["_law_pool_here"] (defScope sLawOwnLines) := ⟨rfl, rfl, rfl, by decide +kernel, rfl, by decide +kernel, by decide +kernel⟩
abbrev sLawParents : Stmt := top 42
abbrev nLawParents : List Str := ["_law_pool_here", "_law_found", "_law_k", "_law_number"]
theorem scLawParents : FnScope nLawParents ["_law_pool_here"] (defScope sLawParents) := ⟨rfl, rfl, rfl, by decide +kernel, rfl, by decide +kernel, by decide +kernel⟩
abbrev sLawRight : Stmt := top 43
abbrev nLawRight : List Str := ["_law_version", "_law_lines", "_law_elders", "_law_name", "_law_odd", "_law_parent", "_law_k", "_law_line"]
theorem scLawRight : FnScope nLawRight ["_law_version", "_law_lines", "_law_elders", "_law_name"] (defScope sLawRight) := ⟨rfl, rfl, rfl, by decide +kernel, rfl, by decide +kernel, by decide +kernel⟩
abbrev sLawRefused : Stmt := top 44
abbrev nLawRefused : List Str := ["_law_lines", "_law_elders", "_law_name", "_law_odd"]
theorem scLawRefused : FnScope nLawRefused ["_law_lines", "_law_elders", "_law_name"] (defScope sLawRefused) := ⟨rfl, rfl, rfl, by decide +kernel, rfl, by decide +kernel, by decide +kernel⟩
abbrev sLaw : Stmt := top 45
abbrev nLaw : List Str := ["_law_script", "_law_pool_here", "_law_k", "_law_lines", "_law_elders", "_law_name", "_law_given", "_law_named", "_law_version", "_law_others"]
theorem scLaw : FnScope nLaw ["_law_script"] (defScope sLaw) := ⟨rfl, rfl, rfl, by decide +kernel, rfl, by decide +kernel, by decide +kernel⟩
structure Adr where
  k_Version : Addr
  k_LineError : Addr
  k_InvalidNumber : Addr
  k_InvalidText : Addr
  k_InvalidName : Addr
  k_InvalidParents : Addr
  k_InvalidVersion : Addr
  k_InvalidHistory : Addr
  k_InvalidLayout : Addr
  k_InvalidPrices : Addr
  k_InvalidTelling : Addr
  k_InvalidDeeds : Addr
  k_InvalidLine : Addr
  k_InvalidRanges : Addr
  k_InvalidCommand : Addr
  k_ParseError : Addr
  k_TooMany : Addr
  k_NothingToUndo : Addr
  i_InvalidNumber : Addr
  i_InvalidText : Addr
  i_InvalidName : Addr
  i_InvalidParents : Addr
  a_IsSign : Addr
  d_IsSign : FuncData
  a_IsLine : Addr
  d_IsLine : FuncData
  a_IsText : Addr
  d_IsText : FuncData
  a_IsInteger : Addr
  d_IsInteger : FuncData
  a_IsCount : Addr
  d_IsCount : FuncData
  a_IsName : Addr
  d_IsName : FuncData
  a_AreParents : Addr
  d_AreParents : FuncData
  a_VersionInit : Addr
  d_VersionInit : FuncData
  u0_VersionInit : Addr
  a_VersionLines : Addr
  d_VersionLines : FuncData
  p_VersionLines : Addr
  a_VersionParents : Addr
  d_VersionParents : FuncData
  p_VersionParents : Addr
  a_VersionAuthor : Addr
  d_VersionAuthor : FuncData
  p_VersionAuthor : Addr
  a_VersionLen : Addr
  d_VersionLen : FuncData
  a_VersionContains : Addr
  d_VersionContains : FuncData
  a_VersionGetitem : Addr
  d_VersionGetitem : FuncData
  a_VersionEq : Addr
  d_VersionEq : FuncData
  a_LawPool : Addr
  d_LawPool : FuncData
  a_LawMixed : Addr
  d_LawMixed : FuncData
  a_LawDraw : Addr
  d_LawDraw : FuncData
  a_LawExact : Addr
  d_LawExact : FuncData
  a_LawKind : Addr
  d_LawKind : FuncData
  a_LawCaught : Addr
  d_LawCaught : FuncData
  a_LawOwnLines : Addr
  d_LawOwnLines : FuncData
  a_LawParents : Addr
  d_LawParents : FuncData
  a_LawRight : Addr
  d_LawRight : FuncData
  c_LawRight : Addr
  t_LawRight : Addr
  a_LawRefused : Addr
  d_LawRefused : FuncData
  c_LawRefused : Addr
  t_LawRefused : Addr
  a_Law : Addr
  d_Law : FuncData
def errAt (A : Adr) : Nat → Addr
  | 0 => A.k_InvalidNumber
  | 1 => A.k_InvalidText
  | 2 => A.k_InvalidName
  | 3 => A.k_InvalidParents
  | 4 => A.k_InvalidVersion
  | 5 => A.k_InvalidHistory
  | 6 => A.k_InvalidLayout
  | 7 => A.k_InvalidPrices
  | 8 => A.k_InvalidTelling
  | 9 => A.k_InvalidDeeds
  | 10 => A.k_InvalidLine
  | 11 => A.k_InvalidRanges
  | 12 => A.k_InvalidCommand
  | 13 => A.k_ParseError
  | 14 => A.k_TooMany
  | 15 => A.k_NothingToUndo
  | _ => 0
structure Txt (K : PySem.W.Frag) (mg : Str → Option Value) (A : Adr) : Prop where
  k_Version : mg "Version" = some (.ref A.k_Version)
  t_Version : TyF K A.k_Version
  mk_Version : Mk K A.k_Version A.a_VersionInit
  n_Version_kept_lines : NoAttr K A.k_Version "kept_lines"
  n_Version_kept_parents : NoAttr K A.k_Version "kept_parents"
  n_Version_kept_author : NoAttr K A.k_Version "kept_author"
  q_Version_int : PySem.W.kitOne K (.ref A.k_Version) (.type "int") = some false
  q_Version_bool : PySem.W.kitOne K (.ref A.k_Version) (.type "bool") = some false
  q_int_Version : PySem.W.kitOne K (.type "int") (.ref A.k_Version) = some false
  q_bool_Version : PySem.W.kitOne K (.type "bool") (.ref A.k_Version) = some false
  q_str_Version : PySem.W.kitOne K (.type "str") (.ref A.k_Version) = some false
  q_list_Version : PySem.W.kitOne K (.type "list") (.ref A.k_Version) = some false
  q_tuple_Version : PySem.W.kitOne K (.type "tuple") (.ref A.k_Version) = some false
  q_dict_Version : PySem.W.kitOne K (.type "dict") (.ref A.k_Version) = some false
  q_NoneType_Version : PySem.W.kitOne K (.type "NoneType") (.ref A.k_Version) = some false
  cr_Version : ClX.CRead K A.k_Version (.type "type")
  w_Version_int : PySem.W.notFirst K A.k_Version (.type "int") = true
  w_Version_bool : PySem.W.notFirst K A.k_Version (.type "bool") = true
  w_Version_str : PySem.W.notFirst K A.k_Version (.type "str") = true
  w_Version_list : PySem.W.notFirst K A.k_Version (.type "list") = true
  w_Version_tuple : PySem.W.notFirst K A.k_Version (.type "tuple") = true
  w_Version_dict : PySem.W.notFirst K A.k_Version (.type "dict") = true
  w_Version_NoneType : PySem.W.notFirst K A.k_Version (.type "NoneType") = true
  k_LineError : mg "LineError" = some (.ref A.k_LineError)
  k_InvalidNumber : mg "InvalidNumber" = some (.ref A.k_InvalidNumber)
  k_InvalidText : mg "InvalidText" = some (.ref A.k_InvalidText)
  k_InvalidName : mg "InvalidName" = some (.ref A.k_InvalidName)
  k_InvalidParents : mg "InvalidParents" = some (.ref A.k_InvalidParents)
  k_InvalidVersion : mg "InvalidVersion" = some (.ref A.k_InvalidVersion)
  k_InvalidHistory : mg "InvalidHistory" = some (.ref A.k_InvalidHistory)
  k_InvalidLayout : mg "InvalidLayout" = some (.ref A.k_InvalidLayout)
  k_InvalidPrices : mg "InvalidPrices" = some (.ref A.k_InvalidPrices)
  k_InvalidTelling : mg "InvalidTelling" = some (.ref A.k_InvalidTelling)
  k_InvalidDeeds : mg "InvalidDeeds" = some (.ref A.k_InvalidDeeds)
  k_InvalidLine : mg "InvalidLine" = some (.ref A.k_InvalidLine)
  k_InvalidRanges : mg "InvalidRanges" = some (.ref A.k_InvalidRanges)
  k_InvalidCommand : mg "InvalidCommand" = some (.ref A.k_InvalidCommand)
  k_ParseError : mg "ParseError" = some (.ref A.k_ParseError)
  k_TooMany : mg "TooMany" = some (.ref A.k_TooMany)
  k_NothingToUndo : mg "NothingToUndo" = some (.ref A.k_NothingToUndo)
  x_InvalidNumber : XTxt PW K mg "InvalidNumber" A.k_InvalidNumber A.i_InvalidNumber
  y_InvalidNumber : KindAt K (errAt A) A.k_LineError A.k_TooMany A.k_NothingToUndo A.k_InvalidNumber 0
  x_InvalidText : XTxt PW K mg "InvalidText" A.k_InvalidText A.i_InvalidText
  y_InvalidText : KindAt K (errAt A) A.k_LineError A.k_TooMany A.k_NothingToUndo A.k_InvalidText 1
  x_InvalidName : XTxt PW K mg "InvalidName" A.k_InvalidName A.i_InvalidName
  y_InvalidName : KindAt K (errAt A) A.k_LineError A.k_TooMany A.k_NothingToUndo A.k_InvalidName 2
  x_InvalidParents : XTxt PW K mg "InvalidParents" A.k_InvalidParents A.i_InvalidParents
  y_InvalidParents : KindAt K (errAt A) A.k_LineError A.k_TooMany A.k_NothingToUndo A.k_InvalidParents 3
  f_IsSign : Fun K "is_sign" "is_sign" sIsSign A.a_IsSign A.d_IsSign
  m_IsSign : mg "is_sign" = some (.ref A.a_IsSign)
  b_IsSign : Binds K A.d_IsSign ["sign"] []
  f_IsLine : Fun K "is_line" "is_line" sIsLine A.a_IsLine A.d_IsLine
  m_IsLine : mg "is_line" = some (.ref A.a_IsLine)
  b_IsLine : Binds K A.d_IsLine ["value"] []
  f_IsText : Fun K "is_text" "is_text" sIsText A.a_IsText A.d_IsText
  m_IsText : mg "is_text" = some (.ref A.a_IsText)
  b_IsText : Binds K A.d_IsText ["value"] []
  f_IsInteger : Fun K "is_integer" "is_integer" sIsInteger A.a_IsInteger A.d_IsInteger
  m_IsInteger : mg "is_integer" = some (.ref A.a_IsInteger)
  b_IsInteger : Binds K A.d_IsInteger ["value"] []
  f_IsCount : Fun K "is_count" "is_count" sIsCount A.a_IsCount A.d_IsCount
  m_IsCount : mg "is_count" = some (.ref A.a_IsCount)
  b_IsCount : Binds K A.d_IsCount ["value"] []
  f_IsName : Fun K "is_name" "is_name" sIsName A.a_IsName A.d_IsName
  m_IsName : mg "is_name" = some (.ref A.a_IsName)
  b_IsName : Binds K A.d_IsName ["value"] []
  f_AreParents : Fun K "are_parents" "are_parents" sAreParents A.a_AreParents A.d_AreParents
  m_AreParents : mg "are_parents" = some (.ref A.a_AreParents)
  b_AreParents : Binds K A.d_AreParents ["value"] []
  f_VersionInit : FunD K "__init__" "Version.__init__" (defArgs sVersionInit) (defBody sVersionInit) (defScope sVersionInit) [] [("parents", .ref A.u0_VersionInit), ("author", .str "anon")] A.a_VersionInit A.d_VersionInit
  ut0_VersionInit : ∀ H, SqT K H A.u0_VersionInit []
  uk0_VersionInit : ∃ o, K.lookup A.u0_VersionInit = some o ∧ o.cls = .type "tuple"
  h_VersionInit : Meth K A.k_Version "__init__" A.a_VersionInit
  kb0_VersionInit : ∃ g, KBn K A.d_VersionInit ["self", "lines", "parents", "author"] 2 ["parents", "author"] g (fun vs zs => pick [0, 1, 2, 3] (vs ++ [] ++ zs))
  kb1_VersionInit : ∃ g, KBn K A.d_VersionInit ["self", "lines", "parents", "author"] 2 ["author"] g (fun vs zs => pick [0, 1, 2, 3] (vs ++ [.ref A.u0_VersionInit] ++ zs))
  kb2_VersionInit : ∃ g, KBn K A.d_VersionInit ["self", "lines", "parents", "author"] 2 [] g (fun vs zs => pick [0, 1, 2, 3] (vs ++ [.ref A.u0_VersionInit, .str "anon"] ++ zs))
  f_VersionLines : Fun K "lines" "Version.lines" sVersionLines A.a_VersionLines A.d_VersionLines
  h_VersionLines : PropOf K A.k_Version "lines" A.p_VersionLines A.a_VersionLines
  b_VersionLines : Binds K A.d_VersionLines ["self"] []
  f_VersionParents : Fun K "parents" "Version.parents" sVersionParents A.a_VersionParents A.d_VersionParents
  h_VersionParents : PropOf K A.k_Version "parents" A.p_VersionParents A.a_VersionParents
  b_VersionParents : Binds K A.d_VersionParents ["self"] []
  f_VersionAuthor : Fun K "author" "Version.author" sVersionAuthor A.a_VersionAuthor A.d_VersionAuthor
  h_VersionAuthor : PropOf K A.k_Version "author" A.p_VersionAuthor A.a_VersionAuthor
  b_VersionAuthor : Binds K A.d_VersionAuthor ["self"] []
  f_VersionLen : Fun K "__len__" "Version.__len__" sVersionLen A.a_VersionLen A.d_VersionLen
  h_VersionLen : Meth K A.k_Version "__len__" A.a_VersionLen
  o_VersionLen : UnF K A.k_Version A.a_VersionLen "__len__"
  b_VersionLen : Binds K A.d_VersionLen ["self"] []
  f_VersionContains : Fun K "__contains__" "Version.__contains__" sVersionContains A.a_VersionContains A.d_VersionContains
  h_VersionContains : Meth K A.k_Version "__contains__" A.a_VersionContains
  o_VersionContains : UnF K A.k_Version A.a_VersionContains "__contains__"
  b_VersionContains : Binds K A.d_VersionContains ["self", "line"] []
  f_VersionGetitem : Fun K "__getitem__" "Version.__getitem__" sVersionGetitem A.a_VersionGetitem A.d_VersionGetitem
  h_VersionGetitem : Meth K A.k_Version "__getitem__" A.a_VersionGetitem
  o_VersionGetitem : UnF K A.k_Version A.a_VersionGetitem "__getitem__"
  fi_VersionGetitem : PySem.W.fnIn K A.a_VersionGetitem = true
  b_VersionGetitem : Binds K A.d_VersionGetitem ["self", "index"] []
  f_VersionEq : Fun K "__eq__" "Version.__eq__" sVersionEq A.a_VersionEq A.d_VersionEq
  h_VersionEq : Meth K A.k_Version "__eq__" A.a_VersionEq
  w_VersionEq : NeF K A.k_Version A.a_VersionEq
  o_VersionEq : CmF K A.k_Version A.a_VersionEq .Eq
  r_VersionEq : CmI K A.k_Version A.a_VersionEq .Eq
  b_VersionEq : Binds K A.d_VersionEq ["self", "other"] []
  f_LawPool : Fun K "_law_pool" "_law_pool" sLawPool A.a_LawPool A.d_LawPool
  m_LawPool : mg "_law_pool" = some (.ref A.a_LawPool)
  b_LawPool : Binds K A.d_LawPool ["_law_script"] []
  f_LawMixed : Fun K "_law_mixed" "_law_mixed" sLawMixed A.a_LawMixed A.d_LawMixed
  m_LawMixed : mg "_law_mixed" = some (.ref A.a_LawMixed)
  b_LawMixed : Binds K A.d_LawMixed ["_law_number", "_law_count", "_law_many"] []
  f_LawDraw : Fun K "_law_draw" "_law_draw" sLawDraw A.a_LawDraw A.d_LawDraw
  m_LawDraw : mg "_law_draw" = some (.ref A.a_LawDraw)
  b_LawDraw : Binds K A.d_LawDraw ["_law_pool_here", "_law_many"] []
  f_LawExact : Fun K "_law_exact" "_law_exact" sLawExact A.a_LawExact A.d_LawExact
  m_LawExact : mg "_law_exact" = some (.ref A.a_LawExact)
  b_LawExact : Binds K A.d_LawExact ["_law_found", "_law_due"] []
  f_LawKind : Fun K "_law_kind" "_law_kind" sLawKind A.a_LawKind A.d_LawKind
  m_LawKind : mg "_law_kind" = some (.ref A.a_LawKind)
  b_LawKind : Binds K A.d_LawKind ["_law_error"] []
  f_LawCaught : Fun K "_law_caught" "_law_caught" sLawCaught A.a_LawCaught A.d_LawCaught
  m_LawCaught : mg "_law_caught" = some (.ref A.a_LawCaught)
  b_LawCaught : Binds K A.d_LawCaught ["_law_call"] []
  f_LawOwnLines : Fun K "_law_own_lines" "_law_own_lines" sLawOwnLines A.a_LawOwnLines A.d_LawOwnLines
  m_LawOwnLines : mg "_law_own_lines" = some (.ref A.a_LawOwnLines)
  b_LawOwnLines : Binds K A.d_LawOwnLines ["_law_pool_here"] []
  f_LawParents : Fun K "_law_parents" "_law_parents" sLawParents A.a_LawParents A.d_LawParents
  m_LawParents : mg "_law_parents" = some (.ref A.a_LawParents)
  b_LawParents : Binds K A.d_LawParents ["_law_pool_here"] []
  fc_LawRight : FunC K "_law_right" sLawRight A.a_LawRight A.d_LawRight A.c_LawRight
  tb_LawRight : PySem.W.tabIn K "_law_right" = some (A.c_LawRight, A.t_LawRight)
  nt_LawRight : K.lookup A.t_LawRight = none
  f_LawRight : Fun K "_law_right" "_law_right" sLawRight A.a_LawRight A.d_LawRight
  m_LawRight : mg "_law_right" = some (.ref A.a_LawRight)
  b_LawRight : Binds K A.d_LawRight ["_law_version", "_law_lines", "_law_elders", "_law_name"] []
  fc_LawRefused : FunC K "_law_refused" sLawRefused A.a_LawRefused A.d_LawRefused A.c_LawRefused
  tb_LawRefused : PySem.W.tabIn K "_law_refused" = some (A.c_LawRefused, A.t_LawRefused)
  nt_LawRefused : K.lookup A.t_LawRefused = none
  dt_LawRight_LawRefused : A.t_LawRight ≠ A.t_LawRefused
  f_LawRefused : Fun K "_law_refused" "_law_refused" sLawRefused A.a_LawRefused A.d_LawRefused
  m_LawRefused : mg "_law_refused" = some (.ref A.a_LawRefused)
  b_LawRefused : Binds K A.d_LawRefused ["_law_lines", "_law_elders", "_law_name"] []
  f_Law : Fun K "law" "law" sLaw A.a_Law A.d_Law
  m_Law : mg "law" = some (.ref A.a_Law)
  b_Law : Binds K A.d_Law ["_law_script"] []
  z_isinstance : mg "isinstance" = none
  z_str : mg "str" = none
  c_MOST_SIGNS : ∃ t, mg "MOST_SIGNS" = some (.int 40 t)
  z_all : mg "all" = none
  z_len : mg "len" = none
  c_MOST_LINES : ∃ t, mg "MOST_LINES" = some (.int 12 t)
  z_list : mg "list" = none
  z_tuple : mg "tuple" = none
  z_int : mg "int" = none
  z_bool : mg "bool" = none
  c_LONGEST_NAME : ∃ t, mg "LONGEST_NAME" = some (.int 8 t)
  c_SMALL : ∃ t, mg "SMALL" = some (.str "abcdefghijklmnopqrstuvwxyz" t)
  c_MOST_PARENTS : ∃ t, mg "MOST_PARENTS" = some (.int 3 t)
  z_set : mg "set" = none
  z_sorted : mg "sorted" = none
  z_property : mg "property" = none
  z_repr : mg "repr" = none
  z_ValueError : mg "ValueError" = none
  z_range : mg "range" = none
/-! ## small words over the hand layer (own work) -/
section
variable {X : Cx}
/-- a list's item, a tuple's item, by the tracked object -/
def rIxH : R2 := fun x y H Q => ∃ p xs i v, x = .ref p ∧ y = .int i ∧ H p = some (.lst xs) ∧ atI xs i = some v ∧ Q v H
def rIxU : R2 := fun x y H Q => ∃ p xs i v, x = .ref p ∧ y = .int i ∧ H p = some (.tup xs) ∧ atI xs i = some v ∧ Q v H
theorem ix_lstH : IxR X rIxH := fun value slice pins s σ H x y v u Q I rx ry h hs => by
  obtain ⟨p, xs, i, z, h1, h2, h3, h4, h5⟩ := h
  exact ix_list value slice pins s σ H x y v u Q I rx ry ⟨p, xs, i, z, h1, h2, SqL.of h3, h4, h5⟩ hs
theorem ix_tupH : IxR X rIxU := fun value slice pins s σ H x y v u Q I rx ry h hs => by
  obtain ⟨p, xs, i, z, h1, h2, h3, h4, h5⟩ := h
  exact ix_tup value slice pins s σ H x y v u Q I rx ry ⟨p, xs, i, z, h1, h2, SqT.of h3, h4, h5⟩ hs
def rLenH : List V → Hp → VK → Prop := fun vs H Q => ∃ p ys, vs = [.ref p] ∧ H p = some (.lst ys) ∧ Q (.int ys.length) H
theorem call_lenH : CallR X (.builtin "len") rLenH := fun pins s σ H xs us Q I r h => by
  obtain ⟨p, ys, h1, h2, h3⟩ := h
  exact call_len_seq pins s σ H xs us Q I r ⟨p, ys, h1, Or.inl (SqL.of h2), h3⟩
def rLenU : List V → Hp → VK → Prop := fun vs H Q => ∃ p ys, vs = [.ref p] ∧ H p = some (.tup ys) ∧ Q (.int ys.length) H
theorem call_lenU : CallR X (.builtin "len") rLenU := fun pins s σ H xs us Q I r h => by
  obtain ⟨p, ys, h1, h2, h3⟩ := h
  exact call_len_seq pins s σ H xs us Q I r ⟨p, ys, h1, Or.inr (SqT.of h2), h3⟩
def rLenS : List V → Hp → VK → Prop := fun vs H Q => ∃ z, vs = [.str z] ∧ z.length ≤ sizeLine ∧ Q (.int z.length) H
theorem call_lenS : CallR X (.builtin "len") rLenS := call_len_str
/-- int(i) of an int -/
def rInt1 : List V → Hp → VK → Prop := fun vs H Q => ∃ i, vs = [.int i] ∧ Q (.int i) H
theorem call_intI : CallR X (.type "int") rInt1 := fun pins s σ H xs us Q I r h => call_int1 pins s σ H xs us Q I r (Or.inl h)
end
section
variable {α : Type} {a b c d e f g h : α} {r : List α}
theorem at0 : atI (a :: r) 0 = some a := by
  have q : ixN (a :: r).length 0 = some 0 := by
    unfold ixN
    rw [if_pos (by decide), if_pos (by rw [List.length_cons]; omega)]
    rfl
  unfold atI
  rw [q]
  rfl
theorem atN (n : Nat) {xs : List α} {v : α} (h : xs[n]? = some v) : atI xs (OfNat.ofNat n) = some v := atI_nat h
theorem at1 : atI (a :: b :: r) 1 = some b := atI_nat (j := 1) rfl
theorem at2 : atI (a :: b :: c :: r) 2 = some c := atI_nat (j := 2) rfl
theorem at3 : atI (a :: b :: c :: d :: r) 3 = some d := atI_nat (j := 3) rfl
theorem at4 : atI (a :: b :: c :: d :: e :: r) 4 = some e := atI_nat (j := 4) rfl
theorem at5 : atI (a :: b :: c :: d :: e :: f :: r) 5 = some f := atI_nat (j := 5) rfl
theorem ix51 : ixN 5 1 = some 1 := rfl
theorem ix52 : ixN 5 2 = some 2 := rfl
theorem ix54 : ixN 5 4 = some 4 := rfl
end
theorem scal_int {a b : Int} : scal (.int a) (.int b) = true := rfl
theorem scal_str {a b : Str} : scal (.str a) (.str b) = true := rfl
theorem scal_bl {a b : Bool} : scal (.bl a) (.bl b) = true := rfl
/-! ### loops -/
/-- the turns of a for, of a comprehension, as one word each (never opened by simp) -/
def forGo (J : It) (g : TG) (tb : TS) (D : Ends) (σ : St) (H1 : Hp) : Prop := ∃ W : Nat → Nat → St → Hp → Prop, (∃ m, W 0 m σ H1) ∧ ∀ i m σ H, W i m σ H →
  (J.stop i H ∧ D.nx σ H) ∨ (J.go i H ∧ ∃ N : St → Hp → Prop, (∀ σ' H', N σ' H' → ∃ m', m' < m ∧ W (i + 1) m' σ' H') ∧ ∀ x H', J.yld i H x H' → g x σ H' fun σ2 H2 => tb { D with nx := N, ct := N, bk := D.nx } σ2 H2)
theorem tFor_eq {wi : TI} {g : TG} {tb : TS} {D : Ends} {σ : St} {H : Hp} : tFor wi g tb D σ H = wi σ H fun J H1 => forGo J g tb D σ H1 := rfl
def lcGo (J : It) (g : TG) (tt : TT) (te : TE) (vs : List Nat) (σ : St) (D : Addr) (Q : VK) (H1 : Hp) : Prop := ∃ W : Nat → Nat → Hp → Prop, (∃ m, W 0 m (upd H1 D (.lst []))) ∧ ∀ i m H, W i m H →
  (J.stop i H ∧ Q (.ref D) H) ∨ (J.go i H ∧ ∃ Nx : Hp → Prop, (∀ H', Nx H' → ∃ m', m' < m ∧ W (i + 1) m' H') ∧ ∀ x H', J.yld i H x H' → g x (wipe σ vs) H' fun σ2 H2 => wipe σ2 vs = wipe σ vs ∧ tt σ2 H2 fun b H3 =>
    if b = true then te σ2 H3 fun y H4 => ∃ acc, H4 D = some (.lst acc) ∧ acc.length < sizeLine ∧ Nx (upd H4 D (.lst (acc ++ [y]))) else Nx H3)
theorem tLc_eq {wi : TI} {g : TG} {tt : TT} {te : TE} {vs : List Nat} {σ : St} {H : Hp} {Q : VK} : tLc wi g tt te vs σ H Q = wi σ H fun J H1 => ∀ D, H1 D = none → lcGo J g tt te vs σ D Q H1 := rfl
/-- what a walk gives, as a list -/
def sgn (c : Nat) : V := .str ⟨#[c]⟩
theorem walk_strY {z : Str} : Walk (Its z) (z.cps.toList.map sgn).length (fun _ => True) (YAt (z.cps.toList.map sgn)) := by
  have e : (z.cps.toList.map sgn).length = z.cps.size := by simp
  rw [e]
  refine walk_str.mono (fun _ h => h) fun i H x H' hi _ y => ?_
  obtain ⟨h1, c, h2, h3⟩ := y
  refine ⟨h1, ?_⟩
  rw [List.getElem?_map]
  have q : z.cps.toList[i]? = some c := by simpa using h2
  rw [q, h3]
  rfl
def rngV (lo : Int) (n : Nat) : List V := (List.range n).map fun i => V.int (lo + (i : Nat))
theorem rngV_len {lo : Int} {n : Nat} : (rngV lo n).length = n := by simp [rngV]
theorem walk_rangeY {lo : Int} {n : Nat} : Walk (Itr lo n) (rngV lo n).length (fun _ => True) (YAt (rngV lo n)) := by
  rw [rngV_len]
  refine walk_range.mono (fun _ h => h) fun i H x H' hi _ y => ?_
  obtain ⟨h1, h2⟩ := y
  refine ⟨h1, ?_⟩
  unfold rngV
  rw [List.getElem?_map, List.getElem?_range hi, h2]
  rfl
theorem take_get {α : Type} {l : List α} {i : Nat} {x : α} (h : l[i]? = some x) : l.take (i + 1) = l.take i ++ [x] := by
  rw [List.take_add_one, h]
  rfl
/-- a comprehension whose turns leave all that is tracked: what it chooses, what it gives -/
theorem lc_same {J : It} {xs : List V} {G : Hp → Prop} (w : Walk J xs.length G (YAt xs)) {g : TG} {tt : TT} {te : TE} {vs : List Nat} {σ : St} {D : Addr} {Q : VK} {H1 : Hp} (sel : V → Bool) (val : V → V)
    (hD : H1 D = none) (hG : ∀ H, Same H1 H → G H) (hz : xs.length ≤ 100000)
    (turn : ∀ x, x ∈ xs → ∀ H, Same H1 H → ∀ (R : VK) (R0 : Hp → Prop), (∀ H', Same H H' → sel x = true → R (val x) H') → (∀ H', Same H H' → sel x = false → R0 H') → g x (wipe σ vs) H fun σ2 H2 => wipe σ2 vs = wipe σ vs ∧ tt σ2 H2 fun b H3 => if b = true then te σ2 H3 R else R0 H3)
    (done : ∀ H, Same H1 H → H D = some (.lst ((xs.filter sel).map val)) → Q (.ref D) H) : lcGo J g tt te vs σ D Q H1 := by
  refine lc_it w (fun i H => Same H1 H ∧ H D = some (.lst (((xs.take i).filter sel).map val))) ⟨fun b o e => by rw [upd_ne (ne_of_none e hD)]; exact e, by rw [upd_same]; rfl⟩ (fun i H _ p => hG H p.1) (fun i x H H' hi p y => ?_) (fun H p => ?_)
  · obtain ⟨rfl, hx⟩ := y
    obtain ⟨s1, hacc⟩ := p
    have hm : x ∈ xs := List.mem_of_getElem? hx
    refine turn x hm _ s1 _ _ (fun H2 s2 hs => ?_) (fun H2 s2 hs => ?_)
    · refine ⟨_, s2 _ _ hacc, ?_, fun b o e => ?_, ?_⟩
      · rw [List.length_map]
        have q1 := List.length_filter_le sel (xs.take i)
        rw [List.length_take] at q1
        exact Nat.lt_of_le_of_lt (m := 100000) (by omega) (by decide)
      · rw [upd_ne (ne_of_none e hD)]
        exact s2 _ _ (s1 _ _ e)
      · rw [upd_same, take_get hx, List.filter_append, List.map_append, List.filter_cons, if_pos hs]
        rfl
    · refine ⟨s1.trans s2, ?_⟩
      rw [s2 _ _ hacc, take_get hx, List.filter_append, List.map_append, List.filter_cons, if_neg (by rw [hs]; decide)]
      simp
  · rw [List.take_length] at p
    exact done H p.1 p.2
theorem same_new {H : Hp} {p : Addr} {o : HO} (h : H p = none) : Same H (upd H p o) := fun b x e => by
  rw [upd_ne (ne_of_none e h)]
  exact e
theorem Same.tup {K : PySem.W.Frag} {H H' : Hp} {a : Addr} {xs : List V} (e : Same H H') (h : SqT K H a xs) : SqT K H' a xs := by
  rcases h with (h | ⟨o, h⟩) | h
  · exact .inl (.inl (e _ _ h))
  · exact .inl (.inr ⟨o, e _ _ h⟩)
  · exact .inr h
theorem cxOf_K {CX : CXT} {P : Program} {w : World} {K : PySem.W.Frag} {mg : Str → Option Value} {base : Heap} {N : List Str} {qual : Str} {scope : Scope} {f : Addr} {cd : Value} {A : Around} {outer : List Env} {s : Shared} {H : Hp} {E : XK} :
    (cxOf CX P w K mg base N qual scope f cd A outer s H E).K = K := rfl
theorem cut_to {xs : List V} {n : Nat} : cutV xs none (some (n : Int)) = xs.take n := by
  unfold cutV
  rw [HT.sIx_none, HT.sIx_nat]
  show List.take (min n xs.length - 0) xs = _
  rw [Nat.sub_zero]
  by_cases h : n ≤ xs.length
  · rw [Nat.min_eq_left h]
  · rw [Nat.min_eq_right (by omega), List.take_of_length_le (by omega), List.take_of_length_le (by omega)]
theorem cut_from {xs : List V} {n : Nat} : cutV xs (some (n : Int)) none = xs.drop n := by
  unfold cutV
  rw [HT.sIx_none, HT.sIx_nat]
  by_cases h : n ≤ xs.length
  · rw [Nat.min_eq_left h, List.take_of_length_le (by rw [List.length_drop]; omega)]
  · rw [Nat.min_eq_right (by omega), List.drop_of_length_le (by omega), List.drop_of_length_le (by omega), List.take_nil]
theorem cut_from1 {xs : List V} {n : Nat} : cutV xs (some ((n : Int) + 1)) none = xs.drop (n + 1) := cut_from (n := n + 1)
theorem mem_int {v : V} {ns : List Int} (h : v ∈ ns.map V.int) : ∃ i, v = .int i := by
  obtain ⟨i, _, e⟩ := List.mem_map.mp h
  exact ⟨i, e.symm⟩
/-- a for over what a walk gives -/
theorem for_go {J : It} {xs : List V} {G : Hp → Prop} (w : Walk J xs.length G (YAt xs)) {g : TG} {tb : TS} {D : Ends} {σ : St} {H : Hp} (Pv : Nat → St → Hp → Prop) (h0 : Pv 0 σ H) (hG : ∀ i σ H, i ≤ xs.length → Pv i σ H → G H)
    (hs : ∀ i x σ H, xs[i]? = some x → Pv i σ H → g x σ H fun σ2 H2 => tb { D with nx := Pv (i + 1), ct := Pv (i + 1), bk := D.nx } σ2 H2) (hd : ∀ σ H, Pv xs.length σ H → D.nx σ H) : forGo J g tb D σ H := by
  refine for_it w Pv h0 hG (fun i x σ H H' hi p y => ?_) hd
  obtain ⟨rfl, hx⟩ := y
  exact hs i x σ _ hx p
theorem new_facts {H H1 : Hp} {p : Addr} {o : HO} (hp : H p = none) (hG : upd H p o = H1) : Same H H1 ∧ H1 p = some o := by
  subst hG
  exact ⟨same_new hp, upd_same⟩

/-! ## the pool of draws -/
def spLawMixed : Sp := fun vs H Q _ => ∃ (n c m : Int), vs = [.int n, .int c, .int m] ∧ 0 ≤ n ∧ n < 4294967296 ∧ 0 ≤ c ∧ c ≤ 100000000 ∧ 0 < m ∧ ∀ v, 0 ≤ v → v < m → Q (.int v) H
theorem pow_ok {n c : Int} (h0 : 0 ≤ n) (h1 : n < 4294967296) (h2 : 0 ≤ c) (h3 : c ≤ 100000000) : (n + 7919 * c).natAbs < 2 ^ 64 := by
  have : (2 : Nat) ^ 64 = 18446744073709551616 := by decide
  omega
theorem nat_lt_of {c : Int} {a m : Nat} (h0 : 0 ≤ c) (h : c < (m : Int)) (hm : m ≤ 2 ^ a) : c.natAbs < 2 ^ a := Nat.lt_of_lt_of_le (by omega) hm
section
variable {P : Program} {w : World} {K : PySem.W.Frag} {mg : Str → Option Value} {base : Heap} {A : Adr}
theorem ok_mixed (T : Txt K mg A) : FnOk P w K mg base CX0 1 A.a_LawMixed A.d_LawMixed ["_law_number", "_law_count", "_law_many"] spLawMixed := by
  refine T.f_LawMixed.ok scLawMixed (fun vs H Q E h => ?_) (fun cdv A' outer s H vs Q E hr h => ?_)
  · obtain ⟨n, c, m, rfl, _⟩ := h
    rfl
  · obtain ⟨n, c, m, rfl, h0, h1, h2, h3, h4, k⟩ := h
    refine ⟨_, (pss_one (ps_ret (pe_op op_mod (pe_op op_fdivW (pe_callTy call_intI (by rfl) T.z_int (by decide +kernel) (pa_cons (pe_op op_mod (pe_op op_pow (pe_callTy call_intI (by rfl) T.z_int (by decide +kernel) (pa_cons (pe_op op_add (pv 0) (pe_op op_mulW pe_int (pv 1))) pa_nil)) pe_int) pe_int) pa_nil)) pe_int) (pv 2)))), ?_⟩
    simp only [tSeq, tNext, tRet, tRetN, tAsg, gName, gSub, tDrop, tIfS, tOp, tUn, tCB, tCons, tNil, tC, tVar, rI, rI0, rU, tAnd, tOr, tNot, tAndV, tOrV, tNotV, tIf, tTest, tB, tCall, tChain, tLst, tTup, tYes, rIxH, rIxU, rLenH, rLenU, rLenS, rInt1, rSetL, rEq, rNe, rCat, L2.start, List.map, List.length, List.length_cons, List.length_nil, List.replicate, List.getElem?_cons_zero, List.getElem?_cons_succ, List.set_cons_zero, List.set_cons_succ, List.set_nil, List.cons_append, List.nil_append, List.append_nil, Option.some.injEq, V.int.injEq, V.ref.injEq, V.str.injEq, V.bl.injEq, HO.lst.injEq, HO.tup.injEq, exists_eq_left', exists_and_left, exists_eq_left, List.cons.injEq, and_true, true_and, and_false, false_and, and_self, reduceCtorEq, exists_false, or_false, false_or, exists_const, at0, at1, at2, at3, at4, at5, ix51, ix52, ix54, upd_same, Nat.reduceAdd, Nat.reduceSub, Nat.zero_add, Int.reduceToNat, Int.reduceLE, Int.reduceLT, decide_eq_true_eq, Bool.not_eq_true, if_true, if_false, Bool.false_eq_true, ite_true, ite_false, Bool.not_true, Bool.not_false, decide_true, decide_false, tFor_eq, tLc_eq, iList, iTup, iRng1, iRng2, iStr, tSl, tPart, tNoPart, rSlL, cxOf_K, wipe]
    refine ⟨wide_mul (a := 13) (b := 27) (by decide) (nat_lt_of (m := 134217728) h2 (by omega) (by decide)) (by decide) (by decide) (by decide), ⟨by decide, by decide, pow_ok h0 h1 h2 h3⟩, wide_div (b := 5) (by decide) (by decide) (by decide) (by decide), h4, k _ (Int.emod_nonneg _ (by omega)) (Int.emod_lt_of_pos _ h4)⟩
/-- the pool's list stands at p, its numbers at l; at most c draws so far -/
def PoolAt (p l : Addr) (c : Nat) (H : Hp) : Prop := ∃ (ns : List Int) (t n z y : Int), H p = some (.lst [.ref l, .int t, .int n, .int z, .int y]) ∧ H l = some (.lst (ns.map V.int)) ∧ 0 ≤ t ∧ ns.length ≤ 63 ∧ 0 ≤ n ∧ n ≤ (c : Int) ∧ 0 ≤ z ∧ z < 2147483647
/-- all but the pool's two lists is as it was -/
def Off (p l : Addr) (H H' : Hp) : Prop := ∀ b, b ≠ p → b ≠ l → H' b = H b
def spLawDraw : Sp := fun vs H Q _ => ∃ (p l : Addr) (m : Int) (c : Nat), vs = [.ref p, .int m] ∧ 0 < m ∧ m < 1000000000000000000000000000000000000000 ∧ PoolAt p l c H ∧ c ≤ 90000000 ∧ ∀ v H', 0 ≤ v → v < m → PoolAt p l (c + 1) H' → Off p l H H' → Q (.int v) H'
theorem ok_draw (T : Txt K mg A) (gLawMixed : FnOk P w K mg base CX0 1 A.a_LawMixed A.d_LawMixed ["_law_number", "_law_count", "_law_many"] spLawMixed) : FnOk P w K mg base CX0 2 A.a_LawDraw A.d_LawDraw ["_law_pool_here", "_law_many"] spLawDraw := by
  refine T.f_LawDraw.ok scLawDraw (fun vs H Q E h => ?_) (fun cdv A' outer s H vs Q E hr h => ?_)
  · obtain ⟨p, l, m, c, rfl, _⟩ := h
    rfl
  · obtain ⟨p, l, m, c, rfl, m0, m1, ⟨ns, t, n, z, y, hp, hl, t0, nl, n0, n1, z0, z1⟩, c1, k⟩ := h
    have npl : p ≠ l := ne_of hp hl (by intro q; cases ns with | nil => cases q | cons _ _ => cases q)
    have e1 : ∀ (G : Hp) (o : HO), upd G p o l = G l := fun G o => upd_ne npl.symm
    have e2 : ∀ (G : Hp) (o : HO), upd G l o p = G p := fun G o => upd_ne npl
    have hm : CDivW 0 m := wide_div (b := 130) m0 (nat_lt_of (m := 1000000000000000000000000000000000000000) (by omega) (by omega) (by decide)) (by decide) (by decide)
    refine ⟨_, (pss_cons (ps_asg (pe_op op_add (pe_ix ix_lstH (pv 0) pe_int (fun _ _ => rfl)) pe_int) (pg_sub (pv 0) pe_int set_list))
      (pss_cons (ps_if (pt_cmpR (op_ge) (pe_ix ix_lstH (pv 0) pe_int (fun _ _ => rfl)) (pe_callB call_lenH (by rfl) T.z_len (by decide +kernel) (pa_cons (pe_ix ix_lstH (pv 0) pe_int (fun _ _ => rfl)) pa_nil)) (nomark _)) (pss_one (ps_ret (pe_call gLawMixed (hr.mono (by decide)) (by rfl) T.m_LawMixed T.f_LawMixed.kp T.b_LawMixed .nil pass0 (pa_cons (pe_ix ix_lstH (pv 0) pe_int (fun _ _ => rfl)) (pa_cons (pe_ix ix_lstH (pv 0) pe_int (fun _ _ => rfl)) (pa_cons (pv 1) pa_nil)))))) pss_nil)
      (pss_cons (ps_set (i := 2) scLawDraw.nd rfl (Or.inl rfl) (pe_ix ix_lstH (pv 0) pe_int (fun _ _ => rfl)))
      (pss_cons (ps_set (i := 3) scLawDraw.nd rfl (Or.inl rfl) (pe_ix ix_lstH (pv 0) pe_int (fun _ _ => rfl)))
      (pss_cons (ps_set (i := 4) scLawDraw.nd rfl (Or.inl rfl) (pe_ix ix_lstH (pv 3) (pv 2) (fun _ _ => rfl)))
      (pss_cons (ps_if (PW.pt (pw_and (pt_cmpR (op_ne) (pe_ix ix_lstH (pv 0) pe_int (fun _ _ => rfl)) pe_int (nomark _)) (pw_and1 (pt_cmpR (op_lt) (pv 4) (pe_op op_pow pe_int pe_int) (nomark _))))) (pss_cons (ps_asg (pe_op op_add (pe_ix ix_lstH (pv 0) pe_int (fun _ _ => rfl)) pe_int) (pg_sub (pv 0) pe_int set_list))
      (pss_cons (ps_if (pt_cmpR (op_eq) (pe_ix ix_lstH (pv 0) pe_int (fun _ _ => rfl)) pe_int (nomark _)) (pss_cons (ps_asg (pe_op op_add (pv 2) pe_int) (pg_sub (pv 0) pe_int set_list))
      (pss_one (ps_asg pe_int (pg_sub (pv 0) pe_int set_list)))) pss_nil)
      (pss_one (ps_ret (pe_call gLawMixed (hr.mono (by decide)) (by rfl) T.m_LawMixed T.f_LawMixed.kp T.b_LawMixed .nil pass0 (pa_cons (pe_op op_mod (pe_callTy call_intI (by rfl) T.z_int (by decide +kernel) (pa_cons (pv 4) pa_nil)) pe_int) (pa_cons (pe_ix ix_lstH (pv 0) pe_int (fun _ _ => rfl)) (pa_cons (pv 1) pa_nil)))))))) pss_nil)
      (pss_cons (ps_asg pe_int (pg_sub (pv 0) pe_int set_list))
      (pss_cons (ps_asg (pe_op op_fdivW (pe_callTy call_intI (by rfl) T.z_int (by decide +kernel) (pa_cons (pv 4) pa_nil)) (pv 1)) (pg_sub (pv 3) (pv 2) set_list))
      (pss_cons (ps_if (pt_cmpR (op_eq) (pe_ix ix_lstH (pv 3) (pv 2) (fun _ _ => rfl)) pe_int (nomark _)) (pss_cons (ps_asg (pe_op op_add (pv 2) pe_int) (pg_sub (pv 0) pe_int set_list))
      (pss_one (ps_asg pe_int (pg_sub (pv 0) pe_int set_list)))) pss_nil)
      (pss_one (ps_ret (pe_op op_mod (pe_callTy call_intI (by rfl) T.z_int (by decide +kernel) (pa_cons (pv 4) pa_nil)) (pv 1))))))))))))), ?_⟩
    have p10 : CPow 10 18 := ⟨by decide, by decide, by decide⟩
    have off : ∀ o o', Off p l H (upd (upd H p o) l o') := fun o o' b hb hb' => by rw [upd_ne hb', upd_ne hb]
    have off2 : ∀ o o', Off p l H (upd (upd H l o) p o') := fun o o' b hb hb' => by rw [upd_ne hb, upd_ne hb']
    have off1 : ∀ o, Off p l H (upd H p o) := fun o b hb hb' => by rw [upd_ne hb]
    have pool : ∀ (t' y' : Int), 0 ≤ t' → PoolAt p l (c + 1) (upd H p (.lst [.ref l, .int t', .int (n + 1), .int z, .int y'])) := fun t' y' h => ⟨ns, t', n + 1, z, y', upd_same, by rw [e1]; exact hl, h, nl, by omega, by omega, z0, z1⟩
    by_cases ht : t < (ns.length : Int)
    · have q : t = ((t.toNat : Nat) : Int) := (Int.toNat_of_nonneg t0).symm
      have q2 : t.toNat < ns.length := by omega
      have ha : atI (ns.map V.int) t = some (.int ns[t.toNat]) := at_of q (by rw [List.getElem?_map, List.getElem?_eq_getElem q2]; rfl)
      have hix : ixN ns.length t = some t.toNat := by
        unfold ixN
        rw [if_pos t0, if_pos ht]
      have hnt : ¬ ((ns.length : Int) ≤ t) := by omega
      have hset : ∀ v, (ns.map V.int).set t.toNat (.int v) = (ns.set t.toNat v).map V.int := fun v => by rw [List.map_set]
      have ha2 : ∀ v, atI ((ns.set t.toNat v).map V.int) t = some (.int v) := fun v => at_of q (by rw [List.getElem?_map, List.getElem?_set_self q2]; rfl)
      generalize ns[t.toNat] = v at ha
      simp only [tSeq, tNext, tRet, tRetN, tAsg, gName, gSub, tDrop, tIfS, tOp, tUn, tCB, tCons, tNil, tC, tVar, rI, rI0, rU, tAnd, tOr, tNot, tAndV, tOrV, tNotV, tIf, tTest, tB, tCall, tChain, tLst, tTup, tYes, rIxH, rIxU, rLenH, rLenU, rLenS, rInt1, rSetL, rEq, rNe, rCat, L2.start, List.map, List.length, List.length_cons, List.length_nil, List.replicate, List.getElem?_cons_zero, List.getElem?_cons_succ, List.set_cons_zero, List.set_cons_succ, List.set_nil, List.cons_append, List.nil_append, List.append_nil, Option.some.injEq, V.int.injEq, V.ref.injEq, V.str.injEq, V.bl.injEq, HO.lst.injEq, HO.tup.injEq, exists_eq_left', exists_and_left, exists_eq_left, List.cons.injEq, and_true, true_and, and_false, false_and, and_self, reduceCtorEq, exists_false, or_false, false_or, exists_const, at0, at1, at2, at3, at4, at5, ix51, ix52, ix54, upd_same, Nat.reduceAdd, Nat.reduceSub, Nat.zero_add, Int.reduceToNat, Int.reduceLE, Int.reduceLT, decide_eq_true_eq, Bool.not_eq_true, if_true, if_false, Bool.false_eq_true, ite_true, ite_false, Bool.not_true, Bool.not_false, decide_true, decide_false, tFor_eq, tLc_eq, iList, iTup, iRng1, iRng2, iStr, tSl, tPart, tNoPart, rSlL, cxOf_K, wipe, hp, hl, e1, e2, upd_upd, ha, hix, hnt, hset, ha2, scal_int, p10, List.length_map]
      have hv0 : 0 ≤ v % 2147483647 := Int.emod_nonneg _ (by decide)
      have hv1 : v % 2147483647 < 2147483647 := Int.emod_lt_of_pos _ (by decide)
      have r0 : 0 ≤ v % m := Int.emod_nonneg _ (by omega)
      have r1 : v % m < m := Int.emod_lt_of_pos _ m0
      have hd : CDivW v m := hm
      have mk : ∀ (t' y' : Int), 0 ≤ t' → spLawMixed [.int (v % 2147483647), .int (n + 1), .int m] (upd H p (.lst [.ref l, .int t', .int (n + 1), .int z, .int y'])) Q E0 := fun t' y' h =>
        ⟨_, _, _, rfl, hv0, by omega, by omega, by omega, m0, fun u u0 u1 => k u _ u0 u1 (pool t' y' h) (off1 _)⟩
      have hB : ∀ (ms : List Int), ms.length = ns.length → ∀ o, PoolAt p l (c + 1) (upd (upd (upd H p o) l (.lst (ms.map V.int))) p (.lst [.ref l, .int (t + 1), .int (n + 1), .int z, .int 0])) := fun ms hms o =>
        ⟨ms, t + 1, n + 1, z, 0, upd_same, by rw [e1, upd_same], by omega, by omega, by omega, by omega, z0, z1⟩
      have hC : ∀ (ms : List Int), ms.length = ns.length → PoolAt p l (c + 1) (upd (upd H p (.lst [.ref l, .int t, .int (n + 1), .int z, .int 2])) l (.lst (ms.map V.int))) := fun ms hms =>
        ⟨ms, t, n + 1, z, 2, by rw [e2, upd_same], upd_same, t0, by omega, by omega, by omega, z0, z1⟩
      have off3 : ∀ o o' o'', Off p l H (upd (upd (upd H p o) l o') p o'') := fun o o' o'' b hb hb' => by rw [upd_ne hb, upd_ne hb', upd_ne hb]
      have fin : CDivW v m ∧ if v / m = 0 then 0 < m ∧ Q (V.int (v % m)) (upd (upd (upd H p (HO.lst [V.ref l, V.int t, V.int (n + 1), V.int z, V.int 2])) l (HO.lst (List.map V.int (ns.set t.toNat (v / m))))) p (HO.lst [V.ref l, V.int (t + 1), V.int (n + 1), V.int z, V.int 0]))
          else 0 < m ∧ Q (V.int (v % m)) (upd (upd H p (HO.lst [V.ref l, V.int t, V.int (n + 1), V.int z, V.int 2])) l (HO.lst (List.map V.int (ns.set t.toNat (v / m))))) := by
        refine ⟨hd, ite2 (fun _ => ⟨m0, k _ _ r0 r1 (hB _ (by rw [List.length_set]) _) (off3 _ _ _)⟩) (fun _ => ⟨m0, k _ _ r0 r1 (hC _ (by rw [List.length_set])) (off _ _)⟩)⟩
      refine ite2 (fun _ => ?_) (fun _ => fin)
      refine ite2 (fun _ => ?_) (fun _ => fin)
      exact ite2 (fun _ => mk (t + 1) 0 (by omega)) (fun _ => mk t (y + 1) t0)
    · have hnt : (ns.length : Int) ≤ t := by omega
      simp only [tSeq, tNext, tRet, tRetN, tAsg, gName, gSub, tDrop, tIfS, tOp, tUn, tCB, tCons, tNil, tC, tVar, rI, rI0, rU, tAnd, tOr, tNot, tAndV, tOrV, tNotV, tIf, tTest, tB, tCall, tChain, tLst, tTup, tYes, rIxH, rIxU, rLenH, rLenU, rLenS, rInt1, rSetL, rEq, rNe, rCat, L2.start, List.map, List.length, List.length_cons, List.length_nil, List.replicate, List.getElem?_cons_zero, List.getElem?_cons_succ, List.set_cons_zero, List.set_cons_succ, List.set_nil, List.cons_append, List.nil_append, List.append_nil, Option.some.injEq, V.int.injEq, V.ref.injEq, V.str.injEq, V.bl.injEq, HO.lst.injEq, HO.tup.injEq, exists_eq_left', exists_and_left, exists_eq_left, List.cons.injEq, and_true, true_and, and_false, false_and, and_self, reduceCtorEq, exists_false, or_false, false_or, exists_const, at0, at1, at2, at3, at4, at5, ix51, ix52, ix54, upd_same, Nat.reduceAdd, Nat.reduceSub, Nat.zero_add, Int.reduceToNat, Int.reduceLE, Int.reduceLT, decide_eq_true_eq, Bool.not_eq_true, if_true, if_false, Bool.false_eq_true, ite_true, ite_false, Bool.not_true, Bool.not_false, decide_true, decide_false, tFor_eq, tLc_eq, iList, iTup, iRng1, iRng2, iStr, tSl, tPart, tNoPart, rSlL, cxOf_K, wipe, hp, hl, e1, e2, upd_upd, hnt, List.length_map]
      exact ⟨_, _, _, rfl, z0, by omega, by omega, by omega, m0, fun u u0 u1 => k u _ u0 u1 (pool t y t0) (off1 _)⟩
def spLawPool (K : PySem.W.Frag) : Sp := fun vs H Q _ => ∃ (a : Addr) (ns : List Int), vs = [.ref a] ∧ SqL K H a (ns.map V.int) ∧ ns.length ≤ 63 ∧ ∀ p l H', PoolAt p l 0 H' → H p = none → H l = none → Same H H' → Q (.ref p) H'
theorem ok_pool (T : Txt K mg A) : FnOk P w K mg base CX0 1 A.a_LawPool A.d_LawPool ["_law_script"] (spLawPool K) := by
  refine T.f_LawPool.ok scLawPool (fun vs H Q E h => ?_) (fun cdv A' outer s H vs Q E hr h => ?_)
  · obtain ⟨a, ns, rfl, _⟩ := h
    rfl
  · obtain ⟨a, ns, rfl, hS, nl, k⟩ := h
    refine ⟨_, (pss_cons (ps_setLc (i := 1) (own := [("_law_cell", 3)]) (g := gName 3) (tt := tYes) (by rfl) scLawPool.nd rfl rfl (sw_true rfl rfl rfl (by decide +kernel)) (pi_list (pe_slice sl_list (pv 0) po_none (po_some pe_int))) (blkOk_by (own := [("_law_cell", 3)]) (N := nLawPool) (sc := defScope sLawPool) (by decide +kernel)) (fun _ _ _ _ _ => pg_name (i := 3) scLawPool.nd rfl (Or.inl rfl)) (fun _ _ _ _ _ => pts_nil) (fun _ _ _ _ _ => (pe_callTy call_intI (by rfl) T.z_int (by decide +kernel) (pa_cons (pv 3) pa_nil))))
      (pss_cons (ps_set (i := 2) scLawPool.nd rfl (Or.inl rfl) pe_int)
      (pss_cons (ps_for PassesOwn.never rfl (pi_list (pv 1)) (pg_name (i := 3) scLawPool.nd rfl (Or.inl rfl)) (pss_one (ps_set (i := 2) scLawPool.nd rfl (Or.inl rfl) (pe_op op_mod (pe_callTy call_intI (by rfl) T.z_int (by decide +kernel) (pa_cons (pe_op op_add (pe_op op_mulW (pv 2) pe_int) (pv 3)) pa_nil)) pe_int))))
      (pss_one (ps_ret (pe_lst (pa_cons (pv 1) (pa_cons pe_int (pa_cons pe_int (pa_cons (pv 2) (pa_cons pe_int pa_nil))))))))))), ?_⟩
    simp only [tSeq, tNext, tRet, tRetN, tAsg, gName, gSub, tDrop, tIfS, tOp, tUn, tCB, tCons, tNil, tC, tVar, rI, rI0, rU, tAnd, tOr, tNot, tAndV, tOrV, tNotV, tIf, tTest, tB, tCall, tChain, tLst, tTup, tYes, rIxH, rIxU, rLenH, rLenU, rLenS, rInt1, rSetL, rEq, rNe, rCat, L2.start, List.map, List.length, List.length_cons, List.length_nil, List.replicate, List.getElem?_cons_zero, List.getElem?_cons_succ, List.set_cons_zero, List.set_cons_succ, List.set_nil, List.cons_append, List.nil_append, List.append_nil, Option.some.injEq, V.int.injEq, V.ref.injEq, V.str.injEq, V.bl.injEq, HO.lst.injEq, HO.tup.injEq, exists_eq_left', exists_and_left, exists_eq_left, List.cons.injEq, and_true, true_and, and_false, false_and, and_self, reduceCtorEq, exists_false, or_false, false_or, exists_const, at0, at1, at2, at3, at4, at5, ix51, ix52, ix54, upd_same, Nat.reduceAdd, Nat.reduceSub, Nat.zero_add, Int.reduceToNat, Int.reduceLE, Int.reduceLT, decide_eq_true_eq, Bool.not_eq_true, if_true, if_false, Bool.false_eq_true, ite_true, ite_false, Bool.not_true, Bool.not_false, decide_true, decide_false, tFor_eq, tLc_eq, iList, iTup, iRng1, iRng2, iStr, tSl, tPart, tNoPart, rSlL, cxOf_K, wipe]
    refine ⟨_, hS, fun p hp => ⟨⟨_, SqL.of upd_same⟩, fun D hD => ?_⟩⟩
    have hc : cutV (ns.map V.int) none (some 63) = ns.map V.int := by
      rw [show (63 : Int) = ((63 : Nat) : Int) from rfl, cut_to, List.take_of_length_le (by rw [List.length_map]; exact nl)]
    rw [hc] at hD ⊢
    have hDn : H D = none := (same_new hp).free hD
    refine lc_same (walk_list (K := K) (xs := ns.map V.int)) (fun _ => true) id hD (fun H2 s2 => s2.seq (SqL.of upd_same)) (by rw [List.length_map]; omega) (fun x hx H2 s2 R R0 h1 _ => ?_) (fun H2 s2 h2 => ?_)
    · obtain ⟨i, rfl⟩ := mem_int hx
      simp only [tSeq, tNext, tRet, tRetN, tAsg, gName, gSub, tDrop, tIfS, tOp, tUn, tCB, tCons, tNil, tC, tVar, rI, rI0, rU, tAnd, tOr, tNot, tAndV, tOrV, tNotV, tIf, tTest, tB, tCall, tChain, tLst, tTup, tYes, rIxH, rIxU, rLenH, rLenU, rLenS, rInt1, rSetL, rEq, rNe, rCat, L2.start, List.map, List.length, List.length_cons, List.length_nil, List.replicate, List.getElem?_cons_zero, List.getElem?_cons_succ, List.set_cons_zero, List.set_cons_succ, List.set_nil, List.cons_append, List.nil_append, List.append_nil, Option.some.injEq, V.int.injEq, V.ref.injEq, V.str.injEq, V.bl.injEq, HO.lst.injEq, HO.tup.injEq, exists_eq_left', exists_and_left, exists_eq_left, List.cons.injEq, and_true, true_and, and_false, false_and, and_self, reduceCtorEq, exists_false, or_false, false_or, exists_const, at0, at1, at2, at3, at4, at5, ix51, ix52, ix54, upd_same, Nat.reduceAdd, Nat.reduceSub, Nat.zero_add, Int.reduceToNat, Int.reduceLE, Int.reduceLT, decide_eq_true_eq, Bool.not_eq_true, if_true, if_false, Bool.false_eq_true, ite_true, ite_false, Bool.not_true, Bool.not_false, decide_true, decide_false, tFor_eq, tLc_eq, iList, iTup, iRng1, iRng2, iStr, tSl, tPart, tNoPart, rSlL, cxOf_K, wipe]
      exact h1 H2 (Same.refl _) rfl
    · have h2 : H2 D = some (.lst (ns.map V.int)) := by
        rw [h2, List.map_id, List.filter_eq_self.mpr fun _ _ => rfl]
      have sm : Same H H2 := (same_new hp).trans s2
      refine ⟨D, rfl, ⟨_, SqL.of h2⟩, for_go (walk_list (K := K) (xs := ns.map V.int)) (fun i σ H' => H' = H2 ∧ ∃ (z : Int) (v : Option V), σ = [some (.ref a), some (.ref D), some (.int z), v] ∧ 0 ≤ z ∧ z < 2147483647) ⟨rfl, 11, _, rfl, by decide, by decide⟩ (fun i σ H' _ q => by rw [q.1]; exact SqL.of h2) (fun i x σ H' hx q => ?_) (fun σ H' q => ?_)⟩
      · obtain ⟨rfl, z, v, rfl, z0, z1⟩ := q
        obtain ⟨u, rfl⟩ := mem_int (List.mem_of_getElem? hx)
        simp only [tSeq, tNext, tRet, tRetN, tAsg, gName, gSub, tDrop, tIfS, tOp, tUn, tCB, tCons, tNil, tC, tVar, rI, rI0, rU, tAnd, tOr, tNot, tAndV, tOrV, tNotV, tIf, tTest, tB, tCall, tChain, tLst, tTup, tYes, rIxH, rIxU, rLenH, rLenU, rLenS, rInt1, rSetL, rEq, rNe, rCat, L2.start, List.map, List.length, List.length_cons, List.length_nil, List.replicate, List.getElem?_cons_zero, List.getElem?_cons_succ, List.set_cons_zero, List.set_cons_succ, List.set_nil, List.cons_append, List.nil_append, List.append_nil, Option.some.injEq, V.int.injEq, V.ref.injEq, V.str.injEq, V.bl.injEq, HO.lst.injEq, HO.tup.injEq, exists_eq_left', exists_and_left, exists_eq_left, List.cons.injEq, and_true, true_and, and_false, false_and, and_self, reduceCtorEq, exists_false, or_false, false_or, exists_const, at0, at1, at2, at3, at4, at5, ix51, ix52, ix54, upd_same, Nat.reduceAdd, Nat.reduceSub, Nat.zero_add, Int.reduceToNat, Int.reduceLE, Int.reduceLT, decide_eq_true_eq, Bool.not_eq_true, if_true, if_false, Bool.false_eq_true, ite_true, ite_false, Bool.not_true, Bool.not_false, decide_true, decide_false, tFor_eq, tLc_eq, iList, iTup, iRng1, iRng2, iStr, tSl, tPart, tNoPart, rSlL, cxOf_K, wipe]
        exact ⟨wide_mul (a := 31) (b := 16) (nat_lt_of (m := 2147483648) z0 (by omega) (by decide)) (by decide) (by decide) (by decide) (by decide), _, _, ⟨rfl, rfl⟩, Int.emod_nonneg _ (by decide), Int.emod_lt_of_pos _ (by decide)⟩
      · obtain ⟨rfl, z, v, rfl, z0, z1⟩ := q
        simp only [tSeq, tNext, tRet, tRetN, tAsg, gName, gSub, tDrop, tIfS, tOp, tUn, tCB, tCons, tNil, tC, tVar, rI, rI0, rU, tAnd, tOr, tNot, tAndV, tOrV, tNotV, tIf, tTest, tB, tCall, tChain, tLst, tTup, tYes, rIxH, rIxU, rLenH, rLenU, rLenS, rInt1, rSetL, rEq, rNe, rCat, L2.start, List.map, List.length, List.length_cons, List.length_nil, List.replicate, List.getElem?_cons_zero, List.getElem?_cons_succ, List.set_cons_zero, List.set_cons_succ, List.set_nil, List.cons_append, List.nil_append, List.append_nil, Option.some.injEq, V.int.injEq, V.ref.injEq, V.str.injEq, V.bl.injEq, HO.lst.injEq, HO.tup.injEq, exists_eq_left', exists_and_left, exists_eq_left, List.cons.injEq, and_true, true_and, and_false, false_and, and_self, reduceCtorEq, exists_false, or_false, false_or, exists_const, at0, at1, at2, at3, at4, at5, ix51, ix52, ix54, upd_same, Nat.reduceAdd, Nat.reduceSub, Nat.zero_add, Int.reduceToNat, Int.reduceLE, Int.reduceLT, decide_eq_true_eq, Bool.not_eq_true, if_true, if_false, Bool.false_eq_true, ite_true, ite_false, Bool.not_true, Bool.not_false, decide_true, decide_false, tFor_eq, tLc_eq, iList, iTup, iRng1, iRng2, iStr, tSl, tPart, tNoPart, rSlL, cxOf_K, wipe]
        refine ⟨by decide, fun q hq => ?_⟩
        have nq : D ≠ q := ne_of_none h2 hq
        exact k q D _ ⟨ns, 0, 0, z, 0, upd_same, by rw [upd_ne nq]; exact h2, by omega, nl, by omega, by omega, z0, z1⟩ (sm.free hq) hDn (sm.trans (same_new hq))
end



/-! ### kinds of things -/
def kdO : Option HO → String
  | some (.lst _) => "list"
  | some (.tup _) => "tuple"
  | some (.dK _) => "dict"
  | _ => "?"
def kd (H : Hp) : V → String
  | .non => "NoneType"
  | .bl _ => "bool"
  | .int _ => "int"
  | .str _ => "str"
  | .ref a => kdO (H a)
  | _ => "?"
theorem kd_non {H : Hp} : kd H .non = "NoneType" := rfl
theorem kd_bl {H : Hp} {b : Bool} : kd H (.bl b) = "bool" := rfl
theorem kd_int {H : Hp} {i : Int} : kd H (.int i) = "int" := rfl
theorem kd_str {H : Hp} {z : Str} : kd H (.str z) = "str" := rfl
theorem kd_ref {H : Hp} {a : Addr} : kd H (.ref a) = kdO (H a) := rfl
theorem kdO_lst {xs : List V} : kdO (some (.lst xs)) = "list" := rfl
theorem kdO_tup {xs : List V} : kdO (some (.tup xs)) = "tuple" := rfl
theorem kdO_dK {kvs : List (Key × V)} : kdO (some (.dK kvs)) = "dict" := rfl
theorem nq_n : "NoneType" ≠ "?" := by decide
theorem nq_b : "bool" ≠ "?" := by decide
theorem nq_i : "int" ≠ "?" := by decide
theorem nq_s : "str" ≠ "?" := by decide
theorem nq_l : "list" ≠ "?" := by decide
theorem nq_t : "tuple" ≠ "?" := by decide
theorem nq_d : "dict" ≠ "?" := by decide
theorem kd_ty {K : PySem.W.Frag} {H : Hp} {v : V} (h : kd H v ≠ "?") : TyX K H v (.type (kd H v)) := by
  cases v with
  | non => exact .base .non
  | bl b => exact .base (.bl b)
  | int i => exact .base (.int i)
  | str z => exact .base (.str z)
  | byt b => exact absurd rfl h
  | flt b => exact absurd rfl h
  | ty n => exact absurd rfl h
  | ref a =>
    have h : kdO (H a) ≠ "?" := h
    show TyX K H (.ref a) (.type (kdO (H a)))
    cases e : H a with
    | none => rw [e] at h; exact absurd rfl h
    | some o =>
      rw [e] at h
      cases o with
      | lst xs => exact .base (.lst e)
      | tup xs => exact .base (.tup e)
      | dK kvs => exact .base (.dK e)
      | _ => exact absurd rfl h
def kitAnyB (t : String) : List String → Option Bool
  | [] => some false
  | c :: r => match kitB t c with
    | some true => some true
    | some false => kitAnyB t r
    | none => none
theorem kitAnyB_ok {K : PySem.W.Frag} {t : String} : ∀ {cs : List String} {b : Bool}, kitAnyB t cs = some b → PySem.W.kitAny K (.type t) (cs.map Value.type) = some b
  | [], b, h => h
  | c :: r, b, h => by
    unfold kitAnyB at h
    show PySem.W.kitAny K (.type t) (Value.type c :: r.map Value.type) = some b
    unfold PySem.W.kitAny
    cases e : kitB t c with
    | none => rw [e] at h; cases h
    | some d =>
      rw [kit_ty e]
      rw [e] at h
      cases d with
      | true => exact h
      | false => exact kitAnyB_ok h
theorem clsV_all : ∀ (cs : List String), Paired ClsV (cs.map V.ty) (cs.map Value.type)
  | [] => .nil
  | c :: r => .cons (.ty c) (clsV_all r)
section
variable {X : Cx}
/-- isinstance(x, T), T a built-in class; a tuple of such -/
def rIsB : List V → Hp → VK → Prop := fun vs H Q => ∃ x T b, vs = [x, .ty T] ∧ kd H x ≠ "?" ∧ kitB (kd H x) T = some b ∧ Q (.bl b) H
theorem call_isB : CallR X (.builtin "isinstance") rIsB := fun pins s σ H xs us Q I r h => by
  obtain ⟨x, T, b, h1, h2, h3, h4⟩ := h
  exact call_isi pins s σ H xs us Q I r ⟨x, .ty T, _, _, b, h1, .ty T, kd_ty h2, kit_ty h3, h4⟩
def rIsBT : List V → Hp → VK → Prop := fun vs H Q => ∃ x p ts cs b, vs = [x, .ref p] ∧ H p = some (.tup ts) ∧ ts = List.map V.ty cs ∧ kd H x ≠ "?" ∧ kitAnyB (kd H x) cs = some b ∧ Q (.bl b) H
theorem call_isBT : CallR X (.builtin "isinstance") rIsBT := fun pins s σ H xs us Q I r h => by
  obtain ⟨x, p, ts, cs, b, h1, h2, rfl, h3, h4, h5⟩ := h
  exact call_isiT pins s σ H xs us Q I r ⟨x, p, _, _, _, b, h1, h2, clsV_all cs, kd_ty h3, kitAnyB_ok h4, h5⟩
theorem ex_ty2 {a b : String} {P : List String → Prop} : (∃ cs, [V.ty a, V.ty b] = List.map V.ty cs ∧ P cs) ↔ P [a, b] := by
  constructor
  · rintro ⟨cs, h, p⟩
    match cs, h with
    | [c, d], h =>
      injection h with h1 h2
      injection h1 with h1
      injection h2 with h2 _
      injection h2 with h2
      subst h1 h2
      exact p
  · exact fun p => ⟨[a, b], rfl, p⟩
def rMulS : R2 := fun x y H Q => ∃ z n, x = .str z ∧ y = .int n ∧ MulOk z n ∧ Q (.str (Txt.mul z n)) H
theorem op_mul_str : OpR X (binaryOp .Mult) rMulS := fun pins s σ H x y v u Q I rx ry h => by
  obtain ⟨z, n, rfl, rfl, h1, q⟩ := h
  obtain ⟨t, rfl⟩ := rx
  obtain ⟨t', rfl⟩ := ry
  exact PySem.SB.mul h1 fun t2 k => ⟨.str _, H, I.tok k, ⟨_, rfl⟩, q⟩
end
theorem kit_ss : kitB "str" "str" = some true := by decide +kernel
theorem kit_ns : kitB "NoneType" "str" = some false := by decide +kernel
theorem kit_bs : kitB "bool" "str" = some false := by decide +kernel
theorem kit_is : kitB "int" "str" = some false := by decide +kernel
theorem kit_ls : kitB "list" "str" = some false := by decide +kernel
theorem kit_ts : kitB "tuple" "str" = some false := by decide +kernel
theorem kit_ds : kitB "dict" "str" = some false := by decide +kernel
theorem kit_bb : kitB "bool" "bool" = some true := by decide +kernel
theorem kit_LTl : kitAnyB "list" ["list", "tuple"] = some true := by decide +kernel
theorem kit_LTt : kitAnyB "tuple" ["list", "tuple"] = some true := by decide +kernel
theorem kit_LTd : kitAnyB "dict" ["list", "tuple"] = some false := by decide +kernel
theorem kit_LTs : kitAnyB "str" ["list", "tuple"] = some false := by decide +kernel
theorem kit_LTn : kitAnyB "NoneType" ["list", "tuple"] = some false := by decide +kernel
theorem kit_LTb : kitAnyB "bool" ["list", "tuple"] = some false := by decide +kernel
theorem kit_LTi : kitAnyB "int" ["list", "tuple"] = some false := by decide +kernel
/-- a small text -/
def Sm (z : Str) : Prop := z.length ≤ 1000 ∧ ∀ c ∈ z.cps.toList, c < 128
/-- a thing that the laws hand about -/
inductive Thg (H : Hp) : V → Prop
  | non : Thg H .non
  | bl (b : Bool) : Thg H (.bl b)
  | int (i : Int) : Thg H (.int i)
  | str {z : Str} (h : Sm z) : Thg H (.str z)
  | lst {a : Addr} {xs : List V} (e : H a = some (.lst xs)) : Thg H (.ref a)
  | tup {a : Addr} {xs : List V} (e : H a = some (.tup xs)) : Thg H (.ref a)
  | dic {a : Addr} {kvs : List (Key × V)} (e : H a = some (.dK kvs)) : Thg H (.ref a)
theorem Thg.mono {H H' : Hp} {v : V} (s : Same H H') (h : Thg H v) : Thg H' v := by
  cases h with
  | non => exact .non
  | bl b => exact .bl b
  | int i => exact .int i
  | str h => exact .str h
  | lst e => exact .lst (s _ _ e)
  | tup e => exact .tup (s _ _ e)
  | dic e => exact .dic (s _ _ e)
def codeOf : V → Nat
  | .str z => z.cps.toList.headD 0
  | _ => 0
theorem codeOf_sgn {c : Nat} : codeOf (sgn c) = c := rfl
theorem mem_sgn {x : V} {l : List Nat} (h : x ∈ l.map sgn) : ∃ c, c ∈ l ∧ x = sgn c := by
  obtain ⟨c, h1, h2⟩ := List.mem_map.mp h
  exact ⟨c, h1, h2.symm⟩
theorem filter_all {α : Type} {l : List α} : l.filter (fun _ => true) = l := List.filter_eq_self.mpr fun _ _ => rfl
theorem size1000 {n : Nat} (h : n ≤ 1000) : n ≤ sizeLine := Nat.le_trans h (by decide)
theorem lt1p {a b : Nat} : ([a] < [b]) ↔ a < b := by
  refine ⟨fun h => ?_, fun h => List.cons_lt_cons_iff.mpr (.inl h)⟩
  rcases List.cons_lt_cons_iff.mp h with h | ⟨_, h⟩
  · exact h
  · exact absurd h (List.not_lt_nil _)
section
variable {X : Cx}
/-- a list == [] -/
def rEqNil : R2 := fun x y H Q => ∃ a b xs ys, x = .ref a ∧ y = .ref b ∧ H a = some (.lst xs) ∧ H b = some (.lst ys) ∧ ys = [] ∧ Q (.bl xs.isEmpty) H
theorem op_eqNil (hu : X.A.units + 64 < cLine) : OpR X (compareOp .Eq) rEqNil := fun pins s σ H x y v u Q I rx ry h => by
  obtain ⟨a, b, xs, ys, rfl, rfl, ha, hb, rfl, q⟩ := h
  cases rx
  cases ry
  obtain ⟨its, r, pl, hz⟩ := I.list (SqL.of ha)
  obtain ⟨its2, r2, pl2, hz2⟩ := I.list (SqL.of hb)
  have hl := r.length
  have hl2 := r2.length
  have hu' : X.A.units < cLine := by omega
  cases xs with
  | nil =>
    have e1 : its = [] := List.eq_nil_of_length_eq_zero hl.symm
    have e2 : its2 = [] := List.eq_nil_of_length_eq_zero hl2.symm
    subst e1 e2
    exact SeqAt.eq_listAt (e := fun _ => true) pl.isList pl2.isList rfl hu' (fun j h1 _ => absurd h1 (by simp)) ⟨.bl true, H, I, rfl, q⟩
  | cons x r' =>
    refine SeqAt.eq_list_lengthsAt pl.isList pl2.isList ?_ hu' ⟨.bl false, H, I, rfl, q⟩
    simp only [List.size_toArray, ← hl, ← hl2, List.length_cons, List.length_nil]
    simp
end

/-! ### the world of a law: the pool, and what is known beside it -/
def OffS (p l : Addr) (H H' : Hp) : Prop := ∀ b o, b ≠ p → b ≠ l → H b = some o → H' b = some o
theorem OffS.refl {p l : Addr} {H : Hp} : OffS p l H H := fun _ _ _ _ h => h
theorem OffS.trans {p l : Addr} {H H1 H2 : Hp} (a : OffS p l H H1) (b : OffS p l H1 H2) : OffS p l H H2 := fun x o h1 h2 h => b x o h1 h2 (a x o h1 h2 h)
theorem Off.s {p l : Addr} {H H' : Hp} (h : Off p l H H') : OffS p l H H' := fun b o h1 h2 e => by rw [h b h1 h2]; exact e
theorem same_off {p l : Addr} {H H' : Hp} (h : Same H H') : OffS p l H H' := fun b o _ _ e => h b o e
theorem PoolAt.mono {p l : Addr} {c c' : Nat} {H : Hp} (h : PoolAt p l c H) (hc : c ≤ c') : PoolAt p l c' H := by
  obtain ⟨ns, t, n, z, y, h1, h2, h3, h4, h5, h6, h7⟩ := h
  exact ⟨ns, t, n, z, y, h1, h2, h3, h4, h5, by omega, h7⟩
theorem PoolAt.same {p l : Addr} {c : Nat} {H H' : Hp} (s : Same H H') (h : PoolAt p l c H) : PoolAt p l c H' := by
  obtain ⟨ns, t, n, z, y, h1, h2, h3⟩ := h
  exact ⟨ns, t, n, z, y, s _ _ h1, s _ _ h2, h3⟩
theorem PoolAt.np {p l : Addr} {c : Nat} {H : Hp} {q : Addr} (h : PoolAt p l c H) (hq : H q = none) : q ≠ p ∧ q ≠ l := by
  obtain ⟨ns, t, n, z, y, h1, h2, h3⟩ := h
  exact ⟨(ne_of_none h1 hq).symm, (ne_of_none h2 hq).symm⟩
/-- G: what is known, all of it in H, nothing of it the pool's -/
structure Wd (p l : Addr) (c : Nat) (G H : Hp) : Prop where
  pool : PoolAt p l c H
  kn : Same G H
  gp : G p = none
  gl : G l = none
theorem Wd.mono {p l : Addr} {c c' : Nat} {G H : Hp} (h : Wd p l c G H) (hc : c ≤ c') : Wd p l c' G H := ⟨h.pool.mono hc, h.kn, h.gp, h.gl⟩
theorem Wd.ne {p l : Addr} {c : Nat} {G H : Hp} (h : Wd p l c G H) {b : Addr} {o : HO} (e : G b = some o) : b ≠ p ∧ b ≠ l := ⟨ne_of_none e h.gp, ne_of_none e h.gl⟩
/-- all but the pool kept, the pool as it is now -/
theorem Wd.turn {p l : Addr} {c c' : Nat} {G H H' : Hp} (h : Wd p l c G H) (hp : PoolAt p l c' H') (off : OffS p l H H') : Wd p l c' G H' :=
  ⟨hp, fun b o e => off b o (h.ne e).1 (h.ne e).2 (h.kn b o e), h.gp, h.gl⟩
theorem Wd.same {p l : Addr} {c : Nat} {G H H' : Hp} (h : Wd p l c G H) (s : Same H H') : Wd p l c G H' := h.turn (h.pool.same s) (same_off s)
theorem Wd.add {p l : Addr} {c : Nat} {G H H' : Hp} {q : Addr} {o : HO} (h : Wd p l c G H) (s : OffS p l H H') (hp : PoolAt p l c H') (hq : H q = none) (e : H' q = some o) : Wd p l c (upd G q o) H' := by
  have n := h.pool.np hq
  refine ⟨hp, fun b u hb => ?_, by rw [upd_ne n.1.symm]; exact h.gp, by rw [upd_ne n.2.symm]; exact h.gl⟩
  by_cases hbq : b = q
  · subst hbq
    rw [upd_same] at hb
    rw [← Option.some.inj hb]
    exact e
  · rw [upd_ne hbq] at hb
    exact (h.turn hp s).kn b u hb
theorem Wd.new {p l : Addr} {c : Nat} {G H : Hp} {q : Addr} {o : HO} (h : Wd p l c G H) (hq : H q = none) : Wd p l c (upd G q o) (upd H q o) :=
  h.add (same_off (same_new hq)) (h.pool.same (same_new hq)) hq upd_same
theorem Wd.free {p l : Addr} {c : Nat} {G H : Hp} {q : Addr} (h : Wd p l c G H) (hq : H q = none) : G q = none := h.kn.free hq
theorem Wd.alloc {p l : Addr} {c : Nat} {G H H1 : Hp} {q : Addr} {o : HO} (h : Wd p l c G H) (hq : H q = none) (s : Same H H1) (e : H1 q = some o) : ∃ G1, Wd p l c G1 H1 ∧ Same G G1 ∧ G1 q = some o :=
  ⟨_, h.add (same_off s) (h.pool.same s) hq e, same_new (h.free hq), upd_same⟩
/-- what has come: more is known, all but the pool is kept, what is newly known was free -/
structure Gw (p l : Addr) (G H G' H' : Hp) : Prop where
  gg : Same G G'
  off : OffS p l H H'
  fr : ∀ b o, G' b = some o → G b = some o ∨ H b = none
theorem Gw.refl {p l : Addr} {G H : Hp} : Gw p l G H G H := ⟨Same.refl _, OffS.refl, fun _ _ h => .inl h⟩
theorem Gw.trans {p l : Addr} {c : Nat} {G H G1 H1 G2 H2 : Hp} (a : Gw p l G H G1 H1) (w1 : PoolAt p l c H1) (b : Gw p l G1 H1 G2 H2) : Gw p l G H G2 H2 := by
  refine ⟨a.gg.trans b.gg, a.off.trans b.off, fun x o h => ?_⟩
  rcases b.fr x o h with h1 | h1
  · exact a.fr x o h1
  · refine .inr ?_
    cases q : H x with
    | none => rfl
    | some u =>
      have n := w1.np h1
      rw [a.off x u n.1 n.2 q] at h1
      cases h1
theorem Gw.same {p l : Addr} {G H H' : Hp} (s : Same H H') : Gw p l G H G H' := ⟨Same.refl _, same_off s, fun _ _ h => .inl h⟩
theorem Gw.of {p l : Addr} {G H H' : Hp} (s : OffS p l H H') : Gw p l G H G H' := ⟨Same.refl _, s, fun _ _ h => .inl h⟩
theorem Gw.add {p l : Addr} {G H H' : Hp} {q : Addr} {o : HO} (s : OffS p l H H') (hq : H q = none) (hg : G q = none) : Gw p l G H (upd G q o) H' := by
  refine ⟨same_new hg, s, fun b u h => ?_⟩
  by_cases e : b = q
  · subst e
    exact .inr hq
  · rw [upd_ne e] at h
    exact .inl h
/-- a comprehension whose turns draw: at most k draws a turn, each item is as Pz says -/
theorem lc_pool {J : It} {xs : List V} {Gd : Hp → Prop} (w : Walk J xs.length Gd (YAt xs)) {g : TG} {tt : TT} {te : TE} {vs : List Nat} {σ : St} {D : Addr} {Q : VK} {H1 G : Hp} {p l : Addr} {c k : Nat} (Pz : V → Hp → Prop) (hmono : ∀ v G G', Same G G' → Pz v G → Pz v G')
    (hw : Wd p l c G H1) (hD : H1 D = none) (hGd : ∀ H, OffS p l H1 H → Gd H) (hz : xs.length ≤ 100000)
    (turn : ∀ x, x ∈ xs → ∀ G2 H2 c2, Gw p l G H1 G2 H2 → Wd p l c2 G2 H2 → c2 ≤ c + k * xs.length → ∀ (R : VK) (R0 : Hp → Prop), (∀ v G3 H3, Pz v G3 → Wd p l (c2 + k) G3 H3 → Gw p l G2 H2 G3 H3 → R v H3) → g x (wipe σ vs) H2 fun σ2 H3 => wipe σ2 vs = wipe σ vs ∧ tt σ2 H3 fun b H4 => if b = true then te σ2 H4 R else R0 H4)
    (done : ∀ acc G' H', acc.length = xs.length → (∀ v ∈ acc, Pz v G') → Gw p l G H1 G' H' → Wd p l (c + k * xs.length) G' H' → G' D = some (.lst acc) → Q (.ref D) H') : lcGo J g tt te vs σ D Q H1 := by
  have nD := hw.pool.np hD
  have offD : ∀ {H2 H3 : Hp} {o : HO}, OffS p l H1 H2 → OffS p l H2 H3 → OffS p l H1 (upd H3 D o) := fun a b x o h1 h2 e => by
    rw [upd_ne (ne_of_none e hD)]
    exact b x o h1 h2 (a x o h1 h2 e)
  refine lc_it w (fun i H => ∃ G' acc, acc.length = i ∧ (∀ v ∈ acc, Pz v G') ∧ Gw p l G H1 G' H ∧ Wd p l (c + k * i) G' H ∧ G' D = none ∧ H D = some (.lst acc)) ?_ (fun i H _ q => ?_) (fun i x H H' hi q y => ?_) (fun H q => ?_)
  · exact ⟨G, [], rfl, fun _ h => (nomatch h), Gw.same (same_new hD), (hw.same (same_new hD)), hw.free hD, upd_same⟩
  · obtain ⟨G', acc, _, _, gw, _⟩ := q
    exact hGd H gw.off
  · obtain ⟨rfl, hx⟩ := y
    obtain ⟨G2, acc, ha, hP, gw, hw2, gD, hacc⟩ := q
    have hk : k * i ≤ k * xs.length := Nat.mul_le_mul_left k (by omega)
    refine turn x (List.mem_of_getElem? hx) G2 _ (c + k * i) gw hw2 (by omega) _ _ fun v G3 H3 hv hw3 g3 => ?_
    have hD3 : H3 D = some (.lst acc) := g3.off D _ nD.1 nD.2 hacc
    have gD3 : G3 D = none := by
      cases e : G3 D with
      | none => rfl
      | some o =>
        rcases g3.fr D o e with h | h
        · rw [gD] at h; cases h
        · rw [hacc] at h; cases h
    have gw3 : Gw p l G H1 G3 H3 := gw.trans hw2.pool g3
    refine ⟨acc, hD3, Nat.lt_of_le_of_lt (m := 100000) (by omega) (by decide), G3, acc ++ [v], by rw [List.length_append, ha]; rfl, fun u hu => ?_, ⟨gw3.gg, offD gw3.off OffS.refl, gw3.fr⟩, ?_, gD3, upd_same⟩
    · rcases List.mem_append.mp hu with h | h
      · exact hmono u _ _ g3.gg (hP u h)
      · rw [List.mem_singleton.mp h]
        exact hv
    · have e : c + k * (i + 1) = c + k * i + k := by rw [Nat.mul_add, Nat.mul_one, Nat.add_assoc]
      rw [e]
      obtain ⟨ns, t, n, z, y, h1, h2, h3⟩ := hw3.pool
      refine ⟨⟨ns, t, n, z, y, by rw [upd_ne nD.1.symm]; exact h1, by rw [upd_ne nD.2.symm]; exact h2, h3⟩, fun b o hb => ?_, hw3.gp, hw3.gl⟩
      rw [upd_ne (ne_of_none hb gD3)]
      exact hw3.kn b o hb
  · obtain ⟨G', acc, ha, hP, gw, hw2, gD, hacc⟩ := q
    have sg : Same G' (upd G' D (.lst acc)) := same_new gD
    refine done acc (upd G' D (.lst acc)) H ha (fun v hv => hmono v _ _ sg (hP v hv)) ⟨gw.gg.trans sg, gw.off, fun b o hb => ?_⟩ ⟨hw2.pool, fun b o hb => ?_, by rw [upd_ne nD.1.symm]; exact hw2.gp, by rw [upd_ne nD.2.symm]; exact hw2.gl⟩ upd_same
    · by_cases e : b = D
      · subst e
        exact .inr hD
      · rw [upd_ne e] at hb
        exact gw.fr b o hb
    · by_cases e : b = D
      · subst e
        rw [upd_same] at hb
        rw [← Option.some.inj hb]
        exact hacc
      · rw [upd_ne e] at hb
        exact hw2.kn b o hb
/-! ### data compared -/
theorem dp_strs {K : PySem.W.Frag} {H : Hp} : ∀ (zs : List Str), DpAll K H (zs.map V.str) (zs.map PyData.str)
  | [] => .nil
  | z :: r => .cons (.str z) (dp_strs r)
theorem lay_strs : ∀ (zs : List Str), (∀ z ∈ zs, ∀ c ∈ z.cps.toList, c < 128) → PyData.canLayAll0 (zs.map PyData.str) = true
  | [], _ => rfl
  | z :: r, h => by
    have h1 : PyData.strOk z = true := by
      unfold PyData.strOk
      rw [Array.all_eq_true']
      intro c hc
      exact decide_eq_true (Nat.lt_trans (h z List.mem_cons_self c (by simpa using hc)) (by decide))
    show (PyData.canLay0 (.str z) && PyData.canLayAll0 (r.map PyData.str)) = true
    rw [lay_strs r fun y hy => h y (List.mem_cons_of_mem _ hy), Bool.and_true]
    exact h1
theorem dep_strs : ∀ (zs : List Str), PyData.depthAll (zs.map PyData.str) ≤ 1
  | [] => by simp [PyData.depthAll]
  | z :: r => by
    have := dep_strs r
    simp only [List.map_cons, PyData.depthAll, PyData.depth]
    omega
theorem shaped_strs {zs : List Str} (h : ∀ z ∈ zs, ∀ c ∈ z.cps.toList, c < 128) : SeqAt.shaped (.list (zs.map PyData.str)) = true := by
  unfold SeqAt.shaped
  have h1 := dep_strs zs
  have h2 : PyData.canLay0 (.list (zs.map PyData.str)) = true := lay_strs zs h
  rw [h2, Bool.true_and]
  refine decide_eq_true ?_
  simp only [PyData.depth]
  omega
theorem shaped_nil : SeqAt.shaped (.list []) = true := by decide
theorem eqv_nil {ds : List PyData} : PyData.eqv (.list ds) (.list []) = ds.isEmpty := by
  cases ds <;> simp [PyData.eqv, PyData.eqvAll]
theorem strs_of {xs : List V} (h : ∀ x ∈ xs, ∃ z, x = V.str z) : ∃ zs : List Str, xs = zs.map V.str := by
  induction xs with
  | nil => exact ⟨[], rfl⟩
  | cons x r ih =>
    obtain ⟨z, rfl⟩ := h x List.mem_cons_self
    obtain ⟨zs, rfl⟩ := ih fun y hy => h y (List.mem_cons_of_mem _ hy)
    exact ⟨z :: zs, rfl⟩
/-- texts == [] -/
theorem eqD_nil {K : PySem.W.Frag} {H : Hp} {a b : Addr} {zs : List Str} {Q : VK} (ha : H a = some (.lst (zs.map V.str))) (hb : H b = some (.lst [])) (h : ∀ z ∈ zs, ∀ c ∈ z.cps.toList, c < 128) (k : Q (.bl zs.isEmpty) H) : rEqD K (.ref a) (.ref b) H Q := by
  refine ⟨.list (zs.map PyData.str), .list [], .lst (SqL.of ha) (dp_strs zs), .lst (SqL.of hb) .nil, shaped_strs h, shaped_nil, ?_⟩
  rw [eqv_nil]
  cases zs <;> exact k
theorem eqD_nn {K : PySem.W.Frag} {H : Hp} {a b : Addr} {Q : VK} (ha : H a = some (.lst [])) (hb : H b = some (.lst [])) (k : Q (.bl true) H) : rEqD K (.ref a) (.ref b) H Q := eqD_nil (zs := []) ha hb (fun _ h => (nomatch h)) k
theorem neD_nn {K : PySem.W.Frag} {H : Hp} {a b : Addr} {Q : VK} (ha : H a = some (.lst [])) (hb : H b = some (.lst [])) (k : Q (.bl false) H) : rNeD K (.ref a) (.ref b) H Q := by
  refine ⟨.list [], .list [], .lst (SqL.of ha) .nil, .lst (SqL.of hb) .nil, shaped_nil, shaped_nil, ?_⟩
  rw [eqv_nil]
  exact k
/-! ### texts -/
theorem join_sm {ys : List Str} (h1 : ∀ y ∈ ys, y.length = 1) (h2 : ∀ y ∈ ys, ∀ c ∈ y.cps.toList, c < 128) : (Txt.join Str.empty ys).length ≤ ys.length ∧ ∀ c ∈ (Txt.join Str.empty ys).cps.toList, c < 128 := by
  have e : Txt.join Str.empty ys = Str.join Str.empty ys := StrLaws.glued_eq_join _ _
  rw [e]
  refine ⟨?_, fun c hc => ?_⟩
  · refine Nat.le_trans (StrLaws.join_length_le _ _) ?_
    have e2 : ys.map (·.length) = ys.map (fun _ => 1) := List.map_congr_left h1
    rw [e2, List.map_const', List.sum_replicate_nat]
    show ys.length * 1 + ys.length * 0 ≤ ys.length
    omega
  · rcases (PyProof.Rows.mem_join _ c ys).mp hc with ⟨t, ht, h⟩ | ⟨_, h⟩
    · exact h2 t ht c h
    · exact absurd (show c ∈ ([] : List Nat) from h) List.not_mem_nil
theorem at_of' {α : Type} {xs : List α} {z : Int} {j : Nat} {v : α} (e : z = (j : Int)) (h : xs[j]? = some v) : atI xs z = some v := by
  rw [e]
  exact atI_nat h
theorem atI_ex {α : Type} {xs : List α} {i : Int} (h0 : 0 ≤ i) (h1 : i < (xs.length : Int)) : ∃ v, atI xs i = some v ∧ v ∈ xs ∧ xs[i.toNat]? = some v := by
  have q : i = ((i.toNat : Nat) : Int) := (Int.toNat_of_nonneg h0).symm
  have q2 : i.toNat < xs.length := by omega
  have q3 : xs[i.toNat]? = some xs[i.toNat] := List.getElem?_eq_getElem q2
  exact ⟨xs[i.toNat], at_of' q q3, List.getElem_mem q2, q3⟩
theorem int62 {m : Int} (h0 : 0 ≤ m) (h : m ≤ 100000) : -2 ^ 62 ≤ m ∧ m < 2 ^ 62 := by
  have e : (2 : Int) ^ 62 = 4611686018427387904 := by decide
  omega
theorem wd0 {p l : Addr} {c : Nat} {H : Hp} (h : PoolAt p l c H) : Wd p l c (fun _ => none) H := ⟨h, fun _ _ e => (nomatch e), rfl, rfl⟩
theorem filter_empty {α : Type} {l : List α} {f : α → Bool} : (l.filter fun c => !f c).isEmpty = l.all f := by
  induction l with
  | nil => rfl
  | cons a r ih =>
    rw [List.filter_cons, List.all_cons]
    cases e : f a with
    | true => simpa [e] using ih
    | false => simp [e]
theorem rng_item {lo : Int} {n i : Nat} {x : V} (h : (rngV lo n)[i]? = some x) : x = .int (lo + (i : Int)) ∧ i < n := by
  have hi : i < n := by
    have := (List.getElem?_eq_some_iff.mp h).1
    rw [rngV_len] at this
    exact this
  unfold rngV at h
  rw [List.getElem?_map, List.getElem?_range hi] at h
  exact ⟨(Option.some.inj h).symm, hi⟩
theorem cutS_sm {z : Str} {lo hi : Option Int} (h : ∀ c ∈ z.cps.toList, c < 128) : ∀ c ∈ (cutS z lo hi).cps.toList, c < 128 := fun c hc => by
  unfold cutS at hc
  have hc : c ∈ (z.cps.toList.drop (HT.sIx z.length 0 lo)).take (HT.sIx z.length z.length hi - HT.sIx z.length 0 lo) := by simpa using hc
  exact h c (List.mem_of_mem_drop (List.mem_of_mem_take hc))
theorem app_sm {x y : Str} (h1 : ∀ c ∈ x.cps.toList, c < 128) (h2 : ∀ c ∈ y.cps.toList, c < 128) : ∀ c ∈ (x ++ y).cps.toList, c < 128 := fun c hc => by
  have e : (x ++ y).cps.toList = x.cps.toList ++ y.cps.toList := by
    show (x.cps ++ y.cps).toList = _
    rw [Array.toList_append]
  rw [e] at hc
  rcases List.mem_append.mp hc with h | h
  · exact h1 c h
  · exact h2 c h
theorem app_len {x y : Str} : (x ++ y).length = x.length + y.length := by
  show (x.cps ++ y.cps).size = _
  rw [Array.size_append]
  rfl

theorem nox_K {X : Cx} : X.nox.K = X.K := rfl
def tNever : TS := fun _ _ _ => False
theorem ps_never {X : Cx} {st : Stmt} : PS X st tNever := ⟨fun _ _ _ _ _ _ h => h.elim⟩

/-- one statement at a time: what follows is N -/
theorem seq_gen {t v : TS} {D : Ends} {σ : St} {H : Hp} (h : ∀ N : St → Hp → Prop, (∀ σ H, N σ H = v D σ H) → t { D with nx := N } σ H) : tSeq t v D σ H := h (v D) fun _ _ => rfl
theorem join {J : St → Hp → Prop} {t v : TS} {D : Ends} {σ : St} {H : Hp} (k : ∀ σ H, J σ H → v D σ H) (h : ∀ N : St → Hp → Prop, (∀ σ H, J σ H → N σ H) → t { D with nx := N } σ H) : tSeq t v D σ H := h (v D) k
theorem ty_same {H H' : Hp} {v : V} {t : Value} (s : Same H H') (h : tyV H v = some t) : tyV H' v = some t := by
  cases v with
  | ref a =>
    have h : tyO (H a) = some t := h
    show tyO (H' a) = some t
    cases e : H a with
    | none => rw [e] at h; cases h
    | some o => rw [s _ _ e, ← e]; exact h
  | _ => exact h
/-- where a new tuple is told, the pool's world goes on -/
theorem Wd.told {p l : Addr} {c c' : Nat} {G H H' : Hp} {q : Addr} {o : HO} (h : Wd p l c G H) (nq : H q = none) (hq : H' q = some o) (hp : PoolAt p l c' H') (off : OffS p l H H') : ∃ G1, Wd p l c' G1 H' ∧ Same G G1 ∧ G1 q = some o := by
  have np := h.pool.np nq
  have w5 := h.turn hp off
  refine ⟨upd G q o, ⟨hp, fun x u e => ?_, by rw [upd_ne np.1.symm]; exact h.gp, by rw [upd_ne np.2.symm]; exact h.gl⟩, same_new (h.free nq), upd_same⟩
  by_cases ex : x = q
  · subst ex
    rw [upd_same] at e
    rw [← Option.some.inj e]
    exact hq
  · rw [upd_ne ex] at e
    exact w5.kn x u e

/-! ## signs, ignored signs -/
def signOk (c : Nat) : Bool := decide (32 ≤ c) && decide (c ≤ 126)
theorem cSp : (Str.ofString " ").cps.toList = [32] := by decide +kernel
theorem cTi : (Str.ofString "~").cps.toList = [126] := by decide +kernel
theorem empS : Str.ofString "" = Str.empty := by decide +kernel
theorem sign_lo {c : Nat} (h : c < 32) : (!signOk c) = true := by
  unfold signOk
  rw [decide_eq_false (show ¬ 32 ≤ c by omega)]
  rfl
theorem sign_hi {c : Nat} (h : 126 < c) : (!signOk c) = true := by
  unfold signOk
  rw [decide_eq_false (show ¬ c ≤ 126 by omega), Bool.and_false]
  rfl
theorem sign_ok {c : Nat} (h : ¬ c < 32) (h' : ¬ 126 < c) : (!signOk c) = false := by
  unfold signOk
  rw [decide_eq_true (show 32 ≤ c by omega), decide_eq_true (show c ≤ 126 by omega)]
  rfl
section
variable {P : Program} {w : World} {K : PySem.W.Frag} {mg : Str → Option Value} {base : Heap} {A : Adr}
def spIsSign : Sp := fun vs H Q _ => ∃ c : Nat, vs = [.str ⟨#[c]⟩] ∧ Q (.bl (signOk c)) H
theorem ok_is_sign (T : Txt K mg A) : FnOk P w K mg base CX0 1 A.a_IsSign A.d_IsSign ["sign"] spIsSign := by
  refine T.f_IsSign.ok scIsSign (fun vs H Q E h => ?_) (fun cdv A' outer s H vs Q E hr h => ?_)
  · obtain ⟨c, rfl, _⟩ := h
    rfl
  · obtain ⟨c, rfl, k⟩ := h
    refine ⟨_, (pss_one (ps_ret (pe_chain (op_le_str) (op_le_str) pe_str (pv 0) pe_str))), ?_⟩
    try simp only [tSeq, tNext, tRet, tRetN, tAsg, gName, gSub, tDrop, tIfS, tOp, tUn, tCB, tCons, tNil, tC, tVar, rI, rI0, rU, tAnd, tOr, tNot, tAndV, tOrV, tNotV, tIf, tTest, tB, tCall, tChain, tLst, tTup, tYes, rIxH, rIsB, rIsBT, rMulS, kd_non, kd_bl, kd_int, kd_str, kd_ref, kdO_lst, kdO_tup, kdO_dK, nq_n, nq_b, nq_i, nq_s, nq_l, nq_t, nq_d, ne_eq, not_false_eq_true, kit_ss, kit_ns, kit_bs, kit_is, kit_ls, kit_ts, kit_ds, kit_bb, V.ty.injEq, and_assoc, rIxU, rLenH, rLenU, rLenS, rInt1, rSetL, rEq, rNe, rCat, L2.start, List.map, List.length, List.length_cons, List.length_nil, List.replicate, List.getElem?_cons_zero, List.getElem?_cons_succ, List.set_cons_zero, List.set_cons_succ, List.set_nil, List.cons_append, List.nil_append, List.append_nil, Option.some.injEq, V.int.injEq, V.ref.injEq, V.str.injEq, V.bl.injEq, HO.lst.injEq, HO.tup.injEq, exists_eq_left', exists_and_left, exists_eq_left, List.cons.injEq, and_true, true_and, and_false, false_and, and_self, reduceCtorEq, exists_false, or_false, false_or, exists_const, at0, at1, at2, at3, at4, at5, ix51, ix52, ix54, upd_same, Nat.reduceAdd, Nat.reduceSub, Nat.zero_add, Int.reduceToNat, Int.reduceLE, Int.reduceLT, decide_eq_true_eq, Bool.not_eq_true, if_true, if_false, Bool.false_eq_true, ite_true, ite_false, Bool.not_true, Bool.not_false, decide_true, decide_false, tFor_eq, tLc_eq, iList, iTup, iRng1, iRng2, iStr, tSl, tPart, tNoPart, rSlL, cxOf_K, wipe, ex_ty2, kit_LTl, kit_LTt, kit_LTd, kit_LTs, kit_LTn, kit_LTb, kit_LTi, tM1, rIxS, exists_eq', lt1p, tDNewK, rSlS, rEqNil, cSp, cTi]
    have e : signOk c = (!decide (c < 32) && !decide (126 < c)) := by
      unfold signOk
      rw [Bool.eq_iff_iff]
      simp only [Bool.and_eq_true, Bool.not_eq_true', decide_eq_true_eq, decide_eq_false_iff_not]
      omega
    rw [e] at k
    refine ite2 (fun h => ?_) (fun h => ?_)
    · rw [h] at k
      exact k
    · rw [Bool.not_eq_true] at h
      rw [h] at k
      exact k
end

/-! ### lines -/
def isLineV : V → Bool
  | .str z => decide (z.length ≤ 40) && z.cps.toList.all signOk
  | _ => false
section
variable {P : Program} {w : World} {K : PySem.W.Frag} {mg : Str → Option Value} {base : Heap} {A : Adr}
def spIsLine : Sp := fun vs H Q _ => ∃ v, vs = [v] ∧ Thg H v ∧ ∀ H', Same H H' → Q (.bl (isLineV v)) H'
theorem ok_is_line (T : Txt K mg A) (gIsSign : FnOk P w K mg base CX0 1 A.a_IsSign A.d_IsSign ["sign"] spIsSign) : FnOk P w K mg base CX0 2 A.a_IsLine A.d_IsLine ["value"] spIsLine := by
  refine T.f_IsLine.ok scIsLine (fun vs H Q E h => ?_) (fun cdv A' outer s H vs Q E hr h => ?_)
  · obtain ⟨v, rfl, _⟩ := h
    rfl
  · obtain ⟨v, rfl, ht, k⟩ := h
    refine ⟨_, (pss_one (ps_ret (pe_and (pe_callB call_isB (by rfl) T.z_isinstance (by decide +kernel) (pa_cons (pv 0) (pa_cons (pe_bltn (v := .ty "str") (by rfl) T.z_str (by decide +kernel) rfl) pa_nil))) (pe_and (pe_cmpR (op_le) (pe_callB call_lenS (by rfl) T.z_len (by decide +kernel) (pa_cons (pv 0) pa_nil)) (pe_glob (v := .int 40) (by rfl) T.c_MOST_SIGNS.choose_spec ⟨_, rfl⟩) (nomark _)) (pe_one (pe_callB (cr_all rfl) (by rfl) T.z_all (by decide +kernel) (pa_cons (pe_lc (own := [("sign", 1)]) (g := gName 1) (tt := tYes) (by rfl) scIsLine.nd (pi_str (pv 0)) (blkOk_by (own := [("sign", 1)]) (N := nIsLine) (sc := defScope sIsLine) (by decide +kernel)) (fun _ _ _ _ _ => pg_name (i := 1) scIsLine.nd rfl (Or.inl rfl)) (fun _ _ _ _ _ => pts_nil) (fun _ _ _ _ _ => (pe_call gIsSign (hr.mono (by decide)) (by rfl) T.m_IsSign T.f_IsSign.kp T.b_IsSign .nil pass0 (pa_cons (pv 1) pa_nil)))) pa_nil))))))), ?_⟩
    cases ht with
    | str hz =>
      try simp only [tSeq, tNext, tRet, tRetN, tAsg, gName, gSub, tDrop, tIfS, tOp, tUn, tCB, tCons, tNil, tC, tVar, rI, rI0, rU, tAnd, tOr, tNot, tAndV, tOrV, tNotV, tIf, tTest, tB, tCall, tChain, tLst, tTup, tYes, rIxH, rIsB, rIsBT, rMulS, kd_non, kd_bl, kd_int, kd_str, kd_ref, kdO_lst, kdO_tup, kdO_dK, nq_n, nq_b, nq_i, nq_s, nq_l, nq_t, nq_d, ne_eq, not_false_eq_true, kit_ss, kit_ns, kit_bs, kit_is, kit_ls, kit_ts, kit_ds, kit_bb, V.ty.injEq, and_assoc, rIxU, rLenH, rLenU, rLenS, rInt1, rSetL, rEq, rNe, rCat, L2.start, List.map, List.length, List.length_cons, List.length_nil, List.replicate, List.getElem?_cons_zero, List.getElem?_cons_succ, List.set_cons_zero, List.set_cons_succ, List.set_nil, List.cons_append, List.nil_append, List.append_nil, Option.some.injEq, V.int.injEq, V.ref.injEq, V.str.injEq, V.bl.injEq, HO.lst.injEq, HO.tup.injEq, exists_eq_left', exists_and_left, exists_eq_left, List.cons.injEq, and_true, true_and, and_false, false_and, and_self, reduceCtorEq, exists_false, or_false, false_or, exists_const, at0, at1, at2, at3, at4, at5, ix51, ix52, ix54, upd_same, Nat.reduceAdd, Nat.reduceSub, Nat.zero_add, Int.reduceToNat, Int.reduceLE, Int.reduceLT, decide_eq_true_eq, Bool.not_eq_true, if_true, if_false, Bool.false_eq_true, ite_true, ite_false, Bool.not_true, Bool.not_false, decide_true, decide_false, tFor_eq, tLc_eq, iList, iTup, iRng1, iRng2, iStr, tSl, tPart, tNoPart, rSlL, cxOf_K, wipe, ex_ty2, kit_LTl, kit_LTt, kit_LTd, kit_LTs, kit_LTn, kit_LTb, kit_LTi, tM1, rIxS, exists_eq', lt1p, tDNewK, rSlS, rEqNil]
      rename_i z
      have hz1 := hz.1
      refine ⟨size1000 hz1, ite2 (fun h => fun D hD => ?_) (fun h => ?_)⟩
      · refine lc_same walk_strY (fun _ => true) (fun v => .bl (signOk (codeOf v))) hD (fun _ _ => trivial) (by rw [List.length_map, Array.length_toList]; show z.length ≤ _; omega) (fun x hx H2 s2 R R0 h1 _ => ?_) (fun H2 s2 h2 => ?_)
        · obtain ⟨c, hc, rfl⟩ := mem_sgn hx
          try simp only [tSeq, tNext, tRet, tRetN, tAsg, gName, gSub, tDrop, tIfS, tOp, tUn, tCB, tCons, tNil, tC, tVar, rI, rI0, rU, tAnd, tOr, tNot, tAndV, tOrV, tNotV, tIf, tTest, tB, tCall, tChain, tLst, tTup, tYes, rIxH, rIsB, rIsBT, rMulS, kd_non, kd_bl, kd_int, kd_str, kd_ref, kdO_lst, kdO_tup, kdO_dK, nq_n, nq_b, nq_i, nq_s, nq_l, nq_t, nq_d, ne_eq, not_false_eq_true, kit_ss, kit_ns, kit_bs, kit_is, kit_ls, kit_ts, kit_ds, kit_bb, V.ty.injEq, and_assoc, rIxU, rLenH, rLenU, rLenS, rInt1, rSetL, rEq, rNe, rCat, L2.start, List.map, List.length, List.length_cons, List.length_nil, List.replicate, List.getElem?_cons_zero, List.getElem?_cons_succ, List.set_cons_zero, List.set_cons_succ, List.set_nil, List.cons_append, List.nil_append, List.append_nil, Option.some.injEq, V.int.injEq, V.ref.injEq, V.str.injEq, V.bl.injEq, HO.lst.injEq, HO.tup.injEq, exists_eq_left', exists_and_left, exists_eq_left, List.cons.injEq, and_true, true_and, and_false, false_and, and_self, reduceCtorEq, exists_false, or_false, false_or, exists_const, at0, at1, at2, at3, at4, at5, ix51, ix52, ix54, upd_same, Nat.reduceAdd, Nat.reduceSub, Nat.zero_add, Int.reduceToNat, Int.reduceLE, Int.reduceLT, decide_eq_true_eq, Bool.not_eq_true, if_true, if_false, Bool.false_eq_true, ite_true, ite_false, Bool.not_true, Bool.not_false, decide_true, decide_false, tFor_eq, tLc_eq, iList, iTup, iRng1, iRng2, iStr, tSl, tPart, tNoPart, rSlL, cxOf_K, wipe, ex_ty2, kit_LTl, kit_LTt, kit_LTd, kit_LTs, kit_LTn, kit_LTb, kit_LTi, tM1, rIxS, exists_eq', lt1p, tDNewK, rSlS, rEqNil]
          exact ⟨c, rfl, h1 H2 (Same.refl _) rfl⟩
        · rw [filter_all, List.map_map] at h2
          refine ⟨D, z.cps.toList.map signOk, rfl, SqL.of (by rw [h2, List.map_map]; rfl), ?_⟩
          have e : isLineV (.str z) = (z.cps.toList.map signOk).all id := by
            show (decide (z.length ≤ 40) && z.cps.toList.all signOk) = _
            rw [decide_eq_true (show z.length ≤ 40 by omega), Bool.true_and, List.all_map]
            rfl
          rw [← e]
          exact k H2 s2
      · have e : isLineV (.str z) = false := by
          show (decide (z.length ≤ 40) && z.cps.toList.all signOk) = _
          rw [decide_eq_false (show ¬ z.length ≤ 40 by omega), Bool.false_and]
        rw [← e]
        exact k H (Same.refl H)
    | lst e =>
      try simp only [tSeq, tNext, tRet, tRetN, tAsg, gName, gSub, tDrop, tIfS, tOp, tUn, tCB, tCons, tNil, tC, tVar, rI, rI0, rU, tAnd, tOr, tNot, tAndV, tOrV, tNotV, tIf, tTest, tB, tCall, tChain, tLst, tTup, tYes, rIxH, rIsB, rIsBT, rMulS, kd_non, kd_bl, kd_int, kd_str, kd_ref, kdO_lst, kdO_tup, kdO_dK, nq_n, nq_b, nq_i, nq_s, nq_l, nq_t, nq_d, ne_eq, not_false_eq_true, kit_ss, kit_ns, kit_bs, kit_is, kit_ls, kit_ts, kit_ds, kit_bb, V.ty.injEq, and_assoc, rIxU, rLenH, rLenU, rLenS, rInt1, rSetL, rEq, rNe, rCat, L2.start, List.map, List.length, List.length_cons, List.length_nil, List.replicate, List.getElem?_cons_zero, List.getElem?_cons_succ, List.set_cons_zero, List.set_cons_succ, List.set_nil, List.cons_append, List.nil_append, List.append_nil, Option.some.injEq, V.int.injEq, V.ref.injEq, V.str.injEq, V.bl.injEq, HO.lst.injEq, HO.tup.injEq, exists_eq_left', exists_and_left, exists_eq_left, List.cons.injEq, and_true, true_and, and_false, false_and, and_self, reduceCtorEq, exists_false, or_false, false_or, exists_const, at0, at1, at2, at3, at4, at5, ix51, ix52, ix54, upd_same, Nat.reduceAdd, Nat.reduceSub, Nat.zero_add, Int.reduceToNat, Int.reduceLE, Int.reduceLT, decide_eq_true_eq, Bool.not_eq_true, if_true, if_false, Bool.false_eq_true, ite_true, ite_false, Bool.not_true, Bool.not_false, decide_true, decide_false, tFor_eq, tLc_eq, iList, iTup, iRng1, iRng2, iStr, tSl, tPart, tNoPart, rSlL, cxOf_K, wipe, ex_ty2, kit_LTl, kit_LTt, kit_LTd, kit_LTs, kit_LTn, kit_LTb, kit_LTi, tM1, rIxS, exists_eq', lt1p, tDNewK, rSlS, rEqNil, e]
      exact k H (Same.refl H)
    | tup e =>
      try simp only [tSeq, tNext, tRet, tRetN, tAsg, gName, gSub, tDrop, tIfS, tOp, tUn, tCB, tCons, tNil, tC, tVar, rI, rI0, rU, tAnd, tOr, tNot, tAndV, tOrV, tNotV, tIf, tTest, tB, tCall, tChain, tLst, tTup, tYes, rIxH, rIsB, rIsBT, rMulS, kd_non, kd_bl, kd_int, kd_str, kd_ref, kdO_lst, kdO_tup, kdO_dK, nq_n, nq_b, nq_i, nq_s, nq_l, nq_t, nq_d, ne_eq, not_false_eq_true, kit_ss, kit_ns, kit_bs, kit_is, kit_ls, kit_ts, kit_ds, kit_bb, V.ty.injEq, and_assoc, rIxU, rLenH, rLenU, rLenS, rInt1, rSetL, rEq, rNe, rCat, L2.start, List.map, List.length, List.length_cons, List.length_nil, List.replicate, List.getElem?_cons_zero, List.getElem?_cons_succ, List.set_cons_zero, List.set_cons_succ, List.set_nil, List.cons_append, List.nil_append, List.append_nil, Option.some.injEq, V.int.injEq, V.ref.injEq, V.str.injEq, V.bl.injEq, HO.lst.injEq, HO.tup.injEq, exists_eq_left', exists_and_left, exists_eq_left, List.cons.injEq, and_true, true_and, and_false, false_and, and_self, reduceCtorEq, exists_false, or_false, false_or, exists_const, at0, at1, at2, at3, at4, at5, ix51, ix52, ix54, upd_same, Nat.reduceAdd, Nat.reduceSub, Nat.zero_add, Int.reduceToNat, Int.reduceLE, Int.reduceLT, decide_eq_true_eq, Bool.not_eq_true, if_true, if_false, Bool.false_eq_true, ite_true, ite_false, Bool.not_true, Bool.not_false, decide_true, decide_false, tFor_eq, tLc_eq, iList, iTup, iRng1, iRng2, iStr, tSl, tPart, tNoPart, rSlL, cxOf_K, wipe, ex_ty2, kit_LTl, kit_LTt, kit_LTd, kit_LTs, kit_LTn, kit_LTb, kit_LTi, tM1, rIxS, exists_eq', lt1p, tDNewK, rSlS, rEqNil, e]
      exact k H (Same.refl H)
    | dic e =>
      try simp only [tSeq, tNext, tRet, tRetN, tAsg, gName, gSub, tDrop, tIfS, tOp, tUn, tCB, tCons, tNil, tC, tVar, rI, rI0, rU, tAnd, tOr, tNot, tAndV, tOrV, tNotV, tIf, tTest, tB, tCall, tChain, tLst, tTup, tYes, rIxH, rIsB, rIsBT, rMulS, kd_non, kd_bl, kd_int, kd_str, kd_ref, kdO_lst, kdO_tup, kdO_dK, nq_n, nq_b, nq_i, nq_s, nq_l, nq_t, nq_d, ne_eq, not_false_eq_true, kit_ss, kit_ns, kit_bs, kit_is, kit_ls, kit_ts, kit_ds, kit_bb, V.ty.injEq, and_assoc, rIxU, rLenH, rLenU, rLenS, rInt1, rSetL, rEq, rNe, rCat, L2.start, List.map, List.length, List.length_cons, List.length_nil, List.replicate, List.getElem?_cons_zero, List.getElem?_cons_succ, List.set_cons_zero, List.set_cons_succ, List.set_nil, List.cons_append, List.nil_append, List.append_nil, Option.some.injEq, V.int.injEq, V.ref.injEq, V.str.injEq, V.bl.injEq, HO.lst.injEq, HO.tup.injEq, exists_eq_left', exists_and_left, exists_eq_left, List.cons.injEq, and_true, true_and, and_false, false_and, and_self, reduceCtorEq, exists_false, or_false, false_or, exists_const, at0, at1, at2, at3, at4, at5, ix51, ix52, ix54, upd_same, Nat.reduceAdd, Nat.reduceSub, Nat.zero_add, Int.reduceToNat, Int.reduceLE, Int.reduceLT, decide_eq_true_eq, Bool.not_eq_true, if_true, if_false, Bool.false_eq_true, ite_true, ite_false, Bool.not_true, Bool.not_false, decide_true, decide_false, tFor_eq, tLc_eq, iList, iTup, iRng1, iRng2, iStr, tSl, tPart, tNoPart, rSlL, cxOf_K, wipe, ex_ty2, kit_LTl, kit_LTt, kit_LTd, kit_LTs, kit_LTn, kit_LTb, kit_LTi, tM1, rIxS, exists_eq', lt1p, tDNewK, rSlS, rEqNil, e]
      exact k H (Same.refl H)
    | non =>
      try simp only [tSeq, tNext, tRet, tRetN, tAsg, gName, gSub, tDrop, tIfS, tOp, tUn, tCB, tCons, tNil, tC, tVar, rI, rI0, rU, tAnd, tOr, tNot, tAndV, tOrV, tNotV, tIf, tTest, tB, tCall, tChain, tLst, tTup, tYes, rIxH, rIsB, rIsBT, rMulS, kd_non, kd_bl, kd_int, kd_str, kd_ref, kdO_lst, kdO_tup, kdO_dK, nq_n, nq_b, nq_i, nq_s, nq_l, nq_t, nq_d, ne_eq, not_false_eq_true, kit_ss, kit_ns, kit_bs, kit_is, kit_ls, kit_ts, kit_ds, kit_bb, V.ty.injEq, and_assoc, rIxU, rLenH, rLenU, rLenS, rInt1, rSetL, rEq, rNe, rCat, L2.start, List.map, List.length, List.length_cons, List.length_nil, List.replicate, List.getElem?_cons_zero, List.getElem?_cons_succ, List.set_cons_zero, List.set_cons_succ, List.set_nil, List.cons_append, List.nil_append, List.append_nil, Option.some.injEq, V.int.injEq, V.ref.injEq, V.str.injEq, V.bl.injEq, HO.lst.injEq, HO.tup.injEq, exists_eq_left', exists_and_left, exists_eq_left, List.cons.injEq, and_true, true_and, and_false, false_and, and_self, reduceCtorEq, exists_false, or_false, false_or, exists_const, at0, at1, at2, at3, at4, at5, ix51, ix52, ix54, upd_same, Nat.reduceAdd, Nat.reduceSub, Nat.zero_add, Int.reduceToNat, Int.reduceLE, Int.reduceLT, decide_eq_true_eq, Bool.not_eq_true, if_true, if_false, Bool.false_eq_true, ite_true, ite_false, Bool.not_true, Bool.not_false, decide_true, decide_false, tFor_eq, tLc_eq, iList, iTup, iRng1, iRng2, iStr, tSl, tPart, tNoPart, rSlL, cxOf_K, wipe, ex_ty2, kit_LTl, kit_LTt, kit_LTd, kit_LTs, kit_LTn, kit_LTb, kit_LTi, tM1, rIxS, exists_eq', lt1p, tDNewK, rSlS, rEqNil]
      exact k H (Same.refl H)
    | bl b =>
      try simp only [tSeq, tNext, tRet, tRetN, tAsg, gName, gSub, tDrop, tIfS, tOp, tUn, tCB, tCons, tNil, tC, tVar, rI, rI0, rU, tAnd, tOr, tNot, tAndV, tOrV, tNotV, tIf, tTest, tB, tCall, tChain, tLst, tTup, tYes, rIxH, rIsB, rIsBT, rMulS, kd_non, kd_bl, kd_int, kd_str, kd_ref, kdO_lst, kdO_tup, kdO_dK, nq_n, nq_b, nq_i, nq_s, nq_l, nq_t, nq_d, ne_eq, not_false_eq_true, kit_ss, kit_ns, kit_bs, kit_is, kit_ls, kit_ts, kit_ds, kit_bb, V.ty.injEq, and_assoc, rIxU, rLenH, rLenU, rLenS, rInt1, rSetL, rEq, rNe, rCat, L2.start, List.map, List.length, List.length_cons, List.length_nil, List.replicate, List.getElem?_cons_zero, List.getElem?_cons_succ, List.set_cons_zero, List.set_cons_succ, List.set_nil, List.cons_append, List.nil_append, List.append_nil, Option.some.injEq, V.int.injEq, V.ref.injEq, V.str.injEq, V.bl.injEq, HO.lst.injEq, HO.tup.injEq, exists_eq_left', exists_and_left, exists_eq_left, List.cons.injEq, and_true, true_and, and_false, false_and, and_self, reduceCtorEq, exists_false, or_false, false_or, exists_const, at0, at1, at2, at3, at4, at5, ix51, ix52, ix54, upd_same, Nat.reduceAdd, Nat.reduceSub, Nat.zero_add, Int.reduceToNat, Int.reduceLE, Int.reduceLT, decide_eq_true_eq, Bool.not_eq_true, if_true, if_false, Bool.false_eq_true, ite_true, ite_false, Bool.not_true, Bool.not_false, decide_true, decide_false, tFor_eq, tLc_eq, iList, iTup, iRng1, iRng2, iStr, tSl, tPart, tNoPart, rSlL, cxOf_K, wipe, ex_ty2, kit_LTl, kit_LTt, kit_LTd, kit_LTs, kit_LTn, kit_LTb, kit_LTi, tM1, rIxS, exists_eq', lt1p, tDNewK, rSlS, rEqNil]
      exact k H (Same.refl H)
    | int i =>
      try simp only [tSeq, tNext, tRet, tRetN, tAsg, gName, gSub, tDrop, tIfS, tOp, tUn, tCB, tCons, tNil, tC, tVar, rI, rI0, rU, tAnd, tOr, tNot, tAndV, tOrV, tNotV, tIf, tTest, tB, tCall, tChain, tLst, tTup, tYes, rIxH, rIsB, rIsBT, rMulS, kd_non, kd_bl, kd_int, kd_str, kd_ref, kdO_lst, kdO_tup, kdO_dK, nq_n, nq_b, nq_i, nq_s, nq_l, nq_t, nq_d, ne_eq, not_false_eq_true, kit_ss, kit_ns, kit_bs, kit_is, kit_ls, kit_ts, kit_ds, kit_bb, V.ty.injEq, and_assoc, rIxU, rLenH, rLenU, rLenS, rInt1, rSetL, rEq, rNe, rCat, L2.start, List.map, List.length, List.length_cons, List.length_nil, List.replicate, List.getElem?_cons_zero, List.getElem?_cons_succ, List.set_cons_zero, List.set_cons_succ, List.set_nil, List.cons_append, List.nil_append, List.append_nil, Option.some.injEq, V.int.injEq, V.ref.injEq, V.str.injEq, V.bl.injEq, HO.lst.injEq, HO.tup.injEq, exists_eq_left', exists_and_left, exists_eq_left, List.cons.injEq, and_true, true_and, and_false, false_and, and_self, reduceCtorEq, exists_false, or_false, false_or, exists_const, at0, at1, at2, at3, at4, at5, ix51, ix52, ix54, upd_same, Nat.reduceAdd, Nat.reduceSub, Nat.zero_add, Int.reduceToNat, Int.reduceLE, Int.reduceLT, decide_eq_true_eq, Bool.not_eq_true, if_true, if_false, Bool.false_eq_true, ite_true, ite_false, Bool.not_true, Bool.not_false, decide_true, decide_false, tFor_eq, tLc_eq, iList, iTup, iRng1, iRng2, iStr, tSl, tPart, tNoPart, rSlL, cxOf_K, wipe, ex_ty2, kit_LTl, kit_LTt, kit_LTd, kit_LTs, kit_LTn, kit_LTb, kit_LTi, tM1, rIxS, exists_eq', lt1p, tDNewK, rSlS, rEqNil]
      exact k H (Same.refl H)
end

/-! ### texts -/
section
variable {P : Program} {w : World} {K : PySem.W.Frag} {mg : Str → Option Value} {base : Heap} {A : Adr}
/-- the items of a list or a tuple -/
def seqO : Option HO → Option (List V)
  | some (.lst xs) => some xs
  | some (.tup xs) => some xs
  | _ => none
def seqV (H : Hp) : V → Option (List V)
  | .ref a => seqO (H a)
  | _ => none
def isTextV (H : Hp) (v : V) : Bool := match seqV H v with
  | some xs => decide (xs.length ≤ 12) && xs.all isLineV
  | none => false
def spIsText : Sp := fun vs H Q _ => ∃ v, vs = [v] ∧ Thg H v ∧ (∀ xs, seqV H v = some xs → xs.length ≤ 1000 ∧ ∀ x ∈ xs, Thg H x) ∧ ∀ H', Same H H' → Q (.bl (isTextV H v)) H'
theorem text_of {H : Hp} {v : V} {xs : List V} (h : seqV H v = some xs) : isTextV H v = (decide (xs.length ≤ 12) && xs.all isLineV) := by
  unfold isTextV
  rw [h]
theorem text_no {H : Hp} {v : V} (h : seqV H v = none) : isTextV H v = false := by
  unfold isTextV
  rw [h]
theorem ok_is_text (T : Txt K mg A) (gIsLine : FnOk P w K mg base CX0 2 A.a_IsLine A.d_IsLine ["value"] spIsLine) : FnOk P w K mg base CX0 3 A.a_IsText A.d_IsText ["value"] spIsText := by
  refine T.f_IsText.ok scIsText (fun vs H Q E h => ?_) (fun cdv A' outer s H vs Q E hr h => ?_)
  · obtain ⟨v, rfl, _⟩ := h
    rfl
  · obtain ⟨v, rfl, ht, hx, k⟩ := h
    cases ht with
    | lst e =>
      rename_i a xs
      refine ⟨_, (pss_one (ps_ret (pe_and (pe_callB call_isBT (by rfl) T.z_isinstance (by decide +kernel) (pa_cons (pv 0) (pa_cons (pe_tup (pa_cons (pe_bltn (v := .ty "list") (by rfl) T.z_list (by decide +kernel) rfl) (pa_cons (pe_bltn (v := .ty "tuple") (by rfl) T.z_tuple (by decide +kernel) rfl) pa_nil))) pa_nil))) (pe_and (pe_cmpR (op_le) (pe_callB call_lenH (by rfl) T.z_len (by decide +kernel) (pa_cons (pv 0) pa_nil)) (pe_glob (v := .int 12) (by rfl) T.c_MOST_LINES.choose_spec ⟨_, rfl⟩) (nomark _)) (pe_one (pe_callB (cr_all rfl) (by rfl) T.z_all (by decide +kernel) (pa_cons (pe_lc (own := [("line", 1)]) (g := gName 1) (tt := tYes) (by rfl) scIsText.nd (pi_list (pv 0)) (blkOk_by (own := [("line", 1)]) (N := nIsText) (sc := defScope sIsText) (by decide +kernel)) (fun _ _ _ _ _ => pg_name (i := 1) scIsText.nd rfl (Or.inl rfl)) (fun _ _ _ _ _ => pts_nil) (fun _ _ _ _ _ => (pe_call gIsLine (hr.mono (by decide)) (by rfl) T.m_IsLine T.f_IsLine.kp T.b_IsLine .nil pass0 (pa_cons (pv 1) pa_nil)))) pa_nil))))))), ?_⟩
      try simp only [tSeq, tNext, tRet, tRetN, tAsg, gName, gSub, tDrop, tIfS, tOp, tUn, tCB, tCons, tNil, tC, tVar, rI, rI0, rU, tAnd, tOr, tNot, tAndV, tOrV, tNotV, tIf, tTest, tB, tCall, tChain, tLst, tTup, tYes, rIxH, rIsB, rIsBT, rMulS, kd_non, kd_bl, kd_int, kd_str, kd_ref, kdO_lst, kdO_tup, kdO_dK, nq_n, nq_b, nq_i, nq_s, nq_l, nq_t, nq_d, ne_eq, not_false_eq_true, kit_ss, kit_ns, kit_bs, kit_is, kit_ls, kit_ts, kit_ds, kit_bb, V.ty.injEq, and_assoc, rIxU, rLenH, rLenU, rLenS, rInt1, rSetL, rEq, rNe, rCat, L2.start, List.map, List.length, List.length_cons, List.length_nil, List.replicate, List.getElem?_cons_zero, List.getElem?_cons_succ, List.set_cons_zero, List.set_cons_succ, List.set_nil, List.cons_append, List.nil_append, List.append_nil, Option.some.injEq, V.int.injEq, V.ref.injEq, V.str.injEq, V.bl.injEq, HO.lst.injEq, HO.tup.injEq, exists_eq_left', exists_and_left, exists_eq_left, List.cons.injEq, and_true, true_and, and_false, false_and, and_self, reduceCtorEq, exists_false, or_false, false_or, exists_const, at0, at1, at2, at3, at4, at5, ix51, ix52, ix54, upd_same, Nat.reduceAdd, Nat.reduceSub, Nat.zero_add, Int.reduceToNat, Int.reduceLE, Int.reduceLT, decide_eq_true_eq, Bool.not_eq_true, if_true, if_false, Bool.false_eq_true, ite_true, ite_false, Bool.not_true, Bool.not_false, decide_true, decide_false, tFor_eq, tLc_eq, iList, iTup, iRng1, iRng2, iStr, tSl, tPart, tNoPart, rSlL, cxOf_K, wipe, ex_ty2, kit_LTl, kit_LTt, kit_LTd, kit_LTs, kit_LTn, kit_LTb, kit_LTi, tM1, rIxS, exists_eq', lt1p, tDNewK, rSlS, rEqNil, e]
      refine ⟨by decide, ?_⟩
      intro p n_p; generalize g_H1 : upd H p _ = H1; obtain ⟨s_H1, h_p⟩ := new_facts n_p g_H1; clear g_H1
      have e1 := s_H1 _ _ e
      obtain ⟨hl, hth⟩ := hx xs (by show seqO (H a) = _; rw [e]; rfl)
      have ev : isTextV H (.ref a) = (decide (xs.length ≤ 12) && xs.all isLineV) := text_of (by show seqO (H a) = _; rw [e]; rfl)
      try simp only [tSeq, tNext, tRet, tRetN, tAsg, gName, gSub, tDrop, tIfS, tOp, tUn, tCB, tCons, tNil, tC, tVar, rI, rI0, rU, tAnd, tOr, tNot, tAndV, tOrV, tNotV, tIf, tTest, tB, tCall, tChain, tLst, tTup, tYes, rIxH, rIsB, rIsBT, rMulS, kd_non, kd_bl, kd_int, kd_str, kd_ref, kdO_lst, kdO_tup, kdO_dK, nq_n, nq_b, nq_i, nq_s, nq_l, nq_t, nq_d, ne_eq, not_false_eq_true, kit_ss, kit_ns, kit_bs, kit_is, kit_ls, kit_ts, kit_ds, kit_bb, V.ty.injEq, and_assoc, rIxU, rLenH, rLenU, rLenS, rInt1, rSetL, rEq, rNe, rCat, L2.start, List.map, List.length, List.length_cons, List.length_nil, List.replicate, List.getElem?_cons_zero, List.getElem?_cons_succ, List.set_cons_zero, List.set_cons_succ, List.set_nil, List.cons_append, List.nil_append, List.append_nil, Option.some.injEq, V.int.injEq, V.ref.injEq, V.str.injEq, V.bl.injEq, HO.lst.injEq, HO.tup.injEq, exists_eq_left', exists_and_left, exists_eq_left, List.cons.injEq, and_true, true_and, and_false, false_and, and_self, reduceCtorEq, exists_false, or_false, false_or, exists_const, at0, at1, at2, at3, at4, at5, ix51, ix52, ix54, upd_same, Nat.reduceAdd, Nat.reduceSub, Nat.zero_add, Int.reduceToNat, Int.reduceLE, Int.reduceLT, decide_eq_true_eq, Bool.not_eq_true, if_true, if_false, Bool.false_eq_true, ite_true, ite_false, Bool.not_true, Bool.not_false, decide_true, decide_false, tFor_eq, tLc_eq, iList, iTup, iRng1, iRng2, iStr, tSl, tPart, tNoPart, rSlL, cxOf_K, wipe, ex_ty2, kit_LTl, kit_LTt, kit_LTd, kit_LTs, kit_LTn, kit_LTb, kit_LTi, tM1, rIxS, exists_eq', lt1p, tDNewK, rSlS, rEqNil, e1]
      refine ite2 (fun h => ⟨⟨_, SqL.of e1⟩, fun D hD => ?_⟩) (fun h => ?_)
      · refine lc_same (walk_list (K := K) (xs := xs)) (fun _ => true) (fun v => .bl (isLineV v)) hD (fun _ s2 => s2.seq (SqL.of e1)) (by omega) (fun x hx H2 s2 R R0 h1 _ => ?_) (fun H2 s2 h2 => ?_)
        · try simp only [tSeq, tNext, tRet, tRetN, tAsg, gName, gSub, tDrop, tIfS, tOp, tUn, tCB, tCons, tNil, tC, tVar, rI, rI0, rU, tAnd, tOr, tNot, tAndV, tOrV, tNotV, tIf, tTest, tB, tCall, tChain, tLst, tTup, tYes, rIxH, rIsB, rIsBT, rMulS, kd_non, kd_bl, kd_int, kd_str, kd_ref, kdO_lst, kdO_tup, kdO_dK, nq_n, nq_b, nq_i, nq_s, nq_l, nq_t, nq_d, ne_eq, not_false_eq_true, kit_ss, kit_ns, kit_bs, kit_is, kit_ls, kit_ts, kit_ds, kit_bb, V.ty.injEq, and_assoc, rIxU, rLenH, rLenU, rLenS, rInt1, rSetL, rEq, rNe, rCat, L2.start, List.map, List.length, List.length_cons, List.length_nil, List.replicate, List.getElem?_cons_zero, List.getElem?_cons_succ, List.set_cons_zero, List.set_cons_succ, List.set_nil, List.cons_append, List.nil_append, List.append_nil, Option.some.injEq, V.int.injEq, V.ref.injEq, V.str.injEq, V.bl.injEq, HO.lst.injEq, HO.tup.injEq, exists_eq_left', exists_and_left, exists_eq_left, List.cons.injEq, and_true, true_and, and_false, false_and, and_self, reduceCtorEq, exists_false, or_false, false_or, exists_const, at0, at1, at2, at3, at4, at5, ix51, ix52, ix54, upd_same, Nat.reduceAdd, Nat.reduceSub, Nat.zero_add, Int.reduceToNat, Int.reduceLE, Int.reduceLT, decide_eq_true_eq, Bool.not_eq_true, if_true, if_false, Bool.false_eq_true, ite_true, ite_false, Bool.not_true, Bool.not_false, decide_true, decide_false, tFor_eq, tLc_eq, iList, iTup, iRng1, iRng2, iStr, tSl, tPart, tNoPart, rSlL, cxOf_K, wipe, ex_ty2, kit_LTl, kit_LTt, kit_LTd, kit_LTs, kit_LTn, kit_LTb, kit_LTi, tM1, rIxS, exists_eq', lt1p, tDNewK, rSlS, rEqNil]
          exact ⟨x, rfl, (hth x hx).mono (s_H1.trans s2), fun H3 s3 => h1 H3 s3 rfl⟩
        · rw [filter_all] at h2
          refine ⟨D, xs.map isLineV, rfl, SqL.of (by rw [h2, List.map_map]; rfl), ?_⟩
          rw [decide_eq_true (show xs.length ≤ 12 by omega), Bool.true_and] at ev
          have e2 : (xs.map isLineV).all id = xs.all isLineV := by rw [List.all_map]; rfl
          rw [e2, ← ev]
          exact k H2 (s_H1.trans s2)
      · rw [decide_eq_false (show ¬ xs.length ≤ 12 by omega), Bool.false_and] at ev
        rw [← ev]
        exact k _ s_H1
    | tup e =>
      rename_i a xs
      refine ⟨_, (pss_one (ps_ret (pe_and (pe_callB call_isBT (by rfl) T.z_isinstance (by decide +kernel) (pa_cons (pv 0) (pa_cons (pe_tup (pa_cons (pe_bltn (v := .ty "list") (by rfl) T.z_list (by decide +kernel) rfl) (pa_cons (pe_bltn (v := .ty "tuple") (by rfl) T.z_tuple (by decide +kernel) rfl) pa_nil))) pa_nil))) (pe_and (pe_cmpR (op_le) (pe_callB call_lenU (by rfl) T.z_len (by decide +kernel) (pa_cons (pv 0) pa_nil)) (pe_glob (v := .int 12) (by rfl) T.c_MOST_LINES.choose_spec ⟨_, rfl⟩) (nomark _)) (pe_one (pe_callB (cr_all rfl) (by rfl) T.z_all (by decide +kernel) (pa_cons (pe_lc (own := [("line", 1)]) (g := gName 1) (tt := tYes) (by rfl) scIsText.nd (pi_tup (pv 0)) (blkOk_by (own := [("line", 1)]) (N := nIsText) (sc := defScope sIsText) (by decide +kernel)) (fun _ _ _ _ _ => pg_name (i := 1) scIsText.nd rfl (Or.inl rfl)) (fun _ _ _ _ _ => pts_nil) (fun _ _ _ _ _ => (pe_call gIsLine (hr.mono (by decide)) (by rfl) T.m_IsLine T.f_IsLine.kp T.b_IsLine .nil pass0 (pa_cons (pv 1) pa_nil)))) pa_nil))))))), ?_⟩
      try simp only [tSeq, tNext, tRet, tRetN, tAsg, gName, gSub, tDrop, tIfS, tOp, tUn, tCB, tCons, tNil, tC, tVar, rI, rI0, rU, tAnd, tOr, tNot, tAndV, tOrV, tNotV, tIf, tTest, tB, tCall, tChain, tLst, tTup, tYes, rIxH, rIsB, rIsBT, rMulS, kd_non, kd_bl, kd_int, kd_str, kd_ref, kdO_lst, kdO_tup, kdO_dK, nq_n, nq_b, nq_i, nq_s, nq_l, nq_t, nq_d, ne_eq, not_false_eq_true, kit_ss, kit_ns, kit_bs, kit_is, kit_ls, kit_ts, kit_ds, kit_bb, V.ty.injEq, and_assoc, rIxU, rLenH, rLenU, rLenS, rInt1, rSetL, rEq, rNe, rCat, L2.start, List.map, List.length, List.length_cons, List.length_nil, List.replicate, List.getElem?_cons_zero, List.getElem?_cons_succ, List.set_cons_zero, List.set_cons_succ, List.set_nil, List.cons_append, List.nil_append, List.append_nil, Option.some.injEq, V.int.injEq, V.ref.injEq, V.str.injEq, V.bl.injEq, HO.lst.injEq, HO.tup.injEq, exists_eq_left', exists_and_left, exists_eq_left, List.cons.injEq, and_true, true_and, and_false, false_and, and_self, reduceCtorEq, exists_false, or_false, false_or, exists_const, at0, at1, at2, at3, at4, at5, ix51, ix52, ix54, upd_same, Nat.reduceAdd, Nat.reduceSub, Nat.zero_add, Int.reduceToNat, Int.reduceLE, Int.reduceLT, decide_eq_true_eq, Bool.not_eq_true, if_true, if_false, Bool.false_eq_true, ite_true, ite_false, Bool.not_true, Bool.not_false, decide_true, decide_false, tFor_eq, tLc_eq, iList, iTup, iRng1, iRng2, iStr, tSl, tPart, tNoPart, rSlL, cxOf_K, wipe, ex_ty2, kit_LTl, kit_LTt, kit_LTd, kit_LTs, kit_LTn, kit_LTb, kit_LTi, tM1, rIxS, exists_eq', lt1p, tDNewK, rSlS, rEqNil, e]
      refine ⟨by decide, ?_⟩
      intro p n_p; generalize g_H1 : upd H p _ = H1; obtain ⟨s_H1, h_p⟩ := new_facts n_p g_H1; clear g_H1
      have e1 := s_H1 _ _ e
      obtain ⟨hl, hth⟩ := hx xs (by show seqO (H a) = _; rw [e]; rfl)
      have ev : isTextV H (.ref a) = (decide (xs.length ≤ 12) && xs.all isLineV) := text_of (by show seqO (H a) = _; rw [e]; rfl)
      try simp only [tSeq, tNext, tRet, tRetN, tAsg, gName, gSub, tDrop, tIfS, tOp, tUn, tCB, tCons, tNil, tC, tVar, rI, rI0, rU, tAnd, tOr, tNot, tAndV, tOrV, tNotV, tIf, tTest, tB, tCall, tChain, tLst, tTup, tYes, rIxH, rIsB, rIsBT, rMulS, kd_non, kd_bl, kd_int, kd_str, kd_ref, kdO_lst, kdO_tup, kdO_dK, nq_n, nq_b, nq_i, nq_s, nq_l, nq_t, nq_d, ne_eq, not_false_eq_true, kit_ss, kit_ns, kit_bs, kit_is, kit_ls, kit_ts, kit_ds, kit_bb, V.ty.injEq, and_assoc, rIxU, rLenH, rLenU, rLenS, rInt1, rSetL, rEq, rNe, rCat, L2.start, List.map, List.length, List.length_cons, List.length_nil, List.replicate, List.getElem?_cons_zero, List.getElem?_cons_succ, List.set_cons_zero, List.set_cons_succ, List.set_nil, List.cons_append, List.nil_append, List.append_nil, Option.some.injEq, V.int.injEq, V.ref.injEq, V.str.injEq, V.bl.injEq, HO.lst.injEq, HO.tup.injEq, exists_eq_left', exists_and_left, exists_eq_left, List.cons.injEq, and_true, true_and, and_false, false_and, and_self, reduceCtorEq, exists_false, or_false, false_or, exists_const, at0, at1, at2, at3, at4, at5, ix51, ix52, ix54, upd_same, Nat.reduceAdd, Nat.reduceSub, Nat.zero_add, Int.reduceToNat, Int.reduceLE, Int.reduceLT, decide_eq_true_eq, Bool.not_eq_true, if_true, if_false, Bool.false_eq_true, ite_true, ite_false, Bool.not_true, Bool.not_false, decide_true, decide_false, tFor_eq, tLc_eq, iList, iTup, iRng1, iRng2, iStr, tSl, tPart, tNoPart, rSlL, cxOf_K, wipe, ex_ty2, kit_LTl, kit_LTt, kit_LTd, kit_LTs, kit_LTn, kit_LTb, kit_LTi, tM1, rIxS, exists_eq', lt1p, tDNewK, rSlS, rEqNil, e1]
      refine ite2 (fun h => ⟨⟨_, SqT.of e1⟩, fun D hD => ?_⟩) (fun h => ?_)
      · refine lc_same (walk_tup (K := K) (xs := xs)) (fun _ => true) (fun v => .bl (isLineV v)) hD (fun _ s2 => Same.tup s2 (SqT.of e1)) (by omega) (fun x hx H2 s2 R R0 h1 _ => ?_) (fun H2 s2 h2 => ?_)
        · try simp only [tSeq, tNext, tRet, tRetN, tAsg, gName, gSub, tDrop, tIfS, tOp, tUn, tCB, tCons, tNil, tC, tVar, rI, rI0, rU, tAnd, tOr, tNot, tAndV, tOrV, tNotV, tIf, tTest, tB, tCall, tChain, tLst, tTup, tYes, rIxH, rIsB, rIsBT, rMulS, kd_non, kd_bl, kd_int, kd_str, kd_ref, kdO_lst, kdO_tup, kdO_dK, nq_n, nq_b, nq_i, nq_s, nq_l, nq_t, nq_d, ne_eq, not_false_eq_true, kit_ss, kit_ns, kit_bs, kit_is, kit_ls, kit_ts, kit_ds, kit_bb, V.ty.injEq, and_assoc, rIxU, rLenH, rLenU, rLenS, rInt1, rSetL, rEq, rNe, rCat, L2.start, List.map, List.length, List.length_cons, List.length_nil, List.replicate, List.getElem?_cons_zero, List.getElem?_cons_succ, List.set_cons_zero, List.set_cons_succ, List.set_nil, List.cons_append, List.nil_append, List.append_nil, Option.some.injEq, V.int.injEq, V.ref.injEq, V.str.injEq, V.bl.injEq, HO.lst.injEq, HO.tup.injEq, exists_eq_left', exists_and_left, exists_eq_left, List.cons.injEq, and_true, true_and, and_false, false_and, and_self, reduceCtorEq, exists_false, or_false, false_or, exists_const, at0, at1, at2, at3, at4, at5, ix51, ix52, ix54, upd_same, Nat.reduceAdd, Nat.reduceSub, Nat.zero_add, Int.reduceToNat, Int.reduceLE, Int.reduceLT, decide_eq_true_eq, Bool.not_eq_true, if_true, if_false, Bool.false_eq_true, ite_true, ite_false, Bool.not_true, Bool.not_false, decide_true, decide_false, tFor_eq, tLc_eq, iList, iTup, iRng1, iRng2, iStr, tSl, tPart, tNoPart, rSlL, cxOf_K, wipe, ex_ty2, kit_LTl, kit_LTt, kit_LTd, kit_LTs, kit_LTn, kit_LTb, kit_LTi, tM1, rIxS, exists_eq', lt1p, tDNewK, rSlS, rEqNil]
          exact ⟨x, rfl, (hth x hx).mono (s_H1.trans s2), fun H3 s3 => h1 H3 s3 rfl⟩
        · rw [filter_all] at h2
          refine ⟨D, xs.map isLineV, rfl, SqL.of (by rw [h2, List.map_map]; rfl), ?_⟩
          rw [decide_eq_true (show xs.length ≤ 12 by omega), Bool.true_and] at ev
          have e2 : (xs.map isLineV).all id = xs.all isLineV := by rw [List.all_map]; rfl
          rw [e2, ← ev]
          exact k H2 (s_H1.trans s2)
      · rw [decide_eq_false (show ¬ xs.length ≤ 12 by omega), Bool.false_and] at ev
        rw [← ev]
        exact k _ s_H1
    | dic e =>
      refine ⟨_, (pss_one (ps_ret (pe_and (pe_callB call_isBT (by rfl) T.z_isinstance (by decide +kernel) (pa_cons (pv 0) (pa_cons (pe_tup (pa_cons (pe_bltn (v := .ty "list") (by rfl) T.z_list (by decide +kernel) rfl) (pa_cons (pe_bltn (v := .ty "tuple") (by rfl) T.z_tuple (by decide +kernel) rfl) pa_nil))) pa_nil))) (pe_and (pe_cmpR (op_le) (pe_callB call_lenH (by rfl) T.z_len (by decide +kernel) (pa_cons (pv 0) pa_nil)) (pe_glob (v := .int 12) (by rfl) T.c_MOST_LINES.choose_spec ⟨_, rfl⟩) (nomark _)) (pe_one (pe_callB (cr_all rfl) (by rfl) T.z_all (by decide +kernel) (pa_cons (pe_lc (own := [("line", 1)]) (g := gName 1) (tt := tYes) (by rfl) scIsText.nd (pi_list (pv 0)) (blkOk_by (own := [("line", 1)]) (N := nIsText) (sc := defScope sIsText) (by decide +kernel)) (fun _ _ _ _ _ => pg_name (i := 1) scIsText.nd rfl (Or.inl rfl)) (fun _ _ _ _ _ => pts_nil) (fun _ _ _ _ _ => (pe_call gIsLine (hr.mono (by decide)) (by rfl) T.m_IsLine T.f_IsLine.kp T.b_IsLine .nil pass0 (pa_cons (pv 1) pa_nil)))) pa_nil))))))), ?_⟩
      try simp only [tSeq, tNext, tRet, tRetN, tAsg, gName, gSub, tDrop, tIfS, tOp, tUn, tCB, tCons, tNil, tC, tVar, rI, rI0, rU, tAnd, tOr, tNot, tAndV, tOrV, tNotV, tIf, tTest, tB, tCall, tChain, tLst, tTup, tYes, rIxH, rIsB, rIsBT, rMulS, kd_non, kd_bl, kd_int, kd_str, kd_ref, kdO_lst, kdO_tup, kdO_dK, nq_n, nq_b, nq_i, nq_s, nq_l, nq_t, nq_d, ne_eq, not_false_eq_true, kit_ss, kit_ns, kit_bs, kit_is, kit_ls, kit_ts, kit_ds, kit_bb, V.ty.injEq, and_assoc, rIxU, rLenH, rLenU, rLenS, rInt1, rSetL, rEq, rNe, rCat, L2.start, List.map, List.length, List.length_cons, List.length_nil, List.replicate, List.getElem?_cons_zero, List.getElem?_cons_succ, List.set_cons_zero, List.set_cons_succ, List.set_nil, List.cons_append, List.nil_append, List.append_nil, Option.some.injEq, V.int.injEq, V.ref.injEq, V.str.injEq, V.bl.injEq, HO.lst.injEq, HO.tup.injEq, exists_eq_left', exists_and_left, exists_eq_left, List.cons.injEq, and_true, true_and, and_false, false_and, and_self, reduceCtorEq, exists_false, or_false, false_or, exists_const, at0, at1, at2, at3, at4, at5, ix51, ix52, ix54, upd_same, Nat.reduceAdd, Nat.reduceSub, Nat.zero_add, Int.reduceToNat, Int.reduceLE, Int.reduceLT, decide_eq_true_eq, Bool.not_eq_true, if_true, if_false, Bool.false_eq_true, ite_true, ite_false, Bool.not_true, Bool.not_false, decide_true, decide_false, tFor_eq, tLc_eq, iList, iTup, iRng1, iRng2, iStr, tSl, tPart, tNoPart, rSlL, cxOf_K, wipe, ex_ty2, kit_LTl, kit_LTt, kit_LTd, kit_LTs, kit_LTn, kit_LTb, kit_LTi, tM1, rIxS, exists_eq', lt1p, tDNewK, rSlS, rEqNil, e]
      refine ⟨by decide, ?_⟩
      intro p n_p; generalize g_H1 : upd H p _ = H1; obtain ⟨s_H1, h_p⟩ := new_facts n_p g_H1; clear g_H1
      have e1 := s_H1 _ _ e
      try simp only [tSeq, tNext, tRet, tRetN, tAsg, gName, gSub, tDrop, tIfS, tOp, tUn, tCB, tCons, tNil, tC, tVar, rI, rI0, rU, tAnd, tOr, tNot, tAndV, tOrV, tNotV, tIf, tTest, tB, tCall, tChain, tLst, tTup, tYes, rIxH, rIsB, rIsBT, rMulS, kd_non, kd_bl, kd_int, kd_str, kd_ref, kdO_lst, kdO_tup, kdO_dK, nq_n, nq_b, nq_i, nq_s, nq_l, nq_t, nq_d, ne_eq, not_false_eq_true, kit_ss, kit_ns, kit_bs, kit_is, kit_ls, kit_ts, kit_ds, kit_bb, V.ty.injEq, and_assoc, rIxU, rLenH, rLenU, rLenS, rInt1, rSetL, rEq, rNe, rCat, L2.start, List.map, List.length, List.length_cons, List.length_nil, List.replicate, List.getElem?_cons_zero, List.getElem?_cons_succ, List.set_cons_zero, List.set_cons_succ, List.set_nil, List.cons_append, List.nil_append, List.append_nil, Option.some.injEq, V.int.injEq, V.ref.injEq, V.str.injEq, V.bl.injEq, HO.lst.injEq, HO.tup.injEq, exists_eq_left', exists_and_left, exists_eq_left, List.cons.injEq, and_true, true_and, and_false, false_and, and_self, reduceCtorEq, exists_false, or_false, false_or, exists_const, at0, at1, at2, at3, at4, at5, ix51, ix52, ix54, upd_same, Nat.reduceAdd, Nat.reduceSub, Nat.zero_add, Int.reduceToNat, Int.reduceLE, Int.reduceLT, decide_eq_true_eq, Bool.not_eq_true, if_true, if_false, Bool.false_eq_true, ite_true, ite_false, Bool.not_true, Bool.not_false, decide_true, decide_false, tFor_eq, tLc_eq, iList, iTup, iRng1, iRng2, iStr, tSl, tPart, tNoPart, rSlL, cxOf_K, wipe, ex_ty2, kit_LTl, kit_LTt, kit_LTd, kit_LTs, kit_LTn, kit_LTb, kit_LTi, tM1, rIxS, exists_eq', lt1p, tDNewK, rSlS, rEqNil, e1]
      rw [← text_no (H := H) (v := .ref _) (by show seqO (H _) = _; rw [e]; rfl)]
      exact k _ s_H1
    | non =>
      refine ⟨_, (pss_one (ps_ret (pe_and (pe_callB call_isBT (by rfl) T.z_isinstance (by decide +kernel) (pa_cons (pv 0) (pa_cons (pe_tup (pa_cons (pe_bltn (v := .ty "list") (by rfl) T.z_list (by decide +kernel) rfl) (pa_cons (pe_bltn (v := .ty "tuple") (by rfl) T.z_tuple (by decide +kernel) rfl) pa_nil))) pa_nil))) (pe_and (pe_cmpR (op_le) (pe_callB call_lenH (by rfl) T.z_len (by decide +kernel) (pa_cons (pv 0) pa_nil)) (pe_glob (v := .int 12) (by rfl) T.c_MOST_LINES.choose_spec ⟨_, rfl⟩) (nomark _)) (pe_one (pe_callB (cr_all rfl) (by rfl) T.z_all (by decide +kernel) (pa_cons (pe_lc (own := [("line", 1)]) (g := gName 1) (tt := tYes) (by rfl) scIsText.nd (pi_list (pv 0)) (blkOk_by (own := [("line", 1)]) (N := nIsText) (sc := defScope sIsText) (by decide +kernel)) (fun _ _ _ _ _ => pg_name (i := 1) scIsText.nd rfl (Or.inl rfl)) (fun _ _ _ _ _ => pts_nil) (fun _ _ _ _ _ => (pe_call gIsLine (hr.mono (by decide)) (by rfl) T.m_IsLine T.f_IsLine.kp T.b_IsLine .nil pass0 (pa_cons (pv 1) pa_nil)))) pa_nil))))))), ?_⟩
      try simp only [tSeq, tNext, tRet, tRetN, tAsg, gName, gSub, tDrop, tIfS, tOp, tUn, tCB, tCons, tNil, tC, tVar, rI, rI0, rU, tAnd, tOr, tNot, tAndV, tOrV, tNotV, tIf, tTest, tB, tCall, tChain, tLst, tTup, tYes, rIxH, rIsB, rIsBT, rMulS, kd_non, kd_bl, kd_int, kd_str, kd_ref, kdO_lst, kdO_tup, kdO_dK, nq_n, nq_b, nq_i, nq_s, nq_l, nq_t, nq_d, ne_eq, not_false_eq_true, kit_ss, kit_ns, kit_bs, kit_is, kit_ls, kit_ts, kit_ds, kit_bb, V.ty.injEq, and_assoc, rIxU, rLenH, rLenU, rLenS, rInt1, rSetL, rEq, rNe, rCat, L2.start, List.map, List.length, List.length_cons, List.length_nil, List.replicate, List.getElem?_cons_zero, List.getElem?_cons_succ, List.set_cons_zero, List.set_cons_succ, List.set_nil, List.cons_append, List.nil_append, List.append_nil, Option.some.injEq, V.int.injEq, V.ref.injEq, V.str.injEq, V.bl.injEq, HO.lst.injEq, HO.tup.injEq, exists_eq_left', exists_and_left, exists_eq_left, List.cons.injEq, and_true, true_and, and_false, false_and, and_self, reduceCtorEq, exists_false, or_false, false_or, exists_const, at0, at1, at2, at3, at4, at5, ix51, ix52, ix54, upd_same, Nat.reduceAdd, Nat.reduceSub, Nat.zero_add, Int.reduceToNat, Int.reduceLE, Int.reduceLT, decide_eq_true_eq, Bool.not_eq_true, if_true, if_false, Bool.false_eq_true, ite_true, ite_false, Bool.not_true, Bool.not_false, decide_true, decide_false, tFor_eq, tLc_eq, iList, iTup, iRng1, iRng2, iStr, tSl, tPart, tNoPart, rSlL, cxOf_K, wipe, ex_ty2, kit_LTl, kit_LTt, kit_LTd, kit_LTs, kit_LTn, kit_LTb, kit_LTi, tM1, rIxS, exists_eq', lt1p, tDNewK, rSlS, rEqNil]
      refine ⟨by decide, fun p hp => k _ (same_new hp)⟩
    | bl b =>
      refine ⟨_, (pss_one (ps_ret (pe_and (pe_callB call_isBT (by rfl) T.z_isinstance (by decide +kernel) (pa_cons (pv 0) (pa_cons (pe_tup (pa_cons (pe_bltn (v := .ty "list") (by rfl) T.z_list (by decide +kernel) rfl) (pa_cons (pe_bltn (v := .ty "tuple") (by rfl) T.z_tuple (by decide +kernel) rfl) pa_nil))) pa_nil))) (pe_and (pe_cmpR (op_le) (pe_callB call_lenH (by rfl) T.z_len (by decide +kernel) (pa_cons (pv 0) pa_nil)) (pe_glob (v := .int 12) (by rfl) T.c_MOST_LINES.choose_spec ⟨_, rfl⟩) (nomark _)) (pe_one (pe_callB (cr_all rfl) (by rfl) T.z_all (by decide +kernel) (pa_cons (pe_lc (own := [("line", 1)]) (g := gName 1) (tt := tYes) (by rfl) scIsText.nd (pi_list (pv 0)) (blkOk_by (own := [("line", 1)]) (N := nIsText) (sc := defScope sIsText) (by decide +kernel)) (fun _ _ _ _ _ => pg_name (i := 1) scIsText.nd rfl (Or.inl rfl)) (fun _ _ _ _ _ => pts_nil) (fun _ _ _ _ _ => (pe_call gIsLine (hr.mono (by decide)) (by rfl) T.m_IsLine T.f_IsLine.kp T.b_IsLine .nil pass0 (pa_cons (pv 1) pa_nil)))) pa_nil))))))), ?_⟩
      try simp only [tSeq, tNext, tRet, tRetN, tAsg, gName, gSub, tDrop, tIfS, tOp, tUn, tCB, tCons, tNil, tC, tVar, rI, rI0, rU, tAnd, tOr, tNot, tAndV, tOrV, tNotV, tIf, tTest, tB, tCall, tChain, tLst, tTup, tYes, rIxH, rIsB, rIsBT, rMulS, kd_non, kd_bl, kd_int, kd_str, kd_ref, kdO_lst, kdO_tup, kdO_dK, nq_n, nq_b, nq_i, nq_s, nq_l, nq_t, nq_d, ne_eq, not_false_eq_true, kit_ss, kit_ns, kit_bs, kit_is, kit_ls, kit_ts, kit_ds, kit_bb, V.ty.injEq, and_assoc, rIxU, rLenH, rLenU, rLenS, rInt1, rSetL, rEq, rNe, rCat, L2.start, List.map, List.length, List.length_cons, List.length_nil, List.replicate, List.getElem?_cons_zero, List.getElem?_cons_succ, List.set_cons_zero, List.set_cons_succ, List.set_nil, List.cons_append, List.nil_append, List.append_nil, Option.some.injEq, V.int.injEq, V.ref.injEq, V.str.injEq, V.bl.injEq, HO.lst.injEq, HO.tup.injEq, exists_eq_left', exists_and_left, exists_eq_left, List.cons.injEq, and_true, true_and, and_false, false_and, and_self, reduceCtorEq, exists_false, or_false, false_or, exists_const, at0, at1, at2, at3, at4, at5, ix51, ix52, ix54, upd_same, Nat.reduceAdd, Nat.reduceSub, Nat.zero_add, Int.reduceToNat, Int.reduceLE, Int.reduceLT, decide_eq_true_eq, Bool.not_eq_true, if_true, if_false, Bool.false_eq_true, ite_true, ite_false, Bool.not_true, Bool.not_false, decide_true, decide_false, tFor_eq, tLc_eq, iList, iTup, iRng1, iRng2, iStr, tSl, tPart, tNoPart, rSlL, cxOf_K, wipe, ex_ty2, kit_LTl, kit_LTt, kit_LTd, kit_LTs, kit_LTn, kit_LTb, kit_LTi, tM1, rIxS, exists_eq', lt1p, tDNewK, rSlS, rEqNil]
      refine ⟨by decide, fun p hp => k _ (same_new hp)⟩
    | int i =>
      refine ⟨_, (pss_one (ps_ret (pe_and (pe_callB call_isBT (by rfl) T.z_isinstance (by decide +kernel) (pa_cons (pv 0) (pa_cons (pe_tup (pa_cons (pe_bltn (v := .ty "list") (by rfl) T.z_list (by decide +kernel) rfl) (pa_cons (pe_bltn (v := .ty "tuple") (by rfl) T.z_tuple (by decide +kernel) rfl) pa_nil))) pa_nil))) (pe_and (pe_cmpR (op_le) (pe_callB call_lenH (by rfl) T.z_len (by decide +kernel) (pa_cons (pv 0) pa_nil)) (pe_glob (v := .int 12) (by rfl) T.c_MOST_LINES.choose_spec ⟨_, rfl⟩) (nomark _)) (pe_one (pe_callB (cr_all rfl) (by rfl) T.z_all (by decide +kernel) (pa_cons (pe_lc (own := [("line", 1)]) (g := gName 1) (tt := tYes) (by rfl) scIsText.nd (pi_list (pv 0)) (blkOk_by (own := [("line", 1)]) (N := nIsText) (sc := defScope sIsText) (by decide +kernel)) (fun _ _ _ _ _ => pg_name (i := 1) scIsText.nd rfl (Or.inl rfl)) (fun _ _ _ _ _ => pts_nil) (fun _ _ _ _ _ => (pe_call gIsLine (hr.mono (by decide)) (by rfl) T.m_IsLine T.f_IsLine.kp T.b_IsLine .nil pass0 (pa_cons (pv 1) pa_nil)))) pa_nil))))))), ?_⟩
      try simp only [tSeq, tNext, tRet, tRetN, tAsg, gName, gSub, tDrop, tIfS, tOp, tUn, tCB, tCons, tNil, tC, tVar, rI, rI0, rU, tAnd, tOr, tNot, tAndV, tOrV, tNotV, tIf, tTest, tB, tCall, tChain, tLst, tTup, tYes, rIxH, rIsB, rIsBT, rMulS, kd_non, kd_bl, kd_int, kd_str, kd_ref, kdO_lst, kdO_tup, kdO_dK, nq_n, nq_b, nq_i, nq_s, nq_l, nq_t, nq_d, ne_eq, not_false_eq_true, kit_ss, kit_ns, kit_bs, kit_is, kit_ls, kit_ts, kit_ds, kit_bb, V.ty.injEq, and_assoc, rIxU, rLenH, rLenU, rLenS, rInt1, rSetL, rEq, rNe, rCat, L2.start, List.map, List.length, List.length_cons, List.length_nil, List.replicate, List.getElem?_cons_zero, List.getElem?_cons_succ, List.set_cons_zero, List.set_cons_succ, List.set_nil, List.cons_append, List.nil_append, List.append_nil, Option.some.injEq, V.int.injEq, V.ref.injEq, V.str.injEq, V.bl.injEq, HO.lst.injEq, HO.tup.injEq, exists_eq_left', exists_and_left, exists_eq_left, List.cons.injEq, and_true, true_and, and_false, false_and, and_self, reduceCtorEq, exists_false, or_false, false_or, exists_const, at0, at1, at2, at3, at4, at5, ix51, ix52, ix54, upd_same, Nat.reduceAdd, Nat.reduceSub, Nat.zero_add, Int.reduceToNat, Int.reduceLE, Int.reduceLT, decide_eq_true_eq, Bool.not_eq_true, if_true, if_false, Bool.false_eq_true, ite_true, ite_false, Bool.not_true, Bool.not_false, decide_true, decide_false, tFor_eq, tLc_eq, iList, iTup, iRng1, iRng2, iStr, tSl, tPart, tNoPart, rSlL, cxOf_K, wipe, ex_ty2, kit_LTl, kit_LTt, kit_LTd, kit_LTs, kit_LTn, kit_LTb, kit_LTi, tM1, rIxS, exists_eq', lt1p, tDNewK, rSlS, rEqNil]
      refine ⟨by decide, fun p hp => k _ (same_new hp)⟩
    | str hz =>
      refine ⟨_, (pss_one (ps_ret (pe_and (pe_callB call_isBT (by rfl) T.z_isinstance (by decide +kernel) (pa_cons (pv 0) (pa_cons (pe_tup (pa_cons (pe_bltn (v := .ty "list") (by rfl) T.z_list (by decide +kernel) rfl) (pa_cons (pe_bltn (v := .ty "tuple") (by rfl) T.z_tuple (by decide +kernel) rfl) pa_nil))) pa_nil))) (pe_and (pe_cmpR (op_le) (pe_callB call_lenH (by rfl) T.z_len (by decide +kernel) (pa_cons (pv 0) pa_nil)) (pe_glob (v := .int 12) (by rfl) T.c_MOST_LINES.choose_spec ⟨_, rfl⟩) (nomark _)) (pe_one (pe_callB (cr_all rfl) (by rfl) T.z_all (by decide +kernel) (pa_cons (pe_lc (own := [("line", 1)]) (g := gName 1) (tt := tYes) (by rfl) scIsText.nd (pi_list (pv 0)) (blkOk_by (own := [("line", 1)]) (N := nIsText) (sc := defScope sIsText) (by decide +kernel)) (fun _ _ _ _ _ => pg_name (i := 1) scIsText.nd rfl (Or.inl rfl)) (fun _ _ _ _ _ => pts_nil) (fun _ _ _ _ _ => (pe_call gIsLine (hr.mono (by decide)) (by rfl) T.m_IsLine T.f_IsLine.kp T.b_IsLine .nil pass0 (pa_cons (pv 1) pa_nil)))) pa_nil))))))), ?_⟩
      try simp only [tSeq, tNext, tRet, tRetN, tAsg, gName, gSub, tDrop, tIfS, tOp, tUn, tCB, tCons, tNil, tC, tVar, rI, rI0, rU, tAnd, tOr, tNot, tAndV, tOrV, tNotV, tIf, tTest, tB, tCall, tChain, tLst, tTup, tYes, rIxH, rIsB, rIsBT, rMulS, kd_non, kd_bl, kd_int, kd_str, kd_ref, kdO_lst, kdO_tup, kdO_dK, nq_n, nq_b, nq_i, nq_s, nq_l, nq_t, nq_d, ne_eq, not_false_eq_true, kit_ss, kit_ns, kit_bs, kit_is, kit_ls, kit_ts, kit_ds, kit_bb, V.ty.injEq, and_assoc, rIxU, rLenH, rLenU, rLenS, rInt1, rSetL, rEq, rNe, rCat, L2.start, List.map, List.length, List.length_cons, List.length_nil, List.replicate, List.getElem?_cons_zero, List.getElem?_cons_succ, List.set_cons_zero, List.set_cons_succ, List.set_nil, List.cons_append, List.nil_append, List.append_nil, Option.some.injEq, V.int.injEq, V.ref.injEq, V.str.injEq, V.bl.injEq, HO.lst.injEq, HO.tup.injEq, exists_eq_left', exists_and_left, exists_eq_left, List.cons.injEq, and_true, true_and, and_false, false_and, and_self, reduceCtorEq, exists_false, or_false, false_or, exists_const, at0, at1, at2, at3, at4, at5, ix51, ix52, ix54, upd_same, Nat.reduceAdd, Nat.reduceSub, Nat.zero_add, Int.reduceToNat, Int.reduceLE, Int.reduceLT, decide_eq_true_eq, Bool.not_eq_true, if_true, if_false, Bool.false_eq_true, ite_true, ite_false, Bool.not_true, Bool.not_false, decide_true, decide_false, tFor_eq, tLc_eq, iList, iTup, iRng1, iRng2, iStr, tSl, tPart, tNoPart, rSlL, cxOf_K, wipe, ex_ty2, kit_LTl, kit_LTt, kit_LTd, kit_LTs, kit_LTn, kit_LTb, kit_LTi, tM1, rIxS, exists_eq', lt1p, tDNewK, rSlS, rEqNil]
      refine ⟨by decide, fun p hp => k _ (same_new hp)⟩
end

/-! ## numbers, counts, names -/
def isIntV : V → Bool
  | .int _ => true
  | _ => false
def isCntV : V → Bool
  | .int i => decide (0 ≤ i)
  | _ => false
theorem kit_ii : kitB "int" "int" = some true := by decide +kernel
theorem kit_ibo : kitB "int" "bool" = some false := by decide +kernel
theorem kit_bi : kitB "bool" "int" = some true := by decide +kernel
theorem kit_si : kitB "str" "int" = some false := by decide +kernel
theorem kit_li : kitB "list" "int" = some false := by decide +kernel
theorem kit_ti : kitB "tuple" "int" = some false := by decide +kernel
theorem kit_di : kitB "dict" "int" = some false := by decide +kernel
theorem kit_ni : kitB "NoneType" "int" = some false := by decide +kernel
section
variable {P : Program} {w : World} {K : PySem.W.Frag} {mg : Str → Option Value} {base : Heap} {A : Adr}
def spIsIntT : Sp := fun vs H Q _ => ∃ v, vs = [v] ∧ Thg H v ∧ Q (.bl (isIntV v)) H
theorem ok_isintT (T : Txt K mg A) : FnOk P w K mg base CX0 1 A.a_IsInteger A.d_IsInteger ["value"] spIsIntT := by
  refine T.f_IsInteger.ok scIsInteger (fun vs H Q E h => ?_) (fun cdv A' outer s H vs Q E hr h => ?_)
  · obtain ⟨v, rfl, _⟩ := h
    rfl
  · obtain ⟨v, rfl, ht, k⟩ := h
    refine ⟨_, (pss_one (ps_ret (pe_and (pe_callB call_isB (by rfl) T.z_isinstance (by decide +kernel) (pa_cons (pv 0) (pa_cons (pe_bltn (v := .ty "int") (by rfl) T.z_int (by decide +kernel) rfl) pa_nil))) (pe_one (pe_not (pe_callB call_isB (by rfl) T.z_isinstance (by decide +kernel) (pa_cons (pv 0) (pa_cons (pe_bltn (v := .ty "bool") (by rfl) T.z_bool (by decide +kernel) rfl) pa_nil)))))))), ?_⟩
    cases ht with
    | str hz => try simp only [tSeq, tNext, tRet, tRetN, tAsg, gName, gSub, tDrop, tIfS, tOp, tUn, tCB, tCons, tNil, tC, tVar, rI, rI0, rU, tAnd, tOr, tNot, tAndV, tOrV, tNotV, tIf, tTest, tB, tCall, tChain, tLst, tTup, tYes, rIxH, rIsB, rIsBT, rMulS, kd_non, kd_bl, kd_int, kd_str, kd_ref, kdO_lst, kdO_tup, kdO_dK, nq_n, nq_b, nq_i, nq_s, nq_l, nq_t, nq_d, ne_eq, not_false_eq_true, kit_ss, kit_ns, kit_bs, kit_is, kit_ls, kit_ts, kit_ds, kit_bb, V.ty.injEq, and_assoc, rIxU, rLenH, rLenU, rLenS, rInt1, rSetL, rEq, rNe, rCat, L2.start, List.map, List.length, List.length_cons, List.length_nil, List.replicate, List.getElem?_cons_zero, List.getElem?_cons_succ, List.set_cons_zero, List.set_cons_succ, List.set_nil, List.cons_append, List.nil_append, List.append_nil, Option.some.injEq, V.int.injEq, V.ref.injEq, V.str.injEq, V.bl.injEq, HO.lst.injEq, HO.tup.injEq, exists_eq_left', exists_and_left, exists_eq_left, List.cons.injEq, and_true, true_and, and_false, false_and, and_self, reduceCtorEq, exists_false, or_false, false_or, exists_const, at0, at1, at2, at3, at4, at5, ix51, ix52, ix54, upd_same, Nat.reduceAdd, Nat.reduceSub, Nat.zero_add, Int.reduceToNat, Int.reduceLE, Int.reduceLT, decide_eq_true_eq, Bool.not_eq_true, if_true, if_false, Bool.false_eq_true, ite_true, ite_false, Bool.not_true, Bool.not_false, decide_true, decide_false, tFor_eq, tLc_eq, iList, iTup, iRng1, iRng2, iStr, tSl, tPart, tNoPart, rSlL, cxOf_K, wipe, ex_ty2, kit_LTl, kit_LTt, kit_LTd, kit_LTs, kit_LTn, kit_LTb, kit_LTi, tM1, rIxS, exists_eq', lt1p, tDNewK, rSlS, rEqNil, kit_si]; exact k
    | lst e => try simp only [tSeq, tNext, tRet, tRetN, tAsg, gName, gSub, tDrop, tIfS, tOp, tUn, tCB, tCons, tNil, tC, tVar, rI, rI0, rU, tAnd, tOr, tNot, tAndV, tOrV, tNotV, tIf, tTest, tB, tCall, tChain, tLst, tTup, tYes, rIxH, rIsB, rIsBT, rMulS, kd_non, kd_bl, kd_int, kd_str, kd_ref, kdO_lst, kdO_tup, kdO_dK, nq_n, nq_b, nq_i, nq_s, nq_l, nq_t, nq_d, ne_eq, not_false_eq_true, kit_ss, kit_ns, kit_bs, kit_is, kit_ls, kit_ts, kit_ds, kit_bb, V.ty.injEq, and_assoc, rIxU, rLenH, rLenU, rLenS, rInt1, rSetL, rEq, rNe, rCat, L2.start, List.map, List.length, List.length_cons, List.length_nil, List.replicate, List.getElem?_cons_zero, List.getElem?_cons_succ, List.set_cons_zero, List.set_cons_succ, List.set_nil, List.cons_append, List.nil_append, List.append_nil, Option.some.injEq, V.int.injEq, V.ref.injEq, V.str.injEq, V.bl.injEq, HO.lst.injEq, HO.tup.injEq, exists_eq_left', exists_and_left, exists_eq_left, List.cons.injEq, and_true, true_and, and_false, false_and, and_self, reduceCtorEq, exists_false, or_false, false_or, exists_const, at0, at1, at2, at3, at4, at5, ix51, ix52, ix54, upd_same, Nat.reduceAdd, Nat.reduceSub, Nat.zero_add, Int.reduceToNat, Int.reduceLE, Int.reduceLT, decide_eq_true_eq, Bool.not_eq_true, if_true, if_false, Bool.false_eq_true, ite_true, ite_false, Bool.not_true, Bool.not_false, decide_true, decide_false, tFor_eq, tLc_eq, iList, iTup, iRng1, iRng2, iStr, tSl, tPart, tNoPart, rSlL, cxOf_K, wipe, ex_ty2, kit_LTl, kit_LTt, kit_LTd, kit_LTs, kit_LTn, kit_LTb, kit_LTi, tM1, rIxS, exists_eq', lt1p, tDNewK, rSlS, rEqNil, e, kit_li]; exact k
    | tup e => try simp only [tSeq, tNext, tRet, tRetN, tAsg, gName, gSub, tDrop, tIfS, tOp, tUn, tCB, tCons, tNil, tC, tVar, rI, rI0, rU, tAnd, tOr, tNot, tAndV, tOrV, tNotV, tIf, tTest, tB, tCall, tChain, tLst, tTup, tYes, rIxH, rIsB, rIsBT, rMulS, kd_non, kd_bl, kd_int, kd_str, kd_ref, kdO_lst, kdO_tup, kdO_dK, nq_n, nq_b, nq_i, nq_s, nq_l, nq_t, nq_d, ne_eq, not_false_eq_true, kit_ss, kit_ns, kit_bs, kit_is, kit_ls, kit_ts, kit_ds, kit_bb, V.ty.injEq, and_assoc, rIxU, rLenH, rLenU, rLenS, rInt1, rSetL, rEq, rNe, rCat, L2.start, List.map, List.length, List.length_cons, List.length_nil, List.replicate, List.getElem?_cons_zero, List.getElem?_cons_succ, List.set_cons_zero, List.set_cons_succ, List.set_nil, List.cons_append, List.nil_append, List.append_nil, Option.some.injEq, V.int.injEq, V.ref.injEq, V.str.injEq, V.bl.injEq, HO.lst.injEq, HO.tup.injEq, exists_eq_left', exists_and_left, exists_eq_left, List.cons.injEq, and_true, true_and, and_false, false_and, and_self, reduceCtorEq, exists_false, or_false, false_or, exists_const, at0, at1, at2, at3, at4, at5, ix51, ix52, ix54, upd_same, Nat.reduceAdd, Nat.reduceSub, Nat.zero_add, Int.reduceToNat, Int.reduceLE, Int.reduceLT, decide_eq_true_eq, Bool.not_eq_true, if_true, if_false, Bool.false_eq_true, ite_true, ite_false, Bool.not_true, Bool.not_false, decide_true, decide_false, tFor_eq, tLc_eq, iList, iTup, iRng1, iRng2, iStr, tSl, tPart, tNoPart, rSlL, cxOf_K, wipe, ex_ty2, kit_LTl, kit_LTt, kit_LTd, kit_LTs, kit_LTn, kit_LTb, kit_LTi, tM1, rIxS, exists_eq', lt1p, tDNewK, rSlS, rEqNil, e, kit_ti]; exact k
    | dic e => try simp only [tSeq, tNext, tRet, tRetN, tAsg, gName, gSub, tDrop, tIfS, tOp, tUn, tCB, tCons, tNil, tC, tVar, rI, rI0, rU, tAnd, tOr, tNot, tAndV, tOrV, tNotV, tIf, tTest, tB, tCall, tChain, tLst, tTup, tYes, rIxH, rIsB, rIsBT, rMulS, kd_non, kd_bl, kd_int, kd_str, kd_ref, kdO_lst, kdO_tup, kdO_dK, nq_n, nq_b, nq_i, nq_s, nq_l, nq_t, nq_d, ne_eq, not_false_eq_true, kit_ss, kit_ns, kit_bs, kit_is, kit_ls, kit_ts, kit_ds, kit_bb, V.ty.injEq, and_assoc, rIxU, rLenH, rLenU, rLenS, rInt1, rSetL, rEq, rNe, rCat, L2.start, List.map, List.length, List.length_cons, List.length_nil, List.replicate, List.getElem?_cons_zero, List.getElem?_cons_succ, List.set_cons_zero, List.set_cons_succ, List.set_nil, List.cons_append, List.nil_append, List.append_nil, Option.some.injEq, V.int.injEq, V.ref.injEq, V.str.injEq, V.bl.injEq, HO.lst.injEq, HO.tup.injEq, exists_eq_left', exists_and_left, exists_eq_left, List.cons.injEq, and_true, true_and, and_false, false_and, and_self, reduceCtorEq, exists_false, or_false, false_or, exists_const, at0, at1, at2, at3, at4, at5, ix51, ix52, ix54, upd_same, Nat.reduceAdd, Nat.reduceSub, Nat.zero_add, Int.reduceToNat, Int.reduceLE, Int.reduceLT, decide_eq_true_eq, Bool.not_eq_true, if_true, if_false, Bool.false_eq_true, ite_true, ite_false, Bool.not_true, Bool.not_false, decide_true, decide_false, tFor_eq, tLc_eq, iList, iTup, iRng1, iRng2, iStr, tSl, tPart, tNoPart, rSlL, cxOf_K, wipe, ex_ty2, kit_LTl, kit_LTt, kit_LTd, kit_LTs, kit_LTn, kit_LTb, kit_LTi, tM1, rIxS, exists_eq', lt1p, tDNewK, rSlS, rEqNil, e, kit_di]; exact k
    | non => try simp only [tSeq, tNext, tRet, tRetN, tAsg, gName, gSub, tDrop, tIfS, tOp, tUn, tCB, tCons, tNil, tC, tVar, rI, rI0, rU, tAnd, tOr, tNot, tAndV, tOrV, tNotV, tIf, tTest, tB, tCall, tChain, tLst, tTup, tYes, rIxH, rIsB, rIsBT, rMulS, kd_non, kd_bl, kd_int, kd_str, kd_ref, kdO_lst, kdO_tup, kdO_dK, nq_n, nq_b, nq_i, nq_s, nq_l, nq_t, nq_d, ne_eq, not_false_eq_true, kit_ss, kit_ns, kit_bs, kit_is, kit_ls, kit_ts, kit_ds, kit_bb, V.ty.injEq, and_assoc, rIxU, rLenH, rLenU, rLenS, rInt1, rSetL, rEq, rNe, rCat, L2.start, List.map, List.length, List.length_cons, List.length_nil, List.replicate, List.getElem?_cons_zero, List.getElem?_cons_succ, List.set_cons_zero, List.set_cons_succ, List.set_nil, List.cons_append, List.nil_append, List.append_nil, Option.some.injEq, V.int.injEq, V.ref.injEq, V.str.injEq, V.bl.injEq, HO.lst.injEq, HO.tup.injEq, exists_eq_left', exists_and_left, exists_eq_left, List.cons.injEq, and_true, true_and, and_false, false_and, and_self, reduceCtorEq, exists_false, or_false, false_or, exists_const, at0, at1, at2, at3, at4, at5, ix51, ix52, ix54, upd_same, Nat.reduceAdd, Nat.reduceSub, Nat.zero_add, Int.reduceToNat, Int.reduceLE, Int.reduceLT, decide_eq_true_eq, Bool.not_eq_true, if_true, if_false, Bool.false_eq_true, ite_true, ite_false, Bool.not_true, Bool.not_false, decide_true, decide_false, tFor_eq, tLc_eq, iList, iTup, iRng1, iRng2, iStr, tSl, tPart, tNoPart, rSlL, cxOf_K, wipe, ex_ty2, kit_LTl, kit_LTt, kit_LTd, kit_LTs, kit_LTn, kit_LTb, kit_LTi, tM1, rIxS, exists_eq', lt1p, tDNewK, rSlS, rEqNil, kit_ni]; exact k
    | bl b => try simp only [tSeq, tNext, tRet, tRetN, tAsg, gName, gSub, tDrop, tIfS, tOp, tUn, tCB, tCons, tNil, tC, tVar, rI, rI0, rU, tAnd, tOr, tNot, tAndV, tOrV, tNotV, tIf, tTest, tB, tCall, tChain, tLst, tTup, tYes, rIxH, rIsB, rIsBT, rMulS, kd_non, kd_bl, kd_int, kd_str, kd_ref, kdO_lst, kdO_tup, kdO_dK, nq_n, nq_b, nq_i, nq_s, nq_l, nq_t, nq_d, ne_eq, not_false_eq_true, kit_ss, kit_ns, kit_bs, kit_is, kit_ls, kit_ts, kit_ds, kit_bb, V.ty.injEq, and_assoc, rIxU, rLenH, rLenU, rLenS, rInt1, rSetL, rEq, rNe, rCat, L2.start, List.map, List.length, List.length_cons, List.length_nil, List.replicate, List.getElem?_cons_zero, List.getElem?_cons_succ, List.set_cons_zero, List.set_cons_succ, List.set_nil, List.cons_append, List.nil_append, List.append_nil, Option.some.injEq, V.int.injEq, V.ref.injEq, V.str.injEq, V.bl.injEq, HO.lst.injEq, HO.tup.injEq, exists_eq_left', exists_and_left, exists_eq_left, List.cons.injEq, and_true, true_and, and_false, false_and, and_self, reduceCtorEq, exists_false, or_false, false_or, exists_const, at0, at1, at2, at3, at4, at5, ix51, ix52, ix54, upd_same, Nat.reduceAdd, Nat.reduceSub, Nat.zero_add, Int.reduceToNat, Int.reduceLE, Int.reduceLT, decide_eq_true_eq, Bool.not_eq_true, if_true, if_false, Bool.false_eq_true, ite_true, ite_false, Bool.not_true, Bool.not_false, decide_true, decide_false, tFor_eq, tLc_eq, iList, iTup, iRng1, iRng2, iStr, tSl, tPart, tNoPart, rSlL, cxOf_K, wipe, ex_ty2, kit_LTl, kit_LTt, kit_LTd, kit_LTs, kit_LTn, kit_LTb, kit_LTi, tM1, rIxS, exists_eq', lt1p, tDNewK, rSlS, rEqNil, kit_bi, kit_bb]; exact k
    | int i => try simp only [tSeq, tNext, tRet, tRetN, tAsg, gName, gSub, tDrop, tIfS, tOp, tUn, tCB, tCons, tNil, tC, tVar, rI, rI0, rU, tAnd, tOr, tNot, tAndV, tOrV, tNotV, tIf, tTest, tB, tCall, tChain, tLst, tTup, tYes, rIxH, rIsB, rIsBT, rMulS, kd_non, kd_bl, kd_int, kd_str, kd_ref, kdO_lst, kdO_tup, kdO_dK, nq_n, nq_b, nq_i, nq_s, nq_l, nq_t, nq_d, ne_eq, not_false_eq_true, kit_ss, kit_ns, kit_bs, kit_is, kit_ls, kit_ts, kit_ds, kit_bb, V.ty.injEq, and_assoc, rIxU, rLenH, rLenU, rLenS, rInt1, rSetL, rEq, rNe, rCat, L2.start, List.map, List.length, List.length_cons, List.length_nil, List.replicate, List.getElem?_cons_zero, List.getElem?_cons_succ, List.set_cons_zero, List.set_cons_succ, List.set_nil, List.cons_append, List.nil_append, List.append_nil, Option.some.injEq, V.int.injEq, V.ref.injEq, V.str.injEq, V.bl.injEq, HO.lst.injEq, HO.tup.injEq, exists_eq_left', exists_and_left, exists_eq_left, List.cons.injEq, and_true, true_and, and_false, false_and, and_self, reduceCtorEq, exists_false, or_false, false_or, exists_const, at0, at1, at2, at3, at4, at5, ix51, ix52, ix54, upd_same, Nat.reduceAdd, Nat.reduceSub, Nat.zero_add, Int.reduceToNat, Int.reduceLE, Int.reduceLT, decide_eq_true_eq, Bool.not_eq_true, if_true, if_false, Bool.false_eq_true, ite_true, ite_false, Bool.not_true, Bool.not_false, decide_true, decide_false, tFor_eq, tLc_eq, iList, iTup, iRng1, iRng2, iStr, tSl, tPart, tNoPart, rSlL, cxOf_K, wipe, ex_ty2, kit_LTl, kit_LTt, kit_LTd, kit_LTs, kit_LTn, kit_LTb, kit_LTi, tM1, rIxS, exists_eq', lt1p, tDNewK, rSlS, rEqNil, kit_ii, kit_ibo]; exact k
def spIsCntT : Sp := fun vs H Q _ => ∃ v, vs = [v] ∧ Thg H v ∧ Q (.bl (isCntV v)) H
theorem ok_iscntT (T : Txt K mg A) (gIsInteger : FnOk P w K mg base CX0 1 A.a_IsInteger A.d_IsInteger ["value"] spIsIntT) : FnOk P w K mg base CX0 2 A.a_IsCount A.d_IsCount ["value"] spIsCntT := by
  refine T.f_IsCount.ok scIsCount (fun vs H Q E h => ?_) (fun cdv A' outer s H vs Q E hr h => ?_)
  · obtain ⟨v, rfl, _⟩ := h
    rfl
  · obtain ⟨v, rfl, ht, k⟩ := h
    refine ⟨_, (pss_one (ps_ret (pe_and (pe_call gIsInteger (hr.mono (by decide)) (by rfl) T.m_IsInteger T.f_IsInteger.kp T.b_IsInteger .nil pass0 (pa_cons (pv 0) pa_nil)) (pe_one (pe_cmpR (op_ge) (pv 0) pe_int (nomark _)))))), ?_⟩
    try simp only [tSeq, tNext, tRet, tRetN, tAsg, gName, gSub, tDrop, tIfS, tOp, tUn, tCB, tCons, tNil, tC, tVar, rI, rI0, rU, tAnd, tOr, tNot, tAndV, tOrV, tNotV, tIf, tTest, tB, tCall, tChain, tLst, tTup, tYes, rIxH, rIsB, rIsBT, rMulS, kd_non, kd_bl, kd_int, kd_str, kd_ref, kdO_lst, kdO_tup, kdO_dK, nq_n, nq_b, nq_i, nq_s, nq_l, nq_t, nq_d, ne_eq, not_false_eq_true, kit_ss, kit_ns, kit_bs, kit_is, kit_ls, kit_ts, kit_ds, kit_bb, V.ty.injEq, and_assoc, rIxU, rLenH, rLenU, rLenS, rInt1, rSetL, rEq, rNe, rCat, L2.start, List.map, List.length, List.length_cons, List.length_nil, List.replicate, List.getElem?_cons_zero, List.getElem?_cons_succ, List.set_cons_zero, List.set_cons_succ, List.set_nil, List.cons_append, List.nil_append, List.append_nil, Option.some.injEq, V.int.injEq, V.ref.injEq, V.str.injEq, V.bl.injEq, HO.lst.injEq, HO.tup.injEq, exists_eq_left', exists_and_left, exists_eq_left, List.cons.injEq, and_true, true_and, and_false, false_and, and_self, reduceCtorEq, exists_false, or_false, false_or, exists_const, at0, at1, at2, at3, at4, at5, ix51, ix52, ix54, upd_same, Nat.reduceAdd, Nat.reduceSub, Nat.zero_add, Int.reduceToNat, Int.reduceLE, Int.reduceLT, decide_eq_true_eq, Bool.not_eq_true, if_true, if_false, Bool.false_eq_true, ite_true, ite_false, Bool.not_true, Bool.not_false, decide_true, decide_false, tFor_eq, tLc_eq, iList, iTup, iRng1, iRng2, iStr, tSl, tPart, tNoPart, rSlL, cxOf_K, wipe, ex_ty2, kit_LTl, kit_LTt, kit_LTd, kit_LTs, kit_LTn, kit_LTb, kit_LTi, tM1, rIxS, exists_eq', lt1p, tDNewK, rSlS, rEqNil]
    refine ⟨v, rfl, ht, ?_⟩
    cases ht with
    | int i => try simp only [tSeq, tNext, tRet, tRetN, tAsg, gName, gSub, tDrop, tIfS, tOp, tUn, tCB, tCons, tNil, tC, tVar, rI, rI0, rU, tAnd, tOr, tNot, tAndV, tOrV, tNotV, tIf, tTest, tB, tCall, tChain, tLst, tTup, tYes, rIxH, rIsB, rIsBT, rMulS, kd_non, kd_bl, kd_int, kd_str, kd_ref, kdO_lst, kdO_tup, kdO_dK, nq_n, nq_b, nq_i, nq_s, nq_l, nq_t, nq_d, ne_eq, not_false_eq_true, kit_ss, kit_ns, kit_bs, kit_is, kit_ls, kit_ts, kit_ds, kit_bb, V.ty.injEq, and_assoc, rIxU, rLenH, rLenU, rLenS, rInt1, rSetL, rEq, rNe, rCat, L2.start, List.map, List.length, List.length_cons, List.length_nil, List.replicate, List.getElem?_cons_zero, List.getElem?_cons_succ, List.set_cons_zero, List.set_cons_succ, List.set_nil, List.cons_append, List.nil_append, List.append_nil, Option.some.injEq, V.int.injEq, V.ref.injEq, V.str.injEq, V.bl.injEq, HO.lst.injEq, HO.tup.injEq, exists_eq_left', exists_and_left, exists_eq_left, List.cons.injEq, and_true, true_and, and_false, false_and, and_self, reduceCtorEq, exists_false, or_false, false_or, exists_const, at0, at1, at2, at3, at4, at5, ix51, ix52, ix54, upd_same, Nat.reduceAdd, Nat.reduceSub, Nat.zero_add, Int.reduceToNat, Int.reduceLE, Int.reduceLT, decide_eq_true_eq, Bool.not_eq_true, if_true, if_false, Bool.false_eq_true, ite_true, ite_false, Bool.not_true, Bool.not_false, decide_true, decide_false, tFor_eq, tLc_eq, iList, iTup, iRng1, iRng2, iStr, tSl, tPart, tNoPart, rSlL, cxOf_K, wipe, ex_ty2, kit_LTl, kit_LTt, kit_LTd, kit_LTs, kit_LTn, kit_LTb, kit_LTi, tM1, rIxS, exists_eq', lt1p, tDNewK, rSlS, rEqNil, isIntV]; exact k
    | str hz => try simp only [tSeq, tNext, tRet, tRetN, tAsg, gName, gSub, tDrop, tIfS, tOp, tUn, tCB, tCons, tNil, tC, tVar, rI, rI0, rU, tAnd, tOr, tNot, tAndV, tOrV, tNotV, tIf, tTest, tB, tCall, tChain, tLst, tTup, tYes, rIxH, rIsB, rIsBT, rMulS, kd_non, kd_bl, kd_int, kd_str, kd_ref, kdO_lst, kdO_tup, kdO_dK, nq_n, nq_b, nq_i, nq_s, nq_l, nq_t, nq_d, ne_eq, not_false_eq_true, kit_ss, kit_ns, kit_bs, kit_is, kit_ls, kit_ts, kit_ds, kit_bb, V.ty.injEq, and_assoc, rIxU, rLenH, rLenU, rLenS, rInt1, rSetL, rEq, rNe, rCat, L2.start, List.map, List.length, List.length_cons, List.length_nil, List.replicate, List.getElem?_cons_zero, List.getElem?_cons_succ, List.set_cons_zero, List.set_cons_succ, List.set_nil, List.cons_append, List.nil_append, List.append_nil, Option.some.injEq, V.int.injEq, V.ref.injEq, V.str.injEq, V.bl.injEq, HO.lst.injEq, HO.tup.injEq, exists_eq_left', exists_and_left, exists_eq_left, List.cons.injEq, and_true, true_and, and_false, false_and, and_self, reduceCtorEq, exists_false, or_false, false_or, exists_const, at0, at1, at2, at3, at4, at5, ix51, ix52, ix54, upd_same, Nat.reduceAdd, Nat.reduceSub, Nat.zero_add, Int.reduceToNat, Int.reduceLE, Int.reduceLT, decide_eq_true_eq, Bool.not_eq_true, if_true, if_false, Bool.false_eq_true, ite_true, ite_false, Bool.not_true, Bool.not_false, decide_true, decide_false, tFor_eq, tLc_eq, iList, iTup, iRng1, iRng2, iStr, tSl, tPart, tNoPart, rSlL, cxOf_K, wipe, ex_ty2, kit_LTl, kit_LTt, kit_LTd, kit_LTs, kit_LTn, kit_LTb, kit_LTi, tM1, rIxS, exists_eq', lt1p, tDNewK, rSlS, rEqNil, isIntV]; exact k
    | lst e => try simp only [tSeq, tNext, tRet, tRetN, tAsg, gName, gSub, tDrop, tIfS, tOp, tUn, tCB, tCons, tNil, tC, tVar, rI, rI0, rU, tAnd, tOr, tNot, tAndV, tOrV, tNotV, tIf, tTest, tB, tCall, tChain, tLst, tTup, tYes, rIxH, rIsB, rIsBT, rMulS, kd_non, kd_bl, kd_int, kd_str, kd_ref, kdO_lst, kdO_tup, kdO_dK, nq_n, nq_b, nq_i, nq_s, nq_l, nq_t, nq_d, ne_eq, not_false_eq_true, kit_ss, kit_ns, kit_bs, kit_is, kit_ls, kit_ts, kit_ds, kit_bb, V.ty.injEq, and_assoc, rIxU, rLenH, rLenU, rLenS, rInt1, rSetL, rEq, rNe, rCat, L2.start, List.map, List.length, List.length_cons, List.length_nil, List.replicate, List.getElem?_cons_zero, List.getElem?_cons_succ, List.set_cons_zero, List.set_cons_succ, List.set_nil, List.cons_append, List.nil_append, List.append_nil, Option.some.injEq, V.int.injEq, V.ref.injEq, V.str.injEq, V.bl.injEq, HO.lst.injEq, HO.tup.injEq, exists_eq_left', exists_and_left, exists_eq_left, List.cons.injEq, and_true, true_and, and_false, false_and, and_self, reduceCtorEq, exists_false, or_false, false_or, exists_const, at0, at1, at2, at3, at4, at5, ix51, ix52, ix54, upd_same, Nat.reduceAdd, Nat.reduceSub, Nat.zero_add, Int.reduceToNat, Int.reduceLE, Int.reduceLT, decide_eq_true_eq, Bool.not_eq_true, if_true, if_false, Bool.false_eq_true, ite_true, ite_false, Bool.not_true, Bool.not_false, decide_true, decide_false, tFor_eq, tLc_eq, iList, iTup, iRng1, iRng2, iStr, tSl, tPart, tNoPart, rSlL, cxOf_K, wipe, ex_ty2, kit_LTl, kit_LTt, kit_LTd, kit_LTs, kit_LTn, kit_LTb, kit_LTi, tM1, rIxS, exists_eq', lt1p, tDNewK, rSlS, rEqNil, isIntV]; exact k
    | tup e => try simp only [tSeq, tNext, tRet, tRetN, tAsg, gName, gSub, tDrop, tIfS, tOp, tUn, tCB, tCons, tNil, tC, tVar, rI, rI0, rU, tAnd, tOr, tNot, tAndV, tOrV, tNotV, tIf, tTest, tB, tCall, tChain, tLst, tTup, tYes, rIxH, rIsB, rIsBT, rMulS, kd_non, kd_bl, kd_int, kd_str, kd_ref, kdO_lst, kdO_tup, kdO_dK, nq_n, nq_b, nq_i, nq_s, nq_l, nq_t, nq_d, ne_eq, not_false_eq_true, kit_ss, kit_ns, kit_bs, kit_is, kit_ls, kit_ts, kit_ds, kit_bb, V.ty.injEq, and_assoc, rIxU, rLenH, rLenU, rLenS, rInt1, rSetL, rEq, rNe, rCat, L2.start, List.map, List.length, List.length_cons, List.length_nil, List.replicate, List.getElem?_cons_zero, List.getElem?_cons_succ, List.set_cons_zero, List.set_cons_succ, List.set_nil, List.cons_append, List.nil_append, List.append_nil, Option.some.injEq, V.int.injEq, V.ref.injEq, V.str.injEq, V.bl.injEq, HO.lst.injEq, HO.tup.injEq, exists_eq_left', exists_and_left, exists_eq_left, List.cons.injEq, and_true, true_and, and_false, false_and, and_self, reduceCtorEq, exists_false, or_false, false_or, exists_const, at0, at1, at2, at3, at4, at5, ix51, ix52, ix54, upd_same, Nat.reduceAdd, Nat.reduceSub, Nat.zero_add, Int.reduceToNat, Int.reduceLE, Int.reduceLT, decide_eq_true_eq, Bool.not_eq_true, if_true, if_false, Bool.false_eq_true, ite_true, ite_false, Bool.not_true, Bool.not_false, decide_true, decide_false, tFor_eq, tLc_eq, iList, iTup, iRng1, iRng2, iStr, tSl, tPart, tNoPart, rSlL, cxOf_K, wipe, ex_ty2, kit_LTl, kit_LTt, kit_LTd, kit_LTs, kit_LTn, kit_LTb, kit_LTi, tM1, rIxS, exists_eq', lt1p, tDNewK, rSlS, rEqNil, isIntV]; exact k
    | dic e => try simp only [tSeq, tNext, tRet, tRetN, tAsg, gName, gSub, tDrop, tIfS, tOp, tUn, tCB, tCons, tNil, tC, tVar, rI, rI0, rU, tAnd, tOr, tNot, tAndV, tOrV, tNotV, tIf, tTest, tB, tCall, tChain, tLst, tTup, tYes, rIxH, rIsB, rIsBT, rMulS, kd_non, kd_bl, kd_int, kd_str, kd_ref, kdO_lst, kdO_tup, kdO_dK, nq_n, nq_b, nq_i, nq_s, nq_l, nq_t, nq_d, ne_eq, not_false_eq_true, kit_ss, kit_ns, kit_bs, kit_is, kit_ls, kit_ts, kit_ds, kit_bb, V.ty.injEq, and_assoc, rIxU, rLenH, rLenU, rLenS, rInt1, rSetL, rEq, rNe, rCat, L2.start, List.map, List.length, List.length_cons, List.length_nil, List.replicate, List.getElem?_cons_zero, List.getElem?_cons_succ, List.set_cons_zero, List.set_cons_succ, List.set_nil, List.cons_append, List.nil_append, List.append_nil, Option.some.injEq, V.int.injEq, V.ref.injEq, V.str.injEq, V.bl.injEq, HO.lst.injEq, HO.tup.injEq, exists_eq_left', exists_and_left, exists_eq_left, List.cons.injEq, and_true, true_and, and_false, false_and, and_self, reduceCtorEq, exists_false, or_false, false_or, exists_const, at0, at1, at2, at3, at4, at5, ix51, ix52, ix54, upd_same, Nat.reduceAdd, Nat.reduceSub, Nat.zero_add, Int.reduceToNat, Int.reduceLE, Int.reduceLT, decide_eq_true_eq, Bool.not_eq_true, if_true, if_false, Bool.false_eq_true, ite_true, ite_false, Bool.not_true, Bool.not_false, decide_true, decide_false, tFor_eq, tLc_eq, iList, iTup, iRng1, iRng2, iStr, tSl, tPart, tNoPart, rSlL, cxOf_K, wipe, ex_ty2, kit_LTl, kit_LTt, kit_LTd, kit_LTs, kit_LTn, kit_LTb, kit_LTi, tM1, rIxS, exists_eq', lt1p, tDNewK, rSlS, rEqNil, isIntV]; exact k
    | non => try simp only [tSeq, tNext, tRet, tRetN, tAsg, gName, gSub, tDrop, tIfS, tOp, tUn, tCB, tCons, tNil, tC, tVar, rI, rI0, rU, tAnd, tOr, tNot, tAndV, tOrV, tNotV, tIf, tTest, tB, tCall, tChain, tLst, tTup, tYes, rIxH, rIsB, rIsBT, rMulS, kd_non, kd_bl, kd_int, kd_str, kd_ref, kdO_lst, kdO_tup, kdO_dK, nq_n, nq_b, nq_i, nq_s, nq_l, nq_t, nq_d, ne_eq, not_false_eq_true, kit_ss, kit_ns, kit_bs, kit_is, kit_ls, kit_ts, kit_ds, kit_bb, V.ty.injEq, and_assoc, rIxU, rLenH, rLenU, rLenS, rInt1, rSetL, rEq, rNe, rCat, L2.start, List.map, List.length, List.length_cons, List.length_nil, List.replicate, List.getElem?_cons_zero, List.getElem?_cons_succ, List.set_cons_zero, List.set_cons_succ, List.set_nil, List.cons_append, List.nil_append, List.append_nil, Option.some.injEq, V.int.injEq, V.ref.injEq, V.str.injEq, V.bl.injEq, HO.lst.injEq, HO.tup.injEq, exists_eq_left', exists_and_left, exists_eq_left, List.cons.injEq, and_true, true_and, and_false, false_and, and_self, reduceCtorEq, exists_false, or_false, false_or, exists_const, at0, at1, at2, at3, at4, at5, ix51, ix52, ix54, upd_same, Nat.reduceAdd, Nat.reduceSub, Nat.zero_add, Int.reduceToNat, Int.reduceLE, Int.reduceLT, decide_eq_true_eq, Bool.not_eq_true, if_true, if_false, Bool.false_eq_true, ite_true, ite_false, Bool.not_true, Bool.not_false, decide_true, decide_false, tFor_eq, tLc_eq, iList, iTup, iRng1, iRng2, iStr, tSl, tPart, tNoPart, rSlL, cxOf_K, wipe, ex_ty2, kit_LTl, kit_LTt, kit_LTd, kit_LTs, kit_LTn, kit_LTb, kit_LTi, tM1, rIxS, exists_eq', lt1p, tDNewK, rSlS, rEqNil, isIntV]; exact k
    | bl b => try simp only [tSeq, tNext, tRet, tRetN, tAsg, gName, gSub, tDrop, tIfS, tOp, tUn, tCB, tCons, tNil, tC, tVar, rI, rI0, rU, tAnd, tOr, tNot, tAndV, tOrV, tNotV, tIf, tTest, tB, tCall, tChain, tLst, tTup, tYes, rIxH, rIsB, rIsBT, rMulS, kd_non, kd_bl, kd_int, kd_str, kd_ref, kdO_lst, kdO_tup, kdO_dK, nq_n, nq_b, nq_i, nq_s, nq_l, nq_t, nq_d, ne_eq, not_false_eq_true, kit_ss, kit_ns, kit_bs, kit_is, kit_ls, kit_ts, kit_ds, kit_bb, V.ty.injEq, and_assoc, rIxU, rLenH, rLenU, rLenS, rInt1, rSetL, rEq, rNe, rCat, L2.start, List.map, List.length, List.length_cons, List.length_nil, List.replicate, List.getElem?_cons_zero, List.getElem?_cons_succ, List.set_cons_zero, List.set_cons_succ, List.set_nil, List.cons_append, List.nil_append, List.append_nil, Option.some.injEq, V.int.injEq, V.ref.injEq, V.str.injEq, V.bl.injEq, HO.lst.injEq, HO.tup.injEq, exists_eq_left', exists_and_left, exists_eq_left, List.cons.injEq, and_true, true_and, and_false, false_and, and_self, reduceCtorEq, exists_false, or_false, false_or, exists_const, at0, at1, at2, at3, at4, at5, ix51, ix52, ix54, upd_same, Nat.reduceAdd, Nat.reduceSub, Nat.zero_add, Int.reduceToNat, Int.reduceLE, Int.reduceLT, decide_eq_true_eq, Bool.not_eq_true, if_true, if_false, Bool.false_eq_true, ite_true, ite_false, Bool.not_true, Bool.not_false, decide_true, decide_false, tFor_eq, tLc_eq, iList, iTup, iRng1, iRng2, iStr, tSl, tPart, tNoPart, rSlL, cxOf_K, wipe, ex_ty2, kit_LTl, kit_LTt, kit_LTd, kit_LTs, kit_LTn, kit_LTb, kit_LTi, tM1, rIxS, exists_eq', lt1p, tDNewK, rSlS, rEqNil, isIntV]; exact k
def smallS : Str := "abcdefghijklmnopqrstuvwxyz"
def isNameV : V → Bool
  | .str z => decide (1 ≤ z.length) && decide (z.length ≤ 8) && z.cps.toList.all fun c => decide (c ∈ smallS.cps.toList)
  | _ => false
def spIsNameT : Sp := fun vs H Q _ => ∃ v, vs = [v] ∧ Thg H v ∧ ∀ H', Same H H' → Q (.bl (isNameV v)) H'
theorem ok_isnameT (T : Txt K mg A) : FnOk P w K mg base CX0 1 A.a_IsName A.d_IsName ["value"] spIsNameT := by
  refine T.f_IsName.ok scIsName (fun vs H Q E h => ?_) (fun cdv A' outer s H vs Q E hr h => ?_)
  · obtain ⟨v, rfl, _⟩ := h
    rfl
  · obtain ⟨v, rfl, ht, k⟩ := h
    refine ⟨_, (pss_cons (ps_if (PW.pt (pw_or (pt_not (pt_val (pe_callB call_isB (by rfl) T.z_isinstance (by decide +kernel) (pa_cons (pv 0) (pa_cons (pe_bltn (v := .ty "str") (by rfl) T.z_str (by decide +kernel) rfl) pa_nil))))) (pw_or1 (pt_not (pt_chain (op_le) (op_le) pe_int (pe_callB call_lenS (by rfl) T.z_len (by decide +kernel) (pa_cons (pv 0) pa_nil)) (pe_glob (v := .int 8) (by rfl) T.c_LONGEST_NAME.choose_spec ⟨_, rfl⟩)))))) (pss_one (ps_ret pe_bl)) pss_nil)
      (pss_one (ps_ret (pe_callB (cr_all rfl) (by rfl) T.z_all (by decide +kernel) (pa_cons (pe_lc (own := [("sign", 1)]) (g := gName 1) (tt := tYes) (by rfl) scIsName.nd (pi_str (pv 0)) (blkOk_by (own := [("sign", 1)]) (N := nIsName) (sc := defScope sIsName) (by decide +kernel)) (fun _ _ _ _ _ => pg_name (i := 1) scIsName.nd rfl (Or.inl rfl)) (fun _ _ _ _ _ => pts_nil) (fun _ _ _ _ _ => (pe_cmpR (op_in_sign) (pv 1) (pe_glob (v := .str "abcdefghijklmnopqrstuvwxyz") (by rfl) T.c_SMALL.choose_spec ⟨_, rfl⟩) (by rfl)))) pa_nil))))), ?_⟩
    cases ht with
    | str hz =>
      rename_i z
      try simp only [tSeq, tNext, tRet, tRetN, tAsg, gName, gSub, tDrop, tIfS, tOp, tUn, tCB, tCons, tNil, tC, tVar, rI, rI0, rU, tAnd, tOr, tNot, tAndV, tOrV, tNotV, tIf, tTest, tB, tCall, tChain, tLst, tTup, tYes, rIxH, rIsB, rIsBT, rMulS, kd_non, kd_bl, kd_int, kd_str, kd_ref, kdO_lst, kdO_tup, kdO_dK, nq_n, nq_b, nq_i, nq_s, nq_l, nq_t, nq_d, ne_eq, not_false_eq_true, kit_ss, kit_ns, kit_bs, kit_is, kit_ls, kit_ts, kit_ds, kit_bb, V.ty.injEq, and_assoc, rIxU, rLenH, rLenU, rLenS, rInt1, rSetL, rEq, rNe, rCat, L2.start, List.map, List.length, List.length_cons, List.length_nil, List.replicate, List.getElem?_cons_zero, List.getElem?_cons_succ, List.set_cons_zero, List.set_cons_succ, List.set_nil, List.cons_append, List.nil_append, List.append_nil, Option.some.injEq, V.int.injEq, V.ref.injEq, V.str.injEq, V.bl.injEq, HO.lst.injEq, HO.tup.injEq, exists_eq_left', exists_and_left, exists_eq_left, List.cons.injEq, and_true, true_and, and_false, false_and, and_self, reduceCtorEq, exists_false, or_false, false_or, exists_const, at0, at1, at2, at3, at4, at5, ix51, ix52, ix54, upd_same, Nat.reduceAdd, Nat.reduceSub, Nat.zero_add, Int.reduceToNat, Int.reduceLE, Int.reduceLT, decide_eq_true_eq, Bool.not_eq_true, if_true, if_false, Bool.false_eq_true, ite_true, ite_false, Bool.not_true, Bool.not_false, decide_true, decide_false, tFor_eq, tLc_eq, iList, iTup, iRng1, iRng2, iStr, tSl, tPart, tNoPart, rSlL, cxOf_K, wipe, ex_ty2, kit_LTl, kit_LTt, kit_LTd, kit_LTs, kit_LTn, kit_LTb, kit_LTi, tM1, rIxS, exists_eq', lt1p, tDNewK, rSlS, rEqNil]
      have hz1 := hz.1
      have nm : isNameV (.str z) = (decide (1 ≤ z.length) && decide (z.length ≤ 8) && z.cps.toList.all fun c => decide (c ∈ smallS.cps.toList)) := rfl
      refine ⟨size1000 hz1, ite2 (fun h1 => ite2 (fun h2 => ?_) (fun h2 => ?_)) (fun h1 => ?_)⟩
      · have h2' := of_decide_eq_false ((Bool.not_eq_true' _).mp h2)
        rw [decide_eq_false (show ¬ z.length ≤ 8 by omega), Bool.and_false, Bool.false_and] at nm
        rw [← nm]
        exact k H (Same.refl H)
      · have h2' : z.length ≤ 8 := by
          by_cases h8 : z.length ≤ 8
          · exact h8
          · refine absurd ?_ h2
            rw [decide_eq_false (by omega)]
            rfl
        rw [decide_eq_true (show 1 ≤ z.length by omega), decide_eq_true h2', Bool.true_and, Bool.true_and] at nm
        intro D hD
        refine lc_same walk_strY (fun _ => true) (fun v => .bl (decide (codeOf v ∈ smallS.cps.toList))) hD (fun _ _ => trivial) (by rw [List.length_map, Array.length_toList]; show z.length ≤ _; omega) (fun x hx H2 s2 R R0 g1 _ => ?_) (fun H2 s2 g2 => ?_)
        · obtain ⟨c, hc, rfl⟩ := mem_sgn hx
          try simp only [tSeq, tNext, tRet, tRetN, tAsg, gName, gSub, tDrop, tIfS, tOp, tUn, tCB, tCons, tNil, tC, tVar, rI, rI0, rU, tAnd, tOr, tNot, tAndV, tOrV, tNotV, tIf, tTest, tB, tCall, tChain, tLst, tTup, tYes, rIxH, rIsB, rIsBT, rMulS, kd_non, kd_bl, kd_int, kd_str, kd_ref, kdO_lst, kdO_tup, kdO_dK, nq_n, nq_b, nq_i, nq_s, nq_l, nq_t, nq_d, ne_eq, not_false_eq_true, kit_ss, kit_ns, kit_bs, kit_is, kit_ls, kit_ts, kit_ds, kit_bb, V.ty.injEq, and_assoc, rIxU, rLenH, rLenU, rLenS, rInt1, rSetL, rEq, rNe, rCat, L2.start, List.map, List.length, List.length_cons, List.length_nil, List.replicate, List.getElem?_cons_zero, List.getElem?_cons_succ, List.set_cons_zero, List.set_cons_succ, List.set_nil, List.cons_append, List.nil_append, List.append_nil, Option.some.injEq, V.int.injEq, V.ref.injEq, V.str.injEq, V.bl.injEq, HO.lst.injEq, HO.tup.injEq, exists_eq_left', exists_and_left, exists_eq_left, List.cons.injEq, and_true, true_and, and_false, false_and, and_self, reduceCtorEq, exists_false, or_false, false_or, exists_const, at0, at1, at2, at3, at4, at5, ix51, ix52, ix54, upd_same, Nat.reduceAdd, Nat.reduceSub, Nat.zero_add, Int.reduceToNat, Int.reduceLE, Int.reduceLT, decide_eq_true_eq, Bool.not_eq_true, if_true, if_false, Bool.false_eq_true, ite_true, ite_false, Bool.not_true, Bool.not_false, decide_true, decide_false, tFor_eq, tLc_eq, iList, iTup, iRng1, iRng2, iStr, tSl, tPart, tNoPart, rSlL, cxOf_K, wipe, ex_ty2, kit_LTl, kit_LTt, kit_LTd, kit_LTs, kit_LTn, kit_LTb, kit_LTi, tM1, rIxS, exists_eq', lt1p, tDNewK, rSlS, rEqNil]
          exact ⟨c, rfl, g1 H2 (Same.refl _) rfl⟩
        · rw [filter_all, List.map_map] at g2
          refine ⟨D, z.cps.toList.map (fun c => decide (c ∈ smallS.cps.toList)), rfl, SqL.of (by rw [g2, List.map_map]; rfl), ?_⟩
          have e2 : (z.cps.toList.map fun c => decide (c ∈ smallS.cps.toList)).all id = z.cps.toList.all fun c => decide (c ∈ smallS.cps.toList) := by rw [List.all_map]; rfl
          rw [e2, ← nm]
          exact k H2 s2
      · rw [decide_eq_false (show ¬ 1 ≤ z.length by omega), Bool.false_and, Bool.false_and] at nm
        rw [← nm]
        exact k H (Same.refl H)
    | lst e => try simp only [tSeq, tNext, tRet, tRetN, tAsg, gName, gSub, tDrop, tIfS, tOp, tUn, tCB, tCons, tNil, tC, tVar, rI, rI0, rU, tAnd, tOr, tNot, tAndV, tOrV, tNotV, tIf, tTest, tB, tCall, tChain, tLst, tTup, tYes, rIxH, rIsB, rIsBT, rMulS, kd_non, kd_bl, kd_int, kd_str, kd_ref, kdO_lst, kdO_tup, kdO_dK, nq_n, nq_b, nq_i, nq_s, nq_l, nq_t, nq_d, ne_eq, not_false_eq_true, kit_ss, kit_ns, kit_bs, kit_is, kit_ls, kit_ts, kit_ds, kit_bb, V.ty.injEq, and_assoc, rIxU, rLenH, rLenU, rLenS, rInt1, rSetL, rEq, rNe, rCat, L2.start, List.map, List.length, List.length_cons, List.length_nil, List.replicate, List.getElem?_cons_zero, List.getElem?_cons_succ, List.set_cons_zero, List.set_cons_succ, List.set_nil, List.cons_append, List.nil_append, List.append_nil, Option.some.injEq, V.int.injEq, V.ref.injEq, V.str.injEq, V.bl.injEq, HO.lst.injEq, HO.tup.injEq, exists_eq_left', exists_and_left, exists_eq_left, List.cons.injEq, and_true, true_and, and_false, false_and, and_self, reduceCtorEq, exists_false, or_false, false_or, exists_const, at0, at1, at2, at3, at4, at5, ix51, ix52, ix54, upd_same, Nat.reduceAdd, Nat.reduceSub, Nat.zero_add, Int.reduceToNat, Int.reduceLE, Int.reduceLT, decide_eq_true_eq, Bool.not_eq_true, if_true, if_false, Bool.false_eq_true, ite_true, ite_false, Bool.not_true, Bool.not_false, decide_true, decide_false, tFor_eq, tLc_eq, iList, iTup, iRng1, iRng2, iStr, tSl, tPart, tNoPart, rSlL, cxOf_K, wipe, ex_ty2, kit_LTl, kit_LTt, kit_LTd, kit_LTs, kit_LTn, kit_LTb, kit_LTi, tM1, rIxS, exists_eq', lt1p, tDNewK, rSlS, rEqNil, e]; exact k H (Same.refl H)
    | tup e => try simp only [tSeq, tNext, tRet, tRetN, tAsg, gName, gSub, tDrop, tIfS, tOp, tUn, tCB, tCons, tNil, tC, tVar, rI, rI0, rU, tAnd, tOr, tNot, tAndV, tOrV, tNotV, tIf, tTest, tB, tCall, tChain, tLst, tTup, tYes, rIxH, rIsB, rIsBT, rMulS, kd_non, kd_bl, kd_int, kd_str, kd_ref, kdO_lst, kdO_tup, kdO_dK, nq_n, nq_b, nq_i, nq_s, nq_l, nq_t, nq_d, ne_eq, not_false_eq_true, kit_ss, kit_ns, kit_bs, kit_is, kit_ls, kit_ts, kit_ds, kit_bb, V.ty.injEq, and_assoc, rIxU, rLenH, rLenU, rLenS, rInt1, rSetL, rEq, rNe, rCat, L2.start, List.map, List.length, List.length_cons, List.length_nil, List.replicate, List.getElem?_cons_zero, List.getElem?_cons_succ, List.set_cons_zero, List.set_cons_succ, List.set_nil, List.cons_append, List.nil_append, List.append_nil, Option.some.injEq, V.int.injEq, V.ref.injEq, V.str.injEq, V.bl.injEq, HO.lst.injEq, HO.tup.injEq, exists_eq_left', exists_and_left, exists_eq_left, List.cons.injEq, and_true, true_and, and_false, false_and, and_self, reduceCtorEq, exists_false, or_false, false_or, exists_const, at0, at1, at2, at3, at4, at5, ix51, ix52, ix54, upd_same, Nat.reduceAdd, Nat.reduceSub, Nat.zero_add, Int.reduceToNat, Int.reduceLE, Int.reduceLT, decide_eq_true_eq, Bool.not_eq_true, if_true, if_false, Bool.false_eq_true, ite_true, ite_false, Bool.not_true, Bool.not_false, decide_true, decide_false, tFor_eq, tLc_eq, iList, iTup, iRng1, iRng2, iStr, tSl, tPart, tNoPart, rSlL, cxOf_K, wipe, ex_ty2, kit_LTl, kit_LTt, kit_LTd, kit_LTs, kit_LTn, kit_LTb, kit_LTi, tM1, rIxS, exists_eq', lt1p, tDNewK, rSlS, rEqNil, e]; exact k H (Same.refl H)
    | dic e => try simp only [tSeq, tNext, tRet, tRetN, tAsg, gName, gSub, tDrop, tIfS, tOp, tUn, tCB, tCons, tNil, tC, tVar, rI, rI0, rU, tAnd, tOr, tNot, tAndV, tOrV, tNotV, tIf, tTest, tB, tCall, tChain, tLst, tTup, tYes, rIxH, rIsB, rIsBT, rMulS, kd_non, kd_bl, kd_int, kd_str, kd_ref, kdO_lst, kdO_tup, kdO_dK, nq_n, nq_b, nq_i, nq_s, nq_l, nq_t, nq_d, ne_eq, not_false_eq_true, kit_ss, kit_ns, kit_bs, kit_is, kit_ls, kit_ts, kit_ds, kit_bb, V.ty.injEq, and_assoc, rIxU, rLenH, rLenU, rLenS, rInt1, rSetL, rEq, rNe, rCat, L2.start, List.map, List.length, List.length_cons, List.length_nil, List.replicate, List.getElem?_cons_zero, List.getElem?_cons_succ, List.set_cons_zero, List.set_cons_succ, List.set_nil, List.cons_append, List.nil_append, List.append_nil, Option.some.injEq, V.int.injEq, V.ref.injEq, V.str.injEq, V.bl.injEq, HO.lst.injEq, HO.tup.injEq, exists_eq_left', exists_and_left, exists_eq_left, List.cons.injEq, and_true, true_and, and_false, false_and, and_self, reduceCtorEq, exists_false, or_false, false_or, exists_const, at0, at1, at2, at3, at4, at5, ix51, ix52, ix54, upd_same, Nat.reduceAdd, Nat.reduceSub, Nat.zero_add, Int.reduceToNat, Int.reduceLE, Int.reduceLT, decide_eq_true_eq, Bool.not_eq_true, if_true, if_false, Bool.false_eq_true, ite_true, ite_false, Bool.not_true, Bool.not_false, decide_true, decide_false, tFor_eq, tLc_eq, iList, iTup, iRng1, iRng2, iStr, tSl, tPart, tNoPart, rSlL, cxOf_K, wipe, ex_ty2, kit_LTl, kit_LTt, kit_LTd, kit_LTs, kit_LTn, kit_LTb, kit_LTi, tM1, rIxS, exists_eq', lt1p, tDNewK, rSlS, rEqNil, e]; exact k H (Same.refl H)
    | non => try simp only [tSeq, tNext, tRet, tRetN, tAsg, gName, gSub, tDrop, tIfS, tOp, tUn, tCB, tCons, tNil, tC, tVar, rI, rI0, rU, tAnd, tOr, tNot, tAndV, tOrV, tNotV, tIf, tTest, tB, tCall, tChain, tLst, tTup, tYes, rIxH, rIsB, rIsBT, rMulS, kd_non, kd_bl, kd_int, kd_str, kd_ref, kdO_lst, kdO_tup, kdO_dK, nq_n, nq_b, nq_i, nq_s, nq_l, nq_t, nq_d, ne_eq, not_false_eq_true, kit_ss, kit_ns, kit_bs, kit_is, kit_ls, kit_ts, kit_ds, kit_bb, V.ty.injEq, and_assoc, rIxU, rLenH, rLenU, rLenS, rInt1, rSetL, rEq, rNe, rCat, L2.start, List.map, List.length, List.length_cons, List.length_nil, List.replicate, List.getElem?_cons_zero, List.getElem?_cons_succ, List.set_cons_zero, List.set_cons_succ, List.set_nil, List.cons_append, List.nil_append, List.append_nil, Option.some.injEq, V.int.injEq, V.ref.injEq, V.str.injEq, V.bl.injEq, HO.lst.injEq, HO.tup.injEq, exists_eq_left', exists_and_left, exists_eq_left, List.cons.injEq, and_true, true_and, and_false, false_and, and_self, reduceCtorEq, exists_false, or_false, false_or, exists_const, at0, at1, at2, at3, at4, at5, ix51, ix52, ix54, upd_same, Nat.reduceAdd, Nat.reduceSub, Nat.zero_add, Int.reduceToNat, Int.reduceLE, Int.reduceLT, decide_eq_true_eq, Bool.not_eq_true, if_true, if_false, Bool.false_eq_true, ite_true, ite_false, Bool.not_true, Bool.not_false, decide_true, decide_false, tFor_eq, tLc_eq, iList, iTup, iRng1, iRng2, iStr, tSl, tPart, tNoPart, rSlL, cxOf_K, wipe, ex_ty2, kit_LTl, kit_LTt, kit_LTd, kit_LTs, kit_LTn, kit_LTb, kit_LTi, tM1, rIxS, exists_eq', lt1p, tDNewK, rSlS, rEqNil]; exact k H (Same.refl H)
    | bl b => try simp only [tSeq, tNext, tRet, tRetN, tAsg, gName, gSub, tDrop, tIfS, tOp, tUn, tCB, tCons, tNil, tC, tVar, rI, rI0, rU, tAnd, tOr, tNot, tAndV, tOrV, tNotV, tIf, tTest, tB, tCall, tChain, tLst, tTup, tYes, rIxH, rIsB, rIsBT, rMulS, kd_non, kd_bl, kd_int, kd_str, kd_ref, kdO_lst, kdO_tup, kdO_dK, nq_n, nq_b, nq_i, nq_s, nq_l, nq_t, nq_d, ne_eq, not_false_eq_true, kit_ss, kit_ns, kit_bs, kit_is, kit_ls, kit_ts, kit_ds, kit_bb, V.ty.injEq, and_assoc, rIxU, rLenH, rLenU, rLenS, rInt1, rSetL, rEq, rNe, rCat, L2.start, List.map, List.length, List.length_cons, List.length_nil, List.replicate, List.getElem?_cons_zero, List.getElem?_cons_succ, List.set_cons_zero, List.set_cons_succ, List.set_nil, List.cons_append, List.nil_append, List.append_nil, Option.some.injEq, V.int.injEq, V.ref.injEq, V.str.injEq, V.bl.injEq, HO.lst.injEq, HO.tup.injEq, exists_eq_left', exists_and_left, exists_eq_left, List.cons.injEq, and_true, true_and, and_false, false_and, and_self, reduceCtorEq, exists_false, or_false, false_or, exists_const, at0, at1, at2, at3, at4, at5, ix51, ix52, ix54, upd_same, Nat.reduceAdd, Nat.reduceSub, Nat.zero_add, Int.reduceToNat, Int.reduceLE, Int.reduceLT, decide_eq_true_eq, Bool.not_eq_true, if_true, if_false, Bool.false_eq_true, ite_true, ite_false, Bool.not_true, Bool.not_false, decide_true, decide_false, tFor_eq, tLc_eq, iList, iTup, iRng1, iRng2, iStr, tSl, tPart, tNoPart, rSlL, cxOf_K, wipe, ex_ty2, kit_LTl, kit_LTt, kit_LTd, kit_LTs, kit_LTn, kit_LTb, kit_LTi, tM1, rIxS, exists_eq', lt1p, tDNewK, rSlS, rEqNil]; exact k H (Same.refl H)
    | int i => try simp only [tSeq, tNext, tRet, tRetN, tAsg, gName, gSub, tDrop, tIfS, tOp, tUn, tCB, tCons, tNil, tC, tVar, rI, rI0, rU, tAnd, tOr, tNot, tAndV, tOrV, tNotV, tIf, tTest, tB, tCall, tChain, tLst, tTup, tYes, rIxH, rIsB, rIsBT, rMulS, kd_non, kd_bl, kd_int, kd_str, kd_ref, kdO_lst, kdO_tup, kdO_dK, nq_n, nq_b, nq_i, nq_s, nq_l, nq_t, nq_d, ne_eq, not_false_eq_true, kit_ss, kit_ns, kit_bs, kit_is, kit_ls, kit_ts, kit_ds, kit_bb, V.ty.injEq, and_assoc, rIxU, rLenH, rLenU, rLenS, rInt1, rSetL, rEq, rNe, rCat, L2.start, List.map, List.length, List.length_cons, List.length_nil, List.replicate, List.getElem?_cons_zero, List.getElem?_cons_succ, List.set_cons_zero, List.set_cons_succ, List.set_nil, List.cons_append, List.nil_append, List.append_nil, Option.some.injEq, V.int.injEq, V.ref.injEq, V.str.injEq, V.bl.injEq, HO.lst.injEq, HO.tup.injEq, exists_eq_left', exists_and_left, exists_eq_left, List.cons.injEq, and_true, true_and, and_false, false_and, and_self, reduceCtorEq, exists_false, or_false, false_or, exists_const, at0, at1, at2, at3, at4, at5, ix51, ix52, ix54, upd_same, Nat.reduceAdd, Nat.reduceSub, Nat.zero_add, Int.reduceToNat, Int.reduceLE, Int.reduceLT, decide_eq_true_eq, Bool.not_eq_true, if_true, if_false, Bool.false_eq_true, ite_true, ite_false, Bool.not_true, Bool.not_false, decide_true, decide_false, tFor_eq, tLc_eq, iList, iTup, iRng1, iRng2, iStr, tSl, tPart, tNoPart, rSlL, cxOf_K, wipe, ex_ty2, kit_LTl, kit_LTt, kit_LTd, kit_LTs, kit_LTn, kit_LTb, kit_LTi, tM1, rIxS, exists_eq', lt1p, tDNewK, rSlS, rEqNil]; exact k H (Same.refl H)
end
/-! ### parents -/
def cntOf : V → Int
  | .int i => i
  | _ => 0
/-- at most 3 unlike counts -/
def parL (xs : List V) : Bool := decide (xs.length ≤ 3) && xs.all isCntV && decide ((nd (xs.map cntOf)).length = xs.length)
theorem cnt_ints : ∀ {xs : List V}, xs.all isCntV = true → xs = (xs.map cntOf).map V.int
  | [], _ => rfl
  | x :: r, h => by
    rw [List.all_cons, Bool.and_eq_true] at h
    have ih := cnt_ints h.2
    cases x with
    | int i =>
      rw [List.map_cons, List.map_cons, ← ih]
      rfl
    | _ => cases h.1



/-! ### a Version's parts -/
def verF (l p : Addr) (n : Str) : List (Str × V) := [("kept_lines", .ref l), ("kept_parents", .ref p), ("kept_author", .str n)]
theorem vf_l {l p : Addr} {n : Str} : (verF l p n).lookup ("kept_lines" : Str) = some (V.ref l) := by
  unfold verF
  rw [List.lookup_cons_self]
theorem vf_p {l p : Addr} {n : Str} : (verF l p n).lookup ("kept_parents" : Str) = some (V.ref p) := by
  unfold verF
  rw [List.lookup_cons, show (("kept_parents" : Str) == "kept_lines") = false from by decide +kernel]
  rw [List.lookup_cons_self]
theorem vf_a {l p : Addr} {n : Str} : (verF l p n).lookup ("kept_author" : Str) = some (V.str n) := by
  unfold verF
  rw [List.lookup_cons, show (("kept_author" : Str) == "kept_lines") = false from by decide +kernel]
  rw [List.lookup_cons, show (("kept_author" : Str) == "kept_parents") = false from by decide +kernel]
  rw [List.lookup_cons_self]
theorem flat_strs : ∀ ls : List Str, (ls.map V.str).all flatV = true
  | [] => rfl
  | _ :: r => flat_strs r
theorem in_strs {z : Str} : ∀ {ls : List Str}, inV (.str z) (ls.map V.str) = decide (z ∈ ls)
  | [] => by simp [inV]
  | y :: r => by
    have ih := in_strs (z := z) (ls := r)
    unfold inV at ih ⊢
    rw [List.map_cons, List.any_cons, ih]
    by_cases h : z = y
    · subst h
      simp [eqV]
    · have h' : ¬ y = z := fun e => h e.symm
      simp [eqV, h, h']
/-- a is a Version of these lines, parents and author -/
structure VerAt (C : Addr) (H : Hp) (a : Addr) (ls : List Str) (ps : List Int) (n : Str) : Prop where
  ex : ∃ dx l p, H a = some (.ins C dx (verF l p n)) ∧ H l = some (.tup (ls.map V.str)) ∧ H p = some (.tup (ps.map V.int))
theorem VerAt.same {C : Addr} {H H' : Hp} {a : Addr} {ls : List Str} {ps : List Int} {n : Str} (h : VerAt C H a ls ps n) (s : Same H H') : VerAt C H' a ls ps n := by
  obtain ⟨dx, l, p, h1, h2, h3⟩ := h.ex
  exact ⟨dx, l, p, s _ _ h1, s _ _ h2, s _ _ h3⟩
section
variable {P : Program} {w : World} {K : PySem.W.Frag} {mg : Str → Option Value} {base : Heap} {A : Adr}
def spLines (C : Addr) : Sp := fun vs H Q _ => ∃ a dx l p n, vs = [.ref a] ∧ H a = some (.ins C dx (verF l p n)) ∧ Q (.ref l) H
def spParents (C : Addr) : Sp := fun vs H Q _ => ∃ a dx l p n, vs = [.ref a] ∧ H a = some (.ins C dx (verF l p n)) ∧ Q (.ref p) H
def spAuthor (C : Addr) : Sp := fun vs H Q _ => ∃ a dx l p n, vs = [.ref a] ∧ H a = some (.ins C dx (verF l p n)) ∧ Q (.str n) H
theorem ok_lines (T : Txt K mg A) : FnOk P w K mg base CX0 1 A.a_VersionLines A.d_VersionLines ["self"] (spLines A.k_Version) := by
  refine T.f_VersionLines.ok scVersionLines (fun vs H Q E h => ?_) (fun cdv A' outer s H vs Q E hr h => ?_)
  · obtain ⟨a, dx, l, p, n, rfl, _⟩ := h
    rfl
  · obtain ⟨a, dx, l, p, n, rfl, ha, k⟩ := h
    refine ⟨_, (pss_one (ps_ret (pe_fld (pv 0) rfl))), ?_⟩
    try simp only [tSeq, tNext, tRet, tRetN, tAsg, gName, gSub, tDrop, tIfS, tOp, tUn, tCB, tCons, tNil, tC, tVar, rI, rI0, rU, tAnd, tOr, tNot, tAndV, tOrV, tNotV, tIf, tTest, tB, tCall, tChain, tLst, tTup, tYes, rIxH, rIsB, rIsBT, rMulS, kd_non, kd_bl, kd_int, kd_str, kd_ref, kdO_lst, kdO_tup, kdO_dK, nq_n, nq_b, nq_i, nq_s, nq_l, nq_t, nq_d, ne_eq, not_false_eq_true, kit_ss, kit_ns, kit_bs, kit_is, kit_ls, kit_ts, kit_ds, kit_bb, V.ty.injEq, and_assoc, rIxU, rLenH, rLenU, rLenS, rInt1, rSetL, rEq, rNe, rCat, L2.start, List.map, List.length, List.length_cons, List.length_nil, List.replicate, List.getElem?_cons_zero, List.getElem?_cons_succ, List.set_cons_zero, List.set_cons_succ, List.set_nil, List.cons_append, List.nil_append, List.append_nil, Option.some.injEq, V.int.injEq, V.ref.injEq, V.str.injEq, V.bl.injEq, HO.lst.injEq, HO.tup.injEq, exists_eq_left', exists_and_left, exists_eq_left, List.cons.injEq, and_true, true_and, and_false, false_and, and_self, reduceCtorEq, exists_false, or_false, false_or, exists_const, at0, at1, at2, at3, at4, at5, ix51, ix52, ix54, upd_same, Nat.reduceAdd, Nat.reduceSub, Nat.zero_add, Int.reduceToNat, Int.reduceLE, Int.reduceLT, decide_eq_true_eq, Bool.not_eq_true, if_true, if_false, Bool.false_eq_true, ite_true, ite_false, Bool.not_true, Bool.not_false, decide_true, decide_false, tFor_eq, tLc_eq, iList, iTup, iRng1, iRng2, iStr, tSl, tPart, tNoPart, rSlL, cxOf_K, wipe, ex_ty2, kit_LTl, kit_LTt, kit_LTd, kit_LTs, kit_LTn, kit_LTb, kit_LTi, tM1, rIxS, exists_eq', lt1p, tDNewK, rSlS, rEqNil, nox_K, tFld, ha, HO.ins.injEq, T.t_Version.cl, T.n_Version_kept_lines, vf_l]
    exact k
theorem ok_parents (T : Txt K mg A) : FnOk P w K mg base CX0 1 A.a_VersionParents A.d_VersionParents ["self"] (spParents A.k_Version) := by
  refine T.f_VersionParents.ok scVersionParents (fun vs H Q E h => ?_) (fun cdv A' outer s H vs Q E hr h => ?_)
  · obtain ⟨a, dx, l, p, n, rfl, _⟩ := h
    rfl
  · obtain ⟨a, dx, l, p, n, rfl, ha, k⟩ := h
    refine ⟨_, (pss_one (ps_ret (pe_fld (pv 0) rfl))), ?_⟩
    try simp only [tSeq, tNext, tRet, tRetN, tAsg, gName, gSub, tDrop, tIfS, tOp, tUn, tCB, tCons, tNil, tC, tVar, rI, rI0, rU, tAnd, tOr, tNot, tAndV, tOrV, tNotV, tIf, tTest, tB, tCall, tChain, tLst, tTup, tYes, rIxH, rIsB, rIsBT, rMulS, kd_non, kd_bl, kd_int, kd_str, kd_ref, kdO_lst, kdO_tup, kdO_dK, nq_n, nq_b, nq_i, nq_s, nq_l, nq_t, nq_d, ne_eq, not_false_eq_true, kit_ss, kit_ns, kit_bs, kit_is, kit_ls, kit_ts, kit_ds, kit_bb, V.ty.injEq, and_assoc, rIxU, rLenH, rLenU, rLenS, rInt1, rSetL, rEq, rNe, rCat, L2.start, List.map, List.length, List.length_cons, List.length_nil, List.replicate, List.getElem?_cons_zero, List.getElem?_cons_succ, List.set_cons_zero, List.set_cons_succ, List.set_nil, List.cons_append, List.nil_append, List.append_nil, Option.some.injEq, V.int.injEq, V.ref.injEq, V.str.injEq, V.bl.injEq, HO.lst.injEq, HO.tup.injEq, exists_eq_left', exists_and_left, exists_eq_left, List.cons.injEq, and_true, true_and, and_false, false_and, and_self, reduceCtorEq, exists_false, or_false, false_or, exists_const, at0, at1, at2, at3, at4, at5, ix51, ix52, ix54, upd_same, Nat.reduceAdd, Nat.reduceSub, Nat.zero_add, Int.reduceToNat, Int.reduceLE, Int.reduceLT, decide_eq_true_eq, Bool.not_eq_true, if_true, if_false, Bool.false_eq_true, ite_true, ite_false, Bool.not_true, Bool.not_false, decide_true, decide_false, tFor_eq, tLc_eq, iList, iTup, iRng1, iRng2, iStr, tSl, tPart, tNoPart, rSlL, cxOf_K, wipe, ex_ty2, kit_LTl, kit_LTt, kit_LTd, kit_LTs, kit_LTn, kit_LTb, kit_LTi, tM1, rIxS, exists_eq', lt1p, tDNewK, rSlS, rEqNil, nox_K, tFld, ha, HO.ins.injEq, T.t_Version.cl, T.n_Version_kept_parents, vf_p]
    exact k
theorem ok_author (T : Txt K mg A) : FnOk P w K mg base CX0 1 A.a_VersionAuthor A.d_VersionAuthor ["self"] (spAuthor A.k_Version) := by
  refine T.f_VersionAuthor.ok scVersionAuthor (fun vs H Q E h => ?_) (fun cdv A' outer s H vs Q E hr h => ?_)
  · obtain ⟨a, dx, l, p, n, rfl, _⟩ := h
    rfl
  · obtain ⟨a, dx, l, p, n, rfl, ha, k⟩ := h
    refine ⟨_, (pss_one (ps_ret (pe_fld (pv 0) rfl))), ?_⟩
    try simp only [tSeq, tNext, tRet, tRetN, tAsg, gName, gSub, tDrop, tIfS, tOp, tUn, tCB, tCons, tNil, tC, tVar, rI, rI0, rU, tAnd, tOr, tNot, tAndV, tOrV, tNotV, tIf, tTest, tB, tCall, tChain, tLst, tTup, tYes, rIxH, rIsB, rIsBT, rMulS, kd_non, kd_bl, kd_int, kd_str, kd_ref, kdO_lst, kdO_tup, kdO_dK, nq_n, nq_b, nq_i, nq_s, nq_l, nq_t, nq_d, ne_eq, not_false_eq_true, kit_ss, kit_ns, kit_bs, kit_is, kit_ls, kit_ts, kit_ds, kit_bb, V.ty.injEq, and_assoc, rIxU, rLenH, rLenU, rLenS, rInt1, rSetL, rEq, rNe, rCat, L2.start, List.map, List.length, List.length_cons, List.length_nil, List.replicate, List.getElem?_cons_zero, List.getElem?_cons_succ, List.set_cons_zero, List.set_cons_succ, List.set_nil, List.cons_append, List.nil_append, List.append_nil, Option.some.injEq, V.int.injEq, V.ref.injEq, V.str.injEq, V.bl.injEq, HO.lst.injEq, HO.tup.injEq, exists_eq_left', exists_and_left, exists_eq_left, List.cons.injEq, and_true, true_and, and_false, false_and, and_self, reduceCtorEq, exists_false, or_false, false_or, exists_const, at0, at1, at2, at3, at4, at5, ix51, ix52, ix54, upd_same, Nat.reduceAdd, Nat.reduceSub, Nat.zero_add, Int.reduceToNat, Int.reduceLE, Int.reduceLT, decide_eq_true_eq, Bool.not_eq_true, if_true, if_false, Bool.false_eq_true, ite_true, ite_false, Bool.not_true, Bool.not_false, decide_true, decide_false, tFor_eq, tLc_eq, iList, iTup, iRng1, iRng2, iStr, tSl, tPart, tNoPart, rSlL, cxOf_K, wipe, ex_ty2, kit_LTl, kit_LTt, kit_LTd, kit_LTs, kit_LTn, kit_LTb, kit_LTi, tM1, rIxS, exists_eq', lt1p, tDNewK, rSlS, rEqNil, nox_K, tFld, ha, HO.ins.injEq, T.t_Version.cl, T.n_Version_kept_author, vf_a]
    exact k
def spVLen (C : Addr) : Sp := fun vs H Q _ => ∃ a dx l p n xs, vs = [.ref a] ∧ H a = some (.ins C dx (verF l p n)) ∧ H l = some (.tup xs) ∧ Q (.int (xs.length : Int)) H
theorem ok_vlen (T : Txt K mg A) : FnOk P w K mg base CX0 1 A.a_VersionLen A.d_VersionLen ["self"] (spVLen A.k_Version) := by
  refine T.f_VersionLen.ok scVersionLen (fun vs H Q E h => ?_) (fun cdv A' outer s H vs Q E hr h => ?_)
  · obtain ⟨a, dx, l, p, n, xs, rfl, _⟩ := h
    rfl
  · obtain ⟨a, dx, l, p, n, xs, rfl, ha, hl, k⟩ := h
    refine ⟨_, (pss_one (ps_ret (pe_callB call_lenU (by rfl) T.z_len (by decide +kernel) (pa_cons (pe_fld (pv 0) rfl) pa_nil)))), ?_⟩
    try simp only [tSeq, tNext, tRet, tRetN, tAsg, gName, gSub, tDrop, tIfS, tOp, tUn, tCB, tCons, tNil, tC, tVar, rI, rI0, rU, tAnd, tOr, tNot, tAndV, tOrV, tNotV, tIf, tTest, tB, tCall, tChain, tLst, tTup, tYes, rIxH, rIsB, rIsBT, rMulS, kd_non, kd_bl, kd_int, kd_str, kd_ref, kdO_lst, kdO_tup, kdO_dK, nq_n, nq_b, nq_i, nq_s, nq_l, nq_t, nq_d, ne_eq, not_false_eq_true, kit_ss, kit_ns, kit_bs, kit_is, kit_ls, kit_ts, kit_ds, kit_bb, V.ty.injEq, and_assoc, rIxU, rLenH, rLenU, rLenS, rInt1, rSetL, rEq, rNe, rCat, L2.start, List.map, List.length, List.length_cons, List.length_nil, List.replicate, List.getElem?_cons_zero, List.getElem?_cons_succ, List.set_cons_zero, List.set_cons_succ, List.set_nil, List.cons_append, List.nil_append, List.append_nil, Option.some.injEq, V.int.injEq, V.ref.injEq, V.str.injEq, V.bl.injEq, HO.lst.injEq, HO.tup.injEq, exists_eq_left', exists_and_left, exists_eq_left, List.cons.injEq, and_true, true_and, and_false, false_and, and_self, reduceCtorEq, exists_false, or_false, false_or, exists_const, at0, at1, at2, at3, at4, at5, ix51, ix52, ix54, upd_same, Nat.reduceAdd, Nat.reduceSub, Nat.zero_add, Int.reduceToNat, Int.reduceLE, Int.reduceLT, decide_eq_true_eq, Bool.not_eq_true, if_true, if_false, Bool.false_eq_true, ite_true, ite_false, Bool.not_true, Bool.not_false, decide_true, decide_false, tFor_eq, tLc_eq, iList, iTup, iRng1, iRng2, iStr, tSl, tPart, tNoPart, rSlL, cxOf_K, wipe, ex_ty2, kit_LTl, kit_LTt, kit_LTd, kit_LTs, kit_LTn, kit_LTb, kit_LTi, tM1, rIxS, exists_eq', lt1p, tDNewK, rSlS, rEqNil, nox_K, tFld, ha, hl, HO.ins.injEq, T.t_Version.cl, T.n_Version_kept_lines, vf_l]
    exact k
def spVIn (C : Addr) : Sp := fun vs H Q _ => ∃ a dx l p n ls z, vs = [.ref a, .str z] ∧ H a = some (.ins C dx (verF l p n)) ∧ H l = some (.tup (List.map V.str ls)) ∧ Q (.bl (decide (z ∈ ls))) H
theorem ok_vin (T : Txt K mg A) : FnOk P w K mg base CX0 1 A.a_VersionContains A.d_VersionContains ["self", "line"] (spVIn A.k_Version) := by
  refine T.f_VersionContains.ok scVersionContains (fun vs H Q E h => ?_) (fun cdv A' outer s H vs Q E hr h => ?_)
  · obtain ⟨a, dx, l, p, n, ls, z, rfl, _⟩ := h
    rfl
  · obtain ⟨a, dx, l, p, n, ls, z, rfl, ha, hl, k⟩ := h
    refine ⟨_, (pss_one (ps_ret (pe_cmpR (op_in_seq) (pv 1) (pe_fld (pv 0) rfl) (by rfl)))), ?_⟩
    try simp only [tSeq, tNext, tRet, tRetN, tAsg, gName, gSub, tDrop, tIfS, tOp, tUn, tCB, tCons, tNil, tC, tVar, rI, rI0, rU, tAnd, tOr, tNot, tAndV, tOrV, tNotV, tIf, tTest, tB, tCall, tChain, tLst, tTup, tYes, rIxH, rIsB, rIsBT, rMulS, kd_non, kd_bl, kd_int, kd_str, kd_ref, kdO_lst, kdO_tup, kdO_dK, nq_n, nq_b, nq_i, nq_s, nq_l, nq_t, nq_d, ne_eq, not_false_eq_true, kit_ss, kit_ns, kit_bs, kit_is, kit_ls, kit_ts, kit_ds, kit_bb, V.ty.injEq, and_assoc, rIxU, rLenH, rLenU, rLenS, rInt1, rSetL, rEq, rNe, rCat, L2.start, List.map, List.length, List.length_cons, List.length_nil, List.replicate, List.getElem?_cons_zero, List.getElem?_cons_succ, List.set_cons_zero, List.set_cons_succ, List.set_nil, List.cons_append, List.nil_append, List.append_nil, Option.some.injEq, V.int.injEq, V.ref.injEq, V.str.injEq, V.bl.injEq, HO.lst.injEq, HO.tup.injEq, exists_eq_left', exists_and_left, exists_eq_left, List.cons.injEq, and_true, true_and, and_false, false_and, and_self, reduceCtorEq, exists_false, or_false, false_or, exists_const, at0, at1, at2, at3, at4, at5, ix51, ix52, ix54, upd_same, Nat.reduceAdd, Nat.reduceSub, Nat.zero_add, Int.reduceToNat, Int.reduceLE, Int.reduceLT, decide_eq_true_eq, Bool.not_eq_true, if_true, if_false, Bool.false_eq_true, ite_true, ite_false, Bool.not_true, Bool.not_false, decide_true, decide_false, tFor_eq, tLc_eq, iList, iTup, iRng1, iRng2, iStr, tSl, tPart, tNoPart, rSlL, cxOf_K, wipe, ex_ty2, kit_LTl, kit_LTt, kit_LTd, kit_LTs, kit_LTn, kit_LTb, kit_LTi, tM1, rIxS, exists_eq', lt1p, tDNewK, rSlS, rEqNil, nox_K, tFld, ha, hl, HO.ins.injEq, T.t_Version.cl, T.n_Version_kept_lines, vf_l]
    refine ⟨l, ls.map V.str, rfl, .inr (SqT.of hl), rfl, flat_strs ls, ?_⟩
    rw [if_neg (by decide), in_strs]
    exact k
end
def spVGet (C N : Addr) : Sp := fun vs H Q E => ∃ a dx l p n ls v, vs = [.ref a, v] ∧ H a = some (.ins C dx (verF l p n)) ∧ H l = some (.tup (List.map V.str ls)) ∧ Thg H v ∧
  ((∃ (i : Nat) (z : Str), v = .int (i : Int) ∧ ls[i]? = some z ∧ Q (.str z) H) ∨ ((∀ i : Int, v = .int i → i < 0 ∨ (ls.length : Int) ≤ i) ∧ ∀ H' d, Same H H' → H' d = some (.xd [("value", v)]) → E (.ref N) (some d) H'))
section
variable {w : World} {K : PySem.W.Frag} {mg : Str → Option Value} {base : Heap} {A : Adr}
theorem ok_vget (T : Txt K mg A) (gIsInteger : FnOk PW w K mg base CX0 1 A.a_IsInteger A.d_IsInteger ["value"] spIsIntT) :
    FnOk PW w K mg base (L2.CX PW w) 2 A.a_VersionGetitem A.d_VersionGetitem ["self", "index"] (spVGet A.k_Version A.k_InvalidNumber) := by
  refine T.f_VersionGetitem.okX scVersionGetitem (fun vs H Q E h => ?_) (fun cdv A' outer s H vs Q E hr h => ?_)
  · obtain ⟨a, dx, l, p, n, ls, v, rfl, _⟩ := h
    rfl
  · refine ⟨_, (pss_cons (ps_if (PW.pt (pw_or (pt_not (pt_val (pe_call gIsInteger (hr.mono (by decide)) (by rfl) T.m_IsInteger T.f_IsInteger.kp T.b_IsInteger .nil pass0 (pa_cons (pv 1) pa_nil)))) (pw_or1 (pt_not (pt_chain (op_le) (op_lt) pe_int (pv 1) (pe_callB call_lenU (by rfl) T.z_len (by decide +kernel) (pa_cons (pe_fld (pv 0) rfl) pa_nil))))))) (pss_one (ps_raiseX rfl T.x_InvalidNumber hr (takes_of rfl rfl rfl rfl) (pa_cons (pv 1) pa_nil) (by rfl))) pss_nil)
      (pss_one (ps_ret (pe_ix ix_tupH (pe_fld (pv 0) rfl) (pv 1) (fun _ _ => rfl))))), ?_⟩
    obtain ⟨a, dx, l, p, n, ls, v, rfl, ha, hl, tv, h⟩ := h
    rcases h with ⟨i, z, rfl, hz, k⟩ | ⟨hn, k⟩
    · try simp only [tSeq, tNext, tRet, tRetN, tAsg, gName, gSub, tDrop, tIfS, tOp, tUn, tCB, tCons, tNil, tC, tVar, rI, rI0, rU, tAnd, tOr, tNot, tAndV, tOrV, tNotV, tIf, tTest, tB, tCall, tChain, tLst, tTup, tYes, rIxH, rIsB, rIsBT, rMulS, kd_non, kd_bl, kd_int, kd_str, kd_ref, kdO_lst, kdO_tup, kdO_dK, nq_n, nq_b, nq_i, nq_s, nq_l, nq_t, nq_d, ne_eq, not_false_eq_true, kit_ss, kit_ns, kit_bs, kit_is, kit_ls, kit_ts, kit_ds, kit_bb, V.ty.injEq, and_assoc, rIxU, rLenH, rLenU, rLenS, rInt1, rSetL, rEq, rNe, rCat, L2.start, List.map, List.length, List.length_cons, List.length_nil, List.replicate, List.getElem?_cons_zero, List.getElem?_cons_succ, List.set_cons_zero, List.set_cons_succ, List.set_nil, List.cons_append, List.nil_append, List.append_nil, Option.some.injEq, V.int.injEq, V.ref.injEq, V.str.injEq, V.bl.injEq, HO.lst.injEq, HO.tup.injEq, exists_eq_left', exists_and_left, exists_eq_left, List.cons.injEq, and_true, true_and, and_false, false_and, and_self, reduceCtorEq, exists_false, or_false, false_or, exists_const, at0, at1, at2, at3, at4, at5, ix51, ix52, ix54, upd_same, Nat.reduceAdd, Nat.reduceSub, Nat.zero_add, Int.reduceToNat, Int.reduceLE, Int.reduceLT, decide_eq_true_eq, Bool.not_eq_true, if_true, if_false, Bool.false_eq_true, ite_true, ite_false, Bool.not_true, Bool.not_false, decide_true, decide_false, tFor_eq, tLc_eq, iList, iTup, iRng1, iRng2, iStr, tSl, tPart, tNoPart, rSlL, cxOf_K, wipe, ex_ty2, kit_LTl, kit_LTt, kit_LTd, kit_LTs, kit_LTn, kit_LTb, kit_LTi, tM1, rIxS, exists_eq', lt1p, tDNewK, rSlS, rEqNil, nox_K]
      refine ⟨_, rfl, tv, ?_⟩
      have hi : i < ls.length := (List.getElem?_eq_some_iff.mp hz).1
      try simp only [tSeq, tNext, tRet, tRetN, tAsg, gName, gSub, tDrop, tIfS, tOp, tUn, tCB, tCons, tNil, tC, tVar, rI, rI0, rU, tAnd, tOr, tNot, tAndV, tOrV, tNotV, tIf, tTest, tB, tCall, tChain, tLst, tTup, tYes, rIxH, rIsB, rIsBT, rMulS, kd_non, kd_bl, kd_int, kd_str, kd_ref, kdO_lst, kdO_tup, kdO_dK, nq_n, nq_b, nq_i, nq_s, nq_l, nq_t, nq_d, ne_eq, not_false_eq_true, kit_ss, kit_ns, kit_bs, kit_is, kit_ls, kit_ts, kit_ds, kit_bb, V.ty.injEq, and_assoc, rIxU, rLenH, rLenU, rLenS, rInt1, rSetL, rEq, rNe, rCat, L2.start, List.map, List.length, List.length_cons, List.length_nil, List.replicate, List.getElem?_cons_zero, List.getElem?_cons_succ, List.set_cons_zero, List.set_cons_succ, List.set_nil, List.cons_append, List.nil_append, List.append_nil, Option.some.injEq, V.int.injEq, V.ref.injEq, V.str.injEq, V.bl.injEq, HO.lst.injEq, HO.tup.injEq, exists_eq_left', exists_and_left, exists_eq_left, List.cons.injEq, and_true, true_and, and_false, false_and, and_self, reduceCtorEq, exists_false, or_false, false_or, exists_const, at0, at1, at2, at3, at4, at5, ix51, ix52, ix54, upd_same, Nat.reduceAdd, Nat.reduceSub, Nat.zero_add, Int.reduceToNat, Int.reduceLE, Int.reduceLT, decide_eq_true_eq, Bool.not_eq_true, if_true, if_false, Bool.false_eq_true, ite_true, ite_false, Bool.not_true, Bool.not_false, decide_true, decide_false, tFor_eq, tLc_eq, iList, iTup, iRng1, iRng2, iStr, tSl, tPart, tNoPart, rSlL, cxOf_K, wipe, ex_ty2, kit_LTl, kit_LTt, kit_LTd, kit_LTs, kit_LTn, kit_LTb, kit_LTi, tM1, rIxS, exists_eq', lt1p, tDNewK, rSlS, rEqNil, nox_K, isIntV, tFld, ha, hl, HO.ins.injEq, T.t_Version.cl, T.n_Version_kept_lines, vf_l, List.length_map]
      rw [if_pos (by omega), if_neg (by rw [decide_eq_true (by omega)]; decide)]
      exact ⟨.str z, atI_nat (by rw [List.getElem?_map, hz]; rfl), k⟩
    · try simp only [tSeq, tNext, tRet, tRetN, tAsg, gName, gSub, tDrop, tIfS, tOp, tUn, tCB, tCons, tNil, tC, tVar, rI, rI0, rU, tAnd, tOr, tNot, tAndV, tOrV, tNotV, tIf, tTest, tB, tCall, tChain, tLst, tTup, tYes, rIxH, rIsB, rIsBT, rMulS, kd_non, kd_bl, kd_int, kd_str, kd_ref, kdO_lst, kdO_tup, kdO_dK, nq_n, nq_b, nq_i, nq_s, nq_l, nq_t, nq_d, ne_eq, not_false_eq_true, kit_ss, kit_ns, kit_bs, kit_is, kit_ls, kit_ts, kit_ds, kit_bb, V.ty.injEq, and_assoc, rIxU, rLenH, rLenU, rLenS, rInt1, rSetL, rEq, rNe, rCat, L2.start, List.map, List.length, List.length_cons, List.length_nil, List.replicate, List.getElem?_cons_zero, List.getElem?_cons_succ, List.set_cons_zero, List.set_cons_succ, List.set_nil, List.cons_append, List.nil_append, List.append_nil, Option.some.injEq, V.int.injEq, V.ref.injEq, V.str.injEq, V.bl.injEq, HO.lst.injEq, HO.tup.injEq, exists_eq_left', exists_and_left, exists_eq_left, List.cons.injEq, and_true, true_and, and_false, false_and, and_self, reduceCtorEq, exists_false, or_false, false_or, exists_const, at0, at1, at2, at3, at4, at5, ix51, ix52, ix54, upd_same, Nat.reduceAdd, Nat.reduceSub, Nat.zero_add, Int.reduceToNat, Int.reduceLE, Int.reduceLT, decide_eq_true_eq, Bool.not_eq_true, if_true, if_false, Bool.false_eq_true, ite_true, ite_false, Bool.not_true, Bool.not_false, decide_true, decide_false, tFor_eq, tLc_eq, iList, iTup, iRng1, iRng2, iStr, tSl, tPart, tNoPart, rSlL, cxOf_K, wipe, ex_ty2, kit_LTl, kit_LTt, kit_LTd, kit_LTs, kit_LTn, kit_LTb, kit_LTi, tM1, rIxS, exists_eq', lt1p, tDNewK, rSlS, rEqNil, nox_K]
      refine ⟨_, rfl, tv, ?_⟩
      cases tv with
      | int i =>
        have hn := hn i rfl
        try simp only [tSeq, tNext, tRet, tRetN, tAsg, gName, gSub, tDrop, tIfS, tOp, tUn, tCB, tCons, tNil, tC, tVar, rI, rI0, rU, tAnd, tOr, tNot, tAndV, tOrV, tNotV, tIf, tTest, tB, tCall, tChain, tLst, tTup, tYes, rIxH, rIsB, rIsBT, rMulS, kd_non, kd_bl, kd_int, kd_str, kd_ref, kdO_lst, kdO_tup, kdO_dK, nq_n, nq_b, nq_i, nq_s, nq_l, nq_t, nq_d, ne_eq, not_false_eq_true, kit_ss, kit_ns, kit_bs, kit_is, kit_ls, kit_ts, kit_ds, kit_bb, V.ty.injEq, and_assoc, rIxU, rLenH, rLenU, rLenS, rInt1, rSetL, rEq, rNe, rCat, L2.start, List.map, List.length, List.length_cons, List.length_nil, List.replicate, List.getElem?_cons_zero, List.getElem?_cons_succ, List.set_cons_zero, List.set_cons_succ, List.set_nil, List.cons_append, List.nil_append, List.append_nil, Option.some.injEq, V.int.injEq, V.ref.injEq, V.str.injEq, V.bl.injEq, HO.lst.injEq, HO.tup.injEq, exists_eq_left', exists_and_left, exists_eq_left, List.cons.injEq, and_true, true_and, and_false, false_and, and_self, reduceCtorEq, exists_false, or_false, false_or, exists_const, at0, at1, at2, at3, at4, at5, ix51, ix52, ix54, upd_same, Nat.reduceAdd, Nat.reduceSub, Nat.zero_add, Int.reduceToNat, Int.reduceLE, Int.reduceLT, decide_eq_true_eq, Bool.not_eq_true, if_true, if_false, Bool.false_eq_true, ite_true, ite_false, Bool.not_true, Bool.not_false, decide_true, decide_false, tFor_eq, tLc_eq, iList, iTup, iRng1, iRng2, iStr, tSl, tPart, tNoPart, rSlL, cxOf_K, wipe, ex_ty2, kit_LTl, kit_LTt, kit_LTd, kit_LTs, kit_LTn, kit_LTb, kit_LTi, tM1, rIxS, exists_eq', lt1p, tDNewK, rSlS, rEqNil, nox_K, isIntV, tFld, ha, hl, HO.ins.injEq, T.t_Version.cl, T.n_Version_kept_lines, vf_l, List.length_map, tRaiseX, tMkX]
        have kk : ∀ (d : Addr), H d = none → E (Value.ref A.k_InvalidNumber) (some d) (upd H d (HO.xd [(Str.ofString "value", V.int i)])) := fun d hd => k _ d (same_new hd) upd_same
        by_cases h0 : 0 ≤ i
        · rw [if_pos h0, if_pos (by rw [decide_eq_false (by omega)]; rfl)]
          exact kk
        · rw [if_neg h0]
          exact kk
      | str hz => try simp only [tSeq, tNext, tRet, tRetN, tAsg, gName, gSub, tDrop, tIfS, tOp, tUn, tCB, tCons, tNil, tC, tVar, rI, rI0, rU, tAnd, tOr, tNot, tAndV, tOrV, tNotV, tIf, tTest, tB, tCall, tChain, tLst, tTup, tYes, rIxH, rIsB, rIsBT, rMulS, kd_non, kd_bl, kd_int, kd_str, kd_ref, kdO_lst, kdO_tup, kdO_dK, nq_n, nq_b, nq_i, nq_s, nq_l, nq_t, nq_d, ne_eq, not_false_eq_true, kit_ss, kit_ns, kit_bs, kit_is, kit_ls, kit_ts, kit_ds, kit_bb, V.ty.injEq, and_assoc, rIxU, rLenH, rLenU, rLenS, rInt1, rSetL, rEq, rNe, rCat, L2.start, List.map, List.length, List.length_cons, List.length_nil, List.replicate, List.getElem?_cons_zero, List.getElem?_cons_succ, List.set_cons_zero, List.set_cons_succ, List.set_nil, List.cons_append, List.nil_append, List.append_nil, Option.some.injEq, V.int.injEq, V.ref.injEq, V.str.injEq, V.bl.injEq, HO.lst.injEq, HO.tup.injEq, exists_eq_left', exists_and_left, exists_eq_left, List.cons.injEq, and_true, true_and, and_false, false_and, and_self, reduceCtorEq, exists_false, or_false, false_or, exists_const, at0, at1, at2, at3, at4, at5, ix51, ix52, ix54, upd_same, Nat.reduceAdd, Nat.reduceSub, Nat.zero_add, Int.reduceToNat, Int.reduceLE, Int.reduceLT, decide_eq_true_eq, Bool.not_eq_true, if_true, if_false, Bool.false_eq_true, ite_true, ite_false, Bool.not_true, Bool.not_false, decide_true, decide_false, tFor_eq, tLc_eq, iList, iTup, iRng1, iRng2, iStr, tSl, tPart, tNoPart, rSlL, cxOf_K, wipe, ex_ty2, kit_LTl, kit_LTt, kit_LTd, kit_LTs, kit_LTn, kit_LTb, kit_LTi, tM1, rIxS, exists_eq', lt1p, tDNewK, rSlS, rEqNil, nox_K, isIntV, tRaiseX, tMkX]; exact fun d hd => k _ d (same_new hd) upd_same
      | lst e => try simp only [tSeq, tNext, tRet, tRetN, tAsg, gName, gSub, tDrop, tIfS, tOp, tUn, tCB, tCons, tNil, tC, tVar, rI, rI0, rU, tAnd, tOr, tNot, tAndV, tOrV, tNotV, tIf, tTest, tB, tCall, tChain, tLst, tTup, tYes, rIxH, rIsB, rIsBT, rMulS, kd_non, kd_bl, kd_int, kd_str, kd_ref, kdO_lst, kdO_tup, kdO_dK, nq_n, nq_b, nq_i, nq_s, nq_l, nq_t, nq_d, ne_eq, not_false_eq_true, kit_ss, kit_ns, kit_bs, kit_is, kit_ls, kit_ts, kit_ds, kit_bb, V.ty.injEq, and_assoc, rIxU, rLenH, rLenU, rLenS, rInt1, rSetL, rEq, rNe, rCat, L2.start, List.map, List.length, List.length_cons, List.length_nil, List.replicate, List.getElem?_cons_zero, List.getElem?_cons_succ, List.set_cons_zero, List.set_cons_succ, List.set_nil, List.cons_append, List.nil_append, List.append_nil, Option.some.injEq, V.int.injEq, V.ref.injEq, V.str.injEq, V.bl.injEq, HO.lst.injEq, HO.tup.injEq, exists_eq_left', exists_and_left, exists_eq_left, List.cons.injEq, and_true, true_and, and_false, false_and, and_self, reduceCtorEq, exists_false, or_false, false_or, exists_const, at0, at1, at2, at3, at4, at5, ix51, ix52, ix54, upd_same, Nat.reduceAdd, Nat.reduceSub, Nat.zero_add, Int.reduceToNat, Int.reduceLE, Int.reduceLT, decide_eq_true_eq, Bool.not_eq_true, if_true, if_false, Bool.false_eq_true, ite_true, ite_false, Bool.not_true, Bool.not_false, decide_true, decide_false, tFor_eq, tLc_eq, iList, iTup, iRng1, iRng2, iStr, tSl, tPart, tNoPart, rSlL, cxOf_K, wipe, ex_ty2, kit_LTl, kit_LTt, kit_LTd, kit_LTs, kit_LTn, kit_LTb, kit_LTi, tM1, rIxS, exists_eq', lt1p, tDNewK, rSlS, rEqNil, nox_K, isIntV, tRaiseX, tMkX]; exact fun d hd => k _ d (same_new hd) upd_same
      | tup e => try simp only [tSeq, tNext, tRet, tRetN, tAsg, gName, gSub, tDrop, tIfS, tOp, tUn, tCB, tCons, tNil, tC, tVar, rI, rI0, rU, tAnd, tOr, tNot, tAndV, tOrV, tNotV, tIf, tTest, tB, tCall, tChain, tLst, tTup, tYes, rIxH, rIsB, rIsBT, rMulS, kd_non, kd_bl, kd_int, kd_str, kd_ref, kdO_lst, kdO_tup, kdO_dK, nq_n, nq_b, nq_i, nq_s, nq_l, nq_t, nq_d, ne_eq, not_false_eq_true, kit_ss, kit_ns, kit_bs, kit_is, kit_ls, kit_ts, kit_ds, kit_bb, V.ty.injEq, and_assoc, rIxU, rLenH, rLenU, rLenS, rInt1, rSetL, rEq, rNe, rCat, L2.start, List.map, List.length, List.length_cons, List.length_nil, List.replicate, List.getElem?_cons_zero, List.getElem?_cons_succ, List.set_cons_zero, List.set_cons_succ, List.set_nil, List.cons_append, List.nil_append, List.append_nil, Option.some.injEq, V.int.injEq, V.ref.injEq, V.str.injEq, V.bl.injEq, HO.lst.injEq, HO.tup.injEq, exists_eq_left', exists_and_left, exists_eq_left, List.cons.injEq, and_true, true_and, and_false, false_and, and_self, reduceCtorEq, exists_false, or_false, false_or, exists_const, at0, at1, at2, at3, at4, at5, ix51, ix52, ix54, upd_same, Nat.reduceAdd, Nat.reduceSub, Nat.zero_add, Int.reduceToNat, Int.reduceLE, Int.reduceLT, decide_eq_true_eq, Bool.not_eq_true, if_true, if_false, Bool.false_eq_true, ite_true, ite_false, Bool.not_true, Bool.not_false, decide_true, decide_false, tFor_eq, tLc_eq, iList, iTup, iRng1, iRng2, iStr, tSl, tPart, tNoPart, rSlL, cxOf_K, wipe, ex_ty2, kit_LTl, kit_LTt, kit_LTd, kit_LTs, kit_LTn, kit_LTb, kit_LTi, tM1, rIxS, exists_eq', lt1p, tDNewK, rSlS, rEqNil, nox_K, isIntV, tRaiseX, tMkX]; exact fun d hd => k _ d (same_new hd) upd_same
      | dic e => try simp only [tSeq, tNext, tRet, tRetN, tAsg, gName, gSub, tDrop, tIfS, tOp, tUn, tCB, tCons, tNil, tC, tVar, rI, rI0, rU, tAnd, tOr, tNot, tAndV, tOrV, tNotV, tIf, tTest, tB, tCall, tChain, tLst, tTup, tYes, rIxH, rIsB, rIsBT, rMulS, kd_non, kd_bl, kd_int, kd_str, kd_ref, kdO_lst, kdO_tup, kdO_dK, nq_n, nq_b, nq_i, nq_s, nq_l, nq_t, nq_d, ne_eq, not_false_eq_true, kit_ss, kit_ns, kit_bs, kit_is, kit_ls, kit_ts, kit_ds, kit_bb, V.ty.injEq, and_assoc, rIxU, rLenH, rLenU, rLenS, rInt1, rSetL, rEq, rNe, rCat, L2.start, List.map, List.length, List.length_cons, List.length_nil, List.replicate, List.getElem?_cons_zero, List.getElem?_cons_succ, List.set_cons_zero, List.set_cons_succ, List.set_nil, List.cons_append, List.nil_append, List.append_nil, Option.some.injEq, V.int.injEq, V.ref.injEq, V.str.injEq, V.bl.injEq, HO.lst.injEq, HO.tup.injEq, exists_eq_left', exists_and_left, exists_eq_left, List.cons.injEq, and_true, true_and, and_false, false_and, and_self, reduceCtorEq, exists_false, or_false, false_or, exists_const, at0, at1, at2, at3, at4, at5, ix51, ix52, ix54, upd_same, Nat.reduceAdd, Nat.reduceSub, Nat.zero_add, Int.reduceToNat, Int.reduceLE, Int.reduceLT, decide_eq_true_eq, Bool.not_eq_true, if_true, if_false, Bool.false_eq_true, ite_true, ite_false, Bool.not_true, Bool.not_false, decide_true, decide_false, tFor_eq, tLc_eq, iList, iTup, iRng1, iRng2, iStr, tSl, tPart, tNoPart, rSlL, cxOf_K, wipe, ex_ty2, kit_LTl, kit_LTt, kit_LTd, kit_LTs, kit_LTn, kit_LTb, kit_LTi, tM1, rIxS, exists_eq', lt1p, tDNewK, rSlS, rEqNil, nox_K, isIntV, tRaiseX, tMkX]; exact fun d hd => k _ d (same_new hd) upd_same
      | non => try simp only [tSeq, tNext, tRet, tRetN, tAsg, gName, gSub, tDrop, tIfS, tOp, tUn, tCB, tCons, tNil, tC, tVar, rI, rI0, rU, tAnd, tOr, tNot, tAndV, tOrV, tNotV, tIf, tTest, tB, tCall, tChain, tLst, tTup, tYes, rIxH, rIsB, rIsBT, rMulS, kd_non, kd_bl, kd_int, kd_str, kd_ref, kdO_lst, kdO_tup, kdO_dK, nq_n, nq_b, nq_i, nq_s, nq_l, nq_t, nq_d, ne_eq, not_false_eq_true, kit_ss, kit_ns, kit_bs, kit_is, kit_ls, kit_ts, kit_ds, kit_bb, V.ty.injEq, and_assoc, rIxU, rLenH, rLenU, rLenS, rInt1, rSetL, rEq, rNe, rCat, L2.start, List.map, List.length, List.length_cons, List.length_nil, List.replicate, List.getElem?_cons_zero, List.getElem?_cons_succ, List.set_cons_zero, List.set_cons_succ, List.set_nil, List.cons_append, List.nil_append, List.append_nil, Option.some.injEq, V.int.injEq, V.ref.injEq, V.str.injEq, V.bl.injEq, HO.lst.injEq, HO.tup.injEq, exists_eq_left', exists_and_left, exists_eq_left, List.cons.injEq, and_true, true_and, and_false, false_and, and_self, reduceCtorEq, exists_false, or_false, false_or, exists_const, at0, at1, at2, at3, at4, at5, ix51, ix52, ix54, upd_same, Nat.reduceAdd, Nat.reduceSub, Nat.zero_add, Int.reduceToNat, Int.reduceLE, Int.reduceLT, decide_eq_true_eq, Bool.not_eq_true, if_true, if_false, Bool.false_eq_true, ite_true, ite_false, Bool.not_true, Bool.not_false, decide_true, decide_false, tFor_eq, tLc_eq, iList, iTup, iRng1, iRng2, iStr, tSl, tPart, tNoPart, rSlL, cxOf_K, wipe, ex_ty2, kit_LTl, kit_LTt, kit_LTd, kit_LTs, kit_LTn, kit_LTb, kit_LTi, tM1, rIxS, exists_eq', lt1p, tDNewK, rSlS, rEqNil, nox_K, isIntV, tRaiseX, tMkX]; exact fun d hd => k _ d (same_new hd) upd_same
      | bl b => try simp only [tSeq, tNext, tRet, tRetN, tAsg, gName, gSub, tDrop, tIfS, tOp, tUn, tCB, tCons, tNil, tC, tVar, rI, rI0, rU, tAnd, tOr, tNot, tAndV, tOrV, tNotV, tIf, tTest, tB, tCall, tChain, tLst, tTup, tYes, rIxH, rIsB, rIsBT, rMulS, kd_non, kd_bl, kd_int, kd_str, kd_ref, kdO_lst, kdO_tup, kdO_dK, nq_n, nq_b, nq_i, nq_s, nq_l, nq_t, nq_d, ne_eq, not_false_eq_true, kit_ss, kit_ns, kit_bs, kit_is, kit_ls, kit_ts, kit_ds, kit_bb, V.ty.injEq, and_assoc, rIxU, rLenH, rLenU, rLenS, rInt1, rSetL, rEq, rNe, rCat, L2.start, List.map, List.length, List.length_cons, List.length_nil, List.replicate, List.getElem?_cons_zero, List.getElem?_cons_succ, List.set_cons_zero, List.set_cons_succ, List.set_nil, List.cons_append, List.nil_append, List.append_nil, Option.some.injEq, V.int.injEq, V.ref.injEq, V.str.injEq, V.bl.injEq, HO.lst.injEq, HO.tup.injEq, exists_eq_left', exists_and_left, exists_eq_left, List.cons.injEq, and_true, true_and, and_false, false_and, and_self, reduceCtorEq, exists_false, or_false, false_or, exists_const, at0, at1, at2, at3, at4, at5, ix51, ix52, ix54, upd_same, Nat.reduceAdd, Nat.reduceSub, Nat.zero_add, Int.reduceToNat, Int.reduceLE, Int.reduceLT, decide_eq_true_eq, Bool.not_eq_true, if_true, if_false, Bool.false_eq_true, ite_true, ite_false, Bool.not_true, Bool.not_false, decide_true, decide_false, tFor_eq, tLc_eq, iList, iTup, iRng1, iRng2, iStr, tSl, tPart, tNoPart, rSlL, cxOf_K, wipe, ex_ty2, kit_LTl, kit_LTt, kit_LTd, kit_LTs, kit_LTn, kit_LTb, kit_LTi, tM1, rIxS, exists_eq', lt1p, tDNewK, rSlS, rEqNil, nox_K, isIntV, tRaiseX, tMkX]; exact fun d hd => k _ d (same_new hd) upd_same
theorem lay_ints : ∀ (ps : List Int), PyData.canLayAll0 (ps.map PyData.int) = true
  | [] => rfl
  | _ :: r => by
    show (true && PyData.canLayAll0 (r.map PyData.int)) = true
    rw [lay_ints r]
    rfl
theorem dep_ints : ∀ (ps : List Int), PyData.depthAll (ps.map PyData.int) ≤ 1
  | [] => by simp [PyData.depthAll]
  | z :: r => by
    have := dep_ints r
    simp only [List.map_cons, PyData.depthAll, PyData.depth]
    omega
theorem shT {ds : List PyData} (h1 : PyData.canLayAll0 ds = true) (h2 : PyData.depthAll ds ≤ 1) : SeqAt.shaped (.tuple ds) = true := by
  unfold SeqAt.shaped
  have h3 : PyData.canLay0 (.tuple ds) = true := h1
  rw [h3, Bool.true_and]
  refine decide_eq_true ?_
  simp only [PyData.depth]
  omega
theorem eqv_strsT : ∀ (xs ys : List Str), PyData.eqvAll (xs.map PyData.str) (ys.map PyData.str) = decide (xs = ys)
  | [], [] => by simp [PyData.eqvAll]
  | [], _ :: _ => by simp [PyData.eqvAll]
  | _ :: _, [] => by simp [PyData.eqvAll]
  | x :: xs, y :: ys => by
    have ih := eqv_strsT xs ys
    simp only [List.map_cons, PyData.eqvAll, ih, PyData.eqv]
    rw [Bool.eq_iff_iff]
    simp
theorem eqv_intsT : ∀ (xs ys : List Int), PyData.eqvAll (xs.map PyData.int) (ys.map PyData.int) = decide (xs = ys)
  | [], [] => by simp [PyData.eqvAll]
  | [], _ :: _ => by simp [PyData.eqvAll]
  | _ :: _, [] => by simp [PyData.eqvAll]
  | x :: xs, y :: ys => by
    have ih := eqv_intsT xs ys
    simp only [List.map_cons, PyData.eqvAll, ih, PyData.eqv]
    rw [Bool.eq_iff_iff]
    simp
theorem dp_ints {K : PySem.W.Frag} {H : Hp} : ∀ (zs : List Int), DpAll K H (zs.map V.int) (zs.map PyData.int)
  | [] => .nil
  | z :: r => .cons (.int z) (dp_ints r)
theorem neT_strs {K : PySem.W.Frag} {H : Hp} {a b : Addr} {xs ys : List Str} {Q : VK} (ha : H a = some (.tup (xs.map V.str))) (hb : H b = some (.tup (ys.map V.str))) (h1 : ∀ z ∈ xs, ∀ c ∈ z.cps.toList, c < 128) (h2 : ∀ z ∈ ys, ∀ c ∈ z.cps.toList, c < 128) (k : Q (.bl (!decide (xs = ys))) H) : rNeD K (.ref a) (.ref b) H Q := by
  refine ⟨.tuple (xs.map PyData.str), .tuple (ys.map PyData.str), .tup (SqT.of ha) (dp_strs xs), .tup (SqT.of hb) (dp_strs ys), shT (lay_strs xs h1) (dep_strs xs), shT (lay_strs ys h2) (dep_strs ys), ?_⟩
  have e : PyData.eqv (.tuple (xs.map PyData.str)) (.tuple (ys.map PyData.str)) = decide (xs = ys) := by
    rw [← eqv_strsT]
    simp only [PyData.eqv]
  rw [e]
  exact k
theorem neT_ints {K : PySem.W.Frag} {H : Hp} {a b : Addr} {xs ys : List Int} {Q : VK} (ha : H a = some (.tup (xs.map V.int))) (hb : H b = some (.tup (ys.map V.int))) (k : Q (.bl (!decide (xs = ys))) H) : rNeD K (.ref a) (.ref b) H Q := by
  refine ⟨.tuple (xs.map PyData.int), .tuple (ys.map PyData.int), .tup (SqT.of ha) (dp_ints xs), .tup (SqT.of hb) (dp_ints ys), shT (lay_ints xs) (dep_ints xs), shT (lay_ints ys) (dep_ints ys), ?_⟩
  have e : PyData.eqv (.tuple (xs.map PyData.int)) (.tuple (ys.map PyData.int)) = decide (xs = ys) := by
    rw [← eqv_intsT]
    simp only [PyData.eqv]
  rw [e]
  exact k
def spVEq (C : Addr) : Sp := fun vs H Q _ => ∃ a ls ps n v, vs = [.ref a, v] ∧ VerAt C H a ls ps n ∧ ls.length ≤ 12 ∧ ps.length ≤ 3 ∧ (∀ z ∈ ls, ∀ c ∈ z.cps.toList, c < 128) ∧
  ((∃ a' ls' ps' n', v = .ref a' ∧ VerAt C H a' ls' ps' n' ∧ ls'.length ≤ 12 ∧ ps'.length ≤ 3 ∧ (∀ z ∈ ls', ∀ c ∈ z.cps.toList, c < 128) ∧ Q (.bl (decide (ls = ls') && decide (ps = ps') && decide (n = n'))) H) ∨ (∃ b xs, v = .ref b ∧ H b = some (.lst xs) ∧ Q (.bl false) H))
theorem ok_veq (T : Txt K mg A) : FnOk PW w K mg base CX0 1 A.a_VersionEq A.d_VersionEq ["self", "other"] (spVEq A.k_Version) := by
  refine T.f_VersionEq.ok scVersionEq (fun vs H Q E h => ?_) (fun cdv A' outer s H vs Q E hr h => ?_)
  · obtain ⟨a, ls, ps, n, v, rfl, _⟩ := h
    rfl
  · obtain ⟨a, ls, ps, n, v, rfl, ⟨dx, l, p, ha, hl, hp⟩, l12, p3, asc, h⟩ := h
    refine ⟨_, (pss_cons (ps_if (pt_not (pt_val (pe_callB call_isW (by rfl) T.z_isinstance (by decide +kernel) (pa_cons (pv 1) (pa_cons (pe_glob (v := .ref A.k_Version) (by rfl) T.k_Version rfl) pa_nil))))) (pss_one (ps_ret pe_bl)) pss_nil)
      (pss_cons (ps_if (PW.pt (pw_or (pt_cmpR (op_neD hr.units) (pe_fld (pv 0) rfl) (pe_fld (pv 1) rfl) (nomark _)) (pw_or1 (pt_cmpR (op_neD hr.units) (pe_fld (pv 0) rfl) (pe_fld (pv 1) rfl) (nomark _))))) (pss_one (ps_ret pe_bl)) pss_nil)
      (pss_one (ps_ret (pe_cmpR (op_eq) (pe_fld (pv 0) rfl) (pe_fld (pv 1) rfl) (nomark _)))))), ?_⟩
    rcases h with ⟨a', ls', ps', n', rfl, ⟨dx', l', p', ha', hl', hp'⟩, l12', p3', asc', k⟩ | ⟨b, xs, rfl, hb, k⟩
    · have e1 : PySem.W.kitOne K (.ref A.k_Version) (.ref A.k_Version) = some true := kit_self
      have et : tyV H (.ref a') = some (.ref A.k_Version) := by rw [tyV_ref, ha']; rfl
      try simp only [tSeq, tNext, tRet, tRetN, tAsg, gName, gSub, tDrop, tIfS, tOp, tUn, tCB, tCons, tNil, tC, tVar, rI, rI0, rU, tAnd, tOr, tNot, tAndV, tOrV, tNotV, tIf, tTest, tB, tCall, tChain, tLst, tTup, tYes, rIxH, rIsB, rIsBT, rMulS, kd_non, kd_bl, kd_int, kd_str, kd_ref, kdO_lst, kdO_tup, kdO_dK, nq_n, nq_b, nq_i, nq_s, nq_l, nq_t, nq_d, ne_eq, not_false_eq_true, kit_ss, kit_ns, kit_bs, kit_is, kit_ls, kit_ts, kit_ds, kit_bb, V.ty.injEq, and_assoc, rIxU, rLenH, rLenU, rLenS, rInt1, rSetL, rEq, rNe, rCat, L2.start, List.map, List.length, List.length_cons, List.length_nil, List.replicate, List.getElem?_cons_zero, List.getElem?_cons_succ, List.set_cons_zero, List.set_cons_succ, List.set_nil, List.cons_append, List.nil_append, List.append_nil, Option.some.injEq, V.int.injEq, V.ref.injEq, V.str.injEq, V.bl.injEq, HO.lst.injEq, HO.tup.injEq, exists_eq_left', exists_and_left, exists_eq_left, List.cons.injEq, and_true, true_and, and_false, false_and, and_self, reduceCtorEq, exists_false, or_false, false_or, exists_const, at0, at1, at2, at3, at4, at5, ix51, ix52, ix54, upd_same, Nat.reduceAdd, Nat.reduceSub, Nat.zero_add, Int.reduceToNat, Int.reduceLE, Int.reduceLT, decide_eq_true_eq, Bool.not_eq_true, if_true, if_false, Bool.false_eq_true, ite_true, ite_false, Bool.not_true, Bool.not_false, decide_true, decide_false, tFor_eq, tLc_eq, iList, iTup, iRng1, iRng2, iStr, tSl, tPart, tNoPart, rSlL, cxOf_K, wipe, ex_ty2, kit_LTl, kit_LTt, kit_LTd, kit_LTs, kit_LTn, kit_LTb, kit_LTi, tM1, rIxS, exists_eq', lt1p, tDNewK, rSlS, rEqNil, nox_K, rIsW, clsV_ty, clsV_ref, et, e1, Value.ref.injEq, forall_eq', T.t_Version, implies_true, forall_const, tFld, ha, ha', HO.ins.injEq, T.t_Version.cl, T.n_Version_kept_lines, T.n_Version_kept_parents, T.n_Version_kept_author, vf_l, vf_p, vf_a, scal_str]
      refine neT_strs hl hl' asc asc' ?_
      refine ⟨_, rfl, ?_⟩
      by_cases e : ls = ls'
      · rw [if_neg (by simp [e])]
        refine ⟨_, _, _, ha, T.t_Version.cl, T.n_Version_kept_parents, _, vf_p, _, _, _, ha', T.t_Version.cl, T.n_Version_kept_parents, _, vf_p, ?_⟩
        refine neT_ints hp hp' ?_
        refine ⟨_, rfl, ?_⟩
        by_cases e' : ps = ps'
        · rw [if_neg (by simp [e'])]
          refine ⟨_, _, _, ha, T.t_Version.cl, T.n_Version_kept_author, _, vf_a, _, _, _, ha', T.t_Version.cl, T.n_Version_kept_author, _, vf_a, ?_⟩
          rw [decide_eq_true e, decide_eq_true e', Bool.true_and, Bool.true_and] at k
          first | exact ⟨scal_str, k⟩ | exact k | exact ⟨scal_str, by simpa [eqV] using k⟩ | simpa [eqV] using k
        · rw [if_pos (by simp [e'])]
          rw [decide_eq_false e', Bool.and_false, Bool.false_and] at k
          exact k
      · rw [if_pos (by simp [e])]
        rw [decide_eq_false e, Bool.false_and, Bool.false_and] at k
        exact k
    · have et : tyV H (.ref b) = some (.type "list") := by rw [tyV_ref, hb]; rfl
      try simp only [tSeq, tNext, tRet, tRetN, tAsg, gName, gSub, tDrop, tIfS, tOp, tUn, tCB, tCons, tNil, tC, tVar, rI, rI0, rU, tAnd, tOr, tNot, tAndV, tOrV, tNotV, tIf, tTest, tB, tCall, tChain, tLst, tTup, tYes, rIxH, rIsB, rIsBT, rMulS, kd_non, kd_bl, kd_int, kd_str, kd_ref, kdO_lst, kdO_tup, kdO_dK, nq_n, nq_b, nq_i, nq_s, nq_l, nq_t, nq_d, ne_eq, not_false_eq_true, kit_ss, kit_ns, kit_bs, kit_is, kit_ls, kit_ts, kit_ds, kit_bb, V.ty.injEq, and_assoc, rIxU, rLenH, rLenU, rLenS, rInt1, rSetL, rEq, rNe, rCat, L2.start, List.map, List.length, List.length_cons, List.length_nil, List.replicate, List.getElem?_cons_zero, List.getElem?_cons_succ, List.set_cons_zero, List.set_cons_succ, List.set_nil, List.cons_append, List.nil_append, List.append_nil, Option.some.injEq, V.int.injEq, V.ref.injEq, V.str.injEq, V.bl.injEq, HO.lst.injEq, HO.tup.injEq, exists_eq_left', exists_and_left, exists_eq_left, List.cons.injEq, and_true, true_and, and_false, false_and, and_self, reduceCtorEq, exists_false, or_false, false_or, exists_const, at0, at1, at2, at3, at4, at5, ix51, ix52, ix54, upd_same, Nat.reduceAdd, Nat.reduceSub, Nat.zero_add, Int.reduceToNat, Int.reduceLE, Int.reduceLT, decide_eq_true_eq, Bool.not_eq_true, if_true, if_false, Bool.false_eq_true, ite_true, ite_false, Bool.not_true, Bool.not_false, decide_true, decide_false, tFor_eq, tLc_eq, iList, iTup, iRng1, iRng2, iStr, tSl, tPart, tNoPart, rSlL, cxOf_K, wipe, ex_ty2, kit_LTl, kit_LTt, kit_LTd, kit_LTs, kit_LTn, kit_LTb, kit_LTi, tM1, rIxS, exists_eq', lt1p, tDNewK, rSlS, rEqNil, nox_K, rIsW, clsV_ty, clsV_ref, et, T.q_list_Version]
      exact ⟨fun _ z => z.elim, k⟩
end



/-! ### parents -/
section
variable {X : Cx}
/-- isinstance(x, (.., ..)) where x is a tuple of the text itself -/
def rIsKT (K : PySem.W.Frag) : List V → Hp → VK → Prop := fun vs H Q => ∃ a p ts cs b o, vs = [.ref a, .ref p] ∧ H p = some (.tup ts) ∧ ts = List.map V.ty cs ∧ K.lookup a = some o ∧ o.cls = .type "tuple" ∧ kitAnyB "tuple" cs = some b ∧ Q (.bl b) H
theorem call_isKT : CallR X (.builtin "isinstance") (rIsKT X.K) := fun pins s σ H xs us Q I r h => by
  obtain ⟨a, p, ts, cs, b, o, h1, h2, rfl, h3, h4, h5, h6⟩ := h
  exact call_isiT pins s σ H xs us Q I r ⟨.ref a, p, _, _, _, b, h1, h2, clsV_all cs, .kTuple h3 h4, kitAnyB_ok h5, h6⟩
end
/-- the empty tuple of the text -/
structure KT0 (K : PySem.W.Frag) (a : Addr) : Prop where
  sq : ∀ H, SqT K H a []
  lk : ∃ o, K.lookup a = some o ∧ o.cls = .type "tuple"
def isParV (H : Hp) (v : V) : Bool := match seqV H v with
  | some xs => parL xs
  | none => false
theorem par_of {H : Hp} {v : V} {xs : List V} (h : seqV H v = some xs) : isParV H v = parL xs := by
  unfold isParV
  rw [h]
theorem par_no {H : Hp} {v : V} (h : seqV H v = none) : isParV H v = false := by
  unfold isParV
  rw [h]
def spPar (K : PySem.W.Frag) : Sp := fun vs H Q _ => ∃ v, vs = [v] ∧ ((Thg H v ∧ (∀ xs, seqV H v = some xs → xs.length ≤ 1000 ∧ ∀ x ∈ xs, Thg H x) ∧ ∀ H', Same H H' → Q (.bl (isParV H v)) H') ∨
  (∃ a, v = .ref a ∧ KT0 K a ∧ ∀ H', Same H H' → Q (.bl true) H'))
section
variable {P : Program} {w : World} {K : PySem.W.Frag} {mg : Str → Option Value} {base : Heap} {A : Adr}
theorem ok_par (T : Txt K mg A) (gIsCount : FnOk P w K mg base CX0 2 A.a_IsCount A.d_IsCount ["value"] spIsCntT) : FnOk P w K mg base CX0 3 A.a_AreParents A.d_AreParents ["value"] (spPar K) := by
  refine T.f_AreParents.ok scAreParents (fun vs H Q E h => ?_) (fun cdv A' outer s H vs Q E hr h => ?_)
  · obtain ⟨v, rfl, _⟩ := h
    rfl
  · obtain ⟨v, rfl, h⟩ := h
    rcases h with ⟨ht, hx, k⟩ | ⟨a, rfl, ⟨sq, o, ho1, ho2⟩, k⟩
    · cases ht with
      | lst e =>
        rename_i a xs
        refine ⟨_, (pss_cons (ps_if (PW.pt (pw_or (pt_not (pt_val (pe_callB call_isBT (by rfl) T.z_isinstance (by decide +kernel) (pa_cons (pv 0) (pa_cons (pe_tup (pa_cons (pe_bltn (v := .ty "list") (by rfl) T.z_list (by decide +kernel) rfl) (pa_cons (pe_bltn (v := .ty "tuple") (by rfl) T.z_tuple (by decide +kernel) rfl) pa_nil))) pa_nil))))) (pw_or1 (pt_cmpR (op_gt) (pe_callB call_lenH (by rfl) T.z_len (by decide +kernel) (pa_cons (pv 0) pa_nil)) (pe_glob (v := .int 3) (by rfl) T.c_MOST_PARENTS.choose_spec ⟨_, rfl⟩) (nomark _))))) (pss_one (ps_ret pe_bl)) pss_nil)
      (pss_one (ps_ret (pe_and (pe_callB (cr_all rfl) (by rfl) T.z_all (by decide +kernel) (pa_cons (pe_lc (own := [("number", 1)]) (g := gName 1) (tt := tYes) (by rfl) scAreParents.nd (pi_list (pv 0)) (blkOk_by (own := [("number", 1)]) (N := nAreParents) (sc := defScope sAreParents) (by decide +kernel)) (fun _ _ _ _ _ => pg_name (i := 1) scAreParents.nd rfl (Or.inl rfl)) (fun _ _ _ _ _ => pts_nil) (fun _ _ _ _ _ => (pe_call gIsCount (hr.mono (by decide)) (by rfl) T.m_IsCount T.f_IsCount.kp T.b_IsCount .nil pass0 (pa_cons (pv 1) pa_nil)))) pa_nil)) (pe_one (pe_cmpR (op_eq) (pe_lenSetI2 rfl (by rfl) T.z_len (by rfl) T.z_set (pv 0)) (pe_callB call_lenH (by rfl) T.z_len (by decide +kernel) (pa_cons (pv 0) pa_nil)) (nomark _))))))), ?_⟩
        try simp only [tSeq, tNext, tRet, tRetN, tAsg, gName, gSub, tDrop, tIfS, tOp, tUn, tCB, tCons, tNil, tC, tVar, rI, rI0, rU, tAnd, tOr, tNot, tAndV, tOrV, tNotV, tIf, tTest, tB, tCall, tChain, tLst, tTup, tYes, rIxH, rIsB, rIsBT, rMulS, kd_non, kd_bl, kd_int, kd_str, kd_ref, kdO_lst, kdO_tup, kdO_dK, nq_n, nq_b, nq_i, nq_s, nq_l, nq_t, nq_d, ne_eq, not_false_eq_true, kit_ss, kit_ns, kit_bs, kit_is, kit_ls, kit_ts, kit_ds, kit_bb, V.ty.injEq, and_assoc, rIxU, rLenH, rLenU, rLenS, rInt1, rSetL, rEq, rNe, rCat, L2.start, List.map, List.length, List.length_cons, List.length_nil, List.replicate, List.getElem?_cons_zero, List.getElem?_cons_succ, List.set_cons_zero, List.set_cons_succ, List.set_nil, List.cons_append, List.nil_append, List.append_nil, Option.some.injEq, V.int.injEq, V.ref.injEq, V.str.injEq, V.bl.injEq, HO.lst.injEq, HO.tup.injEq, exists_eq_left', exists_and_left, exists_eq_left, List.cons.injEq, and_true, true_and, and_false, false_and, and_self, reduceCtorEq, exists_false, or_false, false_or, exists_const, at0, at1, at2, at3, at4, at5, ix51, ix52, ix54, upd_same, Nat.reduceAdd, Nat.reduceSub, Nat.zero_add, Int.reduceToNat, Int.reduceLE, Int.reduceLT, decide_eq_true_eq, Bool.not_eq_true, if_true, if_false, Bool.false_eq_true, ite_true, ite_false, Bool.not_true, Bool.not_false, decide_true, decide_false, tFor_eq, tLc_eq, iList, iTup, iRng1, iRng2, iStr, tSl, tPart, tNoPart, rSlL, cxOf_K, wipe, ex_ty2, kit_LTl, kit_LTt, kit_LTd, kit_LTs, kit_LTn, kit_LTb, kit_LTi, tM1, rIxS, exists_eq', lt1p, tDNewK, rSlS, rEqNil, e]
        refine ⟨by decide, ?_⟩
        intro p n_p; generalize g_H1 : upd H p _ = H1; obtain ⟨s_H1, h_p⟩ := new_facts n_p g_H1; clear g_H1
        have e1 := s_H1 _ _ e
        obtain ⟨hl, hth⟩ := hx xs (by show seqO (H a) = _; rw [e]; rfl)
        have ev : isParV H (.ref a) = parL xs := par_of (by show seqO (H a) = _; rw [e]; rfl)
        unfold parL at ev
        try simp only [tSeq, tNext, tRet, tRetN, tAsg, gName, gSub, tDrop, tIfS, tOp, tUn, tCB, tCons, tNil, tC, tVar, rI, rI0, rU, tAnd, tOr, tNot, tAndV, tOrV, tNotV, tIf, tTest, tB, tCall, tChain, tLst, tTup, tYes, rIxH, rIsB, rIsBT, rMulS, kd_non, kd_bl, kd_int, kd_str, kd_ref, kdO_lst, kdO_tup, kdO_dK, nq_n, nq_b, nq_i, nq_s, nq_l, nq_t, nq_d, ne_eq, not_false_eq_true, kit_ss, kit_ns, kit_bs, kit_is, kit_ls, kit_ts, kit_ds, kit_bb, V.ty.injEq, and_assoc, rIxU, rLenH, rLenU, rLenS, rInt1, rSetL, rEq, rNe, rCat, L2.start, List.map, List.length, List.length_cons, List.length_nil, List.replicate, List.getElem?_cons_zero, List.getElem?_cons_succ, List.set_cons_zero, List.set_cons_succ, List.set_nil, List.cons_append, List.nil_append, List.append_nil, Option.some.injEq, V.int.injEq, V.ref.injEq, V.str.injEq, V.bl.injEq, HO.lst.injEq, HO.tup.injEq, exists_eq_left', exists_and_left, exists_eq_left, List.cons.injEq, and_true, true_and, and_false, false_and, and_self, reduceCtorEq, exists_false, or_false, false_or, exists_const, at0, at1, at2, at3, at4, at5, ix51, ix52, ix54, upd_same, Nat.reduceAdd, Nat.reduceSub, Nat.zero_add, Int.reduceToNat, Int.reduceLE, Int.reduceLT, decide_eq_true_eq, Bool.not_eq_true, if_true, if_false, Bool.false_eq_true, ite_true, ite_false, Bool.not_true, Bool.not_false, decide_true, decide_false, tFor_eq, tLc_eq, iList, iTup, iRng1, iRng2, iStr, tSl, tPart, tNoPart, rSlL, cxOf_K, wipe, ex_ty2, kit_LTl, kit_LTt, kit_LTd, kit_LTs, kit_LTn, kit_LTb, kit_LTi, tM1, rIxS, exists_eq', lt1p, tDNewK, rSlS, rEqNil, e1]
        refine ite2 (fun h => ?_) (fun h => ?_)
        · rw [decide_eq_false (show ¬ xs.length ≤ 3 by omega), Bool.false_and, Bool.false_and] at ev
          rw [← ev]
          exact k _ s_H1
        · refine ⟨⟨_, SqL.of e1⟩, fun D hD => ?_⟩
          refine lc_same (walk_list (K := K) (xs := xs)) (fun _ => true) (fun v => .bl (isCntV v)) hD (fun _ s2 => s2.seq (SqL.of e1)) (by omega) (fun x hx H2 s2 R R0 h1 _ => ?_) (fun H2 s2 h2 => ?_)
          · try simp only [tSeq, tNext, tRet, tRetN, tAsg, gName, gSub, tDrop, tIfS, tOp, tUn, tCB, tCons, tNil, tC, tVar, rI, rI0, rU, tAnd, tOr, tNot, tAndV, tOrV, tNotV, tIf, tTest, tB, tCall, tChain, tLst, tTup, tYes, rIxH, rIsB, rIsBT, rMulS, kd_non, kd_bl, kd_int, kd_str, kd_ref, kdO_lst, kdO_tup, kdO_dK, nq_n, nq_b, nq_i, nq_s, nq_l, nq_t, nq_d, ne_eq, not_false_eq_true, kit_ss, kit_ns, kit_bs, kit_is, kit_ls, kit_ts, kit_ds, kit_bb, V.ty.injEq, and_assoc, rIxU, rLenH, rLenU, rLenS, rInt1, rSetL, rEq, rNe, rCat, L2.start, List.map, List.length, List.length_cons, List.length_nil, List.replicate, List.getElem?_cons_zero, List.getElem?_cons_succ, List.set_cons_zero, List.set_cons_succ, List.set_nil, List.cons_append, List.nil_append, List.append_nil, Option.some.injEq, V.int.injEq, V.ref.injEq, V.str.injEq, V.bl.injEq, HO.lst.injEq, HO.tup.injEq, exists_eq_left', exists_and_left, exists_eq_left, List.cons.injEq, and_true, true_and, and_false, false_and, and_self, reduceCtorEq, exists_false, or_false, false_or, exists_const, at0, at1, at2, at3, at4, at5, ix51, ix52, ix54, upd_same, Nat.reduceAdd, Nat.reduceSub, Nat.zero_add, Int.reduceToNat, Int.reduceLE, Int.reduceLT, decide_eq_true_eq, Bool.not_eq_true, if_true, if_false, Bool.false_eq_true, ite_true, ite_false, Bool.not_true, Bool.not_false, decide_true, decide_false, tFor_eq, tLc_eq, iList, iTup, iRng1, iRng2, iStr, tSl, tPart, tNoPart, rSlL, cxOf_K, wipe, ex_ty2, kit_LTl, kit_LTt, kit_LTd, kit_LTs, kit_LTn, kit_LTb, kit_LTi, tM1, rIxS, exists_eq', lt1p, tDNewK, rSlS, rEqNil]
            exact ⟨x, rfl, (hth x hx).mono (s_H1.trans s2), h1 H2 (Same.refl _) rfl⟩
          · rw [filter_all] at h2
            refine ⟨D, xs.map isCntV, rfl, SqL.of (by rw [h2, List.map_map]; rfl), ?_⟩
            rw [decide_eq_true (show xs.length ≤ 3 by omega), Bool.true_and] at ev
            have e2 : (xs.map isCntV).all id = xs.all isCntV := by rw [List.all_map]; rfl
            rw [e2]
            have e12 := s2 _ _ e1
            cases ea : xs.all isCntV with
            | false =>
              try simp only [tSeq, tNext, tRet, tRetN, tAsg, gName, gSub, tDrop, tIfS, tOp, tUn, tCB, tCons, tNil, tC, tVar, rI, rI0, rU, tAnd, tOr, tNot, tAndV, tOrV, tNotV, tIf, tTest, tB, tCall, tChain, tLst, tTup, tYes, rIxH, rIsB, rIsBT, rMulS, kd_non, kd_bl, kd_int, kd_str, kd_ref, kdO_lst, kdO_tup, kdO_dK, nq_n, nq_b, nq_i, nq_s, nq_l, nq_t, nq_d, ne_eq, not_false_eq_true, kit_ss, kit_ns, kit_bs, kit_is, kit_ls, kit_ts, kit_ds, kit_bb, V.ty.injEq, and_assoc, rIxU, rLenH, rLenU, rLenS, rInt1, rSetL, rEq, rNe, rCat, L2.start, List.map, List.length, List.length_cons, List.length_nil, List.replicate, List.getElem?_cons_zero, List.getElem?_cons_succ, List.set_cons_zero, List.set_cons_succ, List.set_nil, List.cons_append, List.nil_append, List.append_nil, Option.some.injEq, V.int.injEq, V.ref.injEq, V.str.injEq, V.bl.injEq, HO.lst.injEq, HO.tup.injEq, exists_eq_left', exists_and_left, exists_eq_left, List.cons.injEq, and_true, true_and, and_false, false_and, and_self, reduceCtorEq, exists_false, or_false, false_or, exists_const, at0, at1, at2, at3, at4, at5, ix51, ix52, ix54, upd_same, Nat.reduceAdd, Nat.reduceSub, Nat.zero_add, Int.reduceToNat, Int.reduceLE, Int.reduceLT, decide_eq_true_eq, Bool.not_eq_true, if_true, if_false, Bool.false_eq_true, ite_true, ite_false, Bool.not_true, Bool.not_false, decide_true, decide_false, tFor_eq, tLc_eq, iList, iTup, iRng1, iRng2, iStr, tSl, tPart, tNoPart, rSlL, cxOf_K, wipe, ex_ty2, kit_LTl, kit_LTt, kit_LTd, kit_LTs, kit_LTn, kit_LTb, kit_LTi, tM1, rIxS, exists_eq', lt1p, tDNewK, rSlS, rEqNil]
              rw [ea, Bool.false_and] at ev
              rw [← ev]
              exact k H2 (s_H1.trans s2)
            | true =>
              rw [ea, Bool.true_and] at ev
              have ei := cnt_ints ea
              try simp only [tSeq, tNext, tRet, tRetN, tAsg, gName, gSub, tDrop, tIfS, tOp, tUn, tCB, tCons, tNil, tC, tVar, rI, rI0, rU, tAnd, tOr, tNot, tAndV, tOrV, tNotV, tIf, tTest, tB, tCall, tChain, tLst, tTup, tYes, rIxH, rIsB, rIsBT, rMulS, kd_non, kd_bl, kd_int, kd_str, kd_ref, kdO_lst, kdO_tup, kdO_dK, nq_n, nq_b, nq_i, nq_s, nq_l, nq_t, nq_d, ne_eq, not_false_eq_true, kit_ss, kit_ns, kit_bs, kit_is, kit_ls, kit_ts, kit_ds, kit_bb, V.ty.injEq, and_assoc, rIxU, rLenH, rLenU, rLenS, rInt1, rSetL, rEq, rNe, rCat, L2.start, List.map, List.length, List.length_cons, List.length_nil, List.replicate, List.getElem?_cons_zero, List.getElem?_cons_succ, List.set_cons_zero, List.set_cons_succ, List.set_nil, List.cons_append, List.nil_append, List.append_nil, Option.some.injEq, V.int.injEq, V.ref.injEq, V.str.injEq, V.bl.injEq, HO.lst.injEq, HO.tup.injEq, exists_eq_left', exists_and_left, exists_eq_left, List.cons.injEq, and_true, true_and, and_false, false_and, and_self, reduceCtorEq, exists_false, or_false, false_or, exists_const, at0, at1, at2, at3, at4, at5, ix51, ix52, ix54, upd_same, Nat.reduceAdd, Nat.reduceSub, Nat.zero_add, Int.reduceToNat, Int.reduceLE, Int.reduceLT, decide_eq_true_eq, Bool.not_eq_true, if_true, if_false, Bool.false_eq_true, ite_true, ite_false, Bool.not_true, Bool.not_false, decide_true, decide_false, tFor_eq, tLc_eq, iList, iTup, iRng1, iRng2, iStr, tSl, tPart, tNoPart, rSlL, cxOf_K, wipe, ex_ty2, kit_LTl, kit_LTt, kit_LTd, kit_LTs, kit_LTn, kit_LTb, kit_LTi, tM1, rIxS, exists_eq', lt1p, tDNewK, rSlS, rEqNil, e12, tLenSetI2]
              refine ⟨xs.map cntOf, ⟨a, rfl, .inl (SqL.of (by rw [e12, ← ei]))⟩, by rw [List.length_map]; omega, scal_int, ?_⟩
              have h0 := k H2 (s_H1.trans s2)
              rw [ev] at h0
              have ec : decide (((nd (xs.map cntOf)).length : Int) = (xs.length : Int)) = decide ((nd (xs.map cntOf)).length = xs.length) := by
                rw [Bool.eq_iff_iff]
                simp only [decide_eq_true_eq]
                omega
              rw [← ec] at h0
              exact h0
      | tup e =>
        rename_i a xs
        refine ⟨_, (pss_cons (ps_if (PW.pt (pw_or (pt_not (pt_val (pe_callB call_isBT (by rfl) T.z_isinstance (by decide +kernel) (pa_cons (pv 0) (pa_cons (pe_tup (pa_cons (pe_bltn (v := .ty "list") (by rfl) T.z_list (by decide +kernel) rfl) (pa_cons (pe_bltn (v := .ty "tuple") (by rfl) T.z_tuple (by decide +kernel) rfl) pa_nil))) pa_nil))))) (pw_or1 (pt_cmpR (op_gt) (pe_callB call_lenU (by rfl) T.z_len (by decide +kernel) (pa_cons (pv 0) pa_nil)) (pe_glob (v := .int 3) (by rfl) T.c_MOST_PARENTS.choose_spec ⟨_, rfl⟩) (nomark _))))) (pss_one (ps_ret pe_bl)) pss_nil)
      (pss_one (ps_ret (pe_and (pe_callB (cr_all rfl) (by rfl) T.z_all (by decide +kernel) (pa_cons (pe_lc (own := [("number", 1)]) (g := gName 1) (tt := tYes) (by rfl) scAreParents.nd (pi_tup (pv 0)) (blkOk_by (own := [("number", 1)]) (N := nAreParents) (sc := defScope sAreParents) (by decide +kernel)) (fun _ _ _ _ _ => pg_name (i := 1) scAreParents.nd rfl (Or.inl rfl)) (fun _ _ _ _ _ => pts_nil) (fun _ _ _ _ _ => (pe_call gIsCount (hr.mono (by decide)) (by rfl) T.m_IsCount T.f_IsCount.kp T.b_IsCount .nil pass0 (pa_cons (pv 1) pa_nil)))) pa_nil)) (pe_one (pe_cmpR (op_eq) (pe_lenSetI2 rfl (by rfl) T.z_len (by rfl) T.z_set (pv 0)) (pe_callB call_lenU (by rfl) T.z_len (by decide +kernel) (pa_cons (pv 0) pa_nil)) (nomark _))))))), ?_⟩
        try simp only [tSeq, tNext, tRet, tRetN, tAsg, gName, gSub, tDrop, tIfS, tOp, tUn, tCB, tCons, tNil, tC, tVar, rI, rI0, rU, tAnd, tOr, tNot, tAndV, tOrV, tNotV, tIf, tTest, tB, tCall, tChain, tLst, tTup, tYes, rIxH, rIsB, rIsBT, rMulS, kd_non, kd_bl, kd_int, kd_str, kd_ref, kdO_lst, kdO_tup, kdO_dK, nq_n, nq_b, nq_i, nq_s, nq_l, nq_t, nq_d, ne_eq, not_false_eq_true, kit_ss, kit_ns, kit_bs, kit_is, kit_ls, kit_ts, kit_ds, kit_bb, V.ty.injEq, and_assoc, rIxU, rLenH, rLenU, rLenS, rInt1, rSetL, rEq, rNe, rCat, L2.start, List.map, List.length, List.length_cons, List.length_nil, List.replicate, List.getElem?_cons_zero, List.getElem?_cons_succ, List.set_cons_zero, List.set_cons_succ, List.set_nil, List.cons_append, List.nil_append, List.append_nil, Option.some.injEq, V.int.injEq, V.ref.injEq, V.str.injEq, V.bl.injEq, HO.lst.injEq, HO.tup.injEq, exists_eq_left', exists_and_left, exists_eq_left, List.cons.injEq, and_true, true_and, and_false, false_and, and_self, reduceCtorEq, exists_false, or_false, false_or, exists_const, at0, at1, at2, at3, at4, at5, ix51, ix52, ix54, upd_same, Nat.reduceAdd, Nat.reduceSub, Nat.zero_add, Int.reduceToNat, Int.reduceLE, Int.reduceLT, decide_eq_true_eq, Bool.not_eq_true, if_true, if_false, Bool.false_eq_true, ite_true, ite_false, Bool.not_true, Bool.not_false, decide_true, decide_false, tFor_eq, tLc_eq, iList, iTup, iRng1, iRng2, iStr, tSl, tPart, tNoPart, rSlL, cxOf_K, wipe, ex_ty2, kit_LTl, kit_LTt, kit_LTd, kit_LTs, kit_LTn, kit_LTb, kit_LTi, tM1, rIxS, exists_eq', lt1p, tDNewK, rSlS, rEqNil, e]
        refine ⟨by decide, ?_⟩
        intro p n_p; generalize g_H1 : upd H p _ = H1; obtain ⟨s_H1, h_p⟩ := new_facts n_p g_H1; clear g_H1
        have e1 := s_H1 _ _ e
        obtain ⟨hl, hth⟩ := hx xs (by show seqO (H a) = _; rw [e]; rfl)
        have ev : isParV H (.ref a) = parL xs := par_of (by show seqO (H a) = _; rw [e]; rfl)
        unfold parL at ev
        try simp only [tSeq, tNext, tRet, tRetN, tAsg, gName, gSub, tDrop, tIfS, tOp, tUn, tCB, tCons, tNil, tC, tVar, rI, rI0, rU, tAnd, tOr, tNot, tAndV, tOrV, tNotV, tIf, tTest, tB, tCall, tChain, tLst, tTup, tYes, rIxH, rIsB, rIsBT, rMulS, kd_non, kd_bl, kd_int, kd_str, kd_ref, kdO_lst, kdO_tup, kdO_dK, nq_n, nq_b, nq_i, nq_s, nq_l, nq_t, nq_d, ne_eq, not_false_eq_true, kit_ss, kit_ns, kit_bs, kit_is, kit_ls, kit_ts, kit_ds, kit_bb, V.ty.injEq, and_assoc, rIxU, rLenH, rLenU, rLenS, rInt1, rSetL, rEq, rNe, rCat, L2.start, List.map, List.length, List.length_cons, List.length_nil, List.replicate, List.getElem?_cons_zero, List.getElem?_cons_succ, List.set_cons_zero, List.set_cons_succ, List.set_nil, List.cons_append, List.nil_append, List.append_nil, Option.some.injEq, V.int.injEq, V.ref.injEq, V.str.injEq, V.bl.injEq, HO.lst.injEq, HO.tup.injEq, exists_eq_left', exists_and_left, exists_eq_left, List.cons.injEq, and_true, true_and, and_false, false_and, and_self, reduceCtorEq, exists_false, or_false, false_or, exists_const, at0, at1, at2, at3, at4, at5, ix51, ix52, ix54, upd_same, Nat.reduceAdd, Nat.reduceSub, Nat.zero_add, Int.reduceToNat, Int.reduceLE, Int.reduceLT, decide_eq_true_eq, Bool.not_eq_true, if_true, if_false, Bool.false_eq_true, ite_true, ite_false, Bool.not_true, Bool.not_false, decide_true, decide_false, tFor_eq, tLc_eq, iList, iTup, iRng1, iRng2, iStr, tSl, tPart, tNoPart, rSlL, cxOf_K, wipe, ex_ty2, kit_LTl, kit_LTt, kit_LTd, kit_LTs, kit_LTn, kit_LTb, kit_LTi, tM1, rIxS, exists_eq', lt1p, tDNewK, rSlS, rEqNil, e1]
        refine ite2 (fun h => ?_) (fun h => ?_)
        · rw [decide_eq_false (show ¬ xs.length ≤ 3 by omega), Bool.false_and, Bool.false_and] at ev
          rw [← ev]
          exact k _ s_H1
        · refine ⟨⟨_, SqT.of e1⟩, fun D hD => ?_⟩
          refine lc_same (walk_tup (K := K) (xs := xs)) (fun _ => true) (fun v => .bl (isCntV v)) hD (fun _ s2 => Same.tup s2 (SqT.of e1)) (by omega) (fun x hx H2 s2 R R0 h1 _ => ?_) (fun H2 s2 h2 => ?_)
          · try simp only [tSeq, tNext, tRet, tRetN, tAsg, gName, gSub, tDrop, tIfS, tOp, tUn, tCB, tCons, tNil, tC, tVar, rI, rI0, rU, tAnd, tOr, tNot, tAndV, tOrV, tNotV, tIf, tTest, tB, tCall, tChain, tLst, tTup, tYes, rIxH, rIsB, rIsBT, rMulS, kd_non, kd_bl, kd_int, kd_str, kd_ref, kdO_lst, kdO_tup, kdO_dK, nq_n, nq_b, nq_i, nq_s, nq_l, nq_t, nq_d, ne_eq, not_false_eq_true, kit_ss, kit_ns, kit_bs, kit_is, kit_ls, kit_ts, kit_ds, kit_bb, V.ty.injEq, and_assoc, rIxU, rLenH, rLenU, rLenS, rInt1, rSetL, rEq, rNe, rCat, L2.start, List.map, List.length, List.length_cons, List.length_nil, List.replicate, List.getElem?_cons_zero, List.getElem?_cons_succ, List.set_cons_zero, List.set_cons_succ, List.set_nil, List.cons_append, List.nil_append, List.append_nil, Option.some.injEq, V.int.injEq, V.ref.injEq, V.str.injEq, V.bl.injEq, HO.lst.injEq, HO.tup.injEq, exists_eq_left', exists_and_left, exists_eq_left, List.cons.injEq, and_true, true_and, and_false, false_and, and_self, reduceCtorEq, exists_false, or_false, false_or, exists_const, at0, at1, at2, at3, at4, at5, ix51, ix52, ix54, upd_same, Nat.reduceAdd, Nat.reduceSub, Nat.zero_add, Int.reduceToNat, Int.reduceLE, Int.reduceLT, decide_eq_true_eq, Bool.not_eq_true, if_true, if_false, Bool.false_eq_true, ite_true, ite_false, Bool.not_true, Bool.not_false, decide_true, decide_false, tFor_eq, tLc_eq, iList, iTup, iRng1, iRng2, iStr, tSl, tPart, tNoPart, rSlL, cxOf_K, wipe, ex_ty2, kit_LTl, kit_LTt, kit_LTd, kit_LTs, kit_LTn, kit_LTb, kit_LTi, tM1, rIxS, exists_eq', lt1p, tDNewK, rSlS, rEqNil]
            exact ⟨x, rfl, (hth x hx).mono (s_H1.trans s2), h1 H2 (Same.refl _) rfl⟩
          · rw [filter_all] at h2
            refine ⟨D, xs.map isCntV, rfl, SqL.of (by rw [h2, List.map_map]; rfl), ?_⟩
            rw [decide_eq_true (show xs.length ≤ 3 by omega), Bool.true_and] at ev
            have e2 : (xs.map isCntV).all id = xs.all isCntV := by rw [List.all_map]; rfl
            rw [e2]
            have e12 := s2 _ _ e1
            cases ea : xs.all isCntV with
            | false =>
              try simp only [tSeq, tNext, tRet, tRetN, tAsg, gName, gSub, tDrop, tIfS, tOp, tUn, tCB, tCons, tNil, tC, tVar, rI, rI0, rU, tAnd, tOr, tNot, tAndV, tOrV, tNotV, tIf, tTest, tB, tCall, tChain, tLst, tTup, tYes, rIxH, rIsB, rIsBT, rMulS, kd_non, kd_bl, kd_int, kd_str, kd_ref, kdO_lst, kdO_tup, kdO_dK, nq_n, nq_b, nq_i, nq_s, nq_l, nq_t, nq_d, ne_eq, not_false_eq_true, kit_ss, kit_ns, kit_bs, kit_is, kit_ls, kit_ts, kit_ds, kit_bb, V.ty.injEq, and_assoc, rIxU, rLenH, rLenU, rLenS, rInt1, rSetL, rEq, rNe, rCat, L2.start, List.map, List.length, List.length_cons, List.length_nil, List.replicate, List.getElem?_cons_zero, List.getElem?_cons_succ, List.set_cons_zero, List.set_cons_succ, List.set_nil, List.cons_append, List.nil_append, List.append_nil, Option.some.injEq, V.int.injEq, V.ref.injEq, V.str.injEq, V.bl.injEq, HO.lst.injEq, HO.tup.injEq, exists_eq_left', exists_and_left, exists_eq_left, List.cons.injEq, and_true, true_and, and_false, false_and, and_self, reduceCtorEq, exists_false, or_false, false_or, exists_const, at0, at1, at2, at3, at4, at5, ix51, ix52, ix54, upd_same, Nat.reduceAdd, Nat.reduceSub, Nat.zero_add, Int.reduceToNat, Int.reduceLE, Int.reduceLT, decide_eq_true_eq, Bool.not_eq_true, if_true, if_false, Bool.false_eq_true, ite_true, ite_false, Bool.not_true, Bool.not_false, decide_true, decide_false, tFor_eq, tLc_eq, iList, iTup, iRng1, iRng2, iStr, tSl, tPart, tNoPart, rSlL, cxOf_K, wipe, ex_ty2, kit_LTl, kit_LTt, kit_LTd, kit_LTs, kit_LTn, kit_LTb, kit_LTi, tM1, rIxS, exists_eq', lt1p, tDNewK, rSlS, rEqNil]
              rw [ea, Bool.false_and] at ev
              rw [← ev]
              exact k H2 (s_H1.trans s2)
            | true =>
              rw [ea, Bool.true_and] at ev
              have ei := cnt_ints ea
              try simp only [tSeq, tNext, tRet, tRetN, tAsg, gName, gSub, tDrop, tIfS, tOp, tUn, tCB, tCons, tNil, tC, tVar, rI, rI0, rU, tAnd, tOr, tNot, tAndV, tOrV, tNotV, tIf, tTest, tB, tCall, tChain, tLst, tTup, tYes, rIxH, rIsB, rIsBT, rMulS, kd_non, kd_bl, kd_int, kd_str, kd_ref, kdO_lst, kdO_tup, kdO_dK, nq_n, nq_b, nq_i, nq_s, nq_l, nq_t, nq_d, ne_eq, not_false_eq_true, kit_ss, kit_ns, kit_bs, kit_is, kit_ls, kit_ts, kit_ds, kit_bb, V.ty.injEq, and_assoc, rIxU, rLenH, rLenU, rLenS, rInt1, rSetL, rEq, rNe, rCat, L2.start, List.map, List.length, List.length_cons, List.length_nil, List.replicate, List.getElem?_cons_zero, List.getElem?_cons_succ, List.set_cons_zero, List.set_cons_succ, List.set_nil, List.cons_append, List.nil_append, List.append_nil, Option.some.injEq, V.int.injEq, V.ref.injEq, V.str.injEq, V.bl.injEq, HO.lst.injEq, HO.tup.injEq, exists_eq_left', exists_and_left, exists_eq_left, List.cons.injEq, and_true, true_and, and_false, false_and, and_self, reduceCtorEq, exists_false, or_false, false_or, exists_const, at0, at1, at2, at3, at4, at5, ix51, ix52, ix54, upd_same, Nat.reduceAdd, Nat.reduceSub, Nat.zero_add, Int.reduceToNat, Int.reduceLE, Int.reduceLT, decide_eq_true_eq, Bool.not_eq_true, if_true, if_false, Bool.false_eq_true, ite_true, ite_false, Bool.not_true, Bool.not_false, decide_true, decide_false, tFor_eq, tLc_eq, iList, iTup, iRng1, iRng2, iStr, tSl, tPart, tNoPart, rSlL, cxOf_K, wipe, ex_ty2, kit_LTl, kit_LTt, kit_LTd, kit_LTs, kit_LTn, kit_LTb, kit_LTi, tM1, rIxS, exists_eq', lt1p, tDNewK, rSlS, rEqNil, e12, tLenSetI2]
              refine ⟨xs.map cntOf, ⟨a, rfl, .inr (SqT.of (by rw [e12, ← ei]))⟩, by rw [List.length_map]; omega, scal_int, ?_⟩
              have h0 := k H2 (s_H1.trans s2)
              rw [ev] at h0
              have ec : decide (((nd (xs.map cntOf)).length : Int) = (xs.length : Int)) = decide ((nd (xs.map cntOf)).length = xs.length) := by
                rw [Bool.eq_iff_iff]
                simp only [decide_eq_true_eq]
                omega
              rw [← ec] at h0
              exact h0
      | dic e =>
        refine ⟨_, (pss_cons (ps_if (PW.pt (pw_or (pt_not (pt_val (pe_callB call_isBT (by rfl) T.z_isinstance (by decide +kernel) (pa_cons (pv 0) (pa_cons (pe_tup (pa_cons (pe_bltn (v := .ty "list") (by rfl) T.z_list (by decide +kernel) rfl) (pa_cons (pe_bltn (v := .ty "tuple") (by rfl) T.z_tuple (by decide +kernel) rfl) pa_nil))) pa_nil))))) (pw_or1 (pt_cmpR (op_gt) (pe_callB call_lenH (by rfl) T.z_len (by decide +kernel) (pa_cons (pv 0) pa_nil)) (pe_glob (v := .int 3) (by rfl) T.c_MOST_PARENTS.choose_spec ⟨_, rfl⟩) (nomark _))))) (pss_one (ps_ret pe_bl)) pss_nil)
      (pss_one (ps_ret (pe_and (pe_callB (cr_all rfl) (by rfl) T.z_all (by decide +kernel) (pa_cons (pe_lc (own := [("number", 1)]) (g := gName 1) (tt := tYes) (by rfl) scAreParents.nd (pi_list (pv 0)) (blkOk_by (own := [("number", 1)]) (N := nAreParents) (sc := defScope sAreParents) (by decide +kernel)) (fun _ _ _ _ _ => pg_name (i := 1) scAreParents.nd rfl (Or.inl rfl)) (fun _ _ _ _ _ => pts_nil) (fun _ _ _ _ _ => (pe_call gIsCount (hr.mono (by decide)) (by rfl) T.m_IsCount T.f_IsCount.kp T.b_IsCount .nil pass0 (pa_cons (pv 1) pa_nil)))) pa_nil)) (pe_one (pe_cmpR (op_eq) (pe_lenSetI2 rfl (by rfl) T.z_len (by rfl) T.z_set (pv 0)) (pe_callB call_lenH (by rfl) T.z_len (by decide +kernel) (pa_cons (pv 0) pa_nil)) (nomark _))))))), ?_⟩
        try simp only [tSeq, tNext, tRet, tRetN, tAsg, gName, gSub, tDrop, tIfS, tOp, tUn, tCB, tCons, tNil, tC, tVar, rI, rI0, rU, tAnd, tOr, tNot, tAndV, tOrV, tNotV, tIf, tTest, tB, tCall, tChain, tLst, tTup, tYes, rIxH, rIsB, rIsBT, rMulS, kd_non, kd_bl, kd_int, kd_str, kd_ref, kdO_lst, kdO_tup, kdO_dK, nq_n, nq_b, nq_i, nq_s, nq_l, nq_t, nq_d, ne_eq, not_false_eq_true, kit_ss, kit_ns, kit_bs, kit_is, kit_ls, kit_ts, kit_ds, kit_bb, V.ty.injEq, and_assoc, rIxU, rLenH, rLenU, rLenS, rInt1, rSetL, rEq, rNe, rCat, L2.start, List.map, List.length, List.length_cons, List.length_nil, List.replicate, List.getElem?_cons_zero, List.getElem?_cons_succ, List.set_cons_zero, List.set_cons_succ, List.set_nil, List.cons_append, List.nil_append, List.append_nil, Option.some.injEq, V.int.injEq, V.ref.injEq, V.str.injEq, V.bl.injEq, HO.lst.injEq, HO.tup.injEq, exists_eq_left', exists_and_left, exists_eq_left, List.cons.injEq, and_true, true_and, and_false, false_and, and_self, reduceCtorEq, exists_false, or_false, false_or, exists_const, at0, at1, at2, at3, at4, at5, ix51, ix52, ix54, upd_same, Nat.reduceAdd, Nat.reduceSub, Nat.zero_add, Int.reduceToNat, Int.reduceLE, Int.reduceLT, decide_eq_true_eq, Bool.not_eq_true, if_true, if_false, Bool.false_eq_true, ite_true, ite_false, Bool.not_true, Bool.not_false, decide_true, decide_false, tFor_eq, tLc_eq, iList, iTup, iRng1, iRng2, iStr, tSl, tPart, tNoPart, rSlL, cxOf_K, wipe, ex_ty2, kit_LTl, kit_LTt, kit_LTd, kit_LTs, kit_LTn, kit_LTb, kit_LTi, tM1, rIxS, exists_eq', lt1p, tDNewK, rSlS, rEqNil, e]
        refine ⟨by decide, ?_⟩
        intro p n_p; generalize g_H1 : upd H p _ = H1; obtain ⟨s_H1, h_p⟩ := new_facts n_p g_H1; clear g_H1
        have e1 := s_H1 _ _ e
        try simp only [tSeq, tNext, tRet, tRetN, tAsg, gName, gSub, tDrop, tIfS, tOp, tUn, tCB, tCons, tNil, tC, tVar, rI, rI0, rU, tAnd, tOr, tNot, tAndV, tOrV, tNotV, tIf, tTest, tB, tCall, tChain, tLst, tTup, tYes, rIxH, rIsB, rIsBT, rMulS, kd_non, kd_bl, kd_int, kd_str, kd_ref, kdO_lst, kdO_tup, kdO_dK, nq_n, nq_b, nq_i, nq_s, nq_l, nq_t, nq_d, ne_eq, not_false_eq_true, kit_ss, kit_ns, kit_bs, kit_is, kit_ls, kit_ts, kit_ds, kit_bb, V.ty.injEq, and_assoc, rIxU, rLenH, rLenU, rLenS, rInt1, rSetL, rEq, rNe, rCat, L2.start, List.map, List.length, List.length_cons, List.length_nil, List.replicate, List.getElem?_cons_zero, List.getElem?_cons_succ, List.set_cons_zero, List.set_cons_succ, List.set_nil, List.cons_append, List.nil_append, List.append_nil, Option.some.injEq, V.int.injEq, V.ref.injEq, V.str.injEq, V.bl.injEq, HO.lst.injEq, HO.tup.injEq, exists_eq_left', exists_and_left, exists_eq_left, List.cons.injEq, and_true, true_and, and_false, false_and, and_self, reduceCtorEq, exists_false, or_false, false_or, exists_const, at0, at1, at2, at3, at4, at5, ix51, ix52, ix54, upd_same, Nat.reduceAdd, Nat.reduceSub, Nat.zero_add, Int.reduceToNat, Int.reduceLE, Int.reduceLT, decide_eq_true_eq, Bool.not_eq_true, if_true, if_false, Bool.false_eq_true, ite_true, ite_false, Bool.not_true, Bool.not_false, decide_true, decide_false, tFor_eq, tLc_eq, iList, iTup, iRng1, iRng2, iStr, tSl, tPart, tNoPart, rSlL, cxOf_K, wipe, ex_ty2, kit_LTl, kit_LTt, kit_LTd, kit_LTs, kit_LTn, kit_LTb, kit_LTi, tM1, rIxS, exists_eq', lt1p, tDNewK, rSlS, rEqNil, e1]
        rw [← par_no (H := H) (v := .ref _) (by show seqO (H _) = _; rw [e]; rfl)]
        exact k _ s_H1
      | non =>
        refine ⟨_, (pss_cons (ps_if (PW.pt (pw_or (pt_not (pt_val (pe_callB call_isBT (by rfl) T.z_isinstance (by decide +kernel) (pa_cons (pv 0) (pa_cons (pe_tup (pa_cons (pe_bltn (v := .ty "list") (by rfl) T.z_list (by decide +kernel) rfl) (pa_cons (pe_bltn (v := .ty "tuple") (by rfl) T.z_tuple (by decide +kernel) rfl) pa_nil))) pa_nil))))) (pw_or1 (pt_cmpR (op_gt) (pe_callB call_lenH (by rfl) T.z_len (by decide +kernel) (pa_cons (pv 0) pa_nil)) (pe_glob (v := .int 3) (by rfl) T.c_MOST_PARENTS.choose_spec ⟨_, rfl⟩) (nomark _))))) (pss_one (ps_ret pe_bl)) pss_nil)
      (pss_one (ps_ret (pe_and (pe_callB (cr_all rfl) (by rfl) T.z_all (by decide +kernel) (pa_cons (pe_lc (own := [("number", 1)]) (g := gName 1) (tt := tYes) (by rfl) scAreParents.nd (pi_list (pv 0)) (blkOk_by (own := [("number", 1)]) (N := nAreParents) (sc := defScope sAreParents) (by decide +kernel)) (fun _ _ _ _ _ => pg_name (i := 1) scAreParents.nd rfl (Or.inl rfl)) (fun _ _ _ _ _ => pts_nil) (fun _ _ _ _ _ => (pe_call gIsCount (hr.mono (by decide)) (by rfl) T.m_IsCount T.f_IsCount.kp T.b_IsCount .nil pass0 (pa_cons (pv 1) pa_nil)))) pa_nil)) (pe_one (pe_cmpR (op_eq) (pe_lenSetI2 rfl (by rfl) T.z_len (by rfl) T.z_set (pv 0)) (pe_callB call_lenH (by rfl) T.z_len (by decide +kernel) (pa_cons (pv 0) pa_nil)) (nomark _))))))), ?_⟩
        try simp only [tSeq, tNext, tRet, tRetN, tAsg, gName, gSub, tDrop, tIfS, tOp, tUn, tCB, tCons, tNil, tC, tVar, rI, rI0, rU, tAnd, tOr, tNot, tAndV, tOrV, tNotV, tIf, tTest, tB, tCall, tChain, tLst, tTup, tYes, rIxH, rIsB, rIsBT, rMulS, kd_non, kd_bl, kd_int, kd_str, kd_ref, kdO_lst, kdO_tup, kdO_dK, nq_n, nq_b, nq_i, nq_s, nq_l, nq_t, nq_d, ne_eq, not_false_eq_true, kit_ss, kit_ns, kit_bs, kit_is, kit_ls, kit_ts, kit_ds, kit_bb, V.ty.injEq, and_assoc, rIxU, rLenH, rLenU, rLenS, rInt1, rSetL, rEq, rNe, rCat, L2.start, List.map, List.length, List.length_cons, List.length_nil, List.replicate, List.getElem?_cons_zero, List.getElem?_cons_succ, List.set_cons_zero, List.set_cons_succ, List.set_nil, List.cons_append, List.nil_append, List.append_nil, Option.some.injEq, V.int.injEq, V.ref.injEq, V.str.injEq, V.bl.injEq, HO.lst.injEq, HO.tup.injEq, exists_eq_left', exists_and_left, exists_eq_left, List.cons.injEq, and_true, true_and, and_false, false_and, and_self, reduceCtorEq, exists_false, or_false, false_or, exists_const, at0, at1, at2, at3, at4, at5, ix51, ix52, ix54, upd_same, Nat.reduceAdd, Nat.reduceSub, Nat.zero_add, Int.reduceToNat, Int.reduceLE, Int.reduceLT, decide_eq_true_eq, Bool.not_eq_true, if_true, if_false, Bool.false_eq_true, ite_true, ite_false, Bool.not_true, Bool.not_false, decide_true, decide_false, tFor_eq, tLc_eq, iList, iTup, iRng1, iRng2, iStr, tSl, tPart, tNoPart, rSlL, cxOf_K, wipe, ex_ty2, kit_LTl, kit_LTt, kit_LTd, kit_LTs, kit_LTn, kit_LTb, kit_LTi, tM1, rIxS, exists_eq', lt1p, tDNewK, rSlS, rEqNil]
        refine ⟨by decide, fun p hp => k _ (same_new hp)⟩
      | bl b =>
        refine ⟨_, (pss_cons (ps_if (PW.pt (pw_or (pt_not (pt_val (pe_callB call_isBT (by rfl) T.z_isinstance (by decide +kernel) (pa_cons (pv 0) (pa_cons (pe_tup (pa_cons (pe_bltn (v := .ty "list") (by rfl) T.z_list (by decide +kernel) rfl) (pa_cons (pe_bltn (v := .ty "tuple") (by rfl) T.z_tuple (by decide +kernel) rfl) pa_nil))) pa_nil))))) (pw_or1 (pt_cmpR (op_gt) (pe_callB call_lenH (by rfl) T.z_len (by decide +kernel) (pa_cons (pv 0) pa_nil)) (pe_glob (v := .int 3) (by rfl) T.c_MOST_PARENTS.choose_spec ⟨_, rfl⟩) (nomark _))))) (pss_one (ps_ret pe_bl)) pss_nil)
      (pss_one (ps_ret (pe_and (pe_callB (cr_all rfl) (by rfl) T.z_all (by decide +kernel) (pa_cons (pe_lc (own := [("number", 1)]) (g := gName 1) (tt := tYes) (by rfl) scAreParents.nd (pi_list (pv 0)) (blkOk_by (own := [("number", 1)]) (N := nAreParents) (sc := defScope sAreParents) (by decide +kernel)) (fun _ _ _ _ _ => pg_name (i := 1) scAreParents.nd rfl (Or.inl rfl)) (fun _ _ _ _ _ => pts_nil) (fun _ _ _ _ _ => (pe_call gIsCount (hr.mono (by decide)) (by rfl) T.m_IsCount T.f_IsCount.kp T.b_IsCount .nil pass0 (pa_cons (pv 1) pa_nil)))) pa_nil)) (pe_one (pe_cmpR (op_eq) (pe_lenSetI2 rfl (by rfl) T.z_len (by rfl) T.z_set (pv 0)) (pe_callB call_lenH (by rfl) T.z_len (by decide +kernel) (pa_cons (pv 0) pa_nil)) (nomark _))))))), ?_⟩
        try simp only [tSeq, tNext, tRet, tRetN, tAsg, gName, gSub, tDrop, tIfS, tOp, tUn, tCB, tCons, tNil, tC, tVar, rI, rI0, rU, tAnd, tOr, tNot, tAndV, tOrV, tNotV, tIf, tTest, tB, tCall, tChain, tLst, tTup, tYes, rIxH, rIsB, rIsBT, rMulS, kd_non, kd_bl, kd_int, kd_str, kd_ref, kdO_lst, kdO_tup, kdO_dK, nq_n, nq_b, nq_i, nq_s, nq_l, nq_t, nq_d, ne_eq, not_false_eq_true, kit_ss, kit_ns, kit_bs, kit_is, kit_ls, kit_ts, kit_ds, kit_bb, V.ty.injEq, and_assoc, rIxU, rLenH, rLenU, rLenS, rInt1, rSetL, rEq, rNe, rCat, L2.start, List.map, List.length, List.length_cons, List.length_nil, List.replicate, List.getElem?_cons_zero, List.getElem?_cons_succ, List.set_cons_zero, List.set_cons_succ, List.set_nil, List.cons_append, List.nil_append, List.append_nil, Option.some.injEq, V.int.injEq, V.ref.injEq, V.str.injEq, V.bl.injEq, HO.lst.injEq, HO.tup.injEq, exists_eq_left', exists_and_left, exists_eq_left, List.cons.injEq, and_true, true_and, and_false, false_and, and_self, reduceCtorEq, exists_false, or_false, false_or, exists_const, at0, at1, at2, at3, at4, at5, ix51, ix52, ix54, upd_same, Nat.reduceAdd, Nat.reduceSub, Nat.zero_add, Int.reduceToNat, Int.reduceLE, Int.reduceLT, decide_eq_true_eq, Bool.not_eq_true, if_true, if_false, Bool.false_eq_true, ite_true, ite_false, Bool.not_true, Bool.not_false, decide_true, decide_false, tFor_eq, tLc_eq, iList, iTup, iRng1, iRng2, iStr, tSl, tPart, tNoPart, rSlL, cxOf_K, wipe, ex_ty2, kit_LTl, kit_LTt, kit_LTd, kit_LTs, kit_LTn, kit_LTb, kit_LTi, tM1, rIxS, exists_eq', lt1p, tDNewK, rSlS, rEqNil]
        refine ⟨by decide, fun p hp => k _ (same_new hp)⟩
      | int i =>
        refine ⟨_, (pss_cons (ps_if (PW.pt (pw_or (pt_not (pt_val (pe_callB call_isBT (by rfl) T.z_isinstance (by decide +kernel) (pa_cons (pv 0) (pa_cons (pe_tup (pa_cons (pe_bltn (v := .ty "list") (by rfl) T.z_list (by decide +kernel) rfl) (pa_cons (pe_bltn (v := .ty "tuple") (by rfl) T.z_tuple (by decide +kernel) rfl) pa_nil))) pa_nil))))) (pw_or1 (pt_cmpR (op_gt) (pe_callB call_lenH (by rfl) T.z_len (by decide +kernel) (pa_cons (pv 0) pa_nil)) (pe_glob (v := .int 3) (by rfl) T.c_MOST_PARENTS.choose_spec ⟨_, rfl⟩) (nomark _))))) (pss_one (ps_ret pe_bl)) pss_nil)
      (pss_one (ps_ret (pe_and (pe_callB (cr_all rfl) (by rfl) T.z_all (by decide +kernel) (pa_cons (pe_lc (own := [("number", 1)]) (g := gName 1) (tt := tYes) (by rfl) scAreParents.nd (pi_list (pv 0)) (blkOk_by (own := [("number", 1)]) (N := nAreParents) (sc := defScope sAreParents) (by decide +kernel)) (fun _ _ _ _ _ => pg_name (i := 1) scAreParents.nd rfl (Or.inl rfl)) (fun _ _ _ _ _ => pts_nil) (fun _ _ _ _ _ => (pe_call gIsCount (hr.mono (by decide)) (by rfl) T.m_IsCount T.f_IsCount.kp T.b_IsCount .nil pass0 (pa_cons (pv 1) pa_nil)))) pa_nil)) (pe_one (pe_cmpR (op_eq) (pe_lenSetI2 rfl (by rfl) T.z_len (by rfl) T.z_set (pv 0)) (pe_callB call_lenH (by rfl) T.z_len (by decide +kernel) (pa_cons (pv 0) pa_nil)) (nomark _))))))), ?_⟩
        try simp only [tSeq, tNext, tRet, tRetN, tAsg, gName, gSub, tDrop, tIfS, tOp, tUn, tCB, tCons, tNil, tC, tVar, rI, rI0, rU, tAnd, tOr, tNot, tAndV, tOrV, tNotV, tIf, tTest, tB, tCall, tChain, tLst, tTup, tYes, rIxH, rIsB, rIsBT, rMulS, kd_non, kd_bl, kd_int, kd_str, kd_ref, kdO_lst, kdO_tup, kdO_dK, nq_n, nq_b, nq_i, nq_s, nq_l, nq_t, nq_d, ne_eq, not_false_eq_true, kit_ss, kit_ns, kit_bs, kit_is, kit_ls, kit_ts, kit_ds, kit_bb, V.ty.injEq, and_assoc, rIxU, rLenH, rLenU, rLenS, rInt1, rSetL, rEq, rNe, rCat, L2.start, List.map, List.length, List.length_cons, List.length_nil, List.replicate, List.getElem?_cons_zero, List.getElem?_cons_succ, List.set_cons_zero, List.set_cons_succ, List.set_nil, List.cons_append, List.nil_append, List.append_nil, Option.some.injEq, V.int.injEq, V.ref.injEq, V.str.injEq, V.bl.injEq, HO.lst.injEq, HO.tup.injEq, exists_eq_left', exists_and_left, exists_eq_left, List.cons.injEq, and_true, true_and, and_false, false_and, and_self, reduceCtorEq, exists_false, or_false, false_or, exists_const, at0, at1, at2, at3, at4, at5, ix51, ix52, ix54, upd_same, Nat.reduceAdd, Nat.reduceSub, Nat.zero_add, Int.reduceToNat, Int.reduceLE, Int.reduceLT, decide_eq_true_eq, Bool.not_eq_true, if_true, if_false, Bool.false_eq_true, ite_true, ite_false, Bool.not_true, Bool.not_false, decide_true, decide_false, tFor_eq, tLc_eq, iList, iTup, iRng1, iRng2, iStr, tSl, tPart, tNoPart, rSlL, cxOf_K, wipe, ex_ty2, kit_LTl, kit_LTt, kit_LTd, kit_LTs, kit_LTn, kit_LTb, kit_LTi, tM1, rIxS, exists_eq', lt1p, tDNewK, rSlS, rEqNil]
        refine ⟨by decide, fun p hp => k _ (same_new hp)⟩
      | str hz =>
        refine ⟨_, (pss_cons (ps_if (PW.pt (pw_or (pt_not (pt_val (pe_callB call_isBT (by rfl) T.z_isinstance (by decide +kernel) (pa_cons (pv 0) (pa_cons (pe_tup (pa_cons (pe_bltn (v := .ty "list") (by rfl) T.z_list (by decide +kernel) rfl) (pa_cons (pe_bltn (v := .ty "tuple") (by rfl) T.z_tuple (by decide +kernel) rfl) pa_nil))) pa_nil))))) (pw_or1 (pt_cmpR (op_gt) (pe_callB call_lenH (by rfl) T.z_len (by decide +kernel) (pa_cons (pv 0) pa_nil)) (pe_glob (v := .int 3) (by rfl) T.c_MOST_PARENTS.choose_spec ⟨_, rfl⟩) (nomark _))))) (pss_one (ps_ret pe_bl)) pss_nil)
      (pss_one (ps_ret (pe_and (pe_callB (cr_all rfl) (by rfl) T.z_all (by decide +kernel) (pa_cons (pe_lc (own := [("number", 1)]) (g := gName 1) (tt := tYes) (by rfl) scAreParents.nd (pi_list (pv 0)) (blkOk_by (own := [("number", 1)]) (N := nAreParents) (sc := defScope sAreParents) (by decide +kernel)) (fun _ _ _ _ _ => pg_name (i := 1) scAreParents.nd rfl (Or.inl rfl)) (fun _ _ _ _ _ => pts_nil) (fun _ _ _ _ _ => (pe_call gIsCount (hr.mono (by decide)) (by rfl) T.m_IsCount T.f_IsCount.kp T.b_IsCount .nil pass0 (pa_cons (pv 1) pa_nil)))) pa_nil)) (pe_one (pe_cmpR (op_eq) (pe_lenSetI2 rfl (by rfl) T.z_len (by rfl) T.z_set (pv 0)) (pe_callB call_lenH (by rfl) T.z_len (by decide +kernel) (pa_cons (pv 0) pa_nil)) (nomark _))))))), ?_⟩
        try simp only [tSeq, tNext, tRet, tRetN, tAsg, gName, gSub, tDrop, tIfS, tOp, tUn, tCB, tCons, tNil, tC, tVar, rI, rI0, rU, tAnd, tOr, tNot, tAndV, tOrV, tNotV, tIf, tTest, tB, tCall, tChain, tLst, tTup, tYes, rIxH, rIsB, rIsBT, rMulS, kd_non, kd_bl, kd_int, kd_str, kd_ref, kdO_lst, kdO_tup, kdO_dK, nq_n, nq_b, nq_i, nq_s, nq_l, nq_t, nq_d, ne_eq, not_false_eq_true, kit_ss, kit_ns, kit_bs, kit_is, kit_ls, kit_ts, kit_ds, kit_bb, V.ty.injEq, and_assoc, rIxU, rLenH, rLenU, rLenS, rInt1, rSetL, rEq, rNe, rCat, L2.start, List.map, List.length, List.length_cons, List.length_nil, List.replicate, List.getElem?_cons_zero, List.getElem?_cons_succ, List.set_cons_zero, List.set_cons_succ, List.set_nil, List.cons_append, List.nil_append, List.append_nil, Option.some.injEq, V.int.injEq, V.ref.injEq, V.str.injEq, V.bl.injEq, HO.lst.injEq, HO.tup.injEq, exists_eq_left', exists_and_left, exists_eq_left, List.cons.injEq, and_true, true_and, and_false, false_and, and_self, reduceCtorEq, exists_false, or_false, false_or, exists_const, at0, at1, at2, at3, at4, at5, ix51, ix52, ix54, upd_same, Nat.reduceAdd, Nat.reduceSub, Nat.zero_add, Int.reduceToNat, Int.reduceLE, Int.reduceLT, decide_eq_true_eq, Bool.not_eq_true, if_true, if_false, Bool.false_eq_true, ite_true, ite_false, Bool.not_true, Bool.not_false, decide_true, decide_false, tFor_eq, tLc_eq, iList, iTup, iRng1, iRng2, iStr, tSl, tPart, tNoPart, rSlL, cxOf_K, wipe, ex_ty2, kit_LTl, kit_LTt, kit_LTd, kit_LTs, kit_LTn, kit_LTb, kit_LTi, tM1, rIxS, exists_eq', lt1p, tDNewK, rSlS, rEqNil]
        refine ⟨by decide, fun p hp => k _ (same_new hp)⟩
    · refine ⟨_, (pss_cons (ps_if (PW.pt (pw_or (pt_not (pt_val (pe_callB call_isKT (by rfl) T.z_isinstance (by decide +kernel) (pa_cons (pv 0) (pa_cons (pe_tup (pa_cons (pe_bltn (v := .ty "list") (by rfl) T.z_list (by decide +kernel) rfl) (pa_cons (pe_bltn (v := .ty "tuple") (by rfl) T.z_tuple (by decide +kernel) rfl) pa_nil))) pa_nil))))) (pw_or1 (pt_cmpR (op_gt) (pe_callB call_len_seq (by rfl) T.z_len (by decide +kernel) (pa_cons (pv 0) pa_nil)) (pe_glob (v := .int 3) (by rfl) T.c_MOST_PARENTS.choose_spec ⟨_, rfl⟩) (nomark _))))) (pss_one (ps_ret pe_bl)) pss_nil)
      (pss_one (ps_ret (pe_and (pe_callB (cr_all rfl) (by rfl) T.z_all (by decide +kernel) (pa_cons (pe_lc (own := [("number", 1)]) (g := gName 1) (tt := tYes) (by rfl) scAreParents.nd (pi_tup (pv 0)) (blkOk_by (own := [("number", 1)]) (N := nAreParents) (sc := defScope sAreParents) (by decide +kernel)) (fun _ _ _ _ _ => pg_name (i := 1) scAreParents.nd rfl (Or.inl rfl)) (fun _ _ _ _ _ => pts_nil) (fun _ _ _ _ _ => (pe_call gIsCount (hr.mono (by decide)) (by rfl) T.m_IsCount T.f_IsCount.kp T.b_IsCount .nil pass0 (pa_cons (pv 1) pa_nil)))) pa_nil)) (pe_one (pe_cmpR (op_eq) (pe_lenSetI2 rfl (by rfl) T.z_len (by rfl) T.z_set (pv 0)) (pe_callB call_len_seq (by rfl) T.z_len (by decide +kernel) (pa_cons (pv 0) pa_nil)) (nomark _))))))), ?_⟩
      try simp only [tSeq, tNext, tRet, tRetN, tAsg, gName, gSub, tDrop, tIfS, tOp, tUn, tCB, tCons, tNil, tC, tVar, rI, rI0, rU, tAnd, tOr, tNot, tAndV, tOrV, tNotV, tIf, tTest, tB, tCall, tChain, tLst, tTup, tYes, rIxH, rIsB, rIsBT, rMulS, kd_non, kd_bl, kd_int, kd_str, kd_ref, kdO_lst, kdO_tup, kdO_dK, nq_n, nq_b, nq_i, nq_s, nq_l, nq_t, nq_d, ne_eq, not_false_eq_true, kit_ss, kit_ns, kit_bs, kit_is, kit_ls, kit_ts, kit_ds, kit_bb, V.ty.injEq, and_assoc, rIxU, rLenH, rLenU, rLenS, rInt1, rSetL, rEq, rNe, rCat, L2.start, List.map, List.length, List.length_cons, List.length_nil, List.replicate, List.getElem?_cons_zero, List.getElem?_cons_succ, List.set_cons_zero, List.set_cons_succ, List.set_nil, List.cons_append, List.nil_append, List.append_nil, Option.some.injEq, V.int.injEq, V.ref.injEq, V.str.injEq, V.bl.injEq, HO.lst.injEq, HO.tup.injEq, exists_eq_left', exists_and_left, exists_eq_left, List.cons.injEq, and_true, true_and, and_false, false_and, and_self, reduceCtorEq, exists_false, or_false, false_or, exists_const, at0, at1, at2, at3, at4, at5, ix51, ix52, ix54, upd_same, Nat.reduceAdd, Nat.reduceSub, Nat.zero_add, Int.reduceToNat, Int.reduceLE, Int.reduceLT, decide_eq_true_eq, Bool.not_eq_true, if_true, if_false, Bool.false_eq_true, ite_true, ite_false, Bool.not_true, Bool.not_false, decide_true, decide_false, tFor_eq, tLc_eq, iList, iTup, iRng1, iRng2, iStr, tSl, tPart, tNoPart, rSlL, cxOf_K, wipe, ex_ty2, kit_LTl, kit_LTt, kit_LTd, kit_LTs, kit_LTn, kit_LTb, kit_LTi, tM1, rIxS, exists_eq', lt1p, tDNewK, rSlS, rEqNil, rIsKT]
      refine ⟨by decide, ?_⟩
      intro p n_p; generalize g_H1 : upd H p _ = H1; obtain ⟨s_H1, h_p⟩ := new_facts n_p g_H1; clear g_H1
      try simp only [tSeq, tNext, tRet, tRetN, tAsg, gName, gSub, tDrop, tIfS, tOp, tUn, tCB, tCons, tNil, tC, tVar, rI, rI0, rU, tAnd, tOr, tNot, tAndV, tOrV, tNotV, tIf, tTest, tB, tCall, tChain, tLst, tTup, tYes, rIxH, rIsB, rIsBT, rMulS, kd_non, kd_bl, kd_int, kd_str, kd_ref, kdO_lst, kdO_tup, kdO_dK, nq_n, nq_b, nq_i, nq_s, nq_l, nq_t, nq_d, ne_eq, not_false_eq_true, kit_ss, kit_ns, kit_bs, kit_is, kit_ls, kit_ts, kit_ds, kit_bb, V.ty.injEq, and_assoc, rIxU, rLenH, rLenU, rLenS, rInt1, rSetL, rEq, rNe, rCat, L2.start, List.map, List.length, List.length_cons, List.length_nil, List.replicate, List.getElem?_cons_zero, List.getElem?_cons_succ, List.set_cons_zero, List.set_cons_succ, List.set_nil, List.cons_append, List.nil_append, List.append_nil, Option.some.injEq, V.int.injEq, V.ref.injEq, V.str.injEq, V.bl.injEq, HO.lst.injEq, HO.tup.injEq, exists_eq_left', exists_and_left, exists_eq_left, List.cons.injEq, and_true, true_and, and_false, false_and, and_self, reduceCtorEq, exists_false, or_false, false_or, exists_const, at0, at1, at2, at3, at4, at5, ix51, ix52, ix54, upd_same, Nat.reduceAdd, Nat.reduceSub, Nat.zero_add, Int.reduceToNat, Int.reduceLE, Int.reduceLT, decide_eq_true_eq, Bool.not_eq_true, if_true, if_false, Bool.false_eq_true, ite_true, ite_false, Bool.not_true, Bool.not_false, decide_true, decide_false, tFor_eq, tLc_eq, iList, iTup, iRng1, iRng2, iStr, tSl, tPart, tNoPart, rSlL, cxOf_K, wipe, ex_ty2, kit_LTl, kit_LTt, kit_LTd, kit_LTs, kit_LTn, kit_LTb, kit_LTi, tM1, rIxS, exists_eq', lt1p, tDNewK, rSlS, rEqNil, h_p]
      refine ⟨true, o, ho1, ho2, rfl, ?_⟩
      rw [if_neg (by decide)]
      refine ⟨[], .inr (sq _), ?_⟩
      rw [if_neg (by decide)]
      refine ⟨⟨[], sq _⟩, fun D hD => ?_⟩
      refine lc_same (walk_tup (K := K) (xs := [])) (fun _ => true) (fun v => .bl (isCntV v)) hD (fun _ _ => sq _) (by decide) (fun x hx => by cases hx) (fun H2 s2 h2 => ?_)
      refine ⟨D, [], rfl, SqL.of h2, true, rfl, ?_⟩
      try simp only [tSeq, tNext, tRet, tRetN, tAsg, gName, gSub, tDrop, tIfS, tOp, tUn, tCB, tCons, tNil, tC, tVar, rI, rI0, rU, tAnd, tOr, tNot, tAndV, tOrV, tNotV, tIf, tTest, tB, tCall, tChain, tLst, tTup, tYes, rIxH, rIsB, rIsBT, rMulS, kd_non, kd_bl, kd_int, kd_str, kd_ref, kdO_lst, kdO_tup, kdO_dK, nq_n, nq_b, nq_i, nq_s, nq_l, nq_t, nq_d, ne_eq, not_false_eq_true, kit_ss, kit_ns, kit_bs, kit_is, kit_ls, kit_ts, kit_ds, kit_bb, V.ty.injEq, and_assoc, rIxU, rLenH, rLenU, rLenS, rInt1, rSetL, rEq, rNe, rCat, L2.start, List.map, List.length, List.length_cons, List.length_nil, List.replicate, List.getElem?_cons_zero, List.getElem?_cons_succ, List.set_cons_zero, List.set_cons_succ, List.set_nil, List.cons_append, List.nil_append, List.append_nil, Option.some.injEq, V.int.injEq, V.ref.injEq, V.str.injEq, V.bl.injEq, HO.lst.injEq, HO.tup.injEq, exists_eq_left', exists_and_left, exists_eq_left, List.cons.injEq, and_true, true_and, and_false, false_and, and_self, reduceCtorEq, exists_false, or_false, false_or, exists_const, at0, at1, at2, at3, at4, at5, ix51, ix52, ix54, upd_same, Nat.reduceAdd, Nat.reduceSub, Nat.zero_add, Int.reduceToNat, Int.reduceLE, Int.reduceLT, decide_eq_true_eq, Bool.not_eq_true, if_true, if_false, Bool.false_eq_true, ite_true, ite_false, Bool.not_true, Bool.not_false, decide_true, decide_false, tFor_eq, tLc_eq, iList, iTup, iRng1, iRng2, iStr, tSl, tPart, tNoPart, rSlL, cxOf_K, wipe, ex_ty2, kit_LTl, kit_LTt, kit_LTd, kit_LTs, kit_LTn, kit_LTb, kit_LTi, tM1, rIxS, exists_eq', lt1p, tDNewK, rSlS, rEqNil, tLenSetI2]
      exact ⟨[], ⟨a, rfl, .inr (sq _)⟩, by decide, [], .inr (sq _), scal_int, k H2 (s_H1.trans s2)⟩
end
/-! ### Version.__init__ -/
theorem verF_put {l p : Addr} {n : Str} : putF "kept_author" (.str n) (putF "kept_parents" (.ref p) (putF "kept_lines" (.ref l) [])) = verF l p n := by
  show putF "kept_author" (.str n) (if ("kept_lines" : Str) = "kept_parents" then _ else (("kept_lines" : Str), V.ref l) :: [("kept_parents", .ref p)]) = _
  rw [if_neg (by decide +kernel)]
  show (if ("kept_lines" : Str) = "kept_author" then _ else (("kept_lines" : Str), V.ref l) :: (if ("kept_parents" : Str) = "kept_author" then _ else (("kept_parents" : Str), V.ref p) :: [("kept_author", .str n)])) = _
  rw [if_neg (by decide +kernel), if_neg (by decide +kernel)]
  rfl
theorem putF_len (k : Str) (v : V) : ∀ fs : List (Str × V), (putF k v fs).length ≤ fs.length + 1
  | [] => Nat.le_refl _
  | (k', v') :: r => by
    have ih := putF_len k v r
    unfold putF
    by_cases h : k' = k
    · rw [if_pos h]
      simp
    · rw [if_neg h, List.length_cons, List.length_cons]
      omega
/-- a thing whose items, if it has some, are things -/
def Thq (H : Hp) (v : V) : Prop := Thg H v ∧ ∀ xs, seqV H v = some xs → xs.length ≤ 1000 ∧ ∀ x ∈ xs, Thg H x
theorem Thq.mono {H H' : Hp} {v : V} (s : Same H H') (h : Thq H v) : Thq H' v ∧ seqV H' v = seqV H v := by
  obtain ⟨h1, h2⟩ := h
  have e : seqV H' v = seqV H v := by
    cases h1 with
    | lst e => show seqO (H' _) = seqO (H _); rw [e, s _ _ e]
    | tup e => show seqO (H' _) = seqO (H _); rw [e, s _ _ e]
    | dic e => show seqO (H' _) = seqO (H _); rw [e, s _ _ e]
    | _ => rfl
  exact ⟨⟨h1.mono s, fun xs hx => ⟨(h2 xs (e ▸ hx)).1, fun x m => ((h2 xs (e ▸ hx)).2 x m).mono s⟩⟩, e⟩
/-- the parents handed: things that are such, or the default -/
def ParOk (K : PySem.W.Frag) (H : Hp) (v : V) (qs : List Int) : Prop := (Thq H v ∧ seqV H v = some (qs.map V.int) ∧ parL (qs.map V.int) = true) ∨ (∃ a, v = .ref a ∧ KT0 K a ∧ qs = [])
theorem text_mono {H H' : Hp} {v : V} (s : Same H H') (h : Thq H v) : isTextV H' v = isTextV H v := by
  unfold isTextV
  rw [(h.mono s).2]
theorem par_mono {H H' : Hp} {v : V} (s : Same H H') (h : Thq H v) : isParV H' v = isParV H v := by
  unfold isParV
  rw [(h.mono s).2]
def spVer (K : PySem.W.Frag) (C NT NP NN : Addr) : Sp := fun vs H Q E => ∃ x dx g pv nv, H x = some (.ins C dx []) ∧ vs = [.ref x, g, pv, nv] ∧ Thq H g ∧
  ((isTextV H g = false ∧ ∀ H' d, Same H H' → H' d = some (.xd [("value", g)]) → E (.ref NT) (some d) H') ∨
   (isTextV H g = true ∧ Thq H pv ∧ isParV H pv = false ∧ ∀ H' d, Same H H' → H' d = some (.xd [("value", pv)]) → E (.ref NP) (some d) H') ∨
   (isTextV H g = true ∧ (∃ qs, ParOk K H pv qs) ∧ Thg H nv ∧ isNameV nv = false ∧ ∀ H' d, Same H H' → H' d = some (.xd [("value", nv)]) → E (.ref NN) (some d) H') ∨
   (∃ (ls : List Str) (qs : List Int) (n : Str), seqV H g = some (ls.map V.str) ∧ isTextV H g = true ∧ ParOk K H pv qs ∧ nv = .str n ∧ Sm n ∧ isNameV nv = true ∧
     ∀ H' l p (ps : List Int), (∀ c o, c ≠ x → H c = some o → H' c = some o) → H' x = some (.ins C dx (verF l p n)) → H' l = some (.tup (ls.map V.str)) → H' p = some (.tup (ps.map V.int)) → ps.Pairwise (· < ·) → (∀ k : Int, k ∈ ps ↔ k ∈ qs) → Q .non H'))
section
variable {w : World} {K : PySem.W.Frag} {mg : Str → Option Value} {base : Heap} {A : Adr}
theorem ParOk.mono {H H' : Hp} {v : V} {qs : List Int} (s : Same H H') (h : ParOk K H v qs) : ParOk K H' v qs := by
  rcases h with ⟨h1, h2, h3⟩ | h
  · exact .inl ⟨(h1.mono s).1, by rw [(h1.mono s).2]; exact h2, h3⟩
  · exact .inr h
theorem ParOk.call {H : Hp} {v : V} {qs : List Int} (h : ParOk K H v qs) {Q : VK} {E : XK} (k : ∀ H', Same H H' → Q (.bl true) H') : spPar K [v] H Q E := by
  rcases h with ⟨h1, h2, h3⟩ | ⟨a, rfl, h, _⟩
  · refine ⟨v, rfl, .inl ⟨h1.1, h1.2, ?_⟩⟩
    rw [par_of h2, h3]
    exact k
  · exact ⟨_, rfl, .inr ⟨a, rfl, h, k⟩⟩
theorem ParOk.sq {H : Hp} {v : V} {qs : List Int} (h : ParOk K H v qs) : SqI K H v qs ∧ qs.length ≤ 3 := by
  rcases h with ⟨h1, h2, h3⟩ | ⟨a, rfl, h, rfl⟩
  · have hl : qs.length ≤ 3 := by
      unfold parL at h3
      rw [Bool.and_eq_true, Bool.and_eq_true, List.length_map] at h3
      exact of_decide_eq_true h3.1.1
    refine ⟨?_, hl⟩
    obtain ⟨h1, _⟩ := h1
    cases h1 with
    | lst e =>
      have h2 : seqO (H _) = _ := h2
      rw [e] at h2
      injection h2 with h2
      subst h2
      exact ⟨_, rfl, .inl (SqL.of e)⟩
    | tup e =>
      have h2 : seqO (H _) = _ := h2
      rw [e] at h2
      injection h2 with h2
      subst h2
      exact ⟨_, rfl, .inr (SqT.of e)⟩
    | dic e =>
      have h2 : seqO (H _) = _ := h2
      rw [e] at h2
      cases h2
    | _ => cases h2
  · exact ⟨⟨a, rfl, .inr (h.sq _)⟩, by decide⟩
theorem ok_ver (T : Txt K mg A) (gIsText : FnOk PW w K mg base CX0 3 A.a_IsText A.d_IsText ["value"] spIsText) (gAreParents : FnOk PW w K mg base CX0 3 A.a_AreParents A.d_AreParents ["value"] (spPar K)) (gIsName : FnOk PW w K mg base CX0 1 A.a_IsName A.d_IsName ["value"] spIsNameT) :
    FnOk PW w K mg base (L2.CX PW w) 4 A.a_VersionInit A.d_VersionInit ["self", "lines", "parents", "author"] (spVer K A.k_Version A.k_InvalidText A.k_InvalidParents A.k_InvalidName) := by
  refine T.f_VersionInit.ok (CX := L2.CX PW w) scVersionInit (fun vs H Q E h => ?_) (fun cdv A' outer s H vs Q E hr h => ?_)
  · obtain ⟨x, dx, g, pv, nv, _, rfl, _⟩ := h
    rfl
  · refine ⟨_, (pss_cons (ps_if (pt_not (pt_val (pe_call gIsText (hr.mono (by decide)) (by rfl) T.m_IsText T.f_IsText.kp T.b_IsText .nil pass0 (pa_cons (pv 1) pa_nil)))) (pss_one (ps_raiseX rfl T.x_InvalidText hr (takes_of rfl rfl rfl rfl) (pa_cons (pv 1) pa_nil) (by rfl))) pss_nil)
      (pss_cons (ps_if (pt_not (pt_val (pe_call gAreParents (hr.mono (by decide)) (by rfl) T.m_AreParents T.f_AreParents.kp T.b_AreParents .nil pass0 (pa_cons (pv 2) pa_nil)))) (pss_one (ps_raiseX rfl T.x_InvalidParents hr (takes_of rfl rfl rfl rfl) (pa_cons (pv 2) pa_nil) (by rfl))) pss_nil)
      (pss_cons (ps_if (pt_not (pt_val (pe_call gIsName (hr.mono (by decide)) (by rfl) T.m_IsName T.f_IsName.kp T.b_IsName .nil pass0 (pa_cons (pv 3) pa_nil)))) (pss_one (ps_raiseX rfl T.x_InvalidName hr (takes_of rfl rfl rfl rfl) (pa_cons (pv 3) pa_nil) (by rfl))) pss_nil)
      (pss_cons (ps_fld (pv 0) (pe_callTy call_tuple_of (by rfl) T.z_tuple (by decide +kernel) (pa_cons (pv 1) pa_nil)) rfl)
      (pss_cons (ps_fld (pv 0) (pe_callTy call_tuple_of (by rfl) T.z_tuple (by decide +kernel) (pa_cons (pe_sortSetI2 rfl (by rfl) T.z_sorted (by rfl) T.z_set (pv 2)) pa_nil)) rfl)
      (pss_one (ps_fld (pv 0) (pv 3) rfl))))))), ?_⟩
    obtain ⟨x, dx, g, pv, nv, hx, rfl, tg, h⟩ := h
    rcases h with ⟨hg, k⟩ | ⟨hg, tp, hp, k⟩ | ⟨hg, ⟨qs, hp⟩, tn, hn, k⟩ | ⟨ls, qs, n, hl, hg, hp, rfl, sn, hn, k⟩
    · try simp only [tSeq, tNext, tRet, tRetN, tAsg, gName, gSub, tDrop, tIfS, tOp, tUn, tCB, tCons, tNil, tC, tVar, rI, rI0, rU, tAnd, tOr, tNot, tAndV, tOrV, tNotV, tIf, tTest, tB, tCall, tChain, tLst, tTup, tYes, rIxH, rIsB, rIsBT, rMulS, kd_non, kd_bl, kd_int, kd_str, kd_ref, kdO_lst, kdO_tup, kdO_dK, nq_n, nq_b, nq_i, nq_s, nq_l, nq_t, nq_d, ne_eq, not_false_eq_true, kit_ss, kit_ns, kit_bs, kit_is, kit_ls, kit_ts, kit_ds, kit_bb, V.ty.injEq, and_assoc, rIxU, rLenH, rLenU, rLenS, rInt1, rSetL, rEq, rNe, rCat, L2.start, List.map, List.length, List.length_cons, List.length_nil, List.replicate, List.getElem?_cons_zero, List.getElem?_cons_succ, List.set_cons_zero, List.set_cons_succ, List.set_nil, List.cons_append, List.nil_append, List.append_nil, Option.some.injEq, V.int.injEq, V.ref.injEq, V.str.injEq, V.bl.injEq, HO.lst.injEq, HO.tup.injEq, exists_eq_left', exists_and_left, exists_eq_left, List.cons.injEq, and_true, true_and, and_false, false_and, and_self, reduceCtorEq, exists_false, or_false, false_or, exists_const, at0, at1, at2, at3, at4, at5, ix51, ix52, ix54, upd_same, Nat.reduceAdd, Nat.reduceSub, Nat.zero_add, Int.reduceToNat, Int.reduceLE, Int.reduceLT, decide_eq_true_eq, Bool.not_eq_true, if_true, if_false, Bool.false_eq_true, ite_true, ite_false, Bool.not_true, Bool.not_false, decide_true, decide_false, tFor_eq, tLc_eq, iList, iTup, iRng1, iRng2, iStr, tSl, tPart, tNoPart, rSlL, cxOf_K, wipe, ex_ty2, kit_LTl, kit_LTt, kit_LTd, kit_LTs, kit_LTn, kit_LTb, kit_LTi, tM1, rIxS, exists_eq', lt1p, tDNewK, rSlS, rEqNil, nox_K]
      refine ⟨g, rfl, tg.1, tg.2, fun H1 s1 => ?_⟩
      try simp only [tSeq, tNext, tRet, tRetN, tAsg, gName, gSub, tDrop, tIfS, tOp, tUn, tCB, tCons, tNil, tC, tVar, rI, rI0, rU, tAnd, tOr, tNot, tAndV, tOrV, tNotV, tIf, tTest, tB, tCall, tChain, tLst, tTup, tYes, rIxH, rIsB, rIsBT, rMulS, kd_non, kd_bl, kd_int, kd_str, kd_ref, kdO_lst, kdO_tup, kdO_dK, nq_n, nq_b, nq_i, nq_s, nq_l, nq_t, nq_d, ne_eq, not_false_eq_true, kit_ss, kit_ns, kit_bs, kit_is, kit_ls, kit_ts, kit_ds, kit_bb, V.ty.injEq, and_assoc, rIxU, rLenH, rLenU, rLenS, rInt1, rSetL, rEq, rNe, rCat, L2.start, List.map, List.length, List.length_cons, List.length_nil, List.replicate, List.getElem?_cons_zero, List.getElem?_cons_succ, List.set_cons_zero, List.set_cons_succ, List.set_nil, List.cons_append, List.nil_append, List.append_nil, Option.some.injEq, V.int.injEq, V.ref.injEq, V.str.injEq, V.bl.injEq, HO.lst.injEq, HO.tup.injEq, exists_eq_left', exists_and_left, exists_eq_left, List.cons.injEq, and_true, true_and, and_false, false_and, and_self, reduceCtorEq, exists_false, or_false, false_or, exists_const, at0, at1, at2, at3, at4, at5, ix51, ix52, ix54, upd_same, Nat.reduceAdd, Nat.reduceSub, Nat.zero_add, Int.reduceToNat, Int.reduceLE, Int.reduceLT, decide_eq_true_eq, Bool.not_eq_true, if_true, if_false, Bool.false_eq_true, ite_true, ite_false, Bool.not_true, Bool.not_false, decide_true, decide_false, tFor_eq, tLc_eq, iList, iTup, iRng1, iRng2, iStr, tSl, tPart, tNoPart, rSlL, cxOf_K, wipe, ex_ty2, kit_LTl, kit_LTt, kit_LTd, kit_LTs, kit_LTn, kit_LTb, kit_LTi, tM1, rIxS, exists_eq', lt1p, tDNewK, rSlS, rEqNil, nox_K, hg, tRaiseX, tMkX]
      exact fun d hd => k _ d (s1.trans (same_new hd)) upd_same
    · try simp only [tSeq, tNext, tRet, tRetN, tAsg, gName, gSub, tDrop, tIfS, tOp, tUn, tCB, tCons, tNil, tC, tVar, rI, rI0, rU, tAnd, tOr, tNot, tAndV, tOrV, tNotV, tIf, tTest, tB, tCall, tChain, tLst, tTup, tYes, rIxH, rIsB, rIsBT, rMulS, kd_non, kd_bl, kd_int, kd_str, kd_ref, kdO_lst, kdO_tup, kdO_dK, nq_n, nq_b, nq_i, nq_s, nq_l, nq_t, nq_d, ne_eq, not_false_eq_true, kit_ss, kit_ns, kit_bs, kit_is, kit_ls, kit_ts, kit_ds, kit_bb, V.ty.injEq, and_assoc, rIxU, rLenH, rLenU, rLenS, rInt1, rSetL, rEq, rNe, rCat, L2.start, List.map, List.length, List.length_cons, List.length_nil, List.replicate, List.getElem?_cons_zero, List.getElem?_cons_succ, List.set_cons_zero, List.set_cons_succ, List.set_nil, List.cons_append, List.nil_append, List.append_nil, Option.some.injEq, V.int.injEq, V.ref.injEq, V.str.injEq, V.bl.injEq, HO.lst.injEq, HO.tup.injEq, exists_eq_left', exists_and_left, exists_eq_left, List.cons.injEq, and_true, true_and, and_false, false_and, and_self, reduceCtorEq, exists_false, or_false, false_or, exists_const, at0, at1, at2, at3, at4, at5, ix51, ix52, ix54, upd_same, Nat.reduceAdd, Nat.reduceSub, Nat.zero_add, Int.reduceToNat, Int.reduceLE, Int.reduceLT, decide_eq_true_eq, Bool.not_eq_true, if_true, if_false, Bool.false_eq_true, ite_true, ite_false, Bool.not_true, Bool.not_false, decide_true, decide_false, tFor_eq, tLc_eq, iList, iTup, iRng1, iRng2, iStr, tSl, tPart, tNoPart, rSlL, cxOf_K, wipe, ex_ty2, kit_LTl, kit_LTt, kit_LTd, kit_LTs, kit_LTn, kit_LTb, kit_LTi, tM1, rIxS, exists_eq', lt1p, tDNewK, rSlS, rEqNil, nox_K]
      refine ⟨g, rfl, tg.1, tg.2, fun H1 s1 => ?_⟩
      try simp only [tSeq, tNext, tRet, tRetN, tAsg, gName, gSub, tDrop, tIfS, tOp, tUn, tCB, tCons, tNil, tC, tVar, rI, rI0, rU, tAnd, tOr, tNot, tAndV, tOrV, tNotV, tIf, tTest, tB, tCall, tChain, tLst, tTup, tYes, rIxH, rIsB, rIsBT, rMulS, kd_non, kd_bl, kd_int, kd_str, kd_ref, kdO_lst, kdO_tup, kdO_dK, nq_n, nq_b, nq_i, nq_s, nq_l, nq_t, nq_d, ne_eq, not_false_eq_true, kit_ss, kit_ns, kit_bs, kit_is, kit_ls, kit_ts, kit_ds, kit_bb, V.ty.injEq, and_assoc, rIxU, rLenH, rLenU, rLenS, rInt1, rSetL, rEq, rNe, rCat, L2.start, List.map, List.length, List.length_cons, List.length_nil, List.replicate, List.getElem?_cons_zero, List.getElem?_cons_succ, List.set_cons_zero, List.set_cons_succ, List.set_nil, List.cons_append, List.nil_append, List.append_nil, Option.some.injEq, V.int.injEq, V.ref.injEq, V.str.injEq, V.bl.injEq, HO.lst.injEq, HO.tup.injEq, exists_eq_left', exists_and_left, exists_eq_left, List.cons.injEq, and_true, true_and, and_false, false_and, and_self, reduceCtorEq, exists_false, or_false, false_or, exists_const, at0, at1, at2, at3, at4, at5, ix51, ix52, ix54, upd_same, Nat.reduceAdd, Nat.reduceSub, Nat.zero_add, Int.reduceToNat, Int.reduceLE, Int.reduceLT, decide_eq_true_eq, Bool.not_eq_true, if_true, if_false, Bool.false_eq_true, ite_true, ite_false, Bool.not_true, Bool.not_false, decide_true, decide_false, tFor_eq, tLc_eq, iList, iTup, iRng1, iRng2, iStr, tSl, tPart, tNoPart, rSlL, cxOf_K, wipe, ex_ty2, kit_LTl, kit_LTt, kit_LTd, kit_LTs, kit_LTn, kit_LTb, kit_LTi, tM1, rIxS, exists_eq', lt1p, tDNewK, rSlS, rEqNil, nox_K, hg]
      have tp1 := (tp.mono s1).1
      refine ⟨pv, rfl, .inl ⟨tp1.1, tp1.2, fun H2 s2 => ?_⟩⟩
      rw [par_mono s1 tp, hp]
      try simp only [tSeq, tNext, tRet, tRetN, tAsg, gName, gSub, tDrop, tIfS, tOp, tUn, tCB, tCons, tNil, tC, tVar, rI, rI0, rU, tAnd, tOr, tNot, tAndV, tOrV, tNotV, tIf, tTest, tB, tCall, tChain, tLst, tTup, tYes, rIxH, rIsB, rIsBT, rMulS, kd_non, kd_bl, kd_int, kd_str, kd_ref, kdO_lst, kdO_tup, kdO_dK, nq_n, nq_b, nq_i, nq_s, nq_l, nq_t, nq_d, ne_eq, not_false_eq_true, kit_ss, kit_ns, kit_bs, kit_is, kit_ls, kit_ts, kit_ds, kit_bb, V.ty.injEq, and_assoc, rIxU, rLenH, rLenU, rLenS, rInt1, rSetL, rEq, rNe, rCat, L2.start, List.map, List.length, List.length_cons, List.length_nil, List.replicate, List.getElem?_cons_zero, List.getElem?_cons_succ, List.set_cons_zero, List.set_cons_succ, List.set_nil, List.cons_append, List.nil_append, List.append_nil, Option.some.injEq, V.int.injEq, V.ref.injEq, V.str.injEq, V.bl.injEq, HO.lst.injEq, HO.tup.injEq, exists_eq_left', exists_and_left, exists_eq_left, List.cons.injEq, and_true, true_and, and_false, false_and, and_self, reduceCtorEq, exists_false, or_false, false_or, exists_const, at0, at1, at2, at3, at4, at5, ix51, ix52, ix54, upd_same, Nat.reduceAdd, Nat.reduceSub, Nat.zero_add, Int.reduceToNat, Int.reduceLE, Int.reduceLT, decide_eq_true_eq, Bool.not_eq_true, if_true, if_false, Bool.false_eq_true, ite_true, ite_false, Bool.not_true, Bool.not_false, decide_true, decide_false, tFor_eq, tLc_eq, iList, iTup, iRng1, iRng2, iStr, tSl, tPart, tNoPart, rSlL, cxOf_K, wipe, ex_ty2, kit_LTl, kit_LTt, kit_LTd, kit_LTs, kit_LTn, kit_LTb, kit_LTi, tM1, rIxS, exists_eq', lt1p, tDNewK, rSlS, rEqNil, nox_K, tRaiseX, tMkX]
      exact fun d hd => k _ d (s1.trans (s2.trans (same_new hd))) upd_same
    · try simp only [tSeq, tNext, tRet, tRetN, tAsg, gName, gSub, tDrop, tIfS, tOp, tUn, tCB, tCons, tNil, tC, tVar, rI, rI0, rU, tAnd, tOr, tNot, tAndV, tOrV, tNotV, tIf, tTest, tB, tCall, tChain, tLst, tTup, tYes, rIxH, rIsB, rIsBT, rMulS, kd_non, kd_bl, kd_int, kd_str, kd_ref, kdO_lst, kdO_tup, kdO_dK, nq_n, nq_b, nq_i, nq_s, nq_l, nq_t, nq_d, ne_eq, not_false_eq_true, kit_ss, kit_ns, kit_bs, kit_is, kit_ls, kit_ts, kit_ds, kit_bb, V.ty.injEq, and_assoc, rIxU, rLenH, rLenU, rLenS, rInt1, rSetL, rEq, rNe, rCat, L2.start, List.map, List.length, List.length_cons, List.length_nil, List.replicate, List.getElem?_cons_zero, List.getElem?_cons_succ, List.set_cons_zero, List.set_cons_succ, List.set_nil, List.cons_append, List.nil_append, List.append_nil, Option.some.injEq, V.int.injEq, V.ref.injEq, V.str.injEq, V.bl.injEq, HO.lst.injEq, HO.tup.injEq, exists_eq_left', exists_and_left, exists_eq_left, List.cons.injEq, and_true, true_and, and_false, false_and, and_self, reduceCtorEq, exists_false, or_false, false_or, exists_const, at0, at1, at2, at3, at4, at5, ix51, ix52, ix54, upd_same, Nat.reduceAdd, Nat.reduceSub, Nat.zero_add, Int.reduceToNat, Int.reduceLE, Int.reduceLT, decide_eq_true_eq, Bool.not_eq_true, if_true, if_false, Bool.false_eq_true, ite_true, ite_false, Bool.not_true, Bool.not_false, decide_true, decide_false, tFor_eq, tLc_eq, iList, iTup, iRng1, iRng2, iStr, tSl, tPart, tNoPart, rSlL, cxOf_K, wipe, ex_ty2, kit_LTl, kit_LTt, kit_LTd, kit_LTs, kit_LTn, kit_LTb, kit_LTi, tM1, rIxS, exists_eq', lt1p, tDNewK, rSlS, rEqNil, nox_K]
      refine ⟨g, rfl, tg.1, tg.2, fun H1 s1 => ?_⟩
      try simp only [tSeq, tNext, tRet, tRetN, tAsg, gName, gSub, tDrop, tIfS, tOp, tUn, tCB, tCons, tNil, tC, tVar, rI, rI0, rU, tAnd, tOr, tNot, tAndV, tOrV, tNotV, tIf, tTest, tB, tCall, tChain, tLst, tTup, tYes, rIxH, rIsB, rIsBT, rMulS, kd_non, kd_bl, kd_int, kd_str, kd_ref, kdO_lst, kdO_tup, kdO_dK, nq_n, nq_b, nq_i, nq_s, nq_l, nq_t, nq_d, ne_eq, not_false_eq_true, kit_ss, kit_ns, kit_bs, kit_is, kit_ls, kit_ts, kit_ds, kit_bb, V.ty.injEq, and_assoc, rIxU, rLenH, rLenU, rLenS, rInt1, rSetL, rEq, rNe, rCat, L2.start, List.map, List.length, List.length_cons, List.length_nil, List.replicate, List.getElem?_cons_zero, List.getElem?_cons_succ, List.set_cons_zero, List.set_cons_succ, List.set_nil, List.cons_append, List.nil_append, List.append_nil, Option.some.injEq, V.int.injEq, V.ref.injEq, V.str.injEq, V.bl.injEq, HO.lst.injEq, HO.tup.injEq, exists_eq_left', exists_and_left, exists_eq_left, List.cons.injEq, and_true, true_and, and_false, false_and, and_self, reduceCtorEq, exists_false, or_false, false_or, exists_const, at0, at1, at2, at3, at4, at5, ix51, ix52, ix54, upd_same, Nat.reduceAdd, Nat.reduceSub, Nat.zero_add, Int.reduceToNat, Int.reduceLE, Int.reduceLT, decide_eq_true_eq, Bool.not_eq_true, if_true, if_false, Bool.false_eq_true, ite_true, ite_false, Bool.not_true, Bool.not_false, decide_true, decide_false, tFor_eq, tLc_eq, iList, iTup, iRng1, iRng2, iStr, tSl, tPart, tNoPart, rSlL, cxOf_K, wipe, ex_ty2, kit_LTl, kit_LTt, kit_LTd, kit_LTs, kit_LTn, kit_LTb, kit_LTi, tM1, rIxS, exists_eq', lt1p, tDNewK, rSlS, rEqNil, nox_K, hg]
      refine (hp.mono s1).call fun H2 s2 => ?_
      try simp only [tSeq, tNext, tRet, tRetN, tAsg, gName, gSub, tDrop, tIfS, tOp, tUn, tCB, tCons, tNil, tC, tVar, rI, rI0, rU, tAnd, tOr, tNot, tAndV, tOrV, tNotV, tIf, tTest, tB, tCall, tChain, tLst, tTup, tYes, rIxH, rIsB, rIsBT, rMulS, kd_non, kd_bl, kd_int, kd_str, kd_ref, kdO_lst, kdO_tup, kdO_dK, nq_n, nq_b, nq_i, nq_s, nq_l, nq_t, nq_d, ne_eq, not_false_eq_true, kit_ss, kit_ns, kit_bs, kit_is, kit_ls, kit_ts, kit_ds, kit_bb, V.ty.injEq, and_assoc, rIxU, rLenH, rLenU, rLenS, rInt1, rSetL, rEq, rNe, rCat, L2.start, List.map, List.length, List.length_cons, List.length_nil, List.replicate, List.getElem?_cons_zero, List.getElem?_cons_succ, List.set_cons_zero, List.set_cons_succ, List.set_nil, List.cons_append, List.nil_append, List.append_nil, Option.some.injEq, V.int.injEq, V.ref.injEq, V.str.injEq, V.bl.injEq, HO.lst.injEq, HO.tup.injEq, exists_eq_left', exists_and_left, exists_eq_left, List.cons.injEq, and_true, true_and, and_false, false_and, and_self, reduceCtorEq, exists_false, or_false, false_or, exists_const, at0, at1, at2, at3, at4, at5, ix51, ix52, ix54, upd_same, Nat.reduceAdd, Nat.reduceSub, Nat.zero_add, Int.reduceToNat, Int.reduceLE, Int.reduceLT, decide_eq_true_eq, Bool.not_eq_true, if_true, if_false, Bool.false_eq_true, ite_true, ite_false, Bool.not_true, Bool.not_false, decide_true, decide_false, tFor_eq, tLc_eq, iList, iTup, iRng1, iRng2, iStr, tSl, tPart, tNoPart, rSlL, cxOf_K, wipe, ex_ty2, kit_LTl, kit_LTt, kit_LTd, kit_LTs, kit_LTn, kit_LTb, kit_LTi, tM1, rIxS, exists_eq', lt1p, tDNewK, rSlS, rEqNil, nox_K]
      refine ⟨nv, rfl, (tn.mono s1).mono s2, fun H3 s3 => ?_⟩
      rw [hn]
      try simp only [tSeq, tNext, tRet, tRetN, tAsg, gName, gSub, tDrop, tIfS, tOp, tUn, tCB, tCons, tNil, tC, tVar, rI, rI0, rU, tAnd, tOr, tNot, tAndV, tOrV, tNotV, tIf, tTest, tB, tCall, tChain, tLst, tTup, tYes, rIxH, rIsB, rIsBT, rMulS, kd_non, kd_bl, kd_int, kd_str, kd_ref, kdO_lst, kdO_tup, kdO_dK, nq_n, nq_b, nq_i, nq_s, nq_l, nq_t, nq_d, ne_eq, not_false_eq_true, kit_ss, kit_ns, kit_bs, kit_is, kit_ls, kit_ts, kit_ds, kit_bb, V.ty.injEq, and_assoc, rIxU, rLenH, rLenU, rLenS, rInt1, rSetL, rEq, rNe, rCat, L2.start, List.map, List.length, List.length_cons, List.length_nil, List.replicate, List.getElem?_cons_zero, List.getElem?_cons_succ, List.set_cons_zero, List.set_cons_succ, List.set_nil, List.cons_append, List.nil_append, List.append_nil, Option.some.injEq, V.int.injEq, V.ref.injEq, V.str.injEq, V.bl.injEq, HO.lst.injEq, HO.tup.injEq, exists_eq_left', exists_and_left, exists_eq_left, List.cons.injEq, and_true, true_and, and_false, false_and, and_self, reduceCtorEq, exists_false, or_false, false_or, exists_const, at0, at1, at2, at3, at4, at5, ix51, ix52, ix54, upd_same, Nat.reduceAdd, Nat.reduceSub, Nat.zero_add, Int.reduceToNat, Int.reduceLE, Int.reduceLT, decide_eq_true_eq, Bool.not_eq_true, if_true, if_false, Bool.false_eq_true, ite_true, ite_false, Bool.not_true, Bool.not_false, decide_true, decide_false, tFor_eq, tLc_eq, iList, iTup, iRng1, iRng2, iStr, tSl, tPart, tNoPart, rSlL, cxOf_K, wipe, ex_ty2, kit_LTl, kit_LTt, kit_LTd, kit_LTs, kit_LTn, kit_LTb, kit_LTi, tM1, rIxS, exists_eq', lt1p, tDNewK, rSlS, rEqNil, nox_K, tRaiseX, tMkX]
      exact fun d hd => k _ d (s1.trans (s2.trans (s3.trans (same_new hd)))) upd_same
    · refine seq_gen fun N eN => ?_
      try simp only [tSeq, tNext, tRet, tRetN, tAsg, gName, gSub, tDrop, tIfS, tOp, tUn, tCB, tCons, tNil, tC, tVar, rI, rI0, rU, tAnd, tOr, tNot, tAndV, tOrV, tNotV, tIf, tTest, tB, tCall, tChain, tLst, tTup, tYes, rIxH, rIsB, rIsBT, rMulS, kd_non, kd_bl, kd_int, kd_str, kd_ref, kdO_lst, kdO_tup, kdO_dK, nq_n, nq_b, nq_i, nq_s, nq_l, nq_t, nq_d, ne_eq, not_false_eq_true, kit_ss, kit_ns, kit_bs, kit_is, kit_ls, kit_ts, kit_ds, kit_bb, V.ty.injEq, and_assoc, rIxU, rLenH, rLenU, rLenS, rInt1, rSetL, rEq, rNe, rCat, L2.start, List.map, List.length, List.length_cons, List.length_nil, List.replicate, List.getElem?_cons_zero, List.getElem?_cons_succ, List.set_cons_zero, List.set_cons_succ, List.set_nil, List.cons_append, List.nil_append, List.append_nil, Option.some.injEq, V.int.injEq, V.ref.injEq, V.str.injEq, V.bl.injEq, HO.lst.injEq, HO.tup.injEq, exists_eq_left', exists_and_left, exists_eq_left, List.cons.injEq, and_true, true_and, and_false, false_and, and_self, reduceCtorEq, exists_false, or_false, false_or, exists_const, at0, at1, at2, at3, at4, at5, ix51, ix52, ix54, upd_same, Nat.reduceAdd, Nat.reduceSub, Nat.zero_add, Int.reduceToNat, Int.reduceLE, Int.reduceLT, decide_eq_true_eq, Bool.not_eq_true, if_true, if_false, Bool.false_eq_true, ite_true, ite_false, Bool.not_true, Bool.not_false, decide_true, decide_false, tFor_eq, tLc_eq, iList, iTup, iRng1, iRng2, iStr, tSl, tPart, tNoPart, rSlL, cxOf_K, wipe, ex_ty2, kit_LTl, kit_LTt, kit_LTd, kit_LTs, kit_LTn, kit_LTb, kit_LTi, tM1, rIxS, exists_eq', lt1p, tDNewK, rSlS, rEqNil, nox_K]
      refine ⟨g, rfl, tg.1, tg.2, fun H1 s1 => ?_⟩
      try simp only [tSeq, tNext, tRet, tRetN, tAsg, gName, gSub, tDrop, tIfS, tOp, tUn, tCB, tCons, tNil, tC, tVar, rI, rI0, rU, tAnd, tOr, tNot, tAndV, tOrV, tNotV, tIf, tTest, tB, tCall, tChain, tLst, tTup, tYes, rIxH, rIsB, rIsBT, rMulS, kd_non, kd_bl, kd_int, kd_str, kd_ref, kdO_lst, kdO_tup, kdO_dK, nq_n, nq_b, nq_i, nq_s, nq_l, nq_t, nq_d, ne_eq, not_false_eq_true, kit_ss, kit_ns, kit_bs, kit_is, kit_ls, kit_ts, kit_ds, kit_bb, V.ty.injEq, and_assoc, rIxU, rLenH, rLenU, rLenS, rInt1, rSetL, rEq, rNe, rCat, L2.start, List.map, List.length, List.length_cons, List.length_nil, List.replicate, List.getElem?_cons_zero, List.getElem?_cons_succ, List.set_cons_zero, List.set_cons_succ, List.set_nil, List.cons_append, List.nil_append, List.append_nil, Option.some.injEq, V.int.injEq, V.ref.injEq, V.str.injEq, V.bl.injEq, HO.lst.injEq, HO.tup.injEq, exists_eq_left', exists_and_left, exists_eq_left, List.cons.injEq, and_true, true_and, and_false, false_and, and_self, reduceCtorEq, exists_false, or_false, false_or, exists_const, at0, at1, at2, at3, at4, at5, ix51, ix52, ix54, upd_same, Nat.reduceAdd, Nat.reduceSub, Nat.zero_add, Int.reduceToNat, Int.reduceLE, Int.reduceLT, decide_eq_true_eq, Bool.not_eq_true, if_true, if_false, Bool.false_eq_true, ite_true, ite_false, Bool.not_true, Bool.not_false, decide_true, decide_false, tFor_eq, tLc_eq, iList, iTup, iRng1, iRng2, iStr, tSl, tPart, tNoPart, rSlL, cxOf_K, wipe, ex_ty2, kit_LTl, kit_LTt, kit_LTd, kit_LTs, kit_LTn, kit_LTb, kit_LTi, tM1, rIxS, exists_eq', lt1p, tDNewK, rSlS, rEqNil, nox_K, hg]
      rw [eN]
      clear eN N
      refine seq_gen fun N eN => ?_
      try simp only [tSeq, tNext, tRet, tRetN, tAsg, gName, gSub, tDrop, tIfS, tOp, tUn, tCB, tCons, tNil, tC, tVar, rI, rI0, rU, tAnd, tOr, tNot, tAndV, tOrV, tNotV, tIf, tTest, tB, tCall, tChain, tLst, tTup, tYes, rIxH, rIsB, rIsBT, rMulS, kd_non, kd_bl, kd_int, kd_str, kd_ref, kdO_lst, kdO_tup, kdO_dK, nq_n, nq_b, nq_i, nq_s, nq_l, nq_t, nq_d, ne_eq, not_false_eq_true, kit_ss, kit_ns, kit_bs, kit_is, kit_ls, kit_ts, kit_ds, kit_bb, V.ty.injEq, and_assoc, rIxU, rLenH, rLenU, rLenS, rInt1, rSetL, rEq, rNe, rCat, L2.start, List.map, List.length, List.length_cons, List.length_nil, List.replicate, List.getElem?_cons_zero, List.getElem?_cons_succ, List.set_cons_zero, List.set_cons_succ, List.set_nil, List.cons_append, List.nil_append, List.append_nil, Option.some.injEq, V.int.injEq, V.ref.injEq, V.str.injEq, V.bl.injEq, HO.lst.injEq, HO.tup.injEq, exists_eq_left', exists_and_left, exists_eq_left, List.cons.injEq, and_true, true_and, and_false, false_and, and_self, reduceCtorEq, exists_false, or_false, false_or, exists_const, at0, at1, at2, at3, at4, at5, ix51, ix52, ix54, upd_same, Nat.reduceAdd, Nat.reduceSub, Nat.zero_add, Int.reduceToNat, Int.reduceLE, Int.reduceLT, decide_eq_true_eq, Bool.not_eq_true, if_true, if_false, Bool.false_eq_true, ite_true, ite_false, Bool.not_true, Bool.not_false, decide_true, decide_false, tFor_eq, tLc_eq, iList, iTup, iRng1, iRng2, iStr, tSl, tPart, tNoPart, rSlL, cxOf_K, wipe, ex_ty2, kit_LTl, kit_LTt, kit_LTd, kit_LTs, kit_LTn, kit_LTb, kit_LTi, tM1, rIxS, exists_eq', lt1p, tDNewK, rSlS, rEqNil, nox_K]
      refine (hp.mono s1).call fun H2 s2 => ?_
      try simp only [tSeq, tNext, tRet, tRetN, tAsg, gName, gSub, tDrop, tIfS, tOp, tUn, tCB, tCons, tNil, tC, tVar, rI, rI0, rU, tAnd, tOr, tNot, tAndV, tOrV, tNotV, tIf, tTest, tB, tCall, tChain, tLst, tTup, tYes, rIxH, rIsB, rIsBT, rMulS, kd_non, kd_bl, kd_int, kd_str, kd_ref, kdO_lst, kdO_tup, kdO_dK, nq_n, nq_b, nq_i, nq_s, nq_l, nq_t, nq_d, ne_eq, not_false_eq_true, kit_ss, kit_ns, kit_bs, kit_is, kit_ls, kit_ts, kit_ds, kit_bb, V.ty.injEq, and_assoc, rIxU, rLenH, rLenU, rLenS, rInt1, rSetL, rEq, rNe, rCat, L2.start, List.map, List.length, List.length_cons, List.length_nil, List.replicate, List.getElem?_cons_zero, List.getElem?_cons_succ, List.set_cons_zero, List.set_cons_succ, List.set_nil, List.cons_append, List.nil_append, List.append_nil, Option.some.injEq, V.int.injEq, V.ref.injEq, V.str.injEq, V.bl.injEq, HO.lst.injEq, HO.tup.injEq, exists_eq_left', exists_and_left, exists_eq_left, List.cons.injEq, and_true, true_and, and_false, false_and, and_self, reduceCtorEq, exists_false, or_false, false_or, exists_const, at0, at1, at2, at3, at4, at5, ix51, ix52, ix54, upd_same, Nat.reduceAdd, Nat.reduceSub, Nat.zero_add, Int.reduceToNat, Int.reduceLE, Int.reduceLT, decide_eq_true_eq, Bool.not_eq_true, if_true, if_false, Bool.false_eq_true, ite_true, ite_false, Bool.not_true, Bool.not_false, decide_true, decide_false, tFor_eq, tLc_eq, iList, iTup, iRng1, iRng2, iStr, tSl, tPart, tNoPart, rSlL, cxOf_K, wipe, ex_ty2, kit_LTl, kit_LTt, kit_LTd, kit_LTs, kit_LTn, kit_LTb, kit_LTi, tM1, rIxS, exists_eq', lt1p, tDNewK, rSlS, rEqNil, nox_K]
      rw [eN]
      clear eN N
      refine seq_gen fun N eN => ?_
      try simp only [tSeq, tNext, tRet, tRetN, tAsg, gName, gSub, tDrop, tIfS, tOp, tUn, tCB, tCons, tNil, tC, tVar, rI, rI0, rU, tAnd, tOr, tNot, tAndV, tOrV, tNotV, tIf, tTest, tB, tCall, tChain, tLst, tTup, tYes, rIxH, rIsB, rIsBT, rMulS, kd_non, kd_bl, kd_int, kd_str, kd_ref, kdO_lst, kdO_tup, kdO_dK, nq_n, nq_b, nq_i, nq_s, nq_l, nq_t, nq_d, ne_eq, not_false_eq_true, kit_ss, kit_ns, kit_bs, kit_is, kit_ls, kit_ts, kit_ds, kit_bb, V.ty.injEq, and_assoc, rIxU, rLenH, rLenU, rLenS, rInt1, rSetL, rEq, rNe, rCat, L2.start, List.map, List.length, List.length_cons, List.length_nil, List.replicate, List.getElem?_cons_zero, List.getElem?_cons_succ, List.set_cons_zero, List.set_cons_succ, List.set_nil, List.cons_append, List.nil_append, List.append_nil, Option.some.injEq, V.int.injEq, V.ref.injEq, V.str.injEq, V.bl.injEq, HO.lst.injEq, HO.tup.injEq, exists_eq_left', exists_and_left, exists_eq_left, List.cons.injEq, and_true, true_and, and_false, false_and, and_self, reduceCtorEq, exists_false, or_false, false_or, exists_const, at0, at1, at2, at3, at4, at5, ix51, ix52, ix54, upd_same, Nat.reduceAdd, Nat.reduceSub, Nat.zero_add, Int.reduceToNat, Int.reduceLE, Int.reduceLT, decide_eq_true_eq, Bool.not_eq_true, if_true, if_false, Bool.false_eq_true, ite_true, ite_false, Bool.not_true, Bool.not_false, decide_true, decide_false, tFor_eq, tLc_eq, iList, iTup, iRng1, iRng2, iStr, tSl, tPart, tNoPart, rSlL, cxOf_K, wipe, ex_ty2, kit_LTl, kit_LTt, kit_LTd, kit_LTs, kit_LTn, kit_LTb, kit_LTi, tM1, rIxS, exists_eq', lt1p, tDNewK, rSlS, rEqNil, nox_K]
      refine ⟨_, rfl, .str sn, fun H3 s3 => ?_⟩
      rw [hn]
      try simp only [tSeq, tNext, tRet, tRetN, tAsg, gName, gSub, tDrop, tIfS, tOp, tUn, tCB, tCons, tNil, tC, tVar, rI, rI0, rU, tAnd, tOr, tNot, tAndV, tOrV, tNotV, tIf, tTest, tB, tCall, tChain, tLst, tTup, tYes, rIxH, rIsB, rIsBT, rMulS, kd_non, kd_bl, kd_int, kd_str, kd_ref, kdO_lst, kdO_tup, kdO_dK, nq_n, nq_b, nq_i, nq_s, nq_l, nq_t, nq_d, ne_eq, not_false_eq_true, kit_ss, kit_ns, kit_bs, kit_is, kit_ls, kit_ts, kit_ds, kit_bb, V.ty.injEq, and_assoc, rIxU, rLenH, rLenU, rLenS, rInt1, rSetL, rEq, rNe, rCat, L2.start, List.map, List.length, List.length_cons, List.length_nil, List.replicate, List.getElem?_cons_zero, List.getElem?_cons_succ, List.set_cons_zero, List.set_cons_succ, List.set_nil, List.cons_append, List.nil_append, List.append_nil, Option.some.injEq, V.int.injEq, V.ref.injEq, V.str.injEq, V.bl.injEq, HO.lst.injEq, HO.tup.injEq, exists_eq_left', exists_and_left, exists_eq_left, List.cons.injEq, and_true, true_and, and_false, false_and, and_self, reduceCtorEq, exists_false, or_false, false_or, exists_const, at0, at1, at2, at3, at4, at5, ix51, ix52, ix54, upd_same, Nat.reduceAdd, Nat.reduceSub, Nat.zero_add, Int.reduceToNat, Int.reduceLE, Int.reduceLT, decide_eq_true_eq, Bool.not_eq_true, if_true, if_false, Bool.false_eq_true, ite_true, ite_false, Bool.not_true, Bool.not_false, decide_true, decide_false, tFor_eq, tLc_eq, iList, iTup, iRng1, iRng2, iStr, tSl, tPart, tNoPart, rSlL, cxOf_K, wipe, ex_ty2, kit_LTl, kit_LTt, kit_LTd, kit_LTs, kit_LTn, kit_LTb, kit_LTi, tM1, rIxS, exists_eq', lt1p, tDNewK, rSlS, rEqNil, nox_K]
      rw [eN]
      clear eN N
      have s03 := s1.trans (s2.trans s3)
      have hx3 := s03 _ _ hx
      have hp3 := hp.mono s03
      refine seq_gen fun N eN => ?_
      have st : ∀ l H4, (∀ c o, c ≠ x → H c = some o → H4 c = some o) → H4 x = some (.ins A.k_Version dx (putF (Str.ofString "kept_lines") (.ref l) [])) → H4 l = some (.tup (ls.map V.str)) → SqI K H4 pv qs → N [some (.ref x), some g, some pv, some (.str n)] H4 := by
        intro l H4 kp h4 hl4 sq4
        rw [eN]
        clear eN N
        refine seq_gen fun N eN => ?_
        try simp only [tSeq, tNext, tRet, tRetN, tAsg, gName, gSub, tDrop, tIfS, tOp, tUn, tCB, tCons, tNil, tC, tVar, rI, rI0, rU, tAnd, tOr, tNot, tAndV, tOrV, tNotV, tIf, tTest, tB, tCall, tChain, tLst, tTup, tYes, rIxH, rIsB, rIsBT, rMulS, kd_non, kd_bl, kd_int, kd_str, kd_ref, kdO_lst, kdO_tup, kdO_dK, nq_n, nq_b, nq_i, nq_s, nq_l, nq_t, nq_d, ne_eq, not_false_eq_true, kit_ss, kit_ns, kit_bs, kit_is, kit_ls, kit_ts, kit_ds, kit_bb, V.ty.injEq, and_assoc, rIxU, rLenH, rLenU, rLenS, rInt1, rSetL, rEq, rNe, rCat, L2.start, List.map, List.length, List.length_cons, List.length_nil, List.replicate, List.getElem?_cons_zero, List.getElem?_cons_succ, List.set_cons_zero, List.set_cons_succ, List.set_nil, List.cons_append, List.nil_append, List.append_nil, Option.some.injEq, V.int.injEq, V.ref.injEq, V.str.injEq, V.bl.injEq, HO.lst.injEq, HO.tup.injEq, exists_eq_left', exists_and_left, exists_eq_left, List.cons.injEq, and_true, true_and, and_false, false_and, and_self, reduceCtorEq, exists_false, or_false, false_or, exists_const, at0, at1, at2, at3, at4, at5, ix51, ix52, ix54, upd_same, Nat.reduceAdd, Nat.reduceSub, Nat.zero_add, Int.reduceToNat, Int.reduceLE, Int.reduceLT, decide_eq_true_eq, Bool.not_eq_true, if_true, if_false, Bool.false_eq_true, ite_true, ite_false, Bool.not_true, Bool.not_false, decide_true, decide_false, tFor_eq, tLc_eq, iList, iTup, iRng1, iRng2, iStr, tSl, tPart, tNoPart, rSlL, cxOf_K, wipe, ex_ty2, kit_LTl, kit_LTt, kit_LTd, kit_LTs, kit_LTn, kit_LTb, kit_LTi, tM1, rIxS, exists_eq', lt1p, tDNewK, rSlS, rEqNil, nox_K, sFld, tSortSetI2]
        refine ⟨qs, sq4, by have := hp3.sq.2; omega, fun ms p hs hm hpn => ?_⟩
        refine ⟨ms.map V.int, .inl ⟨SqL.of upd_same, fun q hq => ?_⟩⟩
        have nx1 : x ≠ p := ne_of_none h4 hpn
        have nx2 : x ≠ q := ne_of_none (same_new hpn _ _ h4) hq
        have nl1 : l ≠ p := ne_of_none hl4 hpn
        have hlq : upd H4 p (HO.lst (ms.map V.int)) l = some (.tup (ls.map V.str)) := by rw [upd_ne nl1]; exact hl4
        have nl2 : l ≠ q := ne_of_none hlq hq
        have nlx : l ≠ x := fun z => by rw [z, h4] at hl4; cases hl4
        have npq : q ≠ p := fun z => by rw [z, upd_same] at hq; cases hq
        refine ⟨A.k_Version, dx, _, by rw [upd_ne nx2, upd_ne nx1]; exact h4, T.t_Version.cl, T.n_Version_kept_parents, by show 1 < 1000; decide, ?_⟩
        rw [eN]
        clear eN N
        try simp only [tSeq, tNext, tRet, tRetN, tAsg, gName, gSub, tDrop, tIfS, tOp, tUn, tCB, tCons, tNil, tC, tVar, rI, rI0, rU, tAnd, tOr, tNot, tAndV, tOrV, tNotV, tIf, tTest, tB, tCall, tChain, tLst, tTup, tYes, rIxH, rIsB, rIsBT, rMulS, kd_non, kd_bl, kd_int, kd_str, kd_ref, kdO_lst, kdO_tup, kdO_dK, nq_n, nq_b, nq_i, nq_s, nq_l, nq_t, nq_d, ne_eq, not_false_eq_true, kit_ss, kit_ns, kit_bs, kit_is, kit_ls, kit_ts, kit_ds, kit_bb, V.ty.injEq, and_assoc, rIxU, rLenH, rLenU, rLenS, rInt1, rSetL, rEq, rNe, rCat, L2.start, List.map, List.length, List.length_cons, List.length_nil, List.replicate, List.getElem?_cons_zero, List.getElem?_cons_succ, List.set_cons_zero, List.set_cons_succ, List.set_nil, List.cons_append, List.nil_append, List.append_nil, Option.some.injEq, V.int.injEq, V.ref.injEq, V.str.injEq, V.bl.injEq, HO.lst.injEq, HO.tup.injEq, exists_eq_left', exists_and_left, exists_eq_left, List.cons.injEq, and_true, true_and, and_false, false_and, and_self, reduceCtorEq, exists_false, or_false, false_or, exists_const, at0, at1, at2, at3, at4, at5, ix51, ix52, ix54, upd_same, Nat.reduceAdd, Nat.reduceSub, Nat.zero_add, Int.reduceToNat, Int.reduceLE, Int.reduceLT, decide_eq_true_eq, Bool.not_eq_true, if_true, if_false, Bool.false_eq_true, ite_true, ite_false, Bool.not_true, Bool.not_false, decide_true, decide_false, tFor_eq, tLc_eq, iList, iTup, iRng1, iRng2, iStr, tSl, tPart, tNoPart, rSlL, cxOf_K, wipe, ex_ty2, kit_LTl, kit_LTt, kit_LTd, kit_LTs, kit_LTn, kit_LTb, kit_LTi, tM1, rIxS, exists_eq', lt1p, tDNewK, rSlS, rEqNil, nox_K, sFld]
        refine ⟨A.k_Version, dx, _, rfl, T.t_Version.cl, T.n_Version_kept_author, Nat.lt_of_le_of_lt (putF_len _ _ _) (by show 1 + 1 < 1000; decide), ?_⟩
        rw [upd_upd]
        refine k _ l q ms (fun c o hc e => ?_) (by rw [upd_same]; exact congrArg some (congrArg (HO.ins A.k_Version dx) verF_put)) ?_ ?_ hs hm
        · have e4 := kp c o hc e
          have n1 : c ≠ p := ne_of_none e4 hpn
          have n2 : c ≠ q := ne_of_none (same_new hpn _ _ e4) hq
          rw [upd_ne hc, upd_ne n2, upd_ne n1]
          exact e4
        · rw [upd_ne nlx, upd_ne nl2]
          exact hlq
        · rw [upd_ne nx2.symm, upd_same]
      try simp only [tSeq, tNext, tRet, tRetN, tAsg, gName, gSub, tDrop, tIfS, tOp, tUn, tCB, tCons, tNil, tC, tVar, rI, rI0, rU, tAnd, tOr, tNot, tAndV, tOrV, tNotV, tIf, tTest, tB, tCall, tChain, tLst, tTup, tYes, rIxH, rIsB, rIsBT, rMulS, kd_non, kd_bl, kd_int, kd_str, kd_ref, kdO_lst, kdO_tup, kdO_dK, nq_n, nq_b, nq_i, nq_s, nq_l, nq_t, nq_d, ne_eq, not_false_eq_true, kit_ss, kit_ns, kit_bs, kit_is, kit_ls, kit_ts, kit_ds, kit_bb, V.ty.injEq, and_assoc, rIxU, rLenH, rLenU, rLenS, rInt1, rSetL, rEq, rNe, rCat, L2.start, List.map, List.length, List.length_cons, List.length_nil, List.replicate, List.getElem?_cons_zero, List.getElem?_cons_succ, List.set_cons_zero, List.set_cons_succ, List.set_nil, List.cons_append, List.nil_append, List.append_nil, Option.some.injEq, V.int.injEq, V.ref.injEq, V.str.injEq, V.bl.injEq, HO.lst.injEq, HO.tup.injEq, exists_eq_left', exists_and_left, exists_eq_left, List.cons.injEq, and_true, true_and, and_false, false_and, and_self, reduceCtorEq, exists_false, or_false, false_or, exists_const, at0, at1, at2, at3, at4, at5, ix51, ix52, ix54, upd_same, Nat.reduceAdd, Nat.reduceSub, Nat.zero_add, Int.reduceToNat, Int.reduceLE, Int.reduceLT, decide_eq_true_eq, Bool.not_eq_true, if_true, if_false, Bool.false_eq_true, ite_true, ite_false, Bool.not_true, Bool.not_false, decide_true, decide_false, tFor_eq, tLc_eq, iList, iTup, iRng1, iRng2, iStr, tSl, tPart, tNoPart, rSlL, cxOf_K, wipe, ex_ty2, kit_LTl, kit_LTt, kit_LTd, kit_LTs, kit_LTn, kit_LTb, kit_LTi, tM1, rIxS, exists_eq', lt1p, tDNewK, rSlS, rEqNil, nox_K, sFld]
      have hsq := tg.1
      have e3 : ∀ {a : Addr} {o : HO}, H a = some o → (∀ C d fs, o ≠ .ins C d fs) → H3 a = some o ∧ a ≠ x := fun {a o} e h => ⟨s03 _ _ e, fun z => by rw [z, hx] at e; exact h _ _ _ (Option.some.inj e).symm⟩
      have sqn : ∀ (H4 : Hp), (∀ c o, c ≠ x → H3 c = some o → H4 c = some o) → SqI K H4 pv qs := by
        intro H4 kp
        rcases hp with ⟨⟨h1, _⟩, h2, h3⟩ | ⟨a, rfl, h, rfl⟩
        · cases h1 with
          | lst e =>
            have h2 : seqO (H _) = _ := h2
            rw [e] at h2
            injection h2 with h2
            subst h2
            have := e3 e (fun _ _ _ z => by cases z)
            exact ⟨_, rfl, .inl (SqL.of (kp _ _ this.2 this.1))⟩
          | tup e =>
            have h2 : seqO (H _) = _ := h2
            rw [e] at h2
            injection h2 with h2
            subst h2
            have := e3 e (fun _ _ _ z => by cases z)
            exact ⟨_, rfl, .inr (SqT.of (kp _ _ this.2 this.1))⟩
          | dic e =>
            have h2 : seqO (H _) = _ := h2
            rw [e] at h2
            cases h2
          | _ => cases h2
        · exact ⟨a, rfl, .inr (h.sq _)⟩
      cases hsq with
      | lst e =>
        have hl : seqO (H _) = _ := hl
        rw [e] at hl
        injection hl with hl
        subst hl
        obtain ⟨ea, na⟩ := e3 e (fun _ _ _ z => by cases z)
        refine ⟨_, rfl, _, .inl ⟨SqL.of ea, fun l hln => ?_⟩⟩
        have nx : x ≠ l := ne_of_none hx3 hln
        refine ⟨A.k_Version, dx, [], by rw [upd_ne nx]; exact hx3, T.t_Version.cl, T.n_Version_kept_lines, by decide, ?_⟩
        have kp : ∀ c o, c ≠ x → H3 c = some o → upd (upd H3 l (HO.tup (ls.map V.str))) x (HO.ins A.k_Version dx (putF (Str.ofString "kept_lines") (V.ref l) [])) c = some o := fun c o hc e => by
          rw [upd_ne hc]
          exact same_new hln _ _ e
        exact st l _ (fun c o hc e => kp c o hc (s03 _ _ e)) upd_same (by rw [upd_ne nx.symm, upd_same]) (sqn _ kp)
      | tup e =>
        have hl : seqO (H _) = _ := hl
        rw [e] at hl
        injection hl with hl
        subst hl
        obtain ⟨ea, na⟩ := e3 e (fun _ _ _ z => by cases z)
        refine ⟨_, rfl, _, .inr ⟨SqT.of ea, ?_⟩⟩
        refine ⟨A.k_Version, dx, [], hx3, T.t_Version.cl, T.n_Version_kept_lines, by decide, ?_⟩
        have kp : ∀ (l : Addr) c o, c ≠ x → H3 c = some o → upd H3 x (HO.ins A.k_Version dx (putF (Str.ofString "kept_lines") (V.ref l) [])) c = some o := fun l c o hc e => by
          rw [upd_ne hc]
          exact e
        exact st _ _ (fun c o hc e => kp _ c o hc (s03 _ _ e)) upd_same (by rw [upd_ne na]; exact ea) (sqn _ (kp _))
      | dic e =>
        have hl : seqO (H _) = _ := hl
        rw [e] at hl
        cases hl
      | _ => cases hl
end
/-! ### making a Version -/
theorem own_sameV {H : Hp} {x dx C : Addr} (nx : H x = none) (nd : H dx = none) : Same H (upd (upd H dx (.own x)) x (.ins C dx [])) := fun c o hc => by
  have c1 : c ≠ x := fun z => by rw [z, nx] at hc; cases hc
  have c2 : c ≠ dx := fun z => by rw [z, nd] at hc; cases hc
  rw [upd_ne c1, upd_ne c2]
  exact hc
theorem ver_no {K : PySem.W.Frag} {C NT NP NN N : Addr} {gV : List V → List V → List V} {E : XK} {vs zs : List V} {H : Hp} {Q : VK} {g pv nv v : V} (h : ∀ x, gV (.ref x :: vs) zs = [.ref x, g, pv, nv]) (tg : Thq H g)
    (hc : (isTextV H g = false ∧ v = g ∧ N = NT) ∨ (isTextV H g = true ∧ Thq H pv ∧ isParV H pv = false ∧ v = pv ∧ N = NP) ∨ (isTextV H g = true ∧ (∃ qs, ParOk K H pv qs) ∧ Thg H nv ∧ isNameV nv = false ∧ v = nv ∧ N = NN))
    (k : ∀ H' d, Same H H' → H' d = some (.xd [("value", v)]) → E (.ref N) (some d) H') : mkGoK C (spVer K C NT NP NN) gV E vs zs H Q := by
  intro x dx nx nd ne
  have sm := own_sameV (C := C) nx nd
  refine ⟨x, dx, g, pv, nv, upd_same, h x, (tg.mono sm).1, ?_⟩
  rcases hc with ⟨h1, rfl, rfl⟩ | ⟨h1, h2, h3, rfl, rfl⟩ | ⟨h1, ⟨qs, h2⟩, h3, h4, rfl, rfl⟩
  · exact .inl ⟨by rw [text_mono sm tg]; exact h1, fun H' d s e => k H' d (sm.trans s) e⟩
  · exact .inr (.inl ⟨by rw [text_mono sm tg]; exact h1, (h2.mono sm).1, by rw [par_mono sm h2]; exact h3, fun H' d s e => k H' d (sm.trans s) e⟩)
  · exact .inr (.inr (.inl ⟨by rw [text_mono sm tg]; exact h1, ⟨qs, h2.mono sm⟩, h3.mono sm, h4, fun H' d s e => k H' d (sm.trans s) e⟩))
theorem ver_yes {K : PySem.W.Frag} {C NT NP NN : Addr} {gV : List V → List V → List V} {E : XK} {vs zs : List V} {H : Hp} {Q : VK} {g pv : V} {ls : List Str} {qs : List Int} {n : Str} (h : ∀ x, gV (.ref x :: vs) zs = [.ref x, g, pv, .str n]) (tg : Thq H g)
    (hl : seqV H g = some (ls.map V.str)) (ht : isTextV H g = true) (hp : ParOk K H pv qs) (sn : Sm n) (hn : isNameV (.str n) = true)
    (k : ∀ H' a ps, Same H H' → H a = none → VerAt C H' a ls ps n → ps.Pairwise (· < ·) → (∀ k : Int, k ∈ ps ↔ k ∈ qs) → Q (.ref a) H') : mkGoK C (spVer K C NT NP NN) gV E vs zs H Q := by
  intro x dx nx nd ne
  have sm := own_sameV (C := C) nx nd
  refine ⟨x, dx, g, pv, _, upd_same, h x, (tg.mono sm).1, .inr (.inr (.inr ⟨ls, qs, n, by rw [(tg.mono sm).2]; exact hl, by rw [text_mono sm tg]; exact ht, hp.mono sm, rfl, sn, hn, fun H' l p ps kp hx hl' hp' hs hm => ⟨rfl, k H' x ps (fun c o hc => ?_) nx ⟨dx, l, p, hx, hl', hp'⟩ hs hm⟩⟩))⟩
  exact kp c o (fun z => by rw [z, nx] at hc; cases hc) (sm c o hc)



theorem lg1920V {i : Int} (h : i.natAbs < 2 ^ 1900) : i.natAbs.log2 < 1920 := by
  by_cases z : i.natAbs = 0
  · rw [z]; decide
  · exact Nat.lt_trans ((Nat.log2_lt z).mpr h) (by decide)
/-! ### _law_exact -/
structure Goods (ds : List PyData) : Prop where
  sh : PyData.showable (.tuple ds) = true
  nd : PyData.hasDict (.tuple ds) = false
  ln : (PyData.shown (.tuple ds)).length ≤ sizeLine
  dp : PyData.depth (.tuple ds) ≤ 20
theorem goods_strs {ls : List Str} (hl : ls.length ≤ 12) (h : ∀ z ∈ ls, z.length ≤ 40 ∧ ∀ c ∈ z.cps.toList, c < 128) : Goods (ls.map PyData.str) := by
  have a1 : ∀ ls : List Str, PyData.showableAll (ls.map PyData.str) = true := fun ls => by
    induction ls with
    | nil => rfl
    | cons z r ih => simp only [List.map_cons, PyData.showableAll, PyData.showable, ih, Bool.and_true]
  have a2 : ∀ ls : List Str, PyData.hasDictAll (ls.map PyData.str) = false := fun ls => by
    induction ls with
    | nil => rfl
    | cons z r ih => simp only [List.map_cons, PyData.hasDictAll, PyData.hasDict, ih, Bool.or_false]
  have a3 : ∀ ls : List Str, (∀ z ∈ ls, z.length ≤ 40 ∧ ∀ c ∈ z.cps.toList, c < 128) → PyData.leavesShortAll 1921 (ls.map PyData.str) = true ∧ PyData.bulkAll (ls.map PyData.str) ≤ 41 * ls.length := fun ls => by
    induction ls with
    | nil => exact fun _ => ⟨rfl, Nat.le_refl _⟩
    | cons z r ih =>
      intro h
      obtain ⟨i1, i2⟩ := ih fun y hy => h y (List.mem_cons_of_mem _ hy)
      obtain ⟨h1, h2⟩ := h z List.mem_cons_self
      have e : z.cps.size = z.length := rfl
      simp only [List.map_cons, PyData.leavesShortAll, PyData.leavesShort, i1, Bool.and_true, PyData.bulkAll, PyData.bulk, List.length_cons]
      exact ⟨List.all_eq_true.mpr fun c hc => decide_eq_true (Nat.lt_trans (h2 c hc) (by decide)), by omega⟩
  refine ⟨by simp only [PyData.showable]; exact a1 ls, by simp only [PyData.hasDict]; exact a2 ls, ?_, ?_⟩
  · obtain ⟨h1, h2⟩ := a3 ls h
    have q := PyData.shown_le_bulk 1921 (by decide) (.tuple (ls.map PyData.str)) (by simp only [PyData.leavesShort]; exact h1)
    have e : PyData.bulk (.tuple (ls.map PyData.str)) = PyData.bulkAll (ls.map PyData.str) := by simp only [PyData.bulk]
    rw [e] at q
    have q2 : (1921 + 2) * PyData.bulkAll (ls.map PyData.str) ≤ 1923 * 492 := Nat.mul_le_mul_left _ (by omega)
    exact Nat.le_trans q (Nat.le_trans (show _ ≤ 1923 * 492 + 1921 by omega) (by decide))
  · have := dep_strs ls
    simp only [PyData.depth]
    omega
theorem goods_ints {ps : List Int} (hl : ps.length ≤ 40) (h : ∀ z ∈ ps, z.natAbs < 2 ^ 1900) : Goods (ps.map PyData.int) := by
  have a1 : ∀ ls : List Int, (∀ z ∈ ls, z.natAbs < 2 ^ 1900) → PyData.showableAll (ls.map PyData.int) = true := fun ls => by
    induction ls with
    | nil => exact fun _ => rfl
    | cons z r ih =>
      intro h
      have i1 := ih fun y hy => h y (List.mem_cons_of_mem _ hy)
      have h1 := h z List.mem_cons_self
      simp only [List.map_cons, PyData.showableAll, PyData.showable, i1, Bool.and_true]
      exact decide_eq_true (lg1920V h1)
  have a2 : ∀ ls : List Int, PyData.hasDictAll (ls.map PyData.int) = false := fun ls => by
    induction ls with
    | nil => rfl
    | cons z r ih => simp only [List.map_cons, PyData.hasDictAll, PyData.hasDict, ih, Bool.or_false]
  have a3 : ∀ ls : List Int, (∀ z ∈ ls, z.natAbs < 2 ^ 1900) → PyData.leavesShortAll 1921 (ls.map PyData.int) = true ∧ PyData.bulkAll (ls.map PyData.int) ≤ ls.length := fun ls => by
    induction ls with
    | nil => exact fun _ => ⟨rfl, Nat.le_refl _⟩
    | cons z r ih =>
      intro h
      obtain ⟨i1, i2⟩ := ih fun y hy => h y (List.mem_cons_of_mem _ hy)
      have h1 := h z List.mem_cons_self
      simp only [List.map_cons, PyData.leavesShortAll, PyData.leavesShort, i1, Bool.and_true, PyData.bulkAll, PyData.bulk, List.length_cons]
      refine ⟨decide_eq_true ?_, by omega⟩
      rw [PyData.shown_int]
      exact PyProof.Rows.int_text_len_1921 (lg1920V h1)
  refine ⟨by simp only [PyData.showable]; exact a1 ps h, by simp only [PyData.hasDict]; exact a2 ps, ?_, ?_⟩
  · obtain ⟨h1, h2⟩ := a3 ps h
    have q := PyData.shown_le_bulk 1921 (by decide) (.tuple (ps.map PyData.int)) (by simp only [PyData.leavesShort]; exact h1)
    have e : PyData.bulk (.tuple (ps.map PyData.int)) = PyData.bulkAll (ps.map PyData.int) := by simp only [PyData.bulk]
    rw [e] at q
    have q2 : (1921 + 2) * PyData.bulkAll (ps.map PyData.int) ≤ 1923 * 40 := Nat.mul_le_mul_left _ (by omega)
    exact Nat.le_trans q (Nat.le_trans (show _ ≤ 1923 * 40 + 1921 by omega) (by decide))
  · have := dep_ints ps
    simp only [PyData.depth]
    omega
theorem kit_tt : kitB "tuple" "tuple" = some true := by decide +kernel
def spExact (K : PySem.W.Frag) : Sp := fun vs H Q _ => ∃ a b xs ds, vs = [.ref a, .ref b] ∧ H a = some (.tup xs) ∧ H b = some (.lst xs) ∧ (∀ H', Same H H' → DpAll K H' xs ds) ∧ Goods ds ∧ ∀ H', Same H H' → Q (.bl true) H'
section
variable {w : World} {K : PySem.W.Frag} {mg : Str → Option Value} {base : Heap} {A : Adr}
theorem ok_exact (T : Txt K mg A) : FnG PW w K mg base CX0 1 A.a_LawExact A.d_LawExact ["_law_found", "_law_due"] (spExact K) := by
  refine okG T.f_LawExact scLawExact (fun vs H Q E h => ?_) (fun cdv A' outer s H vs Q E hr hG h => ?_)
  · obtain ⟨a, b, xs, ds, rfl, _⟩ := h
    rfl
  · obtain ⟨a, b, xs, ds, rfl, ha, hb, hd, g, k⟩ := h
    refine ⟨_, (pss_one (ps_ret (pe_and (pe_callB call_isB (by rfl) T.z_isinstance (by decide +kernel) (pa_cons (pv 0) (pa_cons (pe_bltn (v := .ty "tuple") (by rfl) T.z_tuple (by decide +kernel) rfl) pa_nil))) (pe_one (pe_cmpR (op_eq) (pe_callB (call_reprD hr hG) (by rfl) T.z_repr (by decide +kernel) (pa_cons (pv 0) pa_nil)) (pe_callB (call_reprD hr hG) (by rfl) T.z_repr (by decide +kernel) (pa_cons (pe_callTy call_tuple_of (by rfl) T.z_tuple (by decide +kernel) (pa_cons (pv 1) pa_nil)) pa_nil)) (nomark _)))))), ?_⟩
    try simp only [tSeq, tNext, tRet, tRetN, tAsg, gName, gSub, tDrop, tIfS, tOp, tUn, tCB, tCons, tNil, tC, tVar, rI, rI0, rU, tAnd, tOr, tNot, tAndV, tOrV, tNotV, tIf, tTest, tB, tCall, tChain, tLst, tTup, tYes, rIxH, rIsB, rIsBT, rMulS, kd_non, kd_bl, kd_int, kd_str, kd_ref, kdO_lst, kdO_tup, kdO_dK, nq_n, nq_b, nq_i, nq_s, nq_l, nq_t, nq_d, ne_eq, not_false_eq_true, kit_ss, kit_ns, kit_bs, kit_is, kit_ls, kit_ts, kit_ds, kit_bb, V.ty.injEq, and_assoc, rIxU, rLenH, rLenU, rLenS, rInt1, rSetL, rEq, rNe, rCat, L2.start, List.map, List.length, List.length_cons, List.length_nil, List.replicate, List.getElem?_cons_zero, List.getElem?_cons_succ, List.set_cons_zero, List.set_cons_succ, List.set_nil, List.cons_append, List.nil_append, List.append_nil, Option.some.injEq, V.int.injEq, V.ref.injEq, V.str.injEq, V.bl.injEq, HO.lst.injEq, HO.tup.injEq, exists_eq_left', exists_and_left, exists_eq_left, List.cons.injEq, and_true, true_and, and_false, false_and, and_self, reduceCtorEq, exists_false, or_false, false_or, exists_const, at0, at1, at2, at3, at4, at5, ix51, ix52, ix54, upd_same, Nat.reduceAdd, Nat.reduceSub, Nat.zero_add, Int.reduceToNat, Int.reduceLE, Int.reduceLT, decide_eq_true_eq, Bool.not_eq_true, if_true, if_false, Bool.false_eq_true, ite_true, ite_false, Bool.not_true, Bool.not_false, decide_true, decide_false, tFor_eq, tLc_eq, iList, iTup, iRng1, iRng2, iStr, tSl, tPart, tNoPart, rSlL, cxOf_K, wipe, ex_ty2, kit_LTl, kit_LTt, kit_LTd, kit_LTs, kit_LTn, kit_LTb, kit_LTi, tM1, rIxS, exists_eq', lt1p, tDNewK, rSlS, rEqNil, nox_K, ha, kit_tt]
    refine ⟨.ref a, .tuple ds, rfl, .inl ⟨.tup (SqT.of ha) (hd H (Same.refl _)), g.nd⟩, g.sh, g.ln, g.dp, ?_⟩
    refine ⟨xs, .inl ⟨SqL.of hb, fun l hl => ?_⟩⟩
    refine ⟨.ref l, .tuple ds, rfl, .inl ⟨.tup (SqT.of upd_same) (hd _ (same_new hl)), g.nd⟩, g.sh, g.ln, g.dp, ?_⟩
    exact ⟨scal_str, by simpa using k _ (same_new hl)⟩
end

/-! ### _law_own_lines, _law_parents -/
theorem flat_ints : ∀ ls : List Int, (ls.map V.int).all flatV = true
  | [] => rfl
  | _ :: r => by
    rw [List.map_cons, List.all_cons, flat_ints r]
    rfl
theorem in_ints {z : Int} : ∀ {ls : List Int}, inV (.int z) (ls.map V.int) = decide (z ∈ ls)
  | [] => by simp [inV]
  | x :: r => by
    have ih := in_ints (z := z) (ls := r)
    unfold inV at ih ⊢
    rw [List.map_cons, List.any_cons, ih]
    by_cases h : z = x
    · subst h
      simp [eqV]
    · have h' : ¬ x = z := fun e => h e.symm
      simp [eqV, h, h']
def wordsL : List Str := ["a", "b", "", " a", "end {", Txt.mul "~" 40]
theorem wordsL_ok : wordsL.all (fun z => isLineV (.str z) && decide (z.length ≤ 40) && z.cps.toList.all (fun c => decide (c < 128)) && decide (z ≠ "no such line")) = true := by decide +kernel
theorem wordL {z : Str} (h : z ∈ wordsL) : isLineV (.str z) = true ∧ z.length ≤ 40 ∧ (∀ c ∈ z.cps.toList, c < 128) ∧ z ≠ "no such line" := by
  have q := List.all_eq_true.mp wordsL_ok z h
  simp only [Bool.and_eq_true, decide_eq_true_eq] at q
  exact ⟨q.1.1.1, q.1.1.2, fun c hc => of_decide_eq_true (List.all_eq_true.mp q.1.2 c hc), q.2⟩
def spOwnL : Sp := fun vs H Q _ => ∃ p l c, vs = [.ref p] ∧ PoolAt p l c H ∧ c ≤ 80000000 ∧ ∀ H' a (ls : List Str), H a = none → PoolAt p l (c + 13) H' → OffS p l H H' → H' a = some (.lst (ls.map V.str)) → ls.length ≤ 12 → (∀ z ∈ ls, z ∈ wordsL) → Q (.ref a) H'
def spPars : Sp := fun vs H Q _ => ∃ p l c, vs = [.ref p] ∧ PoolAt p l c H ∧ c ≤ 80000000 ∧ ∀ H' a (qs : List Int), H a = none → PoolAt p l (c + 7) H' → OffS p l H H' → H' a = some (.lst (qs.map V.int)) → qs.length ≤ 3 → qs.Nodup → (∀ z ∈ qs, 0 ≤ z ∧ z < 100000000000000000000) → Q (.ref a) H'
section
variable {w : World} {K : PySem.W.Frag} {mg : Str → Option Value} {base : Heap} {A : Adr}
theorem ok_ownl (T : Txt K mg A) (gLawDraw : FnOk PW w K mg base CX0 2 A.a_LawDraw A.d_LawDraw ["_law_pool_here", "_law_many"] spLawDraw) : FnOk PW w K mg base CX0 3 A.a_LawOwnLines A.d_LawOwnLines ["_law_pool_here"] spOwnL := by
  refine T.f_LawOwnLines.ok scLawOwnLines (fun vs H Q E h => ?_) (fun cdv A' outer s H vs Q E hr h => ?_)
  · obtain ⟨p, l, c, rfl, _⟩ := h
    rfl
  · obtain ⟨p, l, c, rfl, hp, hc, k⟩ := h
    refine ⟨_, (pss_cons (ps_set (i := 1) scLawOwnLines.nd rfl (Or.inr rfl) (pe_lst (pa_cons pe_str (pa_cons pe_str (pa_cons pe_str (pa_cons pe_str (pa_cons pe_str (pa_cons (pe_op op_mul_str pe_str pe_int) pa_nil))))))))
      (pss_one (ps_ret (pe_lc (own := [("_law_k", 2)]) (g := gName 2) (tt := tYes) (by rfl) scLawOwnLines.nd (pi_range1 (by rfl) T.z_range (pa_cons (pe_ix ix_lstH (pe_lst (pa_cons pe_int (pa_cons pe_int (pa_cons pe_int (pa_cons pe_int (pa_cons pe_int (pa_cons pe_int pa_nil))))))) (pe_call gLawDraw (hr.mono (by decide)) (by rfl) T.m_LawDraw T.f_LawDraw.kp T.b_LawDraw .nil pass0 (pa_cons (pv 0) (pa_cons pe_int pa_nil))) (fun _ _ => rfl)) pa_nil)) (blkOk_by (own := [("_law_k", 2)]) (N := nLawOwnLines) (sc := defScope sLawOwnLines) (by decide +kernel)) (fun _ _ _ _ _ => pg_name (i := 2) scLawOwnLines.nd rfl (Or.inl rfl)) (fun _ _ _ _ _ => pts_nil) (fun _ _ _ _ _ => (pe_ix ix_lstH (pv 1) (pe_call gLawDraw (hr.mono (by decide)) (by rfl) T.m_LawDraw T.f_LawDraw.kp T.b_LawDraw .nil pass0 (pa_cons (pv 0) (pa_cons pe_int pa_nil))) (fun _ _ => rfl))))))), ?_⟩
    have w0 := wd0 hp
    try simp only [tSeq, tNext, tRet, tRetN, tAsg, gName, gSub, tDrop, tIfS, tOp, tUn, tCB, tCons, tNil, tC, tVar, rI, rI0, rU, tAnd, tOr, tNot, tAndV, tOrV, tNotV, tIf, tTest, tB, tCall, tChain, tLst, tTup, tYes, rIxH, rIsB, rIsBT, rMulS, kd_non, kd_bl, kd_int, kd_str, kd_ref, kdO_lst, kdO_tup, kdO_dK, nq_n, nq_b, nq_i, nq_s, nq_l, nq_t, nq_d, ne_eq, not_false_eq_true, kit_ss, kit_ns, kit_bs, kit_is, kit_ls, kit_ts, kit_ds, kit_bb, V.ty.injEq, and_assoc, rIxU, rLenH, rLenU, rLenS, rInt1, rSetL, rEq, rNe, rCat, L2.start, List.map, List.length, List.length_cons, List.length_nil, List.replicate, List.getElem?_cons_zero, List.getElem?_cons_succ, List.set_cons_zero, List.set_cons_succ, List.set_nil, List.cons_append, List.nil_append, List.append_nil, Option.some.injEq, V.int.injEq, V.ref.injEq, V.str.injEq, V.bl.injEq, HO.lst.injEq, HO.tup.injEq, exists_eq_left', exists_and_left, exists_eq_left, List.cons.injEq, and_true, true_and, and_false, false_and, and_self, reduceCtorEq, exists_false, or_false, false_or, exists_const, at0, at1, at2, at3, at4, at5, ix51, ix52, ix54, upd_same, Nat.reduceAdd, Nat.reduceSub, Nat.zero_add, Int.reduceToNat, Int.reduceLE, Int.reduceLT, decide_eq_true_eq, Bool.not_eq_true, if_true, if_false, Bool.false_eq_true, ite_true, ite_false, Bool.not_true, Bool.not_false, decide_true, decide_false, tFor_eq, tLc_eq, iList, iTup, iRng1, iRng2, iStr, tSl, tPart, tNoPart, rSlL, cxOf_K, wipe, ex_ty2, kit_LTl, kit_LTt, kit_LTd, kit_LTs, kit_LTn, kit_LTb, kit_LTi, tM1, rIxS, exists_eq', lt1p, tDNewK, rSlS, rEqNil, nox_K]
    refine ⟨PyProof.Rows.mulOk_of 16 1048576 (by decide +kernel) (by decide) (by decide) (by decide) (by decide), by decide, ?_⟩
    intro p1 n_p1; generalize g_H1 : upd H p1 _ = H1; obtain ⟨s_H1, h_p1⟩ := new_facts n_p1 g_H1; clear g_H1; obtain ⟨G1, w_G1, k_G1, f_p1⟩ := w0.alloc n_p1 s_H1 h_p1
    refine ⟨by decide, ?_⟩
    intro p2 n_p2; generalize g_H2 : upd H1 p2 _ = H2; obtain ⟨s_H2, h_p2⟩ := new_facts n_p2 g_H2; clear g_H2; obtain ⟨G2, w_G2, k_G2, f_p2⟩ := w_G1.alloc n_p2 s_H2 h_p2
    refine ⟨p, l, 6, _, rfl, by decide, by decide, w_G2.pool, by omega, fun u H3 u0 u1 hp3 off3 => ?_⟩
    have w3 := w_G2.turn hp3 (Off.s off3)
    obtain ⟨v, hv, hm, _⟩ := atI_ex (xs := [V.int 0, V.int 1, V.int 3, V.int 6, V.int 11, V.int 12]) (i := u) u0 (by show _ < (6 : Int); exact u1)
    obtain ⟨n, rfl, hn⟩ : ∃ n : Nat, v = .int (n : Int) ∧ n ≤ 12 := by
      simp only [List.mem_cons, List.not_mem_nil, or_false] at hm
      rcases hm with rfl | rfl | rfl | rfl | rfl | rfl
      · exact ⟨0, rfl, by decide⟩
      · exact ⟨1, rfl, by decide⟩
      · exact ⟨3, rfl, by decide⟩
      · exact ⟨6, rfl, by decide⟩
      · exact ⟨11, rfl, by decide⟩
      · exact ⟨12, rfl, by decide⟩
    refine ⟨_, u, rfl, w3.kn _ _ f_p2, _, hv, ?_⟩
    have hm := int62 (m := (n : Int)) (by omega) (by omega)
    refine ⟨_, rfl, hm.1, hm.2, fun D hD => ?_⟩
    rw [Int.toNat_natCast]
    refine lc_pool (walk_rangeY (lo := 0) (n := n)) (k := 1) (fun v _ => ∃ z, v = V.str z ∧ z ∈ wordsL) (fun _ _ _ _ h => h) w3 hD (fun _ _ => trivial) (by rw [rngV_len]; omega) (fun x hx G2' H2' c2 gw hw hc2 R R0 h1 => ?_) (fun acc G' H' ha hP gw hw hD' => ?_)
    · rw [rngV_len] at hc2
      try simp only [tSeq, tNext, tRet, tRetN, tAsg, gName, gSub, tDrop, tIfS, tOp, tUn, tCB, tCons, tNil, tC, tVar, rI, rI0, rU, tAnd, tOr, tNot, tAndV, tOrV, tNotV, tIf, tTest, tB, tCall, tChain, tLst, tTup, tYes, rIxH, rIsB, rIsBT, rMulS, kd_non, kd_bl, kd_int, kd_str, kd_ref, kdO_lst, kdO_tup, kdO_dK, nq_n, nq_b, nq_i, nq_s, nq_l, nq_t, nq_d, ne_eq, not_false_eq_true, kit_ss, kit_ns, kit_bs, kit_is, kit_ls, kit_ts, kit_ds, kit_bb, V.ty.injEq, and_assoc, rIxU, rLenH, rLenU, rLenS, rInt1, rSetL, rEq, rNe, rCat, L2.start, List.map, List.length, List.length_cons, List.length_nil, List.replicate, List.getElem?_cons_zero, List.getElem?_cons_succ, List.set_cons_zero, List.set_cons_succ, List.set_nil, List.cons_append, List.nil_append, List.append_nil, Option.some.injEq, V.int.injEq, V.ref.injEq, V.str.injEq, V.bl.injEq, HO.lst.injEq, HO.tup.injEq, exists_eq_left', exists_and_left, exists_eq_left, List.cons.injEq, and_true, true_and, and_false, false_and, and_self, reduceCtorEq, exists_false, or_false, false_or, exists_const, at0, at1, at2, at3, at4, at5, ix51, ix52, ix54, upd_same, Nat.reduceAdd, Nat.reduceSub, Nat.zero_add, Int.reduceToNat, Int.reduceLE, Int.reduceLT, decide_eq_true_eq, Bool.not_eq_true, if_true, if_false, Bool.false_eq_true, ite_true, ite_false, Bool.not_true, Bool.not_false, decide_true, decide_false, tFor_eq, tLc_eq, iList, iTup, iRng1, iRng2, iStr, tSl, tPart, tNoPart, rSlL, cxOf_K, wipe, ex_ty2, kit_LTl, kit_LTt, kit_LTd, kit_LTs, kit_LTn, kit_LTb, kit_LTi, tM1, rIxS, exists_eq', lt1p, tDNewK, rSlS, rEqNil, nox_K]
      refine ⟨p, l, _, c2, rfl, by decide, by decide, hw.pool, by omega, fun u H3' y0 y1 hp3' off3' => ?_⟩
      have w3' := hw.turn hp3' (Off.s off3')
      have el := w3'.kn _ _ (gw.gg _ _ (k_G2 _ _ f_p1))
      obtain ⟨d, hd, hm, _⟩ := atI_ex (xs := wordsL.map V.str) (i := u) y0 (by show _ < (6 : Int); exact y1)
      obtain ⟨z, hz, rfl⟩ := List.mem_map.mp hm
      exact ⟨_, u, rfl, el, _, hd, h1 _ G2' H3' ⟨z, rfl, hz⟩ w3' (Gw.of (Off.s off3'))⟩
    · rw [rngV_len] at ha hw
      obtain ⟨zs, rfl⟩ := strs_of (xs := acc) fun v hv => ⟨_, (hP v hv).choose_spec.1⟩
      rw [List.length_map] at ha
      have s02 := s_H1.trans s_H2
      have off : OffS p l H H' := (same_off s02).trans ((Off.s off3).trans gw.off)
      refine k H' D zs ?_ (hw.pool.mono (by omega)) off (hw.kn _ _ hD') (by omega) fun z hz => ?_
      · cases e : H D with
        | none => rfl
        | some o =>
          have np := w3.pool.np hD
          have := (Off.s off3) D o np.1 np.2 (s02 _ _ e)
          rw [hD] at this
          cases this
      · obtain ⟨z', e, h⟩ := hP (.str z) (List.mem_map_of_mem hz)
        injection e with e
        subst e
        exact h
def LPar (p l f : Addr) (H0 : Hp) (c i : Nat) (σ : St) (H : Hp) : Prop := ∃ (v2 v3 : Option V) (qs : List Int), σ = [some (.ref p), some (.ref f), v2, v3] ∧ PoolAt p l (c + 2 * i) H ∧ OffS p l H0 H ∧ H f = some (.lst (qs.map V.int)) ∧ qs.length ≤ i ∧ qs.Nodup ∧ ∀ z ∈ qs, 0 ≤ z ∧ z < 100000000000000000000
theorem ok_pars (T : Txt K mg A) (gLawDraw : FnOk PW w K mg base CX0 2 A.a_LawDraw A.d_LawDraw ["_law_pool_here", "_law_many"] spLawDraw) : FnOk PW w K mg base CX0 3 A.a_LawParents A.d_LawParents ["_law_pool_here"] spPars := by
  refine T.f_LawParents.ok scLawParents (fun vs H Q E h => ?_) (fun cdv A' outer s H vs Q E hr h => ?_)
  · obtain ⟨p, l, c, rfl, _⟩ := h
    rfl
  · obtain ⟨p, l, c, rfl, hp, hc, k⟩ := h
    refine ⟨_, (pss_cons (ps_set (i := 1) scLawParents.nd rfl (Or.inl rfl) (pe_lst pa_nil))
      (pss_cons (ps_for PassesOwn.never rfl (pi_range1 (by rfl) T.z_range (pa_cons (pe_call gLawDraw (hr.mono (by decide)) (by rfl) T.m_LawDraw T.f_LawDraw.kp T.b_LawDraw .nil pass0 (pa_cons (pv 0) (pa_cons pe_int pa_nil))) pa_nil)) (pg_name (i := 2) scLawParents.nd rfl (Or.inl rfl)) (pss_cons (ps_set (i := 3) scLawParents.nd rfl (Or.inl rfl) (pe_call gLawDraw (hr.mono (by decide)) (by rfl) T.m_LawDraw T.f_LawDraw.kp T.b_LawDraw .nil pass0 (pa_cons (pv 0) (pa_cons (pe_ix ix_lstH (pe_lst (pa_cons pe_int (pa_cons (pe_op op_pow pe_int pe_int) pa_nil))) (pe_call gLawDraw (hr.mono (by decide)) (by rfl) T.m_LawDraw T.f_LawDraw.kp T.b_LawDraw .nil pass0 (pa_cons (pv 0) (pa_cons pe_int pa_nil))) (fun _ _ => rfl)) pa_nil))))
      (pss_one (ps_if (pt_cmpR (op_notIn_seq) (pv 3) (pv 1) (by rfl)) (pss_one (ps_expr (pe_bm PySem.F.plainAttrs_list PySem.F.slot_list_append PySem.F.type_list_append mt_append (pv 1) (pa_cons (pv 3) pa_nil)))) pss_nil))))
      (pss_one (ps_ret (pv 1))))), ?_⟩
    refine seq_gen fun N eN => ?_
    try simp only [tSeq, tNext, tRet, tRetN, tAsg, gName, gSub, tDrop, tIfS, tOp, tUn, tCB, tCons, tNil, tC, tVar, rI, rI0, rU, tAnd, tOr, tNot, tAndV, tOrV, tNotV, tIf, tTest, tB, tCall, tChain, tLst, tTup, tYes, rIxH, rIsB, rIsBT, rMulS, kd_non, kd_bl, kd_int, kd_str, kd_ref, kdO_lst, kdO_tup, kdO_dK, nq_n, nq_b, nq_i, nq_s, nq_l, nq_t, nq_d, ne_eq, not_false_eq_true, kit_ss, kit_ns, kit_bs, kit_is, kit_ls, kit_ts, kit_ds, kit_bb, V.ty.injEq, and_assoc, rIxU, rLenH, rLenU, rLenS, rInt1, rSetL, rEq, rNe, rCat, L2.start, List.map, List.length, List.length_cons, List.length_nil, List.replicate, List.getElem?_cons_zero, List.getElem?_cons_succ, List.set_cons_zero, List.set_cons_succ, List.set_nil, List.cons_append, List.nil_append, List.append_nil, Option.some.injEq, V.int.injEq, V.ref.injEq, V.str.injEq, V.bl.injEq, HO.lst.injEq, HO.tup.injEq, exists_eq_left', exists_and_left, exists_eq_left, List.cons.injEq, and_true, true_and, and_false, false_and, and_self, reduceCtorEq, exists_false, or_false, false_or, exists_const, at0, at1, at2, at3, at4, at5, ix51, ix52, ix54, upd_same, Nat.reduceAdd, Nat.reduceSub, Nat.zero_add, Int.reduceToNat, Int.reduceLE, Int.reduceLT, decide_eq_true_eq, Bool.not_eq_true, if_true, if_false, Bool.false_eq_true, ite_true, ite_false, Bool.not_true, Bool.not_false, decide_true, decide_false, tFor_eq, tLc_eq, iList, iTup, iRng1, iRng2, iStr, tSl, tPart, tNoPart, rSlL, cxOf_K, wipe, ex_ty2, kit_LTl, kit_LTt, kit_LTd, kit_LTs, kit_LTn, kit_LTb, kit_LTi, tM1, rIxS, exists_eq', lt1p, tDNewK, rSlS, rEqNil, nox_K]
    refine ⟨by decide, ?_⟩
    intro f n_f; generalize g_H1 : upd H f _ = H1; obtain ⟨s_H1, h_f⟩ := new_facts n_f g_H1; clear g_H1
    have hp1 := hp.same s_H1
    rw [eN]
    clear eN N
    refine seq_gen fun N eN => ?_
    try simp only [tSeq, tNext, tRet, tRetN, tAsg, gName, gSub, tDrop, tIfS, tOp, tUn, tCB, tCons, tNil, tC, tVar, rI, rI0, rU, tAnd, tOr, tNot, tAndV, tOrV, tNotV, tIf, tTest, tB, tCall, tChain, tLst, tTup, tYes, rIxH, rIsB, rIsBT, rMulS, kd_non, kd_bl, kd_int, kd_str, kd_ref, kdO_lst, kdO_tup, kdO_dK, nq_n, nq_b, nq_i, nq_s, nq_l, nq_t, nq_d, ne_eq, not_false_eq_true, kit_ss, kit_ns, kit_bs, kit_is, kit_ls, kit_ts, kit_ds, kit_bb, V.ty.injEq, and_assoc, rIxU, rLenH, rLenU, rLenS, rInt1, rSetL, rEq, rNe, rCat, L2.start, List.map, List.length, List.length_cons, List.length_nil, List.replicate, List.getElem?_cons_zero, List.getElem?_cons_succ, List.set_cons_zero, List.set_cons_succ, List.set_nil, List.cons_append, List.nil_append, List.append_nil, Option.some.injEq, V.int.injEq, V.ref.injEq, V.str.injEq, V.bl.injEq, HO.lst.injEq, HO.tup.injEq, exists_eq_left', exists_and_left, exists_eq_left, List.cons.injEq, and_true, true_and, and_false, false_and, and_self, reduceCtorEq, exists_false, or_false, false_or, exists_const, at0, at1, at2, at3, at4, at5, ix51, ix52, ix54, upd_same, Nat.reduceAdd, Nat.reduceSub, Nat.zero_add, Int.reduceToNat, Int.reduceLE, Int.reduceLT, decide_eq_true_eq, Bool.not_eq_true, if_true, if_false, Bool.false_eq_true, ite_true, ite_false, Bool.not_true, Bool.not_false, decide_true, decide_false, tFor_eq, tLc_eq, iList, iTup, iRng1, iRng2, iStr, tSl, tPart, tNoPart, rSlL, cxOf_K, wipe, ex_ty2, kit_LTl, kit_LTt, kit_LTd, kit_LTs, kit_LTn, kit_LTb, kit_LTi, tM1, rIxS, exists_eq', lt1p, tDNewK, rSlS, rEqNil, nox_K]
    refine ⟨p, l, 4, _, rfl, by decide, by decide, hp1, by omega, fun m H2 m0 m1 hp2 off2 => ?_⟩
    obtain ⟨m, rfl⟩ : ∃ n : Nat, m = (n : Int) := ⟨m.toNat, (Int.toNat_of_nonneg m0).symm⟩
    have hm := int62 (m := (m : Int)) (by omega) (by omega)
    have nf := hp.np n_f
    have hf2 : H2 f = some (.lst []) := by rw [off2 f nf.1 nf.2]; exact h_f
    refine ⟨_, rfl, hm.1, hm.2, ?_⟩
    rw [Int.toNat_natCast]
    have o2 : OffS p l H H2 := (same_off s_H1).trans (Off.s off2)
    refine for_go (walk_rangeY (lo := 0) (n := m)) (LPar p l f H (c + 1)) ⟨_, _, [], rfl, hp2, o2, hf2, by decide, List.nodup_nil, fun _ h => by cases h⟩ (fun _ _ _ _ _ => trivial) (fun i x σ H3 hx q => ?_) (fun σ H3 q => ?_)
    · obtain ⟨v2, v3, qs, rfl, hp3, o3, hf3, ql, qn, qb⟩ := q
      obtain ⟨rfl, hi⟩ := rng_item hx
      refine seq_gen fun N2 eN2 => ?_
      try simp only [tSeq, tNext, tRet, tRetN, tAsg, gName, gSub, tDrop, tIfS, tOp, tUn, tCB, tCons, tNil, tC, tVar, rI, rI0, rU, tAnd, tOr, tNot, tAndV, tOrV, tNotV, tIf, tTest, tB, tCall, tChain, tLst, tTup, tYes, rIxH, rIsB, rIsBT, rMulS, kd_non, kd_bl, kd_int, kd_str, kd_ref, kdO_lst, kdO_tup, kdO_dK, nq_n, nq_b, nq_i, nq_s, nq_l, nq_t, nq_d, ne_eq, not_false_eq_true, kit_ss, kit_ns, kit_bs, kit_is, kit_ls, kit_ts, kit_ds, kit_bb, V.ty.injEq, and_assoc, rIxU, rLenH, rLenU, rLenS, rInt1, rSetL, rEq, rNe, rCat, L2.start, List.map, List.length, List.length_cons, List.length_nil, List.replicate, List.getElem?_cons_zero, List.getElem?_cons_succ, List.set_cons_zero, List.set_cons_succ, List.set_nil, List.cons_append, List.nil_append, List.append_nil, Option.some.injEq, V.int.injEq, V.ref.injEq, V.str.injEq, V.bl.injEq, HO.lst.injEq, HO.tup.injEq, exists_eq_left', exists_and_left, exists_eq_left, List.cons.injEq, and_true, true_and, and_false, false_and, and_self, reduceCtorEq, exists_false, or_false, false_or, exists_const, at0, at1, at2, at3, at4, at5, ix51, ix52, ix54, upd_same, Nat.reduceAdd, Nat.reduceSub, Nat.zero_add, Int.reduceToNat, Int.reduceLE, Int.reduceLT, decide_eq_true_eq, Bool.not_eq_true, if_true, if_false, Bool.false_eq_true, ite_true, ite_false, Bool.not_true, Bool.not_false, decide_true, decide_false, tFor_eq, tLc_eq, iList, iTup, iRng1, iRng2, iStr, tSl, tPart, tNoPart, rSlL, cxOf_K, wipe, ex_ty2, kit_LTl, kit_LTt, kit_LTd, kit_LTs, kit_LTn, kit_LTb, kit_LTi, tM1, rIxS, exists_eq', lt1p, tDNewK, rSlS, rEqNil, nox_K]
      refine ⟨⟨by decide, by decide, by decide⟩, by decide, ?_⟩
      intro p1 n_p1; generalize g_H4 : upd H3 p1 _ = H4; obtain ⟨s_H4, h_p1⟩ := new_facts n_p1 g_H4; clear g_H4
      have hp4 := hp3.same s_H4
      refine ⟨p, l, 2, _, rfl, by decide, by decide, hp4, by omega, fun u H5 u0 u1 hp5 off5 => ?_⟩
      have n1 := hp3.np n_p1
      have e5 : H5 p1 = _ := (off5 p1 n1.1 n1.2).trans h_p1
      obtain ⟨v, hv, hm, _⟩ := atI_ex (xs := [V.int 4, V.int (10 ^ 20)]) (i := u) u0 (by show _ < (2 : Int); exact u1)
      obtain ⟨mm, rfl, hm0, hm1⟩ : ∃ n : Int, v = .int n ∧ 0 < n ∧ n ≤ 100000000000000000000 := by
        simp only [List.mem_cons, List.not_mem_nil, or_false] at hm
        rcases hm with rfl | rfl
        · exact ⟨_, rfl, by decide, by decide⟩
        · exact ⟨_, rfl, by decide, by decide⟩
      refine ⟨_, u, rfl, e5, _, hv, ?_⟩
      refine ⟨p, l, mm, _, rfl, hm0, Int.lt_of_le_of_lt hm1 (by decide), hp5, by omega, fun y H6 y0 y1 hp6 off6 => ?_⟩
      have o36 : OffS p l H3 H6 := (same_off s_H4).trans ((Off.s off5).trans (Off.s off6))
      have hf6 := o36 _ _ nf.1 nf.2 hf3
      dsimp only
      rw [eN2]
      clear eN2 N2
      try simp only [tSeq, tNext, tRet, tRetN, tAsg, gName, gSub, tDrop, tIfS, tOp, tUn, tCB, tCons, tNil, tC, tVar, rI, rI0, rU, tAnd, tOr, tNot, tAndV, tOrV, tNotV, tIf, tTest, tB, tCall, tChain, tLst, tTup, tYes, rIxH, rIsB, rIsBT, rMulS, kd_non, kd_bl, kd_int, kd_str, kd_ref, kdO_lst, kdO_tup, kdO_dK, nq_n, nq_b, nq_i, nq_s, nq_l, nq_t, nq_d, ne_eq, not_false_eq_true, kit_ss, kit_ns, kit_bs, kit_is, kit_ls, kit_ts, kit_ds, kit_bb, V.ty.injEq, and_assoc, rIxU, rLenH, rLenU, rLenS, rInt1, rSetL, rEq, rNe, rCat, L2.start, List.map, List.length, List.length_cons, List.length_nil, List.replicate, List.getElem?_cons_zero, List.getElem?_cons_succ, List.set_cons_zero, List.set_cons_succ, List.set_nil, List.cons_append, List.nil_append, List.append_nil, Option.some.injEq, V.int.injEq, V.ref.injEq, V.str.injEq, V.bl.injEq, HO.lst.injEq, HO.tup.injEq, exists_eq_left', exists_and_left, exists_eq_left, List.cons.injEq, and_true, true_and, and_false, false_and, and_self, reduceCtorEq, exists_false, or_false, false_or, exists_const, at0, at1, at2, at3, at4, at5, ix51, ix52, ix54, upd_same, Nat.reduceAdd, Nat.reduceSub, Nat.zero_add, Int.reduceToNat, Int.reduceLE, Int.reduceLT, decide_eq_true_eq, Bool.not_eq_true, if_true, if_false, Bool.false_eq_true, ite_true, ite_false, Bool.not_true, Bool.not_false, decide_true, decide_false, tFor_eq, tLc_eq, iList, iTup, iRng1, iRng2, iStr, tSl, tPart, tNoPart, rSlL, cxOf_K, wipe, ex_ty2, kit_LTl, kit_LTt, kit_LTd, kit_LTs, kit_LTn, kit_LTb, kit_LTi, tM1, rIxS, exists_eq', lt1p, tDNewK, rSlS, rEqNil, nox_K]
      refine ⟨f, _, rfl, .inl (SqL.of hf6), rfl, flat_ints qs, ?_⟩
      rw [in_ints]
      refine ⟨_, rfl, ?_⟩
      by_cases hin : y ∈ qs
      · rw [decide_eq_true hin]
        try simp only [tSeq, tNext, tRet, tRetN, tAsg, gName, gSub, tDrop, tIfS, tOp, tUn, tCB, tCons, tNil, tC, tVar, rI, rI0, rU, tAnd, tOr, tNot, tAndV, tOrV, tNotV, tIf, tTest, tB, tCall, tChain, tLst, tTup, tYes, rIxH, rIsB, rIsBT, rMulS, kd_non, kd_bl, kd_int, kd_str, kd_ref, kdO_lst, kdO_tup, kdO_dK, nq_n, nq_b, nq_i, nq_s, nq_l, nq_t, nq_d, ne_eq, not_false_eq_true, kit_ss, kit_ns, kit_bs, kit_is, kit_ls, kit_ts, kit_ds, kit_bb, V.ty.injEq, and_assoc, rIxU, rLenH, rLenU, rLenS, rInt1, rSetL, rEq, rNe, rCat, L2.start, List.map, List.length, List.length_cons, List.length_nil, List.replicate, List.getElem?_cons_zero, List.getElem?_cons_succ, List.set_cons_zero, List.set_cons_succ, List.set_nil, List.cons_append, List.nil_append, List.append_nil, Option.some.injEq, V.int.injEq, V.ref.injEq, V.str.injEq, V.bl.injEq, HO.lst.injEq, HO.tup.injEq, exists_eq_left', exists_and_left, exists_eq_left, List.cons.injEq, and_true, true_and, and_false, false_and, and_self, reduceCtorEq, exists_false, or_false, false_or, exists_const, at0, at1, at2, at3, at4, at5, ix51, ix52, ix54, upd_same, Nat.reduceAdd, Nat.reduceSub, Nat.zero_add, Int.reduceToNat, Int.reduceLE, Int.reduceLT, decide_eq_true_eq, Bool.not_eq_true, if_true, if_false, Bool.false_eq_true, ite_true, ite_false, Bool.not_true, Bool.not_false, decide_true, decide_false, tFor_eq, tLc_eq, iList, iTup, iRng1, iRng2, iStr, tSl, tPart, tNoPart, rSlL, cxOf_K, wipe, ex_ty2, kit_LTl, kit_LTt, kit_LTd, kit_LTs, kit_LTn, kit_LTb, kit_LTi, tM1, rIxS, exists_eq', lt1p, tDNewK, rSlS, rEqNil, nox_K]
        exact ⟨_, _, qs, rfl, hp6.mono (by omega), o3.trans o36, hf6, by omega, qn, qb⟩
      · rw [decide_eq_false hin]
        try simp only [tSeq, tNext, tRet, tRetN, tAsg, gName, gSub, tDrop, tIfS, tOp, tUn, tCB, tCons, tNil, tC, tVar, rI, rI0, rU, tAnd, tOr, tNot, tAndV, tOrV, tNotV, tIf, tTest, tB, tCall, tChain, tLst, tTup, tYes, rIxH, rIsB, rIsBT, rMulS, kd_non, kd_bl, kd_int, kd_str, kd_ref, kdO_lst, kdO_tup, kdO_dK, nq_n, nq_b, nq_i, nq_s, nq_l, nq_t, nq_d, ne_eq, not_false_eq_true, kit_ss, kit_ns, kit_bs, kit_is, kit_ls, kit_ts, kit_ds, kit_bb, V.ty.injEq, and_assoc, rIxU, rLenH, rLenU, rLenS, rInt1, rSetL, rEq, rNe, rCat, L2.start, List.map, List.length, List.length_cons, List.length_nil, List.replicate, List.getElem?_cons_zero, List.getElem?_cons_succ, List.set_cons_zero, List.set_cons_succ, List.set_nil, List.cons_append, List.nil_append, List.append_nil, Option.some.injEq, V.int.injEq, V.ref.injEq, V.str.injEq, V.bl.injEq, HO.lst.injEq, HO.tup.injEq, exists_eq_left', exists_and_left, exists_eq_left, List.cons.injEq, and_true, true_and, and_false, false_and, and_self, reduceCtorEq, exists_false, or_false, false_or, exists_const, at0, at1, at2, at3, at4, at5, ix51, ix52, ix54, upd_same, Nat.reduceAdd, Nat.reduceSub, Nat.zero_add, Int.reduceToNat, Int.reduceLE, Int.reduceLT, decide_eq_true_eq, Bool.not_eq_true, if_true, if_false, Bool.false_eq_true, ite_true, ite_false, Bool.not_true, Bool.not_false, decide_true, decide_false, tFor_eq, tLc_eq, iList, iTup, iRng1, iRng2, iStr, tSl, tPart, tNoPart, rSlL, cxOf_K, wipe, ex_ty2, kit_LTl, kit_LTt, kit_LTd, kit_LTs, kit_LTn, kit_LTb, kit_LTi, tM1, rIxS, exists_eq', lt1p, tDNewK, rSlS, rEqNil, nox_K]
        refine ⟨_, rfl, ?_⟩
        refine ⟨.inl ⟨rfl, _, SqL.of hf6⟩, ?_⟩
        try simp only [tSeq, tNext, tRet, tRetN, tAsg, gName, gSub, tDrop, tIfS, tOp, tUn, tCB, tCons, tNil, tC, tVar, rI, rI0, rU, tAnd, tOr, tNot, tAndV, tOrV, tNotV, tIf, tTest, tB, tCall, tChain, tLst, tTup, tYes, rIxH, rIsB, rIsBT, rMulS, kd_non, kd_bl, kd_int, kd_str, kd_ref, kdO_lst, kdO_tup, kdO_dK, nq_n, nq_b, nq_i, nq_s, nq_l, nq_t, nq_d, ne_eq, not_false_eq_true, kit_ss, kit_ns, kit_bs, kit_is, kit_ls, kit_ts, kit_ds, kit_bb, V.ty.injEq, and_assoc, rIxU, rLenH, rLenU, rLenS, rInt1, rSetL, rEq, rNe, rCat, L2.start, List.map, List.length, List.length_cons, List.length_nil, List.replicate, List.getElem?_cons_zero, List.getElem?_cons_succ, List.set_cons_zero, List.set_cons_succ, List.set_nil, List.cons_append, List.nil_append, List.append_nil, Option.some.injEq, V.int.injEq, V.ref.injEq, V.str.injEq, V.bl.injEq, HO.lst.injEq, HO.tup.injEq, exists_eq_left', exists_and_left, exists_eq_left, List.cons.injEq, and_true, true_and, and_false, false_and, and_self, reduceCtorEq, exists_false, or_false, false_or, exists_const, at0, at1, at2, at3, at4, at5, ix51, ix52, ix54, upd_same, Nat.reduceAdd, Nat.reduceSub, Nat.zero_add, Int.reduceToNat, Int.reduceLE, Int.reduceLT, decide_eq_true_eq, Bool.not_eq_true, if_true, if_false, Bool.false_eq_true, ite_true, ite_false, Bool.not_true, Bool.not_false, decide_true, decide_false, tFor_eq, tLc_eq, iList, iTup, iRng1, iRng2, iStr, tSl, tPart, tNoPart, rSlL, cxOf_K, wipe, ex_ty2, kit_LTl, kit_LTt, kit_LTd, kit_LTs, kit_LTn, kit_LTb, kit_LTi, tM1, rIxS, exists_eq', lt1p, tDNewK, rSlS, rEqNil, nox_K, rAppend]
        refine ⟨_, hf6, Nat.lt_of_le_of_lt (m := 1000) (by rw [List.length_map]; omega) (by decide), ?_⟩
        have npf := (hp6.np (q := f))
        refine ⟨_, _, qs ++ [y], rfl, ?_, ?_, by rw [upd_same, List.map_append]; rfl, by rw [List.length_append, List.length_singleton]; omega, ?_, ?_⟩
        · obtain ⟨ns, t, n, z, yy, h1, h2, h3⟩ := hp6
          exact PoolAt.mono ⟨ns, t, n, z, yy, by rw [upd_ne nf.1.symm]; exact h1, by rw [upd_ne nf.2.symm]; exact h2, h3⟩ (by omega)
        · intro b o b1 b2 e
          rw [upd_ne (ne_of_none e n_f)]
          exact o3.trans o36 b o b1 b2 e
        · exact List.nodup_append.mpr ⟨qn, List.nodup_cons.mpr ⟨List.not_mem_nil, List.nodup_nil⟩, fun a ha b hb e => hin (by rw [List.mem_singleton.mp hb] at e; exact e ▸ ha)⟩
        · intro z hz
          rcases List.mem_append.mp hz with h | h
          · exact qb z h
          · rw [List.mem_singleton.mp h]
            exact ⟨y0, by omega⟩
    · obtain ⟨v2, v3, qs, rfl, hp3, o3, hf3, ql, qn, qb⟩ := q
      rw [rngV_len] at hp3 ql
      try simp only [tSeq, tNext, tRet, tRetN, tAsg, gName, gSub, tDrop, tIfS, tOp, tUn, tCB, tCons, tNil, tC, tVar, rI, rI0, rU, tAnd, tOr, tNot, tAndV, tOrV, tNotV, tIf, tTest, tB, tCall, tChain, tLst, tTup, tYes, rIxH, rIsB, rIsBT, rMulS, kd_non, kd_bl, kd_int, kd_str, kd_ref, kdO_lst, kdO_tup, kdO_dK, nq_n, nq_b, nq_i, nq_s, nq_l, nq_t, nq_d, ne_eq, not_false_eq_true, kit_ss, kit_ns, kit_bs, kit_is, kit_ls, kit_ts, kit_ds, kit_bb, V.ty.injEq, and_assoc, rIxU, rLenH, rLenU, rLenS, rInt1, rSetL, rEq, rNe, rCat, L2.start, List.map, List.length, List.length_cons, List.length_nil, List.replicate, List.getElem?_cons_zero, List.getElem?_cons_succ, List.set_cons_zero, List.set_cons_succ, List.set_nil, List.cons_append, List.nil_append, List.append_nil, Option.some.injEq, V.int.injEq, V.ref.injEq, V.str.injEq, V.bl.injEq, HO.lst.injEq, HO.tup.injEq, exists_eq_left', exists_and_left, exists_eq_left, List.cons.injEq, and_true, true_and, and_false, false_and, and_self, reduceCtorEq, exists_false, or_false, false_or, exists_const, at0, at1, at2, at3, at4, at5, ix51, ix52, ix54, upd_same, Nat.reduceAdd, Nat.reduceSub, Nat.zero_add, Int.reduceToNat, Int.reduceLE, Int.reduceLT, decide_eq_true_eq, Bool.not_eq_true, if_true, if_false, Bool.false_eq_true, ite_true, ite_false, Bool.not_true, Bool.not_false, decide_true, decide_false, tFor_eq, tLc_eq, iList, iTup, iRng1, iRng2, iStr, tSl, tPart, tNoPart, rSlL, cxOf_K, wipe, ex_ty2, kit_LTl, kit_LTt, kit_LTd, kit_LTs, kit_LTn, kit_LTb, kit_LTi, tM1, rIxS, exists_eq', lt1p, tDNewK, rSlS, rEqNil, nox_K]
      rw [eN]
      clear eN N
      try simp only [tSeq, tNext, tRet, tRetN, tAsg, gName, gSub, tDrop, tIfS, tOp, tUn, tCB, tCons, tNil, tC, tVar, rI, rI0, rU, tAnd, tOr, tNot, tAndV, tOrV, tNotV, tIf, tTest, tB, tCall, tChain, tLst, tTup, tYes, rIxH, rIsB, rIsBT, rMulS, kd_non, kd_bl, kd_int, kd_str, kd_ref, kdO_lst, kdO_tup, kdO_dK, nq_n, nq_b, nq_i, nq_s, nq_l, nq_t, nq_d, ne_eq, not_false_eq_true, kit_ss, kit_ns, kit_bs, kit_is, kit_ls, kit_ts, kit_ds, kit_bb, V.ty.injEq, and_assoc, rIxU, rLenH, rLenU, rLenS, rInt1, rSetL, rEq, rNe, rCat, L2.start, List.map, List.length, List.length_cons, List.length_nil, List.replicate, List.getElem?_cons_zero, List.getElem?_cons_succ, List.set_cons_zero, List.set_cons_succ, List.set_nil, List.cons_append, List.nil_append, List.append_nil, Option.some.injEq, V.int.injEq, V.ref.injEq, V.str.injEq, V.bl.injEq, HO.lst.injEq, HO.tup.injEq, exists_eq_left', exists_and_left, exists_eq_left, List.cons.injEq, and_true, true_and, and_false, false_and, and_self, reduceCtorEq, exists_false, or_false, false_or, exists_const, at0, at1, at2, at3, at4, at5, ix51, ix52, ix54, upd_same, Nat.reduceAdd, Nat.reduceSub, Nat.zero_add, Int.reduceToNat, Int.reduceLE, Int.reduceLT, decide_eq_true_eq, Bool.not_eq_true, if_true, if_false, Bool.false_eq_true, ite_true, ite_false, Bool.not_true, Bool.not_false, decide_true, decide_false, tFor_eq, tLc_eq, iList, iTup, iRng1, iRng2, iStr, tSl, tPart, tNoPart, rSlL, cxOf_K, wipe, ex_ty2, kit_LTl, kit_LTt, kit_LTd, kit_LTs, kit_LTn, kit_LTb, kit_LTi, tM1, rIxS, exists_eq', lt1p, tDNewK, rSlS, rEqNil, nox_K]
      exact k H3 f qs n_f (hp3.mono (by omega)) o3 hf3 (by omega) qn qb
end



section
variable {X : Cx}
theorem mem_bools {hp : Heap} : ∀ {bs : List Bool} {its : List Value}, Vals (bs.map V.bl) its → ReadsAll hp its (bs.map PyData.bool) []
  | [], _, h => by cases h; exact .nil
  | b :: r, _, h => by
    cases h with
    | cons h1 h2 =>
      cases h1
      exact .cons (as := []) (.bool b) (mem_bools h2)
theorem count_bools (k : Bool) : ∀ bs : List Bool, Spec.countIn (.bool k) (bs.map PyData.bool) = (bs.count k : Nat)
  | [] => rfl
  | b :: r => by
    rw [List.map_cons, Spec.countIn, count_bools k r, List.count_cons]
    cases b <;> cases k <;> simp [Spec.same] <;> omega
def rCountB : V → List V → Hp → VK → Prop := fun x xs H Q => ∃ (a : Addr) (bs : List Bool) (k : Bool), x = V.ref a ∧ xs = [.bl k] ∧ H a = some (.lst (bs.map V.bl)) ∧ Q (.int (bs.count k : Nat)) H
theorem mt_countB : MtR X "list.count" rCountB := by
  intro pins s σ H x xs v us Q I rx rxs h
  obtain ⟨a, bs, k, rfl, rfl, hs, q⟩ := h
  cases rx
  cases rxs with
  | cons ry rt =>
    cases ry
    cases rt
    obtain ⟨its, rv, ⟨o, n, ho, hc, hdn, hd⟩, hlen⟩ := I.list (SqL.of hs)
    refine PyProof.Rows.count_list_bools (vs := its) (xs := bs.map PyData.bool) (as := []) (hp := s.heap) ⟨o, ho, hc, n, hd⟩ (mem_bools rv) (by simp [Spec.Shape.has]) ?_
    rw [count_bools]
    exact ⟨.int (bs.count k : Nat), H, I.tok _, ⟨_, rfl⟩, q⟩
end

/-! ### _law_kind, _law_caught -/
def words : List Str := ["number", "text", "name", "parents", "version", "history", "layout", "prices", "telling", "deeds", "line", "ranges", "command", "parse", "many", "undo"]
def wordOf (j : Nat) : Str := words.getD j Str.empty
def spKind (K : PySem.W.Frag) (A : Adr) : Sp := fun vs H Q _ => ∃ (a D dd : Addr) (fs : List (Str × V)) (j : Nat), vs = [.ref a] ∧ H a = some (XO (.ref D) (some dd) a) ∧ H dd = some (.xd fs) ∧ KindAt K (errAt A) A.k_LineError A.k_TooMany A.k_NothingToUndo D j ∧ ∀ H', Same H H' → Q (.str (wordOf j)) H'
def kb (j : Nat) : List Bool := (List.range 16).map fun i => decide (i = j)
theorem kb_count {j : Nat} (h : j < 13) : (((kb j).count true : Nat) : Int) = 1 := by
  rcases j with _ | _ | _ | _ | _ | _ | _ | _ | _ | _ | _ | _ | _ | j <;> first | decide | omega
theorem kb_at {j : Nat} (h : j < 13) : ((kb j).map V.bl)[j]? = some (.bl true) := by
  rcases j with _ | _ | _ | _ | _ | _ | _ | _ | _ | _ | _ | _ | _ | j <;> first | rfl | omega
theorem kb_not {j : Nat} (h : j < 13) : ∀ (m : Nat) (z' : V), m < j → ((kb j).map V.bl)[m]? = some z' → eqV z' (.bl true) = false := fun m z' hm e => by
  have hm16 : m < 16 := by omega
  unfold kb at e
  rw [List.map_map, List.getElem?_map, List.getElem?_range hm16] at e
  have e := Option.some.inj e
  subst e
  show eqV (.bl (decide (m = j))) (.bl true) = false
  rw [decide_eq_false (by omega)]
  rfl
theorem words_at {j : Nat} (h : j < 13) : atI (words.map V.str) (j : Int) = some (.str (wordOf j)) := by
  refine atI_nat ?_
  rw [List.getElem?_map]
  rcases j with _ | _ | _ | _ | _ | _ | _ | _ | _ | _ | _ | _ | _ | j <;> first | rfl | omega
section
variable {w : World} {K : PySem.W.Frag} {mg : Str → Option Value} {base : Heap} {A : Adr}
theorem ok_kind (T : Txt K mg A) : FnOk PW w K mg base CX0 1 A.a_LawKind A.d_LawKind ["_law_error"] (spKind K A) := by
  refine T.f_LawKind.ok scLawKind (fun vs H Q E h => ?_) (fun cdv A' outer s H vs Q E hr h => ?_)
  · obtain ⟨a, D, dd, fs, j, rfl, _⟩ := h
    rfl
  · obtain ⟨a, D, dd, fs, j, rfl, ha, hd, hk, k⟩ := h
    refine ⟨_, (pss_cons (ps_set (i := 1) scLawKind.nd rfl (Or.inl rfl) (pe_lst (pa_cons (pe_callB call_isX (by rfl) T.z_isinstance (by decide +kernel) (pa_cons (pv 0) (pa_cons (pe_glob (v := .ref A.k_InvalidNumber) (by rfl) T.k_InvalidNumber rfl) pa_nil))) (pa_cons (pe_callB call_isX (by rfl) T.z_isinstance (by decide +kernel) (pa_cons (pv 0) (pa_cons (pe_glob (v := .ref A.k_InvalidText) (by rfl) T.k_InvalidText rfl) pa_nil))) (pa_cons (pe_callB call_isX (by rfl) T.z_isinstance (by decide +kernel) (pa_cons (pv 0) (pa_cons (pe_glob (v := .ref A.k_InvalidName) (by rfl) T.k_InvalidName rfl) pa_nil))) pa_nil)))))
      (pss_cons (ps_set (i := 1) scLawKind.nd rfl (Or.inl rfl) (pe_op op_cat (pv 1) (pe_lst (pa_cons (pe_callB call_isX (by rfl) T.z_isinstance (by decide +kernel) (pa_cons (pv 0) (pa_cons (pe_glob (v := .ref A.k_InvalidParents) (by rfl) T.k_InvalidParents rfl) pa_nil))) (pa_cons (pe_callB call_isX (by rfl) T.z_isinstance (by decide +kernel) (pa_cons (pv 0) (pa_cons (pe_glob (v := .ref A.k_InvalidVersion) (by rfl) T.k_InvalidVersion rfl) pa_nil))) pa_nil)))))
      (pss_cons (ps_set (i := 1) scLawKind.nd rfl (Or.inl rfl) (pe_op op_cat (pv 1) (pe_lst (pa_cons (pe_callB call_isX (by rfl) T.z_isinstance (by decide +kernel) (pa_cons (pv 0) (pa_cons (pe_glob (v := .ref A.k_InvalidHistory) (by rfl) T.k_InvalidHistory rfl) pa_nil))) (pa_cons (pe_callB call_isX (by rfl) T.z_isinstance (by decide +kernel) (pa_cons (pv 0) (pa_cons (pe_glob (v := .ref A.k_InvalidLayout) (by rfl) T.k_InvalidLayout rfl) pa_nil))) pa_nil)))))
      (pss_cons (ps_set (i := 1) scLawKind.nd rfl (Or.inl rfl) (pe_op op_cat (pv 1) (pe_lst (pa_cons (pe_callB call_isX (by rfl) T.z_isinstance (by decide +kernel) (pa_cons (pv 0) (pa_cons (pe_glob (v := .ref A.k_InvalidPrices) (by rfl) T.k_InvalidPrices rfl) pa_nil))) (pa_cons (pe_callB call_isX (by rfl) T.z_isinstance (by decide +kernel) (pa_cons (pv 0) (pa_cons (pe_glob (v := .ref A.k_InvalidTelling) (by rfl) T.k_InvalidTelling rfl) pa_nil))) pa_nil)))))
      (pss_cons (ps_set (i := 1) scLawKind.nd rfl (Or.inl rfl) (pe_op op_cat (pv 1) (pe_lst (pa_cons (pe_callB call_isX (by rfl) T.z_isinstance (by decide +kernel) (pa_cons (pv 0) (pa_cons (pe_glob (v := .ref A.k_InvalidDeeds) (by rfl) T.k_InvalidDeeds rfl) pa_nil))) (pa_cons (pe_callB call_isX (by rfl) T.z_isinstance (by decide +kernel) (pa_cons (pv 0) (pa_cons (pe_glob (v := .ref A.k_InvalidLine) (by rfl) T.k_InvalidLine rfl) pa_nil))) pa_nil)))))
      (pss_cons (ps_set (i := 1) scLawKind.nd rfl (Or.inl rfl) (pe_op op_cat (pv 1) (pe_lst (pa_cons (pe_callB call_isX (by rfl) T.z_isinstance (by decide +kernel) (pa_cons (pv 0) (pa_cons (pe_glob (v := .ref A.k_InvalidRanges) (by rfl) T.k_InvalidRanges rfl) pa_nil))) (pa_cons (pe_callB call_isX (by rfl) T.z_isinstance (by decide +kernel) (pa_cons (pv 0) (pa_cons (pe_glob (v := .ref A.k_InvalidCommand) (by rfl) T.k_InvalidCommand rfl) pa_nil))) pa_nil)))))
      (pss_cons (ps_set (i := 1) scLawKind.nd rfl (Or.inl rfl) (pe_op op_cat (pv 1) (pe_lst (pa_cons (pe_callB call_isX (by rfl) T.z_isinstance (by decide +kernel) (pa_cons (pv 0) (pa_cons (pe_glob (v := .ref A.k_ParseError) (by rfl) T.k_ParseError rfl) pa_nil))) (pa_cons (pe_callB call_isX (by rfl) T.z_isinstance (by decide +kernel) (pa_cons (pv 0) (pa_cons (pe_glob (v := .ref A.k_TooMany) (by rfl) T.k_TooMany rfl) pa_nil))) (pa_cons (pe_callB call_isX (by rfl) T.z_isinstance (by decide +kernel) (pa_cons (pv 0) (pa_cons (pe_glob (v := .ref A.k_NothingToUndo) (by rfl) T.k_NothingToUndo rfl) pa_nil))) pa_nil))))))
      (pss_cons (ps_if (PW.pt (pw_or (pt_cmpR (op_ne) (pe_bm PySem.F.plainAttrs_list PySem.F.slot_list_count PySem.F.type_list_count mt_countB (pv 1) (pa_cons pe_bl pa_nil)) pe_int (nomark _)) (pw_or1 (pt_cmpR (op_ne) (pe_callB call_isX (by rfl) T.z_isinstance (by decide +kernel) (pa_cons (pv 0) (pa_cons (pe_bltn (v := .ty "ValueError") (by rfl) T.z_ValueError (by decide +kernel) rfl) pa_nil))) (pe_cmpR (op_lt) (pe_bm PySem.F.plainAttrs_list PySem.F.slot_list_index PySem.F.type_list_index mt_index (pv 1) (pa_cons pe_bl pa_nil)) pe_int (nomark _)) (nomark _))))) (pss_one (ps_ret pe_str)) pss_nil)
      (pss_cons (ps_set (i := 2) scLawKind.nd rfl (Or.inl rfl) (pe_lst (pa_cons pe_str (pa_cons pe_str (pa_cons pe_str (pa_cons pe_str (pa_cons pe_str (pa_cons pe_str (pa_cons pe_str (pa_cons pe_str (pa_cons pe_str (pa_cons pe_str pa_nil))))))))))))
      (pss_one (ps_ret (pe_ix ix_lstH (pe_op op_cat (pv 2) (pe_lst (pa_cons pe_str (pa_cons pe_str (pa_cons pe_str (pa_cons pe_str (pa_cons pe_str (pa_cons pe_str pa_nil)))))))) (pe_bm PySem.F.plainAttrs_list PySem.F.slot_list_index PySem.F.type_list_index mt_index (pv 1) (pa_cons pe_bl pa_nil)) (fun _ _ => rfl))))))))))))), ?_⟩
    have isx : ∀ (H' : Hp), Same H H' → ∀ i, i < 16 → ∀ Q : VK, Q (.bl (decide (i = j))) H' → rIsX K [.ref a, .ref (errAt A i)] H' Q := fun H' s i hi Q q => ⟨a, D, dd, fs, _, _, _, rfl, s _ _ ha, s _ _ hd, hk.xi, clsV_ref, hk.kit i hi, q⟩
    have isv : ∀ (H' : Hp), Same H H' → ∀ Q : VK, Q (.bl true) H' → rIsX K [.ref a, .ty "ValueError"] H' Q := fun H' s Q q => ⟨a, D, dd, fs, _, _, _, rfl, s _ _ ha, s _ _ hd, hk.xi, clsV_ty, hk.ve, q⟩
    have r0 := Same.refl H
    try simp only [tSeq, tNext, tRet, tRetN, tAsg, gName, gSub, tDrop, tIfS, tOp, tUn, tCB, tCons, tNil, tC, tVar, rI, rI0, rU, tAnd, tOr, tNot, tAndV, tOrV, tNotV, tIf, tTest, tB, tCall, tChain, tLst, tTup, tYes, rIxH, rIsB, rIsBT, rMulS, kd_non, kd_bl, kd_int, kd_str, kd_ref, kdO_lst, kdO_tup, kdO_dK, nq_n, nq_b, nq_i, nq_s, nq_l, nq_t, nq_d, ne_eq, not_false_eq_true, kit_ss, kit_ns, kit_bs, kit_is, kit_ls, kit_ts, kit_ds, kit_bb, V.ty.injEq, and_assoc, rIxU, rLenH, rLenU, rLenS, rInt1, rSetL, rEq, rNe, rCat, L2.start, List.map, List.length, List.length_cons, List.length_nil, List.replicate, List.getElem?_cons_zero, List.getElem?_cons_succ, List.set_cons_zero, List.set_cons_succ, List.set_nil, List.cons_append, List.nil_append, List.append_nil, Option.some.injEq, V.int.injEq, V.ref.injEq, V.str.injEq, V.bl.injEq, HO.lst.injEq, HO.tup.injEq, exists_eq_left', exists_and_left, exists_eq_left, List.cons.injEq, and_true, true_and, and_false, false_and, and_self, reduceCtorEq, exists_false, or_false, false_or, exists_const, at0, at1, at2, at3, at4, at5, ix51, ix52, ix54, upd_same, Nat.reduceAdd, Nat.reduceSub, Nat.zero_add, Int.reduceToNat, Int.reduceLE, Int.reduceLT, decide_eq_true_eq, Bool.not_eq_true, if_true, if_false, Bool.false_eq_true, ite_true, ite_false, Bool.not_true, Bool.not_false, decide_true, decide_false, tFor_eq, tLc_eq, iList, iTup, iRng1, iRng2, iStr, tSl, tPart, tNoPart, rSlL, cxOf_K, wipe, ex_ty2, kit_LTl, kit_LTt, kit_LTd, kit_LTs, kit_LTn, kit_LTb, kit_LTi, tM1, rIxS, exists_eq', lt1p, tDNewK, rSlS, rEqNil, nox_K]
    refine isx H r0 0 (by decide) _ (isx H r0 1 (by decide) _ (isx H r0 2 (by decide) _ ?_))
    refine ⟨by decide, ?_⟩
    intro p1 n_p1; generalize g_H1 : upd H p1 _ = H1; obtain ⟨s_H1, h_p1⟩ := new_facts n_p1 g_H1; clear g_H1
    have r1 := s_H1
    refine isx H1 r1 3 (by decide) _ (isx H1 r1 4 (by decide) _ ?_)
    refine ⟨by decide, ?_⟩
    intro p2 n_p2; generalize g_H2 : upd H1 p2 _ = H2; obtain ⟨s_H2, h_p2⟩ := new_facts n_p2 g_H2; clear g_H2
    have r2 := r1.trans s_H2
    try simp only [tSeq, tNext, tRet, tRetN, tAsg, gName, gSub, tDrop, tIfS, tOp, tUn, tCB, tCons, tNil, tC, tVar, rI, rI0, rU, tAnd, tOr, tNot, tAndV, tOrV, tNotV, tIf, tTest, tB, tCall, tChain, tLst, tTup, tYes, rIxH, rIsB, rIsBT, rMulS, kd_non, kd_bl, kd_int, kd_str, kd_ref, kdO_lst, kdO_tup, kdO_dK, nq_n, nq_b, nq_i, nq_s, nq_l, nq_t, nq_d, ne_eq, not_false_eq_true, kit_ss, kit_ns, kit_bs, kit_is, kit_ls, kit_ts, kit_ds, kit_bb, V.ty.injEq, and_assoc, rIxU, rLenH, rLenU, rLenS, rInt1, rSetL, rEq, rNe, rCat, L2.start, List.map, List.length, List.length_cons, List.length_nil, List.replicate, List.getElem?_cons_zero, List.getElem?_cons_succ, List.set_cons_zero, List.set_cons_succ, List.set_nil, List.cons_append, List.nil_append, List.append_nil, Option.some.injEq, V.int.injEq, V.ref.injEq, V.str.injEq, V.bl.injEq, HO.lst.injEq, HO.tup.injEq, exists_eq_left', exists_and_left, exists_eq_left, List.cons.injEq, and_true, true_and, and_false, false_and, and_self, reduceCtorEq, exists_false, or_false, false_or, exists_const, at0, at1, at2, at3, at4, at5, ix51, ix52, ix54, upd_same, Nat.reduceAdd, Nat.reduceSub, Nat.zero_add, Int.reduceToNat, Int.reduceLE, Int.reduceLT, decide_eq_true_eq, Bool.not_eq_true, if_true, if_false, Bool.false_eq_true, ite_true, ite_false, Bool.not_true, Bool.not_false, decide_true, decide_false, tFor_eq, tLc_eq, iList, iTup, iRng1, iRng2, iStr, tSl, tPart, tNoPart, rSlL, cxOf_K, wipe, ex_ty2, kit_LTl, kit_LTt, kit_LTd, kit_LTs, kit_LTn, kit_LTb, kit_LTi, tM1, rIxS, exists_eq', lt1p, tDNewK, rSlS, rEqNil, s_H2 _ _ h_p1, h_p2]
    refine ⟨by decide, ?_⟩
    intro p3 n_p3; generalize g_H3 : upd H2 p3 _ = H3; obtain ⟨s_H3, h_p3⟩ := new_facts n_p3 g_H3; clear g_H3
    have r3 := r2.trans s_H3
    refine isx H3 r3 5 (by decide) _ (isx H3 r3 6 (by decide) _ ?_)
    refine ⟨by decide, ?_⟩
    intro p4 n_p4; generalize g_H4 : upd H3 p4 _ = H4; obtain ⟨s_H4, h_p4⟩ := new_facts n_p4 g_H4; clear g_H4
    have r4 := r3.trans s_H4
    try simp only [tSeq, tNext, tRet, tRetN, tAsg, gName, gSub, tDrop, tIfS, tOp, tUn, tCB, tCons, tNil, tC, tVar, rI, rI0, rU, tAnd, tOr, tNot, tAndV, tOrV, tNotV, tIf, tTest, tB, tCall, tChain, tLst, tTup, tYes, rIxH, rIsB, rIsBT, rMulS, kd_non, kd_bl, kd_int, kd_str, kd_ref, kdO_lst, kdO_tup, kdO_dK, nq_n, nq_b, nq_i, nq_s, nq_l, nq_t, nq_d, ne_eq, not_false_eq_true, kit_ss, kit_ns, kit_bs, kit_is, kit_ls, kit_ts, kit_ds, kit_bb, V.ty.injEq, and_assoc, rIxU, rLenH, rLenU, rLenS, rInt1, rSetL, rEq, rNe, rCat, L2.start, List.map, List.length, List.length_cons, List.length_nil, List.replicate, List.getElem?_cons_zero, List.getElem?_cons_succ, List.set_cons_zero, List.set_cons_succ, List.set_nil, List.cons_append, List.nil_append, List.append_nil, Option.some.injEq, V.int.injEq, V.ref.injEq, V.str.injEq, V.bl.injEq, HO.lst.injEq, HO.tup.injEq, exists_eq_left', exists_and_left, exists_eq_left, List.cons.injEq, and_true, true_and, and_false, false_and, and_self, reduceCtorEq, exists_false, or_false, false_or, exists_const, at0, at1, at2, at3, at4, at5, ix51, ix52, ix54, upd_same, Nat.reduceAdd, Nat.reduceSub, Nat.zero_add, Int.reduceToNat, Int.reduceLE, Int.reduceLT, decide_eq_true_eq, Bool.not_eq_true, if_true, if_false, Bool.false_eq_true, ite_true, ite_false, Bool.not_true, Bool.not_false, decide_true, decide_false, tFor_eq, tLc_eq, iList, iTup, iRng1, iRng2, iStr, tSl, tPart, tNoPart, rSlL, cxOf_K, wipe, ex_ty2, kit_LTl, kit_LTt, kit_LTd, kit_LTs, kit_LTn, kit_LTb, kit_LTi, tM1, rIxS, exists_eq', lt1p, tDNewK, rSlS, rEqNil, s_H4 _ _ h_p3, h_p4]
    refine ⟨by decide, ?_⟩
    intro p5 n_p5; generalize g_H5 : upd H4 p5 _ = H5; obtain ⟨s_H5, h_p5⟩ := new_facts n_p5 g_H5; clear g_H5
    have r5 := r4.trans s_H5
    refine isx H5 r5 7 (by decide) _ (isx H5 r5 8 (by decide) _ ?_)
    refine ⟨by decide, ?_⟩
    intro p6 n_p6; generalize g_H6 : upd H5 p6 _ = H6; obtain ⟨s_H6, h_p6⟩ := new_facts n_p6 g_H6; clear g_H6
    have r6 := r5.trans s_H6
    try simp only [tSeq, tNext, tRet, tRetN, tAsg, gName, gSub, tDrop, tIfS, tOp, tUn, tCB, tCons, tNil, tC, tVar, rI, rI0, rU, tAnd, tOr, tNot, tAndV, tOrV, tNotV, tIf, tTest, tB, tCall, tChain, tLst, tTup, tYes, rIxH, rIsB, rIsBT, rMulS, kd_non, kd_bl, kd_int, kd_str, kd_ref, kdO_lst, kdO_tup, kdO_dK, nq_n, nq_b, nq_i, nq_s, nq_l, nq_t, nq_d, ne_eq, not_false_eq_true, kit_ss, kit_ns, kit_bs, kit_is, kit_ls, kit_ts, kit_ds, kit_bb, V.ty.injEq, and_assoc, rIxU, rLenH, rLenU, rLenS, rInt1, rSetL, rEq, rNe, rCat, L2.start, List.map, List.length, List.length_cons, List.length_nil, List.replicate, List.getElem?_cons_zero, List.getElem?_cons_succ, List.set_cons_zero, List.set_cons_succ, List.set_nil, List.cons_append, List.nil_append, List.append_nil, Option.some.injEq, V.int.injEq, V.ref.injEq, V.str.injEq, V.bl.injEq, HO.lst.injEq, HO.tup.injEq, exists_eq_left', exists_and_left, exists_eq_left, List.cons.injEq, and_true, true_and, and_false, false_and, and_self, reduceCtorEq, exists_false, or_false, false_or, exists_const, at0, at1, at2, at3, at4, at5, ix51, ix52, ix54, upd_same, Nat.reduceAdd, Nat.reduceSub, Nat.zero_add, Int.reduceToNat, Int.reduceLE, Int.reduceLT, decide_eq_true_eq, Bool.not_eq_true, if_true, if_false, Bool.false_eq_true, ite_true, ite_false, Bool.not_true, Bool.not_false, decide_true, decide_false, tFor_eq, tLc_eq, iList, iTup, iRng1, iRng2, iStr, tSl, tPart, tNoPart, rSlL, cxOf_K, wipe, ex_ty2, kit_LTl, kit_LTt, kit_LTd, kit_LTs, kit_LTn, kit_LTb, kit_LTi, tM1, rIxS, exists_eq', lt1p, tDNewK, rSlS, rEqNil, s_H6 _ _ h_p5, h_p6]
    refine ⟨by decide, ?_⟩
    intro p7 n_p7; generalize g_H7 : upd H6 p7 _ = H7; obtain ⟨s_H7, h_p7⟩ := new_facts n_p7 g_H7; clear g_H7
    have r7 := r6.trans s_H7
    refine isx H7 r7 9 (by decide) _ (isx H7 r7 10 (by decide) _ ?_)
    refine ⟨by decide, ?_⟩
    intro p8 n_p8; generalize g_H8 : upd H7 p8 _ = H8; obtain ⟨s_H8, h_p8⟩ := new_facts n_p8 g_H8; clear g_H8
    have r8 := r7.trans s_H8
    try simp only [tSeq, tNext, tRet, tRetN, tAsg, gName, gSub, tDrop, tIfS, tOp, tUn, tCB, tCons, tNil, tC, tVar, rI, rI0, rU, tAnd, tOr, tNot, tAndV, tOrV, tNotV, tIf, tTest, tB, tCall, tChain, tLst, tTup, tYes, rIxH, rIsB, rIsBT, rMulS, kd_non, kd_bl, kd_int, kd_str, kd_ref, kdO_lst, kdO_tup, kdO_dK, nq_n, nq_b, nq_i, nq_s, nq_l, nq_t, nq_d, ne_eq, not_false_eq_true, kit_ss, kit_ns, kit_bs, kit_is, kit_ls, kit_ts, kit_ds, kit_bb, V.ty.injEq, and_assoc, rIxU, rLenH, rLenU, rLenS, rInt1, rSetL, rEq, rNe, rCat, L2.start, List.map, List.length, List.length_cons, List.length_nil, List.replicate, List.getElem?_cons_zero, List.getElem?_cons_succ, List.set_cons_zero, List.set_cons_succ, List.set_nil, List.cons_append, List.nil_append, List.append_nil, Option.some.injEq, V.int.injEq, V.ref.injEq, V.str.injEq, V.bl.injEq, HO.lst.injEq, HO.tup.injEq, exists_eq_left', exists_and_left, exists_eq_left, List.cons.injEq, and_true, true_and, and_false, false_and, and_self, reduceCtorEq, exists_false, or_false, false_or, exists_const, at0, at1, at2, at3, at4, at5, ix51, ix52, ix54, upd_same, Nat.reduceAdd, Nat.reduceSub, Nat.zero_add, Int.reduceToNat, Int.reduceLE, Int.reduceLT, decide_eq_true_eq, Bool.not_eq_true, if_true, if_false, Bool.false_eq_true, ite_true, ite_false, Bool.not_true, Bool.not_false, decide_true, decide_false, tFor_eq, tLc_eq, iList, iTup, iRng1, iRng2, iStr, tSl, tPart, tNoPart, rSlL, cxOf_K, wipe, ex_ty2, kit_LTl, kit_LTt, kit_LTd, kit_LTs, kit_LTn, kit_LTb, kit_LTi, tM1, rIxS, exists_eq', lt1p, tDNewK, rSlS, rEqNil, s_H8 _ _ h_p7, h_p8]
    refine ⟨by decide, ?_⟩
    intro p9 n_p9; generalize g_H9 : upd H8 p9 _ = H9; obtain ⟨s_H9, h_p9⟩ := new_facts n_p9 g_H9; clear g_H9
    have r9 := r8.trans s_H9
    refine isx H9 r9 11 (by decide) _ (isx H9 r9 12 (by decide) _ ?_)
    refine ⟨by decide, ?_⟩
    intro p10 n_p10; generalize g_H10 : upd H9 p10 _ = H10; obtain ⟨s_H10, h_p10⟩ := new_facts n_p10 g_H10; clear g_H10
    have r10 := r9.trans s_H10
    try simp only [tSeq, tNext, tRet, tRetN, tAsg, gName, gSub, tDrop, tIfS, tOp, tUn, tCB, tCons, tNil, tC, tVar, rI, rI0, rU, tAnd, tOr, tNot, tAndV, tOrV, tNotV, tIf, tTest, tB, tCall, tChain, tLst, tTup, tYes, rIxH, rIsB, rIsBT, rMulS, kd_non, kd_bl, kd_int, kd_str, kd_ref, kdO_lst, kdO_tup, kdO_dK, nq_n, nq_b, nq_i, nq_s, nq_l, nq_t, nq_d, ne_eq, not_false_eq_true, kit_ss, kit_ns, kit_bs, kit_is, kit_ls, kit_ts, kit_ds, kit_bb, V.ty.injEq, and_assoc, rIxU, rLenH, rLenU, rLenS, rInt1, rSetL, rEq, rNe, rCat, L2.start, List.map, List.length, List.length_cons, List.length_nil, List.replicate, List.getElem?_cons_zero, List.getElem?_cons_succ, List.set_cons_zero, List.set_cons_succ, List.set_nil, List.cons_append, List.nil_append, List.append_nil, Option.some.injEq, V.int.injEq, V.ref.injEq, V.str.injEq, V.bl.injEq, HO.lst.injEq, HO.tup.injEq, exists_eq_left', exists_and_left, exists_eq_left, List.cons.injEq, and_true, true_and, and_false, false_and, and_self, reduceCtorEq, exists_false, or_false, false_or, exists_const, at0, at1, at2, at3, at4, at5, ix51, ix52, ix54, upd_same, Nat.reduceAdd, Nat.reduceSub, Nat.zero_add, Int.reduceToNat, Int.reduceLE, Int.reduceLT, decide_eq_true_eq, Bool.not_eq_true, if_true, if_false, Bool.false_eq_true, ite_true, ite_false, Bool.not_true, Bool.not_false, decide_true, decide_false, tFor_eq, tLc_eq, iList, iTup, iRng1, iRng2, iStr, tSl, tPart, tNoPart, rSlL, cxOf_K, wipe, ex_ty2, kit_LTl, kit_LTt, kit_LTd, kit_LTs, kit_LTn, kit_LTb, kit_LTi, tM1, rIxS, exists_eq', lt1p, tDNewK, rSlS, rEqNil, s_H10 _ _ h_p9, h_p10]
    refine ⟨by decide, ?_⟩
    intro p11 n_p11; generalize g_H11 : upd H10 p11 _ = H11; obtain ⟨s_H11, h_p11⟩ := new_facts n_p11 g_H11; clear g_H11
    have r11 := r10.trans s_H11
    refine isx H11 r11 13 (by decide) _ (isx H11 r11 14 (by decide) _ (isx H11 r11 15 (by decide) _ ?_))
    refine ⟨by decide, ?_⟩
    intro p12 n_p12; generalize g_H12 : upd H11 p12 _ = H12; obtain ⟨s_H12, h_p12⟩ := new_facts n_p12 g_H12; clear g_H12
    have r12 := r11.trans s_H12
    try simp only [tSeq, tNext, tRet, tRetN, tAsg, gName, gSub, tDrop, tIfS, tOp, tUn, tCB, tCons, tNil, tC, tVar, rI, rI0, rU, tAnd, tOr, tNot, tAndV, tOrV, tNotV, tIf, tTest, tB, tCall, tChain, tLst, tTup, tYes, rIxH, rIsB, rIsBT, rMulS, kd_non, kd_bl, kd_int, kd_str, kd_ref, kdO_lst, kdO_tup, kdO_dK, nq_n, nq_b, nq_i, nq_s, nq_l, nq_t, nq_d, ne_eq, not_false_eq_true, kit_ss, kit_ns, kit_bs, kit_is, kit_ls, kit_ts, kit_ds, kit_bb, V.ty.injEq, and_assoc, rIxU, rLenH, rLenU, rLenS, rInt1, rSetL, rEq, rNe, rCat, L2.start, List.map, List.length, List.length_cons, List.length_nil, List.replicate, List.getElem?_cons_zero, List.getElem?_cons_succ, List.set_cons_zero, List.set_cons_succ, List.set_nil, List.cons_append, List.nil_append, List.append_nil, Option.some.injEq, V.int.injEq, V.ref.injEq, V.str.injEq, V.bl.injEq, HO.lst.injEq, HO.tup.injEq, exists_eq_left', exists_and_left, exists_eq_left, List.cons.injEq, and_true, true_and, and_false, false_and, and_self, reduceCtorEq, exists_false, or_false, false_or, exists_const, at0, at1, at2, at3, at4, at5, ix51, ix52, ix54, upd_same, Nat.reduceAdd, Nat.reduceSub, Nat.zero_add, Int.reduceToNat, Int.reduceLE, Int.reduceLT, decide_eq_true_eq, Bool.not_eq_true, if_true, if_false, Bool.false_eq_true, ite_true, ite_false, Bool.not_true, Bool.not_false, decide_true, decide_false, tFor_eq, tLc_eq, iList, iTup, iRng1, iRng2, iStr, tSl, tPart, tNoPart, rSlL, cxOf_K, wipe, ex_ty2, kit_LTl, kit_LTt, kit_LTd, kit_LTs, kit_LTn, kit_LTb, kit_LTi, tM1, rIxS, exists_eq', lt1p, tDNewK, rSlS, rEqNil, s_H12 _ _ h_p11, h_p12]
    refine ⟨by decide, ?_⟩
    intro p13 n_p13; generalize g_H13 : upd H12 p13 _ = H13; obtain ⟨s_H13, h_p13⟩ := new_facts n_p13 g_H13; clear g_H13
    have r13 := r12.trans s_H13
    have hl : H13 p13 = some (.lst ((kb j).map V.bl)) := h_p13
    clear h_p13
    try simp only [tSeq, tNext, tRet, tRetN, tAsg, gName, gSub, tDrop, tIfS, tOp, tUn, tCB, tCons, tNil, tC, tVar, rI, rI0, rU, tAnd, tOr, tNot, tAndV, tOrV, tNotV, tIf, tTest, tB, tCall, tChain, tLst, tTup, tYes, rIxH, rIsB, rIsBT, rMulS, kd_non, kd_bl, kd_int, kd_str, kd_ref, kdO_lst, kdO_tup, kdO_dK, nq_n, nq_b, nq_i, nq_s, nq_l, nq_t, nq_d, ne_eq, not_false_eq_true, kit_ss, kit_ns, kit_bs, kit_is, kit_ls, kit_ts, kit_ds, kit_bb, V.ty.injEq, and_assoc, rIxU, rLenH, rLenU, rLenS, rInt1, rSetL, rEq, rNe, rCat, L2.start, List.map, List.length, List.length_cons, List.length_nil, List.replicate, List.getElem?_cons_zero, List.getElem?_cons_succ, List.set_cons_zero, List.set_cons_succ, List.set_nil, List.cons_append, List.nil_append, List.append_nil, Option.some.injEq, V.int.injEq, V.ref.injEq, V.str.injEq, V.bl.injEq, HO.lst.injEq, HO.tup.injEq, exists_eq_left', exists_and_left, exists_eq_left, List.cons.injEq, and_true, true_and, and_false, false_and, and_self, reduceCtorEq, exists_false, or_false, false_or, exists_const, at0, at1, at2, at3, at4, at5, ix51, ix52, ix54, upd_same, Nat.reduceAdd, Nat.reduceSub, Nat.zero_add, Int.reduceToNat, Int.reduceLE, Int.reduceLT, decide_eq_true_eq, Bool.not_eq_true, if_true, if_false, Bool.false_eq_true, ite_true, ite_false, Bool.not_true, Bool.not_false, decide_true, decide_false, tFor_eq, tLc_eq, iList, iTup, iRng1, iRng2, iStr, tSl, tPart, tNoPart, rSlL, cxOf_K, wipe, ex_ty2, kit_LTl, kit_LTt, kit_LTd, kit_LTs, kit_LTn, kit_LTb, kit_LTi, tM1, rIxS, exists_eq', lt1p, tDNewK, rSlS, rEqNil]
    refine ⟨_, rfl, Or.inl ⟨rfl, _, SqL.of hl⟩, p13, kb j, true, rfl, rfl, hl, ?_⟩
    rw [kb_count hk.lt]
    try simp only [tSeq, tNext, tRet, tRetN, tAsg, gName, gSub, tDrop, tIfS, tOp, tUn, tCB, tCons, tNil, tC, tVar, rI, rI0, rU, tAnd, tOr, tNot, tAndV, tOrV, tNotV, tIf, tTest, tB, tCall, tChain, tLst, tTup, tYes, rIxH, rIsB, rIsBT, rMulS, kd_non, kd_bl, kd_int, kd_str, kd_ref, kdO_lst, kdO_tup, kdO_dK, nq_n, nq_b, nq_i, nq_s, nq_l, nq_t, nq_d, ne_eq, not_false_eq_true, kit_ss, kit_ns, kit_bs, kit_is, kit_ls, kit_ts, kit_ds, kit_bb, V.ty.injEq, and_assoc, rIxU, rLenH, rLenU, rLenS, rInt1, rSetL, rEq, rNe, rCat, L2.start, List.map, List.length, List.length_cons, List.length_nil, List.replicate, List.getElem?_cons_zero, List.getElem?_cons_succ, List.set_cons_zero, List.set_cons_succ, List.set_nil, List.cons_append, List.nil_append, List.append_nil, Option.some.injEq, V.int.injEq, V.ref.injEq, V.str.injEq, V.bl.injEq, HO.lst.injEq, HO.tup.injEq, exists_eq_left', exists_and_left, exists_eq_left, List.cons.injEq, and_true, true_and, and_false, false_and, and_self, reduceCtorEq, exists_false, or_false, false_or, exists_const, at0, at1, at2, at3, at4, at5, ix51, ix52, ix54, upd_same, Nat.reduceAdd, Nat.reduceSub, Nat.zero_add, Int.reduceToNat, Int.reduceLE, Int.reduceLT, decide_eq_true_eq, Bool.not_eq_true, if_true, if_false, Bool.false_eq_true, ite_true, ite_false, Bool.not_true, Bool.not_false, decide_true, decide_false, tFor_eq, tLc_eq, iList, iTup, iRng1, iRng2, iStr, tSl, tPart, tNoPart, rSlL, cxOf_K, wipe, ex_ty2, kit_LTl, kit_LTt, kit_LTd, kit_LTs, kit_LTn, kit_LTb, kit_LTi, tM1, rIxS, exists_eq', lt1p, tDNewK, rSlS, rEqNil, scal_int]
    refine isv H13 r13 _ ?_
    have hix : ∀ (H' : Hp), Same H13 H' → ∀ Q : VK, Q (.int (j : Int)) H' → rIndex K (.ref p13) [.bl true] H' Q := fun H' s Q q => ⟨p13, _, _, j, _, rfl, rfl, SqL.of (s _ _ hl), rfl, by
      rw [List.all_eq_true]
      intro v hv
      obtain ⟨b, _, rfl⟩ := List.mem_map.mp hv
      rfl, kb_at hk.lt, rfl, kb_not hk.lt, q⟩
    refine ⟨_, rfl, Or.inl ⟨rfl, _, SqL.of hl⟩, ?_⟩
    try simp only [tSeq, tNext, tRet, tRetN, tAsg, gName, gSub, tDrop, tIfS, tOp, tUn, tCB, tCons, tNil, tC, tVar, rI, rI0, rU, tAnd, tOr, tNot, tAndV, tOrV, tNotV, tIf, tTest, tB, tCall, tChain, tLst, tTup, tYes, rIxH, rIsB, rIsBT, rMulS, kd_non, kd_bl, kd_int, kd_str, kd_ref, kdO_lst, kdO_tup, kdO_dK, nq_n, nq_b, nq_i, nq_s, nq_l, nq_t, nq_d, ne_eq, not_false_eq_true, kit_ss, kit_ns, kit_bs, kit_is, kit_ls, kit_ts, kit_ds, kit_bb, V.ty.injEq, and_assoc, rIxU, rLenH, rLenU, rLenS, rInt1, rSetL, rEq, rNe, rCat, L2.start, List.map, List.length, List.length_cons, List.length_nil, List.replicate, List.getElem?_cons_zero, List.getElem?_cons_succ, List.set_cons_zero, List.set_cons_succ, List.set_nil, List.cons_append, List.nil_append, List.append_nil, Option.some.injEq, V.int.injEq, V.ref.injEq, V.str.injEq, V.bl.injEq, HO.lst.injEq, HO.tup.injEq, exists_eq_left', exists_and_left, exists_eq_left, List.cons.injEq, and_true, true_and, and_false, false_and, and_self, reduceCtorEq, exists_false, or_false, false_or, exists_const, at0, at1, at2, at3, at4, at5, ix51, ix52, ix54, upd_same, Nat.reduceAdd, Nat.reduceSub, Nat.zero_add, Int.reduceToNat, Int.reduceLE, Int.reduceLT, decide_eq_true_eq, Bool.not_eq_true, if_true, if_false, Bool.false_eq_true, ite_true, ite_false, Bool.not_true, Bool.not_false, decide_true, decide_false, tFor_eq, tLc_eq, iList, iTup, iRng1, iRng2, iStr, tSl, tPart, tNoPart, rSlL, cxOf_K, wipe, ex_ty2, kit_LTl, kit_LTt, kit_LTd, kit_LTs, kit_LTn, kit_LTb, kit_LTi, tM1, rIxS, exists_eq', lt1p, tDNewK, rSlS, rEqNil]
    refine hix H13 (Same.refl _) _ ?_
    have l14 : (j : Int) < 14 := by have := hk.lt; omega
    try simp only [tSeq, tNext, tRet, tRetN, tAsg, gName, gSub, tDrop, tIfS, tOp, tUn, tCB, tCons, tNil, tC, tVar, rI, rI0, rU, tAnd, tOr, tNot, tAndV, tOrV, tNotV, tIf, tTest, tB, tCall, tChain, tLst, tTup, tYes, rIxH, rIsB, rIsBT, rMulS, kd_non, kd_bl, kd_int, kd_str, kd_ref, kdO_lst, kdO_tup, kdO_dK, nq_n, nq_b, nq_i, nq_s, nq_l, nq_t, nq_d, ne_eq, not_false_eq_true, kit_ss, kit_ns, kit_bs, kit_is, kit_ls, kit_ts, kit_ds, kit_bb, V.ty.injEq, and_assoc, rIxU, rLenH, rLenU, rLenS, rInt1, rSetL, rEq, rNe, rCat, L2.start, List.map, List.length, List.length_cons, List.length_nil, List.replicate, List.getElem?_cons_zero, List.getElem?_cons_succ, List.set_cons_zero, List.set_cons_succ, List.set_nil, List.cons_append, List.nil_append, List.append_nil, Option.some.injEq, V.int.injEq, V.ref.injEq, V.str.injEq, V.bl.injEq, HO.lst.injEq, HO.tup.injEq, exists_eq_left', exists_and_left, exists_eq_left, List.cons.injEq, and_true, true_and, and_false, false_and, and_self, reduceCtorEq, exists_false, or_false, false_or, exists_const, at0, at1, at2, at3, at4, at5, ix51, ix52, ix54, upd_same, Nat.reduceAdd, Nat.reduceSub, Nat.zero_add, Int.reduceToNat, Int.reduceLE, Int.reduceLT, decide_eq_true_eq, Bool.not_eq_true, if_true, if_false, Bool.false_eq_true, ite_true, ite_false, Bool.not_true, Bool.not_false, decide_true, decide_false, tFor_eq, tLc_eq, iList, iTup, iRng1, iRng2, iStr, tSl, tPart, tNoPart, rSlL, cxOf_K, wipe, ex_ty2, kit_LTl, kit_LTt, kit_LTd, kit_LTs, kit_LTn, kit_LTb, kit_LTi, tM1, rIxS, exists_eq', lt1p, tDNewK, rSlS, rEqNil, l14, scal_bl]
    refine ⟨by decide, ?_⟩
    intro p14 n_p14; generalize g_H14 : upd H13 p14 _ = H14; obtain ⟨s_H14, h_p14⟩ := new_facts n_p14 g_H14; clear g_H14
    refine ⟨by decide, ?_⟩
    intro p15 n_p15; generalize g_H15 : upd H14 p15 _ = H15; obtain ⟨s_H15, h_p15⟩ := new_facts n_p15 g_H15; clear g_H15
    try simp only [tSeq, tNext, tRet, tRetN, tAsg, gName, gSub, tDrop, tIfS, tOp, tUn, tCB, tCons, tNil, tC, tVar, rI, rI0, rU, tAnd, tOr, tNot, tAndV, tOrV, tNotV, tIf, tTest, tB, tCall, tChain, tLst, tTup, tYes, rIxH, rIsB, rIsBT, rMulS, kd_non, kd_bl, kd_int, kd_str, kd_ref, kdO_lst, kdO_tup, kdO_dK, nq_n, nq_b, nq_i, nq_s, nq_l, nq_t, nq_d, ne_eq, not_false_eq_true, kit_ss, kit_ns, kit_bs, kit_is, kit_ls, kit_ts, kit_ds, kit_bb, V.ty.injEq, and_assoc, rIxU, rLenH, rLenU, rLenS, rInt1, rSetL, rEq, rNe, rCat, L2.start, List.map, List.length, List.length_cons, List.length_nil, List.replicate, List.getElem?_cons_zero, List.getElem?_cons_succ, List.set_cons_zero, List.set_cons_succ, List.set_nil, List.cons_append, List.nil_append, List.append_nil, Option.some.injEq, V.int.injEq, V.ref.injEq, V.str.injEq, V.bl.injEq, HO.lst.injEq, HO.tup.injEq, exists_eq_left', exists_and_left, exists_eq_left, List.cons.injEq, and_true, true_and, and_false, false_and, and_self, reduceCtorEq, exists_false, or_false, false_or, exists_const, at0, at1, at2, at3, at4, at5, ix51, ix52, ix54, upd_same, Nat.reduceAdd, Nat.reduceSub, Nat.zero_add, Int.reduceToNat, Int.reduceLE, Int.reduceLT, decide_eq_true_eq, Bool.not_eq_true, if_true, if_false, Bool.false_eq_true, ite_true, ite_false, Bool.not_true, Bool.not_false, decide_true, decide_false, tFor_eq, tLc_eq, iList, iTup, iRng1, iRng2, iStr, tSl, tPart, tNoPart, rSlL, cxOf_K, wipe, ex_ty2, kit_LTl, kit_LTt, kit_LTd, kit_LTs, kit_LTn, kit_LTb, kit_LTi, tM1, rIxS, exists_eq', lt1p, tDNewK, rSlS, rEqNil, s_H15 _ _ h_p14, h_p15]
    refine ⟨by decide, ?_⟩
    intro p16 n_p16; generalize g_H16 : upd H15 p16 _ = H16; obtain ⟨s_H16, h_p16⟩ := new_facts n_p16 g_H16; clear g_H16
    have s16 := (s_H14.trans s_H15).trans s_H16
    refine ⟨_, rfl, Or.inl ⟨rfl, _, SqL.of (s16 _ _ hl)⟩, ?_⟩
    try simp only [tSeq, tNext, tRet, tRetN, tAsg, gName, gSub, tDrop, tIfS, tOp, tUn, tCB, tCons, tNil, tC, tVar, rI, rI0, rU, tAnd, tOr, tNot, tAndV, tOrV, tNotV, tIf, tTest, tB, tCall, tChain, tLst, tTup, tYes, rIxH, rIsB, rIsBT, rMulS, kd_non, kd_bl, kd_int, kd_str, kd_ref, kdO_lst, kdO_tup, kdO_dK, nq_n, nq_b, nq_i, nq_s, nq_l, nq_t, nq_d, ne_eq, not_false_eq_true, kit_ss, kit_ns, kit_bs, kit_is, kit_ls, kit_ts, kit_ds, kit_bb, V.ty.injEq, and_assoc, rIxU, rLenH, rLenU, rLenS, rInt1, rSetL, rEq, rNe, rCat, L2.start, List.map, List.length, List.length_cons, List.length_nil, List.replicate, List.getElem?_cons_zero, List.getElem?_cons_succ, List.set_cons_zero, List.set_cons_succ, List.set_nil, List.cons_append, List.nil_append, List.append_nil, Option.some.injEq, V.int.injEq, V.ref.injEq, V.str.injEq, V.bl.injEq, HO.lst.injEq, HO.tup.injEq, exists_eq_left', exists_and_left, exists_eq_left, List.cons.injEq, and_true, true_and, and_false, false_and, and_self, reduceCtorEq, exists_false, or_false, false_or, exists_const, at0, at1, at2, at3, at4, at5, ix51, ix52, ix54, upd_same, Nat.reduceAdd, Nat.reduceSub, Nat.zero_add, Int.reduceToNat, Int.reduceLE, Int.reduceLT, decide_eq_true_eq, Bool.not_eq_true, if_true, if_false, Bool.false_eq_true, ite_true, ite_false, Bool.not_true, Bool.not_false, decide_true, decide_false, tFor_eq, tLc_eq, iList, iTup, iRng1, iRng2, iStr, tSl, tPart, tNoPart, rSlL, cxOf_K, wipe, ex_ty2, kit_LTl, kit_LTt, kit_LTd, kit_LTs, kit_LTn, kit_LTb, kit_LTi, tM1, rIxS, exists_eq', lt1p, tDNewK, rSlS, rEqNil]
    refine hix H16 s16 _ ?_
    have hw : H16 p16 = some (.lst (words.map V.str)) := h_p16
    try simp only [tSeq, tNext, tRet, tRetN, tAsg, gName, gSub, tDrop, tIfS, tOp, tUn, tCB, tCons, tNil, tC, tVar, rI, rI0, rU, tAnd, tOr, tNot, tAndV, tOrV, tNotV, tIf, tTest, tB, tCall, tChain, tLst, tTup, tYes, rIxH, rIsB, rIsBT, rMulS, kd_non, kd_bl, kd_int, kd_str, kd_ref, kdO_lst, kdO_tup, kdO_dK, nq_n, nq_b, nq_i, nq_s, nq_l, nq_t, nq_d, ne_eq, not_false_eq_true, kit_ss, kit_ns, kit_bs, kit_is, kit_ls, kit_ts, kit_ds, kit_bb, V.ty.injEq, and_assoc, rIxU, rLenH, rLenU, rLenS, rInt1, rSetL, rEq, rNe, rCat, L2.start, List.map, List.length, List.length_cons, List.length_nil, List.replicate, List.getElem?_cons_zero, List.getElem?_cons_succ, List.set_cons_zero, List.set_cons_succ, List.set_nil, List.cons_append, List.nil_append, List.append_nil, Option.some.injEq, V.int.injEq, V.ref.injEq, V.str.injEq, V.bl.injEq, HO.lst.injEq, HO.tup.injEq, exists_eq_left', exists_and_left, exists_eq_left, List.cons.injEq, and_true, true_and, and_false, false_and, and_self, reduceCtorEq, exists_false, or_false, false_or, exists_const, at0, at1, at2, at3, at4, at5, ix51, ix52, ix54, upd_same, Nat.reduceAdd, Nat.reduceSub, Nat.zero_add, Int.reduceToNat, Int.reduceLE, Int.reduceLT, decide_eq_true_eq, Bool.not_eq_true, if_true, if_false, Bool.false_eq_true, ite_true, ite_false, Bool.not_true, Bool.not_false, decide_true, decide_false, tFor_eq, tLc_eq, iList, iTup, iRng1, iRng2, iStr, tSl, tPart, tNoPart, rSlL, cxOf_K, wipe, ex_ty2, kit_LTl, kit_LTt, kit_LTd, kit_LTs, kit_LTn, kit_LTb, kit_LTi, tM1, rIxS, exists_eq', lt1p, tDNewK, rSlS, rEqNil, hw, words_at hk.lt]
    exact k _ (r13.trans s16)
/-- what _law_caught tells: of a call that comes back; of one that raises -/
def CaughtX (K : PySem.W.Frag) (A : Adr) (Q : VK) : XK := fun cls d H2 => ∃ (D dd : Addr) (v : V) (j : Nat) (dt : PyData), cls = .ref D ∧ d = some dd ∧ H2 dd = some (.xd [("value", v)]) ∧ KindAt K (errAt A) A.k_LineError A.k_TooMany A.k_NothingToUndo D j ∧
  Dx K H2 v dt ∧ dt.showable = true ∧ dt.shown.length ≤ sizeLine ∧ dt.depth ≤ 20 ∧ ∀ H3 l, Same H2 H3 → H2 l = none → H3 l = some (.lst [.str (wordOf j), .str dt.shown]) → Q (.ref l) H3
def CaughtN (Q : VK) : VK := fun _ H2 => ∀ H3 l, Same H2 H3 → H2 l = none → H3 l = some (.lst [.str "none", .str "None"]) → Q (.ref l) H3
def TTc (K : PySem.W.Frag) (A : Adr) : (XK → Hp → VK → Prop) → Hp → VK → Prop := fun tl H Q => tl (CaughtX K A Q) H (CaughtN Q)
theorem Dp.same {K : PySem.W.Frag} {H H' : Hp} (s : Same H H') : ∀ {v : V} {d : PyData}, Dp K H v d → Dp K H' v d := by
  intro v d h
  refine Dp.rec (motive_1 := fun v d _ => Dp K H' v d) (motive_2 := fun vs ds _ => DpAll K H' vs ds) .non (fun b => .bl b) (fun i => .int i) (fun x => .str x) (fun h _ ih => .lst (s.seq h) ih) (fun h _ ih => .tup (Same.tup s h) ih) .nil (fun _ _ ih1 ih2 => .cons ih1 ih2) h
theorem Dx.same {K : PySem.W.Frag} {H H' : Hp} (s : Same H H') {v : V} {d : PyData} (h : Dx K H v d) : Dx K H' v d := by
  rcases h with ⟨h, n⟩ | ⟨a, rfl, h, rfl⟩
  · exact .inl ⟨Dp.same s h, n⟩
  · exact .inr ⟨a, rfl, s _ _ h, rfl⟩
theorem word_no {j : Nat} (h : j < 13) : ¬ wordOf j = Str.ofString "parse" ∧ ¬ wordOf j = Str.ofString "many" ∧ ¬ wordOf j = Str.ofString "odd" ∧ ¬ wordOf j = Str.ofString "undo" := by
  rcases j with _ | _ | _ | _ | _ | _ | _ | _ | _ | _ | _ | _ | _ | j <;> first | decide +kernel | omega
theorem word_in {j : Nat} (h : j < 13) : inV (V.str (wordOf j)) [V.str (Str.ofString "odd"), V.str (Str.ofString "undo")] = false := by
  rcases j with _ | _ | _ | _ | _ | _ | _ | _ | _ | _ | _ | _ | _ | j <;> first | decide +kernel | omega
theorem caught_gives (T : Txt K mg A) (gLawKind : FnOk PW w K mg base CX0 1 A.a_LawKind A.d_LawKind ["_law_error"] (spKind K A)) {N : List Str} {qual : Str} {scope : Scope} {f : Addr} {cd cdv : Value} {A' : Around} {outer : List Env} {s : Shared} {H : Hp} {E : XK} {q : Str}
    (hr : Room 4 (cxOf CX0 PW w K mg base N qual scope f cd A' outer s H E).nox.A) (hG : (cxOf CX0 PW w K mg base N qual scope f cd A' outer s H E).nox.A.guards = some []) :
    GivesC (cxOf CX0 PW w K mg base N qual scope f cd A' outer s H E).nox nLawCaught "_law_caught" (defScope sLawCaught) A.a_LawCaught cdv (defBody sLawCaught) "_law_call" q (TTc K A) := by
  intro f2 c2 s2 H2 Q tl act hc h
  have hr := hr.deeper (PyProof.Rows.envOfC "_law_caught" (defScope sLawCaught) s2.heap.objs.size A.a_LawCaught cdv)
  have hG : (cxC (cxOf CX0 PW w K mg base N qual scope f cd A' outer s H E).nox nLawCaught "_law_caught" (defScope sLawCaught) A.a_LawCaught cdv s2 H2).nox.A.guards = some [] := hG
  refine ⟨_, (pss_cons (ps_set (i := 1) scLawCaught.nd rfl (Or.inl rfl) pe_non)
      (pss_cons (ps_try_keep (i := 2) (j := 1) rfl rfl scLawCaught.nd rfl rfl rfl rfl (by rfl) (by rfl) (by rfl) T.k_LineError T.k_TooMany T.k_NothingToUndo (fun W pn xe tk => pss_one (ps_expr (act W pn xe _ _ tk))))
      (pss_cons (ps_if (pt_cmpR (op_isN) (pv 1) pe_non (nomark _)) (pss_one (ps_ret (pe_lst (pa_cons pe_str (pa_cons pe_str pa_nil))))) pss_nil)
      (pss_cons (ps_set (i := 3) scLawCaught.nd rfl (Or.inl rfl) (pe_call gLawKind (hr.mono (by decide)) (by rfl) T.m_LawKind T.f_LawKind.kp T.b_LawKind .nil pass0 (pa_cons (pv 1) pa_nil)))
      (pss_cons (ps_if (pt_cmpR (op_eq) (pv 3) pe_str (nomark _)) (pss_one (ps_ret (pe_lst (pa_cons (pv 3) (pa_cons (pe_callB (call_reprD hr hG) (by rfl) T.z_repr (by decide +kernel) (pa_cons (pe_fld (pv 1) rfl) pa_nil)) pa_nil))))) pss_nil)
      (pss_cons (ps_if (pt_cmpR (op_eq) (pv 3) pe_str (nomark _)) (pss_one (ps_ret (pe_lst (pa_cons (pv 3) (pa_cons (pe_callB (call_reprD hr hG) (by rfl) T.z_repr (by decide +kernel) (pa_cons (pe_fld (pv 1) rfl) pa_nil)) pa_nil))))) pss_nil)
      (pss_cons (ps_if (pt_cmpR (op_in_seq) (pv 3) (pe_tup (pa_cons pe_str (pa_cons pe_str pa_nil))) (by rfl)) (pss_one (ps_ret (pe_lst (pa_cons (pv 3) (pa_cons pe_str pa_nil))))) pss_nil)
      (pss_one (ps_ret (pe_lst (pa_cons (pv 3) (pa_cons (pe_callB (call_reprD hr hG) (by rfl) T.z_repr (by decide +kernel) (pa_cons (pe_xv (pv 1)) pa_nil)) pa_nil)))))))))))), ?_⟩
  show tSeq _ _ _ [some (.ref f2), some .non, none, none] H2
  refine ⟨rfl, hc, CaughtX K A Q, CaughtN Q, fun cls d H3 hx => ?_, fun v H3 hn => ?_, h⟩
  · obtain ⟨D, dd, v, j, dt, rfl, rfl, hd, hk, hv, v1, v2, v3, kq⟩ := hx
    refine ⟨hk.ex, fun a na => ?_⟩
    have s4 : Same H3 (upd H3 a (XO (.ref D) (some dd) a)) := same_new na
    have ha : upd H3 a (XO (.ref D) (some dd) a) a = some (XO (.ref D) (some dd) a) := upd_same
    generalize upd H3 a (XO (.ref D) (some dd) a) = H4 at s4 ha ⊢
    show tSeq _ _ _ [some (.ref f2), some (.ref a), none, none] H4
    have wn := word_no hk.lt
    try simp only [tSeq, tNext, tRet, tRetN, tAsg, gName, gSub, tDrop, tIfS, tOp, tUn, tCB, tCons, tNil, tC, tVar, rI, rI0, rU, tAnd, tOr, tNot, tAndV, tOrV, tNotV, tIf, tTest, tB, tCall, tChain, tLst, tTup, tYes, rIxH, rIsB, rIsBT, rMulS, kd_non, kd_bl, kd_int, kd_str, kd_ref, kdO_lst, kdO_tup, kdO_dK, nq_n, nq_b, nq_i, nq_s, nq_l, nq_t, nq_d, ne_eq, not_false_eq_true, kit_ss, kit_ns, kit_bs, kit_is, kit_ls, kit_ts, kit_ds, kit_bb, V.ty.injEq, and_assoc, rIxU, rLenH, rLenU, rLenS, rInt1, rSetL, rEq, rNe, rCat, L2.start, List.map, List.length, List.length_cons, List.length_nil, List.replicate, List.getElem?_cons_zero, List.getElem?_cons_succ, List.set_cons_zero, List.set_cons_succ, List.set_nil, List.cons_append, List.nil_append, List.append_nil, Option.some.injEq, V.int.injEq, V.ref.injEq, V.str.injEq, V.bl.injEq, HO.lst.injEq, HO.tup.injEq, exists_eq_left', exists_and_left, exists_eq_left, List.cons.injEq, and_true, true_and, and_false, false_and, and_self, reduceCtorEq, exists_false, or_false, false_or, exists_const, at0, at1, at2, at3, at4, at5, ix51, ix52, ix54, upd_same, Nat.reduceAdd, Nat.reduceSub, Nat.zero_add, Int.reduceToNat, Int.reduceLE, Int.reduceLT, decide_eq_true_eq, Bool.not_eq_true, if_true, if_false, Bool.false_eq_true, ite_true, ite_false, Bool.not_true, Bool.not_false, decide_true, decide_false, tFor_eq, tLc_eq, iList, iTup, iRng1, iRng2, iStr, tSl, tPart, tNoPart, rSlL, cxOf_K, wipe, ex_ty2, kit_LTl, kit_LTt, kit_LTd, kit_LTs, kit_LTn, kit_LTb, kit_LTi, tM1, rIxS, exists_eq', lt1p, tDNewK, rSlS, rEqNil]
    refine ⟨a, D, dd, _, j, rfl, ha, s4 _ _ hd, hk, fun H5 s5 => ?_⟩
    have hv5 := hv.same (s4.trans s5)
    try simp only [tSeq, tNext, tRet, tRetN, tAsg, gName, gSub, tDrop, tIfS, tOp, tUn, tCB, tCons, tNil, tC, tVar, rI, rI0, rU, tAnd, tOr, tNot, tAndV, tOrV, tNotV, tIf, tTest, tB, tCall, tChain, tLst, tTup, tYes, rIxH, rIsB, rIsBT, rMulS, kd_non, kd_bl, kd_int, kd_str, kd_ref, kdO_lst, kdO_tup, kdO_dK, nq_n, nq_b, nq_i, nq_s, nq_l, nq_t, nq_d, ne_eq, not_false_eq_true, kit_ss, kit_ns, kit_bs, kit_is, kit_ls, kit_ts, kit_ds, kit_bb, V.ty.injEq, and_assoc, rIxU, rLenH, rLenU, rLenS, rInt1, rSetL, rEq, rNe, rCat, L2.start, List.map, List.length, List.length_cons, List.length_nil, List.replicate, List.getElem?_cons_zero, List.getElem?_cons_succ, List.set_cons_zero, List.set_cons_succ, List.set_nil, List.cons_append, List.nil_append, List.append_nil, Option.some.injEq, V.int.injEq, V.ref.injEq, V.str.injEq, V.bl.injEq, HO.lst.injEq, HO.tup.injEq, exists_eq_left', exists_and_left, exists_eq_left, List.cons.injEq, and_true, true_and, and_false, false_and, and_self, reduceCtorEq, exists_false, or_false, false_or, exists_const, at0, at1, at2, at3, at4, at5, ix51, ix52, ix54, upd_same, Nat.reduceAdd, Nat.reduceSub, Nat.zero_add, Int.reduceToNat, Int.reduceLE, Int.reduceLT, decide_eq_true_eq, Bool.not_eq_true, if_true, if_false, Bool.false_eq_true, ite_true, ite_false, Bool.not_true, Bool.not_false, decide_true, decide_false, tFor_eq, tLc_eq, iList, iTup, iRng1, iRng2, iStr, tSl, tPart, tNoPart, rSlL, cxOf_K, wipe, ex_ty2, kit_LTl, kit_LTt, kit_LTd, kit_LTs, kit_LTn, kit_LTb, kit_LTi, tM1, rIxS, exists_eq', lt1p, tDNewK, rSlS, rEqNil, scal_str, wn]
    refine ⟨by decide, ?_⟩
    intro p n_p; generalize g_H6 : upd H5 p _ = H6; obtain ⟨s_H6, h_p⟩ := new_facts n_p g_H6; clear g_H6
    have s06 := (s4.trans s5).trans s_H6
    have s46 := s5.trans s_H6
    refine ⟨p, _, rfl, .inr (SqT.of h_p), rfl, rfl, ?_⟩
    have ein : inV (V.str (wordOf j)) [V.str (Str.ofString "odd"), V.str (Str.ofString "undo")] = false := word_in hk.lt
    try simp only [tSeq, tNext, tRet, tRetN, tAsg, gName, gSub, tDrop, tIfS, tOp, tUn, tCB, tCons, tNil, tC, tVar, rI, rI0, rU, tAnd, tOr, tNot, tAndV, tOrV, tNotV, tIf, tTest, tB, tCall, tChain, tLst, tTup, tYes, rIxH, rIsB, rIsBT, rMulS, kd_non, kd_bl, kd_int, kd_str, kd_ref, kdO_lst, kdO_tup, kdO_dK, nq_n, nq_b, nq_i, nq_s, nq_l, nq_t, nq_d, ne_eq, not_false_eq_true, kit_ss, kit_ns, kit_bs, kit_is, kit_ls, kit_ts, kit_ds, kit_bb, V.ty.injEq, and_assoc, rIxU, rLenH, rLenU, rLenS, rInt1, rSetL, rEq, rNe, rCat, L2.start, List.map, List.length, List.length_cons, List.length_nil, List.replicate, List.getElem?_cons_zero, List.getElem?_cons_succ, List.set_cons_zero, List.set_cons_succ, List.set_nil, List.cons_append, List.nil_append, List.append_nil, Option.some.injEq, V.int.injEq, V.ref.injEq, V.str.injEq, V.bl.injEq, HO.lst.injEq, HO.tup.injEq, exists_eq_left', exists_and_left, exists_eq_left, List.cons.injEq, and_true, true_and, and_false, false_and, and_self, reduceCtorEq, exists_false, or_false, false_or, exists_const, at0, at1, at2, at3, at4, at5, ix51, ix52, ix54, upd_same, Nat.reduceAdd, Nat.reduceSub, Nat.zero_add, Int.reduceToNat, Int.reduceLE, Int.reduceLT, decide_eq_true_eq, Bool.not_eq_true, if_true, if_false, Bool.false_eq_true, ite_true, ite_false, Bool.not_true, Bool.not_false, decide_true, decide_false, tFor_eq, tLc_eq, iList, iTup, iRng1, iRng2, iStr, tSl, tPart, tNoPart, rSlL, cxOf_K, wipe, ex_ty2, kit_LTl, kit_LTt, kit_LTd, kit_LTs, kit_LTn, kit_LTb, kit_LTi, tM1, rIxS, exists_eq', lt1p, tDNewK, rSlS, rEqNil, ein]
    refine ⟨_, rfl, a, D, dd, v, rfl, s46 _ _ ha, s06 _ _ hd, hk.xi, ?_⟩
    refine ⟨v, dt, rfl, hv.same s06, v1, v2, v3, by decide, fun r nr => ?_⟩
    exact kq _ r (s06.trans (same_new nr)) (s06.free nr) upd_same
  · try simp only [tSeq, tNext, tRet, tRetN, tAsg, gName, gSub, tDrop, tIfS, tOp, tUn, tCB, tCons, tNil, tC, tVar, rI, rI0, rU, tAnd, tOr, tNot, tAndV, tOrV, tNotV, tIf, tTest, tB, tCall, tChain, tLst, tTup, tYes, rIxH, rIsB, rIsBT, rMulS, kd_non, kd_bl, kd_int, kd_str, kd_ref, kdO_lst, kdO_tup, kdO_dK, nq_n, nq_b, nq_i, nq_s, nq_l, nq_t, nq_d, ne_eq, not_false_eq_true, kit_ss, kit_ns, kit_bs, kit_is, kit_ls, kit_ts, kit_ds, kit_bb, V.ty.injEq, and_assoc, rIxU, rLenH, rLenU, rLenS, rInt1, rSetL, rEq, rNe, rCat, L2.start, List.map, List.length, List.length_cons, List.length_nil, List.replicate, List.getElem?_cons_zero, List.getElem?_cons_succ, List.set_cons_zero, List.set_cons_succ, List.set_nil, List.cons_append, List.nil_append, List.append_nil, Option.some.injEq, V.int.injEq, V.ref.injEq, V.str.injEq, V.bl.injEq, HO.lst.injEq, HO.tup.injEq, exists_eq_left', exists_and_left, exists_eq_left, List.cons.injEq, and_true, true_and, and_false, false_and, and_self, reduceCtorEq, exists_false, or_false, false_or, exists_const, at0, at1, at2, at3, at4, at5, ix51, ix52, ix54, upd_same, Nat.reduceAdd, Nat.reduceSub, Nat.zero_add, Int.reduceToNat, Int.reduceLE, Int.reduceLT, decide_eq_true_eq, Bool.not_eq_true, if_true, if_false, Bool.false_eq_true, ite_true, ite_false, Bool.not_true, Bool.not_false, decide_true, decide_false, tFor_eq, tLc_eq, iList, iTup, iRng1, iRng2, iStr, tSl, tPart, tNoPart, rSlL, cxOf_K, wipe, ex_ty2, kit_LTl, kit_LTt, kit_LTd, kit_LTs, kit_LTn, kit_LTb, kit_LTi, tM1, rIxS, exists_eq', lt1p, tDNewK, rSlS, rEqNil]
    refine ⟨by decide, fun p hp => ?_⟩
    exact hn _ p (same_new hp) hp upd_same
end

/-! ### what stays where lambdas are made: all but the tables of code objects -/
section
open LamX
theorem extN_of {H H' : Hp} (s : Same H H') : ExtN H H' := ExtN.of fun b o h => s b o h
theorem SqL.extN {K : PySem.W.Frag} {H H' : Hp} (e : ExtN H H') {a : Addr} {xs : List V} (h : SqL K H a xs) : SqL K H' a xs := by
  rcases h with (h | ⟨o, h⟩) | h
  · exact .inl (.inl (e _ _ h (fun ps z => by cases z)))
  · exact .inl (.inr ⟨o, e _ _ h (fun ps z => by cases z)⟩)
  · exact .inr h
theorem SqT.extN {K : PySem.W.Frag} {H H' : Hp} (e : ExtN H H') {a : Addr} {xs : List V} (h : SqT K H a xs) : SqT K H' a xs := by
  rcases h with (h | ⟨o, h⟩) | h
  · exact .inl (.inl (e _ _ h (fun ps z => by cases z)))
  · exact .inl (.inr ⟨o, e _ _ h (fun ps z => by cases z)⟩)
  · exact .inr h
theorem Dp.extN {K : PySem.W.Frag} {H H' : Hp} (e : ExtN H H') : ∀ {v : V} {d : PyData}, Dp K H v d → Dp K H' v d := by
  intro v d h
  refine Dp.rec (motive_1 := fun v d _ => Dp K H' v d) (motive_2 := fun vs ds _ => DpAll K H' vs ds) .non (fun b => .bl b) (fun i => .int i) (fun x => .str x) (fun h _ ih => .lst (SqL.extN e h) ih) (fun h _ ih => .tup (SqT.extN e h) ih) .nil (fun _ _ ih1 ih2 => .cons ih1 ih2) h
theorem Dx.extN {K : PySem.W.Frag} {H H' : Hp} (e : ExtN H H') {v : V} {d : PyData} (h : Dx K H v d) : Dx K H' v d := by
  rcases h with ⟨h, n⟩ | ⟨a, rfl, h, rfl⟩
  · exact .inl ⟨Dp.extN e h, n⟩
  · exact .inr ⟨a, rfl, e _ _ h (fun ps z => by cases z), rfl⟩
theorem ty_extN {H H' : Hp} {v : V} {t : Value} (e : ExtN H H') (h : tyV H v = some t) : tyV H' v = some t := by
  cases v with
  | ref a =>
    have h : tyO (H a) = some t := h
    show tyO (H' a) = some t
    cases q : H a with
    | none => rw [q] at h; cases h
    | some o =>
      rw [q] at h
      rw [e _ _ q (fun ps z => by rw [z] at h; cases h)]
      exact h
  | _ => exact h
/-- the tables stand, all else is kept -/
structure Sx (Ts : List (Addr × Str)) (H H' : Hp) : Prop where
  ex : ExtN H H'
  tb : Tabs Ts H'
theorem Sx.same {Ts : List (Addr × Str)} {H H1 H2 : Hp} (x : Sx Ts H H1) (s : Same H1 H2) : Sx Ts H H2 := ⟨x.ex.trans (extN_of s), x.tb.ext fun b o h => s b o h⟩
theorem Sx.trans {Ts : List (Addr × Str)} {H H1 H2 : Hp} (x : Sx Ts H H1) (y : Sx Ts H1 H2) : Sx Ts H H2 := ⟨x.ex.trans y.ex, y.tb⟩
theorem Sx.refl {Ts : List (Addr × Str)} {H : Hp} (h : Tabs Ts H) : Sx Ts H H := ⟨ExtN.refl H, h⟩
theorem Sx.at {Ts : List (Addr × Str)} {H H' : Hp} (x : Sx Ts H H') {b : Addr} {o : HO} (h : H b = some o) (n : ∀ ps, o ≠ .tbl ps := by intro ps z; cases z) : H' b = some o := x.ex b o h n
/-- a value that is handed where it may be refused -/
structure OddAt (K : PySem.W.Frag) (H : Hp) (v : V) (dt : PyData) : Prop where
  dx : Dx K H v dt
  sh : dt.showable = true
  ln : dt.shown.length ≤ sizeLine
  dp : dt.depth ≤ 20
theorem OddAt.sx {K : PySem.W.Frag} {Ts : List (Addr × Str)} {H H' : Hp} {v : V} {dt : PyData} (h : OddAt K H v dt) (x : Sx Ts H H') : OddAt K H' v dt := ⟨h.dx.extN x.ex, h.sh, h.ln, h.dp⟩
theorem OddAt.same {K : PySem.W.Frag} {H H' : Hp} {v : V} {dt : PyData} (h : OddAt K H v dt) (s : Same H H') : OddAt K H' v dt := ⟨h.dx.same s, h.sh, h.ln, h.dp⟩
theorem OddAt.repr {K : PySem.W.Frag} {H : Hp} {v : V} {dt : PyData} (h : OddAt K H v dt) {Q : VK} (q : Q (.str dt.shown) H) : rReprD K [v] H Q := ⟨v, dt, rfl, h.dx, h.sh, h.ln, h.dp, q⟩
/-- a lambda's call is raised in: what is told of it -/
theorem OddAt.told {K : PySem.W.Frag} {A : Adr} {H : Hp} {v : V} {dt : PyData} (h : OddAt K H v dt) {D dd : Addr} {j : Nat} (hd : H dd = some (.xd [("value", v)])) (hk : KindAt K (errAt A) A.k_LineError A.k_TooMany A.k_NothingToUndo D j) {Q : VK}
    (k : ∀ H3 l, Same H H3 → H l = none → H3 l = some (.lst [.str (wordOf j), .str dt.shown]) → Q (.ref l) H3) : CaughtX K A Q (.ref D) (some dd) H := ⟨D, dd, v, j, dt, rfl, rfl, hd, hk, h.dx, h.sh, h.ln, h.dp, k⟩
/-- caught(..) != [word, repr(v)], where they are alike -/
theorem ne_told {H : Hp} {a b : Addr} {z1 z2 : Str} {Q : VK} (ha : H a = some (.lst [.str z1, .str z2])) (hb : H b = some (.lst [.str z1, .str z2])) (q : Q (.bl false) H) : rNeSs (.ref a) (.ref b) H Q := ⟨a, b, [z1, z2], [z1, z2], rfl, rfl, ha, hb, by simpa using q⟩
theorem eq_told {H : Hp} {a b : Addr} {z1 z2 : Str} {Q : VK} (ha : H a = some (.lst [.str z1, .str z2])) (hb : H b = some (.lst [.str z1, .str z2])) (q : Q (.bl true) H) : rEqSs (.ref a) (.ref b) H Q := ⟨a, b, [z1, z2], [z1, z2], rfl, rfl, ha, hb, by simpa using q⟩
/-- f(lambda: ..) where what is called is refused with v: the list told -/
theorem lam_refused {K : PySem.W.Frag} {A : Adr} {Ts : List (Addr × Str)} {t : XK → TE} {σ : St} {H : Hp} {v : V} {dt : PyData} {D : Addr} {j : Nat} {Q : VK} (hT : Tabs Ts H) (ho : OddAt K H v dt) (hk : KindAt K (errAt A) A.k_LineError A.k_TooMany A.k_NothingToUndo D j)
    (hr : ∀ H1, Sx Ts H H1 → ∀ (Ec : XK) (Qc : VK), (∀ H2 d, Same H1 H2 → H2 d = some (.xd [("value", v)]) → Ec (.ref D) (some d) H2) → t Ec σ H1 Qc)
    (k : ∀ H3 l, Sx Ts H H3 → H3 l = some (.lst [.str (wordOf j), .str dt.shown]) → Q (.ref l) H3) : tLam Ts (TTc K A) t σ H Q := by
  refine ⟨hT, fun H1 e1 t1 => ?_⟩
  have x1 : Sx Ts H H1 := ⟨e1, t1⟩
  refine hr H1 x1 _ _ fun H2 d s2 hd => ?_
  exact ((ho.sx x1).same s2).told hd hk fun H3 l s3 _ h3 => k H3 l (x1.same (s2.trans s3)) h3
/-- f(lambda: ..) where what is called comes back -/
theorem lam_none {K : PySem.W.Frag} {A : Adr} {Ts : List (Addr × Str)} {t : XK → TE} {σ : St} {H : Hp} {Q : VK} (hT : Tabs Ts H)
    (hr : ∀ H1, Sx Ts H H1 → ∀ (Ec : XK) (Qc : VK), (∀ H2 v, Sx Ts H H2 → Qc v H2) → t Ec σ H1 Qc)
    (k : ∀ H3 l, Sx Ts H H3 → H3 l = some (.lst [.str "none", .str "None"]) → Q (.ref l) H3) : tLam Ts (TTc K A) t σ H Q := by
  refine ⟨hT, fun H1 e1 t1 => ?_⟩
  have x1 : Sx Ts H H1 := ⟨e1, t1⟩
  exact hr H1 x1 _ _ fun H2 v x2 H3 l s3 _ h3 => k H3 l (x2.same s3) h3
/-- f(lambda: ..) != [word, repr(x)], refused with x: false -/
theorem refused_ne {K : PySem.W.Frag} {A : Adr} {Ts : List (Addr × Str)} {t : XK → TE} {σ : St} {H : Hp} {v : V} {dt : PyData} {D : Addr} {j i : Nat} {z : Str} {Q : VK} (hT : Tabs Ts H) (ho : OddAt K H v dt) (hk : KindAt K (errAt A) A.k_LineError A.k_TooMany A.k_NothingToUndo D j) (hz : wordOf j = z) (hi : σ[i]? = some (some v))
    (hr : ∀ H1, Sx Ts H H1 → ∀ (Ec : XK) (Qc : VK), (∀ H2 d, Same H1 H2 → H2 d = some (.xd [("value", v)]) → Ec (.ref D) (some d) H2) → t Ec σ H1 Qc)
    (k : ∀ H3, Sx Ts H H3 → Q (.bl false) H3) : tOp rNeSs (tLam Ts (TTc K A) t) (tLst (tCons (tC (.str z)) (tCons (tCB (rReprD K) (tCons (tVar i) tNil)) tNil))) σ H Q := by
  refine lam_refused hT ho hk hr fun H3 l x3 h3 => ?_
  refine ⟨v, hi, ?_⟩
  have hrp : ∀ Q : VK, Q (.str dt.shown) H3 → rReprD K [v] H3 Q := fun Q q => (ho.sx x3).repr q
  simp only [tNil]
  refine hrp _ ?_
  refine ⟨(by show 2 ≤ sizeLine; decide), fun p hp => ?_⟩
  subst hz
  exact ne_told (same_new hp _ _ h3) upd_same (k _ (x3.same (same_new hp)))
end
section
variable {w : World} {K : PySem.W.Frag} {mg : Str → Option Value} {base : Heap} {A : Adr}
theorem caught_pack (T : Txt K mg A) : ∃ (oc : Value) (od : Option Addr) (kV doc pm : Value) (an : Option Addr) (cdv ct : Value) (osl : Array (Option Value)),
    K.lookup A.a_LawCaught = some ⟨oc, od, .func (PySem.W.fnOf "_law_caught" "_law_caught" (defArgs sLawCaught) (defBody sLawCaught) (defScope sLawCaught) .none kV doc pm an cdv ct), osl⟩ ∧ PySem.W.codeIn K cdv "_law_caught" = true ∧
    L2.Binds K (PySem.W.fnOf "_law_caught" "_law_caught" (defArgs sLawCaught) (defBody sLawCaught) (defScope sLawCaught) .none kV doc pm an cdv ct) ["_law_call"] [] := by
  obtain ⟨oc, od, kV, doc, pm, an, cdv, ct, osl, e, lk, hc⟩ := T.f_LawCaught.ex
  have b := T.b_LawCaught
  rw [e] at lk b
  exact ⟨oc, od, kV, doc, pm, an, cdv, ct, osl, lk, hc, b⟩
end

/-! ### the pool's world where lambdas are made too -/
theorem Tabs.offS {Ts : List (Addr × Str)} {p l : Addr} {c : Nat} {H H' : Hp} (h : LamX.Tabs Ts H) (hp : PoolAt p l c H) (o : OffS p l H H') : LamX.Tabs Ts H' := by
  obtain ⟨ns, t, n, z, y, h1, h2, _⟩ := hp
  refine fun q hq => ?_
  obtain ⟨ps, e1, e2, e3⟩ := h q hq
  have ne : ∀ {b : Addr} {u : HO}, H b = some u → (∀ xs, u ≠ .lst xs) → b ≠ p ∧ b ≠ l := fun {b u} e n => ⟨fun z => by rw [z, h1] at e; exact n _ (Option.some.inj e).symm, fun z => by rw [z, h2] at e; exact n _ (Option.some.inj e).symm⟩
  have n1 := ne e1 (fun xs z => by cases z)
  refine ⟨ps, o _ _ n1.1 n1.2 e1, e2, fun pos cv hc => ?_⟩
  obtain ⟨c, e4, e5⟩ := e3 pos cv hc
  have n2 := ne e5 (fun xs z => by unfold LamX.CodeO at z; cases z)
  exact ⟨c, e4, o _ _ n2.1 n2.2 e5⟩
/-- G: what is known (no tables), the tables stand -/
structure Wt (Ts : List (Addr × Str)) (p l : Addr) (c : Nat) (G H : Hp) : Prop where
  wd : Wd p l c G H
  tb : LamX.Tabs Ts H
  nt : ∀ b ps, G b ≠ some (.tbl ps)
section
variable {Ts : List (Addr × Str)} {p l : Addr} {c c' : Nat} {G G' H H' : Hp}
theorem Wt.sx (h : Wt Ts p l c G H) (x : Sx Ts H H') : Wt Ts p l c G H' := by
  refine ⟨⟨?_, fun b o e => x.ex b o (h.wd.kn b o e) fun ps z => h.nt b ps (by rw [e, z]), h.wd.gp, h.wd.gl⟩, x.tb, h.nt⟩
  obtain ⟨ns, t, n, z, y, h1, h2, h3⟩ := h.wd.pool
  exact ⟨ns, t, n, z, y, x.at h1, x.at h2, h3⟩
theorem Wt.turn (h : Wt Ts p l c G H) (hp : PoolAt p l c' H') (off : OffS p l H H') : Wt Ts p l c' G H' := ⟨h.wd.turn hp off, Tabs.offS h.tb h.wd.pool off, h.nt⟩
theorem Wt.same (h : Wt Ts p l c G H) (s : Same H H') : Wt Ts p l c G H' := ⟨h.wd.same s, h.tb.ext fun b o e => s b o e, h.nt⟩
theorem Wt.alloc {q : Addr} {o : HO} (h : Wt Ts p l c G H) (hq : H q = none) (s : Same H H') (e : H' q = some o) (n : ∀ ps, o ≠ .tbl ps := by intro ps z; cases z) : ∃ G1, Wt Ts p l c G1 H' ∧ Same G G1 ∧ G1 q = some o := by
  refine ⟨upd G q o, ⟨h.wd.add (same_off s) (h.wd.pool.same s) hq e, h.tb.ext fun b o e => s b o e, fun b ps z => ?_⟩, same_new (h.wd.free hq), upd_same⟩
  by_cases eb : b = q
  · subst eb
    rw [upd_same] at z
    exact n ps (Option.some.inj z)
  · rw [upd_ne eb] at z
    exact h.nt b ps z
theorem Wt.forget (h : Wt Ts p l c G' H) (g : Same G G') : Wt Ts p l c G H := by
  refine ⟨⟨h.wd.pool, g.trans h.wd.kn, g.free h.wd.gp, g.free h.wd.gl⟩, h.tb, fun b ps z => h.nt b ps (g _ _ z)⟩
theorem Wt.mono (h : Wt Ts p l c G H) (hc : c ≤ c') : Wt Ts p l c' G H := ⟨h.wd.mono hc, h.tb, h.nt⟩
end

/-- a thing that is known and can be shown -/
def Kn (K : PySem.W.Frag) (G : Hp) (v : V) : Prop := Thg G v ∧ ∃ dt, OddAt K G v dt
theorem Kn.mono {K : PySem.W.Frag} {G G' : Hp} {v : V} (h : Kn K G v) (s : Same G G') : Kn K G' v := ⟨h.1.mono s, h.2.elim fun dt o => ⟨dt, o.same s⟩⟩
theorem kn_str {K : PySem.W.Frag} {G : Hp} {z : Str} (h : Sm z) (hl : z.length ≤ 50) : Kn K G (.str z) := by
  refine ⟨.str h, _, .inl ⟨.str z, rfl⟩, rfl, ?_, by simp [PyData.depth]⟩
  have q := StrLaws.reprText_len z fun c hc => Nat.lt_trans (h.2 c hc) (by decide)
  rw [PyData.shown_str]
  exact Nat.le_trans q (Nat.le_trans (show 10 * z.length + 2 ≤ 1000 by omega) (by decide))
theorem sm_lit {z : Str} (h : (decide (z.length ≤ 1000) && z.cps.toList.all fun c => decide (c < 128)) = true) : Sm z := by
  rw [Bool.and_eq_true] at h
  exact ⟨of_decide_eq_true h.1, fun c hc => of_decide_eq_true (List.all_eq_true.mp h.2 c hc)⟩



/-! ### _law_right -/
def qRight : Str := "_law_right" ++ ".<locals>." ++ "<lambda>"
def qRefused : Str := "_law_refused" ++ ".<locals>." ++ "<lambda>"
def ts9 (A : Adr) : List (Addr × Str) := [(A.t_LawRight, qRight), (A.t_LawRefused, qRefused)]
theorem Thg.extN {H H' : Hp} {v : V} (e : LamX.ExtN H H') (h : Thg H v) : Thg H' v := by
  cases h with
  | non => exact .non
  | bl b => exact .bl b
  | int i => exact .int i
  | str h => exact .str h
  | lst h => exact .lst (e _ _ h (fun ps z => by cases z))
  | tup h => exact .tup (e _ _ h (fun ps z => by cases z))
  | dic h => exact .dic (e _ _ h (fun ps z => by cases z))
theorem VerAt.extN {C : Addr} {H H' : Hp} {a : Addr} {ls : List Str} {ps : List Int} {n : Str} (e : LamX.ExtN H H') (h : VerAt C H a ls ps n) : VerAt C H' a ls ps n := by
  obtain ⟨dx, l, p, h1, h2, h3⟩ := h
  exact ⟨dx, l, p, e _ _ h1 (fun ps z => by cases z), e _ _ h2 (fun ps z => by cases z), e _ _ h3 (fun ps z => by cases z)⟩
/-- drawn lines, drawn parents -/
structure Own9 (ls : List Str) (qs ps : List Int) : Prop where
  ll : ls.length ≤ 12
  lw : ∀ z ∈ ls, z ∈ wordsL
  ql : qs.length ≤ 3
  qn : qs.Nodup
  qb : ∀ z ∈ qs, 0 ≤ z ∧ z < 100000000000000000000
  po : ps.Pairwise (· < ·)
  pm : ∀ k : Int, k ∈ ps ↔ k ∈ qs
theorem sorted_uniq : ∀ {a b : List Int}, a.Pairwise (· < ·) → b.Pairwise (· ≤ ·) → b.Nodup → (∀ k, k ∈ a ↔ k ∈ b) → b = a
  | [], [], _, _, _, _ => rfl
  | [], y :: b, _, _, _, h => absurd ((h y).mpr List.mem_cons_self) List.not_mem_nil
  | x :: a, [], _, _, _, h => absurd ((h x).mp List.mem_cons_self) List.not_mem_nil
  | x :: a, y :: b, ha, hb, hn, h => by
    obtain ⟨a1, a2⟩ := List.pairwise_cons.mp ha
    obtain ⟨b1, b2⟩ := List.pairwise_cons.mp hb
    obtain ⟨n1, n2⟩ := List.nodup_cons.mp hn
    have e : x = y := by
      rcases List.mem_cons.mp ((h x).mp List.mem_cons_self) with e | e
      · exact e
      · rcases List.mem_cons.mp ((h y).mpr List.mem_cons_self) with e' | e'
        · exact e'.symm
        · have := b1 x e
          have := a1 y e'
          omega
    subst e
    rw [sorted_uniq a2 b2 n2 fun k => ⟨fun hk => ?_, fun hk => ?_⟩]
    · rcases List.mem_cons.mp ((h k).mp (List.mem_cons_of_mem _ hk)) with e | e
      · have := a1 k hk
        omega
      · exact e
    · rcases List.mem_cons.mp ((h k).mpr (List.mem_cons_of_mem _ hk)) with e | e
      · subst e
        exact absurd hk n1
      · exact e
theorem nodup_lt : ∀ {a : List Int}, a.Pairwise (· < ·) → a.Nodup := fun h => h.imp fun h => by omega
theorem Own9.pl {ls : List Str} {qs ps : List Int} (h : Own9 ls qs ps) : ps.length ≤ 3 := Nat.le_trans (len_sub (nodup_lt h.po) fun x hx => (h.pm x).mp hx) h.ql
theorem Own9.gs {ls : List Str} {qs ps : List Int} (h : Own9 ls qs ps) : Goods (ls.map PyData.str) := goods_strs h.ll fun z hz => ⟨(wordL (h.lw z hz)).2.1, (wordL (h.lw z hz)).2.2.1⟩
theorem lt1900 {z : Int} (h0 : 0 ≤ z) (h1 : z < 100000000000000000000) : z.natAbs < 2 ^ 1900 := Nat.lt_of_lt_of_le (m := 100000000000000000000) (by omega) (by decide)
theorem Own9.gp {ls : List Str} {qs ps : List Int} (h : Own9 ls qs ps) : Goods (ps.map PyData.int) := goods_ints (Nat.le_trans h.pl (by decide)) fun z hz => lt1900 (h.qb z ((h.pm z).mp hz)).1 (h.qb z ((h.pm z).mp hz)).2
theorem Own9.asc {ls : List Str} {qs ps : List Int} (h : Own9 ls qs ps) : ∀ z ∈ ls, ∀ c ∈ z.cps.toList, c < 128 := fun z hz => (wordL (h.lw z hz)).2.2.1
theorem neL_strs {K : PySem.W.Frag} {H : Hp} {a b : Addr} {xs ys : List Str} {Q : VK} (ha : H a = some (.lst (xs.map V.str))) (hb : H b = some (.lst (ys.map V.str))) (h1 : ∀ z ∈ xs, ∀ c ∈ z.cps.toList, c < 128) (h2 : ∀ z ∈ ys, ∀ c ∈ z.cps.toList, c < 128) (k : Q (.bl (!decide (xs = ys))) H) : rNeD K (.ref a) (.ref b) H Q := by
  refine ⟨.list (xs.map PyData.str), .list (ys.map PyData.str), .lst (SqL.of ha) (dp_strs xs), .lst (SqL.of hb) (dp_strs ys), shaped_strs h1, shaped_strs h2, ?_⟩
  have e : PyData.eqv (.list (xs.map PyData.str)) (.list (ys.map PyData.str)) = decide (xs = ys) := by
    rw [← eqv_strsT]
    simp only [PyData.eqv]
  rw [e]
  exact k
theorem kn_int {K : PySem.W.Frag} {G : Hp} {i : Int} (h : i.natAbs < 2 ^ 1900) : Kn K G (.int i) := by
  refine ⟨.int i, .int i, .inl ⟨.int i, rfl⟩, decide_eq_true (lg1920V h), ?_, by simp [PyData.depth]⟩
  rw [PyData.shown_int]
  exact Nat.le_trans (PyProof.Rows.int_text_len_1921 (lg1920V h)) (by decide)
/-- the i-th line -/
def itV (ls : List Str) : V → V
  | .int k => .str (ls.getD k.toNat Str.empty)
  | _ => .non
theorem itV_list (ls : List Str) : ((rngV 0 ls.length).filter fun _ => true).map (itV ls) = ls.map V.str := by
  rw [filter_all]
  unfold rngV
  rw [List.map_map]
  refine List.ext_getElem? fun i => ?_
  rw [List.getElem?_map, List.getElem?_map]
  by_cases h : i < ls.length
  · rw [List.getElem?_range h, List.getElem?_eq_getElem h]
    show some (V.str (ls.getD (0 + (i : Int)).toNat Str.empty)) = some (V.str ls[i])
    rw [Int.zero_add, Int.toNat_natCast, List.getD_eq_getElem?_getD, List.getElem?_eq_getElem h]
    rfl
  · rw [List.getElem?_eq_none (by rw [List.length_range]; omega), List.getElem?_eq_none (by omega)]
    rfl
def spRight9 (K : PySem.W.Frag) (A : Adr) : Sp := fun vs H Q _ => ∃ a lb eb n ls qs ps, vs = [.ref a, .ref lb, .ref eb, .str n] ∧ VerAt A.k_Version H a ls ps n ∧ H lb = some (.lst (ls.map V.str)) ∧ H eb = some (.lst (qs.map V.int)) ∧ Own9 ls qs ps ∧ LamX.Tabs (ts9 A) H ∧ ∀ H', Sx (ts9 A) H H' → Q (.bl true) H'
def LR9 (v : List (Option V)) (r : List (Option V)) (Ts : List (Addr × Str)) (H0 : Hp) (i : Nat) (σ : St) (H : Hp) : Prop := ∃ v4 : Option V, σ = v ++ [v4] ++ r ∧ Sx Ts H0 H
section
variable {w : World} {K : PySem.W.Frag} {mg : Str → Option Value} {base : Heap} {A : Adr}
theorem ok_right9 (T : Txt K mg A) (TB : LamX.TabB base mg A.c_LawRight A.t_LawRight) (gLawKind : FnOk PW w K mg base CX0 1 A.a_LawKind A.d_LawKind ["_law_error"] (spKind K A))
    (gLawExact : FnG PW w K mg base CX0 1 A.a_LawExact A.d_LawExact ["_law_found", "_law_due"] (spExact K))
    (gVersionLines : FnOk PW w K mg base CX0 1 A.a_VersionLines A.d_VersionLines ["self"] (spLines A.k_Version)) (gVersionParents : FnOk PW w K mg base CX0 1 A.a_VersionParents A.d_VersionParents ["self"] (spParents A.k_Version)) (gVersionAuthor : FnOk PW w K mg base CX0 1 A.a_VersionAuthor A.d_VersionAuthor ["self"] (spAuthor A.k_Version))
    (gVersionLen : FnOk PW w K mg base CX0 1 A.a_VersionLen A.d_VersionLen ["self"] (spVLen A.k_Version)) (gVersionContains : FnOk PW w K mg base CX0 1 A.a_VersionContains A.d_VersionContains ["self", "line"] (spVIn A.k_Version))
    (gVersionGetitem : FnOk PW w K mg base (L2.CX PW w) 2 A.a_VersionGetitem A.d_VersionGetitem ["self", "index"] (spVGet A.k_Version A.k_InvalidNumber)) :
    FnG PW w K mg base CX0 8 A.a_LawRight A.d_LawRight ["_law_version", "_law_lines", "_law_elders", "_law_name"] (spRight9 K A) := by
  refine okGC T.fc_LawRight scLawRight (fun vs H Q E h => ?_) (fun A' outer s H vs Q E hr hG h => ?_)
  · obtain ⟨a, lb, eb, n, ls, qs, ps, rfl, _⟩ := h
    rfl
  · obtain ⟨a, lb, eb, n, ls, qs, ps, rfl, va, hlb, heb, ow, hT, k⟩ := h
    obtain ⟨oc0, od0, kV0, doc0, pm0, an0, cdv0, ct0, osl0, lk0, cg0, b0⟩ := caught_pack T
    have va0 : Vis (defScope sLawCaught) "_law_call" := .inl (by decide +kernel)
    have hCaught := fun q => caught_gives (q := q) (cdv := cdv0) T gLawKind (hr.mono (by decide)) hG
    have mT0 : (A.t_LawRight, qRight) ∈ ts9 A := List.mem_cons_self
    have hu0 : ∀ p ∈ ts9 A, p.1 = A.t_LawRight → p.2 = qRight := fun p hp e => by
      rcases List.mem_cons.mp hp with h | h
      · rw [h]
      · rw [List.mem_singleton.mp h] at e
        exact absurd e.symm T.dt_LawRight_LawRefused
    have hCaught := hCaught qRight
    refine ⟨_, (pss_cons (ps_if (PW.pt (pw_or (pt_not (pt_val (pe_callG gLawExact (hr.mono (by decide)) hG (by rfl) T.m_LawExact T.f_LawExact.kp T.b_LawExact pass0 (pa_cons (pe_prop (pv 0) T.t_Version.cl T.h_VersionLines gVersionLines (hr.mono (by decide)) T.b_VersionLines .nil pass0 (by rfl)) (pa_cons (pv 1) pa_nil))))) (pw_or1 (pt_cmpR (op_ne) (pe_prop (pv 0) T.t_Version.cl T.h_VersionAuthor gVersionAuthor (hr.mono (by decide)) T.b_VersionAuthor .nil pass0 (by rfl)) (pv 3) (nomark _))))) (pss_one (ps_ret pe_bl)) pss_nil)
      (pss_cons (ps_if (pt_not (pt_val (pe_callG gLawExact (hr.mono (by decide)) hG (by rfl) T.m_LawExact T.f_LawExact.kp T.b_LawExact pass0 (pa_cons (pe_prop (pv 0) T.t_Version.cl T.h_VersionParents gVersionParents (hr.mono (by decide)) T.b_VersionParents .nil pass0 (by rfl)) (pa_cons (pe_callB cr_sorted (by rfl) T.z_sorted (by decide +kernel) (pa_cons (pe_lc (own := [("_law_parent", 5)]) (g := gName 5) (tt := tYes) (by rfl) scLawRight.nd (pi_list (pv 2)) (blkOk_by (own := [("_law_parent", 5)]) (N := nLawRight) (sc := defScope sLawRight) (by decide +kernel)) (fun _ _ _ _ _ => pg_name (i := 5) scLawRight.nd rfl (Or.inl rfl)) (fun _ _ _ _ _ => pts_nil) (fun _ _ _ _ _ => (pe_callTy call_intI (by rfl) T.z_int (by decide +kernel) (pa_cons (pv 5) pa_nil)))) pa_nil)) pa_nil))))) (pss_one (ps_ret pe_bl)) pss_nil)
      (pss_cons (ps_if (pt_cmpR (op_ne) (pe_callB (call_lenO T.o_VersionLen gVersionLen (hr.mono (by decide)) T.b_VersionLen pass0) (by rfl) T.z_len (by decide +kernel) (pa_cons (pv 0) pa_nil)) (pe_callB call_lenH (by rfl) T.z_len (by decide +kernel) (pa_cons (pv 1) pa_nil)) (nomark _)) (pss_one (ps_ret pe_bl)) pss_nil)
      (pss_cons (ps_if (pt_cmpR (op_neD hr.units) (pe_lc (own := [("_law_k", 6)]) (g := gName 6) (tt := tYes) (by rfl) scLawRight.nd (pi_range1 (by rfl) T.z_range (pa_cons (pe_callB call_lenH (by rfl) T.z_len (by decide +kernel) (pa_cons (pv 1) pa_nil)) pa_nil)) (blkOk_by (own := [("_law_k", 6)]) (N := nLawRight) (sc := defScope sLawRight) (by decide +kernel)) (fun _ _ _ _ _ => pg_name (i := 6) scLawRight.nd rfl (Or.inl rfl)) (fun _ _ _ _ _ => pts_nil) (fun _ _ _ _ _ => (pe_ixO T.o_VersionGetitem T.fi_VersionGetitem gVersionGetitem (hr.mono (by decide)) T.b_VersionGetitem passL (pv 0) (pv 6)))) (pv 1) (nomark _)) (pss_one (ps_ret pe_bl)) pss_nil)
      (pss_cons (ps_if (pt_cmpR (op_neD hr.units) (pe_lc (own := [("_law_line", 7)]) (g := gName 7)  (by rfl) scLawRight.nd (pi_list (pv 1)) (blkOk_by (own := [("_law_line", 7)]) (N := nLawRight) (sc := defScope sLawRight) (by decide +kernel)) (fun _ _ _ _ _ => pg_name (i := 7) scLawRight.nd rfl (Or.inl rfl)) (fun _ _ _ _ _ => (pts_one (pt_cmpR (op_notInO T.o_VersionContains gVersionContains (hr.mono (by decide)) T.b_VersionContains pass0) (pv 7) (pv 0) (by rfl)))) (fun _ _ _ _ _ => (pv 7))) (pe_lst pa_nil) (nomark _)) (pss_one (ps_ret pe_bl)) pss_nil)
      (pss_cons (ps_if (PW.pt (pw_or (pt_cmpR (op_inO T.o_VersionContains gVersionContains (hr.mono (by decide)) T.b_VersionContains pass0) pe_str (pv 0) (by rfl)) (pw_or1 (pt_cmpR (op_ne) (pe_cmpR (op_inO T.o_VersionContains gVersionContains (hr.mono (by decide)) T.b_VersionContains pass0) pe_str (pv 0) (by rfl)) (pe_cmpR (op_in_seq) pe_str (pv 1) (by rfl)) (nomark _))))) (pss_one (ps_ret pe_bl)) pss_nil)
      (pss_cons (ps_for PassesOwn.never rfl (pi_list (pe_lst (pa_cons (pe_un un_neg pe_int) (pa_cons (pe_callB call_lenH (by rfl) T.z_len (by decide +kernel) (pa_cons (pv 1) pa_nil)) (pa_cons pe_non (pa_cons pe_bl (pa_cons pe_str (pa_cons (pe_op op_pow pe_int pe_int) (pa_cons (pe_lst (pa_cons pe_int pa_nil)) (pa_cons (pe_tup (pa_cons pe_int pa_nil)) pa_nil)))))))))) (pg_name (i := 4) scLawRight.nd rfl (Or.inr rfl)) (pss_one (ps_if (pt_cmpR (op_neSs hr.units) (pe_lamC (k := 5) (by rfl) T.m_LawCaught T.f_LawCaught.kp lk0 cg0 b0 scLawCaught rfl va0 hCaught TB rfl mT0 hu0 (hr.mono (by decide)) (LamX.lamS_by (sc := defScope sLawRight) (by decide +kernel)) rfl (fun _ _ _ _ _ => rfl) (fun _ _ _ _ _ _ _ hr _ => (pe_ixO T.o_VersionGetitem T.fi_VersionGetitem gVersionGetitem (hr.mono (by decide)) T.b_VersionGetitem (passes_call (takes_of rfl rfl rfl rfl) (fun _ _ _ _ h => h)) (pv 0) (pv 4)))) (pe_lst (pa_cons pe_str (pa_cons (pe_callB (call_reprD hr hG) (by rfl) T.z_repr (by decide +kernel) (pa_cons (pv 4) pa_nil)) pa_nil))) (nomark _)) (pss_one (ps_ret pe_bl)) pss_nil)))
      (pss_one (ps_ret pe_bl))))))))), ?_⟩
    obtain ⟨dx, l, p, ha, hl, hp⟩ := va
    have strsD : ∀ {H' : Hp}, DpAll K H' (ls.map V.str) (ls.map PyData.str) := fun {H'} => dp_strs ls
    have intsD : ∀ {H' : Hp}, DpAll K H' (ps.map V.int) (ps.map PyData.int) := fun {H'} => dp_ints ps
    refine seq_gen fun N eN => ?_
    try simp only [tSeq, tNext, tRet, tRetN, tAsg, gName, gSub, tDrop, tIfS, tOp, tUn, tCB, tCons, tNil, tC, tVar, rI, rI0, rU, tAnd, tOr, tNot, tAndV, tOrV, tNotV, tIf, tTest, tB, tCall, tChain, tLst, tTup, tYes, rIxH, rIsB, rIsBT, rMulS, kd_non, kd_bl, kd_int, kd_str, kd_ref, kdO_lst, kdO_tup, kdO_dK, nq_n, nq_b, nq_i, nq_s, nq_l, nq_t, nq_d, ne_eq, not_false_eq_true, kit_ss, kit_ns, kit_bs, kit_is, kit_ls, kit_ts, kit_ds, kit_bb, V.ty.injEq, and_assoc, rIxU, rLenH, rLenU, rLenS, rInt1, rSetL, rEq, rNe, rCat, L2.start, List.map, List.length, List.length_cons, List.length_nil, List.replicate, List.getElem?_cons_zero, List.getElem?_cons_succ, List.set_cons_zero, List.set_cons_succ, List.set_nil, List.cons_append, List.nil_append, List.append_nil, Option.some.injEq, V.int.injEq, V.ref.injEq, V.str.injEq, V.bl.injEq, HO.lst.injEq, HO.tup.injEq, exists_eq_left', exists_and_left, exists_eq_left, List.cons.injEq, and_true, true_and, and_false, false_and, and_self, reduceCtorEq, exists_false, or_false, false_or, exists_const, at0, at1, at2, at3, at4, at5, ix51, ix52, ix54, upd_same, Nat.reduceAdd, Nat.reduceSub, Nat.zero_add, Int.reduceToNat, Int.reduceLE, Int.reduceLT, decide_eq_true_eq, Bool.not_eq_true, if_true, if_false, Bool.false_eq_true, ite_true, ite_false, Bool.not_true, Bool.not_false, decide_true, decide_false, tFor_eq, tLc_eq, iList, iTup, iRng1, iRng2, iStr, tSl, tPart, tNoPart, rSlL, cxOf_K, wipe, ex_ty2, kit_LTl, kit_LTt, kit_LTd, kit_LTs, kit_LTn, kit_LTb, kit_LTi, tM1, rIxS, exists_eq', lt1p, tDNewK, rSlS, rEqNil, nox_K, tProp, ha, HO.ins.injEq]
    refine ⟨a, dx, l, p, n, rfl, ha, ?_⟩
    refine ⟨l, lb, _, _, rfl, hl, hlb, fun H' _ => strsD, ow.gs, fun H1 s1 => ⟨true, rfl, ?_⟩⟩
    have ha1 := s1 _ _ ha
    rw [if_neg (by decide)]
    refine ⟨_, _, ha1, a, dx, l, p, n, rfl, ha1, scal_str, ?_⟩
    rw [if_neg (by simp)]
    rw [eN]
    clear eN N
    refine seq_gen fun N eN => ?_
    try simp only [tSeq, tNext, tRet, tRetN, tAsg, gName, gSub, tDrop, tIfS, tOp, tUn, tCB, tCons, tNil, tC, tVar, rI, rI0, rU, tAnd, tOr, tNot, tAndV, tOrV, tNotV, tIf, tTest, tB, tCall, tChain, tLst, tTup, tYes, rIxH, rIsB, rIsBT, rMulS, kd_non, kd_bl, kd_int, kd_str, kd_ref, kdO_lst, kdO_tup, kdO_dK, nq_n, nq_b, nq_i, nq_s, nq_l, nq_t, nq_d, ne_eq, not_false_eq_true, kit_ss, kit_ns, kit_bs, kit_is, kit_ls, kit_ts, kit_ds, kit_bb, V.ty.injEq, and_assoc, rIxU, rLenH, rLenU, rLenS, rInt1, rSetL, rEq, rNe, rCat, L2.start, List.map, List.length, List.length_cons, List.length_nil, List.replicate, List.getElem?_cons_zero, List.getElem?_cons_succ, List.set_cons_zero, List.set_cons_succ, List.set_nil, List.cons_append, List.nil_append, List.append_nil, Option.some.injEq, V.int.injEq, V.ref.injEq, V.str.injEq, V.bl.injEq, HO.lst.injEq, HO.tup.injEq, exists_eq_left', exists_and_left, exists_eq_left, List.cons.injEq, and_true, true_and, and_false, false_and, and_self, reduceCtorEq, exists_false, or_false, false_or, exists_const, at0, at1, at2, at3, at4, at5, ix51, ix52, ix54, upd_same, Nat.reduceAdd, Nat.reduceSub, Nat.zero_add, Int.reduceToNat, Int.reduceLE, Int.reduceLT, decide_eq_true_eq, Bool.not_eq_true, if_true, if_false, Bool.false_eq_true, ite_true, ite_false, Bool.not_true, Bool.not_false, decide_true, decide_false, tFor_eq, tLc_eq, iList, iTup, iRng1, iRng2, iStr, tSl, tPart, tNoPart, rSlL, cxOf_K, wipe, ex_ty2, kit_LTl, kit_LTt, kit_LTd, kit_LTs, kit_LTn, kit_LTb, kit_LTi, tM1, rIxS, exists_eq', lt1p, tDNewK, rSlS, rEqNil, nox_K, tProp, ha1, HO.ins.injEq]
    refine ⟨a, dx, l, p, n, rfl, ha1, ?_⟩
    have heb1 := s1 _ _ heb
    have hp1 := s1 _ _ hp
    refine ⟨⟨_, SqL.of heb1⟩, fun D hD => ?_⟩
    refine lc_same (walk_list (K := K) (xs := qs.map V.int)) (fun _ => true) (fun v => v) hD (fun _ s2 => s2.seq (SqL.of heb1)) (by rw [List.length_map]; have := ow.ql; omega) (fun x hx H2 s2 R R0 h1 _ => ?_) (fun H2 s2 h2 => ?_)
    · obtain ⟨i, rfl⟩ := mem_int hx
      try simp only [tSeq, tNext, tRet, tRetN, tAsg, gName, gSub, tDrop, tIfS, tOp, tUn, tCB, tCons, tNil, tC, tVar, rI, rI0, rU, tAnd, tOr, tNot, tAndV, tOrV, tNotV, tIf, tTest, tB, tCall, tChain, tLst, tTup, tYes, rIxH, rIsB, rIsBT, rMulS, kd_non, kd_bl, kd_int, kd_str, kd_ref, kdO_lst, kdO_tup, kdO_dK, nq_n, nq_b, nq_i, nq_s, nq_l, nq_t, nq_d, ne_eq, not_false_eq_true, kit_ss, kit_ns, kit_bs, kit_is, kit_ls, kit_ts, kit_ds, kit_bb, V.ty.injEq, and_assoc, rIxU, rLenH, rLenU, rLenS, rInt1, rSetL, rEq, rNe, rCat, L2.start, List.map, List.length, List.length_cons, List.length_nil, List.replicate, List.getElem?_cons_zero, List.getElem?_cons_succ, List.set_cons_zero, List.set_cons_succ, List.set_nil, List.cons_append, List.nil_append, List.append_nil, Option.some.injEq, V.int.injEq, V.ref.injEq, V.str.injEq, V.bl.injEq, HO.lst.injEq, HO.tup.injEq, exists_eq_left', exists_and_left, exists_eq_left, List.cons.injEq, and_true, true_and, and_false, false_and, and_self, reduceCtorEq, exists_false, or_false, false_or, exists_const, at0, at1, at2, at3, at4, at5, ix51, ix52, ix54, upd_same, Nat.reduceAdd, Nat.reduceSub, Nat.zero_add, Int.reduceToNat, Int.reduceLE, Int.reduceLT, decide_eq_true_eq, Bool.not_eq_true, if_true, if_false, Bool.false_eq_true, ite_true, ite_false, Bool.not_true, Bool.not_false, decide_true, decide_false, tFor_eq, tLc_eq, iList, iTup, iRng1, iRng2, iStr, tSl, tPart, tNoPart, rSlL, cxOf_K, wipe, ex_ty2, kit_LTl, kit_LTt, kit_LTd, kit_LTs, kit_LTn, kit_LTb, kit_LTi, tM1, rIxS, exists_eq', lt1p, tDNewK, rSlS, rEqNil, nox_K]
      exact h1 H2 (Same.refl _) rfl
    rw [filter_all, List.map_id'] at h2
    refine ⟨D, qs, rfl, SqL.of h2, by have := ow.ql; omega, fun ns' p2 pm po n2 => ?_⟩
    have e := sorted_uniq ow.po po (pm.nodup_iff.mpr ow.qn) fun k => (ow.pm k).trans pm.mem_iff.symm
    subst e
    refine ⟨p, p2, _, _, rfl, same_new n2 _ _ (s2 _ _ hp1), upd_same, fun H' _ => intsD, ow.gp, fun H3 s3 => ⟨true, rfl, ?_⟩⟩
    have s03 := ((s1.trans s2).trans (same_new n2)).trans s3
    rw [if_neg (by decide)]
    rw [eN]
    clear eN N s1 s2 s3 h2 ha1 heb1 hp1 n2 hD H1 H2 pm po
    have ha3 := s03 _ _ ha
    have hl3 := s03 _ _ hl
    have hlb3 := s03 _ _ hlb
    refine seq_gen fun N eN => ?_
    try simp only [tSeq, tNext, tRet, tRetN, tAsg, gName, gSub, tDrop, tIfS, tOp, tUn, tCB, tCons, tNil, tC, tVar, rI, rI0, rU, tAnd, tOr, tNot, tAndV, tOrV, tNotV, tIf, tTest, tB, tCall, tChain, tLst, tTup, tYes, rIxH, rIsB, rIsBT, rMulS, kd_non, kd_bl, kd_int, kd_str, kd_ref, kdO_lst, kdO_tup, kdO_dK, nq_n, nq_b, nq_i, nq_s, nq_l, nq_t, nq_d, ne_eq, not_false_eq_true, kit_ss, kit_ns, kit_bs, kit_is, kit_ls, kit_ts, kit_ds, kit_bb, V.ty.injEq, and_assoc, rIxU, rLenH, rLenU, rLenS, rInt1, rSetL, rEq, rNe, rCat, L2.start, List.map, List.length, List.length_cons, List.length_nil, List.replicate, List.getElem?_cons_zero, List.getElem?_cons_succ, List.set_cons_zero, List.set_cons_succ, List.set_nil, List.cons_append, List.nil_append, List.append_nil, Option.some.injEq, V.int.injEq, V.ref.injEq, V.str.injEq, V.bl.injEq, HO.lst.injEq, HO.tup.injEq, exists_eq_left', exists_and_left, exists_eq_left, List.cons.injEq, and_true, true_and, and_false, false_and, and_self, reduceCtorEq, exists_false, or_false, false_or, exists_const, at0, at1, at2, at3, at4, at5, ix51, ix52, ix54, upd_same, Nat.reduceAdd, Nat.reduceSub, Nat.zero_add, Int.reduceToNat, Int.reduceLE, Int.reduceLT, decide_eq_true_eq, Bool.not_eq_true, if_true, if_false, Bool.false_eq_true, ite_true, ite_false, Bool.not_true, Bool.not_false, decide_true, decide_false, tFor_eq, tLc_eq, iList, iTup, iRng1, iRng2, iStr, tSl, tPart, tNoPart, rSlL, cxOf_K, wipe, ex_ty2, kit_LTl, kit_LTt, kit_LTd, kit_LTs, kit_LTn, kit_LTb, kit_LTi, tM1, rIxS, exists_eq', lt1p, tDNewK, rSlS, rEqNil, nox_K, hlb3, rLenO]
    refine ⟨_, _, ha3, a, dx, l, p, n, _, rfl, ha3, hl3, _, rfl, by rw [List.length_map]; have := ow.ll; omega, _, hlb3, scal_int, ?_⟩
    rw [if_neg (by simp)]
    rw [eN]
    clear eN N
    have h12 := ow.ll
    refine seq_gen fun N eN => ?_
    try simp only [tSeq, tNext, tRet, tRetN, tAsg, gName, gSub, tDrop, tIfS, tOp, tUn, tCB, tCons, tNil, tC, tVar, rI, rI0, rU, tAnd, tOr, tNot, tAndV, tOrV, tNotV, tIf, tTest, tB, tCall, tChain, tLst, tTup, tYes, rIxH, rIsB, rIsBT, rMulS, kd_non, kd_bl, kd_int, kd_str, kd_ref, kdO_lst, kdO_tup, kdO_dK, nq_n, nq_b, nq_i, nq_s, nq_l, nq_t, nq_d, ne_eq, not_false_eq_true, kit_ss, kit_ns, kit_bs, kit_is, kit_ls, kit_ts, kit_ds, kit_bb, V.ty.injEq, and_assoc, rIxU, rLenH, rLenU, rLenS, rInt1, rSetL, rEq, rNe, rCat, L2.start, List.map, List.length, List.length_cons, List.length_nil, List.replicate, List.getElem?_cons_zero, List.getElem?_cons_succ, List.set_cons_zero, List.set_cons_succ, List.set_nil, List.cons_append, List.nil_append, List.append_nil, Option.some.injEq, V.int.injEq, V.ref.injEq, V.str.injEq, V.bl.injEq, HO.lst.injEq, HO.tup.injEq, exists_eq_left', exists_and_left, exists_eq_left, List.cons.injEq, and_true, true_and, and_false, false_and, and_self, reduceCtorEq, exists_false, or_false, false_or, exists_const, at0, at1, at2, at3, at4, at5, ix51, ix52, ix54, upd_same, Nat.reduceAdd, Nat.reduceSub, Nat.zero_add, Int.reduceToNat, Int.reduceLE, Int.reduceLT, decide_eq_true_eq, Bool.not_eq_true, if_true, if_false, Bool.false_eq_true, ite_true, ite_false, Bool.not_true, Bool.not_false, decide_true, decide_false, tFor_eq, tLc_eq, iList, iTup, iRng1, iRng2, iStr, tSl, tPart, tNoPart, rSlL, cxOf_K, wipe, ex_ty2, kit_LTl, kit_LTt, kit_LTd, kit_LTs, kit_LTn, kit_LTb, kit_LTi, tM1, rIxS, exists_eq', lt1p, tDNewK, rSlS, rEqNil, nox_K, hlb3]
    have hm := int62 (m := ((ls.map V.str).length : Int)) (by omega) (by rw [List.length_map]; omega)
    refine ⟨hm.1, hm.2, fun D hD => ?_⟩
    rw [Int.toNat_natCast, List.length_map]
    refine lc_same (walk_rangeY (lo := 0) (n := ls.length)) (fun _ => true) (itV ls) hD (fun _ _ => trivial) (by rw [rngV_len]; omega) (fun x hx H4 s4 R R0 h1 _ => ?_) (fun H4 s4 h4 => ?_)
    · obtain ⟨j, rfl, hj⟩ : ∃ j : Nat, x = .int (0 + (j : Int)) ∧ j < ls.length := by
        obtain ⟨k, hk⟩ := List.mem_iff_getElem?.mp hx
        exact ⟨k, rng_item hk⟩
      try simp only [tSeq, tNext, tRet, tRetN, tAsg, gName, gSub, tDrop, tIfS, tOp, tUn, tCB, tCons, tNil, tC, tVar, rI, rI0, rU, tAnd, tOr, tNot, tAndV, tOrV, tNotV, tIf, tTest, tB, tCall, tChain, tLst, tTup, tYes, rIxH, rIsB, rIsBT, rMulS, kd_non, kd_bl, kd_int, kd_str, kd_ref, kdO_lst, kdO_tup, kdO_dK, nq_n, nq_b, nq_i, nq_s, nq_l, nq_t, nq_d, ne_eq, not_false_eq_true, kit_ss, kit_ns, kit_bs, kit_is, kit_ls, kit_ts, kit_ds, kit_bb, V.ty.injEq, and_assoc, rIxU, rLenH, rLenU, rLenS, rInt1, rSetL, rEq, rNe, rCat, L2.start, List.map, List.length, List.length_cons, List.length_nil, List.replicate, List.getElem?_cons_zero, List.getElem?_cons_succ, List.set_cons_zero, List.set_cons_succ, List.set_nil, List.cons_append, List.nil_append, List.append_nil, Option.some.injEq, V.int.injEq, V.ref.injEq, V.str.injEq, V.bl.injEq, HO.lst.injEq, HO.tup.injEq, exists_eq_left', exists_and_left, exists_eq_left, List.cons.injEq, and_true, true_and, and_false, false_and, and_self, reduceCtorEq, exists_false, or_false, false_or, exists_const, at0, at1, at2, at3, at4, at5, ix51, ix52, ix54, upd_same, Nat.reduceAdd, Nat.reduceSub, Nat.zero_add, Int.reduceToNat, Int.reduceLE, Int.reduceLT, decide_eq_true_eq, Bool.not_eq_true, if_true, if_false, Bool.false_eq_true, ite_true, ite_false, Bool.not_true, Bool.not_false, decide_true, decide_false, tFor_eq, tLc_eq, iList, iTup, iRng1, iRng2, iStr, tSl, tPart, tNoPart, rSlL, cxOf_K, wipe, ex_ty2, kit_LTl, kit_LTt, kit_LTd, kit_LTs, kit_LTn, kit_LTb, kit_LTi, tM1, rIxS, exists_eq', lt1p, tDNewK, rSlS, rEqNil, nox_K, rIxO]
      have ha4 := s4 _ _ ha3
      have ej : (0 + (j : Int)) = (j : Int) := by omega
      have q := h1 H4 (Same.refl _) rfl
      have e : itV ls (.int (0 + (j : Int))) = .str ls[j] := by
        show V.str (ls.getD (0 + (j : Int)).toNat Str.empty) = _
        rw [Int.zero_add, Int.toNat_natCast, List.getD_eq_getElem?_getD, List.getElem?_eq_getElem hj]
        rfl
      rw [e] at q
      refine ⟨_, _, ha4, a, dx, l, p, n, ls, _, rfl, ha4, s4 _ _ hl3, .int _, .inl ⟨j, ls[j], by rw [ej], List.getElem?_eq_getElem hj, q⟩⟩
    rw [itV_list] at h4
    have s04 := s03.trans s4
    have ha4 := s04 _ _ ha
    have hl4 := s04 _ _ hl
    have hlb4 := s04 _ _ hlb
    refine neL_strs h4 hlb4 ow.asc ow.asc ?_
    refine ⟨_, rfl, ?_⟩
    rw [if_neg (by simp)]
    rw [eN]
    clear eN N h4 hD D s4 ha3 hl3 hlb3
    refine seq_gen fun N eN => ?_
    try simp only [tSeq, tNext, tRet, tRetN, tAsg, gName, gSub, tDrop, tIfS, tOp, tUn, tCB, tCons, tNil, tC, tVar, rI, rI0, rU, tAnd, tOr, tNot, tAndV, tOrV, tNotV, tIf, tTest, tB, tCall, tChain, tLst, tTup, tYes, rIxH, rIsB, rIsBT, rMulS, kd_non, kd_bl, kd_int, kd_str, kd_ref, kdO_lst, kdO_tup, kdO_dK, nq_n, nq_b, nq_i, nq_s, nq_l, nq_t, nq_d, ne_eq, not_false_eq_true, kit_ss, kit_ns, kit_bs, kit_is, kit_ls, kit_ts, kit_ds, kit_bb, V.ty.injEq, and_assoc, rIxU, rLenH, rLenU, rLenS, rInt1, rSetL, rEq, rNe, rCat, L2.start, List.map, List.length, List.length_cons, List.length_nil, List.replicate, List.getElem?_cons_zero, List.getElem?_cons_succ, List.set_cons_zero, List.set_cons_succ, List.set_nil, List.cons_append, List.nil_append, List.append_nil, Option.some.injEq, V.int.injEq, V.ref.injEq, V.str.injEq, V.bl.injEq, HO.lst.injEq, HO.tup.injEq, exists_eq_left', exists_and_left, exists_eq_left, List.cons.injEq, and_true, true_and, and_false, false_and, and_self, reduceCtorEq, exists_false, or_false, false_or, exists_const, at0, at1, at2, at3, at4, at5, ix51, ix52, ix54, upd_same, Nat.reduceAdd, Nat.reduceSub, Nat.zero_add, Int.reduceToNat, Int.reduceLE, Int.reduceLT, decide_eq_true_eq, Bool.not_eq_true, if_true, if_false, Bool.false_eq_true, ite_true, ite_false, Bool.not_true, Bool.not_false, decide_true, decide_false, tFor_eq, tLc_eq, iList, iTup, iRng1, iRng2, iStr, tSl, tPart, tNoPart, rSlL, cxOf_K, wipe, ex_ty2, kit_LTl, kit_LTt, kit_LTd, kit_LTs, kit_LTn, kit_LTb, kit_LTi, tM1, rIxS, exists_eq', lt1p, tDNewK, rSlS, rEqNil, nox_K]
    refine ⟨⟨_, SqL.of hlb4⟩, fun D hD => ?_⟩
    refine lc_same (walk_list (K := K) (xs := ls.map V.str)) (fun _ => false) (fun v => v) hD (fun _ s2 => s2.seq (SqL.of hlb4)) (by rw [List.length_map]; omega) (fun x hx H5 s5 R R0 _ h1 => ?_) (fun H5 s5 h5 => ?_)
    · obtain ⟨z, hz, rfl⟩ := List.mem_map.mp hx
      try simp only [tSeq, tNext, tRet, tRetN, tAsg, gName, gSub, tDrop, tIfS, tOp, tUn, tCB, tCons, tNil, tC, tVar, rI, rI0, rU, tAnd, tOr, tNot, tAndV, tOrV, tNotV, tIf, tTest, tB, tCall, tChain, tLst, tTup, tYes, rIxH, rIsB, rIsBT, rMulS, kd_non, kd_bl, kd_int, kd_str, kd_ref, kdO_lst, kdO_tup, kdO_dK, nq_n, nq_b, nq_i, nq_s, nq_l, nq_t, nq_d, ne_eq, not_false_eq_true, kit_ss, kit_ns, kit_bs, kit_is, kit_ls, kit_ts, kit_ds, kit_bb, V.ty.injEq, and_assoc, rIxU, rLenH, rLenU, rLenS, rInt1, rSetL, rEq, rNe, rCat, L2.start, List.map, List.length, List.length_cons, List.length_nil, List.replicate, List.getElem?_cons_zero, List.getElem?_cons_succ, List.set_cons_zero, List.set_cons_succ, List.set_nil, List.cons_append, List.nil_append, List.append_nil, Option.some.injEq, V.int.injEq, V.ref.injEq, V.str.injEq, V.bl.injEq, HO.lst.injEq, HO.tup.injEq, exists_eq_left', exists_and_left, exists_eq_left, List.cons.injEq, and_true, true_and, and_false, false_and, and_self, reduceCtorEq, exists_false, or_false, false_or, exists_const, at0, at1, at2, at3, at4, at5, ix51, ix52, ix54, upd_same, Nat.reduceAdd, Nat.reduceSub, Nat.zero_add, Int.reduceToNat, Int.reduceLE, Int.reduceLT, decide_eq_true_eq, Bool.not_eq_true, if_true, if_false, Bool.false_eq_true, ite_true, ite_false, Bool.not_true, Bool.not_false, decide_true, decide_false, tFor_eq, tLc_eq, iList, iTup, iRng1, iRng2, iStr, tSl, tPart, tNoPart, rSlL, cxOf_K, wipe, ex_ty2, kit_LTl, kit_LTt, kit_LTd, kit_LTs, kit_LTn, kit_LTb, kit_LTi, tM1, rIxS, exists_eq', lt1p, tDNewK, rSlS, rEqNil, nox_K, rInO]
      have ha5 := s5 _ _ ha4
      refine ⟨_, _, ha5, a, dx, l, p, n, ls, z, rfl, ha5, s5 _ _ hl4, _, rfl, ?_⟩
      rw [decide_eq_true hz]
      exact h1 H5 (Same.refl _) rfl
    have e5 : H5 D = some (.lst []) := by
      rw [h5, List.filter_eq_nil_iff.mpr (fun _ _ => by decide)]
      rfl
    refine ⟨by decide, ?_⟩
    intro p5 n_p5; generalize g_H6 : upd H5 p5 _ = H6; obtain ⟨s_H6, h_p5⟩ := new_facts n_p5 g_H6; clear g_H6
    refine neD_nn (s_H6 _ _ e5) h_p5 ?_
    refine ⟨_, rfl, ?_⟩
    rw [if_neg (by decide)]
    have s06 := (s04.trans s5).trans s_H6
    rw [eN]
    clear eN N h5 e5 hD D s5 ha4 hl4 hlb4 s_H6 h_p5 n_p5
    have ha6 := s06 _ _ ha
    have hl6 := s06 _ _ hl
    have hlb6 := s06 _ _ hlb
    refine seq_gen fun N eN => ?_
    try simp only [tSeq, tNext, tRet, tRetN, tAsg, gName, gSub, tDrop, tIfS, tOp, tUn, tCB, tCons, tNil, tC, tVar, rI, rI0, rU, tAnd, tOr, tNot, tAndV, tOrV, tNotV, tIf, tTest, tB, tCall, tChain, tLst, tTup, tYes, rIxH, rIsB, rIsBT, rMulS, kd_non, kd_bl, kd_int, kd_str, kd_ref, kdO_lst, kdO_tup, kdO_dK, nq_n, nq_b, nq_i, nq_s, nq_l, nq_t, nq_d, ne_eq, not_false_eq_true, kit_ss, kit_ns, kit_bs, kit_is, kit_ls, kit_ts, kit_ds, kit_bb, V.ty.injEq, and_assoc, rIxU, rLenH, rLenU, rLenS, rInt1, rSetL, rEq, rNe, rCat, L2.start, List.map, List.length, List.length_cons, List.length_nil, List.replicate, List.getElem?_cons_zero, List.getElem?_cons_succ, List.set_cons_zero, List.set_cons_succ, List.set_nil, List.cons_append, List.nil_append, List.append_nil, Option.some.injEq, V.int.injEq, V.ref.injEq, V.str.injEq, V.bl.injEq, HO.lst.injEq, HO.tup.injEq, exists_eq_left', exists_and_left, exists_eq_left, List.cons.injEq, and_true, true_and, and_false, false_and, and_self, reduceCtorEq, exists_false, or_false, false_or, exists_const, at0, at1, at2, at3, at4, at5, ix51, ix52, ix54, upd_same, Nat.reduceAdd, Nat.reduceSub, Nat.zero_add, Int.reduceToNat, Int.reduceLE, Int.reduceLT, decide_eq_true_eq, Bool.not_eq_true, if_true, if_false, Bool.false_eq_true, ite_true, ite_false, Bool.not_true, Bool.not_false, decide_true, decide_false, tFor_eq, tLc_eq, iList, iTup, iRng1, iRng2, iStr, tSl, tPart, tNoPart, rSlL, cxOf_K, wipe, ex_ty2, kit_LTl, kit_LTt, kit_LTd, kit_LTs, kit_LTn, kit_LTb, kit_LTi, tM1, rIxS, exists_eq', lt1p, tDNewK, rSlS, rEqNil, nox_K, rInO]
    have nsl : Str.ofString "no such line" ∉ ls := fun h => (wordL (ow.lw _ h)).2.2.2 rfl
    refine ⟨_, _, ha6, a, dx, l, p, n, ls, _, rfl, ha6, hl6, _, rfl, ?_⟩
    rw [decide_eq_false nsl, if_neg (by decide)]
    refine ⟨_, _, ha6, a, dx, l, p, n, ls, _, rfl, ha6, hl6, _, rfl, ?_⟩
    refine ⟨lb, _, rfl, .inl (SqL.of hlb6), rfl, flat_strs ls, ?_⟩
    rw [if_neg (by decide), in_strs]
    refine ⟨scal_bl, ?_⟩
    rw [if_neg (by simp)]
    rw [eN]
    clear eN N
    refine seq_gen fun N eN => ?_
    try simp only [tSeq, tNext, tRet, tRetN, tAsg, gName, gSub, tDrop, tIfS, tOp, tUn, tCB, tCons, tNil, tC, tVar, rI, rI0, rU, tAnd, tOr, tNot, tAndV, tOrV, tNotV, tIf, tTest, tB, tCall, tChain, tLst, tTup, tYes, rIxH, rIsB, rIsBT, rMulS, kd_non, kd_bl, kd_int, kd_str, kd_ref, kdO_lst, kdO_tup, kdO_dK, nq_n, nq_b, nq_i, nq_s, nq_l, nq_t, nq_d, ne_eq, not_false_eq_true, kit_ss, kit_ns, kit_bs, kit_is, kit_ls, kit_ts, kit_ds, kit_bb, V.ty.injEq, and_assoc, rIxU, rLenH, rLenU, rLenS, rInt1, rSetL, rEq, rNe, rCat, L2.start, List.map, List.length, List.length_cons, List.length_nil, List.replicate, List.getElem?_cons_zero, List.getElem?_cons_succ, List.set_cons_zero, List.set_cons_succ, List.set_nil, List.cons_append, List.nil_append, List.append_nil, Option.some.injEq, V.int.injEq, V.ref.injEq, V.str.injEq, V.bl.injEq, HO.lst.injEq, HO.tup.injEq, exists_eq_left', exists_and_left, exists_eq_left, List.cons.injEq, and_true, true_and, and_false, false_and, and_self, reduceCtorEq, exists_false, or_false, false_or, exists_const, at0, at1, at2, at3, at4, at5, ix51, ix52, ix54, upd_same, Nat.reduceAdd, Nat.reduceSub, Nat.zero_add, Int.reduceToNat, Int.reduceLE, Int.reduceLT, decide_eq_true_eq, Bool.not_eq_true, if_true, if_false, Bool.false_eq_true, ite_true, ite_false, Bool.not_true, Bool.not_false, decide_true, decide_false, tFor_eq, tLc_eq, iList, iTup, iRng1, iRng2, iStr, tSl, tPart, tNoPart, rSlL, cxOf_K, wipe, ex_ty2, kit_LTl, kit_LTt, kit_LTd, kit_LTs, kit_LTn, kit_LTb, kit_LTi, tM1, rIxS, exists_eq', lt1p, tDNewK, rSlS, rEqNil, nox_K, hlb6, List.length_map]
    refine ⟨⟨by decide, by decide, by decide⟩, by decide, ?_⟩
    intro p1 n_p1; generalize g_H7 : upd H6 p1 _ = H7; obtain ⟨s_H7, h_p1⟩ := new_facts n_p1 g_H7; clear g_H7
    refine ⟨by decide, ?_⟩
    intro p2 n_p2; generalize g_H8 : upd H7 p2 _ = H8; obtain ⟨s_H8, h_p2⟩ := new_facts n_p2 g_H8; clear g_H8
    refine ⟨by decide, ?_⟩
    intro p3 n_p3; generalize g_H9 : upd H8 p3 _ = H9; obtain ⟨s_H9, h_p3⟩ := new_facts n_p3 g_H9; clear g_H9
    have s69 := (s_H7.trans s_H8).trans s_H9
    have e1 := (s_H8.trans s_H9) _ _ h_p1
    have e2 := s_H9 _ _ h_p2
    have odd : ∀ v ∈ [V.int (-1), V.int (ls.length : Int), V.non, V.bl true, V.str (Str.ofString "0"), V.int (10 ^ 30), V.ref p1, V.ref p2], Kn K H9 v ∧ ∀ i : Int, v = .int i → i < 0 ∨ (ls.length : Int) ≤ i := by
      intro v hv
      simp only [List.mem_cons, List.not_mem_nil, or_false] at hv
      rcases hv with rfl | rfl | rfl | rfl | rfl | rfl | rfl | rfl
      · exact ⟨kn_int (by decide +kernel), fun i e => by cases e; exact .inl (by decide)⟩
      · exact ⟨kn_int (Nat.lt_of_lt_of_le (m := 1000) (by omega) (by decide +kernel)), fun i e => by cases e; exact .inr (Int.le_refl _)⟩
      · exact ⟨⟨.non, _, .inl ⟨.non, rfl⟩, by decide +kernel, by decide +kernel, by decide⟩, fun i e => by cases e⟩
      · exact ⟨⟨.bl true, .bool true, .inl ⟨.bl _, rfl⟩, by decide +kernel, by decide +kernel, by decide⟩, fun i e => by cases e⟩
      · exact ⟨kn_str (sm_lit (by decide +kernel)) (by decide +kernel), fun i e => by cases e⟩
      · exact ⟨kn_int (by decide +kernel), fun i e => by cases e; exact .inr (Int.le_trans (b := 1000) (by omega) (by decide))⟩
      · exact ⟨⟨.lst e1, .list [.int 0], .inl ⟨.lst (SqL.of e1) (.cons (.int _) .nil), rfl⟩, by decide +kernel, by decide +kernel, by decide +kernel⟩, fun i e => by cases e⟩
      · exact ⟨⟨.tup e2, .tuple [.int 0], .inl ⟨.tup (SqT.of e2) (.cons (.int _) .nil), rfl⟩, by decide +kernel, by decide +kernel, by decide +kernel⟩, fun i e => by cases e⟩
    have h_p3' : H9 p3 = some (.lst [V.int (-1), V.int (ls.length : Int), V.non, V.bl true, V.str (Str.ofString "0"), V.int (10 ^ 30), V.ref p1, V.ref p2]) := h_p3
    clear h_p3
    generalize [V.int (-1), V.int (ls.length : Int), V.non, V.bl true, V.str (Str.ofString "0"), V.int (10 ^ 30), V.ref p1, V.ref p2] = os at odd h_p3'
    have s09 := s06.trans s69
    have x09 : Sx (ts9 A) H H9 := (Sx.refl hT).same s09
    have ha9 := s09 _ _ ha
    have hl9 := s09 _ _ hl
    have hk := T.y_InvalidNumber
    refine ⟨⟨_, SqL.of h_p3'⟩, for_go (walk_list (K := K) (a := p3) (xs := os)) (LR9 [some (V.ref a), some (V.ref lb), some (V.ref eb), some (V.str n)] [none, none, none] (ts9 A) H9) ⟨_, rfl, Sx.refl x09.tb⟩ (fun i σ H' _ q => ?_) (fun i x σ H10 hx q => ?_) (fun σ H10 q => ?_)⟩
    · obtain ⟨_, _, x10⟩ := q
      exact SqL.of (x10.at h_p3')
    · obtain ⟨_, rfl, x10⟩ := q
      obtain ⟨⟨tx, dt, ox⟩, hb⟩ := odd x (List.mem_of_getElem? hx)
      refine refused_ne x10.tb (ox.sx x10) hk rfl rfl (fun H11 x11 Ec Qc hE => ?_) fun H11 x11 => ?_
      · have x911 := x10.trans x11
        try simp only [tSeq, tNext, tRet, tRetN, tAsg, gName, gSub, tDrop, tIfS, tOp, tUn, tCB, tCons, tNil, tC, tVar, rI, rI0, rU, tAnd, tOr, tNot, tAndV, tOrV, tNotV, tIf, tTest, tB, tCall, tChain, tLst, tTup, tYes, rIxH, rIsB, rIsBT, rMulS, kd_non, kd_bl, kd_int, kd_str, kd_ref, kdO_lst, kdO_tup, kdO_dK, nq_n, nq_b, nq_i, nq_s, nq_l, nq_t, nq_d, ne_eq, not_false_eq_true, kit_ss, kit_ns, kit_bs, kit_is, kit_ls, kit_ts, kit_ds, kit_bb, V.ty.injEq, and_assoc, rIxU, rLenH, rLenU, rLenS, rInt1, rSetL, rEq, rNe, rCat, L2.start, List.map, List.length, List.length_cons, List.length_nil, List.replicate, List.getElem?_cons_zero, List.getElem?_cons_succ, List.set_cons_zero, List.set_cons_succ, List.set_nil, List.cons_append, List.nil_append, List.append_nil, Option.some.injEq, V.int.injEq, V.ref.injEq, V.str.injEq, V.bl.injEq, HO.lst.injEq, HO.tup.injEq, exists_eq_left', exists_and_left, exists_eq_left, List.cons.injEq, and_true, true_and, and_false, false_and, and_self, reduceCtorEq, exists_false, or_false, false_or, exists_const, at0, at1, at2, at3, at4, at5, ix51, ix52, ix54, upd_same, Nat.reduceAdd, Nat.reduceSub, Nat.zero_add, Int.reduceToNat, Int.reduceLE, Int.reduceLT, decide_eq_true_eq, Bool.not_eq_true, if_true, if_false, Bool.false_eq_true, ite_true, ite_false, Bool.not_true, Bool.not_false, decide_true, decide_false, tFor_eq, tLc_eq, iList, iTup, iRng1, iRng2, iStr, tSl, tPart, tNoPart, rSlL, cxOf_K, wipe, ex_ty2, kit_LTl, kit_LTt, kit_LTd, kit_LTs, kit_LTn, kit_LTb, kit_LTi, tM1, rIxS, exists_eq', lt1p, tDNewK, rSlS, rEqNil, rIxO, List.cons_append, List.nil_append]
        exact ⟨_, _, x911.at ha9, a, dx, l, p, n, ls, x, rfl, x911.at ha9, x911.at hl9, tx.extN x911.ex, .inr ⟨hb, hE⟩⟩
      · exact ⟨false, rfl, _, rfl, x10.trans x11⟩
    · obtain ⟨_, rfl, x10⟩ := q
      dsimp only
      rw [eN]
      try simp only [tSeq, tNext, tRet, tRetN, tAsg, gName, gSub, tDrop, tIfS, tOp, tUn, tCB, tCons, tNil, tC, tVar, rI, rI0, rU, tAnd, tOr, tNot, tAndV, tOrV, tNotV, tIf, tTest, tB, tCall, tChain, tLst, tTup, tYes, rIxH, rIsB, rIsBT, rMulS, kd_non, kd_bl, kd_int, kd_str, kd_ref, kdO_lst, kdO_tup, kdO_dK, nq_n, nq_b, nq_i, nq_s, nq_l, nq_t, nq_d, ne_eq, not_false_eq_true, kit_ss, kit_ns, kit_bs, kit_is, kit_ls, kit_ts, kit_ds, kit_bb, V.ty.injEq, and_assoc, rIxU, rLenH, rLenU, rLenS, rInt1, rSetL, rEq, rNe, rCat, L2.start, List.map, List.length, List.length_cons, List.length_nil, List.replicate, List.getElem?_cons_zero, List.getElem?_cons_succ, List.set_cons_zero, List.set_cons_succ, List.set_nil, List.cons_append, List.nil_append, List.append_nil, Option.some.injEq, V.int.injEq, V.ref.injEq, V.str.injEq, V.bl.injEq, HO.lst.injEq, HO.tup.injEq, exists_eq_left', exists_and_left, exists_eq_left, List.cons.injEq, and_true, true_and, and_false, false_and, and_self, reduceCtorEq, exists_false, or_false, false_or, exists_const, at0, at1, at2, at3, at4, at5, ix51, ix52, ix54, upd_same, Nat.reduceAdd, Nat.reduceSub, Nat.zero_add, Int.reduceToNat, Int.reduceLE, Int.reduceLT, decide_eq_true_eq, Bool.not_eq_true, if_true, if_false, Bool.false_eq_true, ite_true, ite_false, Bool.not_true, Bool.not_false, decide_true, decide_false, tFor_eq, tLc_eq, iList, iTup, iRng1, iRng2, iStr, tSl, tPart, tNoPart, rSlL, cxOf_K, wipe, ex_ty2, kit_LTl, kit_LTt, kit_LTd, kit_LTs, kit_LTn, kit_LTb, kit_LTi, tM1, rIxS, exists_eq', lt1p, tDNewK, rSlS, rEqNil, nox_K]
      exact k _ (x09.trans x10)
end



/-! ### _law_refused -/
theorem seqV_extN {H H' : Hp} {v : V} (e : LamX.ExtN H H') (h : Thg H v) : seqV H' v = seqV H v := by
  cases h with
  | lst h => show seqO (H' _) = seqO (H _); rw [h, e _ _ h (fun ps z => by cases z)]
  | tup h => show seqO (H' _) = seqO (H _); rw [h, e _ _ h (fun ps z => by cases z)]
  | dic h => show seqO (H' _) = seqO (H _); rw [h, e _ _ h (fun ps z => by cases z)]
  | _ => rfl
theorem Thq.extN {H H' : Hp} {v : V} (e : LamX.ExtN H H') (h : Thq H v) : Thq H' v := by
  refine ⟨h.1.extN e, fun xs hx => ?_⟩
  rw [seqV_extN e h.1] at hx
  exact ⟨(h.2 xs hx).1, fun x m => ((h.2 xs hx).2 x m).extN e⟩
theorem text_extN {H H' : Hp} {v : V} (e : LamX.ExtN H H') (h : Thq H v) : isTextV H' v = isTextV H v := by
  unfold isTextV
  rw [seqV_extN e h.1]
theorem par_extN {H H' : Hp} {v : V} (e : LamX.ExtN H H') (h : Thq H v) : isParV H' v = isParV H v := by
  unfold isParV
  rw [seqV_extN e h.1]
theorem text_ok {H : Hp} {lb : Addr} {ls : List Str} (hll : ls.length ≤ 12) (hz : ∀ z ∈ ls, isLineV (.str z) = true ∧ z.length ≤ 40 ∧ ∀ c ∈ z.cps.toList, c < 128) (hl : seqO (H lb) = some (ls.map V.str)) (ht : Thg H (.ref lb)) : Thq H (.ref lb) ∧ isTextV H (.ref lb) = true := by
  refine ⟨⟨ht, fun xs hx => ?_⟩, ?_⟩
  · have e : some (ls.map V.str) = some xs := hl.symm.trans hx
    injection e with e
    subst e
    refine ⟨by rw [List.length_map]; omega, fun x hx => ?_⟩
    obtain ⟨z, hm, rfl⟩ := List.mem_map.mp hx
    have q := hz z hm
    exact .str ⟨Nat.le_trans q.2.1 (by decide), q.2.2⟩
  · rw [text_of (show seqV H (.ref lb) = _ from hl), List.length_map, decide_eq_true hll, Bool.true_and]
    refine List.all_eq_true.mpr fun x hx => ?_
    obtain ⟨z, hm, rfl⟩ := List.mem_map.mp hx
    exact (hz z hm).1
theorem Own9.text {H : Hp} {lb : Addr} {ls : List Str} {qs ps : List Int} (h : Own9 ls qs ps) (hl : seqO (H lb) = some (ls.map V.str)) (ht : Thg H (.ref lb)) : Thq H (.ref lb) ∧ isTextV H (.ref lb) = true := by
  refine ⟨⟨ht, fun xs hx => ?_⟩, ?_⟩
  · have e : some (ls.map V.str) = some xs := hl.symm.trans hx
    injection e with e
    subst e
    refine ⟨by rw [List.length_map]; have := h.ll; omega, fun x hx => ?_⟩
    obtain ⟨z, hz, rfl⟩ := List.mem_map.mp hx
    have q := wordL (h.lw z hz)
    exact .str ⟨Nat.le_trans q.2.1 (by decide), q.2.2.1⟩
  · rw [text_of (show seqV H (.ref lb) = _ from hl), List.length_map, decide_eq_true h.ll, Bool.true_and]
    refine List.all_eq_true.mpr fun x hx => ?_
    obtain ⟨z, hz, rfl⟩ := List.mem_map.mp hx
    exact (wordL (h.lw z hz)).1
theorem par_ints {qs : List Int} (h1 : qs.length ≤ 3) (h2 : qs.Nodup) (h3 : ∀ z ∈ qs, 0 ≤ z) : parL (qs.map V.int) = true := by
  unfold parL
  have e : (qs.map V.int).map cntOf = qs := by
    rw [List.map_map]
    exact List.map_id' qs
  rw [e, List.length_map, decide_eq_true h1, decide_eq_true (nd_nodup h2), Bool.true_and, Bool.and_true]
  refine List.all_eq_true.mpr fun x hx => ?_
  obtain ⟨z, hz, rfl⟩ := List.mem_map.mp hx
  exact decide_eq_true (h3 z hz)
theorem Own9.par {K : PySem.W.Frag} {H : Hp} {v : V} {ls : List Str} {qs ps : List Int} (h : Own9 ls qs ps) {rs : List Int} (hr : ∀ k, k ∈ rs ↔ k ∈ qs) (hn : rs.Nodup) (hl : seqV H v = some (rs.map V.int)) (ht : Thg H v) : ParOk K H v rs := by
  have l3 : rs.length ≤ 3 := Nat.le_trans (len_sub hn fun x hx => (hr x).mp hx) h.ql
  refine .inl ⟨⟨ht, fun xs hx => ?_⟩, hl, par_ints l3 hn fun z hz => (h.qb z ((hr z).mp hz)).1⟩
  have e : some (rs.map V.int) = some xs := hl.symm.trans hx
  injection e with e
  subst e
  refine ⟨by rw [List.length_map]; omega, fun x hx => ?_⟩
  obtain ⟨i, rfl⟩ := mem_int hx
  exact .int i
theorem thq_of {H : Hp} {v : V} {xs : List V} (h : Thg H v) (e : seqV H v = some xs) (hl : xs.length ≤ 1000) (hx : ∀ x ∈ xs, Thg H x) : Thq H v := by
  refine ⟨h, fun ys hy => ?_⟩
  rw [e] at hy
  injection hy with hy
  subst hy
  exact ⟨hl, hx⟩
theorem thq_no {H : Hp} {v : V} (h : Thg H v) (e : seqV H v = none) : Thq H v := ⟨h, fun ys hy => by rw [e] at hy; cases hy⟩
theorem seq_lst {H : Hp} {a : Addr} {xs : List V} (e : H a = some (.lst xs)) : seqV H (.ref a) = some xs := by
  show seqO (H a) = _
  rw [e]
  rfl
theorem seq_tup {H : Hp} {a : Addr} {xs : List V} (e : H a = some (.tup xs)) : seqV H (.ref a) = some xs := by
  show seqO (H a) = _
  rw [e]
  rfl
theorem seq_dic {H : Hp} {a : Addr} {kvs : List (Key × V)} (e : H a = some (.dK kvs)) : seqV H (.ref a) = none := by
  show seqO (H a) = _
  rw [e]
  rfl
theorem mem1 {α : Type} {P : α → Prop} {a : α} (h : P a) : ∀ x ∈ [a], P x := fun x hx => by rw [List.mem_singleton.mp hx]; exact h
theorem mem2 {α : Type} {P : α → Prop} {a b : α} (h : P a) (h2 : P b) : ∀ x ∈ [a, b], P x := fun x hx => by
  rcases List.mem_cons.mp hx with e | e
  · rw [e]; exact h
  · rw [List.mem_singleton.mp e]; exact h2
def spRef9 (K : PySem.W.Frag) (A : Adr) : Sp := fun vs H Q _ => ∃ lb eb n ls qs ps, vs = [.ref lb, .ref eb, .str n] ∧ H lb = some (.lst (ls.map V.str)) ∧ H eb = some (.lst (qs.map V.int)) ∧ Own9 ls qs ps ∧ LamX.Tabs (ts9 A) H ∧ ∀ H', Sx (ts9 A) H H' → Q (.bl true) H'
section
variable {w : World} {K : PySem.W.Frag} {mg : Str → Option Value} {base : Heap} {A : Adr}
theorem ok_ref9 (T : Txt K mg A) (TB : LamX.TabB base mg A.c_LawRefused A.t_LawRefused) (gLawKind : FnOk PW w K mg base CX0 1 A.a_LawKind A.d_LawKind ["_law_error"] (spKind K A))
    (gVersionInit : FnOk PW w K mg base (L2.CX PW w) 4 A.a_VersionInit A.d_VersionInit ["self", "lines", "parents", "author"] (spVer K A.k_Version A.k_InvalidText A.k_InvalidParents A.k_InvalidName)) :
    FnG PW w K mg base CX0 9 A.a_LawRefused A.d_LawRefused ["_law_lines", "_law_elders", "_law_name"] (spRef9 K A) := by
  refine okGC T.fc_LawRefused scLawRefused (fun vs H Q E h => ?_) (fun A' outer s H vs Q E hr hG h => ?_)
  · obtain ⟨lb, eb, n, ls, qs, ps, rfl, _⟩ := h
    rfl
  · obtain ⟨lb, eb, n, ls, qs, ps, rfl, hlb, heb, ow, hT, k⟩ := h
    obtain ⟨oc0, od0, kV0, doc0, pm0, an0, cdv0, ct0, osl0, lk0, cg0, b0⟩ := caught_pack T
    have va0 : Vis (defScope sLawCaught) "_law_call" := .inl (by decide +kernel)
    have hCaught := fun q => caught_gives (q := q) (cdv := cdv0) T gLawKind (hr.mono (by decide)) hG
    have mT0 : (A.t_LawRefused, qRefused) ∈ ts9 A := List.mem_cons_of_mem _ List.mem_cons_self
    have hu0 : ∀ p ∈ ts9 A, p.1 = A.t_LawRefused → p.2 = qRefused := fun p hp e => by
      rcases List.mem_cons.mp hp with h | h
      · rw [h] at e
        exact absurd e T.dt_LawRight_LawRefused
      · rw [List.mem_singleton.mp h]
    have hCaught := hCaught qRefused
    refine ⟨_, (pss_cons (ps_for PassesOwn.never rfl (pi_list (pe_lst (pa_cons pe_non (pa_cons pe_str (pa_cons pe_int (pa_cons (pe_lst (pa_cons pe_str (pa_cons pe_int pa_nil))) (pa_cons (pe_lst (pa_cons pe_str pa_nil)) (pa_cons (pe_op op_rep (pe_lst (pa_cons pe_str pa_nil)) pe_int) (pa_cons pe_dnewK (pa_cons (pe_lst (pa_cons (pe_op op_mul_str pe_str pe_int) pa_nil)) pa_nil)))))))))) (pg_name (i := 3) scLawRefused.nd rfl (Or.inr rfl)) (pss_one (ps_if (pt_cmpR (op_neSs hr.units) (pe_lamC (k := 5) (by rfl) T.m_LawCaught T.f_LawCaught.kp lk0 cg0 b0 scLawCaught rfl va0 hCaught TB rfl mT0 hu0 (hr.mono (by decide)) (LamX.lamS_by (sc := defScope sLawRefused) (by decide +kernel)) rfl (fun _ _ _ _ _ => rfl) (fun _ _ _ _ _ _ _ hr _ => (pe_makeK T.mk_Version gVersionInit (hr.mono (by decide)) (by rfl) T.k_Version T.kb0_VersionInit.choose_spec (passes_call (takes_of rfl rfl rfl rfl) (fun _ _ _ _ h => h)) (pa_cons (pv 3) pa_nil) (pk_cons pe_non (pk_cons pe_non pk_nil))))) (pe_lst (pa_cons pe_str (pa_cons (pe_callB (call_reprD hr hG) (by rfl) T.z_repr (by decide +kernel) (pa_cons (pv 3) pa_nil)) pa_nil))) (nomark _)) (pss_one (ps_ret pe_bl)) pss_nil)))
      (pss_cons (ps_for PassesOwn.never rfl (pi_list (pe_lst (pa_cons pe_non (pa_cons pe_int (pa_cons (pe_lst (pa_cons (pe_un un_neg pe_int) pa_nil)) (pa_cons (pe_lst (pa_cons pe_int (pa_cons pe_int pa_nil))) (pa_cons (pe_lst (pa_cons pe_int (pa_cons pe_bl pa_nil))) (pa_cons (pe_tup (pa_cons pe_int (pa_cons pe_int (pa_cons pe_int (pa_cons pe_int pa_nil))))) (pa_cons pe_str (pa_cons pe_dnewK (pa_cons (pe_lst (pa_cons pe_non pa_nil)) (pa_cons (pe_lst (pa_cons (pe_lst (pa_cons pe_int pa_nil)) pa_nil)) pa_nil)))))))))))) (pg_name (i := 3) scLawRefused.nd rfl (Or.inr rfl)) (pss_one (ps_if (pt_cmpR (op_neSs hr.units) (pe_lamC (k := 5) (by rfl) T.m_LawCaught T.f_LawCaught.kp lk0 cg0 b0 scLawCaught rfl va0 hCaught TB rfl mT0 hu0 (hr.mono (by decide)) (LamX.lamS_by (sc := defScope sLawRefused) (by decide +kernel)) rfl (fun _ _ _ _ _ => rfl) (fun _ _ _ _ _ _ _ hr _ => (pe_makeK T.mk_Version gVersionInit (hr.mono (by decide)) (by rfl) T.k_Version T.kb0_VersionInit.choose_spec (passes_call (takes_of rfl rfl rfl rfl) (fun _ _ _ _ h => h)) (pa_cons (pv 0) pa_nil) (pk_cons (pv 3) (pk_cons pe_str pk_nil))))) (pe_lst (pa_cons pe_str (pa_cons (pe_callB (call_reprD hr hG) (by rfl) T.z_repr (by decide +kernel) (pa_cons (pv 3) pa_nil)) pa_nil))) (nomark _)) (pss_one (ps_ret pe_bl)) pss_nil)))
      (pss_cons (ps_for PassesOwn.never rfl (pi_list (pe_lst (pa_cons pe_non (pa_cons pe_str (pa_cons pe_str (pa_cons pe_str (pa_cons pe_str (pa_cons pe_int (pa_cons (pe_lst (pa_cons pe_str pa_nil)) (pa_cons pe_str (pa_cons pe_str pa_nil))))))))))) (pg_name (i := 3) scLawRefused.nd rfl (Or.inr rfl)) (pss_one (ps_if (pt_cmpR (op_neSs hr.units) (pe_lamC (k := 5) (by rfl) T.m_LawCaught T.f_LawCaught.kp lk0 cg0 b0 scLawCaught rfl va0 hCaught TB rfl mT0 hu0 (hr.mono (by decide)) (LamX.lamS_by (sc := defScope sLawRefused) (by decide +kernel)) rfl (fun _ _ _ _ _ => rfl) (fun _ _ _ _ _ _ _ hr _ => (pe_makeK T.mk_Version gVersionInit (hr.mono (by decide)) (by rfl) T.k_Version T.kb0_VersionInit.choose_spec (passes_call (takes_of rfl rfl rfl rfl) (fun _ _ _ _ h => h)) (pa_cons (pv 0) pa_nil) (pk_cons (pv 1) (pk_cons (pv 3) pk_nil))))) (pe_lst (pa_cons pe_str (pa_cons (pe_callB (call_reprD hr hG) (by rfl) T.z_repr (by decide +kernel) (pa_cons (pv 3) pa_nil)) pa_nil))) (nomark _)) (pss_one (ps_ret pe_bl)) pss_nil)))
      (pss_one (ps_ret pe_bl))))), ?_⟩
    refine seq_gen fun N eN => ?_
    try simp only [tSeq, tNext, tRet, tRetN, tAsg, gName, gSub, tDrop, tIfS, tOp, tUn, tCB, tCons, tNil, tC, tVar, rI, rI0, rU, tAnd, tOr, tNot, tAndV, tOrV, tNotV, tIf, tTest, tB, tCall, tChain, tLst, tTup, tYes, rIxH, rIsB, rIsBT, rMulS, kd_non, kd_bl, kd_int, kd_str, kd_ref, kdO_lst, kdO_tup, kdO_dK, nq_n, nq_b, nq_i, nq_s, nq_l, nq_t, nq_d, ne_eq, not_false_eq_true, kit_ss, kit_ns, kit_bs, kit_is, kit_ls, kit_ts, kit_ds, kit_bb, V.ty.injEq, and_assoc, rIxU, rLenH, rLenU, rLenS, rInt1, rSetL, rEq, rNe, rCat, L2.start, List.map, List.length, List.length_cons, List.length_nil, List.replicate, List.getElem?_cons_zero, List.getElem?_cons_succ, List.set_cons_zero, List.set_cons_succ, List.set_nil, List.cons_append, List.nil_append, List.append_nil, Option.some.injEq, V.int.injEq, V.ref.injEq, V.str.injEq, V.bl.injEq, HO.lst.injEq, HO.tup.injEq, exists_eq_left', exists_and_left, exists_eq_left, List.cons.injEq, and_true, true_and, and_false, false_and, and_self, reduceCtorEq, exists_false, or_false, false_or, exists_const, at0, at1, at2, at3, at4, at5, ix51, ix52, ix54, upd_same, Nat.reduceAdd, Nat.reduceSub, Nat.zero_add, Int.reduceToNat, Int.reduceLE, Int.reduceLT, decide_eq_true_eq, Bool.not_eq_true, if_true, if_false, Bool.false_eq_true, ite_true, ite_false, Bool.not_true, Bool.not_false, decide_true, decide_false, tFor_eq, tLc_eq, iList, iTup, iRng1, iRng2, iStr, tSl, tPart, tNoPart, rSlL, cxOf_K, wipe, ex_ty2, kit_LTl, kit_LTt, kit_LTd, kit_LTs, kit_LTn, kit_LTb, kit_LTi, tM1, rIxS, exists_eq', lt1p, tDNewK, rSlS, rEqNil, nox_K, rRep]
    refine ⟨by decide, ?_⟩
    intro p1 n_p1; generalize g_H1 : upd H p1 _ = H1; obtain ⟨s_H1, h_p1⟩ := new_facts n_p1 g_H1; clear g_H1
    refine ⟨by decide, ?_⟩
    intro p2 n_p2; generalize g_H2 : upd H1 p2 _ = H2; obtain ⟨s_H2, h_p2⟩ := new_facts n_p2 g_H2; clear g_H2
    refine ⟨by decide, ?_⟩
    intro p3 n_p3; generalize g_H3 : upd H2 p3 _ = H3; obtain ⟨s_H3, h_p3⟩ := new_facts n_p3 g_H3; clear g_H3
    refine ⟨by decide, by decide, by decide, ?_⟩
    intro p4 n_p4; generalize g_H4 : upd H3 p4 _ = H4; obtain ⟨s_H4, h_p4⟩ := new_facts n_p4 g_H4; clear g_H4
    intro p5 n_p5; generalize g_H5 : upd H4 p5 _ = H5; obtain ⟨s_H5, h_p5⟩ := new_facts n_p5 g_H5; clear g_H5
    refine ⟨PyProof.Rows.mulOk_of 16 1048576 (by decide +kernel) (by decide) (by decide) (by decide) (by decide), by decide, ?_⟩
    intro p6 n_p6; generalize g_H6 : upd H5 p6 _ = H6; obtain ⟨s_H6, h_p6⟩ := new_facts n_p6 g_H6; clear g_H6
    refine ⟨by decide, ?_⟩
    intro p7 n_p7; generalize g_H7 : upd H6 p7 _ = H7; obtain ⟨s_H7, h_p7⟩ := new_facts n_p7 g_H7; clear g_H7
    have e1 := (s_H2.trans (s_H3.trans (s_H4.trans (s_H5.trans (s_H6.trans s_H7))))) _ _ h_p1
    have e2 := (s_H3.trans (s_H4.trans (s_H5.trans (s_H6.trans s_H7)))) _ _ h_p2
    have e4 : H7 p4 = some (.lst (List.replicate 13 (V.str (Str.ofString "a")))) := (s_H5.trans (s_H6.trans s_H7)) _ _ h_p4
    have e5 := (s_H6.trans s_H7) _ _ h_p5
    have e6 := s_H7 _ _ h_p6
    have sA : Sm (Str.ofString "a") := sm_lit (by decide +kernel)
    have odd : ∀ v ∈ [V.non, V.str (Str.ofString "ab"), V.int 3, V.ref p1, V.ref p2, V.ref p4, V.ref p5, V.ref p6], Kn K H7 v ∧ Thq H7 v ∧ isTextV H7 v = false := by
      intro v hv
      simp only [List.mem_cons, List.not_mem_nil, or_false] at hv
      rcases hv with rfl | rfl | rfl | rfl | rfl | rfl | rfl | rfl
      · exact ⟨⟨.non, _, .inl ⟨.non, rfl⟩, by decide +kernel, by decide +kernel, by decide⟩, thq_no .non rfl, rfl⟩
      · exact ⟨kn_str (sm_lit (by decide +kernel)) (by decide +kernel), thq_no (.str (sm_lit (by decide +kernel))) rfl, rfl⟩
      · exact ⟨kn_int (by decide +kernel), thq_no (.int 3) rfl, rfl⟩
      · exact ⟨⟨.lst e1, .list [.str "a", .int 1], .inl ⟨.lst (SqL.of e1) (.cons (.str _) (.cons (.int _) .nil)), rfl⟩, by decide +kernel, by decide +kernel, by decide +kernel⟩, thq_of (.lst e1) (seq_lst e1) (by decide) (mem2 (.str sA) (.int 1)), by rw [text_of (seq_lst e1)]; decide +kernel⟩
      · exact ⟨⟨.lst e2, .list [.str "a\n"], .inl ⟨.lst (SqL.of e2) (.cons (.str _) .nil), rfl⟩, by decide +kernel, by decide +kernel, by decide +kernel⟩, thq_of (.lst e2) (seq_lst e2) (by decide) (mem1 (.str (sm_lit (by decide +kernel)))), by rw [text_of (seq_lst e2)]; decide +kernel⟩
      · exact ⟨⟨.lst e4, .list (List.replicate 13 (.str "a")), .inl ⟨.lst (SqL.of e4) (dp_strs (List.replicate 13 (Str.ofString "a"))), by decide +kernel⟩, by decide +kernel, by decide +kernel, by decide +kernel⟩, thq_of (.lst e4) (seq_lst e4) (by decide) (fun x hx => by rw [List.eq_of_mem_replicate hx]; exact .str sA), by rw [text_of (seq_lst e4)]; decide +kernel⟩
      · exact ⟨⟨.dic e5, .dict [], .inr ⟨p5, rfl, e5, rfl⟩, by decide +kernel, by decide +kernel, by decide +kernel⟩, thq_no (.dic e5) (seq_dic e5), text_no (seq_dic e5)⟩
      · exact ⟨⟨.lst e6, .list [.str (Txt.mul "a" 41)], .inl ⟨.lst (SqL.of e6) (.cons (.str _) .nil), rfl⟩, by decide +kernel, by decide +kernel, by decide +kernel⟩, thq_of (.lst e6) (seq_lst e6) (by decide) (mem1 (.str (sm_lit (by decide +kernel)))), by rw [text_of (seq_lst e6)]; decide +kernel⟩
    have h_p7' : H7 p7 = some (.lst [V.non, V.str (Str.ofString "ab"), V.int 3, V.ref p1, V.ref p2, V.ref p4, V.ref p5, V.ref p6]) := h_p7
    clear h_p7
    generalize [V.non, V.str (Str.ofString "ab"), V.int 3, V.ref p1, V.ref p2, V.ref p4, V.ref p5, V.ref p6] = os at odd h_p7'
    have s07 := s_H1.trans (s_H2.trans (s_H3.trans (s_H4.trans (s_H5.trans (s_H6.trans s_H7)))))
    have x07 : Sx (ts9 A) H H7 := (Sx.refl hT).same s07
    clear s_H1 s_H2 s_H3 s_H4 s_H5 s_H6 s_H7 e1 e2 e4 e5 e6 h_p1 h_p2 h_p3 h_p4 h_p5 h_p6 n_p1 n_p2 n_p3 n_p4 n_p5 n_p6 n_p7
    have hk := T.y_InvalidText
    refine ⟨⟨_, SqL.of h_p7'⟩, for_go (walk_list (K := K) (a := p7) (xs := os)) (LR9 [some (V.ref lb), some (V.ref eb), some (V.str n)] [] (ts9 A) H7) ⟨_, rfl, Sx.refl x07.tb⟩ (fun i σ H' _ q => ?_) (fun i x σ H10 hx q => ?_) (fun σ H10 q => ?_)⟩
    · obtain ⟨_, _, x10⟩ := q
      exact SqL.of (x10.at h_p7')
    · obtain ⟨_, rfl, x10⟩ := q
      obtain ⟨⟨tx, dt, ox⟩, tq, nt⟩ := odd x (List.mem_of_getElem? hx)
      refine refused_ne x10.tb (ox.sx x10) hk rfl rfl (fun H11 x11 Ec Qc hE => ?_) fun H11 x11 => ?_
      · have x711 := x10.trans x11
        try simp only [tSeq, tNext, tRet, tRetN, tAsg, gName, gSub, tDrop, tIfS, tOp, tUn, tCB, tCons, tNil, tC, tVar, rI, rI0, rU, tAnd, tOr, tNot, tAndV, tOrV, tNotV, tIf, tTest, tB, tCall, tChain, tLst, tTup, tYes, rIxH, rIsB, rIsBT, rMulS, kd_non, kd_bl, kd_int, kd_str, kd_ref, kdO_lst, kdO_tup, kdO_dK, nq_n, nq_b, nq_i, nq_s, nq_l, nq_t, nq_d, ne_eq, not_false_eq_true, kit_ss, kit_ns, kit_bs, kit_is, kit_ls, kit_ts, kit_ds, kit_bb, V.ty.injEq, and_assoc, rIxU, rLenH, rLenU, rLenS, rInt1, rSetL, rEq, rNe, rCat, L2.start, List.map, List.length, List.length_cons, List.length_nil, List.replicate, List.getElem?_cons_zero, List.getElem?_cons_succ, List.set_cons_zero, List.set_cons_succ, List.set_nil, List.cons_append, List.nil_append, List.append_nil, Option.some.injEq, V.int.injEq, V.ref.injEq, V.str.injEq, V.bl.injEq, HO.lst.injEq, HO.tup.injEq, exists_eq_left', exists_and_left, exists_eq_left, List.cons.injEq, and_true, true_and, and_false, false_and, and_self, reduceCtorEq, exists_false, or_false, false_or, exists_const, at0, at1, at2, at3, at4, at5, ix51, ix52, ix54, upd_same, Nat.reduceAdd, Nat.reduceSub, Nat.zero_add, Int.reduceToNat, Int.reduceLE, Int.reduceLT, decide_eq_true_eq, Bool.not_eq_true, if_true, if_false, Bool.false_eq_true, ite_true, ite_false, Bool.not_true, Bool.not_false, decide_true, decide_false, tFor_eq, tLc_eq, iList, iTup, iRng1, iRng2, iStr, tSl, tPart, tNoPart, rSlL, cxOf_K, wipe, ex_ty2, kit_LTl, kit_LTt, kit_LTd, kit_LTs, kit_LTn, kit_LTb, kit_LTi, tM1, rIxS, exists_eq', lt1p, tDNewK, rSlS, rEqNil, tMakeK_eq, List.cons_append, List.nil_append]
        exact ver_no (v := x) (g := x) (pv := .non) (nv := .non) (fun y => rfl) (tq.extN x711.ex) (.inl ⟨by rw [text_extN x711.ex tq]; exact nt, rfl, rfl⟩) hE
      · exact ⟨false, rfl, _, rfl, x10.trans x11⟩
    obtain ⟨v3, rfl, x10⟩ := q
    have x010 := x07.trans x10
    clear x10 x07 s07 odd h_p7' hk
    have hlb10 := x010.at hlb
    have heb10 := x010.at heb
    dsimp only
    rw [eN]
    clear eN N
    refine seq_gen fun N eN => ?_
    try simp only [tSeq, tNext, tRet, tRetN, tAsg, gName, gSub, tDrop, tIfS, tOp, tUn, tCB, tCons, tNil, tC, tVar, rI, rI0, rU, tAnd, tOr, tNot, tAndV, tOrV, tNotV, tIf, tTest, tB, tCall, tChain, tLst, tTup, tYes, rIxH, rIsB, rIsBT, rMulS, kd_non, kd_bl, kd_int, kd_str, kd_ref, kdO_lst, kdO_tup, kdO_dK, nq_n, nq_b, nq_i, nq_s, nq_l, nq_t, nq_d, ne_eq, not_false_eq_true, kit_ss, kit_ns, kit_bs, kit_is, kit_ls, kit_ts, kit_ds, kit_bb, V.ty.injEq, and_assoc, rIxU, rLenH, rLenU, rLenS, rInt1, rSetL, rEq, rNe, rCat, L2.start, List.map, List.length, List.length_cons, List.length_nil, List.replicate, List.getElem?_cons_zero, List.getElem?_cons_succ, List.set_cons_zero, List.set_cons_succ, List.set_nil, List.cons_append, List.nil_append, List.append_nil, Option.some.injEq, V.int.injEq, V.ref.injEq, V.str.injEq, V.bl.injEq, HO.lst.injEq, HO.tup.injEq, exists_eq_left', exists_and_left, exists_eq_left, List.cons.injEq, and_true, true_and, and_false, false_and, and_self, reduceCtorEq, exists_false, or_false, false_or, exists_const, at0, at1, at2, at3, at4, at5, ix51, ix52, ix54, upd_same, Nat.reduceAdd, Nat.reduceSub, Nat.zero_add, Int.reduceToNat, Int.reduceLE, Int.reduceLT, decide_eq_true_eq, Bool.not_eq_true, if_true, if_false, Bool.false_eq_true, ite_true, ite_false, Bool.not_true, Bool.not_false, decide_true, decide_false, tFor_eq, tLc_eq, iList, iTup, iRng1, iRng2, iStr, tSl, tPart, tNoPart, rSlL, cxOf_K, wipe, ex_ty2, kit_LTl, kit_LTt, kit_LTd, kit_LTs, kit_LTn, kit_LTb, kit_LTi, tM1, rIxS, exists_eq', lt1p, tDNewK, rSlS, rEqNil, nox_K, List.cons_append, List.nil_append]
    refine ⟨by decide, ?_⟩
    intro q1 n_q1; generalize g_H11 : upd H10 q1 _ = H11; obtain ⟨s_H11, h_q1⟩ := new_facts n_q1 g_H11; clear g_H11
    refine ⟨by decide, ?_⟩
    intro q2 n_q2; generalize g_H12 : upd H11 q2 _ = H12; obtain ⟨s_H12, h_q2⟩ := new_facts n_q2 g_H12; clear g_H12
    refine ⟨by decide, ?_⟩
    intro q3 n_q3; generalize g_H13 : upd H12 q3 _ = H13; obtain ⟨s_H13, h_q3⟩ := new_facts n_q3 g_H13; clear g_H13
    refine ⟨by decide, ?_⟩
    intro q4 n_q4; generalize g_H14 : upd H13 q4 _ = H14; obtain ⟨s_H14, h_q4⟩ := new_facts n_q4 g_H14; clear g_H14
    intro q5 n_q5; generalize g_H15 : upd H14 q5 _ = H15; obtain ⟨s_H15, h_q5⟩ := new_facts n_q5 g_H15; clear g_H15
    refine ⟨by decide, ?_⟩
    intro q6 n_q6; generalize g_H16 : upd H15 q6 _ = H16; obtain ⟨s_H16, h_q6⟩ := new_facts n_q6 g_H16; clear g_H16
    refine ⟨by decide, ?_⟩
    intro q7 n_q7; generalize g_H17 : upd H16 q7 _ = H17; obtain ⟨s_H17, h_q7⟩ := new_facts n_q7 g_H17; clear g_H17
    refine ⟨by decide, ?_⟩
    intro q8 n_q8; generalize g_H18 : upd H17 q8 _ = H18; obtain ⟨s_H18, h_q8⟩ := new_facts n_q8 g_H18; clear g_H18
    refine ⟨by decide, ?_⟩
    intro q9 n_q9; generalize g_H19 : upd H18 q9 _ = H19; obtain ⟨s_H19, h_q9⟩ := new_facts n_q9 g_H19; clear g_H19
    have t18 := s_H19
    have t17 := s_H18.trans t18
    have t16 := s_H17.trans t17
    have t15 := s_H16.trans t16
    have t14 := s_H15.trans t15
    have t13 := s_H14.trans t14
    have t12 := s_H13.trans t13
    have t11 := s_H12.trans t12
    have t10 := s_H11.trans t11
    have e1 := t11 _ _ h_q1
    have e2 := t12 _ _ h_q2
    have e3 := t13 _ _ h_q3
    have e4 := t14 _ _ h_q4
    have e5 := t15 _ _ h_q5
    have e6 := t16 _ _ h_q6
    have e7 := t17 _ _ h_q7
    have e8 := t18 _ _ h_q8
    have odd : ∀ v ∈ [V.non, V.int 1, V.ref q1, V.ref q2, V.ref q3, V.ref q4, V.str (Str.ofString "01"), V.ref q5, V.ref q6, V.ref q8], Kn K H19 v ∧ Thq H19 v ∧ isParV H19 v = false := by
      intro v hv
      simp only [List.mem_cons, List.not_mem_nil, or_false] at hv
      rcases hv with rfl | rfl | rfl | rfl | rfl | rfl | rfl | rfl | rfl | rfl
      · exact ⟨⟨.non, _, .inl ⟨.non, rfl⟩, by decide +kernel, by decide +kernel, by decide⟩, thq_no .non rfl, rfl⟩
      · exact ⟨kn_int (by decide +kernel), thq_no (.int 1) rfl, rfl⟩
      · exact ⟨⟨.lst e1, .list [.int (-1)], .inl ⟨.lst (SqL.of e1) (.cons (.int _) .nil), rfl⟩, by decide +kernel, by decide +kernel, by decide +kernel⟩, thq_of (.lst e1) (seq_lst e1) (by decide) (mem1 (.int _)), by rw [par_of (seq_lst e1)]; decide +kernel⟩
      · exact ⟨⟨.lst e2, .list [.int 0, .int 0], .inl ⟨.lst (SqL.of e2) (.cons (.int _) (.cons (.int _) .nil)), rfl⟩, by decide +kernel, by decide +kernel, by decide +kernel⟩, thq_of (.lst e2) (seq_lst e2) (by decide) (mem2 (.int _) (.int _)), by rw [par_of (seq_lst e2)]; decide +kernel⟩
      · exact ⟨⟨.lst e3, .list [.int 0, .bool true], .inl ⟨.lst (SqL.of e3) (.cons (.int _) (.cons (.bl _) .nil)), rfl⟩, by decide +kernel, by decide +kernel, by decide +kernel⟩, thq_of (.lst e3) (seq_lst e3) (by decide) (mem2 (.int _) (.bl _)), by rw [par_of (seq_lst e3)]; decide +kernel⟩
      · exact ⟨⟨.tup e4, .tuple [.int 1, .int 2, .int 3, .int 4], .inl ⟨.tup (SqT.of e4) (.cons (.int _) (.cons (.int _) (.cons (.int _) (.cons (.int _) .nil)))), rfl⟩, by decide +kernel, by decide +kernel, by decide +kernel⟩, thq_of (.tup e4) (seq_tup e4) (by decide) (fun x hx => by obtain ⟨i, rfl⟩ := mem_int (ns := [1, 2, 3, 4]) hx; exact .int i), by rw [par_of (seq_tup e4)]; decide +kernel⟩
      · exact ⟨kn_str (sm_lit (by decide +kernel)) (by decide +kernel), thq_no (.str (sm_lit (by decide +kernel))) rfl, rfl⟩
      · exact ⟨⟨.dic e5, .dict [], .inr ⟨q5, rfl, e5, rfl⟩, by decide +kernel, by decide +kernel, by decide +kernel⟩, thq_no (.dic e5) (seq_dic e5), par_no (seq_dic e5)⟩
      · exact ⟨⟨.lst e6, .list [.none], .inl ⟨.lst (SqL.of e6) (.cons .non .nil), rfl⟩, by decide +kernel, by decide +kernel, by decide +kernel⟩, thq_of (.lst e6) (seq_lst e6) (by decide) (mem1 .non), by rw [par_of (seq_lst e6)]; decide +kernel⟩
      · exact ⟨⟨.lst e8, .list [.list [.int 0]], .inl ⟨.lst (SqL.of e8) (.cons (.lst (SqL.of e7) (.cons (.int _) .nil)) .nil), rfl⟩, by decide +kernel, by decide +kernel, by decide +kernel⟩, thq_of (.lst e8) (seq_lst e8) (by show 1 ≤ 1000; decide) (mem1 (.lst e7)), by rw [par_of (seq_lst e8)]; rfl⟩
    have h_q9' : H19 q9 = some (.lst [V.non, V.int 1, V.ref q1, V.ref q2, V.ref q3, V.ref q4, V.str (Str.ofString "01"), V.ref q5, V.ref q6, V.ref q8]) := h_q9
    clear h_q9
    generalize [V.non, V.int 1, V.ref q1, V.ref q2, V.ref q3, V.ref q4, V.str (Str.ofString "01"), V.ref q5, V.ref q6, V.ref q8] = os2 at odd h_q9'
    have x019 : Sx (ts9 A) H H19 := x010.same t10
    clear s_H11 s_H12 s_H13 s_H14 s_H15 s_H16 s_H17 s_H18 s_H19 t10 t11 t12 t13 t14 t15 t16 t17 t18 e1 e2 e3 e4 e5 e6 e7 e8 h_q1 h_q2 h_q3 h_q4 h_q5 h_q6 h_q7 h_q8 n_q1 n_q2 n_q3 n_q4 n_q5 n_q6 n_q7 n_q8 n_q9
    have hk := T.y_InvalidParents
    have hlb19 := x019.at hlb
    have heb19 := x019.at heb
    have tx19 := ow.text (seq_lst hlb19) (.lst hlb19)
    refine ⟨⟨_, SqL.of h_q9'⟩, for_go (walk_list (K := K) (a := q9) (xs := os2)) (LR9 [some (V.ref lb), some (V.ref eb), some (V.str n)] [] (ts9 A) H19) ⟨_, rfl, Sx.refl x019.tb⟩ (fun i σ H' _ q => ?_) (fun i x σ H20 hx q => ?_) (fun σ H20 q => ?_)⟩
    · obtain ⟨_, _, x20⟩ := q
      exact SqL.of (x20.at h_q9')
    · obtain ⟨_, rfl, x20⟩ := q
      obtain ⟨⟨tx, dt, ox⟩, tq, nt⟩ := odd x (List.mem_of_getElem? hx)
      refine refused_ne x20.tb (ox.sx x20) hk rfl rfl (fun H21 x21 Ec Qc hE => ?_) fun H21 x21 => ?_
      · have x711 := x20.trans x21
        try simp only [tSeq, tNext, tRet, tRetN, tAsg, gName, gSub, tDrop, tIfS, tOp, tUn, tCB, tCons, tNil, tC, tVar, rI, rI0, rU, tAnd, tOr, tNot, tAndV, tOrV, tNotV, tIf, tTest, tB, tCall, tChain, tLst, tTup, tYes, rIxH, rIsB, rIsBT, rMulS, kd_non, kd_bl, kd_int, kd_str, kd_ref, kdO_lst, kdO_tup, kdO_dK, nq_n, nq_b, nq_i, nq_s, nq_l, nq_t, nq_d, ne_eq, not_false_eq_true, kit_ss, kit_ns, kit_bs, kit_is, kit_ls, kit_ts, kit_ds, kit_bb, V.ty.injEq, and_assoc, rIxU, rLenH, rLenU, rLenS, rInt1, rSetL, rEq, rNe, rCat, L2.start, List.map, List.length, List.length_cons, List.length_nil, List.replicate, List.getElem?_cons_zero, List.getElem?_cons_succ, List.set_cons_zero, List.set_cons_succ, List.set_nil, List.cons_append, List.nil_append, List.append_nil, Option.some.injEq, V.int.injEq, V.ref.injEq, V.str.injEq, V.bl.injEq, HO.lst.injEq, HO.tup.injEq, exists_eq_left', exists_and_left, exists_eq_left, List.cons.injEq, and_true, true_and, and_false, false_and, and_self, reduceCtorEq, exists_false, or_false, false_or, exists_const, at0, at1, at2, at3, at4, at5, ix51, ix52, ix54, upd_same, Nat.reduceAdd, Nat.reduceSub, Nat.zero_add, Int.reduceToNat, Int.reduceLE, Int.reduceLT, decide_eq_true_eq, Bool.not_eq_true, if_true, if_false, Bool.false_eq_true, ite_true, ite_false, Bool.not_true, Bool.not_false, decide_true, decide_false, tFor_eq, tLc_eq, iList, iTup, iRng1, iRng2, iStr, tSl, tPart, tNoPart, rSlL, cxOf_K, wipe, ex_ty2, kit_LTl, kit_LTt, kit_LTd, kit_LTs, kit_LTn, kit_LTb, kit_LTi, tM1, rIxS, exists_eq', lt1p, tDNewK, rSlS, rEqNil, tMakeK_eq, List.cons_append, List.nil_append]
        exact ver_no (v := x) (g := .ref lb) (pv := x) (nv := .str (Str.ofString "")) (fun y => rfl) (tx19.1.extN x711.ex) (.inr (.inl ⟨by rw [text_extN x711.ex tx19.1]; exact tx19.2, tq.extN x711.ex, by rw [par_extN x711.ex tq]; exact nt, rfl, rfl⟩)) hE
      · exact ⟨false, rfl, _, rfl, x20.trans x21⟩
    obtain ⟨v3', rfl, x20⟩ := q
    have x020 := x019.trans x20
    clear x20 x019 odd h_q9' hk tx19
    have hlb20 := x020.at hlb
    have heb20 := x020.at heb
    dsimp only
    rw [eN]
    clear eN N
    refine seq_gen fun N eN => ?_
    try simp only [tSeq, tNext, tRet, tRetN, tAsg, gName, gSub, tDrop, tIfS, tOp, tUn, tCB, tCons, tNil, tC, tVar, rI, rI0, rU, tAnd, tOr, tNot, tAndV, tOrV, tNotV, tIf, tTest, tB, tCall, tChain, tLst, tTup, tYes, rIxH, rIsB, rIsBT, rMulS, kd_non, kd_bl, kd_int, kd_str, kd_ref, kdO_lst, kdO_tup, kdO_dK, nq_n, nq_b, nq_i, nq_s, nq_l, nq_t, nq_d, ne_eq, not_false_eq_true, kit_ss, kit_ns, kit_bs, kit_is, kit_ls, kit_ts, kit_ds, kit_bb, V.ty.injEq, and_assoc, rIxU, rLenH, rLenU, rLenS, rInt1, rSetL, rEq, rNe, rCat, L2.start, List.map, List.length, List.length_cons, List.length_nil, List.replicate, List.getElem?_cons_zero, List.getElem?_cons_succ, List.set_cons_zero, List.set_cons_succ, List.set_nil, List.cons_append, List.nil_append, List.append_nil, Option.some.injEq, V.int.injEq, V.ref.injEq, V.str.injEq, V.bl.injEq, HO.lst.injEq, HO.tup.injEq, exists_eq_left', exists_and_left, exists_eq_left, List.cons.injEq, and_true, true_and, and_false, false_and, and_self, reduceCtorEq, exists_false, or_false, false_or, exists_const, at0, at1, at2, at3, at4, at5, ix51, ix52, ix54, upd_same, Nat.reduceAdd, Nat.reduceSub, Nat.zero_add, Int.reduceToNat, Int.reduceLE, Int.reduceLT, decide_eq_true_eq, Bool.not_eq_true, if_true, if_false, Bool.false_eq_true, ite_true, ite_false, Bool.not_true, Bool.not_false, decide_true, decide_false, tFor_eq, tLc_eq, iList, iTup, iRng1, iRng2, iStr, tSl, tPart, tNoPart, rSlL, cxOf_K, wipe, ex_ty2, kit_LTl, kit_LTt, kit_LTd, kit_LTs, kit_LTn, kit_LTb, kit_LTi, tM1, rIxS, exists_eq', lt1p, tDNewK, rSlS, rEqNil, nox_K, List.cons_append, List.nil_append]
    refine ⟨by decide, ?_⟩
    intro r1 n_r1; generalize g_H21 : upd H20 r1 _ = H21; obtain ⟨s_H21, h_r1⟩ := new_facts n_r1 g_H21; clear g_H21
    refine ⟨by decide, ?_⟩
    intro r2 n_r2; generalize g_H22 : upd H21 r2 _ = H22; obtain ⟨s_H22, h_r2⟩ := new_facts n_r2 g_H22; clear g_H22
    have e1 := s_H22 _ _ h_r1
    have odd : ∀ v ∈ [V.non, V.str (Str.ofString ""), V.str (Str.ofString "Ann"), V.str (Str.ofString "a b"), V.str (Str.ofString "abcdefghi"), V.int 5, V.ref r1, V.str (Str.ofString "a1"), V.str (Str.ofString "ann\n")], Kn K H22 v ∧ isNameV v = false := by
      intro v hv
      simp only [List.mem_cons, List.not_mem_nil, or_false] at hv
      rcases hv with rfl | rfl | rfl | rfl | rfl | rfl | rfl | rfl | rfl
      · exact ⟨⟨.non, _, .inl ⟨.non, rfl⟩, by decide +kernel, by decide +kernel, by decide⟩, rfl⟩
      · exact ⟨kn_str (sm_lit (by decide +kernel)) (by decide +kernel), by decide +kernel⟩
      · exact ⟨kn_str (sm_lit (by decide +kernel)) (by decide +kernel), by decide +kernel⟩
      · exact ⟨kn_str (sm_lit (by decide +kernel)) (by decide +kernel), by decide +kernel⟩
      · exact ⟨kn_str (sm_lit (by decide +kernel)) (by decide +kernel), by decide +kernel⟩
      · exact ⟨kn_int (by decide +kernel), rfl⟩
      · exact ⟨⟨.lst e1, .list [.str "a"], .inl ⟨.lst (SqL.of e1) (.cons (.str _) .nil), rfl⟩, by decide +kernel, by decide +kernel, by decide +kernel⟩, rfl⟩
      · exact ⟨kn_str (sm_lit (by decide +kernel)) (by decide +kernel), by decide +kernel⟩
      · exact ⟨kn_str (sm_lit (by decide +kernel)) (by decide +kernel), by decide +kernel⟩
    have h_r2' : H22 r2 = some (.lst [V.non, V.str (Str.ofString ""), V.str (Str.ofString "Ann"), V.str (Str.ofString "a b"), V.str (Str.ofString "abcdefghi"), V.int 5, V.ref r1, V.str (Str.ofString "a1"), V.str (Str.ofString "ann\n")]) := h_r2
    clear h_r2
    generalize [V.non, V.str (Str.ofString ""), V.str (Str.ofString "Ann"), V.str (Str.ofString "a b"), V.str (Str.ofString "abcdefghi"), V.int 5, V.ref r1, V.str (Str.ofString "a1"), V.str (Str.ofString "ann\n")] = os3 at odd h_r2'
    have x022 : Sx (ts9 A) H H22 := x020.same (s_H21.trans s_H22)
    have hk := T.y_InvalidName
    refine ⟨⟨_, SqL.of h_r2'⟩, for_go (walk_list (K := K) (a := r2) (xs := os3)) (LR9 [some (V.ref lb), some (V.ref eb), some (V.str n)] [] (ts9 A) H22) ⟨_, rfl, Sx.refl x022.tb⟩ (fun i σ H' _ q => ?_) (fun i x σ H30 hx q => ?_) (fun σ H30 q => ?_)⟩
    · obtain ⟨_, _, x30⟩ := q
      exact SqL.of (x30.at h_r2')
    · obtain ⟨_, rfl, x30⟩ := q
      obtain ⟨⟨tx, dt, ox⟩, nt⟩ := odd x (List.mem_of_getElem? hx)
      refine refused_ne x30.tb (ox.sx x30) hk rfl rfl (fun H31 x31 Ec Qc hE => ?_) fun H31 x31 => ?_
      · have x31' := x30.trans x31
        have hlb31 := (x022.trans x31').at hlb
        have heb31 := (x022.trans x31').at heb
        have tx31 := ow.text (seq_lst hlb31) (.lst hlb31)
        try simp only [tSeq, tNext, tRet, tRetN, tAsg, gName, gSub, tDrop, tIfS, tOp, tUn, tCB, tCons, tNil, tC, tVar, rI, rI0, rU, tAnd, tOr, tNot, tAndV, tOrV, tNotV, tIf, tTest, tB, tCall, tChain, tLst, tTup, tYes, rIxH, rIsB, rIsBT, rMulS, kd_non, kd_bl, kd_int, kd_str, kd_ref, kdO_lst, kdO_tup, kdO_dK, nq_n, nq_b, nq_i, nq_s, nq_l, nq_t, nq_d, ne_eq, not_false_eq_true, kit_ss, kit_ns, kit_bs, kit_is, kit_ls, kit_ts, kit_ds, kit_bb, V.ty.injEq, and_assoc, rIxU, rLenH, rLenU, rLenS, rInt1, rSetL, rEq, rNe, rCat, L2.start, List.map, List.length, List.length_cons, List.length_nil, List.replicate, List.getElem?_cons_zero, List.getElem?_cons_succ, List.set_cons_zero, List.set_cons_succ, List.set_nil, List.cons_append, List.nil_append, List.append_nil, Option.some.injEq, V.int.injEq, V.ref.injEq, V.str.injEq, V.bl.injEq, HO.lst.injEq, HO.tup.injEq, exists_eq_left', exists_and_left, exists_eq_left, List.cons.injEq, and_true, true_and, and_false, false_and, and_self, reduceCtorEq, exists_false, or_false, false_or, exists_const, at0, at1, at2, at3, at4, at5, ix51, ix52, ix54, upd_same, Nat.reduceAdd, Nat.reduceSub, Nat.zero_add, Int.reduceToNat, Int.reduceLE, Int.reduceLT, decide_eq_true_eq, Bool.not_eq_true, if_true, if_false, Bool.false_eq_true, ite_true, ite_false, Bool.not_true, Bool.not_false, decide_true, decide_false, tFor_eq, tLc_eq, iList, iTup, iRng1, iRng2, iStr, tSl, tPart, tNoPart, rSlL, cxOf_K, wipe, ex_ty2, kit_LTl, kit_LTt, kit_LTd, kit_LTs, kit_LTn, kit_LTb, kit_LTi, tM1, rIxS, exists_eq', lt1p, tDNewK, rSlS, rEqNil, tMakeK_eq, List.cons_append, List.nil_append]
        exact ver_no (v := x) (g := .ref lb) (pv := .ref eb) (nv := x) (fun y => rfl) tx31.1 (.inr (.inr ⟨tx31.2, ⟨qs, ow.par (fun _ => Iff.rfl) ow.qn (seq_lst heb31) (.lst heb31)⟩, tx.extN x31'.ex, nt, rfl, rfl⟩)) hE
      · exact ⟨false, rfl, _, rfl, x30.trans x31⟩
    · obtain ⟨v3'', rfl, x30⟩ := q
      dsimp only
      rw [eN]
      try simp only [tSeq, tNext, tRet, tRetN, tAsg, gName, gSub, tDrop, tIfS, tOp, tUn, tCB, tCons, tNil, tC, tVar, rI, rI0, rU, tAnd, tOr, tNot, tAndV, tOrV, tNotV, tIf, tTest, tB, tCall, tChain, tLst, tTup, tYes, rIxH, rIsB, rIsBT, rMulS, kd_non, kd_bl, kd_int, kd_str, kd_ref, kdO_lst, kdO_tup, kdO_dK, nq_n, nq_b, nq_i, nq_s, nq_l, nq_t, nq_d, ne_eq, not_false_eq_true, kit_ss, kit_ns, kit_bs, kit_is, kit_ls, kit_ts, kit_ds, kit_bb, V.ty.injEq, and_assoc, rIxU, rLenH, rLenU, rLenS, rInt1, rSetL, rEq, rNe, rCat, L2.start, List.map, List.length, List.length_cons, List.length_nil, List.replicate, List.getElem?_cons_zero, List.getElem?_cons_succ, List.set_cons_zero, List.set_cons_succ, List.set_nil, List.cons_append, List.nil_append, List.append_nil, Option.some.injEq, V.int.injEq, V.ref.injEq, V.str.injEq, V.bl.injEq, HO.lst.injEq, HO.tup.injEq, exists_eq_left', exists_and_left, exists_eq_left, List.cons.injEq, and_true, true_and, and_false, false_and, and_self, reduceCtorEq, exists_false, or_false, false_or, exists_const, at0, at1, at2, at3, at4, at5, ix51, ix52, ix54, upd_same, Nat.reduceAdd, Nat.reduceSub, Nat.zero_add, Int.reduceToNat, Int.reduceLE, Int.reduceLT, decide_eq_true_eq, Bool.not_eq_true, if_true, if_false, Bool.false_eq_true, ite_true, ite_false, Bool.not_true, Bool.not_false, decide_true, decide_false, tFor_eq, tLc_eq, iList, iTup, iRng1, iRng2, iStr, tSl, tPart, tNoPart, rSlL, cxOf_K, wipe, ex_ty2, kit_LTl, kit_LTt, kit_LTd, kit_LTs, kit_LTn, kit_LTb, kit_LTi, tM1, rIxS, exists_eq', lt1p, tDNewK, rSlS, rEqNil, nox_K]
      exact k _ (x022.trans x30)
end



/-! ### the law -/
def tabsOf (A : Adr) : List (Addr × Addr) := [(A.c_LawRight, A.t_LawRight), (A.c_LawRefused, A.t_LawRefused)]
def spLaw (K : PySem.W.Frag) (cs : List (Addr × Addr)) : Sp := fun vs H Q _ => ∃ (a : Addr) (ns : List Int), vs = [.ref a] ∧ SqL K H a (ns.map V.int) ∧ ns.length ≤ 63 ∧ (∀ p ∈ cs, H p.2 = some (.tbl #[])) ∧ ∀ H', Q (.bl true) H'
def LO9 (a p l : Addr) (Ts : List (Addr × Str)) (i : Nat) (σ : St) (H : Hp) : Prop := ∃ (v2 v3 v4 v5 v6 v7 v8 v9 : Option V) (c : Nat), σ = [some (.ref a), some (.ref p), v2, v3, v4, v5, v6, v7, v8, v9] ∧ Wt Ts p l c (fun _ => none) H ∧ c ≤ 30 * i
theorem Wt.told {Ts : List (Addr × Str)} {p l : Addr} {c c' : Nat} {G H H' : Hp} {q : Addr} {o : HO} (h : Wt Ts p l c G H) (nq : H q = none) (hq : H' q = some o) (hp : PoolAt p l c' H') (off : OffS p l H H') (n : ∀ ps, o ≠ .tbl ps := by intro ps z; cases z) : ∃ G1, Wt Ts p l c' G1 H' ∧ Same G G1 ∧ G1 q = some o := by
  have np := h.wd.pool.np nq
  have w5 := h.turn hp off
  refine ⟨upd G q o, ⟨⟨hp, fun x u e => ?_, by rw [upd_ne np.1.symm]; exact h.wd.gp, by rw [upd_ne np.2.symm]; exact h.wd.gl⟩, w5.tb, fun b ps z => ?_⟩, same_new (h.wd.free nq), upd_same⟩
  · by_cases ex : x = q
    · subst ex
      rw [upd_same] at e
      rw [← Option.some.inj e]
      exact hq
    · rw [upd_ne ex] at e
      exact w5.wd.kn x u e
  · by_cases eb : b = q
    · subst eb
      rw [upd_same] at z
      exact n ps (Option.some.inj z)
    · rw [upd_ne eb] at z
      exact h.nt b ps z
/-- a list that is not known is changed -/
theorem Wt.mut {Ts : List (Addr × Str)} {p l : Addr} {c : Nat} {G H : Hp} {g : Addr} {xs ys : List V} (h : Wt Ts p l c G H) (hg : G g = none) (e : H g = some (.lst xs)) (np : g ≠ p) (nl : g ≠ l) : Wt Ts p l c G (upd H g (.lst ys)) := by
  refine ⟨⟨?_, fun b o hb => ?_, h.wd.gp, h.wd.gl⟩, fun q hq => ?_, h.nt⟩
  · obtain ⟨ns, t, n, z, y, h1, h2, h3⟩ := h.wd.pool
    exact ⟨ns, t, n, z, y, by rw [upd_ne np.symm]; exact h1, by rw [upd_ne nl.symm]; exact h2, h3⟩
  · rw [upd_ne (ne_of_none hb hg)]
    exact h.wd.kn b o hb
  · obtain ⟨ps, e1, e2, e3⟩ := h.tb q hq
    have ne : ∀ {b : Addr} {u : HO}, H b = some u → (∀ xs, u ≠ .lst xs) → b ≠ g := fun {b u} eb n z => by rw [z, e] at eb; exact n _ (Option.some.inj eb).symm
    refine ⟨ps, by rw [upd_ne (ne e1 (fun xs z => by cases z))]; exact e1, e2, fun pos cv hc => ?_⟩
    obtain ⟨c, e4, e5⟩ := e3 pos cv hc
    exact ⟨c, e4, by rw [upd_ne (ne e5 (fun xs z => by unfold LamX.CodeO at z; cases z))]; exact e5⟩
theorem VerAt.mut {C : Addr} {H : Hp} {a g : Addr} {ls : List Str} {ps : List Int} {n : Str} {xs ys : List V} (h : VerAt C H a ls ps n) (e : H g = some (.lst xs)) : VerAt C (upd H g (.lst ys)) a ls ps n := by
  obtain ⟨dx, l, p, h1, h2, h3⟩ := h
  have ne : ∀ {b : Addr} {u : HO}, H b = some u → (∀ xs, u ≠ .lst xs) → b ≠ g := fun {b u} eb n z => by rw [z, e] at eb; exact n _ (Option.some.inj eb).symm
  exact ⟨dx, l, p, by rw [upd_ne (ne h1 (fun xs z => by cases z))]; exact h1, by rw [upd_ne (ne h2 (fun xs z => by cases z))]; exact h2, by rw [upd_ne (ne h3 (fun xs z => by cases z))]; exact h3⟩
def nameS (i j : Nat) : Str := cutS (cutS (Str.ofString "abcdefghijklmnop") (some (i : Int)) none) none (some (1 + (j : Int)))
theorem name_all : ((List.range 8).all fun i => (List.range 8).all fun j => isNameV (.str (nameS i j)) && decide (nameS i j ≠ Str.ofString "zz") && decide ((nameS i j).length ≤ 1000) && (nameS i j).cps.toList.all (fun c => decide (c < 128))) = true := by decide +kernel
theorem name_ok {i j : Nat} (hi : i < 8) (hj : j < 8) : isNameV (.str (nameS i j)) = true ∧ nameS i j ≠ Str.ofString "zz" ∧ Sm (nameS i j) := by
  have q := List.all_eq_true.mp (List.all_eq_true.mp name_all i (List.mem_range.mpr hi)) j (List.mem_range.mpr hj)
  simp only [Bool.and_eq_true, decide_eq_true_eq] at q
  exact ⟨q.1.1.1, q.1.1.2, q.1.2, fun c hc => of_decide_eq_true (List.all_eq_true.mp q.2 c hc)⟩
section
variable {w : World} {K : PySem.W.Frag} {mg : Str → Option Value} {base : Heap} {A : Adr}
theorem ok_law_of (T : Txt K mg A) (gLawPool : FnOk PW w K mg base CX0 1 A.a_LawPool A.d_LawPool ["_law_script"] (spLawPool K)) (gLawDraw : FnOk PW w K mg base CX0 2 A.a_LawDraw A.d_LawDraw ["_law_pool_here", "_law_many"] spLawDraw)
    (gLawOwnLines : FnOk PW w K mg base CX0 3 A.a_LawOwnLines A.d_LawOwnLines ["_law_pool_here"] spOwnL) (gLawParents : FnOk PW w K mg base CX0 3 A.a_LawParents A.d_LawParents ["_law_pool_here"] spPars)
    (gVersionInit : FnOk PW w K mg base (L2.CX PW w) 4 A.a_VersionInit A.d_VersionInit ["self", "lines", "parents", "author"] (spVer K A.k_Version A.k_InvalidText A.k_InvalidParents A.k_InvalidName))
    (gVersionEq : FnOk PW w K mg base CX0 1 A.a_VersionEq A.d_VersionEq ["self", "other"] (spVEq A.k_Version))
    (gLawRight : FnG PW w K mg base CX0 8 A.a_LawRight A.d_LawRight ["_law_version", "_law_lines", "_law_elders", "_law_name"] (spRight9 K A))
    (gLawRefused : FnG PW w K mg base CX0 9 A.a_LawRefused A.d_LawRefused ["_law_lines", "_law_elders", "_law_name"] (spRef9 K A)) :
    FnG PW w K mg base CX0 10 A.a_Law A.d_Law ["_law_script"] (spLaw K (tabsOf A)) := by
  refine okG T.f_Law scLaw (fun vs H Q E h => ?_) (fun cdv A' outer s H vs Q E hr hG h => ?_)
  · obtain ⟨a, ns, rfl, _⟩ := h
    rfl
  · obtain ⟨a, ns, rfl, hS, hlen, hH, k⟩ := h
    have hT : LamX.Tabs (ts9 A) H := fun p hp => by
      rcases List.mem_cons.mp hp with h | h
      · rw [h]
        exact LamX.TabS.nil (hH (A.c_LawRight, A.t_LawRight) (List.mem_cons_self))
      · rw [List.mem_singleton.mp h]
        exact LamX.TabS.nil (hH (A.c_LawRefused, A.t_LawRefused) (List.mem_cons_of_mem _ List.mem_cons_self))
    refine ⟨_, (pss_cons (ps_set (i := 1) scLaw.nd rfl (Or.inl rfl) (pe_call gLawPool (hr.mono (by decide)) (by rfl) T.m_LawPool T.f_LawPool.kp T.b_LawPool .nil pass0 (pa_cons (pv 0) pa_nil)))
      (pss_cons (ps_for PassesOwn.never rfl (pi_range1 (by rfl) T.z_range (pa_cons pe_int pa_nil)) (pg_name (i := 2) scLaw.nd rfl (Or.inl rfl)) (pss_cons (ps_par (i := 3) (j := 4) (by rfl) scLaw.nd rfl rfl (by decide) rfl rfl (pa_cons (pe_call gLawOwnLines (hr.mono (by decide)) (by rfl) T.m_LawOwnLines T.f_LawOwnLines.kp T.b_LawOwnLines .nil pass0 (pa_cons (pv 1) pa_nil)) (pa_cons (pe_call gLawParents (hr.mono (by decide)) (by rfl) T.m_LawParents T.f_LawParents.kp T.b_LawParents .nil pass0 (pa_cons (pv 1) pa_nil)) pa_nil)) (by rfl))
      (pss_cons (ps_set (i := 5) scLaw.nd rfl (Or.inl rfl) (pe_slice sl_str (pe_slice sl_str pe_str (po_some (pe_call gLawDraw (hr.mono (by decide)) (by rfl) T.m_LawDraw T.f_LawDraw.kp T.b_LawDraw .nil pass0 (pa_cons (pv 1) (pa_cons pe_int pa_nil)))) po_none) po_none (po_some (pe_op op_add pe_int (pe_call gLawDraw (hr.mono (by decide)) (by rfl) T.m_LawDraw T.f_LawDraw.kp T.b_LawDraw .nil pass0 (pa_cons (pv 1) (pa_cons pe_int pa_nil)))))))
      (pss_cons (ps_par (i := 6) (j := 7) (by rfl) scLaw.nd rfl rfl (by decide) rfl rfl (pa_cons (pe_callTy call_list_of (by rfl) T.z_list (by decide +kernel) (pa_cons (pv 3) pa_nil)) (pa_cons (pe_callTy call_list_of (by rfl) T.z_list (by decide +kernel) (pa_cons (pv 4) pa_nil)) pa_nil)) (by rfl))
      (pss_cons (ps_set (i := 8) scLaw.nd rfl (Or.inl rfl) (pe_makeK T.mk_Version gVersionInit (hr.mono (by decide)) (by rfl) T.k_Version T.kb0_VersionInit.choose_spec passL (pa_cons (pv 6) pa_nil) (pk_cons (pv 7) (pk_cons (pv 5) pk_nil))))
      (pss_cons (ps_expr (pe_bm PySem.F.plainAttrs_list PySem.F.slot_list_append PySem.F.type_list_append mt_append (pv 6) (pa_cons pe_str pa_nil)))
      (pss_cons (ps_expr (pe_bm PySem.F.plainAttrs_list PySem.F.slot_list_append PySem.F.type_list_append mt_append (pv 7) (pa_cons pe_int pa_nil)))
      (pss_cons (ps_if (pt_not (pt_val (pe_callG gLawRight (hr.mono (by decide)) hG (by rfl) T.m_LawRight T.f_LawRight.kp T.b_LawRight pass0 (pa_cons (pv 8) (pa_cons (pv 3) (pa_cons (pv 4) (pa_cons (pv 5) pa_nil))))))) (pss_one (ps_ret pe_bl)) pss_nil)
      (pss_cons (ps_if (pt_cmpR (op_ownNe T.w_VersionEq gVersionEq (hr.mono (by decide)) T.b_VersionEq pass0) (pv 8) (pe_makeK T.mk_Version gVersionInit (hr.mono (by decide)) (by rfl) T.k_Version T.kb0_VersionInit.choose_spec passL (pa_cons (pe_callTy call_tuple_of (by rfl) T.z_tuple (by decide +kernel) (pa_cons (pv 3) pa_nil)) pa_nil) (pk_cons (pe_callTy call_tuple_of (by rfl) T.z_tuple (by decide +kernel) (pa_cons (pe_revL (pv 4)) pa_nil)) (pk_cons (pv 5) pk_nil))) (nomark _)) (pss_one (ps_ret pe_bl)) pss_nil)
      (pss_cons (ps_if (pt_cmpR (op_ownCA (fun _ _ => rfl) T.o_VersionEq gVersionEq (hr.mono (by decide)) T.b_VersionEq pass0) (pv 8) (pv 3) (nomark _)) (pss_one (ps_ret pe_bl)) pss_nil)
      (pss_cons (ps_set (i := 9) scLaw.nd rfl (Or.inl rfl) (pe_lst (pa_cons (pe_makeK T.mk_Version gVersionInit (hr.mono (by decide)) (by rfl) T.k_Version T.kb0_VersionInit.choose_spec passL (pa_cons (pe_op op_cat (pv 3) (pe_slice sl_list (pe_lst (pa_cons pe_str pa_nil)) po_none (po_some (pe_op op_sub pe_int (pe_callB call_lenH (by rfl) T.z_len (by decide +kernel) (pa_cons (pv 3) pa_nil)))))) pa_nil) (pk_cons (pv 4) (pk_cons pe_str pk_nil))) (pa_cons (pe_makeK T.mk_Version gVersionInit (hr.mono (by decide)) (by rfl) T.k_Version T.kb1_VersionInit.choose_spec passL (pa_cons (pv 3) pa_nil) (pk_cons (pv 5) pk_nil)) pa_nil))))
      (pss_cons (ps_if (PW.pt (pw_or (pt_cmpR (op_ownC (fun _ _ => rfl) T.o_VersionEq gVersionEq (hr.mono (by decide)) T.b_VersionEq pass0) (pv 8) (pe_ix ix_lstH (pv 9) pe_int (fun _ _ => rfl)) (nomark _)) (pw_or1 (pt_cmpR (op_ne) (pe_cmpR (op_ownC (fun _ _ => rfl) T.o_VersionEq gVersionEq (hr.mono (by decide)) T.b_VersionEq pass0) (pv 8) (pe_ix ix_lstH (pv 9) pe_int (fun _ _ => rfl)) (nomark _)) (pe_cmpR (op_eqNil hr.units) (pv 4) (pe_lst pa_nil) (nomark _)) (nomark _))))) (pss_one (ps_ret pe_bl)) pss_nil)
      (pss_cons (ps_if (pt_not (pt_val (pe_callG gLawRight (hr.mono (by decide)) hG (by rfl) T.m_LawRight T.f_LawRight.kp T.b_LawRight pass0 (pa_cons (pe_makeK T.mk_Version gVersionInit (hr.mono (by decide)) (by rfl) T.k_Version T.kb2_VersionInit.choose_spec passL (pa_cons (pv 3) pa_nil) pk_nil) (pa_cons (pv 3) (pa_cons (pe_lst pa_nil) (pa_cons pe_str pa_nil))))))) (pss_one (ps_ret pe_bl)) pss_nil)
      (pss_one (ps_if (pt_not (pt_val (pe_callG gLawRefused (hr.mono (by decide)) hG (by rfl) T.m_LawRefused T.f_LawRefused.kp T.b_LawRefused pass0 (pa_cons (pv 3) (pa_cons (pv 4) (pa_cons (pv 5) pa_nil)))))) (pss_one (ps_ret pe_bl)) pss_nil)))))))))))))))
      (pss_one (ps_ret pe_bl)))), ?_⟩
    refine ⟨_, rfl, a, ns, rfl, hS, hlen, fun p l H1 hp np nl s1 => ?_⟩
    have w1 : Wt (ts9 A) p l 0 (fun _ => none) H1 := ⟨wd0 hp, hT.ext fun b o h => s1 b o h, fun _ _ z => by cases z⟩
    refine seq_gen fun N eN => ?_
    try simp only [tSeq, tNext, tRet, tRetN, tAsg, gName, gSub, tDrop, tIfS, tOp, tUn, tCB, tCons, tNil, tC, tVar, rI, rI0, rU, tAnd, tOr, tNot, tAndV, tOrV, tNotV, tIf, tTest, tB, tCall, tChain, tLst, tTup, tYes, rIxH, rIsB, rIsBT, rMulS, kd_non, kd_bl, kd_int, kd_str, kd_ref, kdO_lst, kdO_tup, kdO_dK, nq_n, nq_b, nq_i, nq_s, nq_l, nq_t, nq_d, ne_eq, not_false_eq_true, kit_ss, kit_ns, kit_bs, kit_is, kit_ls, kit_ts, kit_ds, kit_bb, V.ty.injEq, and_assoc, rIxU, rLenH, rLenU, rLenS, rInt1, rSetL, rEq, rNe, rCat, L2.start, List.map, List.length, List.length_cons, List.length_nil, List.replicate, List.getElem?_cons_zero, List.getElem?_cons_succ, List.set_cons_zero, List.set_cons_succ, List.set_nil, List.cons_append, List.nil_append, List.append_nil, Option.some.injEq, V.int.injEq, V.ref.injEq, V.str.injEq, V.bl.injEq, HO.lst.injEq, HO.tup.injEq, exists_eq_left', exists_and_left, exists_eq_left, List.cons.injEq, and_true, true_and, and_false, false_and, and_self, reduceCtorEq, exists_false, or_false, false_or, exists_const, at0, at1, at2, at3, at4, at5, ix51, ix52, ix54, upd_same, Nat.reduceAdd, Nat.reduceSub, Nat.zero_add, Int.reduceToNat, Int.reduceLE, Int.reduceLT, decide_eq_true_eq, Bool.not_eq_true, if_true, if_false, Bool.false_eq_true, ite_true, ite_false, Bool.not_true, Bool.not_false, decide_true, decide_false, tFor_eq, tLc_eq, iList, iTup, iRng1, iRng2, iStr, tSl, tPart, tNoPart, rSlL, cxOf_K, wipe, ex_ty2, kit_LTl, kit_LTt, kit_LTd, kit_LTs, kit_LTn, kit_LTb, kit_LTi, tM1, rIxS, exists_eq', lt1p, tDNewK, rSlS, rEqNil]
    rw [eN]
    clear eN N
    refine seq_gen fun N eN => ?_
    try simp only [tSeq, tNext, tRet, tRetN, tAsg, gName, gSub, tDrop, tIfS, tOp, tUn, tCB, tCons, tNil, tC, tVar, rI, rI0, rU, tAnd, tOr, tNot, tAndV, tOrV, tNotV, tIf, tTest, tB, tCall, tChain, tLst, tTup, tYes, rIxH, rIsB, rIsBT, rMulS, kd_non, kd_bl, kd_int, kd_str, kd_ref, kdO_lst, kdO_tup, kdO_dK, nq_n, nq_b, nq_i, nq_s, nq_l, nq_t, nq_d, ne_eq, not_false_eq_true, kit_ss, kit_ns, kit_bs, kit_is, kit_ls, kit_ts, kit_ds, kit_bb, V.ty.injEq, and_assoc, rIxU, rLenH, rLenU, rLenS, rInt1, rSetL, rEq, rNe, rCat, L2.start, List.map, List.length, List.length_cons, List.length_nil, List.replicate, List.getElem?_cons_zero, List.getElem?_cons_succ, List.set_cons_zero, List.set_cons_succ, List.set_nil, List.cons_append, List.nil_append, List.append_nil, Option.some.injEq, V.int.injEq, V.ref.injEq, V.str.injEq, V.bl.injEq, HO.lst.injEq, HO.tup.injEq, exists_eq_left', exists_and_left, exists_eq_left, List.cons.injEq, and_true, true_and, and_false, false_and, and_self, reduceCtorEq, exists_false, or_false, false_or, exists_const, at0, at1, at2, at3, at4, at5, ix51, ix52, ix54, upd_same, Nat.reduceAdd, Nat.reduceSub, Nat.zero_add, Int.reduceToNat, Int.reduceLE, Int.reduceLT, decide_eq_true_eq, Bool.not_eq_true, if_true, if_false, Bool.false_eq_true, ite_true, ite_false, Bool.not_true, Bool.not_false, decide_true, decide_false, tFor_eq, tLc_eq, iList, iTup, iRng1, iRng2, iStr, tSl, tPart, tNoPart, rSlL, cxOf_K, wipe, ex_ty2, kit_LTl, kit_LTt, kit_LTd, kit_LTs, kit_LTn, kit_LTb, kit_LTi, tM1, rIxS, exists_eq', lt1p, tDNewK, rSlS, rEqNil]
    refine ⟨by decide, by decide, ?_⟩
    refine for_go (walk_rangeY (lo := 0) (n := 6)) (LO9 a p l (ts9 A)) ⟨_, _, _, _, _, _, _, _, 0, rfl, w1, by omega⟩ (fun _ _ _ _ _ => trivial) (fun i x σ H7 hx q => ?_) (fun σ H7 q => ?_)
    · obtain ⟨v2, v3, v4, v5, v6, v7, v8, v9, c, rfl, w7, hc⟩ := q
      obtain ⟨rfl, hi⟩ := rng_item hx
      refine seq_gen fun N2 eN2 => ?_
      try simp only [tSeq, tNext, tRet, tRetN, tAsg, gName, gSub, tDrop, tIfS, tOp, tUn, tCB, tCons, tNil, tC, tVar, rI, rI0, rU, tAnd, tOr, tNot, tAndV, tOrV, tNotV, tIf, tTest, tB, tCall, tChain, tLst, tTup, tYes, rIxH, rIsB, rIsBT, rMulS, kd_non, kd_bl, kd_int, kd_str, kd_ref, kdO_lst, kdO_tup, kdO_dK, nq_n, nq_b, nq_i, nq_s, nq_l, nq_t, nq_d, ne_eq, not_false_eq_true, kit_ss, kit_ns, kit_bs, kit_is, kit_ls, kit_ts, kit_ds, kit_bb, V.ty.injEq, and_assoc, rIxU, rLenH, rLenU, rLenS, rInt1, rSetL, rEq, rNe, rCat, L2.start, List.map, List.length, List.length_cons, List.length_nil, List.replicate, List.getElem?_cons_zero, List.getElem?_cons_succ, List.set_cons_zero, List.set_cons_succ, List.set_nil, List.cons_append, List.nil_append, List.append_nil, Option.some.injEq, V.int.injEq, V.ref.injEq, V.str.injEq, V.bl.injEq, HO.lst.injEq, HO.tup.injEq, exists_eq_left', exists_and_left, exists_eq_left, List.cons.injEq, and_true, true_and, and_false, false_and, and_self, reduceCtorEq, exists_false, or_false, false_or, exists_const, at0, at1, at2, at3, at4, at5, ix51, ix52, ix54, upd_same, Nat.reduceAdd, Nat.reduceSub, Nat.zero_add, Int.reduceToNat, Int.reduceLE, Int.reduceLT, decide_eq_true_eq, Bool.not_eq_true, if_true, if_false, Bool.false_eq_true, ite_true, ite_false, Bool.not_true, Bool.not_false, decide_true, decide_false, tFor_eq, tLc_eq, iList, iTup, iRng1, iRng2, iStr, tSl, tPart, tNoPart, rSlL, cxOf_K, wipe, ex_ty2, kit_LTl, kit_LTt, kit_LTd, kit_LTs, kit_LTn, kit_LTb, kit_LTi, tM1, rIxS, exists_eq', lt1p, tDNewK, rSlS, rEqNil]
      try simp only [tSeq, tNext, tRet, tRetN, tAsg, gName, gSub, tDrop, tIfS, tOp, tUn, tCB, tCons, tNil, tC, tVar, rI, rI0, rU, tAnd, tOr, tNot, tAndV, tOrV, tNotV, tIf, tTest, tB, tCall, tChain, tLst, tTup, tYes, rIxH, rIsB, rIsBT, rMulS, kd_non, kd_bl, kd_int, kd_str, kd_ref, kdO_lst, kdO_tup, kdO_dK, nq_n, nq_b, nq_i, nq_s, nq_l, nq_t, nq_d, ne_eq, not_false_eq_true, kit_ss, kit_ns, kit_bs, kit_is, kit_ls, kit_ts, kit_ds, kit_bb, V.ty.injEq, and_assoc, rIxU, rLenH, rLenU, rLenS, rInt1, rSetL, rEq, rNe, rCat, L2.start, List.map, List.length, List.length_cons, List.length_nil, List.replicate, List.getElem?_cons_zero, List.getElem?_cons_succ, List.set_cons_zero, List.set_cons_succ, List.set_nil, List.cons_append, List.nil_append, List.append_nil, Option.some.injEq, V.int.injEq, V.ref.injEq, V.str.injEq, V.bl.injEq, HO.lst.injEq, HO.tup.injEq, exists_eq_left', exists_and_left, exists_eq_left, List.cons.injEq, and_true, true_and, and_false, false_and, and_self, reduceCtorEq, exists_false, or_false, false_or, exists_const, at0, at1, at2, at3, at4, at5, ix51, ix52, ix54, upd_same, Nat.reduceAdd, Nat.reduceSub, Nat.zero_add, Int.reduceToNat, Int.reduceLE, Int.reduceLT, decide_eq_true_eq, Bool.not_eq_true, if_true, if_false, Bool.false_eq_true, ite_true, ite_false, Bool.not_true, Bool.not_false, decide_true, decide_false, tFor_eq, tLc_eq, iList, iTup, iRng1, iRng2, iStr, tSl, tPart, tNoPart, rSlL, cxOf_K, wipe, ex_ty2, kit_LTl, kit_LTt, kit_LTd, kit_LTs, kit_LTn, kit_LTb, kit_LTi, tM1, rIxS, exists_eq', lt1p, tDNewK, rSlS, rEqNil, tPar]
      refine ⟨p, l, c, rfl, w7.wd.pool, by omega, fun H8 lb ls n8 hp8 off8 h8 ll8 lw8 => ?_⟩
      obtain ⟨G8, w8, g8, f8⟩ := w7.told n8 h8 hp8 off8
      refine ⟨p, l, _, rfl, w8.wd.pool, by omega, fun H9 eb qs n9 hp9 off9 h9 ql9 qn9 qb9 => ?_⟩
      obtain ⟨G9, w9, g9, f9⟩ := w8.told n9 h9 hp9 off9
      have f8' := g9 _ _ f8
      try simp only [tSeq, tNext, tRet, tRetN, tAsg, gName, gSub, tDrop, tIfS, tOp, tUn, tCB, tCons, tNil, tC, tVar, rI, rI0, rU, tAnd, tOr, tNot, tAndV, tOrV, tNotV, tIf, tTest, tB, tCall, tChain, tLst, tTup, tYes, rIxH, rIsB, rIsBT, rMulS, kd_non, kd_bl, kd_int, kd_str, kd_ref, kdO_lst, kdO_tup, kdO_dK, nq_n, nq_b, nq_i, nq_s, nq_l, nq_t, nq_d, ne_eq, not_false_eq_true, kit_ss, kit_ns, kit_bs, kit_is, kit_ls, kit_ts, kit_ds, kit_bb, V.ty.injEq, and_assoc, rIxU, rLenH, rLenU, rLenS, rInt1, rSetL, rEq, rNe, rCat, L2.start, List.map, List.length, List.length_cons, List.length_nil, List.replicate, List.getElem?_cons_zero, List.getElem?_cons_succ, List.set_cons_zero, List.set_cons_succ, List.set_nil, List.cons_append, List.nil_append, List.append_nil, Option.some.injEq, V.int.injEq, V.ref.injEq, V.str.injEq, V.bl.injEq, HO.lst.injEq, HO.tup.injEq, exists_eq_left', exists_and_left, exists_eq_left, List.cons.injEq, and_true, true_and, and_false, false_and, and_self, reduceCtorEq, exists_false, or_false, false_or, exists_const, at0, at1, at2, at3, at4, at5, ix51, ix52, ix54, upd_same, Nat.reduceAdd, Nat.reduceSub, Nat.zero_add, Int.reduceToNat, Int.reduceLE, Int.reduceLT, decide_eq_true_eq, Bool.not_eq_true, if_true, if_false, Bool.false_eq_true, ite_true, ite_false, Bool.not_true, Bool.not_false, decide_true, decide_false, tFor_eq, tLc_eq, iList, iTup, iRng1, iRng2, iStr, tSl, tPart, tNoPart, rSlL, cxOf_K, wipe, ex_ty2, kit_LTl, kit_LTt, kit_LTd, kit_LTs, kit_LTn, kit_LTb, kit_LTi, tM1, rIxS, exists_eq', lt1p, tDNewK, rSlS, rEqNil]
      rw [eN2]
      clear eN2 N2
      refine seq_gen fun N2 eN2 => ?_
      try simp only [tSeq, tNext, tRet, tRetN, tAsg, gName, gSub, tDrop, tIfS, tOp, tUn, tCB, tCons, tNil, tC, tVar, rI, rI0, rU, tAnd, tOr, tNot, tAndV, tOrV, tNotV, tIf, tTest, tB, tCall, tChain, tLst, tTup, tYes, rIxH, rIsB, rIsBT, rMulS, kd_non, kd_bl, kd_int, kd_str, kd_ref, kdO_lst, kdO_tup, kdO_dK, nq_n, nq_b, nq_i, nq_s, nq_l, nq_t, nq_d, ne_eq, not_false_eq_true, kit_ss, kit_ns, kit_bs, kit_is, kit_ls, kit_ts, kit_ds, kit_bb, V.ty.injEq, and_assoc, rIxU, rLenH, rLenU, rLenS, rInt1, rSetL, rEq, rNe, rCat, L2.start, List.map, List.length, List.length_cons, List.length_nil, List.replicate, List.getElem?_cons_zero, List.getElem?_cons_succ, List.set_cons_zero, List.set_cons_succ, List.set_nil, List.cons_append, List.nil_append, List.append_nil, Option.some.injEq, V.int.injEq, V.ref.injEq, V.str.injEq, V.bl.injEq, HO.lst.injEq, HO.tup.injEq, exists_eq_left', exists_and_left, exists_eq_left, List.cons.injEq, and_true, true_and, and_false, false_and, and_self, reduceCtorEq, exists_false, or_false, false_or, exists_const, at0, at1, at2, at3, at4, at5, ix51, ix52, ix54, upd_same, Nat.reduceAdd, Nat.reduceSub, Nat.zero_add, Int.reduceToNat, Int.reduceLE, Int.reduceLT, decide_eq_true_eq, Bool.not_eq_true, if_true, if_false, Bool.false_eq_true, ite_true, ite_false, Bool.not_true, Bool.not_false, decide_true, decide_false, tFor_eq, tLc_eq, iList, iTup, iRng1, iRng2, iStr, tSl, tPart, tNoPart, rSlL, cxOf_K, wipe, ex_ty2, kit_LTl, kit_LTt, kit_LTd, kit_LTs, kit_LTn, kit_LTb, kit_LTi, tM1, rIxS, exists_eq', lt1p, tDNewK, rSlS, rEqNil]
      refine ⟨p, l, 8, _, rfl, by decide, by decide, w9.wd.pool, by omega, fun u H10 u0 u1 hp10 off10 => ?_⟩
      have w10 := w9.turn hp10 (Off.s off10)
      refine ⟨u, rfl, by decide +kernel, ?_⟩
      refine ⟨p, l, 8, _, rfl, by decide, by decide, w10.wd.pool, by omega, fun t H11 t0 t1 hp11 off11 => ?_⟩
      have w11 := w10.turn hp11 (Off.s off11)
      obtain ⟨u, rfl⟩ : ∃ n : Nat, u = (n : Int) := ⟨u.toNat, (Int.toNat_of_nonneg u0).symm⟩
      obtain ⟨t, rfl⟩ : ∃ n : Nat, t = (n : Int) := ⟨t.toNat, (Int.toNat_of_nonneg t0).symm⟩
      have hc16 : (Str.ofString "abcdefghijklmnop").length = 16 := by decide +kernel
      have cl := cutS_length (Str.ofString "abcdefghijklmnop") (some (u : Int)) none
      refine ⟨t, rfl, size1000 (by omega), ?_⟩
      obtain ⟨nm, nz, ns'⟩ := name_ok (i := u) (j := t) (by omega) (by omega)
      have en : cutS (cutS (Str.ofString "abcdefghijklmnop") (some (u : Int)) none) none (some (1 + (t : Int))) = nameS u t := rfl
      rw [en]
      clear en cl hc16
      generalize nameS u t = nn at nm nz ns' ⊢
      rw [eN2]
      clear eN2 N2
      refine seq_gen fun N2 eN2 => ?_
      have hlb11 := w11.wd.kn _ _ f8'
      have heb11 := w11.wd.kn _ _ f9
      try simp only [tSeq, tNext, tRet, tRetN, tAsg, gName, gSub, tDrop, tIfS, tOp, tUn, tCB, tCons, tNil, tC, tVar, rI, rI0, rU, tAnd, tOr, tNot, tAndV, tOrV, tNotV, tIf, tTest, tB, tCall, tChain, tLst, tTup, tYes, rIxH, rIsB, rIsBT, rMulS, kd_non, kd_bl, kd_int, kd_str, kd_ref, kdO_lst, kdO_tup, kdO_dK, nq_n, nq_b, nq_i, nq_s, nq_l, nq_t, nq_d, ne_eq, not_false_eq_true, kit_ss, kit_ns, kit_bs, kit_is, kit_ls, kit_ts, kit_ds, kit_bb, V.ty.injEq, and_assoc, rIxU, rLenH, rLenU, rLenS, rInt1, rSetL, rEq, rNe, rCat, L2.start, List.map, List.length, List.length_cons, List.length_nil, List.replicate, List.getElem?_cons_zero, List.getElem?_cons_succ, List.set_cons_zero, List.set_cons_succ, List.set_nil, List.cons_append, List.nil_append, List.append_nil, Option.some.injEq, V.int.injEq, V.ref.injEq, V.str.injEq, V.bl.injEq, HO.lst.injEq, HO.tup.injEq, exists_eq_left', exists_and_left, exists_eq_left, List.cons.injEq, and_true, true_and, and_false, false_and, and_self, reduceCtorEq, exists_false, or_false, false_or, exists_const, at0, at1, at2, at3, at4, at5, ix51, ix52, ix54, upd_same, Nat.reduceAdd, Nat.reduceSub, Nat.zero_add, Int.reduceToNat, Int.reduceLE, Int.reduceLT, decide_eq_true_eq, Bool.not_eq_true, if_true, if_false, Bool.false_eq_true, ite_true, ite_false, Bool.not_true, Bool.not_false, decide_true, decide_false, tFor_eq, tLc_eq, iList, iTup, iRng1, iRng2, iStr, tSl, tPart, tNoPart, rSlL, cxOf_K, wipe, ex_ty2, kit_LTl, kit_LTt, kit_LTd, kit_LTs, kit_LTn, kit_LTb, kit_LTi, tM1, rIxS, exists_eq', lt1p, tDNewK, rSlS, rEqNil, tPar]
      refine ⟨_, .inl (SqL.of hlb11), ?_⟩
      intro gb n_gb; generalize g_H12 : upd H11 gb _ = H12; obtain ⟨s_H12, h_gb⟩ := new_facts n_gb g_H12; clear g_H12
      have w12 := w11.same s_H12
      have heb12 := s_H12 _ _ heb11
      refine ⟨_, .inl (SqL.of heb12), ?_⟩
      intro nb n_nb; generalize g_H13 : upd H12 nb _ = H13; obtain ⟨s_H13, h_nb⟩ := new_facts n_nb g_H13; clear g_H13
      have w13 := w12.same s_H13
      have hgb13 := s_H13 _ _ h_gb
      rw [eN2]
      clear eN2 N2
      refine seq_gen fun N2 eN2 => ?_
      try simp only [tSeq, tNext, tRet, tRetN, tAsg, gName, gSub, tDrop, tIfS, tOp, tUn, tCB, tCons, tNil, tC, tVar, rI, rI0, rU, tAnd, tOr, tNot, tAndV, tOrV, tNotV, tIf, tTest, tB, tCall, tChain, tLst, tTup, tYes, rIxH, rIsB, rIsBT, rMulS, kd_non, kd_bl, kd_int, kd_str, kd_ref, kdO_lst, kdO_tup, kdO_dK, nq_n, nq_b, nq_i, nq_s, nq_l, nq_t, nq_d, ne_eq, not_false_eq_true, kit_ss, kit_ns, kit_bs, kit_is, kit_ls, kit_ts, kit_ds, kit_bb, V.ty.injEq, and_assoc, rIxU, rLenH, rLenU, rLenS, rInt1, rSetL, rEq, rNe, rCat, L2.start, List.map, List.length, List.length_cons, List.length_nil, List.replicate, List.getElem?_cons_zero, List.getElem?_cons_succ, List.set_cons_zero, List.set_cons_succ, List.set_nil, List.cons_append, List.nil_append, List.append_nil, Option.some.injEq, V.int.injEq, V.ref.injEq, V.str.injEq, V.bl.injEq, HO.lst.injEq, HO.tup.injEq, exists_eq_left', exists_and_left, exists_eq_left, List.cons.injEq, and_true, true_and, and_false, false_and, and_self, reduceCtorEq, exists_false, or_false, false_or, exists_const, at0, at1, at2, at3, at4, at5, ix51, ix52, ix54, upd_same, Nat.reduceAdd, Nat.reduceSub, Nat.zero_add, Int.reduceToNat, Int.reduceLE, Int.reduceLT, decide_eq_true_eq, Bool.not_eq_true, if_true, if_false, Bool.false_eq_true, ite_true, ite_false, Bool.not_true, Bool.not_false, decide_true, decide_false, tFor_eq, tLc_eq, iList, iTup, iRng1, iRng2, iStr, tSl, tPart, tNoPart, rSlL, cxOf_K, wipe, ex_ty2, kit_LTl, kit_LTt, kit_LTd, kit_LTs, kit_LTn, kit_LTb, kit_LTi, tM1, rIxS, exists_eq', lt1p, tDNewK, rSlS, rEqNil, tMakeK_eq]
      have wl : ∀ z ∈ ls, isLineV (.str z) = true ∧ z.length ≤ 40 ∧ ∀ c ∈ z.cps.toList, c < 128 := fun z hz => ⟨(wordL (lw8 z hz)).1, (wordL (lw8 z hz)).2.1, (wordL (lw8 z hz)).2.2.1⟩
      have tx := text_ok (H := H13) (lb := gb) ll8 wl (seq_lst hgb13) (.lst hgb13)
      have po : ParOk K H13 (.ref nb) qs := .inl ⟨thq_of (.lst h_nb) (seq_lst h_nb) (by rw [List.length_map]; omega) (fun x hx => by obtain ⟨i, rfl⟩ := mem_int hx; exact .int i), seq_lst h_nb, par_ints ql9 qn9 fun z hz => (qb9 z hz).1⟩
      refine ver_yes (ls := ls) (qs := qs) (n := nn) (fun x => rfl) tx.1 (seq_lst hgb13) tx.2 po ns' nm fun H14 va ps s14 nva hva ppo ppm => ?_
      have ow : Own9 ls qs ps := ⟨ll8, lw8, ql9, qn9, qb9, ppo, ppm⟩
      have w14 := w13.same s14
      have hgb14 := s14 _ _ hgb13
      have hnb14 := s14 _ _ h_nb
      have gg1 : G9 gb = none := w11.wd.free n_gb
      have gg2 : G9 nb = none := w12.wd.free n_nb
      have ng1 := w11.wd.pool.np n_gb
      have ng2 := w12.wd.pool.np n_nb
      have ngn : gb ≠ nb := ne_of_none h_gb n_nb
      rw [eN2]
      clear eN2 N2 tx po
      refine seq_gen fun N2 eN2 => ?_
      try simp only [tSeq, tNext, tRet, tRetN, tAsg, gName, gSub, tDrop, tIfS, tOp, tUn, tCB, tCons, tNil, tC, tVar, rI, rI0, rU, tAnd, tOr, tNot, tAndV, tOrV, tNotV, tIf, tTest, tB, tCall, tChain, tLst, tTup, tYes, rIxH, rIsB, rIsBT, rMulS, kd_non, kd_bl, kd_int, kd_str, kd_ref, kdO_lst, kdO_tup, kdO_dK, nq_n, nq_b, nq_i, nq_s, nq_l, nq_t, nq_d, ne_eq, not_false_eq_true, kit_ss, kit_ns, kit_bs, kit_is, kit_ls, kit_ts, kit_ds, kit_bb, V.ty.injEq, and_assoc, rIxU, rLenH, rLenU, rLenS, rInt1, rSetL, rEq, rNe, rCat, L2.start, List.map, List.length, List.length_cons, List.length_nil, List.replicate, List.getElem?_cons_zero, List.getElem?_cons_succ, List.set_cons_zero, List.set_cons_succ, List.set_nil, List.cons_append, List.nil_append, List.append_nil, Option.some.injEq, V.int.injEq, V.ref.injEq, V.str.injEq, V.bl.injEq, HO.lst.injEq, HO.tup.injEq, exists_eq_left', exists_and_left, exists_eq_left, List.cons.injEq, and_true, true_and, and_false, false_and, and_self, reduceCtorEq, exists_false, or_false, false_or, exists_const, at0, at1, at2, at3, at4, at5, ix51, ix52, ix54, upd_same, Nat.reduceAdd, Nat.reduceSub, Nat.zero_add, Int.reduceToNat, Int.reduceLE, Int.reduceLT, decide_eq_true_eq, Bool.not_eq_true, if_true, if_false, Bool.false_eq_true, ite_true, ite_false, Bool.not_true, Bool.not_false, decide_true, decide_false, tFor_eq, tLc_eq, iList, iTup, iRng1, iRng2, iStr, tSl, tPart, tNoPart, rSlL, cxOf_K, wipe, ex_ty2, kit_LTl, kit_LTt, kit_LTd, kit_LTs, kit_LTn, kit_LTb, kit_LTi, tM1, rIxS, exists_eq', lt1p, tDNewK, rSlS, rEqNil]
      refine ⟨_, rfl, .inl ⟨rfl, _, SqL.of hgb14⟩, ?_⟩
      try simp only [tSeq, tNext, tRet, tRetN, tAsg, gName, gSub, tDrop, tIfS, tOp, tUn, tCB, tCons, tNil, tC, tVar, rI, rI0, rU, tAnd, tOr, tNot, tAndV, tOrV, tNotV, tIf, tTest, tB, tCall, tChain, tLst, tTup, tYes, rIxH, rIsB, rIsBT, rMulS, kd_non, kd_bl, kd_int, kd_str, kd_ref, kdO_lst, kdO_tup, kdO_dK, nq_n, nq_b, nq_i, nq_s, nq_l, nq_t, nq_d, ne_eq, not_false_eq_true, kit_ss, kit_ns, kit_bs, kit_is, kit_ls, kit_ts, kit_ds, kit_bb, V.ty.injEq, and_assoc, rIxU, rLenH, rLenU, rLenS, rInt1, rSetL, rEq, rNe, rCat, L2.start, List.map, List.length, List.length_cons, List.length_nil, List.replicate, List.getElem?_cons_zero, List.getElem?_cons_succ, List.set_cons_zero, List.set_cons_succ, List.set_nil, List.cons_append, List.nil_append, List.append_nil, Option.some.injEq, V.int.injEq, V.ref.injEq, V.str.injEq, V.bl.injEq, HO.lst.injEq, HO.tup.injEq, exists_eq_left', exists_and_left, exists_eq_left, List.cons.injEq, and_true, true_and, and_false, false_and, and_self, reduceCtorEq, exists_false, or_false, false_or, exists_const, at0, at1, at2, at3, at4, at5, ix51, ix52, ix54, upd_same, Nat.reduceAdd, Nat.reduceSub, Nat.zero_add, Int.reduceToNat, Int.reduceLE, Int.reduceLT, decide_eq_true_eq, Bool.not_eq_true, if_true, if_false, Bool.false_eq_true, ite_true, ite_false, Bool.not_true, Bool.not_false, decide_true, decide_false, tFor_eq, tLc_eq, iList, iTup, iRng1, iRng2, iStr, tSl, tPart, tNoPart, rSlL, cxOf_K, wipe, ex_ty2, kit_LTl, kit_LTt, kit_LTd, kit_LTs, kit_LTn, kit_LTb, kit_LTi, tM1, rIxS, exists_eq', lt1p, tDNewK, rSlS, rEqNil, nox_K, rAppend]
      refine ⟨_, hgb14, Nat.lt_of_le_of_lt (m := 1000) (by rw [List.length_map]; omega) (by decide), ?_⟩
      have w15 := w14.mut (ys := ls.map V.str ++ [V.str (Str.ofString "more")]) gg1 hgb14 ng1.1 ng1.2
      have hva15 := hva.mut (ys := ls.map V.str ++ [V.str (Str.ofString "more")]) hgb14
      have hnb15 : upd H14 gb (.lst (ls.map V.str ++ [V.str (Str.ofString "more")])) nb = _ := (upd_ne ngn.symm).trans hnb14
      generalize upd H14 gb (.lst (ls.map V.str ++ [V.str (Str.ofString "more")])) = H15 at w15 hva15 hnb15 ⊢
      rw [eN2]
      clear eN2 N2
      refine seq_gen fun N2 eN2 => ?_
      try simp only [tSeq, tNext, tRet, tRetN, tAsg, gName, gSub, tDrop, tIfS, tOp, tUn, tCB, tCons, tNil, tC, tVar, rI, rI0, rU, tAnd, tOr, tNot, tAndV, tOrV, tNotV, tIf, tTest, tB, tCall, tChain, tLst, tTup, tYes, rIxH, rIsB, rIsBT, rMulS, kd_non, kd_bl, kd_int, kd_str, kd_ref, kdO_lst, kdO_tup, kdO_dK, nq_n, nq_b, nq_i, nq_s, nq_l, nq_t, nq_d, ne_eq, not_false_eq_true, kit_ss, kit_ns, kit_bs, kit_is, kit_ls, kit_ts, kit_ds, kit_bb, V.ty.injEq, and_assoc, rIxU, rLenH, rLenU, rLenS, rInt1, rSetL, rEq, rNe, rCat, L2.start, List.map, List.length, List.length_cons, List.length_nil, List.replicate, List.getElem?_cons_zero, List.getElem?_cons_succ, List.set_cons_zero, List.set_cons_succ, List.set_nil, List.cons_append, List.nil_append, List.append_nil, Option.some.injEq, V.int.injEq, V.ref.injEq, V.str.injEq, V.bl.injEq, HO.lst.injEq, HO.tup.injEq, exists_eq_left', exists_and_left, exists_eq_left, List.cons.injEq, and_true, true_and, and_false, false_and, and_self, reduceCtorEq, exists_false, or_false, false_or, exists_const, at0, at1, at2, at3, at4, at5, ix51, ix52, ix54, upd_same, Nat.reduceAdd, Nat.reduceSub, Nat.zero_add, Int.reduceToNat, Int.reduceLE, Int.reduceLT, decide_eq_true_eq, Bool.not_eq_true, if_true, if_false, Bool.false_eq_true, ite_true, ite_false, Bool.not_true, Bool.not_false, decide_true, decide_false, tFor_eq, tLc_eq, iList, iTup, iRng1, iRng2, iStr, tSl, tPart, tNoPart, rSlL, cxOf_K, wipe, ex_ty2, kit_LTl, kit_LTt, kit_LTd, kit_LTs, kit_LTn, kit_LTb, kit_LTi, tM1, rIxS, exists_eq', lt1p, tDNewK, rSlS, rEqNil]
      refine ⟨_, rfl, .inl ⟨rfl, _, SqL.of hnb15⟩, ?_⟩
      try simp only [tSeq, tNext, tRet, tRetN, tAsg, gName, gSub, tDrop, tIfS, tOp, tUn, tCB, tCons, tNil, tC, tVar, rI, rI0, rU, tAnd, tOr, tNot, tAndV, tOrV, tNotV, tIf, tTest, tB, tCall, tChain, tLst, tTup, tYes, rIxH, rIsB, rIsBT, rMulS, kd_non, kd_bl, kd_int, kd_str, kd_ref, kdO_lst, kdO_tup, kdO_dK, nq_n, nq_b, nq_i, nq_s, nq_l, nq_t, nq_d, ne_eq, not_false_eq_true, kit_ss, kit_ns, kit_bs, kit_is, kit_ls, kit_ts, kit_ds, kit_bb, V.ty.injEq, and_assoc, rIxU, rLenH, rLenU, rLenS, rInt1, rSetL, rEq, rNe, rCat, L2.start, List.map, List.length, List.length_cons, List.length_nil, List.replicate, List.getElem?_cons_zero, List.getElem?_cons_succ, List.set_cons_zero, List.set_cons_succ, List.set_nil, List.cons_append, List.nil_append, List.append_nil, Option.some.injEq, V.int.injEq, V.ref.injEq, V.str.injEq, V.bl.injEq, HO.lst.injEq, HO.tup.injEq, exists_eq_left', exists_and_left, exists_eq_left, List.cons.injEq, and_true, true_and, and_false, false_and, and_self, reduceCtorEq, exists_false, or_false, false_or, exists_const, at0, at1, at2, at3, at4, at5, ix51, ix52, ix54, upd_same, Nat.reduceAdd, Nat.reduceSub, Nat.zero_add, Int.reduceToNat, Int.reduceLE, Int.reduceLT, decide_eq_true_eq, Bool.not_eq_true, if_true, if_false, Bool.false_eq_true, ite_true, ite_false, Bool.not_true, Bool.not_false, decide_true, decide_false, tFor_eq, tLc_eq, iList, iTup, iRng1, iRng2, iStr, tSl, tPart, tNoPart, rSlL, cxOf_K, wipe, ex_ty2, kit_LTl, kit_LTt, kit_LTd, kit_LTs, kit_LTn, kit_LTb, kit_LTi, tM1, rIxS, exists_eq', lt1p, tDNewK, rSlS, rEqNil, nox_K, rAppend]
      refine ⟨_, hnb15, Nat.lt_of_le_of_lt (m := 1000) (by rw [List.length_map]; omega) (by decide), ?_⟩
      have w16 := w15.mut (ys := qs.map V.int ++ [V.int 3]) gg2 hnb15 ng2.1 ng2.2
      have hva16 := hva15.mut (ys := qs.map V.int ++ [V.int 3]) hnb15
      generalize upd H15 nb (.lst (qs.map V.int ++ [V.int 3])) = H16 at w16 hva16 ⊢
      rw [eN2]
      clear eN2 N2 hnb15 hva15 w15 hgb14 hnb14 w14 hva s14 H15 hgb13 h_nb w13 n_nb s_H13 h_gb w12 n_gb s_H12 heb12 hlb11 heb11 w11 hp11 off11 w10 hp10 off10 w9 hp9 off9 w8 hp8 off8
      refine seq_gen fun N2 eN2 => ?_
      try simp only [tSeq, tNext, tRet, tRetN, tAsg, gName, gSub, tDrop, tIfS, tOp, tUn, tCB, tCons, tNil, tC, tVar, rI, rI0, rU, tAnd, tOr, tNot, tAndV, tOrV, tNotV, tIf, tTest, tB, tCall, tChain, tLst, tTup, tYes, rIxH, rIsB, rIsBT, rMulS, kd_non, kd_bl, kd_int, kd_str, kd_ref, kdO_lst, kdO_tup, kdO_dK, nq_n, nq_b, nq_i, nq_s, nq_l, nq_t, nq_d, ne_eq, not_false_eq_true, kit_ss, kit_ns, kit_bs, kit_is, kit_ls, kit_ts, kit_ds, kit_bb, V.ty.injEq, and_assoc, rIxU, rLenH, rLenU, rLenS, rInt1, rSetL, rEq, rNe, rCat, L2.start, List.map, List.length, List.length_cons, List.length_nil, List.replicate, List.getElem?_cons_zero, List.getElem?_cons_succ, List.set_cons_zero, List.set_cons_succ, List.set_nil, List.cons_append, List.nil_append, List.append_nil, Option.some.injEq, V.int.injEq, V.ref.injEq, V.str.injEq, V.bl.injEq, HO.lst.injEq, HO.tup.injEq, exists_eq_left', exists_and_left, exists_eq_left, List.cons.injEq, and_true, true_and, and_false, false_and, and_self, reduceCtorEq, exists_false, or_false, false_or, exists_const, at0, at1, at2, at3, at4, at5, ix51, ix52, ix54, upd_same, Nat.reduceAdd, Nat.reduceSub, Nat.zero_add, Int.reduceToNat, Int.reduceLE, Int.reduceLT, decide_eq_true_eq, Bool.not_eq_true, if_true, if_false, Bool.false_eq_true, ite_true, ite_false, Bool.not_true, Bool.not_false, decide_true, decide_false, tFor_eq, tLc_eq, iList, iTup, iRng1, iRng2, iStr, tSl, tPart, tNoPart, rSlL, cxOf_K, wipe, ex_ty2, kit_LTl, kit_LTt, kit_LTd, kit_LTs, kit_LTn, kit_LTb, kit_LTi, tM1, rIxS, exists_eq', lt1p, tDNewK, rSlS, rEqNil]
      have hlb16 := w16.wd.kn _ _ f8'
      have heb16 := w16.wd.kn _ _ f9
      refine ⟨va, lb, eb, nn, ls, qs, ps, rfl, hva16, hlb16, heb16, ow, w16.tb, fun H17 x17 => ⟨true, rfl, ?_⟩⟩
      rw [if_neg (by decide), eN2]
      clear eN2 N2
      have hlb17 := x17.at hlb16
      have heb17 := x17.at heb16
      refine seq_gen fun N2 eN2 => ?_
      try simp only [tSeq, tNext, tRet, tRetN, tAsg, gName, gSub, tDrop, tIfS, tOp, tUn, tCB, tCons, tNil, tC, tVar, rI, rI0, rU, tAnd, tOr, tNot, tAndV, tOrV, tNotV, tIf, tTest, tB, tCall, tChain, tLst, tTup, tYes, rIxH, rIsB, rIsBT, rMulS, kd_non, kd_bl, kd_int, kd_str, kd_ref, kdO_lst, kdO_tup, kdO_dK, nq_n, nq_b, nq_i, nq_s, nq_l, nq_t, nq_d, ne_eq, not_false_eq_true, kit_ss, kit_ns, kit_bs, kit_is, kit_ls, kit_ts, kit_ds, kit_bb, V.ty.injEq, and_assoc, rIxU, rLenH, rLenU, rLenS, rInt1, rSetL, rEq, rNe, rCat, L2.start, List.map, List.length, List.length_cons, List.length_nil, List.replicate, List.getElem?_cons_zero, List.getElem?_cons_succ, List.set_cons_zero, List.set_cons_succ, List.set_nil, List.cons_append, List.nil_append, List.append_nil, Option.some.injEq, V.int.injEq, V.ref.injEq, V.str.injEq, V.bl.injEq, HO.lst.injEq, HO.tup.injEq, exists_eq_left', exists_and_left, exists_eq_left, List.cons.injEq, and_true, true_and, and_false, false_and, and_self, reduceCtorEq, exists_false, or_false, false_or, exists_const, at0, at1, at2, at3, at4, at5, ix51, ix52, ix54, upd_same, Nat.reduceAdd, Nat.reduceSub, Nat.zero_add, Int.reduceToNat, Int.reduceLE, Int.reduceLT, decide_eq_true_eq, Bool.not_eq_true, if_true, if_false, Bool.false_eq_true, ite_true, ite_false, Bool.not_true, Bool.not_false, decide_true, decide_false, tFor_eq, tLc_eq, iList, iTup, iRng1, iRng2, iStr, tSl, tPart, tNoPart, rSlL, cxOf_K, wipe, ex_ty2, kit_LTl, kit_LTt, kit_LTd, kit_LTs, kit_LTn, kit_LTb, kit_LTi, tM1, rIxS, exists_eq', lt1p, tDNewK, rSlS, rEqNil, tMakeK_eq, tRevL]
      refine ⟨_, .inl ⟨SqL.of hlb17, ?_⟩⟩
      intro tb n_tb; generalize g_H18 : upd H17 tb _ = H18; obtain ⟨s_H18, h_tb⟩ := new_facts n_tb g_H18; clear g_H18
      have heb18 := s_H18 _ _ heb17
      refine ⟨_, SqL.of heb18, ?_⟩
      intro rb n_rb; generalize g_H19 : upd H18 rb _ = H19; obtain ⟨s_H19, h_rb⟩ := new_facts n_rb g_H19; clear g_H19
      refine ⟨_, .inl ⟨SqL.of h_rb, ?_⟩⟩
      intro rt n_rt; generalize g_H20 : upd H19 rt _ = H20; obtain ⟨s_H20, h_rt⟩ := new_facts n_rt g_H20; clear g_H20
      have htb20 := (s_H19.trans s_H20) _ _ h_tb
      have erv : (qs.map V.int).reverse = qs.reverse.map V.int := List.map_reverse.symm
      have hrt20 : H20 rt = some (.tup (qs.reverse.map V.int)) := by rw [← erv]; exact h_rt
      have tx := text_ok (H := H20) (lb := tb) ll8 wl (seq_tup htb20) (.tup htb20)
      have po : ParOk K H20 (.ref rt) qs.reverse := ow.par (fun k => List.mem_reverse) ((List.reverse_perm qs).nodup_iff.mpr qn9) (seq_tup hrt20) (.tup hrt20)
      refine ver_yes (ls := ls) (qs := qs.reverse) (n := nn) (fun x => rfl) tx.1 (seq_tup htb20) tx.2 po ns' nm fun H21 vb ps2 s21 nvb hvb ppo2 ppm2 => ?_
      have s1721 := ((s_H18.trans s_H19).trans s_H20).trans s21
      have x21 := x17.same s1721
      have eps : ps2 = ps := sorted_uniq ppo (ppo2.imp fun h => Int.le_of_lt h) (nodup_lt ppo2) fun k => (ppm k).trans (List.mem_reverse.symm.trans (ppm2 k).symm)
      subst eps
      have hva21 := hva16.extN x21.ex
      obtain ⟨dxa, la, pa, va1, va2, va3⟩ := hva21.ex
      obtain ⟨dxb, lb', pb, vb1, vb2, vb3⟩ := hvb.ex
      refine ⟨va, dxa, _, vb, dxb, _, rfl, rfl, va1, vb1, ?_⟩
      refine ⟨va, ls, ps2, nn, .ref vb, rfl, hva21, ll8, ow.pl, ow.asc, .inl ⟨vb, ls, ps2, nn, rfl, hvb, ll8, ow.pl, ow.asc, ?_⟩⟩
      rw [decide_eq_true rfl, decide_eq_true rfl, decide_eq_true rfl]
      refine ⟨_, rfl, _, rfl, ?_⟩
      rw [if_neg (by decide), eN2]
      clear eN2 N2 tx po
      refine seq_gen fun N2 eN2 => ?_
      try simp only [tSeq, tNext, tRet, tRetN, tAsg, gName, gSub, tDrop, tIfS, tOp, tUn, tCB, tCons, tNil, tC, tVar, rI, rI0, rU, tAnd, tOr, tNot, tAndV, tOrV, tNotV, tIf, tTest, tB, tCall, tChain, tLst, tTup, tYes, rIxH, rIsB, rIsBT, rMulS, kd_non, kd_bl, kd_int, kd_str, kd_ref, kdO_lst, kdO_tup, kdO_dK, nq_n, nq_b, nq_i, nq_s, nq_l, nq_t, nq_d, ne_eq, not_false_eq_true, kit_ss, kit_ns, kit_bs, kit_is, kit_ls, kit_ts, kit_ds, kit_bb, V.ty.injEq, and_assoc, rIxU, rLenH, rLenU, rLenS, rInt1, rSetL, rEq, rNe, rCat, L2.start, List.map, List.length, List.length_cons, List.length_nil, List.replicate, List.getElem?_cons_zero, List.getElem?_cons_succ, List.set_cons_zero, List.set_cons_succ, List.set_nil, List.cons_append, List.nil_append, List.append_nil, Option.some.injEq, V.int.injEq, V.ref.injEq, V.str.injEq, V.bl.injEq, HO.lst.injEq, HO.tup.injEq, exists_eq_left', exists_and_left, exists_eq_left, List.cons.injEq, and_true, true_and, and_false, false_and, and_self, reduceCtorEq, exists_false, or_false, false_or, exists_const, at0, at1, at2, at3, at4, at5, ix51, ix52, ix54, upd_same, Nat.reduceAdd, Nat.reduceSub, Nat.zero_add, Int.reduceToNat, Int.reduceLE, Int.reduceLT, decide_eq_true_eq, Bool.not_eq_true, if_true, if_false, Bool.false_eq_true, ite_true, ite_false, Bool.not_true, Bool.not_false, decide_true, decide_false, tFor_eq, tLc_eq, iList, iTup, iRng1, iRng2, iStr, tSl, tPart, tNoPart, rSlL, cxOf_K, wipe, ex_ty2, kit_LTl, kit_LTt, kit_LTd, kit_LTs, kit_LTn, kit_LTb, kit_LTi, tM1, rIxS, exists_eq', lt1p, tDNewK, rSlS, rEqNil]
      have hlb21 := x21.at hlb16
      have heb21 := x21.at heb16
      refine ⟨va, dxa, _, .type "list", rfl, va1, by show tyO (H21 lb) = _; rw [hlb21]; rfl, T.w_Version_list, ?_⟩
      refine ⟨va, ls, ps2, nn, .ref lb, rfl, hva21, ll8, ow.pl, ow.asc, .inr ⟨lb, _, rfl, hlb21, false, rfl, ?_⟩⟩
      rw [if_neg (by decide), eN2]
      clear eN2 N2
      refine seq_gen fun N2 eN2 => ?_
      try simp only [tSeq, tNext, tRet, tRetN, tAsg, gName, gSub, tDrop, tIfS, tOp, tUn, tCB, tCons, tNil, tC, tVar, rI, rI0, rU, tAnd, tOr, tNot, tAndV, tOrV, tNotV, tIf, tTest, tB, tCall, tChain, tLst, tTup, tYes, rIxH, rIsB, rIsBT, rMulS, kd_non, kd_bl, kd_int, kd_str, kd_ref, kdO_lst, kdO_tup, kdO_dK, nq_n, nq_b, nq_i, nq_s, nq_l, nq_t, nq_d, ne_eq, not_false_eq_true, kit_ss, kit_ns, kit_bs, kit_is, kit_ls, kit_ts, kit_ds, kit_bb, V.ty.injEq, and_assoc, rIxU, rLenH, rLenU, rLenS, rInt1, rSetL, rEq, rNe, rCat, L2.start, List.map, List.length, List.length_cons, List.length_nil, List.replicate, List.getElem?_cons_zero, List.getElem?_cons_succ, List.set_cons_zero, List.set_cons_succ, List.set_nil, List.cons_append, List.nil_append, List.append_nil, Option.some.injEq, V.int.injEq, V.ref.injEq, V.str.injEq, V.bl.injEq, HO.lst.injEq, HO.tup.injEq, exists_eq_left', exists_and_left, exists_eq_left, List.cons.injEq, and_true, true_and, and_false, false_and, and_self, reduceCtorEq, exists_false, or_false, false_or, exists_const, at0, at1, at2, at3, at4, at5, ix51, ix52, ix54, upd_same, Nat.reduceAdd, Nat.reduceSub, Nat.zero_add, Int.reduceToNat, Int.reduceLE, Int.reduceLT, decide_eq_true_eq, Bool.not_eq_true, if_true, if_false, Bool.false_eq_true, ite_true, ite_false, Bool.not_true, Bool.not_false, decide_true, decide_false, tFor_eq, tLc_eq, iList, iTup, iRng1, iRng2, iStr, tSl, tPart, tNoPart, rSlL, cxOf_K, wipe, ex_ty2, kit_LTl, kit_LTt, kit_LTd, kit_LTs, kit_LTn, kit_LTb, kit_LTi, tM1, rIxS, exists_eq', lt1p, tDNewK, rSlS, rEqNil, tMakeK_eq, hlb21, List.length_map]
      refine ⟨by decide, ?_⟩
      intro xb n_xb; generalize g_H22 : upd H21 xb _ = H22; obtain ⟨s_H22, h_xb⟩ := new_facts n_xb g_H22; clear g_H22
      have hlb22 := s_H22 _ _ hlb21
      refine ⟨_, hlb22, _, SqL.of h_xb, ?_⟩
      have ec : (12 - ((ls.map V.str).length : Int)) = ((12 - ls.length : Nat) : Int) := by rw [List.length_map]; omega
      rw [ec, cut_to]
      intro xc n_xc; generalize g_H23 : upd H22 xc _ = H23; obtain ⟨s_H23, h_xc⟩ := new_facts n_xc g_H23; clear g_H23
      have hlb23 := s_H23 _ _ hlb22
      have xl : (List.take (12 - ls.length) [V.str (Str.ofString "x")]).length ≤ 12 - ls.length := by rw [List.length_take]; omega
      refine ⟨_, hlb23, size1000 (by rw [List.length_map]; omega), ?_⟩
      intro ld n_ld; generalize g_H24 : upd H23 ld _ = H24; obtain ⟨s_H24, h_ld⟩ := new_facts n_ld g_H24; clear g_H24
      have el : ls.map V.str ++ List.take (12 - ls.length) [V.str (Str.ofString "x")] = (ls ++ List.take (12 - ls.length) [Str.ofString "x"]).map V.str := by
        rw [List.map_append, List.map_take]
        rfl
      rw [el] at h_ld
      have l2 : (ls ++ List.take (12 - ls.length) [Str.ofString "x"]).length ≤ 12 := by rw [List.length_append, List.length_take]; omega
      have wl2 : ∀ z ∈ ls ++ List.take (12 - ls.length) [Str.ofString "x"], isLineV (.str z) = true ∧ z.length ≤ 40 ∧ ∀ c ∈ z.cps.toList, c < 128 := fun z hz => by
        rcases List.mem_append.mp hz with h | h
        · exact wl z h
        · have e := List.mem_singleton.mp (List.mem_of_mem_take h)
          subst e
          exact ⟨by decide +kernel, by decide +kernel, (sm_lit (by decide +kernel)).2⟩
      generalize ls ++ List.take (12 - ls.length) [Str.ofString "x"] = ls2 at h_ld l2 wl2
      have s2124 := (s_H22.trans s_H23).trans s_H24
      have heb24 := s2124 _ _ heb21
      have tx := text_ok (H := H24) (lb := ld) l2 wl2 (seq_lst h_ld) (.lst h_ld)
      have po : ParOk K H24 (.ref eb) qs := ow.par (fun k => Iff.rfl) qn9 (seq_lst heb24) (.lst heb24)
      have smz : Sm (Str.ofString "zz") := sm_lit (by decide +kernel)
      refine ver_yes (ls := ls2) (qs := qs) (n := Str.ofString "zz") (fun x => rfl) tx.1 (seq_lst h_ld) tx.2 po smz (by decide +kernel) fun H25 vc ps3 s25 nvc hvc ppo3 ppm3 => ?_
      have hlb25 := s25 _ _ (s2124 _ _ hlb21)
      have tx2 := text_ok (H := H25) (lb := lb) ll8 wl (seq_lst hlb25) (.lst hlb25)
      have po2 : ParOk K H25 (.ref A.u0_VersionInit) [] := .inr ⟨_, rfl, ⟨T.ut0_VersionInit, T.uk0_VersionInit⟩, rfl⟩
      refine ver_yes (ls := ls) (qs := []) (n := nn) (fun x => rfl) tx2.1 (seq_lst hlb25) tx2.2 po2 ns' nm fun H26 vd ps4 s26 nvd hvd ppo4 ppm4 => ?_
      have e4 : ps4 = [] := by
        cases ps4 with
        | nil => rfl
        | cons z r => exact absurd ((ppm4 z).mp List.mem_cons_self) List.not_mem_nil
      subst e4
      refine ⟨by decide, ?_⟩
      intro ob n_ob; generalize g_H27 : upd H26 ob _ = H27; obtain ⟨s_H27, h_ob⟩ := new_facts n_ob g_H27; clear g_H27
      have s2127 := ((s2124.trans s25).trans s26).trans s_H27
      have x27 := x21.same s2127
      have hva27 := hva21.same s2127
      have hvc27 := hvc.same (s26.trans s_H27)
      have hvd27 := hvd.same s_H27
      have hlb27 := x27.at hlb16
      have heb27 := x27.at heb16
      have pl3 : ps3.length ≤ 3 := Nat.le_trans (len_sub (nodup_lt ppo3) fun x hx => (ppm3 x).mp hx) ql9
      clear tx po tx2 po2 hlb25 heb24 hlb23 hlb22
      rw [eN2]
      clear eN2 N2
      refine seq_gen fun N2 eN2 => ?_
      try simp only [tSeq, tNext, tRet, tRetN, tAsg, gName, gSub, tDrop, tIfS, tOp, tUn, tCB, tCons, tNil, tC, tVar, rI, rI0, rU, tAnd, tOr, tNot, tAndV, tOrV, tNotV, tIf, tTest, tB, tCall, tChain, tLst, tTup, tYes, rIxH, rIsB, rIsBT, rMulS, kd_non, kd_bl, kd_int, kd_str, kd_ref, kdO_lst, kdO_tup, kdO_dK, nq_n, nq_b, nq_i, nq_s, nq_l, nq_t, nq_d, ne_eq, not_false_eq_true, kit_ss, kit_ns, kit_bs, kit_is, kit_ls, kit_ts, kit_ds, kit_bb, V.ty.injEq, and_assoc, rIxU, rLenH, rLenU, rLenS, rInt1, rSetL, rEq, rNe, rCat, L2.start, List.map, List.length, List.length_cons, List.length_nil, List.replicate, List.getElem?_cons_zero, List.getElem?_cons_succ, List.set_cons_zero, List.set_cons_succ, List.set_nil, List.cons_append, List.nil_append, List.append_nil, Option.some.injEq, V.int.injEq, V.ref.injEq, V.str.injEq, V.bl.injEq, HO.lst.injEq, HO.tup.injEq, exists_eq_left', exists_and_left, exists_eq_left, List.cons.injEq, and_true, true_and, and_false, false_and, and_self, reduceCtorEq, exists_false, or_false, false_or, exists_const, at0, at1, at2, at3, at4, at5, ix51, ix52, ix54, upd_same, Nat.reduceAdd, Nat.reduceSub, Nat.zero_add, Int.reduceToNat, Int.reduceLE, Int.reduceLT, decide_eq_true_eq, Bool.not_eq_true, if_true, if_false, Bool.false_eq_true, ite_true, ite_false, Bool.not_true, Bool.not_false, decide_true, decide_false, tFor_eq, tLc_eq, iList, iTup, iRng1, iRng2, iStr, tSl, tPart, tNoPart, rSlL, cxOf_K, wipe, ex_ty2, kit_LTl, kit_LTt, kit_LTd, kit_LTs, kit_LTn, kit_LTb, kit_LTi, tM1, rIxS, exists_eq', lt1p, tDNewK, rSlS, rEqNil, h_ob]
      obtain ⟨dxa7, la7, pa7, va71, va72, va73⟩ := hva27.ex
      obtain ⟨dxc, lc, pc, vc1, vc2, vc3⟩ := hvc27.ex
      obtain ⟨dxd, ld', pd, vd1, vd2, vd3⟩ := hvd27.ex
      have asc2 : ∀ z ∈ ls2, ∀ c ∈ z.cps.toList, c < 128 := fun z hz => (wl2 z hz).2.2
      refine ⟨va, dxa7, _, rfl, va71, .inr ⟨vc, dxc, _, rfl, vc1⟩, ?_⟩
      refine ⟨va, ls, ps2, nn, .ref vc, rfl, hva27, ll8, ow.pl, ow.asc, .inl ⟨vc, ls2, ps3, _, rfl, hvc27, l2, pl3, asc2, ?_⟩⟩
      rw [decide_eq_false nz, Bool.and_false]
      refine ⟨false, rfl, ?_⟩
      rw [if_neg (by decide)]
      refine ⟨_, h_ob, _, at1, ?_⟩
      refine ⟨va, dxa7, _, rfl, va71, .inr ⟨vd, dxd, _, rfl, vd1⟩, ?_⟩
      refine ⟨va, ls, ps2, nn, .ref vd, rfl, hva27, ll8, ow.pl, ow.asc, .inl ⟨vd, ls, [], nn, rfl, hvd27, ll8, by decide, ow.asc, ?_⟩⟩
      rw [decide_eq_true rfl, decide_eq_true rfl, Bool.true_and, Bool.and_true]
      refine ⟨by decide, ?_⟩
      intro zb n_zb; generalize g_H28 : upd H27 zb _ = H28; obtain ⟨s_H28, h_zb⟩ := new_facts n_zb g_H28; clear g_H28
      refine ⟨_, s_H28 _ _ heb27, scal_bl, ?_⟩
      have eq0 : decide (ps2 = []) = (qs.map V.int).isEmpty := by
        cases qs with
        | nil =>
          cases ps2 with
          | nil => rfl
          | cons z r => exact absurd ((ppm z).mp List.mem_cons_self) List.not_mem_nil
        | cons z r =>
          cases ps2 with
          | nil => exact absurd ((ppm z).mpr List.mem_cons_self) List.not_mem_nil
          | cons _ _ => rfl
      rw [eq0, if_neg (by simp)]
      rw [eN2]
      clear eN2 N2
      have x28 := x27.same s_H28
      have hlb28 := x28.at hlb16
      refine seq_gen fun N2 eN2 => ?_
      try simp only [tSeq, tNext, tRet, tRetN, tAsg, gName, gSub, tDrop, tIfS, tOp, tUn, tCB, tCons, tNil, tC, tVar, rI, rI0, rU, tAnd, tOr, tNot, tAndV, tOrV, tNotV, tIf, tTest, tB, tCall, tChain, tLst, tTup, tYes, rIxH, rIsB, rIsBT, rMulS, kd_non, kd_bl, kd_int, kd_str, kd_ref, kdO_lst, kdO_tup, kdO_dK, nq_n, nq_b, nq_i, nq_s, nq_l, nq_t, nq_d, ne_eq, not_false_eq_true, kit_ss, kit_ns, kit_bs, kit_is, kit_ls, kit_ts, kit_ds, kit_bb, V.ty.injEq, and_assoc, rIxU, rLenH, rLenU, rLenS, rInt1, rSetL, rEq, rNe, rCat, L2.start, List.map, List.length, List.length_cons, List.length_nil, List.replicate, List.getElem?_cons_zero, List.getElem?_cons_succ, List.set_cons_zero, List.set_cons_succ, List.set_nil, List.cons_append, List.nil_append, List.append_nil, Option.some.injEq, V.int.injEq, V.ref.injEq, V.str.injEq, V.bl.injEq, HO.lst.injEq, HO.tup.injEq, exists_eq_left', exists_and_left, exists_eq_left, List.cons.injEq, and_true, true_and, and_false, false_and, and_self, reduceCtorEq, exists_false, or_false, false_or, exists_const, at0, at1, at2, at3, at4, at5, ix51, ix52, ix54, upd_same, Nat.reduceAdd, Nat.reduceSub, Nat.zero_add, Int.reduceToNat, Int.reduceLE, Int.reduceLT, decide_eq_true_eq, Bool.not_eq_true, if_true, if_false, Bool.false_eq_true, ite_true, ite_false, Bool.not_true, Bool.not_false, decide_true, decide_false, tFor_eq, tLc_eq, iList, iTup, iRng1, iRng2, iStr, tSl, tPart, tNoPart, rSlL, cxOf_K, wipe, ex_ty2, kit_LTl, kit_LTt, kit_LTd, kit_LTs, kit_LTn, kit_LTb, kit_LTi, tM1, rIxS, exists_eq', lt1p, tDNewK, rSlS, rEqNil, tMakeK_eq]
      have tx2 := text_ok (H := H28) (lb := lb) ll8 wl (seq_lst hlb28) (.lst hlb28)
      have po2 : ParOk K H28 (.ref A.u0_VersionInit) [] := .inr ⟨_, rfl, ⟨T.ut0_VersionInit, T.uk0_VersionInit⟩, rfl⟩
      refine ver_yes (ls := ls) (qs := []) (n := Str.ofString "anon") (fun x => rfl) tx2.1 (seq_lst hlb28) tx2.2 po2 (sm_lit (by decide +kernel)) (by decide +kernel) fun H29 ve ps5 s29 nve hve ppo5 ppm5 => ?_
      refine ⟨by decide, ?_⟩
      intro yb n_yb; generalize g_H30 : upd H29 yb _ = H30; obtain ⟨s_H30, h_yb⟩ := new_facts n_yb g_H30; clear g_H30
      have x30 := x28.same (s29.trans s_H30)
      have ow5 : Own9 ls [] ps5 := ⟨ll8, lw8, by decide, List.nodup_nil, (fun _ h => by cases h), ppo5, ppm5⟩
      refine ⟨ve, lb, yb, _, ls, [], ps5, rfl, hve.same s_H30, x30.at hlb16, h_yb, ow5, x30.tb, fun H31 x31 => ⟨true, rfl, ?_⟩⟩
      rw [if_neg (by decide), eN2]
      clear eN2 N2
      have x31' := x30.trans x31
      try simp only [tSeq, tNext, tRet, tRetN, tAsg, gName, gSub, tDrop, tIfS, tOp, tUn, tCB, tCons, tNil, tC, tVar, rI, rI0, rU, tAnd, tOr, tNot, tAndV, tOrV, tNotV, tIf, tTest, tB, tCall, tChain, tLst, tTup, tYes, rIxH, rIsB, rIsBT, rMulS, kd_non, kd_bl, kd_int, kd_str, kd_ref, kdO_lst, kdO_tup, kdO_dK, nq_n, nq_b, nq_i, nq_s, nq_l, nq_t, nq_d, ne_eq, not_false_eq_true, kit_ss, kit_ns, kit_bs, kit_is, kit_ls, kit_ts, kit_ds, kit_bb, V.ty.injEq, and_assoc, rIxU, rLenH, rLenU, rLenS, rInt1, rSetL, rEq, rNe, rCat, L2.start, List.map, List.length, List.length_cons, List.length_nil, List.replicate, List.getElem?_cons_zero, List.getElem?_cons_succ, List.set_cons_zero, List.set_cons_succ, List.set_nil, List.cons_append, List.nil_append, List.append_nil, Option.some.injEq, V.int.injEq, V.ref.injEq, V.str.injEq, V.bl.injEq, HO.lst.injEq, HO.tup.injEq, exists_eq_left', exists_and_left, exists_eq_left, List.cons.injEq, and_true, true_and, and_false, false_and, and_self, reduceCtorEq, exists_false, or_false, false_or, exists_const, at0, at1, at2, at3, at4, at5, ix51, ix52, ix54, upd_same, Nat.reduceAdd, Nat.reduceSub, Nat.zero_add, Int.reduceToNat, Int.reduceLE, Int.reduceLT, decide_eq_true_eq, Bool.not_eq_true, if_true, if_false, Bool.false_eq_true, ite_true, ite_false, Bool.not_true, Bool.not_false, decide_true, decide_false, tFor_eq, tLc_eq, iList, iTup, iRng1, iRng2, iStr, tSl, tPart, tNoPart, rSlL, cxOf_K, wipe, ex_ty2, kit_LTl, kit_LTt, kit_LTd, kit_LTs, kit_LTn, kit_LTb, kit_LTi, tM1, rIxS, exists_eq', lt1p, tDNewK, rSlS, rEqNil]
      refine ⟨lb, eb, nn, ls, qs, ps2, rfl, x31'.at hlb16, x31'.at heb16, ow, x31'.tb, fun H32 x32 => ⟨true, rfl, ?_⟩⟩
      rw [if_neg (by decide)]
      have gg : Same (fun _ => none) G9 := fun b o h => by cases h
      exact ⟨_, _, _, _, _, _, _, _, _, rfl, (w16.sx (x31'.trans x32)).forget gg, by omega⟩
    · obtain ⟨v2, v3, v4, v5, v6, v7, v8, v9, c, rfl, w7, hc⟩ := q
      dsimp only
      rw [eN]
      try simp only [tSeq, tNext, tRet, tRetN, tAsg, gName, gSub, tDrop, tIfS, tOp, tUn, tCB, tCons, tNil, tC, tVar, rI, rI0, rU, tAnd, tOr, tNot, tAndV, tOrV, tNotV, tIf, tTest, tB, tCall, tChain, tLst, tTup, tYes, rIxH, rIsB, rIsBT, rMulS, kd_non, kd_bl, kd_int, kd_str, kd_ref, kdO_lst, kdO_tup, kdO_dK, nq_n, nq_b, nq_i, nq_s, nq_l, nq_t, nq_d, ne_eq, not_false_eq_true, kit_ss, kit_ns, kit_bs, kit_is, kit_ls, kit_ts, kit_ds, kit_bb, V.ty.injEq, and_assoc, rIxU, rLenH, rLenU, rLenS, rInt1, rSetL, rEq, rNe, rCat, L2.start, List.map, List.length, List.length_cons, List.length_nil, List.replicate, List.getElem?_cons_zero, List.getElem?_cons_succ, List.set_cons_zero, List.set_cons_succ, List.set_nil, List.cons_append, List.nil_append, List.append_nil, Option.some.injEq, V.int.injEq, V.ref.injEq, V.str.injEq, V.bl.injEq, HO.lst.injEq, HO.tup.injEq, exists_eq_left', exists_and_left, exists_eq_left, List.cons.injEq, and_true, true_and, and_false, false_and, and_self, reduceCtorEq, exists_false, or_false, false_or, exists_const, at0, at1, at2, at3, at4, at5, ix51, ix52, ix54, upd_same, Nat.reduceAdd, Nat.reduceSub, Nat.zero_add, Int.reduceToNat, Int.reduceLE, Int.reduceLT, decide_eq_true_eq, Bool.not_eq_true, if_true, if_false, Bool.false_eq_true, ite_true, ite_false, Bool.not_true, Bool.not_false, decide_true, decide_false, tFor_eq, tLc_eq, iList, iTup, iRng1, iRng2, iStr, tSl, tPart, tNoPart, rSlL, cxOf_K, wipe, ex_ty2, kit_LTl, kit_LTt, kit_LTd, kit_LTs, kit_LTn, kit_LTb, kit_LTi, tM1, rIxS, exists_eq', lt1p, tDNewK, rSlS, rEqNil]
      exact k _
end


section
variable {w : World} {K : PySem.W.Frag} {mg : Str → Option Value} {base : Heap} {A : Adr}
theorem ok_law (T : Txt K mg A) (TB : ∀ p ∈ tabsOf A, LamX.TabB base mg p.1 p.2) : FnG PW w K mg base CX0 10 A.a_Law A.d_Law ["_law_script"] (spLaw K (tabsOf A)) :=
  have sg := ok_is_sign T
  have ii := ok_isintT T
  have dr := ok_draw T (ok_mixed T)
  have kd := ok_kind T
  have iv := ok_ver T (ok_is_text T (ok_is_line T sg)) (ok_par T (ok_iscntT T ii)) (ok_isnameT T)
  ok_law_of T (ok_pool T) dr (ok_ownl T dr) (ok_pars T dr) iv (ok_veq T)
    (ok_right9 T (TB _ List.mem_cons_self) kd (ok_exact T) (ok_lines T) (ok_parents T) (ok_author T) (ok_vlen T) (ok_vin T) (ok_vget T ii))
    (ok_ref9 T (TB _ (List.mem_cons_of_mem _ List.mem_cons_self)) kd iv)
end
theorem all_mk {w : World} {K : PySem.W.Frag} {h : Heap} {mg : Str → Option Value} {fa : Addr} {C_Version : Addr} {C_LineError : Addr} {C_InvalidNumber : Addr} {C_InvalidText : Addr} {C_InvalidName : Addr} {C_InvalidParents : Addr} {C_InvalidVersion : Addr} {C_InvalidHistory : Addr} {C_InvalidLayout : Addr} {C_InvalidPrices : Addr} {C_InvalidTelling : Addr} {C_InvalidDeeds : Addr} {C_InvalidLine : Addr} {C_InvalidRanges : Addr} {C_InvalidCommand : Addr} {C_ParseError : Addr} {C_TooMany : Addr} {C_NothingToUndo : Addr} {i_InvalidNumber : Addr} {nm_InvalidNumber : Str} {qn_InvalidNumber : Str} {xN_InvalidNumber : Addr} {bs_InvalidNumber : List Value} {sn_InvalidNumber : List Str} {sb_InvalidNumber : List Value} {ab_InvalidNumber : Bool} {col_InvalidNumber : Option Bool} {dd_InvalidNumber : Option Addr} {m0_InvalidNumber : Option Value} {m1_InvalidNumber : Option Value} {m2_InvalidNumber : Option Value} {m3_InvalidNumber : Option Value} {m5_InvalidNumber : Option Value} {oc_InvalidNumber : Value} {od_InvalidNumber : Option Addr} {doc_InvalidNumber : Value} {pm_InvalidNumber : Value} {an_InvalidNumber : Option Addr} {cda_InvalidNumber : Addr} {cc_InvalidNumber : Addr} {ct_InvalidNumber : Value} {osl_InvalidNumber : Array (Option Value)} {qual_InvalidNumber : Str} {ms_InvalidNumber : Str} {j_InvalidNumber : Nat} {p1_InvalidNumber : Pos} {p2_InvalidNumber : Pos} {q0_InvalidNumber : Pos} {q1_InvalidNumber : Pos} {q2_InvalidNumber : Pos} {q3_InvalidNumber : Pos} {q4_InvalidNumber : Pos} {q5_InvalidNumber : Pos} {q6_InvalidNumber : Pos} {q7_InvalidNumber : Pos} {q8_InvalidNumber : Pos} {q9_InvalidNumber : Pos} {ccl_InvalidNumber : Value} {cdd_InvalidNumber : Option Addr} {vs_InvalidNumber : Array Value} {ccs_InvalidNumber : Array (Option Value)} {cl_InvalidNumber : Value} {cld_InvalidNumber : Option Addr} {csl_InvalidNumber : Array (Option Value)} {file_InvalidNumber : Str} {tf_InvalidNumber : Tok} {i_InvalidText : Addr} {nm_InvalidText : Str} {qn_InvalidText : Str} {xN_InvalidText : Addr} {bs_InvalidText : List Value} {sn_InvalidText : List Str} {sb_InvalidText : List Value} {ab_InvalidText : Bool} {col_InvalidText : Option Bool} {dd_InvalidText : Option Addr} {m0_InvalidText : Option Value} {m1_InvalidText : Option Value} {m2_InvalidText : Option Value} {m3_InvalidText : Option Value} {m5_InvalidText : Option Value} {oc_InvalidText : Value} {od_InvalidText : Option Addr} {doc_InvalidText : Value} {pm_InvalidText : Value} {an_InvalidText : Option Addr} {cda_InvalidText : Addr} {cc_InvalidText : Addr} {ct_InvalidText : Value} {osl_InvalidText : Array (Option Value)} {qual_InvalidText : Str} {ms_InvalidText : Str} {j_InvalidText : Nat} {p1_InvalidText : Pos} {p2_InvalidText : Pos} {q0_InvalidText : Pos} {q1_InvalidText : Pos} {q2_InvalidText : Pos} {q3_InvalidText : Pos} {q4_InvalidText : Pos} {q5_InvalidText : Pos} {q6_InvalidText : Pos} {q7_InvalidText : Pos} {q8_InvalidText : Pos} {q9_InvalidText : Pos} {ccl_InvalidText : Value} {cdd_InvalidText : Option Addr} {vs_InvalidText : Array Value} {ccs_InvalidText : Array (Option Value)} {cl_InvalidText : Value} {cld_InvalidText : Option Addr} {csl_InvalidText : Array (Option Value)} {file_InvalidText : Str} {tf_InvalidText : Tok} {i_InvalidName : Addr} {nm_InvalidName : Str} {qn_InvalidName : Str} {xN_InvalidName : Addr} {bs_InvalidName : List Value} {sn_InvalidName : List Str} {sb_InvalidName : List Value} {ab_InvalidName : Bool} {col_InvalidName : Option Bool} {dd_InvalidName : Option Addr} {m0_InvalidName : Option Value} {m1_InvalidName : Option Value} {m2_InvalidName : Option Value} {m3_InvalidName : Option Value} {m5_InvalidName : Option Value} {oc_InvalidName : Value} {od_InvalidName : Option Addr} {doc_InvalidName : Value} {pm_InvalidName : Value} {an_InvalidName : Option Addr} {cda_InvalidName : Addr} {cc_InvalidName : Addr} {ct_InvalidName : Value} {osl_InvalidName : Array (Option Value)} {qual_InvalidName : Str} {ms_InvalidName : Str} {j_InvalidName : Nat} {p1_InvalidName : Pos} {p2_InvalidName : Pos} {q0_InvalidName : Pos} {q1_InvalidName : Pos} {q2_InvalidName : Pos} {q3_InvalidName : Pos} {q4_InvalidName : Pos} {q5_InvalidName : Pos} {q6_InvalidName : Pos} {q7_InvalidName : Pos} {q8_InvalidName : Pos} {q9_InvalidName : Pos} {ccl_InvalidName : Value} {cdd_InvalidName : Option Addr} {vs_InvalidName : Array Value} {ccs_InvalidName : Array (Option Value)} {cl_InvalidName : Value} {cld_InvalidName : Option Addr} {csl_InvalidName : Array (Option Value)} {file_InvalidName : Str} {tf_InvalidName : Tok} {i_InvalidParents : Addr} {nm_InvalidParents : Str} {qn_InvalidParents : Str} {xN_InvalidParents : Addr} {bs_InvalidParents : List Value} {sn_InvalidParents : List Str} {sb_InvalidParents : List Value} {ab_InvalidParents : Bool} {col_InvalidParents : Option Bool} {dd_InvalidParents : Option Addr} {m0_InvalidParents : Option Value} {m1_InvalidParents : Option Value} {m2_InvalidParents : Option Value} {m3_InvalidParents : Option Value} {m5_InvalidParents : Option Value} {oc_InvalidParents : Value} {od_InvalidParents : Option Addr} {doc_InvalidParents : Value} {pm_InvalidParents : Value} {an_InvalidParents : Option Addr} {cda_InvalidParents : Addr} {cc_InvalidParents : Addr} {ct_InvalidParents : Value} {osl_InvalidParents : Array (Option Value)} {qual_InvalidParents : Str} {ms_InvalidParents : Str} {j_InvalidParents : Nat} {p1_InvalidParents : Pos} {p2_InvalidParents : Pos} {q0_InvalidParents : Pos} {q1_InvalidParents : Pos} {q2_InvalidParents : Pos} {q3_InvalidParents : Pos} {q4_InvalidParents : Pos} {q5_InvalidParents : Pos} {q6_InvalidParents : Pos} {q7_InvalidParents : Pos} {q8_InvalidParents : Pos} {q9_InvalidParents : Pos} {ccl_InvalidParents : Value} {cdd_InvalidParents : Option Addr} {vs_InvalidParents : Array Value} {ccs_InvalidParents : Array (Option Value)} {cl_InvalidParents : Value} {cld_InvalidParents : Option Addr} {csl_InvalidParents : Array (Option Value)} {file_InvalidParents : Str} {tf_InvalidParents : Tok} {f1 : Addr} {od1 an1 : Option Addr} {sl1 : Array (Option Value)} {oc1 dc1 pm1 ct1 : Value} {cd1 : Value} {kV1 : Value} {f2 : Addr} {od2 an2 : Option Addr} {sl2 : Array (Option Value)} {oc2 dc2 pm2 ct2 : Value} {cd2 : Value} {kV2 : Value} {f3 : Addr} {od3 an3 : Option Addr} {sl3 : Array (Option Value)} {oc3 dc3 pm3 ct3 : Value} {cd3 : Value} {kV3 : Value} {f4 : Addr} {od4 an4 : Option Addr} {sl4 : Array (Option Value)} {oc4 dc4 pm4 ct4 : Value} {cd4 : Value} {kV4 : Value} {f5 : Addr} {od5 an5 : Option Addr} {sl5 : Array (Option Value)} {oc5 dc5 pm5 ct5 : Value} {cd5 : Value} {kV5 : Value} {f6 : Addr} {od6 an6 : Option Addr} {sl6 : Array (Option Value)} {oc6 dc6 pm6 ct6 : Value} {cd6 : Value} {kV6 : Value} {f7 : Addr} {od7 an7 : Option Addr} {sl7 : Array (Option Value)} {oc7 dc7 pm7 ct7 : Value} {cd7 : Value} {kV7 : Value} {f8 : Addr} {od8 an8 : Option Addr} {sl8 : Array (Option Value)} {oc8 dc8 pm8 ct8 : Value} {cd8 : Value} {D8 : Addr} {kt8_1 : Tok} {u8_0 : Addr} {ud8_0 : Option Addr} {un8_0 : Nat} {us8_0 : Array (Option Value)} {f9 : Addr} {od9 an9 : Option Addr} {sl9 : Array (Option Value)} {oc9 dc9 pm9 ct9 : Value} {cd9 : Value} {kV9 : Value} {p9 : Addr} {rs9 : List Value} {f10 : Addr} {od10 an10 : Option Addr} {sl10 : Array (Option Value)} {oc10 dc10 pm10 ct10 : Value} {cd10 : Value} {kV10 : Value} {p10 : Addr} {rs10 : List Value} {f11 : Addr} {od11 an11 : Option Addr} {sl11 : Array (Option Value)} {oc11 dc11 pm11 ct11 : Value} {cd11 : Value} {kV11 : Value} {p11 : Addr} {rs11 : List Value} {f12 : Addr} {od12 an12 : Option Addr} {sl12 : Array (Option Value)} {oc12 dc12 pm12 ct12 : Value} {cd12 : Value} {kV12 : Value} {f13 : Addr} {od13 an13 : Option Addr} {sl13 : Array (Option Value)} {oc13 dc13 pm13 ct13 : Value} {cd13 : Value} {kV13 : Value} {f14 : Addr} {od14 an14 : Option Addr} {sl14 : Array (Option Value)} {oc14 dc14 pm14 ct14 : Value} {cd14 : Value} {kV14 : Value} {f15 : Addr} {od15 an15 : Option Addr} {sl15 : Array (Option Value)} {oc15 dc15 pm15 ct15 : Value} {cd15 : Value} {kV15 : Value} {f16 : Addr} {od16 an16 : Option Addr} {sl16 : Array (Option Value)} {oc16 dc16 pm16 ct16 : Value} {cd16 : Value} {kV16 : Value} {f17 : Addr} {od17 an17 : Option Addr} {sl17 : Array (Option Value)} {oc17 dc17 pm17 ct17 : Value} {cd17 : Value} {kV17 : Value} {f18 : Addr} {od18 an18 : Option Addr} {sl18 : Array (Option Value)} {oc18 dc18 pm18 ct18 : Value} {cd18 : Value} {kV18 : Value} {f19 : Addr} {od19 an19 : Option Addr} {sl19 : Array (Option Value)} {oc19 dc19 pm19 ct19 : Value} {cd19 : Value} {kV19 : Value} {f20 : Addr} {od20 an20 : Option Addr} {sl20 : Array (Option Value)} {oc20 dc20 pm20 ct20 : Value} {cd20 : Value} {kV20 : Value} {f21 : Addr} {od21 an21 : Option Addr} {sl21 : Array (Option Value)} {oc21 dc21 pm21 ct21 : Value} {cd21 : Value} {kV21 : Value} {f22 : Addr} {od22 an22 : Option Addr} {sl22 : Array (Option Value)} {oc22 dc22 pm22 ct22 : Value} {cd22 : Value} {kV22 : Value} {f23 : Addr} {od23 an23 : Option Addr} {sl23 : Array (Option Value)} {oc23 dc23 pm23 ct23 : Value} {cd23 : Value} {kV23 : Value} {f24 : Addr} {od24 an24 : Option Addr} {sl24 : Array (Option Value)} {oc24 dc24 pm24 ct24 : Value} {kV24 : Value} {cA24 tP24 : Addr} {cl24 : Value} {cld24 : Option Addr} {cvs24 : Array Value} {csl24 : Array (Option Value)} {f25 : Addr} {od25 an25 : Option Addr} {sl25 : Array (Option Value)} {oc25 dc25 pm25 ct25 : Value} {kV25 : Value} {cA25 tP25 : Addr} {cl25 : Value} {cld25 : Option Addr} {cvs25 : Array Value} {csl25 : Array (Option Value)} {f26 : Addr} {od26 an26 : Option Addr} {sl26 : Array (Option Value)} {oc26 dc26 pm26 ct26 : Value} {cd26 : Value} {kV26 : Value} {t2 : Tok} {t6 : Tok} {t13 : Tok} {t14 : Tok} {t15 : Tok} (X : K.In h) (G : h.Ns mainGlobals mg) (hfa : mg "law" = some (.ref fa))
    (aCVersion : PySem.W.nsIn K mainGlobals "Version" = some (some (.ref C_Version)))
    (pgVersion : PySem.W.plainGet K C_Version Str.empty = true)
    (hdVersion : PySem.W.hasDictIn K C_Version = true)
    (poVersion : PySem.W.plainOver K C_Version = true)
    (saVersion : PySem.W.findIn K (.ref C_Version) "__setattr__" = some (some (.builtin "object.__setattr__")))
    (haVersion : PySem.W.findIn K (.ref C_Version) "__class__" = some (some (.builtin "object.__class__")))
    (hnVersion : PySem.W.specialIn K (.builtin "object.__class__") "__get__" = some (some (.builtin "getset_descriptor.__get__")))
    (tkVersion : PySem.W.takesIn K (.builtin "object.__class__") = some true)
    (hmVersion : PySem.W.mroIn K C_Version (.type "object") = some true)
    (mkVersion : PySem.W.makesIn K C_Version = true)
    (kcVersion : PySem.W.keepIn K (.ref C_Version) = true)
    (nVersionkept_lines : PySem.W.findIn K (.ref C_Version) "kept_lines" = some none)
    (nVersionkept_parents : PySem.W.findIn K (.ref C_Version) "kept_parents" = some none)
    (nVersionkept_author : PySem.W.findIn K (.ref C_Version) "kept_author" = some none)
    (icVersion : PySem.W.isClsIn K C_Version = true)
    (tyVersion : PySem.W.typeIn K (.ref C_Version) = some (.type "type"))
    (qoVersionint : PySem.W.subIn K (.ref C_Version) (.type "int") = some false)
    (qoVersionbool : PySem.W.subIn K (.ref C_Version) (.type "bool") = some false)
    (qiVersionint : PySem.W.subIn K (.type "int") (.ref C_Version) = some false)
    (qiVersionbool : PySem.W.subIn K (.type "bool") (.ref C_Version) = some false)
    (qiVersionstr : PySem.W.subIn K (.type "str") (.ref C_Version) = some false)
    (qiVersionlist : PySem.W.subIn K (.type "list") (.ref C_Version) = some false)
    (qiVersiontuple : PySem.W.subIn K (.type "tuple") (.ref C_Version) = some false)
    (qiVersiondict : PySem.W.subIn K (.type "dict") (.ref C_Version) = some false)
    (qiVersionNoneType : PySem.W.subIn K (.type "NoneType") (.ref C_Version) = some false)
    (rdVersion : PySem.W.readsIn K C_Version (.type "type") = true)
    (rgVersion : PySem.W.specialIn K (.ref C_Version) "__getattribute__" = some (some (.builtin "type.__getattribute__")))
    (wVersionint : PySem.W.notFirst K C_Version (.type "int") = true)
    (wVersionbool : PySem.W.notFirst K C_Version (.type "bool") = true)
    (wVersionstr : PySem.W.notFirst K C_Version (.type "str") = true)
    (wVersionlist : PySem.W.notFirst K C_Version (.type "list") = true)
    (wVersiontuple : PySem.W.notFirst K C_Version (.type "tuple") = true)
    (wVersiondict : PySem.W.notFirst K C_Version (.type "dict") = true)
    (wVersionNoneType : PySem.W.notFirst K C_Version (.type "NoneType") = true)
    (sfVersion : PySem.W.selfFirst K C_Version = true)
    (nfVersion : PySem.W.notFirst K C_Version (.type "int") = true)
    (siVersion : PySem.W.subIn K (.ref C_Version) (.type "int") = some false)
    (isVersion : PySem.W.subIn K (.type "int") (.ref C_Version) = some false)
    (aCLineError : PySem.W.nsIn K mainGlobals "LineError" = some (some (.ref C_LineError)))
    (ebLineError : PySem.W.subIn K (.ref C_LineError) (.type "BaseException") = some true)
    (edLineError : PySem.W.hasDictIn K C_LineError = true)
    (etLineError : PySem.W.typeIn K (.ref C_LineError) = some (.type "type"))
    (eiLineError : PySem.W.isClsIn K C_LineError = true)
    (aCInvalidNumber : PySem.W.nsIn K mainGlobals "InvalidNumber" = some (some (.ref C_InvalidNumber)))
    (ebInvalidNumber : PySem.W.subIn K (.ref C_InvalidNumber) (.type "BaseException") = some true)
    (edInvalidNumber : PySem.W.hasDictIn K C_InvalidNumber = true)
    (etInvalidNumber : PySem.W.typeIn K (.ref C_InvalidNumber) = some (.type "type"))
    (eiInvalidNumber : PySem.W.isClsIn K C_InvalidNumber = true)
    (aCInvalidText : PySem.W.nsIn K mainGlobals "InvalidText" = some (some (.ref C_InvalidText)))
    (ebInvalidText : PySem.W.subIn K (.ref C_InvalidText) (.type "BaseException") = some true)
    (edInvalidText : PySem.W.hasDictIn K C_InvalidText = true)
    (etInvalidText : PySem.W.typeIn K (.ref C_InvalidText) = some (.type "type"))
    (eiInvalidText : PySem.W.isClsIn K C_InvalidText = true)
    (aCInvalidName : PySem.W.nsIn K mainGlobals "InvalidName" = some (some (.ref C_InvalidName)))
    (ebInvalidName : PySem.W.subIn K (.ref C_InvalidName) (.type "BaseException") = some true)
    (edInvalidName : PySem.W.hasDictIn K C_InvalidName = true)
    (etInvalidName : PySem.W.typeIn K (.ref C_InvalidName) = some (.type "type"))
    (eiInvalidName : PySem.W.isClsIn K C_InvalidName = true)
    (aCInvalidParents : PySem.W.nsIn K mainGlobals "InvalidParents" = some (some (.ref C_InvalidParents)))
    (ebInvalidParents : PySem.W.subIn K (.ref C_InvalidParents) (.type "BaseException") = some true)
    (edInvalidParents : PySem.W.hasDictIn K C_InvalidParents = true)
    (etInvalidParents : PySem.W.typeIn K (.ref C_InvalidParents) = some (.type "type"))
    (eiInvalidParents : PySem.W.isClsIn K C_InvalidParents = true)
    (aCInvalidVersion : PySem.W.nsIn K mainGlobals "InvalidVersion" = some (some (.ref C_InvalidVersion)))
    (ebInvalidVersion : PySem.W.subIn K (.ref C_InvalidVersion) (.type "BaseException") = some true)
    (edInvalidVersion : PySem.W.hasDictIn K C_InvalidVersion = true)
    (etInvalidVersion : PySem.W.typeIn K (.ref C_InvalidVersion) = some (.type "type"))
    (eiInvalidVersion : PySem.W.isClsIn K C_InvalidVersion = true)
    (aCInvalidHistory : PySem.W.nsIn K mainGlobals "InvalidHistory" = some (some (.ref C_InvalidHistory)))
    (ebInvalidHistory : PySem.W.subIn K (.ref C_InvalidHistory) (.type "BaseException") = some true)
    (edInvalidHistory : PySem.W.hasDictIn K C_InvalidHistory = true)
    (etInvalidHistory : PySem.W.typeIn K (.ref C_InvalidHistory) = some (.type "type"))
    (eiInvalidHistory : PySem.W.isClsIn K C_InvalidHistory = true)
    (aCInvalidLayout : PySem.W.nsIn K mainGlobals "InvalidLayout" = some (some (.ref C_InvalidLayout)))
    (ebInvalidLayout : PySem.W.subIn K (.ref C_InvalidLayout) (.type "BaseException") = some true)
    (edInvalidLayout : PySem.W.hasDictIn K C_InvalidLayout = true)
    (etInvalidLayout : PySem.W.typeIn K (.ref C_InvalidLayout) = some (.type "type"))
    (eiInvalidLayout : PySem.W.isClsIn K C_InvalidLayout = true)
    (aCInvalidPrices : PySem.W.nsIn K mainGlobals "InvalidPrices" = some (some (.ref C_InvalidPrices)))
    (ebInvalidPrices : PySem.W.subIn K (.ref C_InvalidPrices) (.type "BaseException") = some true)
    (edInvalidPrices : PySem.W.hasDictIn K C_InvalidPrices = true)
    (etInvalidPrices : PySem.W.typeIn K (.ref C_InvalidPrices) = some (.type "type"))
    (eiInvalidPrices : PySem.W.isClsIn K C_InvalidPrices = true)
    (aCInvalidTelling : PySem.W.nsIn K mainGlobals "InvalidTelling" = some (some (.ref C_InvalidTelling)))
    (ebInvalidTelling : PySem.W.subIn K (.ref C_InvalidTelling) (.type "BaseException") = some true)
    (edInvalidTelling : PySem.W.hasDictIn K C_InvalidTelling = true)
    (etInvalidTelling : PySem.W.typeIn K (.ref C_InvalidTelling) = some (.type "type"))
    (eiInvalidTelling : PySem.W.isClsIn K C_InvalidTelling = true)
    (aCInvalidDeeds : PySem.W.nsIn K mainGlobals "InvalidDeeds" = some (some (.ref C_InvalidDeeds)))
    (ebInvalidDeeds : PySem.W.subIn K (.ref C_InvalidDeeds) (.type "BaseException") = some true)
    (edInvalidDeeds : PySem.W.hasDictIn K C_InvalidDeeds = true)
    (etInvalidDeeds : PySem.W.typeIn K (.ref C_InvalidDeeds) = some (.type "type"))
    (eiInvalidDeeds : PySem.W.isClsIn K C_InvalidDeeds = true)
    (aCInvalidLine : PySem.W.nsIn K mainGlobals "InvalidLine" = some (some (.ref C_InvalidLine)))
    (ebInvalidLine : PySem.W.subIn K (.ref C_InvalidLine) (.type "BaseException") = some true)
    (edInvalidLine : PySem.W.hasDictIn K C_InvalidLine = true)
    (etInvalidLine : PySem.W.typeIn K (.ref C_InvalidLine) = some (.type "type"))
    (eiInvalidLine : PySem.W.isClsIn K C_InvalidLine = true)
    (aCInvalidRanges : PySem.W.nsIn K mainGlobals "InvalidRanges" = some (some (.ref C_InvalidRanges)))
    (ebInvalidRanges : PySem.W.subIn K (.ref C_InvalidRanges) (.type "BaseException") = some true)
    (edInvalidRanges : PySem.W.hasDictIn K C_InvalidRanges = true)
    (etInvalidRanges : PySem.W.typeIn K (.ref C_InvalidRanges) = some (.type "type"))
    (eiInvalidRanges : PySem.W.isClsIn K C_InvalidRanges = true)
    (aCInvalidCommand : PySem.W.nsIn K mainGlobals "InvalidCommand" = some (some (.ref C_InvalidCommand)))
    (ebInvalidCommand : PySem.W.subIn K (.ref C_InvalidCommand) (.type "BaseException") = some true)
    (edInvalidCommand : PySem.W.hasDictIn K C_InvalidCommand = true)
    (etInvalidCommand : PySem.W.typeIn K (.ref C_InvalidCommand) = some (.type "type"))
    (eiInvalidCommand : PySem.W.isClsIn K C_InvalidCommand = true)
    (aCParseError : PySem.W.nsIn K mainGlobals "ParseError" = some (some (.ref C_ParseError)))
    (ebParseError : PySem.W.subIn K (.ref C_ParseError) (.type "BaseException") = some true)
    (edParseError : PySem.W.hasDictIn K C_ParseError = true)
    (etParseError : PySem.W.typeIn K (.ref C_ParseError) = some (.type "type"))
    (eiParseError : PySem.W.isClsIn K C_ParseError = true)
    (aCTooMany : PySem.W.nsIn K mainGlobals "TooMany" = some (some (.ref C_TooMany)))
    (ebTooMany : PySem.W.subIn K (.ref C_TooMany) (.type "BaseException") = some true)
    (edTooMany : PySem.W.hasDictIn K C_TooMany = true)
    (etTooMany : PySem.W.typeIn K (.ref C_TooMany) = some (.type "type"))
    (eiTooMany : PySem.W.isClsIn K C_TooMany = true)
    (aCNothingToUndo : PySem.W.nsIn K mainGlobals "NothingToUndo" = some (some (.ref C_NothingToUndo)))
    (ebNothingToUndo : PySem.W.subIn K (.ref C_NothingToUndo) (.type "BaseException") = some true)
    (edNothingToUndo : PySem.W.hasDictIn K C_NothingToUndo = true)
    (etNothingToUndo : PySem.W.typeIn K (.ref C_NothingToUndo) = some (.type "type"))
    (eiNothingToUndo : PySem.W.isClsIn K C_NothingToUndo = true)
    (eSu : PySem.W.nsIn K mainGlobals "super" = some none)
    (eOp : PySem.W.nsIn K cStatics "thirdparty.any" = some none)
    (eHn : PySem.W.specialIn K (.builtin "object.__class__") "__get__" = some (some (.builtin "getset_descriptor.__get__")))
    (eTk : PySem.W.takesIn K (.builtin "object.__class__") = some true)
    (xlInvalidNumber : K.lookup C_InvalidNumber = some (excClassObj nm_InvalidNumber qn_InvalidNumber C_InvalidNumber xN_InvalidNumber bs_InvalidNumber [.ref C_LineError, .type "ValueError", .type "Exception", .type "BaseException", .type "object"] true sn_InvalidNumber sb_InvalidNumber ab_InvalidNumber col_InvalidNumber dd_InvalidNumber m0_InvalidNumber m1_InvalidNumber m2_InvalidNumber m3_InvalidNumber m5_InvalidNumber "ValueError.__new__"))
    (xsaInvalidNumber : PySem.W.findIn K (.ref C_InvalidNumber) "__setattr__" = some (some (.builtin "object.__setattr__")))
    (xgaInvalidNumber : PySem.W.findIn K (.ref C_InvalidNumber) "__getattribute__" = some (some (.builtin "BaseException.__getattribute__")))
    (xggInvalidNumber : PySem.W.findIn K (.ref C_InvalidNumber) "__getattr__" = some none)
    (xnoInvalidNumber : PySem.W.findIn K (.ref C_InvalidNumber) "value" = some none)
    (xicInvalidNumber : PySem.W.findIn K (.ref C_InvalidNumber) "__init__" = some (some (.ref i_InvalidNumber)))
    (xtiInvalidNumber : PySem.W.typeIn K (.ref i_InvalidNumber) = some (.type "function"))
    (xkcInvalidNumber : PySem.W.keepIn K (.ref C_InvalidNumber) = true)
    (xveInvalidNumber : PySem.W.subIn K (.ref C_InvalidNumber) (.type "ValueError") = some true)
    (xmcInvalidNumber : PySem.W.mroIn K C_InvalidNumber (.ref C_InvalidNumber) = some true)
    (xmoInvalidNumber : PySem.W.mroIn K C_InvalidNumber (.type "object") = some true)
    (xhcInvalidNumber : PySem.W.findIn K (.ref C_InvalidNumber) "__class__" = some (some (.builtin "object.__class__")))
    (xliInvalidNumber : K.lookup i_InvalidNumber = some ⟨oc_InvalidNumber, od_InvalidNumber, .func (PySem.W.ksFn "__init__" qual_InvalidNumber (xA p1_InvalidNumber p2_InvalidNumber) (xB ms_InvalidNumber j_InvalidNumber q0_InvalidNumber q1_InvalidNumber q2_InvalidNumber q3_InvalidNumber q4_InvalidNumber q5_InvalidNumber q6_InvalidNumber q7_InvalidNumber q8_InvalidNumber q9_InvalidNumber) xS .none .none doc_InvalidNumber pm_InvalidNumber an_InvalidNumber (.ref cda_InvalidNumber) ct_InvalidNumber cc_InvalidNumber), osl_InvalidNumber⟩)
    (xcdInvalidNumber : PySem.W.codeIn K (.ref cda_InvalidNumber) qual_InvalidNumber = true)
    (xlcInvalidNumber : K.lookup cda_InvalidNumber = some ⟨ccl_InvalidNumber, cdd_InvalidNumber, .fields vs_InvalidNumber, ccs_InvalidNumber⟩)
    (xlxInvalidNumber : K.lookup cc_InvalidNumber = some ⟨cl_InvalidNumber, cld_InvalidNumber, .cell (some (.ref C_InvalidNumber)), csl_InvalidNumber⟩)
    (ksIInvalidNumber : PySem.W.ks_superIn K C_InvalidNumber C_InvalidNumber "__init__" = some (some (.builtin "ValueError.__init__")))
    (rfVInvalidNumber : vs_InvalidNumber[2]? = some (.str file_InvalidNumber tf_InvalidNumber))
    (rfFInvalidNumber : ((PW.main.file : Str) == file_InvalidNumber) = true)
    (rfLInvalidNumber : (q2_InvalidNumber.endLine == q4_InvalidNumber.line) = true)
    (rfTInvalidNumber : (PW.main.scope.names.lookup ("super" : Str)).isSome = false)
    (xsInvalidNumberLineError : PySem.W.subIn K (.ref C_InvalidNumber) (.ref C_LineError) = some true)
    (xsInvalidNumberInvalidText : PySem.W.subIn K (.ref C_InvalidNumber) (.ref C_InvalidText) = some false)
    (xsInvalidNumberInvalidName : PySem.W.subIn K (.ref C_InvalidNumber) (.ref C_InvalidName) = some false)
    (xsInvalidNumberInvalidParents : PySem.W.subIn K (.ref C_InvalidNumber) (.ref C_InvalidParents) = some false)
    (xsInvalidNumberInvalidVersion : PySem.W.subIn K (.ref C_InvalidNumber) (.ref C_InvalidVersion) = some false)
    (xsInvalidNumberInvalidHistory : PySem.W.subIn K (.ref C_InvalidNumber) (.ref C_InvalidHistory) = some false)
    (xsInvalidNumberInvalidLayout : PySem.W.subIn K (.ref C_InvalidNumber) (.ref C_InvalidLayout) = some false)
    (xsInvalidNumberInvalidPrices : PySem.W.subIn K (.ref C_InvalidNumber) (.ref C_InvalidPrices) = some false)
    (xsInvalidNumberInvalidTelling : PySem.W.subIn K (.ref C_InvalidNumber) (.ref C_InvalidTelling) = some false)
    (xsInvalidNumberInvalidDeeds : PySem.W.subIn K (.ref C_InvalidNumber) (.ref C_InvalidDeeds) = some false)
    (xsInvalidNumberInvalidLine : PySem.W.subIn K (.ref C_InvalidNumber) (.ref C_InvalidLine) = some false)
    (xsInvalidNumberInvalidRanges : PySem.W.subIn K (.ref C_InvalidNumber) (.ref C_InvalidRanges) = some false)
    (xsInvalidNumberInvalidCommand : PySem.W.subIn K (.ref C_InvalidNumber) (.ref C_InvalidCommand) = some false)
    (xsInvalidNumberParseError : PySem.W.subIn K (.ref C_InvalidNumber) (.ref C_ParseError) = some false)
    (xsInvalidNumberTooMany : PySem.W.subIn K (.ref C_InvalidNumber) (.ref C_TooMany) = some false)
    (xsInvalidNumberNothingToUndo : PySem.W.subIn K (.ref C_InvalidNumber) (.ref C_NothingToUndo) = some false)
    (xlInvalidText : K.lookup C_InvalidText = some (excClassObj nm_InvalidText qn_InvalidText C_InvalidText xN_InvalidText bs_InvalidText [.ref C_LineError, .type "ValueError", .type "Exception", .type "BaseException", .type "object"] true sn_InvalidText sb_InvalidText ab_InvalidText col_InvalidText dd_InvalidText m0_InvalidText m1_InvalidText m2_InvalidText m3_InvalidText m5_InvalidText "ValueError.__new__"))
    (xsaInvalidText : PySem.W.findIn K (.ref C_InvalidText) "__setattr__" = some (some (.builtin "object.__setattr__")))
    (xgaInvalidText : PySem.W.findIn K (.ref C_InvalidText) "__getattribute__" = some (some (.builtin "BaseException.__getattribute__")))
    (xggInvalidText : PySem.W.findIn K (.ref C_InvalidText) "__getattr__" = some none)
    (xnoInvalidText : PySem.W.findIn K (.ref C_InvalidText) "value" = some none)
    (xicInvalidText : PySem.W.findIn K (.ref C_InvalidText) "__init__" = some (some (.ref i_InvalidText)))
    (xtiInvalidText : PySem.W.typeIn K (.ref i_InvalidText) = some (.type "function"))
    (xkcInvalidText : PySem.W.keepIn K (.ref C_InvalidText) = true)
    (xveInvalidText : PySem.W.subIn K (.ref C_InvalidText) (.type "ValueError") = some true)
    (xmcInvalidText : PySem.W.mroIn K C_InvalidText (.ref C_InvalidText) = some true)
    (xmoInvalidText : PySem.W.mroIn K C_InvalidText (.type "object") = some true)
    (xhcInvalidText : PySem.W.findIn K (.ref C_InvalidText) "__class__" = some (some (.builtin "object.__class__")))
    (xliInvalidText : K.lookup i_InvalidText = some ⟨oc_InvalidText, od_InvalidText, .func (PySem.W.ksFn "__init__" qual_InvalidText (xA p1_InvalidText p2_InvalidText) (xB ms_InvalidText j_InvalidText q0_InvalidText q1_InvalidText q2_InvalidText q3_InvalidText q4_InvalidText q5_InvalidText q6_InvalidText q7_InvalidText q8_InvalidText q9_InvalidText) xS .none .none doc_InvalidText pm_InvalidText an_InvalidText (.ref cda_InvalidText) ct_InvalidText cc_InvalidText), osl_InvalidText⟩)
    (xcdInvalidText : PySem.W.codeIn K (.ref cda_InvalidText) qual_InvalidText = true)
    (xlcInvalidText : K.lookup cda_InvalidText = some ⟨ccl_InvalidText, cdd_InvalidText, .fields vs_InvalidText, ccs_InvalidText⟩)
    (xlxInvalidText : K.lookup cc_InvalidText = some ⟨cl_InvalidText, cld_InvalidText, .cell (some (.ref C_InvalidText)), csl_InvalidText⟩)
    (ksIInvalidText : PySem.W.ks_superIn K C_InvalidText C_InvalidText "__init__" = some (some (.builtin "ValueError.__init__")))
    (rfVInvalidText : vs_InvalidText[2]? = some (.str file_InvalidText tf_InvalidText))
    (rfFInvalidText : ((PW.main.file : Str) == file_InvalidText) = true)
    (rfLInvalidText : (q2_InvalidText.endLine == q4_InvalidText.line) = true)
    (rfTInvalidText : (PW.main.scope.names.lookup ("super" : Str)).isSome = false)
    (xsInvalidTextLineError : PySem.W.subIn K (.ref C_InvalidText) (.ref C_LineError) = some true)
    (xsInvalidTextInvalidNumber : PySem.W.subIn K (.ref C_InvalidText) (.ref C_InvalidNumber) = some false)
    (xsInvalidTextInvalidName : PySem.W.subIn K (.ref C_InvalidText) (.ref C_InvalidName) = some false)
    (xsInvalidTextInvalidParents : PySem.W.subIn K (.ref C_InvalidText) (.ref C_InvalidParents) = some false)
    (xsInvalidTextInvalidVersion : PySem.W.subIn K (.ref C_InvalidText) (.ref C_InvalidVersion) = some false)
    (xsInvalidTextInvalidHistory : PySem.W.subIn K (.ref C_InvalidText) (.ref C_InvalidHistory) = some false)
    (xsInvalidTextInvalidLayout : PySem.W.subIn K (.ref C_InvalidText) (.ref C_InvalidLayout) = some false)
    (xsInvalidTextInvalidPrices : PySem.W.subIn K (.ref C_InvalidText) (.ref C_InvalidPrices) = some false)
    (xsInvalidTextInvalidTelling : PySem.W.subIn K (.ref C_InvalidText) (.ref C_InvalidTelling) = some false)
    (xsInvalidTextInvalidDeeds : PySem.W.subIn K (.ref C_InvalidText) (.ref C_InvalidDeeds) = some false)
    (xsInvalidTextInvalidLine : PySem.W.subIn K (.ref C_InvalidText) (.ref C_InvalidLine) = some false)
    (xsInvalidTextInvalidRanges : PySem.W.subIn K (.ref C_InvalidText) (.ref C_InvalidRanges) = some false)
    (xsInvalidTextInvalidCommand : PySem.W.subIn K (.ref C_InvalidText) (.ref C_InvalidCommand) = some false)
    (xsInvalidTextParseError : PySem.W.subIn K (.ref C_InvalidText) (.ref C_ParseError) = some false)
    (xsInvalidTextTooMany : PySem.W.subIn K (.ref C_InvalidText) (.ref C_TooMany) = some false)
    (xsInvalidTextNothingToUndo : PySem.W.subIn K (.ref C_InvalidText) (.ref C_NothingToUndo) = some false)
    (xlInvalidName : K.lookup C_InvalidName = some (excClassObj nm_InvalidName qn_InvalidName C_InvalidName xN_InvalidName bs_InvalidName [.ref C_LineError, .type "ValueError", .type "Exception", .type "BaseException", .type "object"] true sn_InvalidName sb_InvalidName ab_InvalidName col_InvalidName dd_InvalidName m0_InvalidName m1_InvalidName m2_InvalidName m3_InvalidName m5_InvalidName "ValueError.__new__"))
    (xsaInvalidName : PySem.W.findIn K (.ref C_InvalidName) "__setattr__" = some (some (.builtin "object.__setattr__")))
    (xgaInvalidName : PySem.W.findIn K (.ref C_InvalidName) "__getattribute__" = some (some (.builtin "BaseException.__getattribute__")))
    (xggInvalidName : PySem.W.findIn K (.ref C_InvalidName) "__getattr__" = some none)
    (xnoInvalidName : PySem.W.findIn K (.ref C_InvalidName) "value" = some none)
    (xicInvalidName : PySem.W.findIn K (.ref C_InvalidName) "__init__" = some (some (.ref i_InvalidName)))
    (xtiInvalidName : PySem.W.typeIn K (.ref i_InvalidName) = some (.type "function"))
    (xkcInvalidName : PySem.W.keepIn K (.ref C_InvalidName) = true)
    (xveInvalidName : PySem.W.subIn K (.ref C_InvalidName) (.type "ValueError") = some true)
    (xmcInvalidName : PySem.W.mroIn K C_InvalidName (.ref C_InvalidName) = some true)
    (xmoInvalidName : PySem.W.mroIn K C_InvalidName (.type "object") = some true)
    (xhcInvalidName : PySem.W.findIn K (.ref C_InvalidName) "__class__" = some (some (.builtin "object.__class__")))
    (xliInvalidName : K.lookup i_InvalidName = some ⟨oc_InvalidName, od_InvalidName, .func (PySem.W.ksFn "__init__" qual_InvalidName (xA p1_InvalidName p2_InvalidName) (xB ms_InvalidName j_InvalidName q0_InvalidName q1_InvalidName q2_InvalidName q3_InvalidName q4_InvalidName q5_InvalidName q6_InvalidName q7_InvalidName q8_InvalidName q9_InvalidName) xS .none .none doc_InvalidName pm_InvalidName an_InvalidName (.ref cda_InvalidName) ct_InvalidName cc_InvalidName), osl_InvalidName⟩)
    (xcdInvalidName : PySem.W.codeIn K (.ref cda_InvalidName) qual_InvalidName = true)
    (xlcInvalidName : K.lookup cda_InvalidName = some ⟨ccl_InvalidName, cdd_InvalidName, .fields vs_InvalidName, ccs_InvalidName⟩)
    (xlxInvalidName : K.lookup cc_InvalidName = some ⟨cl_InvalidName, cld_InvalidName, .cell (some (.ref C_InvalidName)), csl_InvalidName⟩)
    (ksIInvalidName : PySem.W.ks_superIn K C_InvalidName C_InvalidName "__init__" = some (some (.builtin "ValueError.__init__")))
    (rfVInvalidName : vs_InvalidName[2]? = some (.str file_InvalidName tf_InvalidName))
    (rfFInvalidName : ((PW.main.file : Str) == file_InvalidName) = true)
    (rfLInvalidName : (q2_InvalidName.endLine == q4_InvalidName.line) = true)
    (rfTInvalidName : (PW.main.scope.names.lookup ("super" : Str)).isSome = false)
    (xsInvalidNameLineError : PySem.W.subIn K (.ref C_InvalidName) (.ref C_LineError) = some true)
    (xsInvalidNameInvalidNumber : PySem.W.subIn K (.ref C_InvalidName) (.ref C_InvalidNumber) = some false)
    (xsInvalidNameInvalidText : PySem.W.subIn K (.ref C_InvalidName) (.ref C_InvalidText) = some false)
    (xsInvalidNameInvalidParents : PySem.W.subIn K (.ref C_InvalidName) (.ref C_InvalidParents) = some false)
    (xsInvalidNameInvalidVersion : PySem.W.subIn K (.ref C_InvalidName) (.ref C_InvalidVersion) = some false)
    (xsInvalidNameInvalidHistory : PySem.W.subIn K (.ref C_InvalidName) (.ref C_InvalidHistory) = some false)
    (xsInvalidNameInvalidLayout : PySem.W.subIn K (.ref C_InvalidName) (.ref C_InvalidLayout) = some false)
    (xsInvalidNameInvalidPrices : PySem.W.subIn K (.ref C_InvalidName) (.ref C_InvalidPrices) = some false)
    (xsInvalidNameInvalidTelling : PySem.W.subIn K (.ref C_InvalidName) (.ref C_InvalidTelling) = some false)
    (xsInvalidNameInvalidDeeds : PySem.W.subIn K (.ref C_InvalidName) (.ref C_InvalidDeeds) = some false)
    (xsInvalidNameInvalidLine : PySem.W.subIn K (.ref C_InvalidName) (.ref C_InvalidLine) = some false)
    (xsInvalidNameInvalidRanges : PySem.W.subIn K (.ref C_InvalidName) (.ref C_InvalidRanges) = some false)
    (xsInvalidNameInvalidCommand : PySem.W.subIn K (.ref C_InvalidName) (.ref C_InvalidCommand) = some false)
    (xsInvalidNameParseError : PySem.W.subIn K (.ref C_InvalidName) (.ref C_ParseError) = some false)
    (xsInvalidNameTooMany : PySem.W.subIn K (.ref C_InvalidName) (.ref C_TooMany) = some false)
    (xsInvalidNameNothingToUndo : PySem.W.subIn K (.ref C_InvalidName) (.ref C_NothingToUndo) = some false)
    (xlInvalidParents : K.lookup C_InvalidParents = some (excClassObj nm_InvalidParents qn_InvalidParents C_InvalidParents xN_InvalidParents bs_InvalidParents [.ref C_LineError, .type "ValueError", .type "Exception", .type "BaseException", .type "object"] true sn_InvalidParents sb_InvalidParents ab_InvalidParents col_InvalidParents dd_InvalidParents m0_InvalidParents m1_InvalidParents m2_InvalidParents m3_InvalidParents m5_InvalidParents "ValueError.__new__"))
    (xsaInvalidParents : PySem.W.findIn K (.ref C_InvalidParents) "__setattr__" = some (some (.builtin "object.__setattr__")))
    (xgaInvalidParents : PySem.W.findIn K (.ref C_InvalidParents) "__getattribute__" = some (some (.builtin "BaseException.__getattribute__")))
    (xggInvalidParents : PySem.W.findIn K (.ref C_InvalidParents) "__getattr__" = some none)
    (xnoInvalidParents : PySem.W.findIn K (.ref C_InvalidParents) "value" = some none)
    (xicInvalidParents : PySem.W.findIn K (.ref C_InvalidParents) "__init__" = some (some (.ref i_InvalidParents)))
    (xtiInvalidParents : PySem.W.typeIn K (.ref i_InvalidParents) = some (.type "function"))
    (xkcInvalidParents : PySem.W.keepIn K (.ref C_InvalidParents) = true)
    (xveInvalidParents : PySem.W.subIn K (.ref C_InvalidParents) (.type "ValueError") = some true)
    (xmcInvalidParents : PySem.W.mroIn K C_InvalidParents (.ref C_InvalidParents) = some true)
    (xmoInvalidParents : PySem.W.mroIn K C_InvalidParents (.type "object") = some true)
    (xhcInvalidParents : PySem.W.findIn K (.ref C_InvalidParents) "__class__" = some (some (.builtin "object.__class__")))
    (xliInvalidParents : K.lookup i_InvalidParents = some ⟨oc_InvalidParents, od_InvalidParents, .func (PySem.W.ksFn "__init__" qual_InvalidParents (xA p1_InvalidParents p2_InvalidParents) (xB ms_InvalidParents j_InvalidParents q0_InvalidParents q1_InvalidParents q2_InvalidParents q3_InvalidParents q4_InvalidParents q5_InvalidParents q6_InvalidParents q7_InvalidParents q8_InvalidParents q9_InvalidParents) xS .none .none doc_InvalidParents pm_InvalidParents an_InvalidParents (.ref cda_InvalidParents) ct_InvalidParents cc_InvalidParents), osl_InvalidParents⟩)
    (xcdInvalidParents : PySem.W.codeIn K (.ref cda_InvalidParents) qual_InvalidParents = true)
    (xlcInvalidParents : K.lookup cda_InvalidParents = some ⟨ccl_InvalidParents, cdd_InvalidParents, .fields vs_InvalidParents, ccs_InvalidParents⟩)
    (xlxInvalidParents : K.lookup cc_InvalidParents = some ⟨cl_InvalidParents, cld_InvalidParents, .cell (some (.ref C_InvalidParents)), csl_InvalidParents⟩)
    (ksIInvalidParents : PySem.W.ks_superIn K C_InvalidParents C_InvalidParents "__init__" = some (some (.builtin "ValueError.__init__")))
    (rfVInvalidParents : vs_InvalidParents[2]? = some (.str file_InvalidParents tf_InvalidParents))
    (rfFInvalidParents : ((PW.main.file : Str) == file_InvalidParents) = true)
    (rfLInvalidParents : (q2_InvalidParents.endLine == q4_InvalidParents.line) = true)
    (rfTInvalidParents : (PW.main.scope.names.lookup ("super" : Str)).isSome = false)
    (xsInvalidParentsLineError : PySem.W.subIn K (.ref C_InvalidParents) (.ref C_LineError) = some true)
    (xsInvalidParentsInvalidNumber : PySem.W.subIn K (.ref C_InvalidParents) (.ref C_InvalidNumber) = some false)
    (xsInvalidParentsInvalidText : PySem.W.subIn K (.ref C_InvalidParents) (.ref C_InvalidText) = some false)
    (xsInvalidParentsInvalidName : PySem.W.subIn K (.ref C_InvalidParents) (.ref C_InvalidName) = some false)
    (xsInvalidParentsInvalidVersion : PySem.W.subIn K (.ref C_InvalidParents) (.ref C_InvalidVersion) = some false)
    (xsInvalidParentsInvalidHistory : PySem.W.subIn K (.ref C_InvalidParents) (.ref C_InvalidHistory) = some false)
    (xsInvalidParentsInvalidLayout : PySem.W.subIn K (.ref C_InvalidParents) (.ref C_InvalidLayout) = some false)
    (xsInvalidParentsInvalidPrices : PySem.W.subIn K (.ref C_InvalidParents) (.ref C_InvalidPrices) = some false)
    (xsInvalidParentsInvalidTelling : PySem.W.subIn K (.ref C_InvalidParents) (.ref C_InvalidTelling) = some false)
    (xsInvalidParentsInvalidDeeds : PySem.W.subIn K (.ref C_InvalidParents) (.ref C_InvalidDeeds) = some false)
    (xsInvalidParentsInvalidLine : PySem.W.subIn K (.ref C_InvalidParents) (.ref C_InvalidLine) = some false)
    (xsInvalidParentsInvalidRanges : PySem.W.subIn K (.ref C_InvalidParents) (.ref C_InvalidRanges) = some false)
    (xsInvalidParentsInvalidCommand : PySem.W.subIn K (.ref C_InvalidParents) (.ref C_InvalidCommand) = some false)
    (xsInvalidParentsParseError : PySem.W.subIn K (.ref C_InvalidParents) (.ref C_ParseError) = some false)
    (xsInvalidParentsTooMany : PySem.W.subIn K (.ref C_InvalidParents) (.ref C_TooMany) = some false)
    (xsInvalidParentsNothingToUndo : PySem.W.subIn K (.ref C_InvalidParents) (.ref C_NothingToUndo) = some false)
    (a1 : PySem.W.nsIn K mainGlobals "is_sign" = some (some (.ref f1)))
    (l1 : K.lookup f1 = some ⟨oc1, od1, .func (PySem.W.fnOf "is_sign" "is_sign" (defArgs sIsSign) (defBody sIsSign) (defScope sIsSign) .none kV1 dc1 pm1 an1 cd1 ct1), sl1⟩)
    (c1 : PySem.W.codeIn K cd1 "is_sign" = true)
    (k1 : PySem.W.keepIn K (.ref f1) = true)
    (a2 : PySem.W.nsIn K mainGlobals "is_line" = some (some (.ref f2)))
    (l2 : K.lookup f2 = some ⟨oc2, od2, .func (PySem.W.fnOf "is_line" "is_line" (defArgs sIsLine) (defBody sIsLine) (defScope sIsLine) .none kV2 dc2 pm2 an2 cd2 ct2), sl2⟩)
    (c2 : PySem.W.codeIn K cd2 "is_line" = true)
    (k2 : PySem.W.keepIn K (.ref f2) = true)
    (a3 : PySem.W.nsIn K mainGlobals "is_text" = some (some (.ref f3)))
    (l3 : K.lookup f3 = some ⟨oc3, od3, .func (PySem.W.fnOf "is_text" "is_text" (defArgs sIsText) (defBody sIsText) (defScope sIsText) .none kV3 dc3 pm3 an3 cd3 ct3), sl3⟩)
    (c3 : PySem.W.codeIn K cd3 "is_text" = true)
    (k3 : PySem.W.keepIn K (.ref f3) = true)
    (a4 : PySem.W.nsIn K mainGlobals "is_integer" = some (some (.ref f4)))
    (l4 : K.lookup f4 = some ⟨oc4, od4, .func (PySem.W.fnOf "is_integer" "is_integer" (defArgs sIsInteger) (defBody sIsInteger) (defScope sIsInteger) .none kV4 dc4 pm4 an4 cd4 ct4), sl4⟩)
    (c4 : PySem.W.codeIn K cd4 "is_integer" = true)
    (k4 : PySem.W.keepIn K (.ref f4) = true)
    (a5 : PySem.W.nsIn K mainGlobals "is_count" = some (some (.ref f5)))
    (l5 : K.lookup f5 = some ⟨oc5, od5, .func (PySem.W.fnOf "is_count" "is_count" (defArgs sIsCount) (defBody sIsCount) (defScope sIsCount) .none kV5 dc5 pm5 an5 cd5 ct5), sl5⟩)
    (c5 : PySem.W.codeIn K cd5 "is_count" = true)
    (k5 : PySem.W.keepIn K (.ref f5) = true)
    (a6 : PySem.W.nsIn K mainGlobals "is_name" = some (some (.ref f6)))
    (l6 : K.lookup f6 = some ⟨oc6, od6, .func (PySem.W.fnOf "is_name" "is_name" (defArgs sIsName) (defBody sIsName) (defScope sIsName) .none kV6 dc6 pm6 an6 cd6 ct6), sl6⟩)
    (c6 : PySem.W.codeIn K cd6 "is_name" = true)
    (k6 : PySem.W.keepIn K (.ref f6) = true)
    (a7 : PySem.W.nsIn K mainGlobals "are_parents" = some (some (.ref f7)))
    (l7 : K.lookup f7 = some ⟨oc7, od7, .func (PySem.W.fnOf "are_parents" "are_parents" (defArgs sAreParents) (defBody sAreParents) (defScope sAreParents) .none kV7 dc7 pm7 an7 cd7 ct7), sl7⟩)
    (c7 : PySem.W.codeIn K cd7 "are_parents" = true)
    (k7 : PySem.W.keepIn K (.ref f7) = true)
    (a8 : PySem.W.findIn K (.ref C_Version) "__init__" = some (some (.ref f8)))
    (i8 : PySem.W.isFn K (.ref f8) = true)
    (l8 : K.lookup f8 = some ⟨oc8, od8, .func (PySem.W.fnOf "__init__" "Version.__init__" (defArgs sVersionInit) (defBody sVersionInit) (defScope sVersionInit) .none (.ref D8) dc8 pm8 an8 cd8 ct8), sl8⟩)
    (c8 : PySem.W.codeIn K cd8 "Version.__init__" = true)
    (k8 : PySem.W.keepIn K (.ref f8) = true)
    (kd8_0 : PySem.W.nsIn K D8 "parents" = some (some (.ref u8_0)))
    (ul8_0 : K.lookup u8_0 = some ⟨.type "tuple", ud8_0, .seq #[] un8_0, us8_0⟩)
    (kd8_1 : PySem.W.nsIn K D8 "author" = some (some (.str "anon" kt8_1)))
    (a9 : PySem.W.findIn K (.ref C_Version) "lines" = some (some (.ref p9)))
    (g9 : PySem.W.specialIn K (.ref p9) "__get__" = some (some (.builtin "property.__get__")))
    (tp9 : PySem.W.takesIn K (.ref p9) = some true)
    (r9 : PySem.W.recIn K p9 "property" = some (.ref f9 :: rs9))
    (l9 : K.lookup f9 = some ⟨oc9, od9, .func (PySem.W.fnOf "lines" "Version.lines" (defArgs sVersionLines) (defBody sVersionLines) (defScope sVersionLines) .none kV9 dc9 pm9 an9 cd9 ct9), sl9⟩)
    (c9 : PySem.W.codeIn K cd9 "Version.lines" = true)
    (k9 : PySem.W.keepIn K (.ref f9) = true)
    (a10 : PySem.W.findIn K (.ref C_Version) "parents" = some (some (.ref p10)))
    (g10 : PySem.W.specialIn K (.ref p10) "__get__" = some (some (.builtin "property.__get__")))
    (tp10 : PySem.W.takesIn K (.ref p10) = some true)
    (r10 : PySem.W.recIn K p10 "property" = some (.ref f10 :: rs10))
    (l10 : K.lookup f10 = some ⟨oc10, od10, .func (PySem.W.fnOf "parents" "Version.parents" (defArgs sVersionParents) (defBody sVersionParents) (defScope sVersionParents) .none kV10 dc10 pm10 an10 cd10 ct10), sl10⟩)
    (c10 : PySem.W.codeIn K cd10 "Version.parents" = true)
    (k10 : PySem.W.keepIn K (.ref f10) = true)
    (a11 : PySem.W.findIn K (.ref C_Version) "author" = some (some (.ref p11)))
    (g11 : PySem.W.specialIn K (.ref p11) "__get__" = some (some (.builtin "property.__get__")))
    (tp11 : PySem.W.takesIn K (.ref p11) = some true)
    (r11 : PySem.W.recIn K p11 "property" = some (.ref f11 :: rs11))
    (l11 : K.lookup f11 = some ⟨oc11, od11, .func (PySem.W.fnOf "author" "Version.author" (defArgs sVersionAuthor) (defBody sVersionAuthor) (defScope sVersionAuthor) .none kV11 dc11 pm11 an11 cd11 ct11), sl11⟩)
    (c11 : PySem.W.codeIn K cd11 "Version.author" = true)
    (k11 : PySem.W.keepIn K (.ref f11) = true)
    (a12 : PySem.W.findIn K (.ref C_Version) "__len__" = some (some (.ref f12)))
    (i12 : PySem.W.isFn K (.ref f12) = true)
    (l12 : K.lookup f12 = some ⟨oc12, od12, .func (PySem.W.fnOf "__len__" "Version.__len__" (defArgs sVersionLen) (defBody sVersionLen) (defScope sVersionLen) .none kV12 dc12 pm12 an12 cd12 ct12), sl12⟩)
    (c12 : PySem.W.codeIn K cd12 "Version.__len__" = true)
    (k12 : PySem.W.keepIn K (.ref f12) = true)
    (a13 : PySem.W.findIn K (.ref C_Version) "__contains__" = some (some (.ref f13)))
    (i13 : PySem.W.isFn K (.ref f13) = true)
    (l13 : K.lookup f13 = some ⟨oc13, od13, .func (PySem.W.fnOf "__contains__" "Version.__contains__" (defArgs sVersionContains) (defBody sVersionContains) (defScope sVersionContains) .none kV13 dc13 pm13 an13 cd13 ct13), sl13⟩)
    (c13 : PySem.W.codeIn K cd13 "Version.__contains__" = true)
    (k13 : PySem.W.keepIn K (.ref f13) = true)
    (a14 : PySem.W.findIn K (.ref C_Version) "__getitem__" = some (some (.ref f14)))
    (i14 : PySem.W.isFn K (.ref f14) = true)
    (l14 : K.lookup f14 = some ⟨oc14, od14, .func (PySem.W.fnOf "__getitem__" "Version.__getitem__" (defArgs sVersionGetitem) (defBody sVersionGetitem) (defScope sVersionGetitem) .none kV14 dc14 pm14 an14 cd14 ct14), sl14⟩)
    (c14 : PySem.W.codeIn K cd14 "Version.__getitem__" = true)
    (k14 : PySem.W.keepIn K (.ref f14) = true)
    (a15 : PySem.W.findIn K (.ref C_Version) "__eq__" = some (some (.ref f15)))
    (i15 : PySem.W.isFn K (.ref f15) = true)
    (l15 : K.lookup f15 = some ⟨oc15, od15, .func (PySem.W.fnOf "__eq__" "Version.__eq__" (defArgs sVersionEq) (defBody sVersionEq) (defScope sVersionEq) .none kV15 dc15 pm15 an15 cd15 ct15), sl15⟩)
    (c15 : PySem.W.codeIn K cd15 "Version.__eq__" = true)
    (k15 : PySem.W.keepIn K (.ref f15) = true)
    (ne15 : PySem.W.findIn K (.ref C_Version) "__ne__" = some (some (.builtin "object.__ne__")))
    (a16 : PySem.W.nsIn K mainGlobals "_law_pool" = some (some (.ref f16)))
    (l16 : K.lookup f16 = some ⟨oc16, od16, .func (PySem.W.fnOf "_law_pool" "_law_pool" (defArgs sLawPool) (defBody sLawPool) (defScope sLawPool) .none kV16 dc16 pm16 an16 cd16 ct16), sl16⟩)
    (c16 : PySem.W.codeIn K cd16 "_law_pool" = true)
    (k16 : PySem.W.keepIn K (.ref f16) = true)
    (a17 : PySem.W.nsIn K mainGlobals "_law_mixed" = some (some (.ref f17)))
    (l17 : K.lookup f17 = some ⟨oc17, od17, .func (PySem.W.fnOf "_law_mixed" "_law_mixed" (defArgs sLawMixed) (defBody sLawMixed) (defScope sLawMixed) .none kV17 dc17 pm17 an17 cd17 ct17), sl17⟩)
    (c17 : PySem.W.codeIn K cd17 "_law_mixed" = true)
    (k17 : PySem.W.keepIn K (.ref f17) = true)
    (a18 : PySem.W.nsIn K mainGlobals "_law_draw" = some (some (.ref f18)))
    (l18 : K.lookup f18 = some ⟨oc18, od18, .func (PySem.W.fnOf "_law_draw" "_law_draw" (defArgs sLawDraw) (defBody sLawDraw) (defScope sLawDraw) .none kV18 dc18 pm18 an18 cd18 ct18), sl18⟩)
    (c18 : PySem.W.codeIn K cd18 "_law_draw" = true)
    (k18 : PySem.W.keepIn K (.ref f18) = true)
    (a19 : PySem.W.nsIn K mainGlobals "_law_exact" = some (some (.ref f19)))
    (l19 : K.lookup f19 = some ⟨oc19, od19, .func (PySem.W.fnOf "_law_exact" "_law_exact" (defArgs sLawExact) (defBody sLawExact) (defScope sLawExact) .none kV19 dc19 pm19 an19 cd19 ct19), sl19⟩)
    (c19 : PySem.W.codeIn K cd19 "_law_exact" = true)
    (k19 : PySem.W.keepIn K (.ref f19) = true)
    (a20 : PySem.W.nsIn K mainGlobals "_law_kind" = some (some (.ref f20)))
    (l20 : K.lookup f20 = some ⟨oc20, od20, .func (PySem.W.fnOf "_law_kind" "_law_kind" (defArgs sLawKind) (defBody sLawKind) (defScope sLawKind) .none kV20 dc20 pm20 an20 cd20 ct20), sl20⟩)
    (c20 : PySem.W.codeIn K cd20 "_law_kind" = true)
    (k20 : PySem.W.keepIn K (.ref f20) = true)
    (a21 : PySem.W.nsIn K mainGlobals "_law_caught" = some (some (.ref f21)))
    (l21 : K.lookup f21 = some ⟨oc21, od21, .func (PySem.W.fnOf "_law_caught" "_law_caught" (defArgs sLawCaught) (defBody sLawCaught) (defScope sLawCaught) .none kV21 dc21 pm21 an21 cd21 ct21), sl21⟩)
    (c21 : PySem.W.codeIn K cd21 "_law_caught" = true)
    (k21 : PySem.W.keepIn K (.ref f21) = true)
    (a22 : PySem.W.nsIn K mainGlobals "_law_own_lines" = some (some (.ref f22)))
    (l22 : K.lookup f22 = some ⟨oc22, od22, .func (PySem.W.fnOf "_law_own_lines" "_law_own_lines" (defArgs sLawOwnLines) (defBody sLawOwnLines) (defScope sLawOwnLines) .none kV22 dc22 pm22 an22 cd22 ct22), sl22⟩)
    (c22 : PySem.W.codeIn K cd22 "_law_own_lines" = true)
    (k22 : PySem.W.keepIn K (.ref f22) = true)
    (a23 : PySem.W.nsIn K mainGlobals "_law_parents" = some (some (.ref f23)))
    (l23 : K.lookup f23 = some ⟨oc23, od23, .func (PySem.W.fnOf "_law_parents" "_law_parents" (defArgs sLawParents) (defBody sLawParents) (defScope sLawParents) .none kV23 dc23 pm23 an23 cd23 ct23), sl23⟩)
    (c23 : PySem.W.codeIn K cd23 "_law_parents" = true)
    (k23 : PySem.W.keepIn K (.ref f23) = true)
    (a24 : PySem.W.nsIn K mainGlobals "_law_right" = some (some (.ref f24)))
    (l24 : K.lookup f24 = some ⟨oc24, od24, .func (PySem.W.fnOf "_law_right" "_law_right" (defArgs sLawRight) (defBody sLawRight) (defScope sLawRight) .none kV24 dc24 pm24 an24 (.ref cA24) ct24), sl24⟩)
    (c24 : PySem.W.codeIn K (.ref cA24) "_law_right" = true)
    (lk24 : K.lookup cA24 = some ⟨cl24, cld24, .fields cvs24, csl24⟩)
    (rfP24 : cvs24[11]? = some (.ref tP24))
    (nt24 : K.lookup tP24 = none)
    (k24 : PySem.W.keepIn K (.ref f24) = true)
    (a25 : PySem.W.nsIn K mainGlobals "_law_refused" = some (some (.ref f25)))
    (l25 : K.lookup f25 = some ⟨oc25, od25, .func (PySem.W.fnOf "_law_refused" "_law_refused" (defArgs sLawRefused) (defBody sLawRefused) (defScope sLawRefused) .none kV25 dc25 pm25 an25 (.ref cA25) ct25), sl25⟩)
    (c25 : PySem.W.codeIn K (.ref cA25) "_law_refused" = true)
    (lk25 : K.lookup cA25 = some ⟨cl25, cld25, .fields cvs25, csl25⟩)
    (rfP25 : cvs25[11]? = some (.ref tP25))
    (nt25 : K.lookup tP25 = none)
    (dt24_25 : tP24 ≠ tP25)
    (k25 : PySem.W.keepIn K (.ref f25) = true)
    (a26 : PySem.W.nsIn K mainGlobals "law" = some (some (.ref f26)))
    (l26 : K.lookup f26 = some ⟨oc26, od26, .func (PySem.W.fnOf "law" "law" (defArgs sLaw) (defBody sLaw) (defScope sLaw) .none kV26 dc26 pm26 an26 cd26 ct26), sl26⟩)
    (c26 : PySem.W.codeIn K cd26 "law" = true)
    (k26 : PySem.W.keepIn K (.ref f26) = true)
    (z0 : PySem.W.nsIn K mainGlobals "isinstance" = some none)
    (z1 : PySem.W.nsIn K mainGlobals "str" = some none)
    (z2 : PySem.W.nsIn K mainGlobals "MOST_SIGNS" = some (some (.int 40 t2)))
    (z3 : PySem.W.nsIn K mainGlobals "all" = some none)
    (z4 : PySem.W.nsIn K mainGlobals "len" = some none)
    (z6 : PySem.W.nsIn K mainGlobals "MOST_LINES" = some (some (.int 12 t6)))
    (z7 : PySem.W.nsIn K mainGlobals "list" = some none)
    (z8 : PySem.W.nsIn K mainGlobals "tuple" = some none)
    (z10 : PySem.W.nsIn K mainGlobals "int" = some none)
    (z11 : PySem.W.nsIn K mainGlobals "bool" = some none)
    (z13 : PySem.W.nsIn K mainGlobals "LONGEST_NAME" = some (some (.int 8 t13)))
    (z14 : PySem.W.nsIn K mainGlobals "SMALL" = some (some (.str "abcdefghijklmnopqrstuvwxyz" t14)))
    (z15 : PySem.W.nsIn K mainGlobals "MOST_PARENTS" = some (some (.int 3 t15)))
    (z17 : PySem.W.nsIn K mainGlobals "set" = some none)
    (z24 : PySem.W.nsIn K mainGlobals "sorted" = some none)
    (z25 : PySem.W.nsIn K mainGlobals "property" = some none)
    (z29 : PySem.W.nsIn K mainGlobals "repr" = some none)
    (z42 : PySem.W.nsIn K mainGlobals "ValueError" = some none)
    (z46 : PySem.W.nsIn K mainGlobals "range" = some none) :
    ∃ (fd : FuncData) (cs : List (Addr × Addr)), (∀ p ∈ cs, ∃ y ∈ (["_law_right", "_law_refused"] : List Str), PySem.W.tabIn K y = some p) ∧ (∀ p ∈ cs, K.lookup p.2 = none) ∧ (∀ (s : Shared) (v : Value), BindsTo s fd ⟨[v], []⟩ [("_law_script", v)]) ∧ ∀ base : Heap, K.In base → base.Ns mainGlobals mg → (∀ p ∈ cs, LamX.TabB base mg p.1 p.2) → FnG PW w K mg base CX0 10 fa fd ["_law_script"] (spLaw K cs) := by
  have e := hfa.symm.trans (PySem.W.mg_of X G a26)
  cases e
  have F1 := fun_mk (st := sIsSign) l1 c1 k1
  have b1 := F1.binds (ps := ["sign"]) fun _ _ _ _ _ _ us hl => match us, hl with | [_], _ => rfl
  have F2 := fun_mk (st := sIsLine) l2 c2 k2
  have b2 := F2.binds (ps := ["value"]) fun _ _ _ _ _ _ us hl => match us, hl with | [_], _ => rfl
  have F3 := fun_mk (st := sIsText) l3 c3 k3
  have b3 := F3.binds (ps := ["value"]) fun _ _ _ _ _ _ us hl => match us, hl with | [_], _ => rfl
  have F4 := fun_mk (st := sIsInteger) l4 c4 k4
  have b4 := F4.binds (ps := ["value"]) fun _ _ _ _ _ _ us hl => match us, hl with | [_], _ => rfl
  have F5 := fun_mk (st := sIsCount) l5 c5 k5
  have b5 := F5.binds (ps := ["value"]) fun _ _ _ _ _ _ us hl => match us, hl with | [_], _ => rfl
  have F6 := fun_mk (st := sIsName) l6 c6 k6
  have b6 := F6.binds (ps := ["value"]) fun _ _ _ _ _ _ us hl => match us, hl with | [_], _ => rfl
  have F7 := fun_mk (st := sAreParents) l7 c7 k7
  have b7 := F7.binds (ps := ["value"]) fun _ _ _ _ _ _ us hl => match us, hl with | [_], _ => rfl
  have F8 : FunD K "__init__" "Version.__init__" (defArgs sVersionInit) (defBody sVersionInit) (defScope sVersionInit) [] [("parents", .ref u8_0), ("author", .str "anon")] f8 (PySem.W.fnOf "__init__" "Version.__init__" (defArgs sVersionInit) (defBody sVersionInit) (defScope sVersionInit) .none (.ref D8) dc8 pm8 an8 cd8 ct8) := ⟨⟨_, _, _, _, _, _, _, _, _, _, rfl, l8, c8, Or.inl ⟨rfl, rfl⟩, Or.inr ⟨_, rfl, by intro q hq; simp only [List.mem_cons, List.not_mem_nil, or_false] at hq; rcases hq with rfl | rfl; exact ⟨_, kd8_0, rfl⟩; exact ⟨_, kd8_1, ⟨_, rfl⟩⟩⟩⟩, k8⟩
  have kb0_8 := F8.kbinds0 (ps := ["self", "lines", "parents", "author"]) 2 ["parents", "author"] [] (fun us mv ws => pick [0, 1, 2, 3] (us ++ mv ++ ws)) (by simp) (by simp) (fun r1 r2 r3 => pick_rel _ ((r1.append r2).append r3)) fun _ _ _ _ _ _ us mv ws h1 h2 h3 => match us, mv, ws, h1, h2, h3 with | [_, _], [], [_, _], _, _, _ => rfl
  have kb1_8 := F8.kbinds0 (ps := ["self", "lines", "parents", "author"]) 2 ["author"] [("parents", .ref u8_0)] (fun us mv ws => pick [0, 1, 2, 3] (us ++ mv ++ ws)) (by simp) (by simp) (fun r1 r2 r3 => pick_rel _ ((r1.append r2).append r3)) fun _ _ _ _ _ _ us mv ws h1 h2 h3 => match us, mv, ws, h1, h2, h3 with | [_, _], [_], [_], _, _, _ => ⟨_, _, _, _, _, _, rfl, rfl, rfl⟩
  have kb2_8 := F8.kbinds0 (ps := ["self", "lines", "parents", "author"]) 2 [] [("parents", .ref u8_0), ("author", .str "anon")] (fun us mv ws => pick [0, 1, 2, 3] (us ++ mv ++ ws)) (by simp) (by simp) (fun r1 r2 r3 => pick_rel _ ((r1.append r2).append r3)) fun _ _ _ _ _ _ us mv ws h1 h2 h3 => match us, mv, ws, h1, h2, h3 with | [_, _], [_, _], [], _, _, _ => ⟨_, _, _, _, _, _, rfl, rfl, ⟨_, _, _, _, _, _, rfl, rfl, rfl⟩⟩
  have F9 := fun_mk (st := sVersionLines) l9 c9 k9
  have b9 := F9.binds (ps := ["self"]) fun _ _ _ _ _ _ us hl => match us, hl with | [_], _ => rfl
  have F10 := fun_mk (st := sVersionParents) l10 c10 k10
  have b10 := F10.binds (ps := ["self"]) fun _ _ _ _ _ _ us hl => match us, hl with | [_], _ => rfl
  have F11 := fun_mk (st := sVersionAuthor) l11 c11 k11
  have b11 := F11.binds (ps := ["self"]) fun _ _ _ _ _ _ us hl => match us, hl with | [_], _ => rfl
  have F12 := fun_mk (st := sVersionLen) l12 c12 k12
  have b12 := F12.binds (ps := ["self"]) fun _ _ _ _ _ _ us hl => match us, hl with | [_], _ => rfl
  have F13 := fun_mk (st := sVersionContains) l13 c13 k13
  have b13 := F13.binds (ps := ["self", "line"]) fun _ _ _ _ _ _ us hl => match us, hl with | [_, _], _ => rfl
  have F14 := fun_mk (st := sVersionGetitem) l14 c14 k14
  have b14 := F14.binds (ps := ["self", "index"]) fun _ _ _ _ _ _ us hl => match us, hl with | [_, _], _ => rfl
  have F15 := fun_mk (st := sVersionEq) l15 c15 k15
  have b15 := F15.binds (ps := ["self", "other"]) fun _ _ _ _ _ _ us hl => match us, hl with | [_, _], _ => rfl
  have F16 := fun_mk (st := sLawPool) l16 c16 k16
  have b16 := F16.binds (ps := ["_law_script"]) fun _ _ _ _ _ _ us hl => match us, hl with | [_], _ => rfl
  have F17 := fun_mk (st := sLawMixed) l17 c17 k17
  have b17 := F17.binds (ps := ["_law_number", "_law_count", "_law_many"]) fun _ _ _ _ _ _ us hl => match us, hl with | [_, _, _], _ => rfl
  have F18 := fun_mk (st := sLawDraw) l18 c18 k18
  have b18 := F18.binds (ps := ["_law_pool_here", "_law_many"]) fun _ _ _ _ _ _ us hl => match us, hl with | [_, _], _ => rfl
  have F19 := fun_mk (st := sLawExact) l19 c19 k19
  have b19 := F19.binds (ps := ["_law_found", "_law_due"]) fun _ _ _ _ _ _ us hl => match us, hl with | [_, _], _ => rfl
  have F20 := fun_mk (st := sLawKind) l20 c20 k20
  have b20 := F20.binds (ps := ["_law_error"]) fun _ _ _ _ _ _ us hl => match us, hl with | [_], _ => rfl
  have F21 := fun_mk (st := sLawCaught) l21 c21 k21
  have b21 := F21.binds (ps := ["_law_call"]) fun _ _ _ _ _ _ us hl => match us, hl with | [_], _ => rfl
  have F22 := fun_mk (st := sLawOwnLines) l22 c22 k22
  have b22 := F22.binds (ps := ["_law_pool_here"]) fun _ _ _ _ _ _ us hl => match us, hl with | [_], _ => rfl
  have F23 := fun_mk (st := sLawParents) l23 c23 k23
  have b23 := F23.binds (ps := ["_law_pool_here"]) fun _ _ _ _ _ _ us hl => match us, hl with | [_], _ => rfl
  have F24 := fun_mk (st := sLawRight) l24 c24 k24
  have b24 := F24.binds (ps := ["_law_version", "_law_lines", "_law_elders", "_law_name"]) fun _ _ _ _ _ _ us hl => match us, hl with | [_, _, _, _], _ => rfl
  have F25 := fun_mk (st := sLawRefused) l25 c25 k25
  have b25 := F25.binds (ps := ["_law_lines", "_law_elders", "_law_name"]) fun _ _ _ _ _ _ us hl => match us, hl with | [_, _, _], _ => rfl
  have F26 := fun_mk (st := sLaw) l26 c26 k26
  have b26 := F26.binds (ps := ["_law_script"]) fun _ _ _ _ _ _ us hl => match us, hl with | [_], _ => rfl
  have T : Txt K mg ⟨C_Version, C_LineError, C_InvalidNumber, C_InvalidText, C_InvalidName, C_InvalidParents, C_InvalidVersion, C_InvalidHistory, C_InvalidLayout, C_InvalidPrices, C_InvalidTelling, C_InvalidDeeds, C_InvalidLine, C_InvalidRanges, C_InvalidCommand, C_ParseError, C_TooMany, C_NothingToUndo, i_InvalidNumber, i_InvalidText, i_InvalidName, i_InvalidParents, f1, PySem.W.fnOf "is_sign" "is_sign" (defArgs sIsSign) (defBody sIsSign) (defScope sIsSign) .none kV1 dc1 pm1 an1 cd1 ct1, f2, PySem.W.fnOf "is_line" "is_line" (defArgs sIsLine) (defBody sIsLine) (defScope sIsLine) .none kV2 dc2 pm2 an2 cd2 ct2, f3, PySem.W.fnOf "is_text" "is_text" (defArgs sIsText) (defBody sIsText) (defScope sIsText) .none kV3 dc3 pm3 an3 cd3 ct3, f4, PySem.W.fnOf "is_integer" "is_integer" (defArgs sIsInteger) (defBody sIsInteger) (defScope sIsInteger) .none kV4 dc4 pm4 an4 cd4 ct4, f5, PySem.W.fnOf "is_count" "is_count" (defArgs sIsCount) (defBody sIsCount) (defScope sIsCount) .none kV5 dc5 pm5 an5 cd5 ct5, f6, PySem.W.fnOf "is_name" "is_name" (defArgs sIsName) (defBody sIsName) (defScope sIsName) .none kV6 dc6 pm6 an6 cd6 ct6, f7, PySem.W.fnOf "are_parents" "are_parents" (defArgs sAreParents) (defBody sAreParents) (defScope sAreParents) .none kV7 dc7 pm7 an7 cd7 ct7, f8, PySem.W.fnOf "__init__" "Version.__init__" (defArgs sVersionInit) (defBody sVersionInit) (defScope sVersionInit) .none (.ref D8) dc8 pm8 an8 cd8 ct8, u8_0, f9, PySem.W.fnOf "lines" "Version.lines" (defArgs sVersionLines) (defBody sVersionLines) (defScope sVersionLines) .none kV9 dc9 pm9 an9 cd9 ct9, p9, f10, PySem.W.fnOf "parents" "Version.parents" (defArgs sVersionParents) (defBody sVersionParents) (defScope sVersionParents) .none kV10 dc10 pm10 an10 cd10 ct10, p10, f11, PySem.W.fnOf "author" "Version.author" (defArgs sVersionAuthor) (defBody sVersionAuthor) (defScope sVersionAuthor) .none kV11 dc11 pm11 an11 cd11 ct11, p11, f12, PySem.W.fnOf "__len__" "Version.__len__" (defArgs sVersionLen) (defBody sVersionLen) (defScope sVersionLen) .none kV12 dc12 pm12 an12 cd12 ct12, f13, PySem.W.fnOf "__contains__" "Version.__contains__" (defArgs sVersionContains) (defBody sVersionContains) (defScope sVersionContains) .none kV13 dc13 pm13 an13 cd13 ct13, f14, PySem.W.fnOf "__getitem__" "Version.__getitem__" (defArgs sVersionGetitem) (defBody sVersionGetitem) (defScope sVersionGetitem) .none kV14 dc14 pm14 an14 cd14 ct14, f15, PySem.W.fnOf "__eq__" "Version.__eq__" (defArgs sVersionEq) (defBody sVersionEq) (defScope sVersionEq) .none kV15 dc15 pm15 an15 cd15 ct15, f16, PySem.W.fnOf "_law_pool" "_law_pool" (defArgs sLawPool) (defBody sLawPool) (defScope sLawPool) .none kV16 dc16 pm16 an16 cd16 ct16, f17, PySem.W.fnOf "_law_mixed" "_law_mixed" (defArgs sLawMixed) (defBody sLawMixed) (defScope sLawMixed) .none kV17 dc17 pm17 an17 cd17 ct17, f18, PySem.W.fnOf "_law_draw" "_law_draw" (defArgs sLawDraw) (defBody sLawDraw) (defScope sLawDraw) .none kV18 dc18 pm18 an18 cd18 ct18, f19, PySem.W.fnOf "_law_exact" "_law_exact" (defArgs sLawExact) (defBody sLawExact) (defScope sLawExact) .none kV19 dc19 pm19 an19 cd19 ct19, f20, PySem.W.fnOf "_law_kind" "_law_kind" (defArgs sLawKind) (defBody sLawKind) (defScope sLawKind) .none kV20 dc20 pm20 an20 cd20 ct20, f21, PySem.W.fnOf "_law_caught" "_law_caught" (defArgs sLawCaught) (defBody sLawCaught) (defScope sLawCaught) .none kV21 dc21 pm21 an21 cd21 ct21, f22, PySem.W.fnOf "_law_own_lines" "_law_own_lines" (defArgs sLawOwnLines) (defBody sLawOwnLines) (defScope sLawOwnLines) .none kV22 dc22 pm22 an22 cd22 ct22, f23, PySem.W.fnOf "_law_parents" "_law_parents" (defArgs sLawParents) (defBody sLawParents) (defScope sLawParents) .none kV23 dc23 pm23 an23 cd23 ct23, f24, PySem.W.fnOf "_law_right" "_law_right" (defArgs sLawRight) (defBody sLawRight) (defScope sLawRight) .none kV24 dc24 pm24 an24 (.ref cA24) ct24, cA24, tP24, f25, PySem.W.fnOf "_law_refused" "_law_refused" (defArgs sLawRefused) (defBody sLawRefused) (defScope sLawRefused) .none kV25 dc25 pm25 an25 (.ref cA25) ct25, cA25, tP25, _, PySem.W.fnOf "law" "law" (defArgs sLaw) (defBody sLaw) (defScope sLaw) .none kV26 dc26 pm26 an26 cd26 ct26⟩ := ⟨PySem.W.mg_of X G aCVersion, ⟨⟨pgVersion, hdVersion, poVersion, saVersion⟩, haVersion, hnVersion, tkVersion, hmVersion⟩, ⟨mkVersion, a8, i8, kcVersion⟩, nVersionkept_lines, nVersionkept_parents, nVersionkept_author, kit_out qoVersionint, kit_out qoVersionbool, kit_in icVersion tyVersion qiVersionint (by intro z; cases z), kit_in icVersion tyVersion qiVersionbool (by intro z; cases z), kit_in icVersion tyVersion qiVersionstr (by intro z; cases z), kit_in icVersion tyVersion qiVersionlist (by intro z; cases z), kit_in icVersion tyVersion qiVersiontuple (by intro z; cases z), kit_in icVersion tyVersion qiVersiondict (by intro z; cases z), kit_in icVersion tyVersion qiVersionNoneType (by intro z; cases z), ⟨rdVersion, rgVersion⟩, wVersionint, wVersionbool, wVersionstr, wVersionlist, wVersiontuple, wVersiondict, wVersionNoneType, PySem.W.mg_of X G aCLineError, PySem.W.mg_of X G aCInvalidNumber, PySem.W.mg_of X G aCInvalidText, PySem.W.mg_of X G aCInvalidName, PySem.W.mg_of X G aCInvalidParents, PySem.W.mg_of X G aCInvalidVersion, PySem.W.mg_of X G aCInvalidHistory, PySem.W.mg_of X G aCInvalidLayout, PySem.W.mg_of X G aCInvalidPrices, PySem.W.mg_of X G aCInvalidTelling, PySem.W.mg_of X G aCInvalidDeeds, PySem.W.mg_of X G aCInvalidLine, PySem.W.mg_of X G aCInvalidRanges, PySem.W.mg_of X G aCInvalidCommand, PySem.W.mg_of X G aCParseError, PySem.W.mg_of X G aCTooMany, PySem.W.mg_of X G aCNothingToUndo, ⟨PySem.W.mg_of X G aCInvalidNumber, PySem.W.mg_none_of X G eSu, ⟨_, _, _, _, _, _, _, _, _, _, _, _, _, _, _, xlInvalidNumber, by rfl⟩, xsaInvalidNumber, xgaInvalidNumber, xggInvalidNumber, xnoInvalidNumber, xicInvalidNumber, xtiInvalidNumber, xkcInvalidNumber, ebInvalidNumber, xveInvalidNumber, etInvalidNumber, edInvalidNumber, xmcInvalidNumber, eOp, ksIInvalidNumber, rfTInvalidNumber, _, _, _, _, _, _, _, _, _, _, _, _, _, _, _, _, _, _, _, _, _, _, _, _, _, _, _, _, _, _, _, _, _, xliInvalidNumber, xcdInvalidNumber, xlcInvalidNumber, rfVInvalidNumber, rfFInvalidNumber, xlxInvalidNumber, rfLInvalidNumber⟩, ⟨by decide, fun i hi => match i with | 0 => kit_self | 1 => kit_inR xmcInvalidNumber eiInvalidText etInvalidText xsInvalidNumberInvalidText | 2 => kit_inR xmcInvalidNumber eiInvalidName etInvalidName xsInvalidNumberInvalidName | 3 => kit_inR xmcInvalidNumber eiInvalidParents etInvalidParents xsInvalidNumberInvalidParents | 4 => kit_inR xmcInvalidNumber eiInvalidVersion etInvalidVersion xsInvalidNumberInvalidVersion | 5 => kit_inR xmcInvalidNumber eiInvalidHistory etInvalidHistory xsInvalidNumberInvalidHistory | 6 => kit_inR xmcInvalidNumber eiInvalidLayout etInvalidLayout xsInvalidNumberInvalidLayout | 7 => kit_inR xmcInvalidNumber eiInvalidPrices etInvalidPrices xsInvalidNumberInvalidPrices | 8 => kit_inR xmcInvalidNumber eiInvalidTelling etInvalidTelling xsInvalidNumberInvalidTelling | 9 => kit_inR xmcInvalidNumber eiInvalidDeeds etInvalidDeeds xsInvalidNumberInvalidDeeds | 10 => kit_inR xmcInvalidNumber eiInvalidLine etInvalidLine xsInvalidNumberInvalidLine | 11 => kit_inR xmcInvalidNumber eiInvalidRanges etInvalidRanges xsInvalidNumberInvalidRanges | 12 => kit_inR xmcInvalidNumber eiInvalidCommand etInvalidCommand xsInvalidNumberInvalidCommand | 13 => kit_inR xmcInvalidNumber eiParseError etParseError xsInvalidNumberParseError | 14 => kit_inR xmcInvalidNumber eiTooMany etTooMany xsInvalidNumberTooMany | 15 => kit_inR xmcInvalidNumber eiNothingToUndo etNothingToUndo xsInvalidNumberNothingToUndo | n + 16 => absurd hi (by omega), kit_out xveInvalidNumber, ⟨isCls_some eiInvalidNumber, xgaInvalidNumber, xggInvalidNumber, ebInvalidNumber, xhcInvalidNumber, eHn, eTk, xmoInvalidNumber, edInvalidNumber, xnoInvalidNumber⟩, exm3 (PySem.W.exm_ref ebLineError edLineError etLineError xsInvalidNumberLineError) (PySem.W.exm_ref ebTooMany edTooMany etTooMany xsInvalidNumberTooMany) (PySem.W.exm_ref ebNothingToUndo edNothingToUndo etNothingToUndo xsInvalidNumberNothingToUndo)⟩, ⟨PySem.W.mg_of X G aCInvalidText, PySem.W.mg_none_of X G eSu, ⟨_, _, _, _, _, _, _, _, _, _, _, _, _, _, _, xlInvalidText, by rfl⟩, xsaInvalidText, xgaInvalidText, xggInvalidText, xnoInvalidText, xicInvalidText, xtiInvalidText, xkcInvalidText, ebInvalidText, xveInvalidText, etInvalidText, edInvalidText, xmcInvalidText, eOp, ksIInvalidText, rfTInvalidText, _, _, _, _, _, _, _, _, _, _, _, _, _, _, _, _, _, _, _, _, _, _, _, _, _, _, _, _, _, _, _, _, _, xliInvalidText, xcdInvalidText, xlcInvalidText, rfVInvalidText, rfFInvalidText, xlxInvalidText, rfLInvalidText⟩, ⟨by decide, fun i hi => match i with | 0 => kit_inR xmcInvalidText eiInvalidNumber etInvalidNumber xsInvalidTextInvalidNumber | 1 => kit_self | 2 => kit_inR xmcInvalidText eiInvalidName etInvalidName xsInvalidTextInvalidName | 3 => kit_inR xmcInvalidText eiInvalidParents etInvalidParents xsInvalidTextInvalidParents | 4 => kit_inR xmcInvalidText eiInvalidVersion etInvalidVersion xsInvalidTextInvalidVersion | 5 => kit_inR xmcInvalidText eiInvalidHistory etInvalidHistory xsInvalidTextInvalidHistory | 6 => kit_inR xmcInvalidText eiInvalidLayout etInvalidLayout xsInvalidTextInvalidLayout | 7 => kit_inR xmcInvalidText eiInvalidPrices etInvalidPrices xsInvalidTextInvalidPrices | 8 => kit_inR xmcInvalidText eiInvalidTelling etInvalidTelling xsInvalidTextInvalidTelling | 9 => kit_inR xmcInvalidText eiInvalidDeeds etInvalidDeeds xsInvalidTextInvalidDeeds | 10 => kit_inR xmcInvalidText eiInvalidLine etInvalidLine xsInvalidTextInvalidLine | 11 => kit_inR xmcInvalidText eiInvalidRanges etInvalidRanges xsInvalidTextInvalidRanges | 12 => kit_inR xmcInvalidText eiInvalidCommand etInvalidCommand xsInvalidTextInvalidCommand | 13 => kit_inR xmcInvalidText eiParseError etParseError xsInvalidTextParseError | 14 => kit_inR xmcInvalidText eiTooMany etTooMany xsInvalidTextTooMany | 15 => kit_inR xmcInvalidText eiNothingToUndo etNothingToUndo xsInvalidTextNothingToUndo | n + 16 => absurd hi (by omega), kit_out xveInvalidText, ⟨isCls_some eiInvalidText, xgaInvalidText, xggInvalidText, ebInvalidText, xhcInvalidText, eHn, eTk, xmoInvalidText, edInvalidText, xnoInvalidText⟩, exm3 (PySem.W.exm_ref ebLineError edLineError etLineError xsInvalidTextLineError) (PySem.W.exm_ref ebTooMany edTooMany etTooMany xsInvalidTextTooMany) (PySem.W.exm_ref ebNothingToUndo edNothingToUndo etNothingToUndo xsInvalidTextNothingToUndo)⟩, ⟨PySem.W.mg_of X G aCInvalidName, PySem.W.mg_none_of X G eSu, ⟨_, _, _, _, _, _, _, _, _, _, _, _, _, _, _, xlInvalidName, by rfl⟩, xsaInvalidName, xgaInvalidName, xggInvalidName, xnoInvalidName, xicInvalidName, xtiInvalidName, xkcInvalidName, ebInvalidName, xveInvalidName, etInvalidName, edInvalidName, xmcInvalidName, eOp, ksIInvalidName, rfTInvalidName, _, _, _, _, _, _, _, _, _, _, _, _, _, _, _, _, _, _, _, _, _, _, _, _, _, _, _, _, _, _, _, _, _, xliInvalidName, xcdInvalidName, xlcInvalidName, rfVInvalidName, rfFInvalidName, xlxInvalidName, rfLInvalidName⟩, ⟨by decide, fun i hi => match i with | 0 => kit_inR xmcInvalidName eiInvalidNumber etInvalidNumber xsInvalidNameInvalidNumber | 1 => kit_inR xmcInvalidName eiInvalidText etInvalidText xsInvalidNameInvalidText | 2 => kit_self | 3 => kit_inR xmcInvalidName eiInvalidParents etInvalidParents xsInvalidNameInvalidParents | 4 => kit_inR xmcInvalidName eiInvalidVersion etInvalidVersion xsInvalidNameInvalidVersion | 5 => kit_inR xmcInvalidName eiInvalidHistory etInvalidHistory xsInvalidNameInvalidHistory | 6 => kit_inR xmcInvalidName eiInvalidLayout etInvalidLayout xsInvalidNameInvalidLayout | 7 => kit_inR xmcInvalidName eiInvalidPrices etInvalidPrices xsInvalidNameInvalidPrices | 8 => kit_inR xmcInvalidName eiInvalidTelling etInvalidTelling xsInvalidNameInvalidTelling | 9 => kit_inR xmcInvalidName eiInvalidDeeds etInvalidDeeds xsInvalidNameInvalidDeeds | 10 => kit_inR xmcInvalidName eiInvalidLine etInvalidLine xsInvalidNameInvalidLine | 11 => kit_inR xmcInvalidName eiInvalidRanges etInvalidRanges xsInvalidNameInvalidRanges | 12 => kit_inR xmcInvalidName eiInvalidCommand etInvalidCommand xsInvalidNameInvalidCommand | 13 => kit_inR xmcInvalidName eiParseError etParseError xsInvalidNameParseError | 14 => kit_inR xmcInvalidName eiTooMany etTooMany xsInvalidNameTooMany | 15 => kit_inR xmcInvalidName eiNothingToUndo etNothingToUndo xsInvalidNameNothingToUndo | n + 16 => absurd hi (by omega), kit_out xveInvalidName, ⟨isCls_some eiInvalidName, xgaInvalidName, xggInvalidName, ebInvalidName, xhcInvalidName, eHn, eTk, xmoInvalidName, edInvalidName, xnoInvalidName⟩, exm3 (PySem.W.exm_ref ebLineError edLineError etLineError xsInvalidNameLineError) (PySem.W.exm_ref ebTooMany edTooMany etTooMany xsInvalidNameTooMany) (PySem.W.exm_ref ebNothingToUndo edNothingToUndo etNothingToUndo xsInvalidNameNothingToUndo)⟩, ⟨PySem.W.mg_of X G aCInvalidParents, PySem.W.mg_none_of X G eSu, ⟨_, _, _, _, _, _, _, _, _, _, _, _, _, _, _, xlInvalidParents, by rfl⟩, xsaInvalidParents, xgaInvalidParents, xggInvalidParents, xnoInvalidParents, xicInvalidParents, xtiInvalidParents, xkcInvalidParents, ebInvalidParents, xveInvalidParents, etInvalidParents, edInvalidParents, xmcInvalidParents, eOp, ksIInvalidParents, rfTInvalidParents, _, _, _, _, _, _, _, _, _, _, _, _, _, _, _, _, _, _, _, _, _, _, _, _, _, _, _, _, _, _, _, _, _, xliInvalidParents, xcdInvalidParents, xlcInvalidParents, rfVInvalidParents, rfFInvalidParents, xlxInvalidParents, rfLInvalidParents⟩, ⟨by decide, fun i hi => match i with | 0 => kit_inR xmcInvalidParents eiInvalidNumber etInvalidNumber xsInvalidParentsInvalidNumber | 1 => kit_inR xmcInvalidParents eiInvalidText etInvalidText xsInvalidParentsInvalidText | 2 => kit_inR xmcInvalidParents eiInvalidName etInvalidName xsInvalidParentsInvalidName | 3 => kit_self | 4 => kit_inR xmcInvalidParents eiInvalidVersion etInvalidVersion xsInvalidParentsInvalidVersion | 5 => kit_inR xmcInvalidParents eiInvalidHistory etInvalidHistory xsInvalidParentsInvalidHistory | 6 => kit_inR xmcInvalidParents eiInvalidLayout etInvalidLayout xsInvalidParentsInvalidLayout | 7 => kit_inR xmcInvalidParents eiInvalidPrices etInvalidPrices xsInvalidParentsInvalidPrices | 8 => kit_inR xmcInvalidParents eiInvalidTelling etInvalidTelling xsInvalidParentsInvalidTelling | 9 => kit_inR xmcInvalidParents eiInvalidDeeds etInvalidDeeds xsInvalidParentsInvalidDeeds | 10 => kit_inR xmcInvalidParents eiInvalidLine etInvalidLine xsInvalidParentsInvalidLine | 11 => kit_inR xmcInvalidParents eiInvalidRanges etInvalidRanges xsInvalidParentsInvalidRanges | 12 => kit_inR xmcInvalidParents eiInvalidCommand etInvalidCommand xsInvalidParentsInvalidCommand | 13 => kit_inR xmcInvalidParents eiParseError etParseError xsInvalidParentsParseError | 14 => kit_inR xmcInvalidParents eiTooMany etTooMany xsInvalidParentsTooMany | 15 => kit_inR xmcInvalidParents eiNothingToUndo etNothingToUndo xsInvalidParentsNothingToUndo | n + 16 => absurd hi (by omega), kit_out xveInvalidParents, ⟨isCls_some eiInvalidParents, xgaInvalidParents, xggInvalidParents, ebInvalidParents, xhcInvalidParents, eHn, eTk, xmoInvalidParents, edInvalidParents, xnoInvalidParents⟩, exm3 (PySem.W.exm_ref ebLineError edLineError etLineError xsInvalidParentsLineError) (PySem.W.exm_ref ebTooMany edTooMany etTooMany xsInvalidParentsTooMany) (PySem.W.exm_ref ebNothingToUndo edNothingToUndo etNothingToUndo xsInvalidParentsNothingToUndo)⟩, F1, PySem.W.mg_of X G a1, b1, F2, PySem.W.mg_of X G a2, b2, F3, PySem.W.mg_of X G a3, b3, F4, PySem.W.mg_of X G a4, b4, F5, PySem.W.mg_of X G a5, b5, F6, PySem.W.mg_of X G a6, b6, F7, PySem.W.mg_of X G a7, b7, F8, fun H => Or.inr ⟨_, #[], _, ul8_0, rfl, rfl, by decide, .nil⟩, ⟨_, ul8_0, rfl⟩, ⟨a8, i8, k8⟩, kb0_8.elim fun mv h => ⟨_, h⟩, kb1_8.elim fun mv h => ⟨_, h⟩, kb2_8.elim fun mv h => ⟨_, h⟩, F9, ⟨a9, g9, tp9, ⟨_, r9⟩⟩, b9, F10, ⟨a10, g10, tp10, ⟨_, r10⟩⟩, b10, F11, ⟨a11, g11, tp11, ⟨_, r11⟩⟩, b11, F12, ⟨a12, i12, k12⟩, ⟨a12, i12⟩, b12, F13, ⟨a13, i13, k13⟩, ⟨a13, i13⟩, b13, F14, ⟨a14, i14, k14⟩, ⟨a14, i14⟩, by unfold PySem.W.fnIn; rw [l14], b14, F15, ⟨a15, i15, k15⟩, ⟨a15, i15, ne15, hmVersion⟩, ⟨a15, i15, nfVersion⟩, ⟨a15, i15, siVersion⟩, b15, F16, PySem.W.mg_of X G a16, b16, F17, PySem.W.mg_of X G a17, b17, F18, PySem.W.mg_of X G a18, b18, F19, PySem.W.mg_of X G a19, b19, F20, PySem.W.mg_of X G a20, b20, F21, PySem.W.mg_of X G a21, b21, F22, PySem.W.mg_of X G a22, b22, F23, PySem.W.mg_of X G a23, b23, ⟨⟨_, _, _, _, _, _, _, _, rfl, l24, c24⟩, k24⟩, tab_mk a24 l24 rfl lk24 rfP24, nt24, F24, PySem.W.mg_of X G a24, b24, ⟨⟨_, _, _, _, _, _, _, _, rfl, l25, c25⟩, k25⟩, tab_mk a25 l25 rfl lk25 rfP25, nt25, dt24_25, F25, PySem.W.mg_of X G a25, b25, F26, PySem.W.mg_of X G a26, b26, PySem.W.mg_none_of X G z0, PySem.W.mg_none_of X G z1, ⟨_, PySem.W.mg_of X G z2⟩, PySem.W.mg_none_of X G z3, PySem.W.mg_none_of X G z4, ⟨_, PySem.W.mg_of X G z6⟩, PySem.W.mg_none_of X G z7, PySem.W.mg_none_of X G z8, PySem.W.mg_none_of X G z10, PySem.W.mg_none_of X G z11, ⟨_, PySem.W.mg_of X G z13⟩, ⟨_, PySem.W.mg_of X G z14⟩, ⟨_, PySem.W.mg_of X G z15⟩, PySem.W.mg_none_of X G z17, PySem.W.mg_none_of X G z24, PySem.W.mg_none_of X G z25, PySem.W.mg_none_of X G z29, PySem.W.mg_none_of X G z42, PySem.W.mg_none_of X G z46⟩
  refine ⟨_, [(cA24, tP24), (cA25, tP25)], ?_, ?_, fun s v => .of_eq rfl, fun base _ _ TB => ok_law T TB⟩
  · simp only [List.mem_cons, List.not_mem_nil, or_false, forall_eq_or_imp, forall_eq]
    exact ⟨⟨"_law_right", by simp, T.tb_LawRight⟩, ⟨"_law_refused", by simp, T.tb_LawRefused⟩⟩
  · simp only [List.mem_cons, List.not_mem_nil, or_false, forall_eq_or_imp, forall_eq]
    exact ⟨nt24, nt25⟩

end My
open PySem PySem.W PyProof.Rows in
set_option maxRecDepth 100000 in
set_option maxHeartbeats 0 in
theorem PySem.Challenge.cw_lineorigins_k09_versions_holds : PySem.Challenge.rw_lineorigins_k09_versions.Holds := by
  w_on; o_law; k_head; (case hw => w_witness2)
  k_fill
  refine My.walk_ofGT (l := PySem.Challenge.rw_lineorigins_k09_versions) (n := 63) (k := 10) (x := "_law_script") (sp := fun K cs => My.spLaw K cs) ["_law_right", "_law_refused"] rfl (by decide) rfl ⟨rfl, by decide, by decide⟩ (fun w h Y => by first | exact PySem.W.km_in_of Y | exact PySem.W.kIn_of Y) (by decide +kernel) ?F (fun _ cs H a ns hl hH hS => ⟨a, ns, rfl, hS, hl, hH, fun _ => rfl⟩)
  case F =>
    intro w mg fa h KX G hmg
    refine' My.all_mk KX G hmg ?aCVersion ?pgVersion ?hdVersion ?poVersion ?saVersion ?haVersion ?hnVersion ?tkVersion ?hmVersion ?mkVersion ?kcVersion ?nVersionkept_lines ?nVersionkept_parents ?nVersionkept_author ?icVersion ?tyVersion ?qoVersionint ?qoVersionbool ?qiVersionint ?qiVersionbool ?qiVersionstr ?qiVersionlist ?qiVersiontuple ?qiVersiondict ?qiVersionNoneType ?rdVersion ?rgVersion ?wVersionint ?wVersionbool ?wVersionstr ?wVersionlist ?wVersiontuple ?wVersiondict ?wVersionNoneType ?sfVersion ?nfVersion ?siVersion ?isVersion ?aCLineError ?ebLineError ?edLineError ?etLineError ?eiLineError ?aCInvalidNumber ?ebInvalidNumber ?edInvalidNumber ?etInvalidNumber ?eiInvalidNumber ?aCInvalidText ?ebInvalidText ?edInvalidText ?etInvalidText ?eiInvalidText ?aCInvalidName ?ebInvalidName ?edInvalidName ?etInvalidName ?eiInvalidName ?aCInvalidParents ?ebInvalidParents ?edInvalidParents ?etInvalidParents ?eiInvalidParents ?aCInvalidVersion ?ebInvalidVersion ?edInvalidVersion ?etInvalidVersion ?eiInvalidVersion ?aCInvalidHistory ?ebInvalidHistory ?edInvalidHistory ?etInvalidHistory ?eiInvalidHistory ?aCInvalidLayout ?ebInvalidLayout ?edInvalidLayout ?etInvalidLayout ?eiInvalidLayout ?aCInvalidPrices ?ebInvalidPrices ?edInvalidPrices ?etInvalidPrices ?eiInvalidPrices ?aCInvalidTelling ?ebInvalidTelling ?edInvalidTelling ?etInvalidTelling ?eiInvalidTelling ?aCInvalidDeeds ?ebInvalidDeeds ?edInvalidDeeds ?etInvalidDeeds ?eiInvalidDeeds ?aCInvalidLine ?ebInvalidLine ?edInvalidLine ?etInvalidLine ?eiInvalidLine ?aCInvalidRanges ?ebInvalidRanges ?edInvalidRanges ?etInvalidRanges ?eiInvalidRanges ?aCInvalidCommand ?ebInvalidCommand ?edInvalidCommand ?etInvalidCommand ?eiInvalidCommand ?aCParseError ?ebParseError ?edParseError ?etParseError ?eiParseError ?aCTooMany ?ebTooMany ?edTooMany ?etTooMany ?eiTooMany ?aCNothingToUndo ?ebNothingToUndo ?edNothingToUndo ?etNothingToUndo ?eiNothingToUndo ?eSu ?eOp ?eHn ?eTk ?xlInvalidNumber ?xsaInvalidNumber ?xgaInvalidNumber ?xggInvalidNumber ?xnoInvalidNumber ?xicInvalidNumber ?xtiInvalidNumber ?xkcInvalidNumber ?xveInvalidNumber ?xmcInvalidNumber ?xmoInvalidNumber ?xhcInvalidNumber ?xliInvalidNumber ?xcdInvalidNumber ?xlcInvalidNumber ?xlxInvalidNumber ?ksIInvalidNumber ?rfVInvalidNumber ?rfFInvalidNumber ?rfLInvalidNumber ?rfTInvalidNumber ?xsInvalidNumberLineError ?xsInvalidNumberInvalidText ?xsInvalidNumberInvalidName ?xsInvalidNumberInvalidParents ?xsInvalidNumberInvalidVersion ?xsInvalidNumberInvalidHistory ?xsInvalidNumberInvalidLayout ?xsInvalidNumberInvalidPrices ?xsInvalidNumberInvalidTelling ?xsInvalidNumberInvalidDeeds ?xsInvalidNumberInvalidLine ?xsInvalidNumberInvalidRanges ?xsInvalidNumberInvalidCommand ?xsInvalidNumberParseError ?xsInvalidNumberTooMany ?xsInvalidNumberNothingToUndo ?xlInvalidText ?xsaInvalidText ?xgaInvalidText ?xggInvalidText ?xnoInvalidText ?xicInvalidText ?xtiInvalidText ?xkcInvalidText ?xveInvalidText ?xmcInvalidText ?xmoInvalidText ?xhcInvalidText ?xliInvalidText ?xcdInvalidText ?xlcInvalidText ?xlxInvalidText ?ksIInvalidText ?rfVInvalidText ?rfFInvalidText ?rfLInvalidText ?rfTInvalidText ?xsInvalidTextLineError ?xsInvalidTextInvalidNumber ?xsInvalidTextInvalidName ?xsInvalidTextInvalidParents ?xsInvalidTextInvalidVersion ?xsInvalidTextInvalidHistory ?xsInvalidTextInvalidLayout ?xsInvalidTextInvalidPrices ?xsInvalidTextInvalidTelling ?xsInvalidTextInvalidDeeds ?xsInvalidTextInvalidLine ?xsInvalidTextInvalidRanges ?xsInvalidTextInvalidCommand ?xsInvalidTextParseError ?xsInvalidTextTooMany ?xsInvalidTextNothingToUndo ?xlInvalidName ?xsaInvalidName ?xgaInvalidName ?xggInvalidName ?xnoInvalidName ?xicInvalidName ?xtiInvalidName ?xkcInvalidName ?xveInvalidName ?xmcInvalidName ?xmoInvalidName ?xhcInvalidName ?xliInvalidName ?xcdInvalidName ?xlcInvalidName ?xlxInvalidName ?ksIInvalidName ?rfVInvalidName ?rfFInvalidName ?rfLInvalidName ?rfTInvalidName ?xsInvalidNameLineError ?xsInvalidNameInvalidNumber ?xsInvalidNameInvalidText ?xsInvalidNameInvalidParents ?xsInvalidNameInvalidVersion ?xsInvalidNameInvalidHistory ?xsInvalidNameInvalidLayout ?xsInvalidNameInvalidPrices ?xsInvalidNameInvalidTelling ?xsInvalidNameInvalidDeeds ?xsInvalidNameInvalidLine ?xsInvalidNameInvalidRanges ?xsInvalidNameInvalidCommand ?xsInvalidNameParseError ?xsInvalidNameTooMany ?xsInvalidNameNothingToUndo ?xlInvalidParents ?xsaInvalidParents ?xgaInvalidParents ?xggInvalidParents ?xnoInvalidParents ?xicInvalidParents ?xtiInvalidParents ?xkcInvalidParents ?xveInvalidParents ?xmcInvalidParents ?xmoInvalidParents ?xhcInvalidParents ?xliInvalidParents ?xcdInvalidParents ?xlcInvalidParents ?xlxInvalidParents ?ksIInvalidParents ?rfVInvalidParents ?rfFInvalidParents ?rfLInvalidParents ?rfTInvalidParents ?xsInvalidParentsLineError ?xsInvalidParentsInvalidNumber ?xsInvalidParentsInvalidText ?xsInvalidParentsInvalidName ?xsInvalidParentsInvalidVersion ?xsInvalidParentsInvalidHistory ?xsInvalidParentsInvalidLayout ?xsInvalidParentsInvalidPrices ?xsInvalidParentsInvalidTelling ?xsInvalidParentsInvalidDeeds ?xsInvalidParentsInvalidLine ?xsInvalidParentsInvalidRanges ?xsInvalidParentsInvalidCommand ?xsInvalidParentsParseError ?xsInvalidParentsTooMany ?xsInvalidParentsNothingToUndo ?a1 ?l1 ?c1 ?k1 ?a2 ?l2 ?c2 ?k2 ?a3 ?l3 ?c3 ?k3 ?a4 ?l4 ?c4 ?k4 ?a5 ?l5 ?c5 ?k5 ?a6 ?l6 ?c6 ?k6 ?a7 ?l7 ?c7 ?k7 ?a8 ?i8 ?l8 ?c8 ?k8 ?kd8_0 ?ul8_0 ?kd8_1 ?a9 ?g9 ?tp9 ?r9 ?l9 ?c9 ?k9 ?a10 ?g10 ?tp10 ?r10 ?l10 ?c10 ?k10 ?a11 ?g11 ?tp11 ?r11 ?l11 ?c11 ?k11 ?a12 ?i12 ?l12 ?c12 ?k12 ?a13 ?i13 ?l13 ?c13 ?k13 ?a14 ?i14 ?l14 ?c14 ?k14 ?a15 ?i15 ?l15 ?c15 ?k15 ?ne15 ?a16 ?l16 ?c16 ?k16 ?a17 ?l17 ?c17 ?k17 ?a18 ?l18 ?c18 ?k18 ?a19 ?l19 ?c19 ?k19 ?a20 ?l20 ?c20 ?k20 ?a21 ?l21 ?c21 ?k21 ?a22 ?l22 ?c22 ?k22 ?a23 ?l23 ?c23 ?k23 ?a24 ?l24 ?c24 ?lk24 ?rfP24 ?nt24 ?k24 ?a25 ?l25 ?c25 ?lk25 ?rfP25 ?nt25 ?dt24_25 ?k25 ?a26 ?l26 ?c26 ?k26 ?z0 ?z1 ?z2 ?z3 ?z4 ?z6 ?z7 ?z8 ?z10 ?z11 ?z13 ?z14 ?z15 ?z17 ?z24 ?z25 ?z29 ?z42 ?z46
    (case aCVersion => k_is); (case pgVersion => k_is); (case hdVersion => k_is); (case poVersion => k_is); (case saVersion => k_is); (case haVersion => k_is); (case hnVersion => k_is); (case tkVersion => k_is); (case hmVersion => k_is); (case mkVersion => k_is); (case kcVersion => k_is); (case nVersionkept_lines => k_is); (case nVersionkept_parents => k_is); (case nVersionkept_author => k_is); (case icVersion => k_is); (case tyVersion => k_is); (case qoVersionint => k_is); (case qoVersionbool => k_is); (case qiVersionint => k_is); (case qiVersionbool => k_is); (case qiVersionstr => k_is); (case qiVersionlist => k_is); (case qiVersiontuple => k_is); (case qiVersiondict => k_is); (case qiVersionNoneType => k_is); (case rdVersion => k_is); (case rgVersion => k_is); (case wVersionint => k_is); (case wVersionbool => k_is); (case wVersionstr => k_is); (case wVersionlist => k_is); (case wVersiontuple => k_is); (case wVersiondict => k_is); (case wVersionNoneType => k_is); (case sfVersion => k_is); (case nfVersion => k_is); (case siVersion => k_is); (case isVersion => k_is); (case aCLineError => k_is); (case ebLineError => k_is); (case edLineError => k_is); (case etLineError => k_is); (case eiLineError => k_is); (case aCInvalidNumber => k_is); (case ebInvalidNumber => k_is); (case edInvalidNumber => k_is); (case etInvalidNumber => k_is); (case eiInvalidNumber => k_is); (case aCInvalidText => k_is); (case ebInvalidText => k_is); (case edInvalidText => k_is); (case etInvalidText => k_is); (case eiInvalidText => k_is); (case aCInvalidName => k_is); (case ebInvalidName => k_is); (case edInvalidName => k_is); (case etInvalidName => k_is); (case eiInvalidName => k_is); (case aCInvalidParents => k_is); (case ebInvalidParents => k_is); (case edInvalidParents => k_is); (case etInvalidParents => k_is); (case eiInvalidParents => k_is); (case aCInvalidVersion => k_is); (case ebInvalidVersion => k_is); (case edInvalidVersion => k_is); (case etInvalidVersion => k_is); (case eiInvalidVersion => k_is); (case aCInvalidHistory => k_is); (case ebInvalidHistory => k_is); (case edInvalidHistory => k_is); (case etInvalidHistory => k_is); (case eiInvalidHistory => k_is); (case aCInvalidLayout => k_is); (case ebInvalidLayout => k_is); (case edInvalidLayout => k_is); (case etInvalidLayout => k_is); (case eiInvalidLayout => k_is); (case aCInvalidPrices => k_is); (case ebInvalidPrices => k_is); (case edInvalidPrices => k_is); (case etInvalidPrices => k_is); (case eiInvalidPrices => k_is); (case aCInvalidTelling => k_is); (case ebInvalidTelling => k_is); (case edInvalidTelling => k_is); (case etInvalidTelling => k_is); (case eiInvalidTelling => k_is); (case aCInvalidDeeds => k_is); (case ebInvalidDeeds => k_is); (case edInvalidDeeds => k_is); (case etInvalidDeeds => k_is); (case eiInvalidDeeds => k_is); (case aCInvalidLine => k_is); (case ebInvalidLine => k_is); (case edInvalidLine => k_is); (case etInvalidLine => k_is); (case eiInvalidLine => k_is); (case aCInvalidRanges => k_is); (case ebInvalidRanges => k_is); (case edInvalidRanges => k_is); (case etInvalidRanges => k_is); (case eiInvalidRanges => k_is); (case aCInvalidCommand => k_is); (case ebInvalidCommand => k_is); (case edInvalidCommand => k_is); (case etInvalidCommand => k_is); (case eiInvalidCommand => k_is); (case aCParseError => k_is); (case ebParseError => k_is); (case edParseError => k_is); (case etParseError => k_is); (case eiParseError => k_is); (case aCTooMany => k_is); (case ebTooMany => k_is); (case edTooMany => k_is); (case etTooMany => k_is); (case eiTooMany => k_is); (case aCNothingToUndo => k_is); (case ebNothingToUndo => k_is); (case edNothingToUndo => k_is); (case etNothingToUndo => k_is); (case eiNothingToUndo => k_is); (case eSu => k_is); (case eOp => k_is); (case eHn => k_is); (case eTk => k_is); (case xlInvalidNumber => k_is); (case xsaInvalidNumber => k_is); (case xgaInvalidNumber => k_is); (case xggInvalidNumber => k_is); (case xnoInvalidNumber => k_is); (case xicInvalidNumber => k_is); (case xtiInvalidNumber => k_is); (case xkcInvalidNumber => k_is); (case xveInvalidNumber => k_is); (case xmcInvalidNumber => k_is); (case xmoInvalidNumber => k_is); (case xhcInvalidNumber => k_is); (case xliInvalidNumber => k_is); (case xcdInvalidNumber => k_is); (case xlcInvalidNumber => k_is); (case xlxInvalidNumber => k_is); (case ksIInvalidNumber => ks_is); (case rfVInvalidNumber => first | rfl | decide +kernel | kernel_rfl); (case rfFInvalidNumber => first | rfl | decide +kernel | kernel_rfl); (case rfLInvalidNumber => first | rfl | decide +kernel | kernel_rfl); (case rfTInvalidNumber => first | rfl | decide +kernel | kernel_rfl); (case xsInvalidNumberLineError => k_is); (case xsInvalidNumberInvalidText => k_is); (case xsInvalidNumberInvalidName => k_is); (case xsInvalidNumberInvalidParents => k_is); (case xsInvalidNumberInvalidVersion => k_is); (case xsInvalidNumberInvalidHistory => k_is); (case xsInvalidNumberInvalidLayout => k_is); (case xsInvalidNumberInvalidPrices => k_is); (case xsInvalidNumberInvalidTelling => k_is); (case xsInvalidNumberInvalidDeeds => k_is); (case xsInvalidNumberInvalidLine => k_is); (case xsInvalidNumberInvalidRanges => k_is); (case xsInvalidNumberInvalidCommand => k_is); (case xsInvalidNumberParseError => k_is); (case xsInvalidNumberTooMany => k_is); (case xsInvalidNumberNothingToUndo => k_is); (case xlInvalidText => k_is); (case xsaInvalidText => k_is); (case xgaInvalidText => k_is); (case xggInvalidText => k_is); (case xnoInvalidText => k_is); (case xicInvalidText => k_is); (case xtiInvalidText => k_is); (case xkcInvalidText => k_is); (case xveInvalidText => k_is); (case xmcInvalidText => k_is); (case xmoInvalidText => k_is); (case xhcInvalidText => k_is); (case xliInvalidText => k_is); (case xcdInvalidText => k_is); (case xlcInvalidText => k_is); (case xlxInvalidText => k_is); (case ksIInvalidText => ks_is); (case rfVInvalidText => first | rfl | decide +kernel | kernel_rfl); (case rfFInvalidText => first | rfl | decide +kernel | kernel_rfl); (case rfLInvalidText => first | rfl | decide +kernel | kernel_rfl); (case rfTInvalidText => first | rfl | decide +kernel | kernel_rfl); (case xsInvalidTextLineError => k_is); (case xsInvalidTextInvalidNumber => k_is); (case xsInvalidTextInvalidName => k_is); (case xsInvalidTextInvalidParents => k_is); (case xsInvalidTextInvalidVersion => k_is); (case xsInvalidTextInvalidHistory => k_is); (case xsInvalidTextInvalidLayout => k_is); (case xsInvalidTextInvalidPrices => k_is); (case xsInvalidTextInvalidTelling => k_is); (case xsInvalidTextInvalidDeeds => k_is); (case xsInvalidTextInvalidLine => k_is); (case xsInvalidTextInvalidRanges => k_is); (case xsInvalidTextInvalidCommand => k_is); (case xsInvalidTextParseError => k_is); (case xsInvalidTextTooMany => k_is); (case xsInvalidTextNothingToUndo => k_is); (case xlInvalidName => k_is); (case xsaInvalidName => k_is); (case xgaInvalidName => k_is); (case xggInvalidName => k_is); (case xnoInvalidName => k_is); (case xicInvalidName => k_is); (case xtiInvalidName => k_is); (case xkcInvalidName => k_is); (case xveInvalidName => k_is); (case xmcInvalidName => k_is); (case xmoInvalidName => k_is); (case xhcInvalidName => k_is); (case xliInvalidName => k_is); (case xcdInvalidName => k_is); (case xlcInvalidName => k_is); (case xlxInvalidName => k_is); (case ksIInvalidName => ks_is); (case rfVInvalidName => first | rfl | decide +kernel | kernel_rfl); (case rfFInvalidName => first | rfl | decide +kernel | kernel_rfl); (case rfLInvalidName => first | rfl | decide +kernel | kernel_rfl); (case rfTInvalidName => first | rfl | decide +kernel | kernel_rfl); (case xsInvalidNameLineError => k_is); (case xsInvalidNameInvalidNumber => k_is); (case xsInvalidNameInvalidText => k_is); (case xsInvalidNameInvalidParents => k_is); (case xsInvalidNameInvalidVersion => k_is); (case xsInvalidNameInvalidHistory => k_is); (case xsInvalidNameInvalidLayout => k_is); (case xsInvalidNameInvalidPrices => k_is); (case xsInvalidNameInvalidTelling => k_is); (case xsInvalidNameInvalidDeeds => k_is); (case xsInvalidNameInvalidLine => k_is); (case xsInvalidNameInvalidRanges => k_is); (case xsInvalidNameInvalidCommand => k_is); (case xsInvalidNameParseError => k_is); (case xsInvalidNameTooMany => k_is); (case xsInvalidNameNothingToUndo => k_is); (case xlInvalidParents => k_is); (case xsaInvalidParents => k_is); (case xgaInvalidParents => k_is); (case xggInvalidParents => k_is); (case xnoInvalidParents => k_is); (case xicInvalidParents => k_is); (case xtiInvalidParents => k_is); (case xkcInvalidParents => k_is); (case xveInvalidParents => k_is); (case xmcInvalidParents => k_is); (case xmoInvalidParents => k_is); (case xhcInvalidParents => k_is); (case xliInvalidParents => k_is); (case xcdInvalidParents => k_is); (case xlcInvalidParents => k_is); (case xlxInvalidParents => k_is); (case ksIInvalidParents => ks_is); (case rfVInvalidParents => first | rfl | decide +kernel | kernel_rfl); (case rfFInvalidParents => first | rfl | decide +kernel | kernel_rfl); (case rfLInvalidParents => first | rfl | decide +kernel | kernel_rfl); (case rfTInvalidParents => first | rfl | decide +kernel | kernel_rfl); (case xsInvalidParentsLineError => k_is); (case xsInvalidParentsInvalidNumber => k_is); (case xsInvalidParentsInvalidText => k_is); (case xsInvalidParentsInvalidName => k_is); (case xsInvalidParentsInvalidVersion => k_is); (case xsInvalidParentsInvalidHistory => k_is); (case xsInvalidParentsInvalidLayout => k_is); (case xsInvalidParentsInvalidPrices => k_is); (case xsInvalidParentsInvalidTelling => k_is); (case xsInvalidParentsInvalidDeeds => k_is); (case xsInvalidParentsInvalidLine => k_is); (case xsInvalidParentsInvalidRanges => k_is); (case xsInvalidParentsInvalidCommand => k_is); (case xsInvalidParentsParseError => k_is); (case xsInvalidParentsTooMany => k_is); (case xsInvalidParentsNothingToUndo => k_is); (case a1 => k_is); (case l1 => k_is); (case c1 => k_is); (case k1 => k_is); (case a2 => k_is); (case l2 => k_is); (case c2 => k_is); (case k2 => k_is); (case a3 => k_is); (case l3 => k_is); (case c3 => k_is); (case k3 => k_is); (case a4 => k_is); (case l4 => k_is); (case c4 => k_is); (case k4 => k_is); (case a5 => k_is); (case l5 => k_is); (case c5 => k_is); (case k5 => k_is); (case a6 => k_is); (case l6 => k_is); (case c6 => k_is); (case k6 => k_is); (case a7 => k_is); (case l7 => k_is); (case c7 => k_is); (case k7 => k_is); (case a8 => k_is); (case i8 => k_is); (case l8 => k_is); (case c8 => k_is); (case k8 => k_is); (case kd8_0 => k_is); (case ul8_0 => k_is); (case kd8_1 => k_is); (case a9 => k_is); (case g9 => k_is); (case tp9 => k_is); (case r9 => k_is); (case l9 => k_is); (case c9 => k_is); (case k9 => k_is); (case a10 => k_is); (case g10 => k_is); (case tp10 => k_is); (case r10 => k_is); (case l10 => k_is); (case c10 => k_is); (case k10 => k_is); (case a11 => k_is); (case g11 => k_is); (case tp11 => k_is); (case r11 => k_is); (case l11 => k_is); (case c11 => k_is); (case k11 => k_is); (case a12 => k_is); (case i12 => k_is); (case l12 => k_is); (case c12 => k_is); (case k12 => k_is); (case a13 => k_is); (case i13 => k_is); (case l13 => k_is); (case c13 => k_is); (case k13 => k_is); (case a14 => k_is); (case i14 => k_is); (case l14 => k_is); (case c14 => k_is); (case k14 => k_is); (case a15 => k_is); (case i15 => k_is); (case l15 => k_is); (case c15 => k_is); (case k15 => k_is); (case ne15 => k_is); (case a16 => k_is); (case l16 => k_is); (case c16 => k_is); (case k16 => k_is); (case a17 => k_is); (case l17 => k_is); (case c17 => k_is); (case k17 => k_is); (case a18 => k_is); (case l18 => k_is); (case c18 => k_is); (case k18 => k_is); (case a19 => k_is); (case l19 => k_is); (case c19 => k_is); (case k19 => k_is); (case a20 => k_is); (case l20 => k_is); (case c20 => k_is); (case k20 => k_is); (case a21 => k_is); (case l21 => k_is); (case c21 => k_is); (case k21 => k_is); (case a22 => k_is); (case l22 => k_is); (case c22 => k_is); (case k22 => k_is); (case a23 => k_is); (case l23 => k_is); (case c23 => k_is); (case k23 => k_is); (case a24 => k_is); (case l24 => k_is); (case c24 => k_is); (case lk24 => k_is); (case rfP24 => first | rfl | decide +kernel | kernel_rfl); (case nt24 => first | rfl | kernel_rfl); (case k24 => k_is); (case a25 => k_is); (case l25 => k_is); (case c25 => k_is); (case lk25 => k_is); (case rfP25 => first | rfl | decide +kernel | kernel_rfl); (case nt25 => first | rfl | kernel_rfl); (case dt24_25 => decide); (case k25 => k_is); (case a26 => k_is); (case l26 => k_is); (case c26 => k_is); (case k26 => k_is); (case z0 => k_is); (case z1 => k_is); (case z2 => k_is); (case z3 => k_is); (case z4 => k_is); (case z6 => k_is); (case z7 => k_is); (case z8 => k_is); (case z10 => k_is); (case z11 => k_is); (case z13 => k_is); (case z14 => k_is); (case z15 => k_is); (case z17 => k_is); (case z24 => k_is); (case z25 => k_is); (case z29 => k_is); (case z42 => k_is); (case z46 => k_is)
