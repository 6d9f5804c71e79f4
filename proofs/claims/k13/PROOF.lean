import PyProof.Rows.All
import Wide.All
import OpenK.AllK
import Wide.FinOn
import HandS.ForMost
import HandS.IsInst
import HandS.Wide
import HandS.Walk
import HandS.Evl
import HandS.TupLe
import HandS.Defaults
import HandS.NoneIn
import HandS.ClsMeth
import HandS.Exc
import HandS.Lambda
import HandS.EndTab
import HandS.Property
import HandS.MakeKw
import HandS.MakeKwOnly
import HandS.ExcOwn
import HandS.WordsExc
import HandS.ExcIs
import KE.KExcSuper
import KE.KTryMore
import KE.KExcIs
import KE.KNest
import HandS.Set
import HandS.SetFor
import HandS.SetTxt0
import HandS.SetTxtIn
import HandS.More
import PyProof.InstNe
import KE.KCallOwn
import KE.KRevSl
import HandS.Star
import HandS.Style
import HandS.Replace
import PyProof.EqAt
import PyProof.NeKinds
import KE.GoesMore
import HandS.IterVal
import HandS.IterNext
import KE.KOwnIter
import PySem.Challenge.RW_lineorigins_k13_histories_written
set_option Elab.async false
set_option linter.all false
set_option maxRecDepth 100000
set_option maxHeartbeats 4000000
namespace My
open PySem L2


/-! ### exceptions of the program's own: __init__ says super().__init__('..') and keeps its argument (over ValueError) -/
section
open PySem.W PySem.Calls PyProof.Rows PySem.HandSPX
def xA (p1 p2 : Pos) : Arguments := { posonlyargs := [], args := [{ arg := "self", annotation := none, pos := p1 }, { arg := "value", annotation := none, pos := p2 }], vararg := none, kwonlyargs := [], kw_defaults := [], kwarg := none, defaults := [] }
def xB (m : Str) (j : Nat) (q0 q1 q2 q3 q4 q5 q6 q7 q8 q9 : Pos) : List Stmt := [.Expr (.Call (.Attribute (.Call (.Name "super" q0) [] [] q1) "__init__" q2) [.Constant (.str m) j q3] [] q4) q5, .Assign [.Attribute (.Name "self" q6) "value" q7] (.Name "value" q8) q9]
def xS : Scope := { kind := .function, names := [(PySem.Str.ofString "self", .local), (PySem.Str.ofString "value", .local), (PySem.Str.ofString "__class__", .free), (PySem.Str.ofString "super", .globalImplicit)], isGenerator := false, isCoroutine := false, more := [] }
theorem xk1 : xS.names.lookup ("super" : Str) = some .globalImplicit := by decide +kernel
theorem xk2 : xS.names.lookup ("__class__" : Str) = some .free := by decide +kernel
theorem xk3 : xS.names.lookup ("self" : Str) = some .local := by decide +kernel
theorem xk4 : xS.names.lookup ("value" : Str) = some .local := by decide +kernel
/-- what the written part says of such a class, at C, and of its __init__, at fI -/
structure XTxt (prog : Program) (K : Frag) (mg : Str → Option Value) (x : Str) (C fI : Addr) : Prop where
  gC : mg x = some (.ref C)
  su : mg "super" = none
  cls : ∃ nm q N bs bm sn sub ab col dd k0 k1 k2 k3 k5, K.lookup C = some (excClassObj nm q C N bs bm true sn sub ab col dd k0 k1 k2 k3 k5 "ValueError.__new__") ∧ refsVE bm = true
  sa : findIn K (.ref C) "__setattr__" = some (some (.builtin "object.__setattr__"))
  ga : findIn K (.ref C) "__getattribute__" = some (some (.builtin "BaseException.__getattribute__"))
  gg : findIn K (.ref C) "__getattr__" = some none
  no : findIn K (.ref C) "value" = some none
  iC : findIn K (.ref C) "__init__" = some (some (.ref fI))
  tI : typeIn K (.ref fI) = some (.type "function")
  kC : keepIn K (.ref C) = true
  exC : subIn K (.ref C) (.type "BaseException") = some true
  veC : subIn K (.ref C) (.type "ValueError") = some true
  tyC : typeIn K (.ref C) = some (.type "type")
  hdC : hasDictIn K C = true
  mC : mroIn K C (.ref C) = some true
  op : nsIn K cStatics "thirdparty.any" = some none
  sI : ks_superIn K C C "__init__" = some (some (.builtin "ValueError.__init__"))
  top : (prog.main.scope.names.lookup ("super" : Str)).isSome = false
  fn : ∃ (oc : Value) (od : Option Addr) (doc pm : Value) (an : Option Addr) (cda cc : Addr) (ct : Value) (osl : Array (Option Value)) (qual m : Str) (j : Nat) (p1 p2 q0 q1 q2 q3 q4 q5 q6 q7 q8 q9 : Pos) (ccl : Value) (cdd : Option Addr) (vs : Array Value) (ccs : Array (Option Value)) (cl : Value) (cld : Option Addr) (csl : Array (Option Value)) (file : Str) (tf : Tok),
    K.lookup fI = some ⟨oc, od, .func (ksFn "__init__" qual (xA p1 p2) (xB m j q0 q1 q2 q3 q4 q5 q6 q7 q8 q9) xS .none .none doc pm an (.ref cda) ct cc), osl⟩ ∧ codeIn K (.ref cda) qual = true ∧
    K.lookup cda = some ⟨ccl, cdd, .fields vs, ccs⟩ ∧ vs[2]? = some (.str file tf) ∧ ((prog.main.file : Str) == file) = true ∧ K.lookup cc = some ⟨cl, cld, .cell (some (.ref C)), csl⟩ ∧ (q2.endLine == q4.line) = true
/-- what __init__ leaves of a fresh exception at x -/
structure XEnd (h h' : Heap) (x C dx : Addr) (v : Value) : Prop where
  keep : ∀ b o, b ≠ x → h.get? b = some o → h'.get? b = some o
  obj : ∃ t1 : Addr, h'.get? x = some { cls := .ref C, dict := some dx, data := .fields #[.ref t1, .none, .none, .none, .bool false, .none] }
  dbig : h.objs.size ≤ dx
  dne : dx ≠ x
  ns : h'.Ns1 dx (fun y => if y = "value" then some v else none)
section
variable {prog : Program} {w : World} {A : Around} {E : Value → Shared → Prop} {R : Result → Shared → Prop} {s : Shared} {K : Frag} {mg : Str → Option Value} {C fI : Addr} {n : Str}
theorem x_init (T : XTxt prog K mg n C fI) {x t0 : Addr} {v : Value} (X : K.In s.heap) (hg : s.heap.Ns mainGlobals mg) (hb : ∃ mb, s.heap.Ns builtinsNs mb ∧ ∀ x : Str, x ≠ "__name__" → mb x = bootBuiltins x) (hlim : s.heap.NoLimit) (hx : s.heap.get? x = some (excO C t0)) (hnx : K.lookup x = none) (hroom : A.depth < recursionLimit)
    (hq : ∀ h' tk dx, XEnd s.heap h' x C dx v → R (.ok (.ret .none)) { s with heap := h', toks := tk }) :
    codeAny (model prog w) A (.call (.ref fI) ⟨[.ref x, v], []⟩) R s := by
  obtain ⟨oc, od, doc, pm, an, cda, cc, ct, osl, qual, m, j, p1, p2, q0, q1, q2, q3, q4, q5, q6, q7, q8, q9, ccl, cdd, vs, ccs, cl, cld, csl, file, tf, ho, hcd, hcode, hvs, hfile, hcell, hline⟩ := T.fn
  obtain ⟨nm, q, N, bs, bm, sn, sub, ab, col, dd, k0, k1, k2, k3, k5, hC, hbm⟩ := T.cls
  obtain ⟨mb, hb, hbb⟩ := hb
  have hcl : clsIn K C = some { name := nm, bases := bs, mro := .ref C :: bm, ns := N, qualname := q, hasDict := true, slotNames := sn, subclasses := sub, abstract := ab, collection := col, hasDel := false } := by unfold clsIn; rw [hC] <;> rfl
  refine ks_codeAny_call_defAt (fd := ksFn "__init__" qual (xA p1 p2) (xB m j q0 q1 q2 q3 q4 q5 q6 q7 q8 q9) xS .none .none doc pm an (.ref cda) ct cc) (body := xB m j q0 q1 q2 q3 q4 q5 q6 q7 q8 q9) (binds := [("self", .ref x), ("value", v)]) hroom (X _ _ ho) rfl hlim (codeRec_of X hcd) rfl (BindsTo.of_eq (by first | rfl | with_unfolding_all rfl)) (show ∀ x ∈ xS.names, x.2 ≠ .cell by decide +kernel) (by
    intro y hy
    simp only [List.mem_cons, List.not_mem_nil, or_false] at hy
    rcases hy with rfl | rfl
    · show xS.names.lookup ("self" : Str) = _
      decide +kernel
    · show xS.names.lookup ("value" : Str) = _
      decide +kernel) (fun h₁ hns k => ?_) rfl rfl rfl
  have X₁ : K.In h₁ := X.keeps k
  have hx₁ := k _ _ hx
  have I₁ : InstAt h₁ x (excO C t0) C none := ⟨hx₁, rfl, rfl, trivial⟩
  obtain ⟨oD, hD1, hD2⟩ : ∃ oD, h₁.get? C = some oD ∧ ∃ cd, oD.data = .cls cd := ⟨_, X₁ _ _ hC, _, rfl⟩
  obtain ⟨cdD, hD2⟩ := hD2
  refine ks_wpAt_execs_cons (ks_wpAt_Expr_any (ks_wpAt_MethodCall (pl := pure false) ?_ ?_))
  rotate_left
  · show (attributeBase _ _ _ _ >>= fun ov => standAt _ >>= fun _ => methodCall _ _ _ _ _ ov _ _ _) = _
    refine congrArg _ (funext fun ov => congrArg _ (funext fun _ => ?_))
    unfold methodCall methodCallPos
    rw [hline]
    rfl
  refine ks_wpAt_super_base (env := ksEnv qual xS s.heap.objs.size fI (.ref cda) cc) (ar := { arg := "self", annotation := none, pos := p1 }) xk1 xk2 (by decide) rfl (X₁ _ _ ho) rfl rfl rfl (X₁ _ _ hcode) rfl hvs hfile T.top ?_
  refine ks_loadName_global rfl xk1 (loadGlobal_builtin (env := ksEnv qual xS s.heap.objs.size fI (.ref cda) cc) (hg.keeps k) T.su (hb.keeps k) ((hbb _ (by decide +kernel)).trans (by first | rfl | decide +kernel)) ⟨rfl, ?_⟩)
  refine wpAny_loadName_free rfl xk2 rfl ⟨_, X₁ _ _ hcell, rfl⟩ ?_
  refine wpAny_loadName_local rfl xk3 hns (v := .ref x) (by first | rfl | with_unfolding_all rfl | kernel_rfl) ?_
  refine ks_wpAny_isType_cls hD1 hD2 ⟨rfl, ?_⟩
  refine ks_wpAny_call_super hD1 hD2 hx₁ rfl (fun c e => by cases e) (looks_mroIn X₁ T.mC) (fun h₂ e₂ k₂ => ?_)
  have X₂ : K.In h₂ := X₁.keeps k₂
  have hx₂ := k₂ _ _ hx₁
  have I₂ : InstAt h₂ x (excO C t0) C none := ⟨hx₂, rfl, rfl, trivial⟩
  have hm : alongIn K "__init__" (((Value.ref C :: bm).dropWhile (· != .ref C)).drop 1) = some (some (.builtin "ValueError.__init__")) := by
    have z := T.sI
    unfold ks_superIn at z
    rw [hcl] at z
    exact z
  refine kxs_getMethod kxs_ValueError e₂ (looks_opaque X₂ T.op) (l₀ := .ref C :: bm) (fun A Q E s k q => wpAny_bind ((looks_clsIn X₂ hcl) A _ E s k (wpAny_pure q))) rfl X₂ hm (I₂.type.andThen (looks_subIn X₂ T.veC)) (ks_ne X₂ I₂ hcl) (by decide) ?_
  have k₃ : ∀ b o, h₂.get? b = some o → (h₂.push (kxs_mw "ValueError.__init__" x)).get? b = some o := fun b o e => Heap.get?_push_of_some _ e
  have hu : (h₂.push (kxs_mw "ValueError.__init__" x)).get? h₂.objs.size = some (kxs_mw "ValueError.__init__" x) := Heap.get?_push_at rfl rfl
  generalize hh : h₂.push (kxs_mw "ValueError.__init__" x) = h₃ at k₃ hu ⊢
  generalize hu' : h₂.objs.size = u at hu ⊢
  have X₃ : K.In h₃ := X₂.keeps k₃
  have hx₃ := k₃ _ _ hx₂
  have ns₃ := (hns.keeps k₂).keeps k₃
  refine kxs_callWith (i := "ValueError.__init__") (x := x) rfl (evalArgs_plain ?_)
  show wpAny _ _ (spliced ((false, eval (.Constant (.str m) j q3) _) :: backTo q4 (starEach [] _))) _ _ _
  refine Calls.spliced_cons (Calls.Constant_str (Calls.spliced_nil ⟨hu, ?_⟩))
  refine wpAny_call (codeAny_of_tree ?_)
  show wpAny _ _ (callAny (.ref u) ⟨_, []⟩) _ _ _
  simp only [callAny]
  refine wpAny_bind (wpAny_load hu ?_)
  simp only [kxs_mw, show (Value.type "method-wrapper" == Value.type "method" || Value.type "method-wrapper" == Value.type "builtin_function_or_method" || Value.type "method-wrapper" == Value.type "method-wrapper") = true by decide, if_true]
  refine KFB.if_so (by decide) ?_
  refine wpAny_bind (check_bound_init F.excBase_ValueError.toExcCallFacts (X₃ _ _ hC) hx₃ rfl ?_)
  refine wpAny_bind (wpAny_pure (wpAny_pure ?_))
  refine ⟨plainId_quiet F.excBase_ValueError.init.plain _, codeAny_builtin F.excBase_ValueError.initEntry ?_⟩
  refine exc_init_tree (cls := .ref C) (t0 := t0) (dv := none) (c2 := .none) (c3 := .none) (b4 := .bool false) hx₃ (by show 1 ≤ sizeLine; decide) (fun h₄ k₄ hx₄ _ => ?_)
  have hxL : s.heap.objs.size ≠ x := Nat.ne_of_gt (Heap.lt_size hx)
  have X₄ : K.In h₄ := fun b o e => k₄ b o (fun z => by rw [z, hnx] at e; cases e) (X₃ b o e)
  have ns₄ : h₄.Ns s.heap.objs.size (fun y => [(("self" : Str), Value.ref x), ("value", v)].reverse.lookup y) := by
    obtain ⟨oL, es, ep, hL, r⟩ := ns₃
    exact ⟨oL, es, ep, k₄ _ _ hxL hL, r⟩
  refine ks_wpAt_execs_cons (wpAt_of_wpAny (plainObj_wpAny_Assign_Attribute ?_))
  refine wpAny_Name (wpAny_loadName_local rfl xk4 ns₄ (v := v) (by first | rfl | with_unfolding_all rfl | kernel_rfl) ?_) (by decide)
  refine wpAny_Name (wpAny_loadName_local rfl xk3 ns₄ (v := .ref x) (by first | rfl | with_unfolding_all rfl | kernel_rfl) ?_) (by decide)
  refine set_plain X₄ (ox := excRec (.ref C) h₃.objs.size none .none .none (.bool false)) (od := none) ⟨hx₄, rfl, rfl, trivial⟩ T.sa ?_
  refine exc_osa X₄ hx₄ hcl (show refsVE (.ref C :: bm) = true from hbm) rfl T.no (fun h₅ tk₅ dx k₅ dn dne hx₅ hn₅ => ?_)
  have sz1 : s.heap.objs.size < h₁.objs.size := hns.lt
  have sz4 : s.heap.objs.size ≤ h₄.objs.size := Nat.le_of_lt ns₄.lt
  refine wpAt_of_wpAny (wpAny_execs_nil ?_)
  refine hq h₅ _ dx ⟨fun b o hb e => k₅ b o hb (k₄ b o hb (k₃ b o (k₂ b o (k b o e)))), ⟨_, hx₅⟩, Nat.le_trans sz4 dn, dne, hn₅⟩
/-- a made exception -/
structure XMade (h h' : Heap) (e C d : Addr) (v : Value) : Prop where
  keep : ∀ b o, h.get? b = some o → h'.get? b = some o
  new : h.objs.size ≤ e
  obj : ∃ oe vs, h'.get? e = some oe ∧ oe.cls = .ref C ∧ oe.dict = some d ∧ oe.data = .fields vs ∧ vs[1]? = some .none
  dbig : h.objs.size ≤ d
  dne : d ≠ e
  ns : h'.Ns1 d (fun y => if y = "value" then some v else none)
theorem x_made (T : XTxt prog K mg n C fI) {v : Value} (X : K.In s.heap) (hg : s.heap.Ns mainGlobals mg) (hb : ∃ mb, s.heap.Ns builtinsNs mb ∧ ∀ x : Str, x ≠ "__name__" → mb x = bootBuiltins x) (hlim : s.heap.NoLimit) (hroom : A.depth + 1 < recursionLimit)
    (hq : ∀ h' tk e d, XMade s.heap h' e C d v → R (.ok (.ret (.ref e))) { s with heap := h', toks := tk }) :
    codeAny (model prog w) A (.call (.ref C) ⟨[v], []⟩) R s := by
  obtain ⟨nm, q, N, bs, bm, sn, sub, ab, col, dd, k0, k1, k2, k3, k5, hC, hbm⟩ := T.cls
  obtain ⟨hp, g, dr, tk, os⟩ := s
  have k : ∀ b o, hp.get? b = some o → ((hp.push (kdv_tup [v])).push (excO C hp.objs.size)).get? b = some o := fun b o e => Heap.get?_push_of_some _ (Heap.get?_push_of_some _ e)
  have hnx : K.lookup (hp.objs.size + 1) = none := by
    cases e : K.lookup (hp.objs.size + 1) with
    | none => rfl
    | some o =>
      have z : hp.get? (hp.objs.size + 1) = some o := X _ _ e
      have := Heap.lt_size z
      exact absurd (Nat.lt_of_succ_lt this) (Nat.lt_irrefl _)
  refine call_own F.excBase_ValueError (fun Y => refsVE_contains Y bm hbm) (X _ _ hC) (looks_findIn X T.iC) (fun self => bind_fn X self T.tI) (by show 1 ≤ sizeLine; decide) ?_
  obtain ⟨mb, hb, hbb⟩ := hb
  refine x_init (s := ⟨(hp.push (kdv_tup [v])).push (excO C hp.objs.size), g, dr, tk, os⟩) (t0 := hp.objs.size) T (X.keeps k) (hg.keeps k) ⟨mb, hb.keeps k, hbb⟩ (hlim.keeps k) (by heap_get) hnx hroom fun h' tk' dx M => ?_
  obtain ⟨t1, hx⟩ := M.obj
  have z : hp.objs.size + 1 + 1 ≤ dx := by
    have q := M.dbig
    rw [Heap.size_push, Heap.size_push] at q
    exact q
  exact ⟨rfl, hq h' tk' (hp.objs.size + 1) dx ⟨fun b o e => M.keep b o (Nat.ne_of_lt (Nat.lt_succ_of_lt (Heap.lt_size e))) (k b o e), Nat.le_succ _, ⟨_, _, hx, rfl, rfl, rfl, rfl⟩, Nat.le_trans (Nat.le_trans (Nat.le_succ _) (Nat.le_succ _)) z, M.dne, M.ns⟩⟩
end
end
theorem relO_val {v : V} {v' : Value} (r : RelV v v') (f : Str) : RelO (List.lookup f [(("value" : Str), v)]) (if f = "value" then some v' else none) := by
  by_cases hw : f = "value"
  · subst hw
    rw [if_pos rfl, List.lookup_cons_self]
    exact r
  · rw [if_neg hw, List.lookup_cons, show (f == ("value" : Str)) = false from by simpa using hw]
    trivial
section
variable {X : Cx} {C fI : Addr} {n : Str}
/-- C(e), as an exception that is made -/
def tMkX (C : Addr) (ta : TA) : St → Hp → XK → Prop := fun σ H Q => ta σ H fun vs H1 => ∃ v, vs = [v] ∧ ∀ d, H1 d = none → Q (.ref C) (some d) (upd H1 d (.xd [(("value" : Str), v)]))
theorem pmk_x {a : Expr} {ta : TA} {p pos : Pos} {k : Nat} (T : XTxt X.prog X.K X.mg n C fI) (hr : Room k X.A) (ha : PA X [a] ta) (hg : Gl X n) (hdb : (n == ("__debug__" : Str)) = false := by decide)
    (he : starEach (a :: []) X.env = (false, eval a X.env) :: starEach [] X.env := by rfl) (hpl : (backTo pos (starEach [] X.env)).any (·.1) = false := by rfl) :
    PMk X (.Call (.Name n p) [a] [] pos) (tMkX C ta) := by
  intro pins s σ H Q I h
  refine wpAny_Call_Name_kw (ld_glob I hg T.gC ?_ hdb)
  refine PySem.W.callWith_K (h₀ := X.base) I.ok.mod.kin T.kC (thn (ha.run pos pins s σ H _ I h) fun us s1 ⟨vs, H1, I1, r1, v, ev, q1⟩ => ⟨I1.kIn, ?_⟩) he hpl
  subst ev
  cases r1 with
  | @cons _ v' _ us' rv rn =>
    cases rn
    show wpAny _ _ (call (.ref C) [v']) _ _ _
    have hlim := I1.nolimit
    have mg1 := I1.mod.glob.keeps I1.bk
    obtain ⟨mb, mb1, mb2⟩ := I1.mod.blt
    have mb1 := mb1.keeps I1.bk
    obtain ⟨hp, g, dr, tk, os⟩ := s1
    refine wpAny_call (x_made T I1.kIn mg1 ⟨mb, mb1, mb2⟩ hlim (by have := hr.dp; omega) fun h' tk' e d M => ?_)
    show MkP X pins σ Q (.ref e) ⟨h', g, dr, tk', os⟩
    obtain ⟨oe, fv, hoe, hc, hd, hdat, h1⟩ := M.obj
    obtain ⟨G', g1, g2⟩ := restrict h' fun b => decide (b ≠ e)
    have gk : ∀ b, b ≠ e → G'.get? b = h'.get? b := fun b hb => g1 b (decide_eq_true hb)
    have ge : G'.get? e = none := g2 e (by simp)
    have old : ∀ b o, hp.get? b = some o → G'.get? b = some o := fun b o q => (gk b (Nat.ne_of_lt (Nat.lt_of_lt_of_le (Heap.lt_size q) M.new))).trans (M.keep b o q)
    have ob : ObjOk X.prog X.w (upd H1 d (.xd [(("value" : Str), v)])) G' d (.xd [(("value" : Str), v)]) := ⟨_, M.ns.at (fun o q => (gk d M.dne).trans q), fun f => relO_val rv f⟩
    have J : Inv X pins σ (upd H1 d (.xd [(("value" : Str), v)])) ⟨G', g, dr, tk', os⟩ := I1.laid (t' := tk') old M.dbig ob
    refine ⟨e, oe, fv, ⟨G', g, dr, tk', os⟩, _, .ref C, some d, rfl, J, fun b o q => ?_, ge, hoe, ⟨hc, hd⟩, hdat, h1, ?_, rfl, I1.bare, raises_own T.exC T.tyC, q1 d (I1.hok.fresh M.dbig)⟩
    · by_cases hb : b = e
      · have q' : G'.get? b = some o := q
        rw [hb, ge] at q'
        cases q'
      · exact (gk b hb).symm.trans q
    · rw [upd_ne (Ne.symm M.dne)]
      exact I1.hok.fresh M.new
/-- raise C(e) -/
def tRaiseX (C : Addr) (W : WX) (ta : TA) : TS := fun _ σ H => tMkX C ta σ H fun cls d H' => W cls d σ H'
theorem ps_raiseX {a : Expr} {ta : TA} {W : WX} {p pos pos2 : Pos} {k : Nat} (hc : X.calm = true) (T : XTxt X.prog X.K X.mg n C fI) (hr : Room k X.A) (tk : Takes X W) (ha : PA X [a] ta) (hg : Gl X n) (hdb : (n == ("__debug__" : Str)) = false := by decide)
    (he : starEach (a :: []) X.env = (false, eval a X.env) :: starEach [] X.env := by rfl) (hpl : (backTo pos (starEach [] X.env)).any (·.1) = false := by rfl) :
    PS X (.Raise (some (.Call (.Name n p) [a] [] pos)) none pos2) (tRaiseX C W ta) := ps_raise hc tk (pmk_x T hr ha hg hdb he hpl)
end



/-! ### an exception that was caught and is kept under a name -/
/-- at a: an exception of the class cls, its dict d -/
def XO (cls : Value) (d : Option Addr) (a : Addr) : HO := .ext fun h => ∃ (oe : Obj) (vs : Array Value), h.get? a = some oe ∧ Zc cls d oe ∧ oe.data = .fields vs
theorem xo_ok {P : Program} {w : World} {H : Hp} {h : Heap} {a : Addr} {cls : Value} {d : Option Addr} {oe : Obj} {vs : Array Value} (e : h.get? a = some oe) (z : Zc cls d oe) (hd : oe.data = .fields vs) : ObjOk P w H h a (XO cls d a) :=
  ⟨⟨oe, vs, e, z, hd⟩, ⟨oe, e⟩, fun _ _ ⟨o, v, q, r⟩ k => ⟨o, v, k o q, r⟩⟩
theorem xo_at {P : Program} {w : World} {H : Hp} {h : Heap} {a : Addr} {cls : Value} {d : Option Addr} (hok : HOk P w H h) (e : H a = some (XO cls d a)) : ∃ (oe : Obj) (vs : Array Value), h.get? a = some oe ∧ Zc cls d oe ∧ oe.data = .fields vs := by
  have x : ObjOk P w H h a (.ext fun h => ∃ (oe : Obj) (vs : Array Value), h.get? a = some oe ∧ Zc cls d oe ∧ oe.data = .fields vs) := hok a _ e
  exact x.1
section
variable {X : Cx} {pins : List (Addr × Obj)} {σ σ0 : St} {H : Hp} {s sI : Shared} {a : Addr} {o : HO}
/-- what came since the entry may be tracked from now on -/
theorem track (J : Inv X pins σ0 H sI) (hna : sI.heap.get? a = none) (I : Inv X pins σ H s) (na : H a = none) (new : ObjOk X.prog X.w (upd H a o) s.heap a o) : Inv X pins σ (upd H a o) s := by
  have neI : ∀ {b : Addr} {u : Obj}, sI.heap.get? b = some u → b ≠ a := fun {b u} e z => by
    rw [z, hna] at e
    cases e
  have keepN : ∀ {b : Addr} {u : HO}, H b = some u → b ≠ a := fun {b u} e => ne_of_none e na
  refine ⟨I.ok, I.os, I.bare, ⟨I.base.keep, I.base.slot, fun b u e n hx => ?_, I.base.there, fun b xs e => ?_, fun b u v e => ?_, fun b ps e => ?_⟩, I.loc, I.cell, ?_, fun x c e => ?_, fun p hp => ?_, fun b u e => ?_, I.len⟩
  · obtain ⟨u', q⟩ := J.base.there b u e hx
    rw [upd_ne (neI q)]
    exact I.base.free b u e n hx
  · have q := I.base.tups b xs e
    rw [upd_ne (keepN q)]
    exact q
  · have q := I.base.frzs b u v e
    rw [upd_ne (keepN q)]
    exact q
  · obtain ⟨m, q⟩ := I.base.tbls b ps e
    exact ⟨m, by rw [upd_ne (keepN q)]; exact q⟩
  · obtain ⟨m, ⟨oL, es, ep, hL, _⟩, _⟩ := J.loc
    rw [upd_ne (neI hL)]
    exact I.free
  · obtain ⟨v, oc, hc, _⟩ := J.cell x c e
    rw [upd_ne (neI hc)]
    exact I.freeC x c e
  · obtain ⟨e, n, ne, nf, d⟩ := I.pin p hp
    obtain ⟨e', _⟩ := J.pin p hp
    exact ⟨e, by rw [upd_ne (neI e')]; exact n, ne, nf, d⟩
  · by_cases hb : b = a
    · subst hb
      rw [upd_same] at e
      cases e
      exact new
    · rw [upd_ne hb] at e
      exact (I.hok b u e).stay (fun _ _ _ q => q) (fun c q => by rw [upd_ne (keepN q)]; exact q) fun c xs q => by rw [upd_ne (keepN q)]; exact q
end
section
variable {X : Cx} {x1 x2 x3 n y : Str} {c1 c2 c3 : Value} {i j : Nat} {body : List Stmt} {a1 a2 a3 tp py pn' pa pos pos' : Pos} {kt : Nat} {tb : WX → TS}
theorem flyingZ_keeps {B h h' : Heap} {l : List Env} {a : Addr} {Z : Obj → Prop} (f : HandSPX.FlyingZ B l a Z h) (k : ∀ b o, h.get? b = some o → h'.get? b = some o) : HandSPX.FlyingZ B l a Z h' := by
  obtain ⟨f1, f2, f3, oe, vs, T, oT, ts, he, hz, hd, h1, hn, hne, hT, hdT, h3⟩ := f
  exact ⟨fun b o q => k b o (f1 b o q), f2, f3.of_keeps fun b o q _ => ⟨o, k b o q, rfl⟩, oe, vs, T, oT, ts, k _ _ he, hz, hd, h1, hn, hne, k _ _ hT, hdT, h3⟩
/-- what is wished of what is raised in: try: .. except (x1, x2, x3) as n: y = n -/
def wKeep (K : PySem.W.Frag) (cs : List Value) (i j : Nat) (D : Ends) : WX := fun cls d σ H =>
  PySem.W.exmAny K cls cs = some true ∧ ∀ a, H a = none → D.nx (((σ.set i (some (.ref a))).set j (some (.ref a))).set i none) (upd H a (XO cls d a))
theorem ps_try_keep (hs : X.stack = X.env :: X.outer) (hf : X.env.frame = some X.env.locals) (hN : X.N.Nodup) (hi : X.N[i]? = some n) (hj : X.N[j]? = some y) (hln : X.env.kindOf n = some .local) (hly : X.env.kindOf y = some .local)
    (g1 : Gl X x1) (g2 : Gl X x2) (g3 : Gl X x3) (m1 : X.mg x1 = some c1) (m2 : X.mg x2 = some c2) (m3 : X.mg x3 = some c3)
    (hb : ∀ (W : WX) (pn : List (Addr × Obj)) (xe : Value → Shared → Prop), Takes (X.tr pn xe) W → PSs (X.tr pn xe) body (tb W))
    (d1 : (x1 == ("__debug__" : Str)) = false := by decide) (d2 : (x2 == ("__debug__" : Str)) = false := by decide) (d3 : (x3 == ("__debug__" : Str)) = false := by decide) (dn : (n == ("__debug__" : Str)) = false := by decide) (dc : (n == ("__classdict__" : Str)) = false := by decide)
    (hsw : swapsWith (.Name n pn') (some (.Name y py)) pa.line X.env = pure false := by rfl) :
    PS X (.Try body [.ExceptHandler (some (.Tuple [.Name x1 a1, .Name x2 a2, .Name x3 a3] kt tp)) (some n) [.Assign [.Name y py] (.Name n pn') pa] pos'] [] [] pos) (fun D σ H => tb (wKeep X.K [c1, c2, c3] i j D) D σ H) := by
  refine ⟨fun pins s σ H D I h => ?_⟩
  have ok := I.ok
  have hfr : X.A.frames = some (X.env :: X.outer) := by rw [ok.frames, hs]
  have hloc : Loc X.env.scope n := .inl hln
  refine wpAny_Try_except ?_
  refine wpAny_mono ((hb (wKeep X.K [c1, c2, c3] i j D) (X.pn ++ pins) (fun e s₁ => wpAny (model X.prog X.w) X.A (noteFrame e X.env) (fun _ s₂ => wpAny (model X.prog X.w) X.A (setFlight e none) (fun _ s₃ =>
    wpAny (model X.prog X.w) X.A (handleBy e X.env [.ExceptHandler (some (.Tuple [.Name x1 a1, .Name x2 a2, .Name x3 a3] kt tp)) (some n) [.Assign [.Name y py] (.Name n pn') pa] pos']) (SP X pins D) X.xe s₃) X.xe s₂) X.xe s₁) (fun u s' xx => ?_)).run [] s σ H D (I.toTry _) h) (fun f s1 hsp => ?_) (fun e s1 he => he)
  · obtain ⟨a, B, sI, pins', σ', H', cls, d, rfl, J', nb, up, sky, na, os, ag, hm, hyes⟩ := xx
    have J : Inv X pins σ' H' sI := J'.ofTry ok
    have hBa : B.get? a = none := by
      rcases sky with ⟨_, q, _⟩ | ⟨_, q, _⟩ | ⟨_, q, _⟩ <;> exact q
    have sky' : Sky B (X.env :: X.outer) a (Zc cls d) X.env.locals s'.heap := by rw [← hs]; exact sky
    show wpAny (model X.prog X.w) X.A (noteFrame (.ref a) X.env) _ _ _
    refine Sky.land Zc.steady hfr hf sky' fun h3 fl3 up3 => ?_
    have J3 : Inv X pins σ' H' { s' with heap := h3 } := J.landed nb fl3.1 (up.trans up3) os ag
    obtain ⟨oe3, vs3, he3, hz3, hd3⟩ := fl3.there
    have nfr : a ∉ frs (X.env :: X.outer) := fun hm => by
      obtain ⟨_, o', e', hnf⟩ := fl3.2.2.1.mem hm
      rw [he3] at e'
      cases e'
      exact hnf _ hd3
    have hsI : sI.heap.get? a = none := by
      cases q : sI.heap.get? a with
      | none => rfl
      | some o =>
        have z := nb a o q (by rw [hs]; exact nfr)
        rw [hBa] at z
        cases z
    have nL : a ≠ X.env.locals := fun z => nfr (List.mem_filterMap.mpr ⟨X.env, List.mem_cons_self, by rw [hf, z]⟩)
    have nF : a ∉ X.fs := fun hm => by
      obtain ⟨e, he, q⟩ := List.mem_filterMap.mp hm
      exact nfr (List.mem_filterMap.mpr ⟨e, List.mem_cons_of_mem _ he, q⟩)
    have S3 := J3.suite he3 hd3 na nL nF
    refine wpAny_handleBy_cons (codeAny_handlers_test ?_) (by intro q; cases q)
    have LT : PySem.W.Looks (model X.prog X.w) h3 (typeOf (.ref a)) cls := fun A Q E s k q => wpAny_typeOf_ref (k _ _ he3) (by rw [hz3.1]; exact q)
    refine wpAny_Tuple ?_
    refine wpAny_items_cons (ld_glob (X := X.suite a ((a, oe3) :: (X.pn ++ pins))) S3 g1 m1 ?_ d1)
    refine wpAny_items_cons (ld_glob (X := X.suite a ((a, oe3) :: (X.pn ++ pins))) S3 g2 m2 ?_ d2)
    refine wpAny_items_cons (ld_glob (X := X.suite a ((a, oe3) :: (X.pn ++ pins))) S3 g3 m3 ?_ d3)
    refine wpAny_items_nil ⟨by show 3 ≤ sizeLine; decide, ?_⟩
    have kp : ∀ q o, h3.get? q = some o → (h3.push { cls := .type "tuple", data := .seq [c1, c2, c3].toArray }).get? q = some o := fun _ _ z => Heap.get?_push_of_some _ z
    refine (PySem.W.exm_tup3 (J3.kIn.keeps kp) (LT.keeps kp) (Heap.get?_push_size h3 rfl) hm).here ?_
    have fl3' : HandSPX.FlyingZ B (X.env :: X.outer) a (Zc cls d) (h3.push { cls := .type "tuple", data := .seq [c1, c2, c3].toArray }) := flyingZ_keeps fl3 kp
    refine codeAny_handlers_suite_as ?_
    refine HandSPX.lands_againZ fl3' fun h4 fl4 up4 => ?_
    have J4 : Inv X pins σ' H' { s' with heap := h4 } := J.landed nb fl4.1 (((up.trans up3).trans (Heap.UpToSlots.of_keeps kp)).trans up4) os ag
    obtain ⟨oe4, vs4, he4, hz4, hd4⟩ := fl4.there
    have S4 := J4.suite he4 hd4 na nL nF
    refine store_ok (X := X.suite a ((a, oe4) :: (X.pn ++ pins))) (v := .ref a) S4 hN hi hloc rfl (fun s5 S5 => ?_) (.inr hln)
    have lenN : i < σ'.length := by rw [J.len]; exact (List.getElem?_eq_some_iff.mp hi).1
    have rd : PSs (X.suite a ((a, oe4) :: (X.pn ++ pins))) [.Assign [.Name y py] (.Name n pn') pa] (tAsg (tVar i) (gName j)) :=
      pss_one (ps_set (X := X.suite a ((a, oe4) :: (X.pn ++ pins))) (i := j) hN hj (.inl hly) (pe_var (i := i) hi (.inl hln) dn dc) hsw (.inr hly))
    refine wpAny_mono (rd.run [] s5 _ H' { nx := fun σ6 H6 => σ6 = (σ'.set i (some (.ref a))).set j (some (.ref a)) ∧ H6 = H', rt := fun _ _ => False } S5 ⟨.ref a, by rw [List.getElem?_set_self lenN], rfl, rfl⟩) (fun f s6 hsp => ?_) (fun _ _ z => False.elim z)
    cases f with
    | next =>
      obtain ⟨σ6, H6, S6, rfl, rfl⟩ := hsp
      refine gone_ok (X := X.suite a ((a, oe4) :: (X.pn ++ pins))) S6 hN hi hln fun s7 S7 => ?_
      obtain ⟨e7, _⟩ := S7.pin (a, oe4) (List.mem_append_left _ List.mem_cons_self)
      exact ⟨_, _, track J hsI (S7.unsuite ok) na (xo_ok e7 hz4 hd4), hyes a na⟩
    | brk =>
      obtain ⟨_, _, _, q⟩ := hsp
      exact q.elim
    | cont =>
      obtain ⟨_, _, _, q⟩ := hsp
      exact q.elim
    | ret u =>
      obtain ⟨_, _, _, _, _, q⟩ := hsp
      exact q.elim
  · cases f with
    | next =>
      obtain ⟨σ', H', J', q⟩ := hsp
      exact wpAny_execs_nil ⟨σ', H', J'.ofTry ok, q⟩
    | brk =>
      obtain ⟨σ', H', J', q⟩ := hsp
      exact ⟨σ', H', J'.ofTry ok, q⟩
    | cont =>
      obtain ⟨σ', H', J', q⟩ := hsp
      exact ⟨σ', H', J'.ofTry ok, q⟩
    | ret u =>
      obtain ⟨v, σ', H', J', r, q⟩ := hsp
      exact ⟨v, σ', H', J'.ofTry ok, r, q⟩
end



/-! ## operators of an own class (own work over the library's rules) -/
section
variable {prog : Program} {w : World} {A : Around} {E : Value → Shared → Prop} {s : Shared} {K : PySem.W.Frag} {x C f : Addr} {ox : Obj} {od : Option Obj} {i : Int} {t : Tok}
/-- int's own slot declines an instance -/
theorem int_declines {name : Str} {id : String} {B : Builtin} (nm : String) (g : Int → Int → Sem Fin) {Q : Value → Shared → Prop} (slot : Slot "int" name id) (entry : entryFor table id = some B)
    (hB : B = Builtin.Int.intBinary nm g) (args : argsOk id ⟨[.int i t, .ref x], []⟩)
    (hx : s.heap.get? x = some ox) (hd : ∀ p, ox.data ≠ .prim p) (h : Q .notImplemented s) : wpAny (model prog w) A (call (.builtin id) [.int i t, .ref x]) Q E s := by
  refine wpAny_call_entry slot (typeIs_int s i t) entry ?_ args
  subst hB
  have e1 : slotArgs nm 1 ⟨[.int i t, .ref x], []⟩ = pure (.int i t, [.ref x]) := rfl
  have e2 : Builtin.Int.intOfSelf (.int i t) = pure i := rfl
  unfold Builtin.Int.intBinary
  refine wpAny_bind (wpAny_of_eq e1 ?_)
  refine wpAny_bind (wpAny_of_eq e2 ?_)
  refine wpAny_bind ?_
  show wpAny _ _ (load x >>= fun o => match o.data with | .prim (.int i _) => pure (some i) | _ => pure none) _ _ _
  refine wpAny_bind (wpAny_load hx ?_)
  obtain ⟨c, dd, dt, sl⟩ := ox
  cases dt with
  | prim p => exact absurd rfl (hd p)
  | _ => exact wpAny_pure (wpAny_bind (wpAny_rule (wpAny_pure ⟨_, rfl, h⟩)))
/-- int op instance, by the instance's reflected method -/
theorem bin_refl {op : Operator} {idI : String} {f0 : Addr} {Q : Value → Shared → Prop} (X : K.In s.heap) (I : PySem.W.InstAt s.heap x ox C od) (s1 : PySem.W.selfFirst K C = true)
    (slot : Slot "int" (PySem.dunder op.info.2) idI) (fills : fillsNumberSlot (.type "int") op.info.2 = pure true) (hs0 : PySem.W.findIn K (.ref C) (PySem.dunder op.info.2) = some (some (.ref f0)))
    (hs : PySem.W.findIn K (.ref C) (dunderR op.info.2) = some (some (.ref f))) (hf : PySem.W.isFn K (.ref f) = true) (hsub : PySem.W.subIn K (.ref C) (.type "int") = some false)
    (hni : ∀ Q' : Value → Shared → Prop, Q' .notImplemented s → wpAny (model prog w) A (call (.builtin idI) [.int i t, .ref x]) Q' E s)
    (h : wpAny (model prog w) A (call (.ref f) [.ref x, .int i t]) (PySem.W.CmpBack Q) E s) : wpAny (model prog w) A (binaryOp op (.int i t) (.ref x)) Q E s := by
  obtain ⟨cd, rest, hcd, hm⟩ := PySem.W.ksp_first s1
  rcases hi : op.info with ⟨sym, nm⟩
  rw [hi] at hs hs0 slot fills
  dsimp only at hs hs0 slot fills
  have two := PySem.W.ksp_try X I hs hf h
  simp only [binaryOp, hi]
  refine wpAny_holding (wpAny_bind ?_)
  simp only [binaryOp1]
  refine wpAny_bind (wpAny_typeOf (typeIs_int s i t) (wpAny_bind (I.type.here (wpAny_bind (wpAny_of_eq fills ?_)))))
  have hne : (Value.type "int" == Value.ref C) = false := Bool.eq_false_iff.mpr fun q => by cases beq_iff_eq.mp q
  simp only [hne, Bool.false_eq_true, if_false]
  refine wpAny_bind ((PySem.W.fills_K X hcd hm hs0).here ?_)
  simp only [Bool.and_self, if_true]
  refine wpAny_bind ((PySem.W.looks_subIn X hsub).here ?_)
  have hpy : numberSlotInPython (.type "int") nm = pure false := rfl
  simp only [Bool.false_eq_true, if_false, pure_bind, Bool.not_false, Bool.and_self, if_true, hpy]
  refine wpAny_bind (wpAny_tryMethod_declines (typeIs_int s i t) slot (hni _ ⟨rfl, ?_⟩))
  refine wpAny_bind (wpAny_mono two (fun r s' z => ?_) fun _ _ e => e)
  obtain ⟨v, rfl, hq⟩ := z
  exact wpAny_bind (wpAny_rule (wpAny_pure (wpAny_pure hq)))
/-- int cmp instance -/
theorem cmp_refl {op : CmpOp} {idI : String} {Q : Value → Shared → Prop} (hu : A.units < cLine) (X : K.In s.heap) (I : PySem.W.InstAt s.heap x ox C od) (slot : Slot "int" (cmpInfo op).2.1 idI)
    (hs : PySem.W.findIn K (.ref C) (cmpInfo op).2.2 = some (some (.ref f))) (hf : PySem.W.isFn K (.ref f) = true) (hsub : PySem.W.subIn K (.ref C) (.type "int") = some false)
    (hni : ∀ Q' : Value → Shared → Prop, Q' .notImplemented s → wpAny (model prog w) A (call (.builtin idI) [.int i t, .ref x]) Q' E s)
    (h : wpAny (model prog w) A (call (.ref f) [.ref x, .int i t]) (PySem.W.CmpBack Q) E s) : wpAny (model prog w) A (richCompare op (.int i t) (.ref x)) Q E s := by
  have two : wpAny (model prog w) A (tryCompare (.ref x) (cmpInfo op).2.2 (.int i t)) (fun r s' => ∃ v, r = some v ∧ Q v s') E s := by
    unfold tryCompare
    refine wpAny_bind (PySem.W.ifBound_K X I hs hf (wpAny_mono h (fun v s' hv => ?_) fun _ _ e => e))
    cases v <;> first | exact hv.elim | exact wpAny_pure ⟨_, rfl, hv⟩
  unfold richCompare
  simp only [(typeIs_int s i t).oneThing_none]
  refine wpAny_holding (wpAny_bind (wpAny_cRoomFor hu ?_))
  refine wpAny_bind (wpAny_typeOf (typeIs_int s i t) (wpAny_bind (I.type.here ?_)))
  have hne : (Value.type "int" != Value.ref C) = true := by
    rw [bne, Bool.not_eq_true']
    exact Bool.eq_false_iff.mpr fun q => by cases beq_iff_eq.mp q
  simp only [hne, if_true]
  refine wpAny_bind ((PySem.W.looks_subIn X hsub).here ?_)
  simp only [Bool.false_eq_true, if_false, Bool.not_false, if_true]
  refine wpAny_bind (wpAny_tryCompare_declines (typeIs_int s i t) slot (hni _ ⟨rfl, ?_⟩))
  refine wpAny_bind (wpAny_mono two (fun r s' z => ?_) fun _ _ e => e)
  obtain ⟨v, rfl, hq⟩ := z
  exact wpAny_pure hq
end

section
variable {X : Cx}
theorem cmpBack_of {pins : List (Addr × Obj)} {σ : St} {Q : VK} {u : Value} {s' : Shared} (h : EP X pins σ Q u s') : PySem.W.CmpBack (EP X pins σ Q) u s' := by
  cases u with
  | notImplemented =>
    obtain ⟨v, H', I, r, q⟩ := h
    cases v with
    | non => cases r
    | bl _ => cases r
    | int _ => obtain ⟨t, e⟩ := r; cases e
    | str _ => obtain ⟨t, e⟩ := r; cases e
    | byt _ => obtain ⟨t, e⟩ := r; cases e
    | flt _ => obtain ⟨t, e⟩ := r; cases e
    | ref _ => cases r
    | ty _ => cases r
  | _ => exact h
/-- what the class is asked for an operator -/
structure OpF (K : PySem.W.Frag) (C f : Addr) (op : Operator) : Prop where
  s1 : PySem.W.selfFirst K C = true
  hs : PySem.W.findIn K (.ref C) (PySem.dunder op.info.2) = some (some (.ref f))
  hf : PySem.W.isFn K (.ref f) = true
  rr : ∃ rc, PySem.W.findIn K (.ref C) (dunderR op.info.2) = some rc ∧ (rc = none ∨ ∃ g : Addr, rc = some (.ref g))
  i1 : ∃ fo, PySem.W.findIn K (.type "int") (PySem.dunder op.info.2) = some fo
  i2 : ∃ ro, PySem.W.findIn K (.type "int") (dunderR op.info.2) = some ro
  su : PySem.W.subIn K (.type "int") (.ref C) = some false
/-- x op y, x an instance of C, y an int or an instance of C: by the method's promise -/
def rOwn (C : Addr) (sp : Sp) (E : XK) : R2 := fun x y H Q => ∃ a dx fs, x = .ref a ∧ H a = some (.ins C dx fs) ∧ ((∃ i, y = .int i) ∨ ∃ b dy gs, y = .ref b ∧ H b = some (.ins C dy gs)) ∧ sp [x, y] H Q E
theorem op_own {CX : CXT} {k : Nat} {op : Operator} {C f : Addr} {fd : FuncData} {ps : List Str} {sp : Sp} {E : XK} (O : OpF X.K C f op) (F : FnOk X.prog X.w X.K X.mg X.base CX k f fd ps sp) (hr : Room k X.A) (hb : Binds X.K fd ps []) (hx : Passes CX X E) :
    OpR X (binaryOp op) (rOwn C sp E) := fun pins s σ H x y v u Q I rx ry h => by
  obtain ⟨a, dx, fs, rfl, ha, hy, q⟩ := h
  cases rx
  obtain ⟨mA, J, _⟩ := ins_get I.hok ha
  obtain ⟨od, J, _⟩ := J.look
  obtain ⟨m, hF⟩ := I.fr
  obtain ⟨rc, hrc, hp⟩ := O.rr
  obtain ⟨fo, h1⟩ := O.i1
  obtain ⟨ro, h2⟩ := O.i2
  rcases hy with ⟨i, rfl⟩ | ⟨b, dy, gs, rfl, hb'⟩
  · obtain ⟨t, rfl⟩ := ry
    refine PySem.W.ksp_binT hF I.ok.mod.kin J rfl O.s1 O.hs O.hf hrc hp h1 h2 O.su ?_
    exact thn (run_fn (vs := [.ref a, .int i]) F hr hb .nil hx I (.cons rfl (.cons ⟨t, rfl⟩ .nil)) q) fun _ _ z => cmpBack_of z
  · cases ry
    obtain ⟨mB, J', _⟩ := ins_get I.hok hb'
    obtain ⟨od', J', _⟩ := J'.look
    refine PySem.W.binop_K hF I.ok.mod.kin J J'.type O.s1 O.hs O.hf ?_
    exact thn (run_fn (vs := [.ref a, .ref b]) F hr hb .nil hx I (.cons rfl (.cons rfl .nil)) q) fun _ _ z => cmpBack_of z
/-- int op instance -/
structure OpI (K : PySem.W.Frag) (C f : Addr) (op : Operator) (id : String) : Prop where
  s1 : PySem.W.selfFirst K C = true
  h0 : ∃ f0 : Addr, PySem.W.findIn K (.ref C) (PySem.dunder op.info.2) = some (some (.ref f0))
  hs : PySem.W.findIn K (.ref C) (dunderR op.info.2) = some (some (.ref f))
  hf : PySem.W.isFn K (.ref f) = true
  su : PySem.W.subIn K (.ref C) (.type "int") = some false
/-- what is known of int's own slot -/
structure IntOp (op : Operator) (id : String) : Prop where
  slot : Slot "int" (PySem.dunder op.info.2) id
  fills : fillsNumberSlot (.type "int") op.info.2 = pure true
  decl : ∀ {prog : Program} {w : World} {A : Around} {E : Value → Shared → Prop} {s : Shared} {x : Addr} {ox : Obj} {i : Int} {t : Tok} {Q : Value → Shared → Prop}, s.heap.get? x = some ox → (∀ p, ox.data ≠ .prim p) → Q .notImplemented s →
    wpAny (model prog w) A (call (.builtin id) [.int i t, .ref x]) Q E s
theorem int_add : IntOp .Add "int.__add__" := ⟨F.slot_int_add, F.fills_int_add, fun hx hd h => int_declines _ _ F.slot_int_add F.entry_int_add rfl (F.args_int_add_2 _ _) hx hd h⟩
theorem int_sub : IntOp .Sub "int.__sub__" := ⟨F.slot_int_sub, F.fills_int_sub, fun hx hd h => int_declines _ _ F.slot_int_sub F.entry_int_sub rfl (F.args_int_sub_2 _ _) hx hd h⟩
theorem int_mul : IntOp .Mult "int.__mul__" := ⟨F.slot_int_mul, F.fills_int_mul, fun hx hd h => int_declines _ _ F.slot_int_mul F.entry_int_mul rfl (F.args_int_mul_2 _ _) hx hd h⟩
def rOwnI (C : Addr) (sp : Sp) (E : XK) : R2 := fun x y H Q => ∃ i b dy gs, x = .int i ∧ y = .ref b ∧ H b = some (.ins C dy gs) ∧ sp [y, x] H Q E
theorem op_ownI {CX : CXT} {k : Nat} {op : Operator} {id : String} {C f : Addr} {fd : FuncData} {ps : List Str} {sp : Sp} {E : XK} (N : IntOp op id) (O : OpI X.K C f op id) (F : FnOk X.prog X.w X.K X.mg X.base CX k f fd ps sp) (hr : Room k X.A) (hb : Binds X.K fd ps []) (hx : Passes CX X E) :
    OpR X (binaryOp op) (rOwnI C sp E) := fun pins s σ H x y v u Q I rx ry h => by
  obtain ⟨i, b, dy, gs, rfl, rfl, hb', q⟩ := h
  cases ry
  obtain ⟨t, rfl⟩ := rx
  obtain ⟨mB, J0, _⟩ := ins_get I.hok hb'
  obtain ⟨od, J, _⟩ := J0.look
  obtain ⟨f0, h0⟩ := O.h0
  refine bin_refl I.kIn J O.s1 N.slot N.fills h0 O.hs O.hf O.su (fun Q' q' => N.decl J.at_ (fun p => by intro z; cases z) q') ?_
  exact thn (run_fn (vs := [.ref b, .int i]) F hr hb .nil hx I (.cons rfl (.cons ⟨t, rfl⟩ .nil)) q) fun _ _ z => cmpBack_of z
/-- comparisons -/
structure CmF (K : PySem.W.Frag) (C f : Addr) (op : CmpOp) : Prop where
  hs : PySem.W.findIn K (.ref C) (cmpInfo op).2.1 = some (some (.ref f))
  hf : PySem.W.isFn K (.ref f) = true
  n1 : PySem.W.notFirst K C (.type "int") = true
theorem notFirst_self {K : PySem.W.Frag} {C : Addr} : PySem.W.notFirst K C (.ref C) = true := by simp [PySem.W.notFirst]
theorem op_ownC {CX : CXT} {k : Nat} {op : CmpOp} {C f : Addr} {fd : FuncData} {ps : List Str} {sp : Sp} {E : XK} (hop : ∀ a b, compareOp op a b = richCompare op a b) (O : CmF X.K C f op) (F : FnOk X.prog X.w X.K X.mg X.base CX k f fd ps sp) (hr : Room k X.A) (hb : Binds X.K fd ps []) (hx : Passes CX X E) :
    OpR X (compareOp op) (rOwn C sp E) := fun pins s σ H x y v u Q I rx ry h => by
  obtain ⟨a, dx, fs, rfl, ha, hy, q⟩ := h
  cases rx
  obtain ⟨mA, J, _⟩ := ins_get I.hok ha
  obtain ⟨od, J, _⟩ := J.look
  obtain ⟨m, hF⟩ := I.fr
  rw [hop]
  rcases hy with ⟨i, rfl⟩ | ⟨b, dy, gs, rfl, hb'⟩
  · obtain ⟨t, rfl⟩ := ry
    refine PySem.W.cmp_K hr.units0 hF I.ok.mod.kin J (PySem.W.Looks.of_pure rfl) O.n1 O.hs O.hf ?_
    exact thn (run_fn (vs := [.ref a, .int i]) F hr hb .nil hx I (.cons rfl (.cons ⟨t, rfl⟩ .nil)) q) fun _ _ z => cmpBack_of z
  · cases ry
    obtain ⟨mB, J', _⟩ := ins_get I.hok hb'
    obtain ⟨od', J', _⟩ := J'.look
    refine PySem.W.cmp_K hr.units0 hF I.ok.mod.kin J J'.type notFirst_self O.hs O.hf ?_
    exact thn (run_fn (vs := [.ref a, .ref b]) F hr hb .nil hx I (.cons rfl (.cons rfl .nil)) q) fun _ _ z => cmpBack_of z
structure CmI (K : PySem.W.Frag) (C f : Addr) (op : CmpOp) : Prop where
  hs : PySem.W.findIn K (.ref C) (cmpInfo op).2.2 = some (some (.ref f))
  hf : PySem.W.isFn K (.ref f) = true
  su : PySem.W.subIn K (.ref C) (.type "int") = some false
structure IntCm (op : CmpOp) (id : String) : Prop where
  slot : Slot "int" (cmpInfo op).2.1 id
  hop : ∀ a b, compareOp op a b = richCompare op a b
  decl : ∀ {prog : Program} {w : World} {A : Around} {E : Value → Shared → Prop} {s : Shared} {x : Addr} {ox : Obj} {i : Int} {t : Tok} {Q : Value → Shared → Prop}, s.heap.get? x = some ox → (∀ p, ox.data ≠ .prim p) → Q .notImplemented s →
    wpAny (model prog w) A (call (.builtin id) [.int i t, .ref x]) Q E s
theorem int_lt : IntCm .Lt "int.__lt__" := ⟨F.slot_int_lt, fun _ _ => rfl, fun hx hd h => int_declines _ _ F.slot_int_lt F.entry_int_lt rfl (F.args_int_lt_2 _ _) hx hd h⟩
theorem int_le : IntCm .LtE "int.__le__" := ⟨F.slot_int_le, fun _ _ => rfl, fun hx hd h => int_declines _ _ F.slot_int_le F.entry_int_le rfl (F.args_int_le_2 _ _) hx hd h⟩
theorem int_gt : IntCm .Gt "int.__gt__" := ⟨F.slot_int_gt, fun _ _ => rfl, fun hx hd h => int_declines _ _ F.slot_int_gt F.entry_int_gt rfl (F.args_int_gt_2 _ _) hx hd h⟩
theorem int_ge : IntCm .GtE "int.__ge__" := ⟨F.slot_int_ge, fun _ _ => rfl, fun hx hd h => int_declines _ _ F.slot_int_ge F.entry_int_ge rfl (F.args_int_ge_2 _ _) hx hd h⟩
theorem int_eq : IntCm .Eq "int.__eq__" := ⟨F.slot_int_eq, fun _ _ => rfl, fun hx hd h => int_declines _ _ F.slot_int_eq F.entry_int_eq rfl (F.args_int_eq_2 _ _) hx hd h⟩
theorem int_ne : IntCm .NotEq "int.__ne__" := ⟨F.slot_int_ne, fun _ _ => rfl, fun hx hd h => int_declines _ _ F.slot_int_ne F.entry_int_ne rfl (F.args_int_ne_2 _ _) hx hd h⟩
theorem op_ownCI {CX : CXT} {k : Nat} {op : CmpOp} {id : String} {C f : Addr} {fd : FuncData} {ps : List Str} {sp : Sp} {E : XK} (N : IntCm op id) (O : CmI X.K C f op) (F : FnOk X.prog X.w X.K X.mg X.base CX k f fd ps sp) (hr : Room k X.A) (hb : Binds X.K fd ps []) (hx : Passes CX X E) :
    OpR X (compareOp op) (rOwnI C sp E) := fun pins s σ H x y v u Q I rx ry h => by
  obtain ⟨i, b, dy, gs, rfl, rfl, hb', q⟩ := h
  cases ry
  obtain ⟨t, rfl⟩ := rx
  obtain ⟨mB, J0, _⟩ := ins_get I.hok hb'
  obtain ⟨od, J, _⟩ := J0.look
  rw [N.hop]
  refine cmp_refl hr.units0 I.kIn J N.slot O.hs O.hf O.su (fun Q' q' => N.decl J.at_ (fun p => by intro z; cases z) q') ?_
  exact thn (run_fn (vs := [.ref b, .int i]) F hr hb .nil hx I (.cons rfl (.cons ⟨t, rfl⟩ .nil)) q) fun _ _ z => cmpBack_of z
end

/-! ### -x, abs(x), bool(x), C.m(..) of an own class -/
section
variable {prog : Program} {w : World} {A : Around} {E : Value → Shared → Prop} {s : Shared} {x : Addr}
theorem bool_inst {Q : Value → Shared → Prop} (h : wpAny (model prog w) A.in1.in1 (truthy (.ref x)) (fun b s' => Q (.bool b) s') E s) : wpAny (model prog w) A (call (.type "bool") [.ref x]) Q E s := by
  refine callType_newIn F.called_bool F.newNe_bool (F.typeCall_bool_1 _) (F.newCall_bool_1 _) (fun obj => F.args_object_init_2 obj _) F.entry_bool_new
    (S := fun A R s => wpAny (model prog w) A.in1 (truthy (.ref x)) (fun b s' => R (.ok (.ret (.bool b))) s') (fun e s' => R (.error e) s') s) (fun A R s hs => ?_) ?_
  · obtain ⟨hp, g, d, tk, os⟩ := s
    have f1 := F.conv_sub_bool
    unfold Builtin.«bool.__new__»
    repeat (any_goals (first | assumption | (with_reducible refine wpAny_bind (wpAny_mono hs (fun b s' hb => ?_) fun _ _ e => e)) | wp_step))
    all_goals first | exact hb | skip
  · exact wpAny_mono h (fun b s' hb => ⟨rfl, hb⟩) fun _ _ e => e
end
section
variable {X : Cx} {CX : CXT} {k : Nat} {C f p : Addr} {fd : FuncData} {ps : List Str} {sp : Sp} {E : XK}
/-- a def called somewhere below, from a built-in -/
theorem run_fnA {pins : List (Addr × Obj)} {σ : St} {H : Hp} {s : Shared} {Q : VK} {us : List Value} {vs : List V} {A : Around} (room : Room k A) (fr : A.frames = X.A.frames) (F : FnOk X.prog X.w X.K X.mg X.base CX k f fd ps sp) (hb : Binds X.K fd ps []) (hx : Passes CX X E)
    (I : Inv X pins σ H s) (r : Vals vs us) (h : sp vs H Q E) : wpAny (model X.prog X.w) A (call (.ref f) us) (EP X pins σ Q) X.xe s := by
  have e0 : Env0 X.prog X.w X.K X.mg X.base A X.stack s H := by
    have e := I.env0
    exact ⟨by rw [fr]; exact e.frames, e.mod, e.bs, e.bsz, e.funs, e.frf, e.hok, e.bare⟩
  have hl : us.length = ps.length := by rw [← r.length]; exact F.len _ _ _ _ h
  refine wpAny_call (codeAny_mono (F.run A X.stack s H ⟨us, []⟩ us vs Q E room e0 (by
    have := hb s us I.kIn (by simpa using hl)
    simpa using this) r h) fun r s' hq => ?_)
  cases r with
  | error e => exact hx pins σ H s e s' I hq
  | ok fl =>
    cases fl with
    | ret u => exact I.after hq
    | next => exact False.elim hq
    | brk => exact False.elim hq
    | cont => exact False.elim hq
theorem room_in1 {A : Around} (h : Room (k + 1) A) : Room k A.in1 := h.in1
structure UnF (K : PySem.W.Frag) (C f : Addr) (nm : Str) : Prop where
  hs : PySem.W.findIn K (.ref C) nm = some (some (.ref f))
  hf : PySem.W.isFn K (.ref f) = true
def rOwn1 (C : Addr) (sp : Sp) (E : XK) : V → Hp → VK → Prop := fun x H Q => ∃ a dx fs, x = .ref a ∧ H a = some (.ins C dx fs) ∧ sp [x] H Q E
theorem un_own (O : UnF X.K C f "__neg__") (F : FnOk X.prog X.w X.K X.mg X.base CX k f fd ps sp) (hr : Room k X.A) (hb : Binds X.K fd ps []) (hx : Passes CX X E) : UnR X (unaryOp .USub) (rOwn1 C sp E) := fun pins s σ H x v Q I rx h => by
  obtain ⟨a, dx, fs, rfl, ha, q⟩ := h
  cases rx
  obtain ⟨mA, J, _⟩ := ins_get I.hok ha
  obtain ⟨od, J, _⟩ := J.look
  obtain ⟨m, hF⟩ := I.fr
  refine PySem.W.ksp_neg hF I.ok.mod.kin J O.hs O.hf ?_
  exact run_fn (vs := [.ref a]) F hr hb .nil hx I (.cons rfl .nil) q
def rOwnC1 (C : Addr) (sp : Sp) (E : XK) : List V → Hp → VK → Prop := fun vs H Q => ∃ a dx fs, vs = [.ref a] ∧ H a = some (.ins C dx fs) ∧ sp vs H Q E
theorem call_absO (O : UnF X.K C f "__abs__") (F : FnOk X.prog X.w X.K X.mg X.base CX k f fd ps sp) (hr : Room (k + 1) X.A) (hb : Binds X.K fd ps []) (hx : Passes CX X E) : CallR X (.builtin "abs") (rOwnC1 C sp E) := fun pins s σ H xs us Q I r h => by
  obtain ⟨a, dx, fs, rfl, ha, q⟩ := h
  obtain ⟨u, rfl, ru⟩ := vals1 r
  cases ru
  obtain ⟨mA, J, _⟩ := ins_get I.hok ha
  obtain ⟨od, J, _⟩ := J.look
  refine Calls.call_function_entry PyProof.Rows.kind_abs PyProof.Rows.plain_abs PyProof.Rows.entry_abs (PyProof.Rows.args_abs _) ?_
  unfold Builtin.«abs»
  refine wpAny_bind (m := oneArg "abs" _) (wpAny_pure ?_)
  refine wpAny_bind (m := callSpecial? (.ref a) (Str.ofString "__abs__")) (PySem.W.special_fn I.kIn J O.hs (beq_iff_eq.mp O.hf) ?_)
  exact thn (run_fnA (vs := [.ref a]) (room_in1 hr) rfl F hb hx I (.cons rfl .nil) q) fun v s' z => wpAny_pure ⟨_, rfl, z⟩
theorem boolBack_of {pins : List (Addr × Obj)} {σ : St} {Q : VK} {u : Value} {s' : Shared} (h : EP X pins σ (fun v H' => (∃ b, v = .bl b) ∧ Q v H') u s') : PySem.W.BoolBack (fun b s' => EP X pins σ Q (.bool b) s') u s' := by
  obtain ⟨v, H', I, r, ⟨b, rfl⟩, q⟩ := h
  cases r
  exact ⟨.bl b, H', I, rfl, q⟩
def rOwnB (C : Addr) (sp : Sp) (E : XK) : List V → Hp → VK → Prop := fun vs H Q => ∃ a dx fs, vs = [.ref a] ∧ H a = some (.ins C dx fs) ∧ sp vs H (fun v H' => (∃ b, v = .bl b) ∧ Q v H') E
theorem call_boolO (O : UnF X.K C f "__bool__") (F : FnOk X.prog X.w X.K X.mg X.base CX k f fd ps sp) (hr : Room (k + 2) X.A) (hb : Binds X.K fd ps []) (hx : Passes CX X E) : CallR X (.type "bool") (rOwnB C sp E) := fun pins s σ H xs us Q I r h => by
  obtain ⟨a, dx, fs, rfl, ha, q⟩ := h
  obtain ⟨u, rfl, ru⟩ := vals1 r
  cases ru
  obtain ⟨mA, J, _⟩ := ins_get I.hok ha
  obtain ⟨od, J, _⟩ := J.look
  obtain ⟨m, hF⟩ := I.fr
  refine bool_inst (PySem.W.truthy_K hF I.ok.mod.kin J O.hs O.hf ?_)
  exact thn (run_fnA (vs := [.ref a]) (room_in1 (room_in1 hr)) rfl F hb hx I (.cons rfl .nil) q) fun v s' z => boolBack_of z
/-- C.m is a staticmethod: its record at p, its def at g -/
structure SMet (K : PySem.W.Frag) (C : Addr) (mc : Value) (m : Str) (p g : Addr) : Prop where
  at_ : PySem.W.findCls K (.ref C) mc m = some (.get (.builtin "staticmethod.__get__") (.ref p) .none (.ref C))
  rc : ∃ rest, PySem.W.recIn K p "staticmethod" = some (.ref g :: rest)
  kp : PySem.W.keepIn K (.ref g) = true
def tSMeth (C : Addr) (sp : Sp) (E : XK) (ta : TE) (t : TA) : TE := fun σ H Q => ta σ H fun x H1 => x = .ref C ∧ t σ H1 fun vs H2 => sp vs H2 Q E
theorem pe_smeth {o e : Expr} {es : List Expr} {m : Str} {pos apos : Pos} {ta : TE} {t : TA} {pl : Sem Bool} {mc : Value} (he : PE X o ta) (r : ClX.CRead X.K C mc) (c : SMet X.K C mc m p f) (F : FnOk X.prog X.w X.K X.mg X.base CX k f fd ps sp) (hr : Room k X.A) (hb : Binds X.K fd ps []) (hx : Passes CX X E) (ha : PA X (e :: es) t)
    (hst : starEach (e :: es) X.env = (false, eval e X.env) :: starEach es X.env := by rfl) (hpl : (backTo pos (starEach es X.env)).any (·.1) = false := by rfl)
    (ht : eval (.Call (.Attribute o m apos) (e :: es) [] pos) X.env = (do
      let ov ← eval o X.env
      standAt apos.atName
      let (f, first) ← holding [ov] (getMethod ov m pl)
      callWith pos f first (backTo pos (starEach (e :: es) X.env)) (backToKw pos (keywordEach [] X.env))) := by rfl) :
    PE X (.Call (.Attribute o m apos) (e :: es) [] pos) (tSMeth C sp E ta t) := by
  refine ⟨fun pins s σ H Q I h => ?_⟩
  refine PySem.W.methodCall_KW (pl := pl) (thn (he.run pins s σ H _ I h) fun u s1 ⟨x, H1, I1, rx, ex, q⟩ => ?_) ht
  subst ex
  obtain rfl : u = Value.ref C := rx
  obtain ⟨rest, hp⟩ := c.rc
  refine PySem.W.method_cls I1.kIn r.ga ?_
  refine PySem.W.cls_bind I1.kIn r.rd c.at_ ?_
  refine wpAny_call (PySem.W.sm_get (s := { s1 with toks := s1.toks + 1 }) I1.kIn hp (PySem.W.handed_on rfl ?_))
  refine PySem.W.callWith_K (h₀ := X.base) (first := []) I.ok.mod.kin c.kp (thn (ha.run pos pins _ σ H1 _ (I1.tok _) q) fun us s2 ⟨vs, H2, I2, rv, q2⟩ => ⟨I2.kIn, ?_⟩) hst hpl
  exact run_fn F hr hb .nil hx I2 rv (by rw [List.append_nil]; exact q2)
end
/-! ### isinstance with own classes -/
structure TyF (K : PySem.W.Frag) (C : Addr) : Prop where
  cl : Cls K C
  ha : PySem.W.findIn K (.ref C) "__class__" = some (some (.builtin "object.__class__"))
  hn : PySem.W.specialIn K (.builtin "object.__class__") "__get__" = some (some (.builtin "getset_descriptor.__get__"))
  tk : PySem.W.takesIn K (.builtin "object.__class__") = some true
  hm : PySem.W.mroIn K C (.type "object") = some true
/-- the type of a value -/
def tyO : Option HO → Option Value
  | some (.lst _) => some (.type "list")
  | some (.tup _) => some (.type "tuple")
  | some (.dK _) => some (.type "dict")
  | some (.ins C _ _) => some (.ref C)
  | _ => none
def tyV (H : Hp) : V → Option Value
  | .non => some (.type "NoneType")
  | .bl _ => some (.type "bool")
  | .int _ => some (.type "int")
  | .str _ => some (.type "str")
  | .ref a => tyO (H a)
  | _ => none
theorem tyV_non {H : Hp} : tyV H .non = some (.type "NoneType") := rfl
theorem tyV_bl {H : Hp} {b : Bool} : tyV H (.bl b) = some (.type "bool") := rfl
theorem tyV_int {H : Hp} {i : Int} : tyV H (.int i) = some (.type "int") := rfl
theorem tyV_str {H : Hp} {z : Str} : tyV H (.str z) = some (.type "str") := rfl
theorem tyV_ref {H : Hp} {a : Addr} : tyV H (.ref a) = tyO (H a) := rfl
theorem tyO_lst {xs : List V} : tyO (some (.lst xs)) = some (.type "list") := rfl
theorem tyO_tup {xs : List V} : tyO (some (.tup xs)) = some (.type "tuple") := rfl
theorem tyO_dK {kvs : List (Key × V)} : tyO (some (.dK kvs)) = some (.type "dict") := rfl
theorem tyO_ins {C dx : Addr} {fs : List (Str × V)} : tyO (some (.ins C dx fs)) = some (.ref C) := rfl
theorem tyV_ok {K : PySem.W.Frag} {H : Hp} {v : V} {t : Value} (h : tyV H v = some t) (hC : ∀ C, t = .ref C → TyF K C) : TyX K H v t := by
  cases v with
  | non => cases h; exact .base .non
  | bl b => cases h; exact .base (.bl b)
  | int i => cases h; exact .base (.int i)
  | str z => cases h; exact .base (.str z)
  | byt b => cases h
  | flt b => cases h
  | ty n => cases h
  | ref a =>
    have h : tyO (H a) = some t := h
    cases e : H a with
    | none => rw [e] at h; cases h
    | some o =>
      rw [e] at h
      cases o with
      | lst xs => cases h; exact .base (.lst e)
      | tup xs => cases h; exact .base (.tup e)
      | dK kvs => cases h; exact .base (.dK e)
      | ins C dx fs =>
        cases h
        have q := hC C rfl
        exact .base (.ins e q.cl q.ha q.hn q.tk q.hm)
      | _ => cases h
def clsV : V → Option Value
  | .ty n => some (.type n)
  | .ref C => some (.ref C)
  | _ => none
theorem clsV_ty {n : String} : clsV (.ty n) = some (.type n) := rfl
theorem clsV_ref {C : Addr} : clsV (.ref C) = some (.ref C) := rfl
def clsVs : List V → Option (List Value)
  | [] => some []
  | v :: r => (clsV v).bind fun u => (clsVs r).map fun us => u :: us
theorem clsVs_nil : clsVs [] = some [] := rfl
theorem clsVs_ty {n : String} {r : List V} : clsVs (.ty n :: r) = (clsVs r).map fun us => Value.type n :: us := rfl
theorem clsVs_ref {C : Addr} {r : List V} : clsVs (.ref C :: r) = (clsVs r).map fun us => Value.ref C :: us := rfl
theorem clsV_ok {v : V} {u : Value} (h : clsV v = some u) : ClsV v u := by
  cases v with
  | ty n => cases h; exact .ty n
  | ref C => cases h; exact .own C
  | _ => cases h
theorem clsVs_ok : ∀ {vs : List V} {us : List Value}, clsVs vs = some us → Paired ClsV vs us
  | [], us, h => by cases h; exact .nil
  | v :: r, us, h => by
    unfold clsVs at h
    cases e : clsV v with
    | none => rw [e] at h; cases h
    | some u =>
      rw [e] at h
      cases e2 : clsVs r with
      | none => rw [e2] at h; cases h
      | some ws => rw [e2] at h; cases h; exact .cons (clsV_ok e) (clsVs_ok e2)
section
variable {X : Cx}
def rIsW (K : PySem.W.Frag) : List V → Hp → VK → Prop := fun vs H Q => ∃ x c u t b, vs = [x, c] ∧ clsV c = some u ∧ tyV H x = some t ∧ (∀ C, t = .ref C → TyF K C) ∧ PySem.W.kitOne K t u = some b ∧ Q (.bl b) H
theorem call_isW : CallR X (.builtin "isinstance") (rIsW X.K) := fun pins s σ H xs us Q I r h => by
  obtain ⟨x, c, u, t, b, h1, h2, h3, h4, h5, h6⟩ := h
  exact call_isi pins s σ H xs us Q I r ⟨x, c, t, u, b, h1, clsV_ok h2, tyV_ok h3 h4, h5, h6⟩
def rIsWT (K : PySem.W.Frag) : List V → Hp → VK → Prop := fun vs H Q => ∃ x p cs us t b, vs = [x, .ref p] ∧ H p = some (.tup cs) ∧ clsVs cs = some us ∧ tyV H x = some t ∧ (∀ C, t = .ref C → TyF K C) ∧ PySem.W.kitAny K t us = some b ∧ Q (.bl b) H
theorem call_isWT : CallR X (.builtin "isinstance") (rIsWT X.K) := fun pins s σ H xs us Q I r h => by
  obtain ⟨x, p, cs, ws, t, b, h1, h2, h3, h4, h5, h6, h7⟩ := h
  exact call_isiT pins s σ H xs us Q I r ⟨x, p, cs, t, ws, b, h1, h2, clsVs_ok h3, tyV_ok h4 h5, h6, h7⟩
theorem kitAny_t {K : PySem.W.Frag} {t c : Value} {r : List Value} (h : PySem.W.kitOne K t c = some true) : PySem.W.kitAny K t (c :: r) = some true := by
  unfold PySem.W.kitAny
  rw [h]
theorem kitAny_f {K : PySem.W.Frag} {t c : Value} {r : List Value} (h : PySem.W.kitOne K t c = some false) : PySem.W.kitAny K t (c :: r) = PySem.W.kitAny K t r := by
  rw [PySem.W.kitAny]
  rw [h]
theorem kit_self {K : PySem.W.Frag} {t : Value} : PySem.W.kitOne K t t = some true := by
  unfold PySem.W.kitOne
  rw [if_pos (by simp)]
end
theorem kit_out {K : PySem.W.Frag} {C : Addr} {b : String} {r : Bool} (h : PySem.W.subIn K (.ref C) (.type b) = some r) (hm : PySem.W.kitMeta b = true := by decide) : PySem.W.kitOne K (.ref C) (.type b) = some r := by
  unfold PySem.W.kitOne
  rw [if_neg (by simp)]
  show (if PySem.W.kitMeta b = true then _ else _) = _
  rw [if_pos hm]
  exact h
theorem kit_in {K : PySem.W.Frag} {C : Addr} {t : Value} {r : Bool} (ic : PySem.W.isClsIn K C = true) (ty : PySem.W.typeIn K (.ref C) = some (.type "type")) (h : PySem.W.subIn K t (.ref C) = some r) (ne : t ≠ .ref C) : PySem.W.kitOne K t (.ref C) = some r := by
  unfold PySem.W.kitOne
  rw [if_neg (by simpa using ne)]
  show (if ((PySem.W.clsIn K C).isSome && PySem.W.typeIn K (.ref C) == some (.type "type")) = true then _ else _) = _
  have i2 : (PySem.W.clsIn K C).isSome = true := ic
  rw [if_pos (by rw [i2, ty]; rfl)]
  exact h

/-! ### comparisons with anything on the right; two rules for one node -/
section
variable {X : Cx}
def rOr (r r' : R2) : R2 := fun x y H Q => r x y H Q ∨ r' x y H Q
theorem opOr {f : Value → Value → Sem Value} {r r' : R2} (h : OpR X f r) (h' : OpR X f r') : OpR X f (rOr r r') := fun pins s σ H x y v u Q I rx ry q => by
  rcases q with q | q
  · exact h pins s σ H x y v u Q I rx ry q
  · exact h' pins s σ H x y v u Q I rx ry q
theorem looksTy {M : Model} {pins : List (Addr × Obj)} {σ : St} {H : Hp} {s : Shared} {y : V} {u t : Value} (I : Inv X pins σ H s) (r : RelV y u) (h : tyV H y = some t) : PySem.W.Looks M s.heap (typeOf u) t := by
  cases y with
  | non => cases h; cases r; exact PySem.W.Looks.of_pure rfl
  | bl b => cases h; cases r; exact PySem.W.Looks.of_pure rfl
  | int i => cases h; obtain ⟨_, rfl⟩ := r; exact PySem.W.Looks.of_pure rfl
  | str z => cases h; obtain ⟨_, rfl⟩ := r; exact PySem.W.Looks.of_pure rfl
  | byt b => cases h
  | flt b => cases h
  | ty n => cases h
  | ref a =>
    cases r
    have h : tyO (H a) = some t := h
    cases e : H a with
    | none => rw [e] at h; cases h
    | some o =>
      rw [e] at h
      cases o with
      | lst xs =>
        cases h
        obtain ⟨_, _, n, _, h1⟩ := (show ObjOk X.prog X.w H s.heap a (.lst xs) from I.hok a _ e)
        exact (PySem.W.Looks.ld h1).andThen .now
      | tup xs =>
        cases h
        obtain ⟨_, _, _, o, h1, h2, _⟩ := (show ObjOk X.prog X.w H s.heap a (.tup xs) from I.hok a _ e)
        exact h2 ▸ (PySem.W.Looks.ld h1).andThen .now
      | dK kvs =>
        cases h
        obtain ⟨_, _, vs, _, o, es, ep, h1, h2, _⟩ := (show ObjOk X.prog X.w H s.heap a (.dK kvs) from I.hok a _ e)
        exact h2.1 ▸ (PySem.W.Looks.ld h1).andThen .now
      | ins C dx fs =>
        cases h
        obtain ⟨mA, J, _⟩ := ins_get I.hok e
        obtain ⟨od, J, _⟩ := J.look
        exact J.type
      | _ => cases h
def rOwnA (K : PySem.W.Frag) (C : Addr) (sp : Sp) (E : XK) : R2 := fun x y H Q => ∃ a dx fs t, x = .ref a ∧ H a = some (.ins C dx fs) ∧ tyV H y = some t ∧ PySem.W.notFirst K C t = true ∧ sp [x, y] H Q E
theorem op_ownCA {CX : CXT} {k : Nat} {op : CmpOp} {C f : Addr} {fd : FuncData} {ps : List Str} {sp : Sp} {E : XK} (hop : ∀ a b, compareOp op a b = richCompare op a b) (O : CmF X.K C f op) (F : FnOk X.prog X.w X.K X.mg X.base CX k f fd ps sp) (hr : Room k X.A) (hb : Binds X.K fd ps []) (hx : Passes CX X E) :
    OpR X (compareOp op) (rOwnA X.K C sp E) := fun pins s σ H x y v u Q I rx ry h => by
  obtain ⟨a, dx, fs, t, rfl, ha, hy, hn, q⟩ := h
  cases rx
  obtain ⟨mA, J, _⟩ := ins_get I.hok ha
  obtain ⟨od, J, _⟩ := J.look
  obtain ⟨m, hF⟩ := I.fr
  rw [hop]
  refine PySem.W.cmp_K hr.units0 hF I.ok.mod.kin J (looksTy I ry hy) hn O.hs O.hf ?_
  exact thn (run_fn (vs := [.ref a, y]) F hr hb .nil hx I (.cons rfl (.cons ry .nil)) q) fun _ _ z => cmpBack_of z
end

/-! ### defs that are called where no repr is under way (A.guards = some []): what repr of a list asks -/
structure FnG (P : Program) (w : World) (K : PySem.W.Frag) (mg : Str → Option Value) (base : Heap) (CX : CXT) (k : Nat) (f : Addr) (fd : FuncData) (ps : List Str) (sp : Sp) : Prop where
  len : ∀ vs H Q E, sp vs H Q E → vs.length = ps.length
  run : ∀ (A : Around) (outer : List Env) (s : Shared) (H : Hp) (args : Args) (us : List Value) (vs : List V) (Q : VK) (E : XK), Room k A → A.guards = some [] → Env0 P w K mg base A outer s H → BindsTo s fd args (ps.zip us) → Vals vs us → sp vs H Q E →
    codeAny (model P w) A (.call (.ref f) args) (CR CX outer P w H s Q E) s
theorem fn_g {P : Program} {w : World} {K : PySem.W.Frag} {mg : Str → Option Value} {base : Heap} {CX : CXT} {k : Nat} {f : Addr} {fd : FuncData} {ps : List Str} {sp : Sp} (F : FnOk P w K mg base CX k f fd ps sp) : FnG P w K mg base CX k f fd ps sp :=
  ⟨F.len, fun A o s H ar us vs Q E hr _ => F.run A o s H ar us vs Q E hr⟩
theorem fnG_of {CX : CXT} {P : Program} {w : World} {K : PySem.W.Frag} {mg : Str → Option Value} {base : Heap} {k : Nat} {f : Addr} {name qual : Str} {params : Arguments} {body : List Stmt} {scope : Scope} {dV kV doc pm cdv ct oc : Value} {an od : Option Addr}
    {osl : Array (Option Value)} {N ps : List Str} {sp : Sp} (lk : K.lookup f = some ⟨oc, od, .func (PySem.W.fnOf name qual params body scope dV kV doc pm an cdv ct), osl⟩) (hcd : PySem.W.codeIn K cdv qual = true) (S : FnScope N ps scope)
    (len : ∀ vs H Q E, sp vs H Q E → vs.length = ps.length)
    (hbody : ∀ (A : Around) (outer : List Env) (s : Shared) (H : Hp) (vs : List V) (Q : VK) (E : XK), Room k (A.deeper (PyProof.Rows.envOfC qual scope s.heap.objs.size f cdv)) → A.guards = some [] → sp vs H Q E →
      ∃ t, PSs (cxOf CX P w K mg base N qual scope f cdv A outer s H E) body t ∧ t { nx := fun _ H' => Q .non H', rt := Q } (L2.start N vs) H) :
    FnG P w K mg base CX (k + 1) f (PySem.W.fnOf name qual params body scope dV kV doc pm an cdv ct) ps sp := by
  refine ⟨len, fun A outer s H args us vs Q E hr hg e0 hb r hsp => ?_⟩
  have kp : ∀ b o, base.get? b = some o → s.heap.get? b = some o := fun b o e => (e0.bs b o e).1
  have KX : K.In s.heap := e0.mod.kin.keeps kp
  refine codeAny_call_function hr.depth (KX _ _ lk) rfl S.co S.gen rfl (PySem.W.codeRec_of KX hcd) (hb _ _ _ _ ?_)
  refine wpAny_newFunctionEnv_cells S.kind (fun ⟨n, v⟩ hy => ?_) fun env he s1 x => ?_
  · rcases S.par n (List.of_mem_zip hy).1 with q | q
    · exact .inl q
    · exact .inr ⟨q, PySem.W.cellsFrom_some _ _ _ (.inl q)⟩
  subst he
  refine ⟨(e0.mod.nolimit.keeps kp).keeps x.toInCall.keep, codeAny_func ?_⟩
  obtain ⟨t, ht, hq⟩ := hbody A outer s H vs Q E (hr.deeper _) hg hsp
  refine wpAny_mono (ht.run [] s1 (L2.start N vs) H _ (inv_start S hr.hd e0 (len _ _ _ _ hsp) r x) hq) (fun fl s' hs => ?_) fun e s' hs => hs
  cases fl with
  | ret u =>
    obtain ⟨v, σ', H', J, rv, q⟩ := hs
    exact ⟨v, H', J.os, J.bare, J.base, J.hok, rv, q⟩
  | next =>
    obtain ⟨σ', H', J, q⟩ := hs
    exact ⟨V.non, H', J.os, J.bare, J.base, J.hok, rfl, q⟩
  | brk =>
    obtain ⟨_, _, _, q⟩ := hs
    exact q.elim
  | cont =>
    obtain ⟨_, _, _, q⟩ := hs
    exact q.elim
section
variable {P : Program} {w : World} {K : PySem.W.Frag} {mg : Str → Option Value} {base : Heap}
theorem okG {x qual : Str} {st : Stmt} {f : Addr} {fd : FuncData} {N ps : List Str} {k : Nat} {sp : Sp} (F : Fun K x qual st f fd) (S : FnScope N ps (defScope st)) (len : ∀ vs H Q E, sp vs H Q E → vs.length = ps.length)
    (hbody : ∀ (cdv : Value) (A : Around) (outer : List Env) (s : Shared) (H : Hp) (vs : List V) (Q : VK) (E : XK), Room k (A.deeper (PyProof.Rows.envOfC qual (defScope st) s.heap.objs.size f cdv)) → (cxOf CX0 P w K mg base N qual (defScope st) f cdv A outer s H E).nox.A.guards = some [] → sp vs H Q E →
      ∃ t, PSs (cxOf CX0 P w K mg base N qual (defScope st) f cdv A outer s H E).nox (defBody st) t ∧ t { nx := fun _ H' => Q .non H', rt := Q } (L2.start N vs) H) : FnG P w K mg base CX0 (k + 1) f fd ps sp := by
  obtain ⟨oc, od, kV, doc, pm, an, cdv, ct, osl, rfl, lk, hcd⟩ := F.ex
  refine fnG_of lk hcd S len fun A outer s H vs Q E hr hg hsp => ?_
  obtain ⟨t, h, q⟩ := hbody cdv A outer s H vs Q E hr hg hsp
  exact ⟨t, h.nox, q⟩
end
section
variable {X : Cx} {CX : CXT} {k : Nat} {f C : Addr} {fd : FuncData} {ps : List Str} {sp : Sp} {dvs : List V} {ds : List Value} {E : XK} {x m : Str} {p pos apos : Pos} {e o : Expr} {es : List Expr} {ta : TE} {t : TA}
theorem run_fnG {pins : List (Addr × Obj)} {σ : St} {H : Hp} {s : Shared} {Q : VK} {us : List Value} {vs : List V} (F : FnG X.prog X.w X.K X.mg X.base CX k f fd ps sp) (hr : Room k X.A) (hG : X.A.guards = some []) (hb : Binds X.K fd ps []) (hx : Passes CX X E)
    (I : Inv X pins σ H s) (r : Vals vs us) (h : sp vs H Q E) : wpAny (model X.prog X.w) X.A (call (.ref f) us) (EP X pins σ Q) X.xe s := by
  have hl : us.length = ps.length := by rw [← r.length]; exact F.len _ _ _ _ h
  have hb2 := hb s us I.kIn (by simpa using hl)
  rw [List.append_nil] at hb2
  refine wpAny_call (codeAny_mono (F.run X.A X.stack s H ⟨us, []⟩ us vs Q E hr hG I.env0 hb2 r h) fun r s' hq => ?_)
  cases r with
  | error e => exact hx pins σ H s e s' I hq
  | ok fl =>
    cases fl with
    | ret u => exact I.after hq
    | next => exact False.elim hq
    | brk => exact False.elim hq
    | cont => exact False.elim hq
theorem pe_callG (F : FnG X.prog X.w X.K X.mg X.base CX k f fd ps sp) (hr : Room k X.A) (hG : X.A.guards = some []) (hg : Gl X x) (hm : X.mg x = some (.ref f)) (hk : PySem.W.keepIn X.K (.ref f) = true) (hb : Binds X.K fd ps []) (hx : Passes CX X E)
    (ha : PA X (e :: es) t) (hdb : (x == ("__debug__" : Str)) = false := by decide) (he : starEach (e :: es) X.env = (false, eval e X.env) :: starEach es X.env := by rfl) (hpl : (backTo pos (starEach es X.env)).any (·.1) = false := by rfl) :
    PE X (.Call (.Name x p) (e :: es) [] pos) (tCall sp [] E t) := by
  refine ⟨fun pins s σ H Q I h => ?_⟩
  refine wpAny_Call_Name_kw (ld_glob I hg hm ?_ hdb)
  refine PySem.W.callWith_K (h₀ := X.base) I.ok.mod.kin hk (thn (ha.run pos pins s σ H _ I h) fun us s1 ⟨vs, H1, I1, r, q⟩ => ⟨I1.kIn, ?_⟩) he hpl
  exact run_fnG F hr hG hb hx I1 r (List.append_nil vs ▸ (show sp (vs ++ []) H1 Q E from q))
theorem pe_callG0 (F : FnG X.prog X.w X.K X.mg X.base CX k f fd ps sp) (hr : Room k X.A) (hG : X.A.guards = some []) (hg : Gl X x) (hm : X.mg x = some (.ref f)) (hk : PySem.W.keepIn X.K (.ref f) = true) (hb : Binds X.K fd ps []) (hx : Passes CX X E)
    (hdb : (x == ("__debug__" : Str)) = false := by decide) : PE X (.Call (.Name x p) [] [] pos) (fun _ H Q => sp [] H Q E) := by
  refine ⟨fun pins s σ H Q I h => ?_⟩
  refine wpAny_Call_Name_kw (ld_glob I hg hm ?_ hdb)
  exact PySem.W.callWith_K0 I.kIn hk (run_fnG (us := []) F hr hG hb hx I .nil h)
/-- repr of a list of bools -/
def btx (b : Bool) : Str := if b then "True" else "False"
def reprBs (bs : List Bool) : Str := listText (bs.map btx)
theorem reprs_b {P : Program} {w : World} : ∀ {bs : List Bool} {its : List Value}, Vals (bs.map V.bl) its → ∀ (i : Nat) (y : Value), its[i]? = some y → ∃ t, (bs.map btx)[i]? = some t ∧ ReprIs P w y t
  | [], _, h, i, y, e => by
    cases h
    simp at e
  | b :: bs, _, h, 0, y, e => by
    cases h with
    | cons h1 h2 =>
      cases h1
      have e2 : Value.bool b = y := Option.some.inj e
      subst e2
      exact ⟨btx b, rfl, ReprIs.bool b⟩
  | b :: bs, _, h, i + 1, y, e => by
    cases h with
    | cons h1 h2 => exact reprs_b h2 i y e
def rReprB : List V → Hp → VK → Prop := fun xs H Q => ∃ a b bs, xs = [.ref a] ∧ H a = some (.lst ((b :: bs).map V.bl)) ∧ (reprBs (b :: bs)).length ≤ sizeLine ∧ Q (.str (reprBs (b :: bs))) H
theorem call_reprB (hr : Room k X.A) (hG : X.A.guards = some []) : CallR X (.builtin "repr") rReprB := fun pins s σ H xs us Q I r h => by
  obtain ⟨a, b, bs, rfl, ha, hz, q⟩ := h
  obtain ⟨u, rfl, ru⟩ := vals1 r
  cases ru
  obtain ⟨its, rv, ⟨o, n, ho, hc, hdn, hd⟩, hlen⟩ := I.list (SqL.of ha)
  cases rv with
  | cons r1 r2 =>
    rename_i i1 i2
    have hT : s.TypeIs (.ref a) "list" := ⟨o, ho, hc⟩
    refine call_repr_slot (by have := hr.units; omega) hT PySem.F.slot_list_repr.toG ?_
    refine call_list_repr (g := []) (ts := (b :: bs).map btx) hT hG (fun _ _ _ h => (nomatch h)) ho hd ?_ ?_ (fun h' u tk kp => ?_) hz
    · have e := r2.length
      rw [List.size_toArray, List.length_cons, ← e, List.length_map, List.length_map]
      rfl
    · intro i y e
      exact reprs_b (bs := b :: bs) (.cons r1 r2) i y (by simpa using e)
    · exact ⟨_, u, rfl, V.str (reprBs (b :: bs)), H, I.kept (t' := tk) kp, ⟨u, rfl⟩, q⟩
end
/-! ### the end: the law is called where no repr is under way -/
section
open PySem.Spec PyProof.Rows
theorem law_callG {P : Program} {w : World} {K : PySem.W.Frag} {mg mb : Str → Option Value} {k : Nat} {fa a : Addr} {fd : FuncData} {x : Str} {sp : Sp} {s₁ : Shared} {vs : List Value} {ns : List Int}
    (KX : K.In s₁.heap) (hns : s₁.heap.Ns mainGlobals mg) (hb : s₁.heap.Ns builtinsNs mb) (hbb : ∀ x : Str, x ≠ "__name__" → mb x = bootBuiltins x) (hlim : s₁.heap.NoLimit) (hg : s₁.gens = #[])
    (ha : s₁.heap.get? a = some { cls := .type "list", data := .seq vs.toArray }) (hi : IntsAre vs ns) (hl : ns.length ≤ sizeLine) (hr : Room k callerA)
    (F : ∀ base : Heap, K.In base → base.Ns mainGlobals mg → FnG P w K mg base CX0 k fa fd [x] sp) (hbind : ∀ (s : Shared) (u : Value), BindsTo s fd ⟨[u], []⟩ [(x, u)])
    (hsp : ∀ H : Hp, SqL K H a (ns.map V.int) → sp [.ref a] H (fun v _ => v = .bl true) fun _ _ _ => False) :
    codeAny (model P w) callerA (.call (.ref fa) ⟨[.ref a], []⟩) (fun r s' => r = .ok (.ret (.bool true)) ∧ OldK s₁.heap s'.heap ∧ s'.os = s₁.os ∧ AllBare s'.gens) s₁ := by
  have rv := vals_ints hi
  have core : ∀ H : Hp, SqL K H a (ns.map V.int) → HOk P w H s₁.heap → (∀ b u, H b = some u → b = a ∧ K.lookup a = none ∧ ∃ o ys, u = .frz o ys) →
      codeAny (model P w) callerA (.call (.ref fa) ⟨[.ref a], []⟩) (fun r s' => r = .ok (.ret (.bool true)) ∧ OldK s₁.heap s'.heap ∧ s'.os = s₁.os ∧ AllBare s'.gens) s₁ := by
    intro H hS hok hA
    have at_ : ∀ {b : Addr} {o : Obj}, s₁.heap.get? b = some o → (∀ u, H b ≠ some u) → (hidT s₁.heap H).get? b = some o := fun {b o} e n => hidT_get e (by
      cases q : H b with
      | none => rfl
      | some u => exact absurd q (n u))
    have ns_ : ∀ {b : Addr} {m : Str → Option Value}, s₁.heap.Ns b m → (hidT s₁.heap H).Ns b m := fun {b m} ⟨o, es, ep, e, d, r⟩ => ⟨o, es, ep, at_ e (fun u q => by
      obtain ⟨rfl, _⟩ := hA b u q
      rw [ha] at e
      cases e
      have z : Data.seq vs.toArray _ = Data.dict es ep := d
      cases z), d, r⟩
    have hK : K.In (hidT s₁.heap H) := fun b o e => at_ (KX b o e) (fun u q => by
      obtain ⟨rfl, n, _⟩ := hA b u q
      rw [n] at e
      cases e)
    have hM : Mod K mg (hidT s₁.heap H) := ⟨hK, ns_ hns, ⟨mb, ns_ hb, hbb⟩, let ⟨mc, h1, h2⟩ := hlim; ⟨mc, ns_ h1, h2⟩⟩
    have e0 : Env0 P w K mg (hidT s₁.heap H) callerA [] s₁ H := ⟨rfl, hM, fun b o e => of_hidT e, Nat.le_of_eq (hidT_size _ _), trivial, fun b hb => absurd (show b ∈ ([] : List Addr) from hb) (by simp), hok, .of_eq hg⟩
    refine codeAny_mono ((F _ hK (ns_ hns)).run callerA [] s₁ H ⟨[.ref a], []⟩ [.ref a] [.ref a] _ _ hr rfl e0 (hbind s₁ (.ref a)) (.cons rfl .nil) (hsp H hS)) fun r s' h => ?_
    match r, h with
    | .error e, h => exact False.elim h
    | .ok .next, h => exact False.elim h
    | .ok .brk, h => exact False.elim h
    | .ok .cont, h => exact False.elim h
    | .ok (.ret u), h =>
      obtain ⟨v, H', os, bare, un, hok', r', q⟩ := h
      obtain rfl : v = .bl true := q
      obtain rfl : u = Value.bool true := r'
      refine ⟨rfl, OldK.of_keep fun b o e => ?_, os, bare⟩
      cases q : H b with
      | none => exact un.keep b o e q (by intro z; exact absurd (show b ∈ ([] : List Addr) from z) (by simp)) (by simp)
      | some u =>
        obtain ⟨_, _, o', ys, rfl⟩ := hA b u q
        have q2 := un.frzs b o' _ q
        obtain ⟨e1, _⟩ := hok b _ q
        obtain ⟨e2, _⟩ := hok' b _ q2
        rw [e] at e1
        cases e1
        exact e2
  cases hk : K.lookup a with
  | some o =>
    have e := KX a o hk
    rw [ha] at e
    cases e
    exact core (fun _ => none) (.inr ⟨_, vs.toArray, _, hk, rfl, rfl, rfl, by rw [List.size_toArray, hi.length]; exact hl, by simpa using rv⟩) (fun b u z => nomatch z) (fun b u z => nomatch z)
  | none =>
    refine core (fun b => if b = a then some (.frz { cls := .type "list", data := .seq vs.toArray } (.lst (ns.map V.int))) else none) (.inl (.inr ⟨{ cls := .type "list", data := .seq vs.toArray }, if_pos rfl⟩)) (fun b u z => ?_) (fun b u z => ?_)
    · by_cases hb : b = a
      · have z' := (if_pos hb).symm.trans z
        cases z'
        subst hb
        exact ⟨ha, by rw [List.length_map]; exact hl, vs, _, rv, ha⟩
      · exact nomatch (if_neg hb).symm.trans z
    · by_cases hb : b = a
      · exact ⟨hb, hk, _, _, (Option.some.inj ((if_pos hb).symm.trans z)).symm⟩
      · exact nomatch (if_neg hb).symm.trans z
theorem walk_ofG {l : PySem.W.OpenLaw} {n k : Nat} {q : Program} {loose : List Str} {XP : (Str → Option Value) → Heap → Prop} {YP : World → Heap → Prop} {d : DefRec} {K : Params → PySem.W.Frag} {sp : PySem.W.Frag → Sp} {x : Str}
    (hn : l.most = some n) (hn2 : n ≤ sizeLine) (hdf : d.params.defaults = []) (hr : Room k callerA)
    (hY : ∀ (w : World) (h : Heap), YP w h → (K w.params).In h)
    (F : ∀ (w : World) (mg : Str → Option Value) (fa : Addr) (h : Heap), (K w.params).In h → h.Ns mainGlobals mg → mg d.name = some (.ref fa) →
      ∃ fd : FuncData, (∀ (s : Shared) (u : Value), BindsTo s fd ⟨[u], []⟩ [(x, u)]) ∧
        ∀ base : Heap, (K w.params).In base → base.Ns mainGlobals mg → FnG l.prog w (K w.params) mg base CX0 k fa fd [x] (sp (K w.params)))
    (hsp : ∀ (K : PySem.W.Frag) (H : Hp) (a : Addr) (ns : List Int), ns.length ≤ n → SqL K H a (ns.map V.int) → sp K [.ref a] H (fun v _ => v = .bl true) fun _ _ _ => False) :
    PySem.W.WalkO q loose XP YP l.row.toRowW d [] (fun f vs => PySem.call f vs) := by
  refine Att.attach_call hn hdf fun w s₀ s₁ mg mb fa o pm cd doc a vs ns G Y ho hd hcd hmg hobj hints hlen hg => ?_
  have KX := hY w _ Y
  obtain ⟨fd, hb, hF⟩ := F w mg fa _ KX G.T.g hmg
  exact law_callG KX G.T.g G.T.b G.T.builtins G.T.nolimit hg hobj hints (Nat.le_trans hlen hn2) hr hF hb (fun H hS => hsp _ H a ns hlen hS)
end

/-! ### isinstance(e, C), e.value of a kept exception; repr of data; lists of texts compared -/
structure XIs (K : PySem.W.Frag) (D : Addr) : Prop where
  cl : (PySem.W.clsIn K D).isSome = true
  ga : PySem.W.findIn K (.ref D) "__getattribute__" = some (some (.builtin "BaseException.__getattribute__"))
  gg : PySem.W.findIn K (.ref D) "__getattr__" = some none
  ex : PySem.W.subIn K (.ref D) (.type "BaseException") = some true
  ha : PySem.W.findIn K (.ref D) "__class__" = some (some (.builtin "object.__class__"))
  hn : PySem.W.specialIn K (.builtin "object.__class__") "__get__" = some (some (.builtin "getset_descriptor.__get__"))
  tk : PySem.W.takesIn K (.builtin "object.__class__") = some true
  hm : PySem.W.mroIn K D (.type "object") = some true
  hd : PySem.W.hasDictIn K D = true
  no : PySem.W.findIn K (.ref D) "value" = some none
section
variable {X : Cx}
theorem xo_inst {pins : List (Addr × Obj)} {σ : St} {H : Hp} {s : Shared} {D a dd : Addr} {fs : List (Str × V)} (I : Inv X pins σ H s) (ha : H a = some (XO (.ref D) (some dd) a)) (hd : H dd = some (.xd fs)) :
    ∃ oe od, PySem.W.InstAt s.heap a oe D (some od) ∧ ∃ mA, s.heap.Ns1 dd mA ∧ s.heap.get? dd = some od ∧ ∀ f, RelO (fs.lookup f) (mA f) := by
  obtain ⟨oe, vs, e1, z, e2⟩ := xo_at I.hok ha
  obtain ⟨mA, hns, hr⟩ := (show ObjOk X.prog X.w H s.heap dd (.xd fs) from I.hok dd _ hd)
  obtain ⟨od, es, ep, ho, _⟩ := id hns
  exact ⟨oe, od, ⟨e1, z.1, by unfold PySem.W.notCls; rw [e2] <;> rfl, by rw [z.2]; exact ho⟩, mA, hns, ho, hr⟩
def rIsX (K : PySem.W.Frag) : List V → Hp → VK → Prop := fun xs H Q => ∃ (a D dd : Addr) (fs : List (Str × V)) (c : V) (u : Value) (b : Bool), xs = [.ref a, c] ∧ H a = some (XO (.ref D) (some dd) a) ∧ H dd = some (.xd fs) ∧ XIs K D ∧ clsV c = some u ∧ PySem.W.kitOne K (.ref D) u = some b ∧ Q (.bl b) H
theorem call_isX : CallR X (.builtin "isinstance") (rIsX X.K) := fun pins s σ H xs us Q I r h => by
  obtain ⟨a, D, dd, fs, c, u, b, rfl, ha, hd, C, hc, e, q⟩ := h
  cases r with
  | cons rx rr =>
    cases rr with
    | cons rt rr =>
      cases rr
      cases rx
      have ec := (clsV_ok hc).eq rt
      subst ec
      obtain ⟨oe, od, J, _⟩ := xo_inst I ha hd
      exact PySem.W.kia_one (PySem.W.kitx_exc C.cl C.ga C.gg C.ex C.ha C.hn C.tk C.hm) I.kIn J e (fun z => nomatch z) fun tk => ⟨.bl b, H, I.kept (t' := tk) fun _ _ z => z, rfl, q⟩
def tXV (K : PySem.W.Frag) (te : TE) : TE := fun σ H Q => te σ H fun x H1 => ∃ (a D dd : Addr) (v : V), x = .ref a ∧ H1 a = some (XO (.ref D) (some dd) a) ∧ H1 dd = some (.xd [("value", v)]) ∧ XIs K D ∧ Q v H1
theorem pe_xv {e : Expr} {te : TE} {pos : Pos} (he : PE X e te) (hb : attributeBase e "value" X.env (eval e X.env) = eval e X.env := by rfl) : PE X (.Attribute e "value" pos) (tXV X.K te) := by
  refine ⟨fun pins s σ H Q I h => ?_⟩
  refine attr_of hb (thn (he.run pins s σ H _ I h) fun u s1 ⟨x, H1, I1, rx, a, D, dd, v, ex, ha, hd, C, q⟩ => ?_)
  subst ex
  obtain rfl : u = Value.ref a := rx
  obtain ⟨oe, od, J, mA, hns, ho, hr⟩ := xo_inst I1 ha hd
  obtain ⟨od', ho', hl⟩ := lookIn_ns hns
  rw [ho] at ho'
  cases ho'
  have l : List.lookup ("value" : Str) [(("value" : Str), v)] = some v := List.lookup_cons_self
  obtain ⟨u, hu, ru⟩ := RelO.some_of (v := v) (o := mA "value") (by rw [← l]; exact hr "value")
  exact HandSPX.exc_get I1.kIn J C.ga C.gg C.ex (PySem.W.findObj_own C.hd C.no rfl (by rw [hl, hu])) (handed_of ru) ⟨v, H1, I1.tok _, ru, q⟩
/-- repr of data (lists, tuples, scalars; {}) -/
def Dx (K : PySem.W.Frag) (H : Hp) (v : V) (d : PyData) : Prop := (Dp K H v d ∧ d.hasDict = false) ∨ ∃ a, v = .ref a ∧ H a = some (.dK []) ∧ d = .dict []
def rReprD (K : PySem.W.Frag) : List V → Hp → VK → Prop := fun xs H Q => ∃ v d, xs = [v] ∧ Dx K H v d ∧ d.showable = true ∧ d.shown.length ≤ sizeLine ∧ d.depth ≤ 20 ∧ Q (.str d.shown) H
theorem call_reprD {k : Nat} (hr : Room k X.A) (hG : X.A.guards = some []) : CallR X (.builtin "repr") (rReprD X.K) := fun pins s σ H xs us Q I r h => by
  obtain ⟨v, d, rfl, hd, hs, hz, hdep, q⟩ := h
  obtain ⟨u, rfl, ru⟩ := vals1 r
  have hu := hr.units
  have fin : ∀ (a : Addr) (as : List Addr), u = .ref a → Reads s.heap u d as → (d.hasDict = true → sysModules ∉ as) → wpAny (model X.prog X.w) X.A (call (.builtin "repr") [u]) (EP X pins σ Q) X.xe s := fun a as e rd hsm => by
    subst e
    exact repr_of_reads' rd hs hsm hG (by omega) (fun _ _ e => e) (fun h' u tk k => ⟨.str d.shown, H, I.kept (t' := tk) k, ⟨u, rfl⟩, q⟩) hz
  rcases hd with ⟨hd, hn⟩ | ⟨a, rfl, ha, rfl⟩
  · obtain ⟨as, rd⟩ := Dp.reads I d v u hd ru
    have hsm : d.hasDict = true → sysModules ∉ as := PyData.noDict_hsm hn
    cases hd with
    | non =>
      cases ru
      exact PySem.P.repr_of_none ⟨.str "None", H, I.tok _, ⟨_, rfl⟩, by simpa [PyData.shown] using q⟩
    | bl b =>
      cases ru
      exact PySem.P.repr_of_bool ⟨.str _, H, I.tok _, ⟨_, rfl⟩, by simpa [PyData.shown] using q⟩
    | int i =>
      obtain ⟨t, rfl⟩ := ru
      exact PySem.P.repr_of_int (by simpa [PyData.showable] using hs) ⟨.str _, H, I.tok _, ⟨_, rfl⟩, by simpa [PyData.shown] using q⟩
    | str x =>
      obtain ⟨t, rfl⟩ := ru
      exact PySem.P.repr_of_str ⟨.str _, H, I.tok _, ⟨_, rfl⟩, by simpa [PyData.shown] using q⟩ (by simpa [PyData.shown] using hz)
    | lst h1 h2 => exact fin _ as ru rd hsm
    | tup h1 h2 => exact fin _ as ru rd hsm
  · cases ru
    obtain ⟨_, hsys, vs, kv, o, es, ep, h1, h2, h3, h4, h5, h6⟩ := (show ObjOk X.prog X.w H s.heap a (.dK []) from I.hok a _ ha)
    cases kv
    have e0 : es.toList = [] := by
      generalize es.toList = l at h5
      cases h5
      rfl
    refine fin a [a] rfl (.dict (as := []) (bs := []) h1 h2.1 h3 (by rw [e0]; exact .nil) (by rw [e0]; exact .nil)) fun _ hm => ?_
    rw [List.mem_singleton] at hm
    rw [← hm] at hsys
    simp at hsys
/-- lists of texts, == and != -/
theorem strs_item : ∀ {zs : List Str} {its : List Value}, Vals (zs.map V.str) its → ∀ (j : Nat) (h : j < its.toArray.size), ∃ z t, zs[j]? = some z ∧ its.toArray[j] = .str z t
  | [], _, h, j, hj => by cases h; simp at hj
  | z :: zs, _, h, 0, hj => by
    cases h with
    | cons h1 h2 =>
      obtain ⟨t, rfl⟩ := h1
      exact ⟨z, t, rfl, rfl⟩
  | z :: zs, _, h, j + 1, hj => by
    cases h with
    | cons h1 h2 =>
      obtain ⟨z', t, e1, e2⟩ := strs_item h2 j (by simpa using hj)
      exact ⟨z', t, e1, by simpa using e2⟩
def eqJ (zs ws : List Str) (j : Nat) : Bool := match zs[j]?, ws[j]? with
  | some z, some w => z == w
  | _, _ => false
theorem eqJ_all : ∀ {zs ws : List Str}, zs.length = ws.length → (List.range zs.length).all (eqJ zs ws) = decide (zs = ws)
  | [], [], _ => rfl
  | z :: zs, w :: ws, h => by
    have ih := eqJ_all (zs := zs) (ws := ws) (by simpa using h)
    rw [List.length_cons, List.range_succ_eq_map, List.all_cons, List.all_map]
    have e : (List.range zs.length).all (eqJ (z :: zs) (w :: ws) ∘ Nat.succ) = (List.range zs.length).all (eqJ zs ws) := rfl
    rw [e, ih]
    show ((z == w) && decide (zs = ws)) = decide (z :: zs = w :: ws)
    rw [Bool.eq_iff_iff]
    simp
def rEqSs : R2 := fun x y H Q => ∃ (a b : Addr) (zs ws : List Str), x = .ref a ∧ y = .ref b ∧ H a = some (.lst (zs.map V.str)) ∧ H b = some (.lst (ws.map V.str)) ∧ Q (.bl (decide (zs = ws))) H
def rNeSs : R2 := fun x y H Q => ∃ (a b : Addr) (zs ws : List Str), x = .ref a ∧ y = .ref b ∧ H a = some (.lst (zs.map V.str)) ∧ H b = some (.lst (ws.map V.str)) ∧ Q (.bl (!decide (zs = ws))) H
theorem ss_core {pins : List (Addr × Obj)} {σ : St} {H : Hp} {s : Shared} {a b : Addr} {zs ws : List Str} (hu : X.A.units < cLine) (I : Inv X pins σ H s) (ha : H a = some (.lst (zs.map V.str))) (hb : H b = some (.lst (ws.map V.str))) :
    ∃ its its2 : List Value, s.heap.IsList a its.toArray ∧ s.heap.IsList b its2.toArray ∧ its.toArray.size = zs.length ∧ its2.toArray.size = ws.length ∧ ∀ j (h1 : j < its.toArray.size) (h2 : j < its2.toArray.size), SeqAt.EqAt X.A.in1 s its.toArray[j] its2.toArray[j] (eqJ zs ws j) := by
  obtain ⟨its, r, pl, hz⟩ := I.list (SqL.of ha)
  obtain ⟨its2, r2, pl2, hz2⟩ := I.list (SqL.of hb)
  refine ⟨its, its2, pl.isList, pl2.isList, ?_, ?_, fun j h1 h2 => ?_⟩
  · rw [List.size_toArray, ← r.length, List.length_map]
  · rw [List.size_toArray, ← r2.length, List.length_map]
  · obtain ⟨z, t, e1, e2⟩ := strs_item r j h1
    obtain ⟨w', t', e3, e4⟩ := strs_item r2 j h2
    rw [e2, e4]
    unfold eqJ
    rw [e1, e3]
    exact SeqAt.EqAt.str_str _ _ _ _
theorem op_eqSs (hu : X.A.units + 64 < cLine) : OpR X (compareOp .Eq) rEqSs := fun pins s σ H x y v u Q I rx ry h => by
  obtain ⟨a, b, zs, ws, rfl, rfl, ha, hb, q⟩ := h
  cases rx
  cases ry
  obtain ⟨its, its2, l1, l2, n1, n2, he⟩ := ss_core (by omega) I ha hb
  by_cases hl : zs.length = ws.length
  · refine SeqAt.eq_listAt l1 l2 (by omega) (by omega) he ⟨.bl _, H, I, rfl, ?_⟩
    rw [n1, eqJ_all hl]
    exact q
  · refine SeqAt.eq_list_lengthsAt l1 l2 (by rw [n1, n2]; simpa using hl) (by omega) ⟨.bl false, H, I, rfl, ?_⟩
    rw [decide_eq_false (fun z => hl (by rw [z]))] at q
    exact q
theorem op_neSs (hu : X.A.units + 64 < cLine) : OpR X (compareOp .NotEq) rNeSs := fun pins s σ H x y v u Q I rx ry h => by
  obtain ⟨a, b, zs, ws, rfl, rfl, ha, hb, q⟩ := h
  cases rx
  cases ry
  obtain ⟨its, its2, l1, l2, n1, n2, he⟩ := ss_core (by omega) I ha hb
  by_cases hl : zs.length = ws.length
  · refine SeqAt.RcNeAt.lists l1 l2 (by omega) (by omega) he X.prog X.w X.xe _ ⟨.bl _, H, I, rfl, ?_⟩
    rw [n1, eqJ_all hl]
    exact q
  · refine SeqAt.RcNeAt.lists_lengths l1 l2 (by rw [n1, n2]; simpa using hl) (by omega) X.prog X.w X.xe _ ⟨.bl true, H, I, rfl, ?_⟩
    rw [decide_eq_false (fun z => hl (by rw [z]))] at q
    exact q
end



/-! ### the end with tables of code objects, where no repr is under way -/
section
open PySem.Spec PyProof.Rows LamX
theorem law_callGT {P : Program} {w : World} {K : PySem.W.Frag} {mg mb : Str → Option Value} {k : Nat} {fa a : Addr} {cs : List (Addr × Addr)} {fd : FuncData} {x : Str} {sp : Sp} {s₁ : Shared} {vs : List Value} {ns : List Int}
    (KX : K.In s₁.heap) (hns : s₁.heap.Ns mainGlobals mg) (hb : s₁.heap.Ns builtinsNs mb) (hbb : ∀ x : Str, x ≠ "__name__" → mb x = bootBuiltins x) (hlim : s₁.heap.NoLimit) (hg : s₁.gens = #[])
    (hT : ∀ p ∈ cs, s₁.heap.get? p.2 = some { cls := .none, data := .fields #[] }) (nT : ∀ p ∈ cs, K.lookup p.2 = none) (C : ∀ p ∈ cs, PySem.W.CodeHd s₁.heap p.1 p.2)
    (hbm : ∃ (bm : Addr) (ob : Obj), mg "__builtins__" = some (.ref bm) ∧ bm ≠ builtinsNs ∧ s₁.heap.get? bm = some ob ∧ ob.cls = .type "module" ∧ ob.dict = some builtinsNs ∧ ob.data = .plain)
    (ha : s₁.heap.get? a = some { cls := .type "list", data := .seq vs.toArray }) (hi : IntsAre vs ns) (hl : ns.length ≤ sizeLine) (hr : Room k callerA)
    (F : ∀ base : Heap, K.In base → base.Ns mainGlobals mg → (∀ p ∈ cs, TabB base mg p.1 p.2) → FnG P w K mg base CX0 k fa fd [x] sp) (hbind : ∀ (s : Shared) (u : Value), BindsTo s fd ⟨[u], []⟩ [(x, u)])
    (hsp : ∀ H : Hp, (∀ p ∈ cs, H p.2 = some (.tbl #[])) → SqL K H a (ns.map V.int) → sp [.ref a] H (fun v _ => v = .bl true) fun _ _ _ => False) :
    codeAny (model P w) callerA (.call (.ref fa) ⟨[.ref a], []⟩) (fun r s' => r = .ok (.ret (.bool true)) ∧ OldK s₁.heap s'.heap ∧ s'.os = s₁.os ∧ AllBare s'.gens) s₁ := by
  have rv := vals_ints hi
  let tb : List Addr := cs.map (·.2)
  have isT : ∀ b ∈ tb, s₁.heap.get? b = some { cls := .none, data := .fields #[] } := fun b hb => by
    obtain ⟨p, hp, rfl⟩ := List.mem_map.mp hb
    exact hT p hp
  have inT : ∀ p ∈ cs, p.2 ∈ tb := fun p hp => List.mem_map.mpr ⟨p, hp, rfl⟩
  have aT : a ∉ tb := fun z => by
    have q := isT a z
    rw [ha] at q
    exact nomatch (congrArg Obj.data (Option.some.inj q) : Data.seq vs.toArray _ = Data.fields #[])
  have core : ∀ H : Hp, (∀ b ∈ tb, H b = some (.tbl #[])) → SqL K H a (ns.map V.int) → HOk P w H s₁.heap →
      (∀ b u, H b = some u → b ∈ tb ∨ (b = a ∧ K.lookup a = none ∧ ∃ o ys, u = .frz o ys)) →
      codeAny (model P w) callerA (.call (.ref fa) ⟨[.ref a], []⟩) (fun r s' => r = .ok (.ret (.bool true)) ∧ OldK s₁.heap s'.heap ∧ s'.os = s₁.os ∧ AllBare s'.gens) s₁ := by
    intro H hH hS hok hA
    -- what is neither the script nor a table is not tracked
    have out : ∀ {b : Addr} {o : Obj}, s₁.heap.get? b = some o → o.data ≠ .fields #[] → (∀ xs n, o.data ≠ .seq xs n) → H b = none := fun {b o} e n1 n2 => by
      cases q : H b with
      | none => rfl
      | some u =>
        rcases hA b u q with h | ⟨h, _⟩
        · rw [isT b h] at e
          cases e
          exact absurd rfl n1
        · rw [h, ha] at e
          cases e
          exact absurd rfl (n2 _ _)
    have lay : ∀ {b : Addr} {o : Obj}, s₁.heap.get? b = some o → H b = none → (hidT s₁.heap H).get? b = some o := fun e n => hidT_get e n
    have ns_ : ∀ {b : Addr} {m : Str → Option Value}, s₁.heap.Ns b m → (hidT s₁.heap H).Ns b m := fun {b m} ⟨o, es, ep, e, d, r⟩ =>
      ⟨o, es, ep, lay e (out e (fun z => by rw [d] at z; cases z) (fun xs n z => by rw [d] at z; cases z)), d, r⟩
    have hK : K.In (hidT s₁.heap H) := fun b o e => lay (KX b o e) (by
      cases q : H b with
      | none => rfl
      | some u =>
        rcases hA b u q with h | ⟨h, n, _⟩
        · obtain ⟨p, hp, rfl⟩ := List.mem_map.mp h
          rw [nT p hp] at e
          cases e
        · rw [h, n] at e
          cases e)
    have hM : Mod K mg (hidT s₁.heap H) := ⟨hK, ns_ hns, ⟨mb, ns_ hb, hbb⟩, let ⟨mc, h1, h2⟩ := hlim; ⟨mc, ns_ h1, h2⟩⟩
    have TB : ∀ p ∈ cs, TabB (hidT s₁.heap H) mg p.1 p.2 := fun p hp => by
      refine ⟨?_, ?_, fun z => ?_⟩
      · obtain ⟨o, us, file, tf, flags, tg, inF, text, tt, e1, r1, r2, r3, rest⟩ := C p hp
        refine ⟨o, us, file, tf, flags, tg, inF, text, tt, lay e1 (out e1 (fun z => ?_) fun xs n z => ?_), r1, r2, r3, rest⟩
        · rw [r2] at z
          cases z
          simp at r3
        · rw [r2] at z
          cases z
      · obtain ⟨bm, ob, b1, b2, b3, b4, b5, b6⟩ := hbm
        refine ⟨bm, ob, b1, b2, fun q => ?_, fun q => ?_, lay b3 (out b3 (fun z => ?_) fun xs n z => ?_), b4, b5, b6⟩
        · obtain ⟨o, es, ep, e, hd, _⟩ := hns
          rw [q, e] at b3
          cases b3
          rw [hd] at b6
          cases b6
        · rw [q, hT p hp] at b3
          cases b3
          cases b6
        · rw [b6] at z
          cases z
        · rw [b6] at z
          cases z
      · obtain ⟨o, es, ep, e, hd, _⟩ := hns
        rw [z, hT p hp] at e
        cases e
        cases hd
    have e0 : Env0 P w K mg (hidT s₁.heap H) callerA [] s₁ H := ⟨rfl, hM, fun b o e => of_hidT e, Nat.le_of_eq (hidT_size _ _), trivial, fun b hb => absurd (show b ∈ ([] : List Addr) from hb) (by simp), hok, .of_eq hg⟩
    refine codeAny_mono ((F _ hK (ns_ hns) TB).run callerA [] s₁ H ⟨[.ref a], []⟩ [.ref a] [.ref a] _ _ hr rfl e0 (hbind s₁ (.ref a)) (.cons rfl .nil) (hsp H (fun p hp => hH _ (inT p hp)) hS)) fun r s' h => ?_
    match r, h with
    | .error e, h => exact False.elim h
    | .ok .next, h => exact False.elim h
    | .ok .brk, h => exact False.elim h
    | .ok .cont, h => exact False.elim h
    | .ok (.ret u), h =>
      obtain ⟨v, H', os, bare, un, hok', r', q⟩ := h
      obtain rfl : v = .bl true := q
      obtain rfl : u = Value.bool true := r'
      have old : ∀ b o, b ∉ tb → s₁.heap.get? b = some o → s'.heap.get? b = some o := fun b o nb e => by
        cases q : H b with
        | none => exact un.keep b o e q (by intro z; exact absurd (show b ∈ ([] : List Addr) from z) (by simp)) (by simp)
        | some u =>
          rcases hA b u q with h | ⟨_, _, o', ys, rfl⟩
          · exact absurd h nb
          · obtain ⟨e1, _⟩ := hok b _ q
            obtain ⟨e2, _⟩ := hok' b _ (un.frzs b o' _ q)
            rw [e] at e1
            cases e1
            exact e2
      have grown : ∀ b ∈ tb, ∃ more : Array Value, s'.heap.get? b = some { cls := .none, data := .fields more } := fun b hb => by
        obtain ⟨more, z⟩ := un.tbls b #[] (hH b hb)
        exact ⟨_, hok' b _ z⟩
      refine ⟨rfl, ⟨fun b o e => ?_, fun b o e => ?_⟩, os, bare⟩
      · by_cases hb : b ∈ tb
        · obtain ⟨more, hm⟩ := grown b hb
          obtain ⟨p, hp, rfl⟩ := List.mem_map.mp hb
          rw [hT p hp] at e
          cases e
          exact .inr (.inl ⟨((C p hp).tab (hT p hp)).isCodeTable, rfl, #[], more, rfl, by rw [Array.empty_append]; exact hm⟩)
        · exact .inl (old b o hb e)
      · by_cases hb : b ∈ tb
        · obtain ⟨more, hm⟩ := grown b hb
          exact ⟨_, hm⟩
        · exact ⟨o, old b o hb e⟩
  cases hk : K.lookup a with
  | some o =>
    have e := KX a o hk
    rw [ha] at e
    cases e
    refine core (fun b => if b ∈ tb then some (.tbl #[]) else none) (fun b h => if_pos h) (.inr ⟨_, vs.toArray, _, hk, rfl, rfl, rfl, by rw [List.size_toArray, hi.length]; exact hl, by simpa using rv⟩) (fun b u z => ?_) (fun b u z => ?_)
    · by_cases hb : b ∈ tb
      · have z' := (if_pos hb).symm.trans z
        cases z'
        exact isT b hb
      · exact nomatch (if_neg hb).symm.trans z
    · by_cases hb : b ∈ tb
      · exact .inl hb
      · exact nomatch (if_neg hb).symm.trans z
  | none =>
    refine core (fun b => if b ∈ tb then some (.tbl #[]) else if b = a then some (.frz { cls := .type "list", data := .seq vs.toArray } (.lst (ns.map V.int))) else none) (fun b h => if_pos h)
      (.inl (.inr ⟨{ cls := .type "list", data := .seq vs.toArray }, (if_neg aT).trans (if_pos rfl)⟩)) (fun b u z => ?_) (fun b u z => ?_)
    · by_cases hb : b ∈ tb
      · have z' := (if_pos hb).symm.trans z
        cases z'
        exact isT b hb
      · have z' := (if_neg hb).symm.trans z
        by_cases hba : b = a
        · have z'' := (if_pos hba).symm.trans z'
          cases z''
          rw [hba]
          exact ⟨ha, by rw [List.length_map]; exact hl, vs, _, rv, ha⟩
        · exact nomatch (if_neg hba).symm.trans z'
    · by_cases hb : b ∈ tb
      · exact .inl hb
      · have z' := (if_neg hb).symm.trans z
        by_cases hba : b = a
        · have z'' := (if_pos hba).symm.trans z'
          exact .inr ⟨hba, hk, _, _, (Option.some.inj z'').symm⟩
        · exact nomatch (if_neg hba).symm.trans z'
theorem walk_ofGT {l : PySem.W.OpenLaw} {n k : Nat} {q : Program} {loose : List Str} {XP : (Str → Option Value) → Heap → Prop} {YP : World → Heap → Prop} {d : DefRec} {K : Params → PySem.W.Frag} {sp : PySem.W.Frag → List (Addr × Addr) → Sp} {x : Str} (names : List Str)
    (hn : l.most = some n) (hn2 : n ≤ sizeLine) (hdf : d.params.defaults = []) (hr : Room k callerA)
    (hY : ∀ (w : World) (h : Heap), YP w h → (K w.params).In h) (hrec : ∀ y ∈ names, ((recsOf q).find? fun e => e.name == y).isSome = true)
    (F : ∀ (w : World) (mg : Str → Option Value) (fa : Addr) (h : Heap), (K w.params).In h → h.Ns mainGlobals mg → mg d.name = some (.ref fa) →
      ∃ (fd : FuncData) (cs : List (Addr × Addr)), (∀ p ∈ cs, ∃ y ∈ names, PySem.W.tabIn (K w.params) y = some p) ∧ (∀ p ∈ cs, (K w.params).lookup p.2 = none) ∧ (∀ (s : Shared) (u : Value), BindsTo s fd ⟨[u], []⟩ [(x, u)]) ∧
        ∀ base : Heap, (K w.params).In base → base.Ns mainGlobals mg → (∀ p ∈ cs, TabB base mg p.1 p.2) → FnG l.prog w (K w.params) mg base CX0 k fa fd [x] (sp (K w.params) cs))
    (hsp : ∀ (K : PySem.W.Frag) (cs : List (Addr × Addr)) (H : Hp) (a : Addr) (ns : List Int), ns.length ≤ n → (∀ p ∈ cs, H p.2 = some (.tbl #[])) → SqL K H a (ns.map V.int) → sp K cs [.ref a] H (fun v _ => v = .bl true) fun _ _ _ => False) :
    PySem.W.WalkO q loose XP YP l.row.toRowW d [] (fun f vs => PySem.call f vs) := by
  refine Att.attach_call hn hdf fun w s₀ s₁ mg mb fa o pm cd doc a vs ns G Y ho hd hcd hmg hobj hints hlen hg => ?_
  have KX := hY w _ Y
  obtain ⟨fd, cs, ht, nt, hb, hF⟩ := F w mg fa _ KX G.T.g hmg
  have tabs : ∀ p ∈ cs, PySem.W.CodeHd s₁.heap p.1 p.2 ∧ s₁.heap.get? p.2 = some { cls := .none, data := .fields #[] } := fun p hp => by
    obtain ⟨y, hy, e⟩ := ht p hp
    obtain ⟨dr, hdr⟩ := Option.isSome_iff_exists.mp (hrec y hy)
    exact PySem.W.tab_of G.T KX hdr e
  exact law_callGT KX G.T.g G.T.b G.T.builtins G.T.nolimit hg (fun p hp => (tabs p hp).2) nt (fun p hp => (tabs p hp).1) G.T.bmain hobj hints (Nat.le_trans hlen hn2) hr hF hb (fun H hH hS => hsp _ cs H a ns hlen hH hS)
end



/-! ### f(lambda: ..): the def that calls what it got, where what is raised is told at its own slots -/
section
open PySem.Spec PyProof.Rows LamX
variable {X : Cx} {pins : List (Addr × Obj)} {σ : L2.St} {H : Hp} {s : Shared}
/-- the def's context, entered at s from X -/
abbrev cxC (X : Cx) (Ng : List Str) (x : Str) (sg : Scope) (g : Addr) (cdg : Value) (s : Shared) (H : Hp) : Cx := cxOf CX0 X.prog X.w X.K X.mg X.base Ng x sg g cdg X.A X.stack s H E0
theorem pe_actS {Ng : List Str} {x : Str} {sg : Scope} {g f c' : Addr} {cdg pm ctv : Value} {params : Arguments} {body : Expr} {scope : Scope} {k i : Nat} {a : Str} {pn : List (Addr × Obj)} {xe : Value → Shared → Prop} {W : WX} {tb : XK → TE} {p1 p2 : Pos}
    (I : Inv X pins σ H s) (L : LamS X.env.scope scope) (hf : s.heap.get? f = some (PySem.W.kla_obj "<lambda>" (X.env.qual ++ "<lambda>") params body scope (cloFrom X.env.cells scope.names []) pm c' ctv)) (hfn : H f = none) (hfr : f ∉ frs X.stack)
    (hbind : bindArgs (PySem.W.kla_fn "<lambda>" (X.env.qual ++ "<lambda>") params body scope (cloFrom X.env.cells scope.names []) pm (.ref c') ctv) ⟨[], []⟩ = pure [])
    (tk : Takes ((cxC X Ng x sg g cdg s H).tr pn xe) W) (hr : Room (k + 1) (X.A.deeper (envOfC x sg s.heap.objs.size g cdg)))
    (hbody : ∀ (A : Around) (outer : List Env) (s : Shared) (H : Hp) (E : XK), Room k (A.deeper (lamEnv X scope s.heap.objs.size f c')) → A.guards = X.A.guards → PE (lamCx X A outer s H E scope f c') body (tb E))
    (hN : Ng[i]? = some a) (hv : Vis sg a) (hd : (a == ("__debug__" : Str)) = false := by decide) (hcd : (a == ("__classdict__" : Str)) = false := by decide) :
    PE ((cxC X Ng x sg g cdg s H).tr pn xe) (.Call (.Name a p1) [] [] p2) (fun σZ HZ Q => σZ[i]? = some (some (.ref f)) ∧ HZ c' = some (CodeO c' (X.env.qual ++ "<lambda>")) ∧ ∃ (E : XK) (Q' : VK), (∀ cls d H', E cls d H' → W cls d σZ H') ∧ (∀ v H', Q' v H' → Q v H') ∧ tb E σ HZ Q') := by
  refine ⟨fun pinsZ sZ σZ HZ Q IZ ⟨hs, hc, E, Q', hW, hQ, ht⟩ => ?_⟩
  refine wpAny_Call_Name_kw (thn ((pe_var (pos := p1) (i := i) hN hv hd hcd).run pinsZ sZ σZ HZ (fun v H1 => v = .ref f ∧ H1 = HZ) IZ ⟨.ref f, hs, rfl, rfl⟩) fun u s1 ⟨v, H1, I1, r1, ev, eH⟩ => ?_)
  subst ev eH
  obtain rfl : u = Value.ref f := r1
  have of1 := I1.base.keep f _ hf hfn hfr (fun z => nomatch (show f ∈ ([] : List Addr) from z))
  refine PySem.W.callWith_F0 ⟨_, _, _, _, of1⟩ ?_
  obtain ⟨⟨oc, vs, t, hoc, hdc, hvc⟩, _, _⟩ := I1.hok c' _ hc
  refine wpAny_call ?_
  refine codeAny_mono (R := CR (L2.CX X.prog X.w) (envOfC x sg s.heap.objs.size g cdg :: X.stack) X.prog X.w H1 s1 Q' E) ?_ fun r s' hq => ?_
  · refine PySem.W.kla_callFunE hr.depth of1 rfl L.co L.gen rfl ⟨c', oc, vs, t, rfl, hoc, hdc, hvc⟩ ?_
    show wpAny _ _ (bindArgs _ ⟨[], []⟩) _ _ _
    rw [hbind]
    refine wpAny_pure (wpAny_newFunctionEnv (fun y hy => (L.own y hy).2) (fun y hy => absurd hy (by simp)) (fun h₁ hns hsb => ⟨I1.nolimit.fresh _ hsb, ?_⟩) L.kind)
    have kp : ∀ b o, s1.heap.get? b = some o → h₁.get? b = some o := fun b o e => hsb.extBut b o (Nat.ne_of_lt (Heap.lt_size e)) (Heap.get?_push_of_some _ e)
    have J : Inv (lamCx X (X.A.deeper (envOfC x sg s.heap.objs.size g cdg)) (envOfC x sg s.heap.objs.size g cdg :: X.stack) s1 H1 E scope f c') [] σ H1 { s1 with heap := h₁, toks := s1.toks + ([] : List (Str × Value)).length } :=
      lam_start2 I L I1.env0 hr.hd I1.base hns kp
    refine PySem.W.kla_codeExpr (wpAny_mono ((hbody _ _ s1 H1 E (hr.deeper _) rfl).run [] _ _ H1 Q' J ht) (fun v s' ⟨w', H', J', rv, q⟩ => ?_) fun e s' hq => hq)
    exact ⟨w', H', J'.os, J'.bare, J'.base, J'.hok, rv, q⟩
  · cases r with
    | error e => exact tk e s' (XE.of_call I1 hW hq)
    | ok fl =>
      cases fl with
      | ret u =>
        obtain ⟨v, H', I', r, q⟩ := I1.after hq
        exact ⟨v, H', I', r, hQ _ _ q⟩
      | next => exact False.elim hq
      | brk => exact False.elim hq
      | cont => exact False.elim hq
/-- what the def (x at g) makes of what it got: TT of the lambda's reading -/
def GivesC (X : Cx) (Ng : List Str) (x : Str) (sg : Scope) (g : Addr) (cdg : Value) (bg : List Stmt) (a : Str) (q : Str) (TT : (XK → Hp → VK → Prop) → Hp → VK → Prop) : Prop :=
  ∀ (f c' : Addr) (s : Shared) (H : Hp) (Q : VK) (tl : XK → Hp → VK → Prop),
    (∀ (W : WX) (pn : List (Addr × Obj)) (xe : Value → Shared → Prop) (p1 p2 : Pos), Takes ((cxC X Ng x sg g cdg s H).tr pn xe) W →
      PE ((cxC X Ng x sg g cdg s H).tr pn xe) (.Call (.Name a p1) [] [] p2) (fun σZ HZ Q => σZ[0]? = some (some (.ref f)) ∧ HZ c' = some (CodeO c' q) ∧ ∃ (E : XK) (Q' : VK), (∀ cls d H', E cls d H' → W cls d σZ H') ∧ (∀ v H', Q' v H' → Q v H') ∧ tl E HZ Q')) →
    H c' = some (CodeO c' q) → TT tl H Q → ∃ t, PSs (cxC X Ng x sg g cdg s H).nox bg t ∧ t { nx := fun _ H' => Q .non H', rt := Q } (L2.start Ng [.ref f]) H
/-- x(lambda: body) -/
theorem pe_lamC {T : List (Addr × Str)} {TT : (XK → Hp → VK → Prop) → Hp → VK → Prop} {x a : Str} {g c P : Addr} {k : Nat} {pg : Arguments} {bg : List Stmt} {sg : Scope} {dV kV doc pm cdv ct oc : Value} {an od : Option Addr} {osl : Array (Option Value)} {Ng : List Str}
    {params : Arguments} {body : Expr} {scope : Scope} {t : XK → TE} {p lpos pos : Pos} (hg : Gl X x) (hm : X.mg x = some (.ref g)) (hk : PySem.W.keepIn X.K (.ref g) = true)
    (lk : X.K.lookup g = some ⟨oc, od, .func (PySem.W.fnOf x x pg bg sg dV kV doc pm an cdv ct), osl⟩) (hcg : PySem.W.codeIn X.K cdv x = true) (hb : L2.Binds X.K (PySem.W.fnOf x x pg bg sg dV kV doc pm an cdv ct) [a] []) (Sg : FnScope Ng [a] sg) (hNg : Ng[0]? = some a) (hva : Vis sg a)
    (hG : GivesC X Ng x sg g cdv bg a (X.env.qual ++ "<lambda>") TT)
    (TB : TabB X.base X.mg c P) (hcode : X.env.code = .ref c) (hmT : (P, X.env.qual ++ "<lambda>") ∈ T) (hu : ∀ p ∈ T, p.1 = P → p.2 = X.env.qual ++ "<lambda>") (hr : Room (k + 2) X.A) (L : LamS X.env.scope scope) (hdef : defaultsOf params X.env = ([], []))
    (hbind : ∀ (q : Str) (cl : List (Str × Addr)) (pm cv ctv : Value), bindArgs (PySem.W.kla_fn "<lambda>" q params body scope cl pm cv ctv) ⟨[], []⟩ = pure [])
    (hbody : ∀ (A : Around) (outer : List Env) (s : Shared) (H : Hp) (E : XK) (f c' : Addr), Room k (A.deeper (lamEnv X scope s.heap.objs.size f c')) → A.guards = X.A.guards → PE (lamCx X A outer s H E scope f c') body (t E))
    (hdb : (x == ("__debug__" : Str)) = false := by decide) (hd : (a == ("__debug__" : Str)) = false := by decide) (hcd : (a == ("__classdict__" : Str)) = false := by decide) :
    PE X (.Call (.Name x p) [.Lambda params body scope lpos] [] pos) (tLam T TT t) := by
  refine ⟨fun pins s σ H Q I ⟨hT, h⟩ => ?_⟩
  refine wpAny_Call_Name_kw (ld_glob I hg hm ?_ hdb)
  refine PySem.W.callWith_K (h₀ := X.base) I.ok.mod.kin hk ?_ (by rfl) (by rfl)
  show wpAny _ _ (spliced ((false, eval (.Lambda params body scope lpos) X.env) :: backTo pos (starEach [] X.env))) _ _ s
  refine Calls.spliced_cons (lam_make2 I TB hcode hmT hu hT hdef (L.has I.ok) fun f c' pm' ctv H1 s' I1 eN T1 hf hfn hfr hco => ?_)
  refine Calls.spliced_nil ⟨I1.kIn, ?_⟩
  refine wpAny_call (codeAny_mono (R := CR CX0 X.stack X.prog X.w H1 s' Q E0) ?_ fun r s2 hq => ?_)
  · refine run_ofS (N := Ng) (ps := [a]) (us := [.ref f]) (vs := [.ref f]) lk hcg Sg hr I1.env0 (hb s' [.ref f] I1.kIn rfl) (.cons rfl .nil) rfl fun hr' => ?_
    obtain ⟨t', ht', hq'⟩ := hG f c' s' H1 Q (fun E H' Q' => t E σ H' Q') (fun W pn xe p1 p2 tk => pe_actS (i := 0) I1 L hf hfn hfr (hbind _ _ _ _ _) tk hr' (fun A outer s H E hr2 hg2 => hbody A outer s H E f c' hr2 hg2) hNg hva hd hcd) hco (h H1 eN T1)
    exact ⟨t', ht'.nox, hq'⟩
  · cases r with
    | error e => exact (show False from hq).elim
    | ok fl =>
      cases fl with
      | ret u => exact I1.after hq
      | next => exact False.elim hq
      | brk => exact False.elim hq
      | cont => exact False.elim hq
end



/-! ### the kinds of errors that the laws tell -/
/-- D is the j-th of the classes es (all but the last two over LineError) -/
structure KindAt (K : PySem.W.Frag) (es : Nat → Addr) (l t n D : Addr) (j : Nat) : Prop where
  lt : j < 13
  kit : ∀ i, i < 16 → PySem.W.kitOne K (.ref D) (.ref (es i)) = some (decide (i = j))
  ve : PySem.W.kitOne K (.ref D) (.type "ValueError") = some true
  xi : XIs K D
  ex : PySem.W.exmAny K (.ref D) [.ref l, .ref t, .ref n] = some true
theorem isCls_some {K : PySem.W.Frag} {C : Addr} (h : PySem.W.isClsIn K C = true) : (PySem.W.clsIn K C).isSome = true := h
theorem kit_inR {K : PySem.W.Frag} {C D : Addr} (mc : PySem.W.mroIn K D (.ref D) = some true) (ic : PySem.W.isClsIn K C = true) (ty : PySem.W.typeIn K (.ref C) = some (.type "type")) (h : PySem.W.subIn K (.ref D) (.ref C) = some false) : PySem.W.kitOne K (.ref D) (.ref C) = some false := by
  refine kit_in ic ty h fun e => ?_
  rw [← e] at h
  have h' : PySem.W.mroIn K D (.ref D) = some false := h
  rw [mc] at h'
  cases h'
theorem exm3 {K : PySem.W.Frag} {D c1 c2 c3 : Value} (h1 : PySem.W.exmOne K D c1 = some true) (h2 : PySem.W.exmOne K D c2 = some false) (h3 : PySem.W.exmOne K D c3 = some false) : PySem.W.exmAny K D [c1, c2, c3] = some true := by
  simp [PySem.W.exmAny, h1, h2, h3]
/-- a def of the module, its code object told -/
structure FunC (K : PySem.W.Frag) (x : Str) (st : Stmt) (f : Addr) (fd : FuncData) (c : Addr) : Prop where
  ex : ∃ (oc : Value) (od : Option Addr) (kV doc pm : Value) (an : Option Addr) (ct : Value) (osl : Array (Option Value)),
    fd = PySem.W.fnOf x x (defArgs st) (defBody st) (defScope st) .none kV doc pm an (.ref c) ct ∧ K.lookup f = some ⟨oc, od, .func fd, osl⟩ ∧ PySem.W.codeIn K (.ref c) x = true
  kp : PySem.W.keepIn K (.ref f) = true
theorem tab_mk {K : PySem.W.Frag} {x : Str} {f c P : Addr} {oc cl : Value} {od cld : Option Addr} {fd : FuncData} {sl csl : Array (Option Value)} {vs : Array Value} (a : PySem.W.nsIn K mainGlobals x = some (some (.ref f))) (l : K.lookup f = some ⟨oc, od, .func fd, sl⟩) (e : fd.code = .ref c)
    (lk : K.lookup c = some ⟨cl, cld, .fields vs, csl⟩) (v : vs[11]? = some (.ref P)) : PySem.W.tabIn K x = some (c, P) := by
  unfold PySem.W.tabIn
  rw [a]
  dsimp only
  rw [l]
  dsimp only
  rw [e]
  dsimp only
  rw [lk]
  dsimp only
  rw [v]
section
variable {P : Program} {w : World} {K : PySem.W.Frag} {mg : Str → Option Value} {base : Heap}
theorem okGC {x : Str} {st : Stmt} {f c : Addr} {fd : FuncData} {N ps : List Str} {k : Nat} {sp : Sp} (F : FunC K x st f fd c) (S : FnScope N ps (defScope st)) (len : ∀ vs H Q E, sp vs H Q E → vs.length = ps.length)
    (hbody : ∀ (A : Around) (outer : List Env) (s : Shared) (H : Hp) (vs : List V) (Q : VK) (E : XK), Room k (A.deeper (PyProof.Rows.envOfC x (defScope st) s.heap.objs.size f (.ref c))) → (cxOf CX0 P w K mg base N x (defScope st) f (.ref c) A outer s H E).nox.A.guards = some [] → sp vs H Q E →
      ∃ t, PSs (cxOf CX0 P w K mg base N x (defScope st) f (.ref c) A outer s H E).nox (defBody st) t ∧ t { nx := fun _ H' => Q .non H', rt := Q } (L2.start N vs) H) : FnG P w K mg base CX0 (k + 1) f fd ps sp := by
  obtain ⟨oc, od, kV, doc, pm, an, ct, osl, rfl, lk, hcd⟩ := F.ex
  refine fnG_of lk hcd S len fun A outer s H vs Q E hr hg hsp => ?_
  obtain ⟨t, h, q⟩ := hbody A outer s H vs Q E hr hg hsp
  exact ⟨t, h.nox, q⟩
end

/-! ### calls with keywords -/
def pick {α : Type} (is : List Nat) (xs : List α) : List α := is.filterMap fun i => xs[i]?
theorem pick_rel (is : List Nat) {xs : List V} {ys : List Value} (h : Vals xs ys) : Vals (pick is xs) (pick is ys) := by
  have key : ∀ i : Nat, (xs[i]? = none ∧ ys[i]? = none) ∨ ∃ x y, xs[i]? = some x ∧ ys[i]? = some y ∧ RelV x y := by
    induction h with
    | nil => exact fun i => .inl ⟨rfl, rfl⟩
    | cons r t ih =>
      intro i
      cases i with
      | zero => exact .inr ⟨_, _, rfl, rfl, r⟩
      | succ i => exact ih i
  unfold pick
  induction is with
  | nil => exact .nil
  | cons i is ih =>
    rw [List.filterMap_cons, List.filterMap_cons]
    rcases key i with ⟨h1, h2⟩ | ⟨x, y, h1, h2, r⟩
    · rw [h1, h2]
      exact ih
    · rw [h1, h2]
      exact .cons r ih
def mkGoK (C : Addr) (sp : Sp) (gV : List V → List V → List V) (E : XK) (vs zs : List V) (H : Hp) (Q : VK) : Prop := ∀ x dx, H x = none → H dx = none → dx ≠ x → sp (gV (.ref x :: vs) zs) (upd (upd H dx (.own x)) x (.ins C dx [])) (fun v H3 => v = .non ∧ Q (.ref x) H3) E
theorem tMakeK_eq {C : Addr} {n m : Nat} {sp : Sp} {gV : List V → List V → List V} {E : XK} {t tk : TA} {σ : St} {H : Hp} {Q : VK} : tMakeK C n m sp gV E t tk σ H Q = t σ H fun vs H1 => tk σ H1 fun zs H2 => vs.length = n ∧ zs.length = m ∧ mkGoK C sp gV E vs zs H2 Q := rfl
theorem makeK_go {C : Addr} {sp : Sp} {gV : List V → List V → List V} {E : XK} {vs zs ws : List V} {H : Hp} {Q : VK} (h : ∀ x, gV (.ref x :: vs) zs = .ref x :: (ws ++ [])) (k : ∀ x dx, H x = none → H dx = none → dx ≠ x → sp (.ref x :: (ws ++ [])) (upd (upd H dx (.own x)) x (.ins C dx [])) (fun v H3 => v = .non ∧ Q (.ref x) H3) E) : mkGoK C sp gV E vs zs H Q := fun x dx h1 h2 h3 => by
  rw [h]
  exact k x dx h1 h2 h3



/-! ### sets of one-sign texts: set(t), len(set(t)), sorted(set(t)) -/
section
open PySem.Froz PyProof.Rows
def TOk (w : World) (t : SetTable) : Prop := Ris t.place.toList ∧ (w.params.followText "set-order" = true ∨ t.led = true)
theorem TOk.unplain {w : World} {t : SetTable} (d : TOk w t) : TOk w (if t.plain = true then { t with plain := false } else t) := by
  split
  · exact d
  · exact d
theorem TOk.tail {w : World} {ep : Nat} {es1 : Array (Int × Value)} {t2 : SetTable} {wd : Bool} (d : TOk w t2) : TOk w (tailTx ep es1 t2 wd).2.2 := by
  unfold tailTx
  split
  · exact ⟨relayAll_ris _ _ _, by rw [relayAll_led]; exact d.2⟩
  · exact d
theorem TOk.add {w : World} {h : Int} {v : Value} {D : SD} (d : TOk w D.2.2) : TOk w (addTx h v D).2.2 :=
  TOk.tail (TOk.unplain ⟨layNew_ris _ _ _ _ d.1, by rw [layNew_led]; exact d.2⟩)
theorem TOk.run {w : World} : ∀ (cs : List Nat) (tk : Tok) (D : SD), TOk w D.2.2 → TOk w (runD w cs tk D).2.2
  | [], _, _, d => d
  | c :: cs, tk, D, d => TOk.run cs (tk + 2) _ d.add
theorem txOk_run {P : Program} {w : World} : ∀ (cs : List Nat) (tk : Tok) (D : SD) (l : List Str), TxOk P w D l → TxOk P w (runD w cs tk D) ((cs.map sing).reverse ++ l)
  | [], _, _, _, d => d
  | c :: cs, tk, D, l, d => by
    have q := txOk_run cs (tk + 2) _ (sing c :: l) (add_ok tk d)
    rw [List.map_cons, List.reverse_cons, List.append_assoc]
    exact q
theorem perm_of_sub {α : Type} [BEq α] [LawfulBEq α] : ∀ {l m : List α}, l.Nodup → (∀ x ∈ l, x ∈ m) → m.length = l.length → m.Perm l
  | [], m, _, _, h => by rw [List.length_eq_zero_iff.mp h]
  | x :: l, m, hn, hs, h => by
    obtain ⟨h1, h2⟩ := List.nodup_cons.mp hn
    have hx := hs x List.mem_cons_self
    refine (List.perm_cons_erase hx).trans (List.Perm.cons x (perm_of_sub h2 (fun y hy => ?_) ?_))
    · have ne : y ≠ x := fun e => h1 (e ▸ hy)
      exact (List.mem_erase_of_ne ne).mpr (hs y (List.mem_cons_of_mem _ hy))
    · rw [List.length_erase_of_mem hx, h]
      rfl
def addU (l : List Str) (c : Nat) : List Str := if sing c ∈ l then l else sing c :: l
/-- the unlike signs of a text -/
def dist (cs : List Nat) : List Str := cs.foldl addU []
theorem sing_inj {c d : Nat} (h : sing c = sing d) : c = d := by
  have q2 : [c] = [d] := congrArg (fun y : Str => y.cps.toList) h
  exact (List.cons.inj q2).1
theorem addU_len (l : List Str) (c : Nat) : (addU l c).length ≤ l.length + 1 := by
  unfold addU
  split
  · exact Nat.le_succ _
  · exact Nat.le_refl _
theorem foldU_len : ∀ (cs : List Nat) (l : List Str), (cs.foldl addU l).length ≤ l.length + cs.length
  | [], l => Nat.le_refl _
  | c :: cs, l => by
    have q := foldU_len cs (addU l c)
    have q2 := addU_len l c
    show ((cs.foldl addU (addU l c))).length ≤ l.length + (cs.length + 1)
    omega
theorem foldU_full : ∀ (cs : List Nat) (l : List Str), (cs.foldl addU l).length = l.length + cs.length → cs.Nodup ∧ ∀ c ∈ cs, sing c ∉ l
  | [], l, _ => ⟨List.nodup_nil, fun c h => by simp at h⟩
  | c :: cs, l, h => by
    have q := foldU_len cs (addU l c)
    have q2 := addU_len l c
    have h' : (cs.foldl addU (addU l c)).length = l.length + (cs.length + 1) := h
    have hc : sing c ∉ l := fun hm => by
      have e : addU l c = l := if_pos hm
      rw [e] at q h'
      omega
    have e : addU l c = sing c :: l := if_neg hc
    rw [e] at h'
    obtain ⟨a1, a2⟩ := foldU_full cs (sing c :: l) (by rw [h', List.length_cons]; omega)
    refine ⟨List.nodup_cons.mpr ⟨fun hm => a2 c hm List.mem_cons_self, a1⟩, fun d hd => ?_⟩
    rcases List.mem_cons.mp hd with rfl | hd
    · exact hc
    · exact fun hm => a2 d hd (List.mem_cons_of_mem _ hm)
theorem dist_nodup {cs : List Nat} (h : (dist cs).length = cs.length) : cs.Nodup := (foldU_full cs [] (by rw [← dist, h]; simp)).1
theorem foldU_nodup : ∀ (cs : List Nat) (l : List Str), cs.Nodup → (∀ c ∈ cs, sing c ∉ l) → (cs.foldl addU l).length = l.length + cs.length
  | [], l, _, _ => rfl
  | c :: cs, l, hn, h => by
    obtain ⟨h1, h2⟩ := List.nodup_cons.mp hn
    have e : addU l c = sing c :: l := if_neg (h c List.mem_cons_self)
    show (cs.foldl addU (addU l c)).length = l.length + (cs.length + 1)
    rw [e, foldU_nodup cs _ h2 fun d hd hm => ?_, List.length_cons]
    · omega
    · rcases List.mem_cons.mp hm with q | q
      · exact h1 (sing_inj q ▸ hd)
      · exact h d (List.mem_cons_of_mem _ hd) q
theorem dist_len {cs : List Nat} (h : cs.Nodup) : (dist cs).length = cs.length := by
  have q := foldU_nodup cs [] h fun _ _ => by simp
  simpa [dist] using q
theorem dist_le (cs : List Nat) : (dist cs).length ≤ cs.length := by
  have q := foldU_len cs []
  simpa [dist] using q
section
variable {P : Program} {w : World} {A : Around} {R : Result → Shared → Prop}
theorem update_any {a it : Addr} (hne : a ≠ it) {x : Str} {u : Tok} (hh : A.handled = none) : ∀ (cs : List Nat) (i : Nat) (l : List Str) (s : Shared), x.cps.toList.drop i = cs →
    s.heap.SetOf (strKind P w) a (fun k => decide (k ∈ l)) l.length → s.heap.get? it = some (itObj x u i) → l.length + cs.length < scanBound →
    (∀ h' tk, h'.SetOf (strKind P w) a (fun k => decide (k ∈ cs.foldl addU l)) (cs.foldl addU l).length → (∀ b o, b ≠ a → b ≠ it → s.heap.get? b = some o → h'.get? b = some o) → R (.ok (.ret .none)) { s with heap := h', toks := tk }) →
    codeAny (model P w) A (.builtin "set.update.loop" ⟨[.ref a, .ref it], []⟩) R s
  | [], i, l, s, hd, ha, hit, hb, h => by
    refine codeAny_builtin PyProof.Rows.F.entry_set_update_loop ?_
    rw [Around.under_plainId PyProof.Rows.F.plain_set_update_loop _]
    show wpAny _ A.in1 (pyNext (.ref it) >>= _) _ _ s
    refine wpAny_bind (end_x (u := u) (by exact hh) hit (at_end hd) ?_)
    show wpAny _ A.in1 (ret Value.none) _ _ _
    refine wpAny_pure (h _ s.toks ?_ fun b o n1 n2 e => ?_)
    · obtain ⟨o, es, ep, t, ho, rest⟩ := ha
      exact ⟨o, es, ep, t, Heap.get?_push_of_some _ (Heap.get?_push_of_some _ (PySem.Heap.get?_update_of_ne _ (Ne.symm hne) ho)), rest⟩
    · exact Heap.get?_push_of_some _ (Heap.get?_push_of_some _ (PySem.Heap.get?_update_of_ne _ (Ne.symm n2) e))
  | c :: r, i, l, s, hd, ha, hit, hb, h => by
    obtain ⟨hx, hd2⟩ := at_of hd
    have hb2 : l.length + (r.length + 1) < scanBound := hb
    refine codeAny_builtin PyProof.Rows.F.entry_set_update_loop ?_
    rw [Around.under_plainId PyProof.Rows.F.plain_set_update_loop _]
    show wpAny _ A.in1 (pyNext (.ref it) >>= _) _ _ s
    refine wpAny_bind (next_x (u := u) hit hx ?_)
    show wpAny _ A.in1 (holding [Value.str (sing c) s.toks] (setAdd a (.str (sing c) s.toks)) >>= _) _ _ _
    refine wpAny_bind (wpAny_holding ?_)
    unfold setAdd
    refine wpAny_holding ?_
    refine wpAny_bind ((strKind P w).pyHash (k := sing c) (is_str _ _) ?_)
    have ha1 : (s.heap.update it (fun _ => itObj x u (i + 1))).SetOf (strKind P w) a (fun k => decide (k ∈ l)) l.length := by
      obtain ⟨o, es, ep, t, ho, rest⟩ := ha
      exact ⟨o, es, ep, t, PySem.Heap.get?_update_of_ne _ (Ne.symm hne) ho, rest⟩
    refine wpAny_setAddHashed_of (knd := strKind P w) (s := { s with heap := s.heap.update it (fun _ => itObj x u (i + 1)), toks := s.toks + 1 + 1 }) (is_str _ _) rfl ha1 (by omega) fun h' hsb hS => ?_
    have hS2 : h'.SetOf (strKind P w) a (fun k => decide (k ∈ addU l c)) (addU l c).length := by
      refine SetOf_congr hS (fun k => ?_) ?_
      · unfold addU
        by_cases hm : sing c ∈ l
        · rw [if_pos hm]
          by_cases e : k = sing c
          · subst e; simp [hm]
          · simp [e]
        · rw [if_neg hm]
          by_cases e : k = sing c
          · subst e; simp
          · simp [e]
      · unfold addU
        by_cases hm : sing c ∈ l
        · simp [hm]
        · simp [hm]
    refine wpAny_pure ⟨plainId_quiet PyProof.Rows.F.plain_set_update_loop _, update_any (u := u) hne hh r (i + 1) (addU l c) _ hd2 hS2 ?_ ?_ fun h2 tk hF hk => h h2 tk hF fun b o n1 n2 e => hk b o n1 n2 ?_⟩
    · rw [hsb.2 it (Ne.symm hne)]
      exact get_upd _ hit rfl
    · have q2 := addU_len l c
      omega
    · rw [hsb.2 b n1]
      exact PySem.Heap.get?_update_of_ne _ (Ne.symm n2) e
end
section
variable {P : Program} {w : World} {A : Around} {E : Value → Shared → Prop} {s : Shared}
def set0 (w : World) : Obj := { cls := .type "set", dict := none, data := .set #[] 0 (.fresh 0 0 (!w.params.followText "set-order")) }
set_option maxHeartbeats 3200000 in
theorem set_shell {x : Str} {u : Tok} {Q : Value → Shared → Prop} (hh : A.handled = none) (ha : x.cps.all (· < 128) = true) (Φ : Shared → Prop)
    (loop : ∀ (A' : Around) (R : Result → Shared → Prop), A'.handled = none → (∀ s', Φ s' → R (.ok (.ret .none)) s') →
      codeAny (model P w) A' (.builtin "set.update.loop" ⟨[.ref s.heap.objs.size, .ref (s.heap.push (set0 w)).objs.size], []⟩) R { s with heap := (s.heap.push (set0 w)).push (itObj x u 0) })
    (h : ∀ s', Φ s' → Q (.ref s.heap.objs.size) s') : wpAny (model P w) A (call (.type "set") [.str x u]) Q E s := by
  obtain ⟨c, tl, hmro⟩ := F.called_set.mro
  have hmade := F.called_set.made
  have hsub := F.called_set.sub
  refine wpAny_call (codeAny_of_tree ?_)
  show wpAny _ _ (callAny (.type "set") _) _ _ _
  refine wpAny_pure ⟨Code.quiet_builtin _ (by decide +kernel), codeAny_builtin F.entry_type_call ?_⟩
  rw [Around.under_plain (weight_type_call_type "set" [.str x u] []) rfl]
  have h1 := F.called_set.notType
  have h2 := F.called_set.canCreate
  have hct := F.typeCall_set_1 (.str x u)
  repeat (any_goals (first | assumption | wp_step))
  refine codeAny_mono (code_set_led1 (.str x u) (E := E) (Q₁ := fun obj s₁ => obj = .ref s.heap.objs.size ∧ s₁ = { s with heap := s.heap.push (set0 w) }) ⟨rfl, rfl⟩) fun r s₁ hr => ?_
  cases r with
  | error e => exact hr
  | ok fl =>
    cases fl with
    | ret obj =>
      obtain ⟨rfl, rfl⟩ := hr
      have hS : (s.heap.push (set0 w)).get? s.heap.objs.size = some (set0 w) := Heap.get?_push_size _ rfl
      have hT : Shared.TypeIs { s with heap := s.heap.push (set0 w) } (.ref s.heap.objs.size) "set" := ⟨_, hS, rfl⟩
      have hli := F.called_set.init.lookup
      have hbi := F.called_set.init.bind (.ref s.heap.objs.size)
      repeat (any_goals (first | assumption | wp_step))
      refine codeAny_mono (codeAny_call_builtin (R := wants (fun r s₂ => r = .none ∧ Φ s₂) E) F.called_set.init.plain F.entry_set_init (check_set_init_1 hT ?_)) fun r₂ s₂ hr₂ => ?_
      · have hsls := PySem.F.sub_str_set
        have hslf := PySem.F.sub_str_frozenset
        have hne : (Value.type "str" == Value.type "dict") = false := by decide
        have hS' : (s.heap.push (set0 w)).get? s.heap.objs.size = some { cls := .type "set", dict := none, data := .set #[] 0 (.fresh 0 0 (!w.params.followText "set-order")) } := hS
        unfold Builtin.«set.__init__» noKeywords Builtin.Frozenset.updateFrom
        generalize hPI : pyIter = PI
        wp_walk
        subst hPI
        refine wpAny_pyIter_ascii ha ?_
        refine wpAny_bind (wpAny_runValue ?_)
        have hh3 : A.in1.in1.in1.handled = none := by simp [hh]
        refine loop _ _ hh3 fun s' hs' => ?_
        show wpAny _ _ _ _ _ _
        refine wpAny_pure ?_
        show wpAny _ _ (ret Value.none) _ _ _
        exact wpAny_pure ⟨rfl, hs'⟩
      · cases r₂ with
        | error e => exact hr₂
        | ok fl₂ =>
          cases fl₂ with
          | ret r =>
            obtain ⟨rfl, hΦ⟩ := hr₂
            repeat (any_goals (first | assumption | wp_step))
            exact h _ hΦ
          | _ => exact hr₂.elim
    | _ => exact hr.elim
theorem set_any {x : Str} {u : Tok} {Q : Value → Shared → Prop} (hh : A.handled = none) (ha : x.cps.all (· < 128) = true) (hl : x.cps.size < 1000)
    (h : ∀ h' tk, h'.SetOf (strKind P w) s.heap.objs.size (fun k => decide (k ∈ dist x.cps.toList)) (dist x.cps.toList).length → (∀ b o, s.heap.get? b = some o → h'.get? b = some o) → Q (.ref s.heap.objs.size) { s with heap := h', toks := tk }) :
    wpAny (model P w) A (call (.type "set") [.str x u]) Q E s := by
  refine set_shell hh ha (fun s' => ∃ h' tk, s' = { s with heap := h', toks := tk } ∧ h'.SetOf (strKind P w) s.heap.objs.size (fun k => decide (k ∈ dist x.cps.toList)) (dist x.cps.toList).length ∧ ∀ b o, s.heap.get? b = some o → h'.get? b = some o) (fun A' R hA hR => ?_) fun s' ⟨h', tk, e, e1, e2⟩ => by
      subst e
      exact h h' tk e1 e2
  have hS : ((s.heap.push (set0 w)).push (itObj x u 0)).get? s.heap.objs.size = some (set0 w) := Heap.get?_push_of_some _ (Heap.get?_push_size _ rfl)
  refine update_any (by rw [Heap.size_push]; exact Nat.ne_of_lt (Nat.lt_succ_self _)) hA x.cps.toList 0 [] _ rfl ?_ (Heap.get?_push_size _ rfl) (by rw [Array.length_toList]; unfold scanBound; simp; omega) fun h' tk hF hk => hR _ ⟨h', tk, rfl, hF, fun b o e => ?_⟩
  · exact PyProof.Rows.SetOf_congr ((PyProof.Rows.setObjOf_fresh (knd := strKind P w) (!w.params.followText "set-order")).setOf hS (by unfold scanBound; simp)) (fun _ => by simp) rfl
  · have hb0 : b < s.heap.objs.size := Heap.lt_size e
    exact hk b o (Nat.ne_of_lt hb0) (by rw [Heap.size_push]; exact Nat.ne_of_lt (Nat.lt_succ_of_lt hb0)) (Heap.get?_push_of_some _ (Heap.get?_push_of_some _ e))
theorem set_nodup {x : Str} {u : Tok} {Q : Value → Shared → Prop} (hh : A.handled = none) (ha : x.cps.all (· < 128) = true) (hl : x.cps.size < 1000) (hn : x.cps.toList.Nodup)
    (h : ∀ h' tk D, h'.get? s.heap.objs.size = some (sObj "set" D) → TxOk P w D ((x.cps.toList.map sing).reverse) → TOk w D.2.2 → (∀ b o, s.heap.get? b = some o → h'.get? b = some o) → Q (.ref s.heap.objs.size) { s with heap := h', toks := tk }) :
    wpAny (model P w) A (call (.type "set") [.str x u]) Q E s := by
  have hne : s.heap.objs.size ≠ (s.heap.push (set0 w)).objs.size := by rw [Heap.size_push]; exact Nat.ne_of_lt (Nat.lt_succ_self _)
  refine set_shell hh ha (fun s' => ∃ h' tk D, s' = { s with heap := h', toks := tk } ∧ h'.get? s.heap.objs.size = some (sObj "set" D) ∧ TxOk P w D ((x.cps.toList.map sing).reverse) ∧ TOk w D.2.2 ∧ ∀ b o, s.heap.get? b = some o → h'.get? b = some o) (fun A' R hA hR => ?_) fun s' ⟨h', tk, D, e, e1, e2, e3, e4⟩ => by
      subst e
      exact h h' tk D e1 e2 e3 e4
  have hS : ((s.heap.push (set0 w)).push (itObj x u 0)).get? s.heap.objs.size = some (sObj "set" (#[], 0, .fresh 0 0 (!w.params.followText "set-order"))) := Heap.get?_push_of_some _ (Heap.get?_push_size _ rfl)
  have T0 : TxOk P w ((#[], 0, .fresh 0 0 (!w.params.followText "set-order")) : SD) [] := TxOk.nil (by rfl)
  have O0 : TOk w ((#[], 0, .fresh 0 0 (!w.params.followText "set-order")) : SD).2.2 := by
    refine ⟨List.Pairwise.nil, ?_⟩
    show w.params.followText "set-order" = true ∨ (!w.params.followText "set-order") = true
    cases w.params.followText "set-order" <;> simp
  refine code_update hne hA x.cps.toList 0 _ [] _ rfl hS (Heap.get?_push_size _ rfl) T0 (fun _ _ => by simp) hn (by rw [Array.length_toList]; unfold scanBound; simp; omega) (hR _ ?_)
  have T1 := txOk_run (P := P) (w := w) x.cps.toList s.toks _ [] T0
  rw [List.append_nil] at T1
  refine ⟨_, _, runD w x.cps.toList s.toks (#[], 0, .fresh 0 0 (!w.params.followText "set-order")), rfl, ?_, T1, TOk.run _ _ _ O0, fun b o e => ?_⟩
  · refine Heap.get?_push_of_some _ (Heap.get?_push_of_some _ ?_)
    exact PySem.Heap.get?_update_of_ne _ (Ne.symm hne) (get_upd _ hS rfl)
  · have hb0 : b < s.heap.objs.size := Heap.lt_size e
    have n1 : b ≠ s.heap.objs.size := Nat.ne_of_lt hb0
    have n2 : b ≠ (s.heap.push (set0 w)).objs.size := by rw [Heap.size_push]; exact Nat.ne_of_lt (Nat.lt_succ_of_lt hb0)
    refine Heap.get?_push_of_some _ (Heap.get?_push_of_some _ ?_)
    exact PySem.Heap.get?_update_of_ne _ (Ne.symm n2) (PySem.Heap.get?_update_of_ne _ (Ne.symm n1) (Heap.get?_push_of_some _ (Heap.get?_push_of_some _ e)))
end
section
variable {X : Cx} {a : Expr} {ta : TE} {p p2 q pos : Pos}
def tLenSetS (ta : TE) : TE := fun σ H Q => ta σ H fun x H1 => ∃ t, x = V.str t ∧ t.cps.all (· < 128) = true ∧ t.cps.size < 1000 ∧ Q (.int (dist t.cps.toList).length) H1
theorem pe_lenSetS (hc : X.calm = true) (hg : Gl X "len") (hm : X.mg "len" = none) (hg2 : Gl X "set") (hm2 : X.mg "set" = none) (ha : PE X a ta)
    (na : starEach [a] X.env = (false, eval a X.env) :: starEach [] X.env := by rfl) : PE X (.Call (.Name "len" p) [.Call (.Name "set" p2) [a] [] q] [] pos) (tLenSetS ta) := by
  refine ⟨fun pins s σ H Q I h => ?_⟩
  refine Call_ (ld_blt I hg hm PySem.boot_len ?_)
  refine PyProof.Rows.callWith_builtin1 (PyProof.Rows.args_cons ?_ rfl) rfl rfl
  refine Call_ (ld_blt I hg2 hm2 PyProof.Rows.boot_set ?_)
  refine PyProof.Rows.callWith_type1 (PyProof.Rows.args_cons (thn (ha.run pins s σ H _ I h) fun v s1 ⟨x, H1, I1, r1, q1⟩ => PyProof.Rows.args_nil ?_) na) na rfl
  obtain ⟨t, rfl, h1, h2, q1⟩ := q1
  obtain ⟨u, rfl⟩ := r1
  refine set_any (I1.ok.hd hc) h1 h2 fun h' tk hS hk => ?_
  refine PyProof.Rows.args_nil ?_
  obtain ⟨o, es, ep, tb, ho, hex, hd, _, _, _, hf, hn⟩ := hS
  have I2 : Inv X pins σ H1 { s1 with heap := h', toks := tk } := I1.kept hk
  have hle := dist_le t.cps.toList
  rw [Array.length_toList] at hle
  have hle2 : (dist t.cps.toList).length < 1000 := Nat.lt_of_le_of_lt hle h2
  have hle3 : es.size < 1000 := by rw [hn]; exact hle2
  refine call_len_set ho hex hd hf (by omega) ⟨.int (dist t.cps.toList).length, H1, I2.tok _, ⟨_, by rw [hn]⟩, q1⟩
def tSortSetS (ta : TE) : TE := fun σ H Q => ta σ H fun x H1 => ∃ t, x = V.str t ∧ t.cps.all (· < 128) = true ∧ t.cps.size < 64 ∧ t.cps.toList.Nodup ∧
  ∀ ys p, ys.Perm (t.cps.toList.map sing) → sortedS ys = true → H1 p = none → Q (.ref p) (upd H1 p (.lst (ys.map V.str)))
theorem strsAre_of : ∀ (l : List Value), (∀ v ∈ l, ∃ k tk, v = Value.str k tk) → ∃ ks, StrsAre l ks
  | [], _ => ⟨[], .nil⟩
  | v :: l, h => by
    obtain ⟨k, tk, rfl⟩ := h v List.mem_cons_self
    obtain ⟨ks, r⟩ := strsAre_of l fun u hu => h u (List.mem_cons_of_mem _ hu)
    exact ⟨k :: ks, .cons k tk r⟩
theorem strs_mem : ∀ {l : List Value} {ks : List Str}, StrsAre l ks → ∀ k, k ∈ ks ↔ ∃ tk, Value.str k tk ∈ l
  | _, _, .nil, k => by simp
  | _, _, .cons y t r, k => by
    constructor
    · intro h
      rcases List.mem_cons.mp h with e | h
      · exact ⟨t, by rw [e]; exact List.mem_cons_self⟩
      · obtain ⟨tk, m⟩ := (strs_mem r k).mp h
        exact ⟨tk, List.mem_cons_of_mem _ m⟩
    · rintro ⟨tk, h⟩
      rcases List.mem_cons.mp h with e | h
      · cases e
        exact List.mem_cons_self
      · exact List.mem_cons_of_mem _ ((strs_mem r k).mpr ⟨tk, h⟩)
theorem strs_len : ∀ {l : List Value} {ks : List Str}, StrsAre l ks → l.length = ks.length
  | _, _, .nil => rfl
  | _, _, .cons y t r => congrArg (· + 1) (strs_len r)
theorem pe_sortSetS (hc : X.calm = true) (hg : Gl X "sorted") (hm : X.mg "sorted" = none) (hg2 : Gl X "set") (hm2 : X.mg "set" = none) (ha : PE X a ta)
    (na : starEach [a] X.env = (false, eval a X.env) :: starEach [] X.env := by rfl) : PE X (.Call (.Name "sorted" p) [.Call (.Name "set" p2) [a] [] q] [] pos) (tSortSetS ta) := by
  refine ⟨fun pins s σ H Q I h => ?_⟩
  refine Call_ (ld_blt I hg hm PyProof.Rows.boot_sorted ?_)
  refine PyProof.Rows.callWith_builtin1 (PyProof.Rows.args_cons ?_ rfl) rfl rfl
  refine Call_ (ld_blt I hg2 hm2 PyProof.Rows.boot_set ?_)
  refine PyProof.Rows.callWith_type1 (PyProof.Rows.args_cons (thn (ha.run pins s σ H _ I h) fun v s1 ⟨x, H1, I1, r1, q1⟩ => PyProof.Rows.args_nil ?_) na) na rfl
  obtain ⟨t, rfl, h1, h2, hnd, q1⟩ := q1
  obtain ⟨u, rfl⟩ := r1
  refine set_nodup (I1.ok.hd hc) h1 (by omega) hnd fun h' tk D hD T O hk => ?_
  refine PyProof.Rows.args_nil ?_
  have I2 : Inv X pins σ H1 { s1 with heap := h', toks := tk } := I1.kept hk
  obtain ⟨es, ep, tb⟩ := D
  have hsz : es.size = t.cps.size := by
    have e := T.sz
    rw [List.length_reverse, List.length_map, Array.length_toList] at e
    exact e
  refine Calls.call_function_entry kind_sorted plain_sorted entry_sorted (args_sorted1 _) ?_
  unfold Builtin.«sorted»
  refine wpAny_bind (m := checkCount "sorted" 1 1 _) (wpAny_pure ?_)
  refine wpAny_bind (collect_set (A := X.A.in1) (s := { s1 with heap := h', toks := tk }) (I1.ok.hd hc) ⟨_, hD, rfl, rfl⟩ T.fit (by rw [hsz]; unfold scanBound; omega) O.1 O.2 fun s3 vs k1 hz g1 o1 pm => ?_)
  have hvl : vs.length = t.cps.size := by rw [pm.length_eq, List.length_map, Array.length_toList]; exact hsz
  obtain ⟨ks, hS⟩ := strsAre_of vs fun v hv => by
    obtain ⟨e, he, q⟩ := List.mem_map.mp (pm.mem_iff.mp hv)
    obtain ⟨⟨k, hk1, _⟩, _⟩ := T.el e he
    obtain ⟨tt, ev⟩ := Value.isStrOf_shape (x := k) (v := e.2) hk1
    exact ⟨k, tt, by rw [← q]; exact ev⟩
  have hkl : ks.length = t.cps.size := by rw [← strs_len hS]; exact hvl
  have hkp : ks.Perm (t.cps.toList.map sing) := by
    refine perm_of_sub (List.Pairwise.map sing (fun x y hne e => hne (sing_inj e)) hnd) (fun k hk2 => ?_) (by rw [hkl, List.length_map, Array.length_toList])
    obtain ⟨e, he, hi⟩ := (T.mem k).mp (List.mem_reverse.mpr hk2)
    obtain ⟨tt, ev⟩ := Value.isStrOf_shape (x := k) (v := e.2) hi
    exact (strs_mem hS k).mpr ⟨tt, pm.mem_iff.mpr (List.mem_map.mpr ⟨e, he, ev⟩)⟩
  refine wpAny_bind (wpAny_newList ?_ (by rw [hvl, sizeLine_eq]; omega))
  have hoL : (s3.heap.push (seqObj "list" vs.toArray 0)).get? s3.heap.objs.size = some (seqObj "list" vs.toArray 0) := Heap.get?_push_size _ rfl
  refine wpAny_bind (wpAny_holding (wpAny_call_entry slot_list_sort ⟨_, hoL, rfl⟩ entry_list_sort
    (list_sort_treeK strKind_oneLt hoL hS.keysOf (fun v₁ v₂ rest e => keyKind_strs (by rw [← e]; exact hS)) (by rw [hvl]; exact h2) fun st' hp hs => ⟨_, rfl, ?_⟩) (args_list_sort _)))
  obtain ⟨ys, y1, y2, y3⟩ := sorted_out_str hS hp hs
  obtain ⟨e', he'⟩ := PyProof.Rows.sortedHeap_at (vs := vs) (out := (arrOf st').map (·.2)) hoL
  have hlen : (ys.map V.str).length ≤ sizeLine := by
    rw [List.length_map, y2.length_eq, hkl, sizeLine_eq]
    omega
  generalize hh4 : sortedHeap (s3.heap.push (seqObj "list" vs.toArray 0)) s3.heap.objs.size vs ((arrOf st').map (·.2)) = h4 at he'
  have kp : ∀ b o, h'.get? b = some o → h4.get? b = some o := fun b o e => by
    have e3 := k1 b o e
    have hb : b < s3.heap.objs.size := Heap.lt_size e3
    rw [← hh4, PyProof.Rows.sortedHeap_old (Nat.ne_of_lt hb) (by rw [size_push']; exact Nat.lt_succ_of_lt hb)]
    exact Heap.get?_push_of_some _ e3
  have hn4 : H1 s3.heap.objs.size = none := I2.hok.fresh hz
  have J : Inv X pins σ (upd H1 s3.heap.objs.size (.lst (ys.map V.str))) { ({ s1 with heap := h', toks := tk } : Shared) with heap := h4, gens := s3.gens, drawn := s3.drawn, toks := s3.toks } :=
    I2.call (ch := []) (Un.laid kp hz hn4) (I2.hok.laid kp hz (show ObjOk X.prog X.w _ _ _ (.lst (ys.map V.str)) from ⟨hlen, ((arrOf st').map (·.2)).toList, e', vals_of_strs y1, by rw [Array.toArray_toList]; exact he'⟩)) (by rw [g1]; exact I2.bare) (fun _ z => nomatch z)
  have e : ({ s3 with heap := h4 } : Shared) = { ({ s1 with heap := h', toks := tk } : Shared) with heap := h4, gens := s3.gens, drawn := s3.drawn, toks := s3.toks } := by
    cases s3
    cases s1
    cases o1
    rfl
  refine wpAny_pure ⟨_, rfl, ?_⟩
  try dsimp only
  rw [e]
  exact ⟨.ref s3.heap.objs.size, _, J, rfl, q1 ys _ (y2.trans hkp) y3 hn4⟩
end
end



/-! ### x != y by the own __eq__ (no __ne__); x(..), x an instance with __call__ -/
structure NeF (K : PySem.W.Frag) (C f : Addr) : Prop where
  hs : PySem.W.findIn K (.ref C) "__eq__" = some (some (.ref f))
  hf : PySem.W.isFn K (.ref f) = true
  hn : PySem.W.findIn K (.ref C) "__ne__" = some (some (.builtin "object.__ne__"))
  hm : PySem.W.mroIn K C (.type "object") = some true
section
open PySem.W
variable {prog : Program} {w : World} {A : Around} {E : Value → Shared → Prop} {s : Shared} {K : Frag} {x C f : Addr} {ox : Obj} {od : Option Obj}
theorem check_slotK {M : Model} {id owner n : String} {rest : List Value} {Q : Unit → Shared → Prop} (hk : builtinKind id = some .slot) (hs : splitId id = some (owner, n)) (ha : argsOk id ⟨.ref x :: rest, []⟩)
    (X : K.In s.heap) (I : InstAt s.heap x ox C od) (hm : mroIn K C (.type owner) = some true) (hq : Q () s) : wpAny M A (checkBuiltinCall id ⟨.ref x :: rest, []⟩) Q E s := by
  have L0 := I.type (M := M)
  have L1 := looks_mroIn (M := M) X hm
  simp only [checkBuiltinCall, hk, hs]
  refine wpAny_bind ?_
  unfold isInstance
  refine wpAny_bind (L0.here (L1.here ?_))
  cases hsig : Manifest.signature? id with
  | none => exact wpAny_pure hq
  | some sig =>
    simp only [argsOk, hsig] at ha
    have h2 : Bind.checkArgs id sig ⟨.ref x :: rest, []⟩ = pure () := ha
    show wpAny M A (Bind.checkArgs id sig ⟨.ref x :: rest, []⟩) Q E _
    rw [h2]
    exact wpAny_pure hq
theorem ifBound_B {M : Model} {name : Str} {id : String} {args : List Value} {Q : Option Value → Shared → Prop} (X : K.In s.heap) (I : InstAt s.heap x ox C od) (hs : findIn K (.ref C) name = some (some (.builtin id)))
    (hb : bindSpecial (.builtin id) (.ref x) = pure (.builtin id, [.ref x])) (h : wpAny M A (call (.builtin id) (.ref x :: args)) (fun v => Q (some v)) E s) : wpAny M A (callSpecialIfBound? (.ref x) name args) Q E s := by
  simp only [callSpecialIfBound?, bindSpecialIfBound?]
  refine wpAny_holding (wpAny_bind (wpAny_bind (wpAny_bind (I.type.here ((looks_findIn X hs).here ?_)))))
  refine wpAny_bind (wpAny_askSetting (wpAny_ite ?_))
  have fin : wpAny M A (call (.builtin id) ([.ref x] ++ args) >>= fun v => pure (some v)) Q E s := wpAny_bind (wpAny_mono h (fun v s' h' => wpAny_pure h') fun _ _ h' => h')
  split
  · rw [hb]
    exact wpAny_bind (wpAny_pure (wpAny_pure (by exact fin)))
  · rw [hb]
    exact wpAny_tryCatch (wpAny_bind (wpAny_pure (wpAny_pure (by exact fin))))
theorem ne_K {y : Addr} {oy : Obj} {ody : Option Obj} {Q : Value → Shared → Prop} (hu : A.units + 1 < cLine) (X : K.In s.heap) (I : InstAt s.heap x ox C od) (J : InstAt s.heap y oy C ody) (O : NeF K C f)
    (hcall : wpAny (model prog w) A.in1 (call (.ref f) [.ref x, .ref y]) (fun v s' => ∃ b, v = .bool b ∧ Q (.bool (!b)) s') E s) : wpAny (model prog w) A (richCompare .NotEq (.ref x) (.ref y)) Q E s := by
  have one : wpAny (model prog w) A (tryCompare (.ref x) "__ne__" (.ref y)) (fun r s' => ∃ v, r = some v ∧ Q v s') E s := by
    unfold tryCompare
    refine wpAny_bind (ifBound_B X I O.hn (PySem.F.slot_object_ne.bind _) (wpAny_call (codeAny_call_builtin PySem.F.slot_object_ne.plain PySem.F.cmpEntry_ne
      (check_slotK PySem.F.cmpKind_ne PySem.F.cmpSplit_ne (PySem.F.cmpArgs_ne _ _) X I O.hm ?_))))
    unfold Builtin.«object.__ne__»
    refine wpAny_bind (m := slotArgs "__ne__" 1 _) (wpAny_pure ?_)
    refine wpAny_bind (wpAny_cRoomFor hu ?_)
    refine wpAny_bind (m := callSpecialIfBound? (.ref x) (Str.ofString "__eq__") [.ref y]) (ifBound_K X I O.hs O.hf (wpAny_mono hcall (fun v s' hv => ?_) fun _ _ e => e))
    obtain ⟨b, rfl, hq⟩ := hv
    dsimp only
    refine wpAny_bind (m := truthy (.bool b)) (wpAny_truthy_bool ?_)
    exact wpAny_pure (wpAny_pure ⟨_, rfl, hq⟩)
  unfold richCompare
  simp only [oneThing_ref]
  refine wpAny_holding (wpAny_bind (wpAny_cRoomFor (Nat.lt_of_succ_lt hu) ?_))
  rw [cmpInfo_NotEq]
  dsimp only
  refine wpAny_bind (I.type.here (wpAny_bind (J.type.here ?_)))
  rw [show (Value.ref C != Value.ref C) = false from by simp]
  simp only [Bool.false_eq_true, if_false]
  refine wpAny_bind (wpAny_pure ?_)
  simp only [Bool.false_eq_true, if_false]
  refine wpAny_bind (wpAny_mono one (fun r s' z => ?_) fun _ _ e => e)
  obtain ⟨v, rfl, hq⟩ := z
  exact wpAny_pure hq
end
section
open PyProof.Rows
variable {X : Cx} {CX : CXT} {k : Nat} {C f : Addr} {fd : FuncData} {ps : List Str} {sp : Sp} {E : XK}
def rOwnNe (C : Addr) (sp : Sp) (E : XK) : R2 := fun x y H Q => ∃ a dx fs b dy gs, x = .ref a ∧ y = .ref b ∧ H a = some (.ins C dx fs) ∧ H b = some (.ins C dy gs) ∧ sp [x, y] H (fun v H' => ∃ r, v = .bl r ∧ Q (.bl (!r)) H') E
theorem op_ownNe (O : NeF X.K C f) (F : FnOk X.prog X.w X.K X.mg X.base CX k f fd ps sp) (hr : Room (k + 1) X.A) (hb : Binds X.K fd ps []) (hx : Passes CX X E) : OpR X (compareOp .NotEq) (rOwnNe C sp E) := fun pins s σ H x y v u Q I rx ry h => by
  obtain ⟨a, dx, fs, b, dy, gs, rfl, rfl, ha, hb', q⟩ := h
  cases rx
  cases ry
  obtain ⟨mA, J, _⟩ := ins_get I.hok ha
  obtain ⟨od, J, _⟩ := J.look
  obtain ⟨mB, J', _⟩ := ins_get I.hok hb'
  obtain ⟨od', J', _⟩ := J'.look
  show wpAny _ _ (richCompare .NotEq (.ref a) (.ref b)) _ _ _
  refine ne_K (by have := hr.units; omega) I.kIn J J' O ?_
  refine thn (run_fnA (vs := [.ref a, .ref b]) (room_in1 hr) rfl F hb hx I (.cons rfl (.cons rfl .nil)) q) fun w s' z => ?_
  obtain ⟨v', H', I', r', r, rfl, q'⟩ := z
  cases r'
  exact ⟨r, rfl, .bl (!r), H', I', rfl, q'⟩
/-- x(e, ..), x an instance of C -/
def tCallI (C : Addr) (sp : Sp) (E : XK) (tf : TE) (t : TA) : TE := fun σ H Q => tf σ H fun y H1 => ∃ a, y = V.ref a ∧ t σ H1 fun vs H2 => (∃ dx fs, H2 a = some (.ins C dx fs)) ∧ sp (V.ref a :: vs) H2 Q E
theorem pe_callI {fe e : Expr} {es : List Expr} {pos : Pos} {tf : TE} {t : TA} (hf : PE X fe tf) (c : StX.CallO X.K C f) (F : FnOk X.prog X.w X.K X.mg X.base CX k f fd ps sp) (hr : Room k X.A) (hb : Binds X.K fd ps []) (hx : Passes CX X E) (ha : PA X (e :: es) t)
    (ht : eval (.Call fe (e :: es) [] pos) X.env = (do callWith pos (← eval fe X.env) [] (backTo pos (starEach (e :: es) X.env)) (backToKw pos (keywordEach [] X.env))) := by rfl)
    (he : starEach (e :: es) X.env = (false, eval e X.env) :: starEach es X.env := by rfl) (hpl : (backTo pos (starEach es X.env)).any (·.1) = false := by rfl) : PE X (.Call fe (e :: es) [] pos) (tCallI C sp E tf t) := by
  refine ⟨fun pins s σ H Q I h => ?_⟩
  refine Call_ (thn (hf.run pins s σ H _ I h) fun u s1 ⟨y, H1, I1, ry, a, ey, q⟩ => ?_) ht
  subst ey
  obtain rfl : u = Value.ref a := ry
  refine StX.callO_with (thn (ha.run pos pins s1 σ H1 _ I1 q) fun us s2 ⟨vs, H2, I2, r, ⟨dx, fs, hi⟩, q2⟩ => ?_) he hpl
  obtain ⟨mA, J, _⟩ := ins_get I2.hok hi
  obtain ⟨od, J, _⟩ := J.look
  refine ⟨⟨C, _, od, J, rfl⟩, ?_⟩
  have r2 : Vals (V.ref a :: vs) (Value.ref a :: us) := .cons rfl r
  have hl : (Value.ref a :: us).length = ps.length := by rw [← r2.length]; exact F.len _ _ _ _ q2
  have hb2 := hb s2 (Value.ref a :: us) I2.kIn (by simpa using hl)
  rw [List.append_nil] at hb2
  refine wpAny_call (PySem.W.kco_code (a := ⟨[] ++ us, []⟩) I2.kIn J rfl c.at_ c.fn c.fi (codeAny_mono (F.run X.A X.stack s2 H2 ⟨Value.ref a :: us, []⟩ (Value.ref a :: us) (V.ref a :: vs) Q E hr I2.env0 hb2 r2 q2) fun r s' hq => ?_))
  cases r with
  | error e => exact hx pins σ H2 s2 e s' I2 hq
  | ok fl =>
    cases fl with
    | ret u => exact I2.after hq
    | next => exact False.elim hq
    | brk => exact False.elim hq
    | cont => exact False.elim hq
theorem pe_fldK {e : Expr} {ta : TE} {f : Str} {pos : Pos} (K : PySem.W.Frag) (he : PE X e ta) (hb : attributeBase e f X.env (eval e X.env) = eval e X.env) (hK : X.K = K := by rfl) : PE X (.Attribute e f pos) (tFld K ta f) := by
  subst hK
  exact pe_fld he hb
/-! ### z[::-1] -/
def revS (z : Str) : Str := ⟨z.cps.toList.reverse.toArray⟩
theorem rev_indices (z : Str) : (Builtin.Str.strSliceIndices none none (-1) z.length).filterMap (z.cps[·]?) = z.cps.toList.reverse := by
  have e : Builtin.Str.strSliceIndices none none (-1) z.length = (List.range z.length).reverse := by
    rw [← PySem.W.krv_range, ← PySem.W.krv_sliceRange]
    rfl
  rw [e, List.filterMap_reverse]
  exact congrArg List.reverse (PySem.W.krv_all z.cps)
def tRevS (te : TE) : TE := fun σ H Q => te σ H fun x H1 => ∃ z, x = .str z ∧ z.length ≤ sizeLine ∧ Q (.str (revS z)) H1
theorem pe_revS {e : Expr} {te : TE} {j : Nat} {p1 p2 p3 pos : Pos} (he : PE X e te) : PE X (.Subscript e (.Slice none none (some (.UnaryOp .USub (.Constant (.int 1) j p1) p2)) p3) pos) (tRevS te) := by
  refine ⟨fun pins s σ H Q I h => ?_⟩
  refine Subscript_ (thn (he.run pins s σ H _ I h) fun v s1 ⟨x, H1, I1, r1, q1⟩ => ?_)
  obtain ⟨z, ex, hz, q⟩ := q1
  subst ex
  obtain ⟨t, rfl⟩ := r1
  have hst : PO X (some (.UnaryOp .USub (.Constant (.int 1) j p1) p2)) (tPart (tUn (rU fun i => .int (-i)) (tC (.int 1)))) := po_some (pe_un un_neg pe_int)
  refine wpAny_Slice (thn (po_none.run pins s1 σ H1 (fun o H2 => o = none ∧ H2 = H1) I1 ⟨rfl, rfl⟩) fun vl s2 ⟨l, H2, I2, pl, el, e2⟩ => ?_)
  subst el e2
  refine thn (po_none.run pins s2 σ H2 (fun o H3 => o = none ∧ H3 = H2) I2 ⟨rfl, rfl⟩) fun vu s3 ⟨u, H3, I3, pu, eu, e3⟩ => ?_
  subst eu e3
  refine thn (hst.run pins s3 σ H3 (fun o H4 => o = some (-1) ∧ H4 = H3) I3 ⟨1, rfl, -1, rfl, rfl, rfl⟩) fun vs s4 ⟨o, H4, I4, ps, eo, e4⟩ => ?_
  subst eo e4
  have I5 : Inv X pins σ H4 { s4 with heap := s4.heap.push { cls := .type "slice", data := .fields #[vl, vu, vs] } } := I4.kept (t' := s4.toks) fun b ob q => Heap.get?_push_of_some _ q
  show wpAny (model X.prog X.w) X.A (subscriptTail e (.Slice none none (some (.UnaryOp .USub (.Constant (.int 1) j p1) p2)) p3) (.str z t) (.ref s4.heap.objs.size)) (EP X pins σ Q) X.xe { s4 with heap := s4.heap.push { cls := .type "slice", data := .fields #[vl, vu, vs] } }
  refine tail_any (T := "str") (ops := [.str z t, .ref s4.heap.objs.size]) (typeIs_str _ _ _) (PySem.F.slot_str_getitem.lookup) ?_ (by with_unfolding_all rfl)
  obtain ⟨l, rfl, hl⟩ := IsPart.raw pl
  obtain ⟨u, rfl, hu⟩ := IsPart.raw pu
  obtain ⟨st, rfl, hst'⟩ := IsPart.raw ps
  cases l with
  | some _ => cases hl
  | none =>
    cases u with
    | some _ => cases hu
    | none =>
      cases st with
      | none => cases hst'
      | some m =>
        obtain ⟨i, tk⟩ := m
        have ei : i = -1 := Option.some.inj hst'
        subst ei
        refine wpAny_getItem_str_slice (l := none) (u := none) (st := some (-1, tk)) ⟨_, Heap.get?_push_size _ rfl, rfl, rfl⟩ rfl ?_
        show Made.post (if ((-1 : Int) == 1 && (Builtin.Str.strSliceIndices none none (-1) z.length).length == z.length) = true then Made.val (.str z t) else Made.str ⟨((Builtin.Str.strSliceIndices none none (-1) z.length).filterMap (z.cps[·]?)).toArray⟩) _ _
        rw [if_neg (by simp), rev_indices]
        refine ⟨?_, .str (revS z), H4, I5.tok _, ⟨_, rfl⟩, q⟩
        show (z.cps.toList.reverse.toArray).size ≤ sizeLine
        rw [List.size_toArray, List.length_reverse, Array.length_toList]
        exact hz
end



/-! ### len(x), v in x, x[i] of an own class -/
section
open PyProof.Rows
variable {X : Cx} {CX : CXT} {k : Nat} {C f : Addr} {fd : FuncData} {ps : List Str} {sp : Sp} {E : XK}
def rLenO (C : Addr) (sp : Sp) (E : XK) : List V → Hp → VK → Prop := fun vs H Q => ∃ a dx fs, vs = [.ref a] ∧ H a = some (.ins C dx fs) ∧ sp vs H (fun v H' => ∃ n : Nat, v = .int (n : Int) ∧ n ≤ 1000000 ∧ Q (.int (n : Int)) H') E
theorem call_lenO (O : UnF X.K C f "__len__") (F : FnOk X.prog X.w X.K X.mg X.base CX k f fd ps sp) (hr : Room (k + 1) X.A) (hb : Binds X.K fd ps []) (hx : Passes CX X E) : CallR X (.builtin "len") (rLenO C sp E) := fun pins s σ H xs us Q I r h => by
  obtain ⟨a, dx, fs, rfl, ha, q⟩ := h
  obtain ⟨u, rfl, ru⟩ := vals1 r
  cases ru
  obtain ⟨mA, J, _⟩ := ins_get I.hok ha
  obtain ⟨od, J, _⟩ := J.look
  obtain ⟨m, hF⟩ := I.fr
  refine PySem.W.len_K hF I.ok.mod.kin J O.hs O.hf ?_
  refine thn (run_fnA (vs := [.ref a]) (room_in1 hr) rfl F hb hx I (.cons rfl .nil) q) fun v s' z => ?_
  obtain ⟨v', H', I', r', n, rfl, hn, q'⟩ := z
  obtain ⟨t, rfl⟩ := r'
  exact ⟨⟨by omega, by omega⟩, .int (n : Int), H', I'.tok _, ⟨_, rfl⟩, q'⟩
def rInO (C : Addr) (sp : Sp) (E : XK) (g : Bool → Bool) : R2 := fun x y H Q => ∃ a dx fs, y = .ref a ∧ H a = some (.ins C dx fs) ∧ sp [y, x] H (fun v H' => ∃ b, v = .bl b ∧ Q (.bl (g b)) H') E
theorem op_inO (O : UnF X.K C f "__contains__") (F : FnOk X.prog X.w X.K X.mg X.base CX k f fd ps sp) (hr : Room k X.A) (hb : Binds X.K fd ps []) (hx : Passes CX X E) : OpR X (compareOp .In) (rInO C sp E id) := fun pins s σ H x y v u Q I rx ry h => by
  obtain ⟨a, dx, fs, rfl, ha, q⟩ := h
  cases ry
  obtain ⟨mA, J, _⟩ := ins_get I.hok ha
  obtain ⟨od, J, _⟩ := J.look
  obtain ⟨m, hF⟩ := I.fr
  refine PySem.W.in_K hF I.ok.mod.kin J O.hs O.hf ?_
  refine thn (run_fn (vs := [.ref a, x]) F hr hb .nil hx I (.cons rfl (.cons rx .nil)) q) fun v s' z => ?_
  obtain ⟨v', H', I', r', b, rfl, q'⟩ := z
  cases r'
  exact wpAny_truthy_bool ⟨.bl b, H', I', rfl, q'⟩
theorem op_notInO (O : UnF X.K C f "__contains__") (F : FnOk X.prog X.w X.K X.mg X.base CX k f fd ps sp) (hr : Room k X.A) (hb : Binds X.K fd ps []) (hx : Passes CX X E) : OpR X (compareOp .NotIn) (rInO C sp E Bool.not) := fun pins s σ H x y v u Q I rx ry h => by
  obtain ⟨a, dx, fs, rfl, ha, q⟩ := h
  cases ry
  obtain ⟨mA, J, _⟩ := ins_get I.hok ha
  obtain ⟨od, J, _⟩ := J.look
  obtain ⟨m, hF⟩ := I.fr
  refine PySem.W.notIn_K hF I.ok.mod.kin J O.hs O.hf ?_
  refine thn (run_fn (vs := [.ref a, x]) F hr hb .nil hx I (.cons rfl (.cons rx .nil)) q) fun v s' z => ?_
  obtain ⟨v', H', I', r', b, rfl, q'⟩ := z
  cases r'
  exact wpAny_truthy_bool ⟨.bl (!b), H', I', rfl, q'⟩
def rIxO (C : Addr) (sp : Sp) (E : XK) : R2 := fun x y H Q => ∃ a dx fs, x = .ref a ∧ H a = some (.ins C dx fs) ∧ sp [x, y] H Q E
theorem pe_ixO {a b : Expr} {ta tb : TE} {pos : Pos} (O : UnF X.K C f "__getitem__") (fi : PySem.W.fnIn X.K f = true) (F : FnOk X.prog X.w X.K X.mg X.base CX k f fd ps sp) (hr : Room (k + 1) X.A) (hb : Binds X.K fd ps []) (hx : Passes CX X E) (ha : PE X a ta) (hb' : PE X b tb)
    (hs : ∀ (x : Addr) (i : Value), subscripted b true (.ref x) i = runValue (.builtin "lifetime.subscript" ⟨[.ref x, i], []⟩) := by intro _ _; with_unfolding_all rfl) : PE X (.Subscript a b pos) (tOp (rIxO C sp E) ta tb) := by
  refine ⟨fun pins s σ H Q I h => ?_⟩
  refine Subscript_ (binT ha hb' I h fun v u s2 x y H2 I2 rx ry q => ?_)
  obtain ⟨c, dx, fs, rfl, hc, q⟩ := q
  cases rx
  obtain ⟨mA, J, _⟩ := ins_get I2.hok hc
  obtain ⟨od, J, _⟩ := J.look
  obtain ⟨m, hF⟩ := I2.fr
  exact PySem.W.sub_K hF I2.ok.mod.kin J O.hs fi O.hf (run_fnA (vs := [.ref c, y]) (room_in1 hr) rfl F hb hx I2 (.cons rfl (.cons ry .nil)) q) (hs _ _)
end



/-! ### sets of ints out of a list or a tuple: len(set(xs)), sorted(set(xs)) -/
section
open PySem.Froz PyProof.Rows
variable {P : Program} {w : World} {A : Around} {E : Value → Shared → Prop} {s : Shared}
set_option maxHeartbeats 3200000 in
theorem shellL {l : Addr} {items : Array Value} {Q : Value → Shared → Prop} (hh : A.handled = none) (hl : s.heap.IsList l items) (Φ : Shared → Prop)
    (loop : ∀ (A' : Around) (R : Result → Shared → Prop), A'.handled = none → (∀ s', Φ s' → R (.ok (.ret .none)) s') →
      codeAny (model P w) A' (.builtin "set.update.loop" ⟨[.ref s.heap.objs.size, .ref (s.heap.push (set0 w)).objs.size], []⟩) R { s with heap := (s.heap.push (set0 w)).push { cls := .type "list_iterator", data := .fields #[.ref l, .int 0 0] } })
    (h : ∀ s', Φ s' → Q (.ref s.heap.objs.size) s') : wpAny (model P w) A (call (.type "set") [.ref l]) Q E s := by
  obtain ⟨c, tl, hmro⟩ := F.called_set.mro
  have hmade := F.called_set.made
  have hsub := F.called_set.sub
  refine wpAny_call (codeAny_of_tree ?_)
  show wpAny _ _ (callAny (.type "set") _) _ _ _
  refine wpAny_pure ⟨Code.quiet_builtin _ (by decide +kernel), codeAny_builtin F.entry_type_call ?_⟩
  rw [Around.under_plain (weight_type_call_type "set" [.ref l] []) rfl]
  have h1 := F.called_set.notType
  have h2 := F.called_set.canCreate
  have hct := F.typeCall_set_1 (.ref l)
  repeat (any_goals (first | assumption | wp_step))
  refine codeAny_mono (code_set_led1 (.ref l) (E := E) (Q₁ := fun obj s₁ => obj = .ref s.heap.objs.size ∧ s₁ = { s with heap := s.heap.push (set0 w) }) ⟨rfl, rfl⟩) fun r s₁ hr => ?_
  cases r with
  | error e => exact hr
  | ok fl =>
    cases fl with
    | ret obj =>
      obtain ⟨rfl, rfl⟩ := hr
      have hS : (s.heap.push (set0 w)).get? s.heap.objs.size = some (set0 w) := Heap.get?_push_size _ rfl
      have hT : Shared.TypeIs { s with heap := s.heap.push (set0 w) } (.ref s.heap.objs.size) "set" := ⟨_, hS, rfl⟩
      have hli := F.called_set.init.lookup
      have hbi := F.called_set.init.bind (.ref s.heap.objs.size)
      repeat (any_goals (first | assumption | wp_step))
      refine codeAny_mono (codeAny_call_builtin (R := wants (fun r s₂ => r = .none ∧ Φ s₂) E) F.called_set.init.plain F.entry_set_init (check_set_init_1 hT ?_)) fun r₂ s₂ hr₂ => ?_
      · obtain ⟨ol, hol, hcl, nl, hdl⟩ := hl
        obtain ⟨ocls, odict, odata, oslots⟩ := ol
        simp only at hcl hdl
        subst hcl
        subst hdl
        have hol' : (s.heap.push (set0 w)).get? l = some { cls := .type "list", dict := odict, data := .seq items nl, slots := oslots } := Heap.get?_push_of_some _ hol
        have hsls := F.sub_list_set
        have hslf := F.sub_list_frozenset
        have hne : (Value.type "list" == Value.type "dict") = false := by decide
        have hl1 : (s.heap.push (set0 w)).IsList l items := ⟨_, hol', rfl, nl, rfl⟩
        have hS' : (s.heap.push (set0 w)).get? s.heap.objs.size = some { cls := .type "set", dict := none, data := .set #[] 0 (.fresh 0 0 (!w.params.followText "set-order")) } := hS
        unfold Builtin.«set.__init__» noKeywords Builtin.Frozenset.updateFrom
        generalize hPI : pyIter = PI
        wp_walk
        subst hPI
        refine wpAny_pyIter_list hl1 ?_
        refine wpAny_bind (wpAny_runValue ?_)
        have hh3 : A.in1.in1.in1.handled = none := by simp [hh]
        refine loop _ _ hh3 fun s' hs' => ?_
        show wpAny _ _ _ _ _ _
        refine wpAny_pure ?_
        show wpAny _ _ (ret Value.none) _ _ _
        exact wpAny_pure ⟨rfl, hs'⟩
      · cases r₂ with
        | error e => exact hr₂
        | ok fl₂ =>
          cases fl₂ with
          | ret r =>
            obtain ⟨rfl, hΦ⟩ := hr₂
            repeat (any_goals (first | assumption | wp_step))
            exact h _ hΦ
          | _ => exact hr₂.elim
    | _ => exact hr.elim
theorem set_listI {l : Addr} {items : Array Value} (ns : List Int) {Q : Value → Shared → Prop} (hh : A.handled = none) (hl : s.heap.IsList l items) (hit : IntsAre items.toList ns) (hb : ns.length + 1 < scanBound)
    (h : ∀ (h' : Heap) (tk c : Nat), SetR w h' s.heap.objs.size (fun j => decide (j ∈ ns)) c → (∀ b o, s.heap.get? b = some o → h'.get? b = some o) → Q (.ref s.heap.objs.size) { s with heap := h', toks := tk }) :
    wpAny (model P w) A (call (.type "set") [.ref l]) Q E s := by
  have hisz : items.size = ns.length := by
    have q := IntsAre.length hit
    rw [Array.length_toList] at q
    exact q
  have hlS : l < s.heap.objs.size := by
    obtain ⟨ol, hol, _⟩ := hl
    exact Heap.lt_size hol
  refine shellL hh hl (fun s' => ∃ h' tk c, s' = { s with heap := h', toks := tk } ∧ SetR w h' s.heap.objs.size (fun j => decide (j ∈ ns)) c ∧ ∀ b o, s.heap.get? b = some o → h'.get? b = some o) (fun A' R hA hR => ?_) fun s' ⟨h', tk, c, e, e1, e2⟩ => by
      subst e
      exact h h' tk c e1 e2
  have hl1 : (s.heap.push (set0 w)).IsList l items := by
    obtain ⟨ol, hol, r⟩ := hl
    exact ⟨ol, Heap.get?_push_of_some _ hol, r⟩
  have hneI : l ≠ (s.heap.push (set0 w)).objs.size := by rw [Heap.size_push]; exact Nat.ne_of_lt (Nat.lt_succ_of_lt hlS)
  have hSf : s.heap.objs.size ∉ [(s.heap.push (set0 w)).objs.size, l] := by
    rw [Heap.size_push]
    simp only [List.mem_cons, List.mem_singleton, List.not_mem_nil, or_false, not_or]
    exact ⟨Nat.ne_of_lt (Nat.lt_succ_self _), Nat.ne_of_gt hlS⟩
  have hval : ∀ (i : Nat) (v : Value), items[i]? = some v → ∃ k t, ns[i]? = some k ∧ v = .int k t := fun i v hv => by
    have hi : i < ns.length := by rw [← hisz]; exact (Array.getElem?_eq_some_iff.mp hv).1
    obtain ⟨t, e⟩ := PyProof.Rows.IntsAre.int_at hit i v (by rw [Array.getElem?_toList]; exact hv)
    refine ⟨ns[i], t, List.getElem?_eq_getElem hi, ?_⟩
    rw [e, List.getD_eq_getElem?_getD, List.getElem?_eq_getElem hi] <;> rfl
  have hS : ((s.heap.push (set0 w)).push { cls := .type "list_iterator", data := .fields #[.ref l, .int 0 0] }).get? s.heap.objs.size = some { cls := .type "set", dict := none, data := .set #[] 0 (.fresh 0 0 (!w.params.followText "set-order")) } := Heap.get?_push_of_some _ (Heap.get?_push_size _ rfl)
  refine set_update_ints ((Walks.list (A := A'.in1) (by simpa using hA) _ l hneI items).toS) s.heap.objs.size hSf ns hisz hb hval (items.size - 0) 0 _ (by omega) (Nat.zero_le _)
    ⟨⟨_, Heap.get?_push_size _ rfl, rfl, rfl⟩, (hl1.push _)⟩ ⟨0, Nat.le_refl 0, setR_new_at hS⟩ fun s' c' hm hc' hS' => hR _ ?_
  obtain ⟨h', g2, d', tk', os'⟩ := s'
  have eg : g2 = s.gens := hm.gens
  have ed : d' = s.drawn := hm.drawn
  have eo : os' = s.os := hm.os
  subst eg
  subst ed
  subst eo
  refine ⟨h', tk', c', rfl, hS', fun b o e => ?_⟩
  have hb0 : b < s.heap.objs.size := Heap.lt_size e
  refine hm.heap b o ?_ (Heap.get?_push_of_some _ (Heap.get?_push_of_some _ e))
  simp only [List.mem_cons, List.mem_singleton, List.not_mem_nil, or_false, not_or]
  exact ⟨Nat.ne_of_lt hb0, by rw [Heap.size_push]; exact Nat.ne_of_lt (Nat.lt_succ_of_lt hb0)⟩
end



/-- each once -/
def nd : List Int → List Int
  | [] => []
  | x :: r => if x ∈ r then nd r else x :: nd r
theorem mem_nd {k : Int} : ∀ {l : List Int}, k ∈ nd l ↔ k ∈ l
  | [] => Iff.rfl
  | x :: r => by
    unfold nd
    by_cases h : x ∈ r
    · rw [if_pos h, mem_nd (l := r)]
      refine ⟨fun z => List.mem_cons_of_mem _ z, fun z => ?_⟩
      rcases List.mem_cons.mp z with e | e
      · rw [e]; exact h
      · exact e
    · rw [if_neg h, List.mem_cons, List.mem_cons, mem_nd (l := r)]
theorem nodup_nd : ∀ (l : List Int), (nd l).Nodup
  | [] => List.nodup_nil
  | x :: r => by
    unfold nd
    by_cases h : x ∈ r
    · rw [if_pos h]; exact nodup_nd r
    · rw [if_neg h]; exact List.nodup_cons.mpr ⟨fun z => h (mem_nd.mp z), nodup_nd r⟩
theorem nd_le : ∀ (l : List Int), (nd l).length ≤ l.length
  | [] => Nat.le_refl _
  | x :: r => by
    have q := nd_le r
    unfold nd
    by_cases h : x ∈ r
    · rw [if_pos h, List.length_cons]; omega
    · rw [if_neg h, List.length_cons, List.length_cons]; omega
theorem nd_full : ∀ {l : List Int}, (nd l).length = l.length → l.Nodup
  | [], _ => List.nodup_nil
  | x :: r, h => by
    have q := nd_le r
    unfold nd at h
    by_cases hx : x ∈ r
    · rw [if_pos hx, List.length_cons] at h; omega
    · rw [if_neg hx, List.length_cons, List.length_cons] at h
      exact List.nodup_cons.mpr ⟨hx, nd_full (by omega)⟩
theorem nd_nodup : ∀ {l : List Int}, l.Nodup → (nd l).length = l.length
  | [], _ => rfl
  | x :: r, h => by
    obtain ⟨h1, h2⟩ := List.nodup_cons.mp h
    unfold nd
    rw [if_neg h1, List.length_cons, List.length_cons, nd_nodup h2]
theorem len_sub {α : Type} [BEq α] [LawfulBEq α] : ∀ {l m : List α}, l.Nodup → (∀ x ∈ l, x ∈ m) → l.length ≤ m.length
  | [], _, _, _ => Nat.zero_le _
  | x :: l, m, hn, hs => by
    obtain ⟨h1, h2⟩ := List.nodup_cons.mp hn
    have hx := hs x List.mem_cons_self
    have q := len_sub (m := m.erase x) h2 fun y hy => by
      have ne : y ≠ x := fun e => h1 (e ▸ hy)
      exact (List.mem_erase_of_ne ne).mpr (hs y (List.mem_cons_of_mem _ hy))
    rw [List.length_erase_of_mem hx] at q
    have p : 0 < m.length := List.length_pos_of_mem hx
    rw [List.length_cons]
    omega
theorem setR_count {w : World} {h : Heap} {a : Addr} {ns : List Int} {c : Nat} (R : SetR w h a (fun j => decide (j ∈ ns)) c) : c = (nd ns).length := by
  obtain ⟨o, es, ep, t, ho, hex, hdt, g, dn, hm, hb, hf, hn, hr, hl⟩ := R
  have hm' : ∀ k, k ∈ ns ↔ k ∈ es.toList.map keyOf := fun k => by
    have q := hm k
    rw [decide_eq_true_eq] at q
    exact q
  have hk : (es.toList.map keyOf).length = c := by rw [List.length_map, Array.length_toList]; exact hn
  have a1 := len_sub (nodup_nd ns) fun x hx => (hm' x).mp (mem_nd.mp hx)
  have a2 := len_sub dn fun x hx => mem_nd.mpr ((hm' x).mpr hx)
  omega
section
open PyProof.Rows
variable {X : Cx}
/-- x is a list or a tuple of these ints -/
def SqI (K : PySem.W.Frag) (H : Hp) (x : V) (ns : List Int) : Prop := ∃ a, x = .ref a ∧ (SqL K H a (ns.map V.int) ∨ SqT K H a (ns.map V.int))
theorem set_seqI {pins : List (Addr × Obj)} {σ : L2.St} {H : Hp} {s : Shared} {x : V} {u : Value} {ns : List Int} {Q : Value → Shared → Prop} (hc : X.calm = true) (I : Inv X pins σ H s) (r : RelV x u) (hq : SqI X.K H x ns) (hl : ns.length ≤ 1000)
    (h : ∀ (h' : Heap) (tk c : Nat), SetR X.w h' s.heap.objs.size (fun j => decide (j ∈ ns)) c → (∀ b o, s.heap.get? b = some o → h'.get? b = some o) → Q (.ref s.heap.objs.size) { s with heap := h', toks := tk }) :
    wpAny (model X.prog X.w) X.A (call (.type "set") [u]) Q X.xe s := by
  obtain ⟨a, rfl, hq⟩ := hq
  cases r
  rcases hq with hq | hq
  · obtain ⟨its, rv, pl, hz⟩ := I.list hq
    exact set_listI ns (I.ok.hd hc) pl.isList (by simpa using rv.ints) (by unfold scanBound; omega) h
  · obtain ⟨its, rv, pt, hz⟩ := I.tuple hq
    exact call_set_tupI ns (I.ok.hd hc) (show s.heap.IsTuple a its.toArray from pt) (ints_of_vals rv) (by unfold scanBound; omega) fun h' tk c R _ k => h h' tk c R k
variable {a : Expr} {ta : TE} {p p2 q pos : Pos}
def tLenSetI2 (K : PySem.W.Frag) (ta : TE) : TE := fun σ H Q => ta σ H fun x H1 => ∃ ns, SqI K H1 x ns ∧ ns.length ≤ 1000 ∧ Q (.int (nd ns).length) H1
theorem pe_lenSetI2 (hc : X.calm = true) (hg : Gl X "len") (hm : X.mg "len" = none) (hg2 : Gl X "set") (hm2 : X.mg "set" = none) (ha : PE X a ta)
    (na : starEach [a] X.env = (false, eval a X.env) :: starEach [] X.env := by rfl) : PE X (.Call (.Name "len" p) [.Call (.Name "set" p2) [a] [] q] [] pos) (tLenSetI2 X.K ta) := by
  refine ⟨fun pins s σ H Q I h => ?_⟩
  refine Call_ (ld_blt I hg hm PySem.boot_len ?_)
  refine PyProof.Rows.callWith_builtin1 (PyProof.Rows.args_cons ?_ rfl) rfl rfl
  refine Call_ (ld_blt I hg2 hm2 PyProof.Rows.boot_set ?_)
  refine PyProof.Rows.callWith_type1 (PyProof.Rows.args_cons (thn (ha.run pins s σ H _ I h) fun v s1 ⟨x, H1, I1, r1, q1⟩ => PyProof.Rows.args_nil ?_) na) na rfl
  obtain ⟨ns, hq, hl, q1⟩ := q1
  refine set_seqI hc I1 r1 hq hl fun h' tk c R hk => ?_
  refine PyProof.Rows.args_nil ?_
  have ec := setR_count R
  have hle := nd_le ns
  obtain ⟨o, es, ep, t, ho, hex, hd, _, _, _, _, hf, hn, _⟩ := R
  have I2 : Inv X pins σ H1 { s1 with heap := h', toks := tk } := I1.kept hk
  have hz : es.size = (nd ns).length := hn.trans ec
  refine call_len_set ho hex hd hf (by omega) ⟨.int (nd ns).length, H1, I2.tok _, ⟨_, by rw [hz]⟩, q1⟩
def tSortSetI2 (K : PySem.W.Frag) (ta : TE) : TE := fun σ H Q => ta σ H fun x H1 => ∃ ns, SqI K H1 x ns ∧ ns.length < 64 ∧
  ∀ (ms : List Int) (p : Addr), ms.Pairwise (· < ·) → (∀ k : Int, k ∈ ms ↔ k ∈ ns) → H1 p = none → Q (.ref p) (upd H1 p (.lst (ms.map V.int)))
theorem pe_sortSetI2 (hc : X.calm = true) (hg : Gl X "sorted") (hm : X.mg "sorted" = none) (hg2 : Gl X "set") (hm2 : X.mg "set" = none) (ha : PE X a ta)
    (na : starEach [a] X.env = (false, eval a X.env) :: starEach [] X.env := by rfl) : PE X (.Call (.Name "sorted" p) [.Call (.Name "set" p2) [a] [] q] [] pos) (tSortSetI2 X.K ta) := by
  refine ⟨fun pins s σ H Q I h => ?_⟩
  refine Call_ (ld_blt I hg hm PyProof.Rows.boot_sorted ?_)
  refine PyProof.Rows.callWith_builtin1 (PyProof.Rows.args_cons ?_ rfl) rfl rfl
  refine Call_ (ld_blt I hg2 hm2 PyProof.Rows.boot_set ?_)
  refine PyProof.Rows.callWith_type1 (PyProof.Rows.args_cons (thn (ha.run pins s σ H _ I h) fun v s1 ⟨x, H1, I1, r1, q1⟩ => PyProof.Rows.args_nil ?_) na) na rfl
  obtain ⟨ns, hq, hl, q1⟩ := q1
  refine set_seqI hc I1 r1 hq (by omega) fun h' tk c R hk => ?_
  refine PyProof.Rows.args_nil ?_
  have ec := setR_count R
  have hle := nd_le ns
  have I2 : Inv X pins σ H1 { s1 with heap := h', toks := tk } := I1.kept hk
  refine sorted_set (s := { s1 with heap := h', toks := tk }) R (I1.ok.hd hc) (by omega) fun s' p out c2 ms k g o hp hg hi hs hm hl2 => ?_
  have hlen : (ms.map V.int).length ≤ sizeLine := by rw [List.length_map, hl2, sizeLine_eq]; omega
  have hn : H1 p = none := I2.hok.fresh hp
  have J : Inv X pins σ (upd H1 p (.lst (ms.map V.int))) { ({ s1 with heap := h', toks := tk } : Shared) with heap := s'.heap, gens := s'.gens, drawn := s'.drawn, toks := s'.toks } :=
    I2.call (ch := []) (Un.laid k hp hn) (I2.hok.laid k hp ⟨hlen, out.toList, c2, vals_of_ints hi, hg⟩) (by rw [g]; exact I2.bare) (fun _ z => nomatch z)
  have e : s' = { ({ s1 with heap := h', toks := tk } : Shared) with heap := s'.heap, gens := s'.gens, drawn := s'.drawn, toks := s'.toks } := by
    cases s'
    cases s1
    cases o
    rfl
  rw [e]
  exact ⟨.ref p, _, J, rfl, q1 ms p hs (fun k => by rw [hm k, decide_eq_true_eq]) hn⟩
end



/-! ### lists of instances compared, item by item, by their own __eq__ -/
section
open PySem.SeqAt MeetsSeq MeetsSeq2 MeetsSeq3 SeqRoads2
open AutoSeq1 (wpAny_loadPart')
variable {prog : Program} {w : World}
theorem eq_loopJ (l b : Addr) (items items2 : Array Value) (hsz : items.size = items2.size) (A : Around) (R : Result → Shared → Prop) (J : Nat → Shared → Prop)
    (hh : ∀ i s, J i s → s.heap.IsList l items ∧ s.heap.IsList b items2)
    (ht : ∀ i (h1 : i < items.size) (h2 : i < items2.size) s, J i s → wpAny (model prog w) A.in1 (eqBool items[i] items2[i]) (fun c s' => s'.heap.IsList l items ∧ s'.heap.IsList b items2 ∧ if c = true then J (i + 1) s' else R (.ok (.ret (.bool false))) s') (fun e s' => R (.error e) s') s)
    (hd : ∀ s, J items.size s → R (.ok (.ret (.bool true))) s) (k : Nat) :
    ∀ (i : Nat) (s : Shared), items.size - i = k → i ≤ items.size → J i s →
      wpAny (model prog w) A.in1 (Builtin.«list.__eq__.loop» ⟨[.ref l, .ref b, rawInt i, rawInt 2], []⟩) (fun fin s' => match fin with | .done f => R (.ok f) s' | .again c' => c'.quiet = true ∧ codeAny (model prog w) A c' R s') (fun e s' => R (.error e) s') s := by
  induction k with
  | zero =>
    intro i s hk hi hJ
    obtain ⟨⟨⟨cls, dd, data, sl⟩, hl, hc, n, hd1⟩, ⟨⟨cls2, dd2, data2, sl2⟩, hb, hc2, n2, hd2⟩⟩ := hh i s hJ
    simp only at hc hd1 hc2 hd2
    subst hc hd1 hc2 hd2
    have e : i = items.size := by omega
    have hR := hd s (e ▸ hJ)
    obtain ⟨hp, g, d, tk, os⟩ := s
    wp_walk using wpAny_loadPart' hl, wpAny_loadPart' hb
    have hi1 : items[((i : Nat) : Int).toNat]? = none := by simp; omega
    have hi2 : items2[((i : Nat) : Int).toNat]? = none := by simp; omega
    rw [hi1, hi2]
    wp_walk using wpAny_loadPart' hl, wpAny_loadPart' hb
    show R (.ok (.ret (.bool (items.size == items2.size)))) _
    rw [hsz]
    simpa using hR
  | succ k ih =>
    intro i s hk hi hJ
    obtain ⟨⟨⟨cls, dd, data, sl⟩, hl, hc, n, hd1⟩, ⟨⟨cls2, dd2, data2, sl2⟩, hb, hc2, n2, hd2⟩⟩ := hh i s hJ
    simp only at hc hd1 hc2 hd2
    subst hc hd1 hc2 hd2
    have hlt : i < items.size := by omega
    have hlt2 : i < items2.size := by omega
    have hT := ht i hlt hlt2 s hJ
    obtain ⟨hp, g, d, tk, os⟩ := s
    wp_walk using wpAny_loadPart' hl, wpAny_loadPart' hb
    have hi1 : items[((i : Nat) : Int).toNat]? = some items[i] := by simp [hlt]
    have hi2 : items2[((i : Nat) : Int).toNat]? = some items2[i] := by simp [hlt2]
    have hc : ((i : Int) + 1) = ((i + 1 : Nat) : Int) := by push_cast; rfl
    rw [hi1, hi2]
    refine wpAny_bind (wpAny_mono hT (fun c s' h => ?_) fun _ _ x => x)
    obtain ⟨⟨⟨cls, dd, data, sl⟩, hl, hc1, n, hd1⟩, ⟨⟨cls2, dd2, data2, sl2⟩, hb, hc2, n2, hd2⟩, h⟩ := h
    simp only at hc1 hd1 hc2 hd2
    subst hc1 hd1 hc2 hd2
    obtain ⟨hp, g, d, tk, os⟩ := s'
    cases c with
    | true =>
      rw [if_pos rfl] at h
      wp_walk
      rw [hc]
      exact ⟨plainId_quiet plain_eq_loop _, codeAny_builtin entry_eq_loop (by
        rw [Around.under_plainId plain_eq_loop _]
        exact ih (i + 1) _ (by omega) (by omega) h)⟩
    | false =>
      rw [if_neg (by decide)] at h
      wp_walk using wpAny_loadPart' hl, wpAny_loadPart' hb
      rw [hi1, hi2]
      wp_walk
      exact h
theorem rc_listJ {l b : Addr} {items items2 : Array Value} {A : Around} {E : Value → Shared → Prop} {Q : Value → Shared → Prop} {s : Shared} (hsz : items.size = items2.size) (hu : A.units < cLine) (J : Nat → Shared → Prop) (h0 : J 0 s)
    (hh : ∀ i s, J i s → s.heap.IsList l items ∧ s.heap.IsList b items2)
    (ht : ∀ i (h1 : i < items.size) (h2 : i < items2.size) s, J i s → wpAny (model prog w) A.in1 (eqBool items[i] items2[i]) (fun c s' => s'.heap.IsList l items ∧ s'.heap.IsList b items2 ∧ if c = true then J (i + 1) s' else Q (.bool false) s') E s)
    (hd : ∀ s, J items.size s → Q (.bool true) s) : wpAny (model prog w) A (richCompare .Eq (.ref l) (.ref b)) Q E s := by
  obtain ⟨⟨⟨cls, dd, data, sl⟩, hl, hc, n, hd1⟩, ⟨⟨cls2, dd2, data2, sl2⟩, hb, hc2, n2, hd2⟩⟩ := hh 0 s h0
  simp only at hc hd1 hc2 hd2
  subst hc hd1 hc2 hd2
  have hT : s.TypeIs (.ref l) "list" := ⟨_, hl, rfl⟩
  have hT2 : s.TypeIs (.ref b) "list" := ⟨_, hb, rfl⟩
  have nn : ∀ c : Bool, Value.bool c ≠ Value.notImplemented := fun c x => nomatch x
  refine wpAny_richCompare_same_room hT hT2 F.slot_list_eq ?_ hu
  refine wpAny_call (codeAny_call_builtin F.slot_list_eq.plain F.entry_list_eq (F.slot_list_eq.check _ _ _ _ _ _ _ _ hT (F.args_list_eq_2 _ _) ?_))
  have main := eq_loopJ (prog := prog) (w := w) l b items items2 hsz A (wants (fun v s' => v ≠ .notImplemented ∧ Q v s') E) J hh (fun i h1 h2 s hJ => wpAny_mono (ht i h1 h2 s hJ) (fun c s' ⟨a1, a2, a3⟩ => ⟨a1, a2, by
    cases c with
    | true => exact a3
    | false => exact ⟨nn _, a3⟩⟩) fun _ _ x => x) (fun s hJ => ⟨nn _, hd s hJ⟩) _ 0 s rfl (Nat.zero_le _) h0
  obtain ⟨hp, g, d, tk, os⟩ := s
  have f3 := AutoSeq1.sub_list_list
  have hne : ¬ (items.size != items2.size) = true := by simp [hsz]
  wp_walk using wpAny_loadPart' hl, wpAny_loadPart' hb
  exact ⟨plainId_quiet plain_eq_loop _, codeAny_builtin entry_eq_loop (by
    rw [Around.under_plainId plain_eq_loop _]
    exact main)⟩
end
section
variable {X : Cx} {CX : CXT} {k : Nat} {C f : Addr} {fd : FuncData} {ps : List Str} {sp : Sp} {E : XK}
/-- item by item: the same object, or the own __eq__ asked -/
def eqGo (C : Addr) (sp : Sp) (E : XK) : List V → List V → Hp → VK → Prop
  | x :: xs, y :: ys, H, Q => (x = y ∧ eqGo C sp E xs ys H Q) ∨ (∃ p q dx fs dy gs, x = .ref p ∧ y = .ref q ∧ p ≠ q ∧ H p = some (.ins C dx fs) ∧ H q = some (.ins C dy gs) ∧ sp [x, y] H (fun v H' => Same H H' ∧ ∃ c, v = .bl c ∧ (c = true → eqGo C sp E xs ys H' Q) ∧ (c = false → Q (.bl false) H')) E)
  | _, _, H, Q => Q (.bl true) H
def rEqOL (C : Addr) (sp : Sp) (E : XK) : R2 := fun x y H Q => ∃ a b xs ys, x = .ref a ∧ y = .ref b ∧ H a = some (.lst xs) ∧ H b = some (.lst ys) ∧ (∀ v ∈ xs, ∃ p, v = .ref p) ∧ (∀ v ∈ ys, ∃ p, v = .ref p) ∧ ((xs.length ≠ ys.length ∧ Q (.bl false) H) ∨ (xs.length = ys.length ∧ eqGo C sp E xs ys H Q))
def refV : V → Value
  | .ref p => .ref p
  | _ => .none
theorem vals_refs : ∀ {xs : List V} {its : List Value}, (∀ v ∈ xs, ∃ p, v = .ref p) → Vals xs its → its = xs.map refV
  | [], _, _, h => by cases h; rfl
  | x :: xs, _, hx, h => by
    cases h with
    | cons h1 h2 =>
      obtain ⟨p, rfl⟩ := hx x List.mem_cons_self
      cases h1
      rw [List.map_cons, ← vals_refs (fun v hv => hx v (List.mem_cons_of_mem _ hv)) h2]
      rfl
theorem op_eqOL (O : CmF X.K C f .Eq) (F : FnOk X.prog X.w X.K X.mg X.base CX k f fd ps sp) (hr : Room (k + 1) X.A) (hb : Binds X.K fd ps []) (hx : Passes CX X E) : OpR X (compareOp .Eq) (rEqOL C sp E) := fun pins s σ H x y v u Q I rx ry h => by
  obtain ⟨a, b, xs, ys, rfl, rfl, ha, hb', hxs, hys, h⟩ := h
  cases rx
  cases ry
  have hu : X.A.units < cLine := by have := hr.units0; omega
  have ls : ∀ {s' : Shared} {H' : Hp}, Inv X pins σ H' s' → H' a = some (.lst xs) → H' b = some (.lst ys) → s'.heap.IsList a (xs.map refV).toArray ∧ s'.heap.IsList b (ys.map refV).toArray := fun {s' H'} I' ha' hb'' => by
    obtain ⟨its, r, pl, hz⟩ := I'.list (SqL.of ha')
    obtain ⟨its2, r2, pl2, hz2⟩ := I'.list (SqL.of hb'')
    rw [vals_refs hxs r] at pl
    rw [vals_refs hys r2] at pl2
    exact ⟨pl.isList, pl2.isList⟩
  obtain ⟨l1, l2⟩ := ls I ha hb'
  rcases h with ⟨hne, q⟩ | ⟨hl, h⟩
  · refine SeqAt.eq_list_lengthsAt l1 l2 ?_ hu ⟨.bl false, H, I, rfl, q⟩
    simp only [List.size_toArray, List.length_map]
    simpa using hne
  · show wpAny (model X.prog X.w) X.A (richCompare .Eq (.ref a) (.ref b)) _ _ _
    have hsz : (xs.map refV).toArray.size = (ys.map refV).toArray.size := by simpa using hl
    refine rc_listJ hsz hu (fun i s => ∃ H', Inv X pins σ H' s ∧ H' a = some (.lst xs) ∧ H' b = some (.lst ys) ∧ eqGo C sp E (xs.drop i) (ys.drop i) H' Q) ⟨H, I, ha, hb', h⟩ (fun i s ⟨H', I', ha', hb'', _⟩ => ls I' ha' hb'') (fun i h1 h2 s ⟨H', I', ha', hb'', g⟩ => ?_) (fun s ⟨H', I', _, _, g⟩ => ?_)
    · have h1' : i < xs.length := by simpa using h1
      have h2' : i < ys.length := by simpa using h2
      rw [List.drop_eq_getElem_cons h1', List.drop_eq_getElem_cons h2'] at g
      have e1 : (xs.map refV).toArray[i] = refV xs[i] := by simp
      have e2 : (ys.map refV).toArray[i] = refV ys[i] := by simp
      rw [e1, e2]
      unfold eqGo at g
      rcases g with ⟨e, g⟩ | ⟨p, q, dx, fs, dy, gs, ep, eq, npq, hp, hq, g⟩
      · rw [e]
        obtain ⟨l1, l2⟩ := ls I' ha' hb''
        exact SeqAt.EqAt.same (A := X.A.in1) (s := s) (refV ys[i]) X.prog X.w X.xe _ ⟨l1, l2, by rw [if_pos rfl]; exact ⟨H', I', ha', hb'', g⟩⟩
      · rw [ep, eq]
        show wpAny _ _ (eqBool (.ref p) (.ref q)) _ _ _
        unfold eqBool
        refine wpAny_holding ?_
        refine wpAny_ite_split (fun hab => absurd (by have := eq_of_beq hab; injection this) npq) (fun _ => ?_)
        obtain ⟨mA, J, _⟩ := ins_get I'.hok hp
        obtain ⟨od, J, _⟩ := J.look
        obtain ⟨mB, J2, _⟩ := ins_get I'.hok hq
        obtain ⟨od2, J2, _⟩ := J2.look
        obtain ⟨m, hF⟩ := I'.fr
        refine wpAny_bind (PySem.W.cmp_K (room_in1 hr).units0 hF I'.ok.mod.kin J J2.type notFirst_self O.hs O.hf ?_)
        rw [ep, eq] at g
        refine thn (run_fnA (vs := [.ref p, .ref q]) (room_in1 hr) rfl F hb hx I' (.cons rfl (.cons rfl .nil)) g) fun v s2 z => ?_
        obtain ⟨v', H2, I2, r2, sm, c, rfl, gt, gf⟩ := z
        cases r2
        obtain ⟨l1, l2⟩ := ls I2 (sm _ _ ha') (sm _ _ hb'')
        refine wpAny_truthy_bool ⟨l1, l2, ?_⟩
        cases c with
        | true =>
          rw [if_pos rfl]
          exact ⟨H2, I2, sm _ _ ha', sm _ _ hb'', gt rfl⟩
        | false =>
          rw [if_neg (by decide)]
          exact ⟨.bl false, H2, I2, rfl, gf rfl⟩
    · rw [List.drop_of_length_le (by simp), List.drop_of_length_le (by simp; omega)] at g
      exact ⟨.bl true, H', I', rfl, g⟩
end



/-! ### enumerate(tuple); int(bool); != of lists of the same objects -/
section
open PyProof.Rows
open AutoSeq1 (wpAny_loadPart')
theorem meets_enumerate_newT (l : Addr) (items : Array Value) (n : Nat) (dct : Option Addr) (sl : Array (Option Value)) :
    Meets (Builtin.«enumerate.__new__» ⟨[.type "enumerate", .ref l], []⟩) (fun _ R s => s.heap.get? l = some { cls := .type "tuple", dict := dct, data := .seq items n, slots := sl } ∧
      R (.ok (.ret (.ref (s.heap.push { cls := .type "tuple_iterator", data := .fields #[.ref l, .int 0 0] }).objs.size)))
        { s with heap := (s.heap.push { cls := .type "tuple_iterator", data := .fields #[.ref l, .int 0 0] }).push { cls := .type "enumerate", data := .fields #[.none, .bool false, .ref s.heap.objs.size, rawInt 0, .none, .none] } }) :=
  .of_wp fun prog w A R s h => by
    obtain ⟨hp, g, d, tk, os⟩ := s
    obtain ⟨hl, h⟩ := h
    have hsub := sub_enumerate
    have hL : Heap.IsTuple (Shared.heap ⟨hp, g, d, tk, os⟩) l items := ⟨_, hl, rfl, n, rfl⟩
    wp_walk using wpAny_loadPart' hl
    refine wpAny_stack_any fun st => wpAny_pure ?_
    split
    · rename_i c _ _ _ _ _
      cases (c == Value.type "enumerate")
      · wp_walk using wpAny_loadPart' hl, wpAny_pyIter_tuple hL
        exact ⟨_, rfl, h⟩
      · wp_walk using wpAny_loadPart' hl, wpAny_pyIter_tuple hL
        exact ⟨_, rfl, h⟩
    · wp_walk using wpAny_loadPart' hl, wpAny_pyIter_tuple hL
      exact ⟨_, rfl, h⟩
theorem call_enumerate_tup {prog : Program} {w : World} {A : Around} {E : Value → Shared → Prop} {s : Shared} {l : Addr} {items : Array Value} {Q : Value → Shared → Prop} (hL : s.heap.IsTuple l items)
    (h : ∀ h', IsEnum h' (s.heap.objs.size + 1) s.heap.objs.size 0 .none → h'.IsTupleIter s.heap.objs.size l 0 → h'.objs.size = s.heap.objs.size + 2 →
      (∀ b o, s.heap.get? b = some o → h'.get? b = some o) → Q (.ref (s.heap.objs.size + 1)) { s with heap := h' }) :
    wpAny (model prog w) A (call (.type "enumerate") [.ref l]) Q E s := by
  obtain ⟨⟨c, dct, dt, sl⟩, hl, hc, n, hd⟩ := hL
  replace hc : c = .type "tuple" := hc
  replace hd : dt = .seq items n := hd
  subst hc hd
  refine callType_new F.called_enumerate (by decide) (F.typeCall_enumerate_1 _) (F.newCall_enumerate_1 _) (fun obj => F.args_object_init_2 obj _) F.entry_enumerate_new
    (meets_enumerate_newT l items n dct sl) ⟨hl, ?_⟩
  have hz : (s.heap.push { cls := .type "tuple_iterator", data := .fields #[.ref l, .int 0 0] }).objs.size = s.heap.objs.size + 1 := Heap.size_push ..
  show _ ∧ _
  rw [hz]
  have he : IsEnum ((s.heap.push { cls := .type "tuple_iterator", data := .fields #[.ref l, .int 0 0] }).push
      { cls := .type "enumerate", data := .fields #[.none, .bool false, .ref s.heap.objs.size, rawInt 0, .none, .none] }) (s.heap.objs.size + 1) s.heap.objs.size 0 .none := by
    have := Heap.get?_push_size (s.heap.push { cls := .type "tuple_iterator", data := .fields #[.ref l, .int 0 0] })
      (o := { cls := .type "enumerate", data := .fields #[.none, .bool false, .ref s.heap.objs.size, rawInt 0, .none, .none] }) rfl
    rw [hz] at this
    exact this
  refine ⟨⟨_, he, rfl⟩, h _ he ⟨_, Heap.get?_push_of_some _ (Heap.get?_push_size _ rfl), rfl, rfl⟩ (by rw [Heap.size_push, hz]) fun b o x => Heap.get?_push_of_some _ (Heap.get?_push_of_some _ x)⟩
/-- the tuple at a, each item in a new pair -/
def IteT (K : PySem.W.Frag) (a : Addr) : It :=
  ⟨fun i H => ∃ (xs : List V) (x : V), SqT K H a xs ∧ xs[i]? = some x, fun i H v H' => ∃ T x, v = .ref T ∧ H T = none ∧ H' = upd H T (.tup [.int (i : Nat), x]) ∧ ∀ xs, SqT K H a xs → xs[i]? = some x, fun i H => ∃ xs : List V, SqT K H a xs ∧ xs.length = i⟩
theorem turn_enumT {P : Program} {w : World} {K : PySem.W.Frag} {elts : List Expr} {kk : Nat} {tpos : Pos} (a e it : Addr) :
    Turn P w K (.Tuple elts kk tpos) (IteT K a) [e, it] e (fun i h => (∃ old, IsEnum h e it ((i : Nat) : Int) old) ∧ h.IsTupleIter it a i ∧ e ≠ it) where
  mem := by simp
  obj := fun i h st b hb => by
    obtain ⟨⟨old, he⟩, ⟨o, ho, hc, hd⟩, _⟩ := st
    have e' : b = e ∨ b = it := by simpa using hb
    rcases e' with z | z
    · rw [z]; exact ⟨_, he, fun v q => nomatch q⟩
    · rw [z]; exact ⟨o, ho, fun v q => by rw [hd] at q; cases q⟩
  keep := fun i h h' st k => let ⟨⟨old, he⟩, hi, hne⟩ := st; ⟨⟨old, k e (by simp) _ he⟩, hi.at fun o q => k it (by simp) o q, hne⟩
  item := by
    intro X hP hw hK hc i pins s σ H E I hf st hg
    subst hP hw hK
    obtain ⟨⟨old, he⟩, hit, hne⟩ := st
    obtain ⟨xs, x, hq, hx⟩ := hg
    obtain ⟨its, rv, p, hz⟩ := I.tuple hq
    obtain ⟨u, hu, ru⟩ := rv.get hx
    have hel : e < s.heap.objs.size := Heap.lt_size he
    have hil : it < s.heap.objs.size := by obtain ⟨_, q, _⟩ := hit; exact Heap.lt_size q
    have pt : s.heap.IsTuple a its.toArray := p
    have nai : a ≠ it := fun z => by
      obtain ⟨o1, h1, c1, _⟩ := pt
      obtain ⟨o2, h2, c2, _⟩ := hit
      rw [z, h2] at h1
      cases h1
      rw [c2] at c1
      exact absurd c1 (by decide)
    have nea : e ≠ a := fun z => by
      obtain ⟨o1, h1, c1, _⟩ := pt
      rw [← z] at h1
      have he2 : s.heap.get? e = _ := he
      rw [he2] at h1
      cases h1
      exact absurd (show Value.type "enumerate" = Value.type "tuple" from c1) (by decide)
    have hlt : i < its.toArray.size := by
      have := (List.getElem?_eq_some_iff.mp hu).1
      simpa using this
    refine wpAny_pyNext_enum_itemD (Draws.tuple (A := X.A.in1) (I.ok.hd hc) it a nai its.toArray) he ⟨hit, pt⟩ hlt hne (by simp; exact ⟨hne, nea⟩) fun x' h' tk hP ho hst hT hsz hk => ?_
    have ex : x' = u := by
      have e2 : its.toArray[i]? = some u := by simpa using hu
      rw [e2] at hP
      exact (Option.some.inj hP).symm
    subst ex
    obtain ⟨hit', _⟩ := hst
    refine ⟨_, rfl, wpAny_letOwnedTupleGo_enum (s := { s with heap := h', toks := tk + 1 }) ho fun h'' he' sb => ?_⟩
    have hT2 : h''.get? s.heap.objs.size = some { cls := .type "tuple", data := .seq #[.int i tk, x'] } := (sb.2 _ (Nat.ne_of_gt hel)).trans hT
    have new : ObjOk X.prog X.w (upd H s.heap.objs.size (.tup [.int (i : Nat), x])) h'' s.heap.objs.size (.tup [.int (i : Nat), x]) :=
      ⟨by show 2 ≤ sizeLine; decide, [.int i tk, x'], .cons ⟨_, rfl⟩ (.cons ru .nil), ⟨_, hT2, rfl, _, rfl⟩⟩
    have I1 : Inv X pins σ (upd H s.heap.objs.size (.tup [.int (i : Nat), x])) { s with heap := h'', toks := tk + 1 } :=
      I.turnedNew (ch := [e, it]) (fun b ob hb q => (sb.2 b (fun z => hb (by simp [z]))).trans (hk b ob (fun z => hb (by simp [z])) (fun z => hb (by simp [z])) q)) hf (Nat.le_refl _) new
    refine ⟨.ref s.heap.objs.size, _, I1, rfl, ⟨_, x, rfl, I.hok.fresh (Nat.le_refl _), rfl, fun ys hy => by rw [I.tuple_inj hy hq]; exact hx⟩, ⟨⟨x', ?_⟩, hit'.at fun o q => (sb.2 it (Ne.symm hne)).trans q, hne⟩, fun b hb => ?_⟩
    · have e1 : ((i + 1 : Nat) : Int) = (i : Int) + 1 := by omega
      rw [e1]; exact he'
    · have hb' : b < s.heap.objs.size := by
        have e' : b = e ∨ b = it := by simpa using hb
        rcases e' with z | z
        · rw [z]; exact hel
        · rw [z]; exact hil
      rw [upd_ne (Nat.ne_of_lt hb')]
      exact (hf b hb).1
  done := by
    intro X hP hw hK hc i pins s σ H E I hf st hg
    subst hP hw hK
    obtain ⟨⟨old, he⟩, hit, hne⟩ := st
    obtain ⟨xs, hq, hx⟩ := hg
    obtain ⟨its, rv, p, hz⟩ := I.tuple hq
    obtain ⟨f0, f1, f2, f3, f4, f5⟩ := hf it (by simp)
    have hl := rv.length
    have pt : s.heap.IsTuple a its.toArray := p
    have nai : a ≠ it := fun z => by
      obtain ⟨o1, h1, c1, _⟩ := pt
      obtain ⟨o2, h2, c2, _⟩ := hit
      rw [z, h2] at h1
      cases h1
      rw [c2] at c1
      exact absurd c1 (by decide)
    have ei : i = its.toArray.size := by simp; omega
    exact wpAny_pyNext_enum_endD (Draws.tuple (A := X.A.in1) (I.ok.hd hc) it a nai its.toArray) he ⟨ei ▸ hit, pt⟩ fun h' eb => ⟨rfl, I.turned (t' := s.toks) (fun b o hb q => eb b o hb q) f0 f1 f3 f4 f5⟩
  self := fun A i s Q E st h => let ⟨⟨_, he⟩, _⟩ := st; wpAny_pyIter_enum he h
def iEnumT (K : PySem.W.Frag) (ta : TA) : TI := fun σ H R => ta σ H fun vs H1 => ∃ a xs, vs = [.ref a] ∧ SqT K H1 a xs ∧ R (IteT K a) H1
theorem pi_enumT {X : Cx} {e : Expr} {ta : TA} {p pos tpos : Pos} {elts : List Expr} {kk : Nat} (hg : Gl X "enumerate") (hm : X.mg "enumerate" = none) (ha : PA X [e] ta) (hs : starEach [e] X.env = [(false, eval e X.env)] := by rfl) :
    PI X (.Tuple elts kk tpos) (.Call (.Name "enumerate" p) [e] [] pos) (iEnumT X.K ta) := by
  refine ⟨fun pins s σ H R I h => ?_⟩
  refine Call_ (ld_blt I hg hm PyProof.Rows.boot_enumerate (PyProof.Rows.callWith_type1 (thn (ha.run pos pins s σ H _ I h) fun us s1 ⟨vs, H1, I1, r1, q1⟩ => ?_) hs rfl))
  obtain ⟨a, xs, ex, hq, q⟩ := q1
  subst ex
  cases r1 with
  | cons r rr =>
    cases rr
    cases r
    obtain ⟨its, rv, p', hz⟩ := I1.tuple hq
    refine call_enumerate_tup (show s1.heap.IsTuple a its.toArray from p') fun h' he hit hsz hk => wpAny_pyIter_enum he ?_
    have I2 : Inv X pins σ H1 { s1 with heap := h' } := I1.kept (t' := s1.toks) hk
    refine ⟨s1.heap.objs.size + 1, [s1.heap.objs.size + 1, s1.heap.objs.size], _, _, H1, rfl, I2, turn_enumT a (s1.heap.objs.size + 1) s1.heap.objs.size, ⟨⟨.none, he⟩, hit, Nat.succ_ne_self _⟩, fun b hb => ?_, q⟩
    have e' : b = s1.heap.objs.size + 1 ∨ b = s1.heap.objs.size := by simpa using hb
    have hle : s1.heap.objs.size ≤ b := by
      rcases e' with z | z
      · rw [z]; exact Nat.le_add_right _ _
      · rw [z]; exact Nat.le_refl _
    exact I1.fpOk hle (I1.hok.fresh hle)
theorem walk_enumT {K : PySem.W.Frag} {a : Addr} {xs : List V} : Walk (IteT K a) xs.length (fun H => SqT K H a xs) (YPair (fun i => some (.int (i : Nat))) (fun i => xs[i]?)) := by
  refine ⟨fun i _ hi q => ⟨xs, xs[i], q, by simp [hi]⟩, fun _ q => ⟨xs, q, rfl⟩, fun i H v H' _ q y => ?_⟩
  obtain ⟨T, x, h1, h2, h3, h4⟩ := y
  exact ⟨T, .int (i : Nat), x, h1, h2, h3, rfl, h4 xs q⟩
variable {X : Cx}
def rIntB : List V → Hp → VK → Prop := fun vs H Q => ∃ b, vs = [.bl b] ∧ Q (.int (if b then 1 else 0)) H
theorem call_intB : CallR X (.type "int") rIntB := fun pins s σ H xs us Q I r h => call_int1 pins s σ H xs us Q I r (Or.inr h)
def rNeSame : R2 := fun x y H Q => ∃ a b xs, x = .ref a ∧ y = .ref b ∧ H a = some (.lst xs) ∧ H b = some (.lst xs) ∧ (∀ v ∈ xs, ∃ p, v = .ref p) ∧ Q (.bl false) H
theorem op_neSame (hu : X.A.units + 64 < cLine) : OpR X (compareOp .NotEq) rNeSame := fun pins s σ H x y v u Q I rx ry h => by
  obtain ⟨a, b, xs, rfl, rfl, ha, hb, hr, q⟩ := h
  cases rx
  cases ry
  obtain ⟨its, r, pl, hz⟩ := I.list (SqL.of ha)
  obtain ⟨its2, r2, pl2, hz2⟩ := I.list (SqL.of hb)
  have e1 := vals_refs hr r
  have e2 := vals_refs hr r2
  subst e1 e2
  have hu' : X.A.units < cLine := by omega
  refine SeqAt.RcNeAt.lists (e := fun _ => true) pl.isList pl2.isList rfl hu' (fun j h1 h2 => SeqAt.EqAt.same _) X.prog X.w X.xe _ ?_
  refine ⟨.bl false, H, I, ?_, q⟩
  show Value.bool _ = Value.bool false
  simp
end



/-! ### for x in o, o of an own class whose __iter__ tells iter(list) -/
section
variable {X : Cx}
/-- iter(xs): the iterator is younger than a thing that is known -/
def rIterB (K : PySem.W.Frag) : List V → Hp → VK → Prop := fun xs H Q => ∃ (l : Addr) (zs : List V) (b : Addr) (u : HO), xs = [.ref l] ∧ SqL K H l zs ∧ H b = some u ∧ ∀ it, H it = none → b < it → Q (.ref it) (upd H it (ItO l it 0))
theorem call_iterB : CallR X (.builtin "iter") (rIterB X.K) := by
  intro pins s σ H xs us Q I r h
  obtain ⟨l, zs, b, u, rfl, hq, hb, q⟩ := h
  obtain rfl := Vals.ref1 r
  obtain ⟨its, rv, pl, hz⟩ := I.list hq
  have hlt : b < s.heap.objs.size := by
    rcases Nat.lt_or_ge b s.heap.objs.size with h | h
    · exact h
    · rw [I.hok.fresh h] at hb; cases hb
  refine GNX.call_iter pl.isList ?_
  exact ⟨.ref s.heap.objs.size, _, I.laid (t' := s.toks) (fun b u e => Heap.get?_push_of_some _ e) (Nat.le_refl _) (itO_ok (Heap.get?_push_size _ rfl)), rfl, q _ (I.hok.fresh (Nat.le_refl _)) hlt⟩
/-- [..], younger than the call -/
def tLstN (n : Nat) (t : TA) : TE := fun σ H Q => t σ H fun xs H1 => xs.length ≤ sizeLine ∧ ∀ p, H1 p = none → n ≤ p → Q (.ref p) (upd H1 p (.lst xs))
theorem pe_lstN {es : List Expr} {t : TA} {pos : Pos} (h : PA X es t) : PE X (.List es pos) (tLstN X.s_0.heap.objs.size t) := by
  refine ⟨fun pins s σ H Q I hq => ?_⟩
  refine wpAny_List_spliced (thn (h.run pos pins s σ H _ I hq) fun us s1 ⟨xs, H1, I1, r, z, q⟩ => ⟨by rw [← r.length]; exact z, ?_⟩)
  have hf : H1 s1.heap.objs.size = none := I1.hok.fresh (Nat.le_refl _)
  refine ⟨.ref s1.heap.objs.size, upd H1 s1.heap.objs.size (.lst xs), I1.laid (t' := s1.toks) (fun b u e => Heap.get?_push_of_some _ e) (Nat.le_refl _) ?_, rfl, q _ hf I1.sz⟩
  exact ⟨z, us, 0, r, Heap.get?_push_size _ rfl⟩
variable {CX : CXT} {k : Nat} {C f : Addr} {fd : FuncData} {ps : List Str} {sp : Sp} {E : XK}
def iOwnIt (K : PySem.W.Frag) (C : Addr) (sp : Sp) (E : XK) (n : Nat) (te : TE) : TI := fun σ H R => te σ H fun x H1 => ∃ a dx fs, x = .ref a ∧ H1 a = some (.ins C dx fs) ∧ sp [x] H1 (fun v H2 => ∃ it l, v = .ref it ∧ H2 it = some (ItO l it 0) ∧ n ≤ it ∧ R (ItX.ItlF K l 0) (ItX.dropH H2 it)) E
theorem pi_ownIt {e tg : Expr} {te : TE} (O : UnF X.K C f "__iter__") (F : FnOk X.prog X.w X.K X.mg X.base CX k f fd ps sp) (hr : Room k X.A) (hb : Binds X.K fd ps []) (hx : Passes CX X E) (he : PE X e te) : PI X tg e (iOwnIt X.K C sp E X.s_0.heap.objs.size te) := by
  refine ⟨fun pins s σ H R I h => ?_⟩
  refine thn (he.run pins s σ H _ I h) fun v s1 ⟨x, H1, I1, r1, a, dx, fs, ex, ha, q⟩ => ?_
  subst ex
  cases r1
  obtain ⟨mA, J, _⟩ := ins_get I1.hok ha
  obtain ⟨od, J, _⟩ := J.look
  obtain ⟨m, hF⟩ := I1.fr
  refine PySem.W.owit_iter hF I1.ok.mod.kin J O.hs O.hf ?_
  refine thn (run_fn (vs := [.ref a]) F hr hb .nil hx I1 (.cons rfl .nil) q) fun u s2 ⟨v, H2, I2, r2, it, l, ev, hi, hn, q2⟩ => ?_
  subst ev
  cases r2
  have eo := itO_get I2 hi
  have hT : s2.TypeIs (.ref it) "list_iterator" := ⟨_, eo, rfl⟩
  have st : s2.heap.IsListIter it l (0 + 0) := ⟨_, eo, rfl, rfl⟩
  show wpAny _ _ (specialOf (.ref it) "__next__") _ _ _
  refine wpAny_specialOf hT PySem.slot_listiter_next.lookup ?_
  have hi' := hi
  unfold ItO at hi'
  refine ⟨it, [it], _, _, ItX.dropH H2 it, rfl, ItX.inv_drop I2 hi', ItX.turn_listF l it 0, st, fun b hb => ?_, q2⟩
  have e : b = it := by simpa using hb
  rw [e]
  exact ItX.inv_fp I2 hi hn
end



abbrev PW : Program := PySem.Challenge.pw_lineorigins_k13_histories_written
def top (i : Nat) : Stmt := PySem.Challenge.pw_lineorigins_k13_histories_written.main.body.getD i (.Pass ⟨0, 0, 0, 0⟩)
abbrev sIsSign : Stmt := top 14
abbrev nIsSign : List Str := ["sign"]
theorem scIsSign : FnScope nIsSign ["sign"] (defScope sIsSign) := ⟨rfl, rfl, rfl, by decide +kernel, rfl, by decide +kernel, by decide +kernel⟩
abbrev sIsLine : Stmt := top 15
abbrev nIsLine : List Str := ["value", "sign"]
theorem scIsLine : FnScope nIsLine ["value"] (defScope sIsLine) := ⟨rfl, rfl, rfl, by decide +kernel, rfl, by decide +kernel, by decide +kernel⟩
abbrev sIsText : Stmt := top 16
abbrev nIsText : List Str := ["value", "line"]
theorem scIsText : FnScope nIsText ["value"] (defScope sIsText) := ⟨rfl, rfl, rfl, by decide +kernel, rfl, by decide +kernel, by decide +kernel⟩
abbrev sIsInteger : Stmt := top 18
abbrev nIsInteger : List Str := ["value"]
theorem scIsInteger : FnScope nIsInteger ["value"] (defScope sIsInteger) := ⟨rfl, rfl, rfl, by decide +kernel, rfl, by decide +kernel, by decide +kernel⟩
abbrev sIsCount : Stmt := top 19
abbrev nIsCount : List Str := ["value"]
theorem scIsCount : FnScope nIsCount ["value"] (defScope sIsCount) := ⟨rfl, rfl, rfl, by decide +kernel, rfl, by decide +kernel, by decide +kernel⟩
abbrev sIsName : Stmt := top 24
abbrev nIsName : List Str := ["value", "sign"]
theorem scIsName : FnScope nIsName ["value"] (defScope sIsName) := ⟨rfl, rfl, rfl, by decide +kernel, rfl, by decide +kernel, by decide +kernel⟩
abbrev sAreParents : Stmt := top 25
abbrev nAreParents : List Str := ["value", "number"]
theorem scAreParents : FnScope nAreParents ["value"] (defScope sAreParents) := ⟨rfl, rfl, rfl, by decide +kernel, rfl, by decide +kernel, by decide +kernel⟩
abbrev sVersionInit : Stmt := inClass (top 26) 0
abbrev nVersionInit : List Str := ["self", "lines", "parents", "author"]
theorem scVersionInit : FnScope nVersionInit ["self", "lines", "parents", "author"] (defScope sVersionInit) := ⟨rfl, rfl, rfl, by decide +kernel, rfl, by decide +kernel, by decide +kernel⟩
abbrev sVersionLines : Stmt := inClass (top 26) 1
abbrev nVersionLines : List Str := ["self"]
theorem scVersionLines : FnScope nVersionLines ["self"] (defScope sVersionLines) := ⟨rfl, rfl, rfl, by decide +kernel, rfl, by decide +kernel, by decide +kernel⟩
abbrev sVersionParents : Stmt := inClass (top 26) 2
abbrev nVersionParents : List Str := ["self"]
theorem scVersionParents : FnScope nVersionParents ["self"] (defScope sVersionParents) := ⟨rfl, rfl, rfl, by decide +kernel, rfl, by decide +kernel, by decide +kernel⟩
abbrev sVersionAuthor : Stmt := inClass (top 26) 3
abbrev nVersionAuthor : List Str := ["self"]
theorem scVersionAuthor : FnScope nVersionAuthor ["self"] (defScope sVersionAuthor) := ⟨rfl, rfl, rfl, by decide +kernel, rfl, by decide +kernel, by decide +kernel⟩
abbrev sVersionLen : Stmt := inClass (top 26) 5
abbrev nVersionLen : List Str := ["self"]
theorem scVersionLen : FnScope nVersionLen ["self"] (defScope sVersionLen) := ⟨rfl, rfl, rfl, by decide +kernel, rfl, by decide +kernel, by decide +kernel⟩
abbrev sVersionContains : Stmt := inClass (top 26) 6
abbrev nVersionContains : List Str := ["self", "line"]
theorem scVersionContains : FnScope nVersionContains ["self", "line"] (defScope sVersionContains) := ⟨rfl, rfl, rfl, by decide +kernel, rfl, by decide +kernel, by decide +kernel⟩
abbrev sVersionGetitem : Stmt := inClass (top 26) 7
abbrev nVersionGetitem : List Str := ["self", "index"]
theorem scVersionGetitem : FnScope nVersionGetitem ["self", "index"] (defScope sVersionGetitem) := ⟨rfl, rfl, rfl, by decide +kernel, rfl, by decide +kernel, by decide +kernel⟩
abbrev sVersionEq : Stmt := inClass (top 26) 8
abbrev nVersionEq : List Str := ["self", "other"]
theorem scVersionEq : FnScope nVersionEq ["self", "other"] (defScope sVersionEq) := ⟨rfl, rfl, rfl, by decide +kernel, rfl, by decide +kernel, by decide +kernel⟩
abbrev sCanStand : Stmt := top 27
abbrev nCanStand : List Str := ["value", "number", "parent"]
theorem scCanStand : FnScope nCanStand ["value", "number"] (defScope sCanStand) := ⟨rfl, rfl, rfl, by decide +kernel, rfl, by decide +kernel, by decide +kernel⟩
abbrev sHistoryInit : Stmt := inClass (top 28) 0
abbrev nHistoryInit : List Str := ["self", "versions", "number", "value"]
theorem scHistoryInit : FnScope nHistoryInit ["self", "versions"] (defScope sHistoryInit) := ⟨rfl, rfl, rfl, by decide +kernel, rfl, by decide +kernel, by decide +kernel⟩
abbrev sHistoryIter : Stmt := inClass (top 28) 1
abbrev nHistoryIter : List Str := ["self"]
theorem scHistoryIter : FnScope nHistoryIter ["self"] (defScope sHistoryIter) := ⟨rfl, rfl, rfl, by decide +kernel, rfl, by decide +kernel, by decide +kernel⟩
abbrev sHistoryLen : Stmt := inClass (top 28) 2
abbrev nHistoryLen : List Str := ["self"]
theorem scHistoryLen : FnScope nHistoryLen ["self"] (defScope sHistoryLen) := ⟨rfl, rfl, rfl, by decide +kernel, rfl, by decide +kernel, by decide +kernel⟩
abbrev sHistoryContains : Stmt := inClass (top 28) 3
abbrev nHistoryContains : List Str := ["self", "number"]
theorem scHistoryContains : FnScope nHistoryContains ["self", "number"] (defScope sHistoryContains) := ⟨rfl, rfl, rfl, by decide +kernel, rfl, by decide +kernel, by decide +kernel⟩
abbrev sHistoryEq : Stmt := inClass (top 28) 4
abbrev nHistoryEq : List Str := ["self", "other"]
theorem scHistoryEq : FnScope nHistoryEq ["self", "other"] (defScope sHistoryEq) := ⟨rfl, rfl, rfl, by decide +kernel, rfl, by decide +kernel, by decide +kernel⟩
abbrev sHistoryCheck : Stmt := inClass (top 28) 5
abbrev nHistoryCheck : List Str := ["self", "number"]
theorem scHistoryCheck : FnScope nHistoryCheck ["self", "number"] (defScope sHistoryCheck) := ⟨rfl, rfl, rfl, by decide +kernel, rfl, by decide +kernel, by decide +kernel⟩
abbrev sHistoryVersion : Stmt := inClass (top 28) 6
abbrev nHistoryVersion : List Str := ["self", "number"]
theorem scHistoryVersion : FnScope nHistoryVersion ["self", "number"] (defScope sHistoryVersion) := ⟨rfl, rfl, rfl, by decide +kernel, rfl, by decide +kernel, by decide +kernel⟩
abbrev sIsCountWord : Stmt := top 32
abbrev nIsCountWord : List Str := ["word", "sign"]
theorem scIsCountWord : FnScope nIsCountWord ["word"] (defScope sIsCountWord) := ⟨rfl, rfl, rfl, by decide +kernel, rfl, by decide +kernel, by decide +kernel⟩
abbrev sCountIn : Stmt := top 33
abbrev nCountIn : List Str := ["word"]
theorem scCountIn : FnScope nCountIn ["word"] (defScope sCountIn) := ⟨rfl, rfl, rfl, by decide +kernel, rfl, by decide +kernel, by decide +kernel⟩
abbrev sFormatParents : Stmt := top 34
abbrev nFormatParents : List Str := ["parents", "parent"]
theorem scFormatParents : FnScope nFormatParents ["parents"] (defScope sFormatParents) := ⟨rfl, rfl, rfl, by decide +kernel, rfl, by decide +kernel, by decide +kernel⟩
abbrev sFormatHistory : Stmt := top 35
abbrev nFormatHistory : List Str := ["history", "rows", "version", "line"]
theorem scFormatHistory : FnScope nFormatHistory ["history"] (defScope sFormatHistory) := ⟨rfl, rfl, rfl, by decide +kernel, rfl, by decide +kernel, by decide +kernel⟩
abbrev sParentsIn : Stmt := top 36
abbrev nParentsIn : List Str := ["word", "number", "parents", "last", "parent", "part"]
theorem scParentsIn : FnScope nParentsIn ["word", "number"] (defScope sParentsIn) := ⟨rfl, rfl, rfl, by decide +kernel, rfl, by decide +kernel, by decide +kernel⟩
abbrev sHeadIn : Stmt := top 37
abbrev nHeadIn : List Str := ["row", "number", "words", "parents"]
theorem scHeadIn : FnScope nHeadIn ["row", "number"] (defScope sHeadIn) := ⟨rfl, rfl, rfl, by decide +kernel, rfl, by decide +kernel, by decide +kernel⟩
abbrev sParseHistory : Stmt := top 38
abbrev nParseHistory : List Str := ["text", "heads", "texts", "rows", "at", "row", "head", "versions", "lines"]
theorem scParseHistory : FnScope nParseHistory ["text"] (defScope sParseHistory) := ⟨rfl, rfl, rfl, by decide +kernel, rfl, by decide +kernel, by decide +kernel⟩
abbrev sLawPool : Stmt := top 40
abbrev nLawPool : List Str := ["_law_script", "_law_numbers", "_law_seed", "_law_cell"]
theorem scLawPool : FnScope nLawPool ["_law_script"] (defScope sLawPool) := ⟨rfl, rfl, rfl, by decide +kernel, rfl, by decide +kernel, by decide +kernel⟩
abbrev sLawMixed : Stmt := top 41
abbrev nLawMixed : List Str := ["_law_number", "_law_count", "_law_many"]
theorem scLawMixed : FnScope nLawMixed ["_law_number", "_law_count", "_law_many"] (defScope sLawMixed) := ⟨rfl, rfl, rfl, by decide +kernel, rfl, by decide +kernel, by decide +kernel⟩
abbrev sLawDraw : Stmt := top 42
abbrev nLawDraw : List Str := ["_law_pool_here", "_law_many", "_law_at", "_law_numbers", "_law_cell"]
theorem scLawDraw : FnScope nLawDraw ["_law_pool_here", "_law_many"] (defScope sLawDraw) := ⟨rfl, rfl, rfl, by decide +kernel, rfl, by decide +kernel, by decide +kernel⟩
abbrev sLawMade : Stmt := top 43
abbrev nLawMade : List Str := ["_law_rows_here", "_law_row"]
theorem scLawMade : FnScope nLawMade ["_law_rows_here"] (defScope sLawMade) := ⟨rfl, rfl, rfl, by decide +kernel, rfl, by decide +kernel, by decide +kernel⟩
abbrev sLawText : Stmt := top 44
abbrev nLawText : List Str := ["_law_rows_here", "_law_found", "_law_elders", "_law_lines", "_law_name", "_law_numbers", "_law_parent", "_law_line"]
theorem scLawText : FnScope nLawText ["_law_rows_here"] (defScope sLawText) := ⟨rfl, rfl, rfl, by decide +kernel, rfl, by decide +kernel, by decide +kernel⟩
abbrev sLawRows : Stmt := top 45
abbrev nLawRows : List Str := ["_law_pool_here", "_law_words", "_law_rows_here", "_law_number", "_law_elders", "_law_k", "_law_parent", "_law_lines", "_law_name"]
theorem scLawRows : FnScope nLawRows ["_law_pool_here"] (defScope sLawRows) := ⟨rfl, rfl, rfl, by decide +kernel, rfl, by decide +kernel, by decide +kernel⟩
abbrev sLaw : Stmt := top 46
abbrev nLaw : List Str := ["_law_script", "_law_pool_here", "_law_known", "_law_k", "_law_rows_here", "_law_history", "_law_text_here", "_law_found", "_law_number", "_law_row", "_law_other", "_law_same"]
theorem scLaw : FnScope nLaw ["_law_script"] (defScope sLaw) := ⟨rfl, rfl, rfl, by decide +kernel, rfl, by decide +kernel, by decide +kernel⟩
structure Adr where
  k_Version : Addr
  k_History : Addr
  k_LineError : Addr
  k_InvalidNumber : Addr
  k_InvalidText : Addr
  k_InvalidName : Addr
  k_InvalidParents : Addr
  i_InvalidNumber : Addr
  i_InvalidText : Addr
  i_InvalidName : Addr
  i_InvalidParents : Addr
  a_IsSign : Addr
  d_IsSign : FuncData
  a_IsLine : Addr
  d_IsLine : FuncData
  a_IsText : Addr
  d_IsText : FuncData
  a_IsInteger : Addr
  d_IsInteger : FuncData
  a_IsCount : Addr
  d_IsCount : FuncData
  a_IsName : Addr
  d_IsName : FuncData
  a_AreParents : Addr
  d_AreParents : FuncData
  a_VersionInit : Addr
  d_VersionInit : FuncData
  u0_VersionInit : Addr
  a_VersionLines : Addr
  d_VersionLines : FuncData
  p_VersionLines : Addr
  a_VersionParents : Addr
  d_VersionParents : FuncData
  p_VersionParents : Addr
  a_VersionAuthor : Addr
  d_VersionAuthor : FuncData
  p_VersionAuthor : Addr
  a_VersionLen : Addr
  d_VersionLen : FuncData
  a_VersionContains : Addr
  d_VersionContains : FuncData
  a_VersionGetitem : Addr
  d_VersionGetitem : FuncData
  a_VersionEq : Addr
  d_VersionEq : FuncData
  a_CanStand : Addr
  d_CanStand : FuncData
  a_HistoryInit : Addr
  d_HistoryInit : FuncData
  u0_HistoryInit : Addr
  a_HistoryIter : Addr
  d_HistoryIter : FuncData
  a_HistoryLen : Addr
  d_HistoryLen : FuncData
  a_HistoryContains : Addr
  d_HistoryContains : FuncData
  a_HistoryEq : Addr
  d_HistoryEq : FuncData
  a_HistoryCheck : Addr
  d_HistoryCheck : FuncData
  a_HistoryVersion : Addr
  d_HistoryVersion : FuncData
  a_IsCountWord : Addr
  d_IsCountWord : FuncData
  a_CountIn : Addr
  d_CountIn : FuncData
  a_FormatParents : Addr
  d_FormatParents : FuncData
  a_FormatHistory : Addr
  d_FormatHistory : FuncData
  a_ParentsIn : Addr
  d_ParentsIn : FuncData
  a_HeadIn : Addr
  d_HeadIn : FuncData
  a_ParseHistory : Addr
  d_ParseHistory : FuncData
  a_LawPool : Addr
  d_LawPool : FuncData
  a_LawMixed : Addr
  d_LawMixed : FuncData
  a_LawDraw : Addr
  d_LawDraw : FuncData
  a_LawMade : Addr
  d_LawMade : FuncData
  a_LawText : Addr
  d_LawText : FuncData
  a_LawRows : Addr
  d_LawRows : FuncData
  a_Law : Addr
  d_Law : FuncData
structure Txt (K : PySem.W.Frag) (mg : Str → Option Value) (A : Adr) : Prop where
  k_Version : mg "Version" = some (.ref A.k_Version)
  t_Version : TyF K A.k_Version
  mk_Version : Mk K A.k_Version A.a_VersionInit
  n_Version_kept_lines : NoAttr K A.k_Version "kept_lines"
  n_Version_kept_parents : NoAttr K A.k_Version "kept_parents"
  n_Version_kept_author : NoAttr K A.k_Version "kept_author"
  q_Version_int : PySem.W.kitOne K (.ref A.k_Version) (.type "int") = some false
  q_Version_bool : PySem.W.kitOne K (.ref A.k_Version) (.type "bool") = some false
  q_int_Version : PySem.W.kitOne K (.type "int") (.ref A.k_Version) = some false
  q_bool_Version : PySem.W.kitOne K (.type "bool") (.ref A.k_Version) = some false
  q_str_Version : PySem.W.kitOne K (.type "str") (.ref A.k_Version) = some false
  q_list_Version : PySem.W.kitOne K (.type "list") (.ref A.k_Version) = some false
  q_tuple_Version : PySem.W.kitOne K (.type "tuple") (.ref A.k_Version) = some false
  q_dict_Version : PySem.W.kitOne K (.type "dict") (.ref A.k_Version) = some false
  q_NoneType_Version : PySem.W.kitOne K (.type "NoneType") (.ref A.k_Version) = some false
  cr_Version : ClX.CRead K A.k_Version (.type "type")
  w_Version_int : PySem.W.notFirst K A.k_Version (.type "int") = true
  w_Version_bool : PySem.W.notFirst K A.k_Version (.type "bool") = true
  w_Version_str : PySem.W.notFirst K A.k_Version (.type "str") = true
  w_Version_list : PySem.W.notFirst K A.k_Version (.type "list") = true
  w_Version_tuple : PySem.W.notFirst K A.k_Version (.type "tuple") = true
  w_Version_dict : PySem.W.notFirst K A.k_Version (.type "dict") = true
  w_Version_NoneType : PySem.W.notFirst K A.k_Version (.type "NoneType") = true
  k_History : mg "History" = some (.ref A.k_History)
  t_History : TyF K A.k_History
  mk_History : Mk K A.k_History A.a_HistoryInit
  n_History_kept_versions : NoAttr K A.k_History "kept_versions"
  q_History_int : PySem.W.kitOne K (.ref A.k_History) (.type "int") = some false
  q_History_bool : PySem.W.kitOne K (.ref A.k_History) (.type "bool") = some false
  q_int_History : PySem.W.kitOne K (.type "int") (.ref A.k_History) = some false
  q_bool_History : PySem.W.kitOne K (.type "bool") (.ref A.k_History) = some false
  q_str_History : PySem.W.kitOne K (.type "str") (.ref A.k_History) = some false
  q_list_History : PySem.W.kitOne K (.type "list") (.ref A.k_History) = some false
  q_tuple_History : PySem.W.kitOne K (.type "tuple") (.ref A.k_History) = some false
  q_dict_History : PySem.W.kitOne K (.type "dict") (.ref A.k_History) = some false
  q_NoneType_History : PySem.W.kitOne K (.type "NoneType") (.ref A.k_History) = some false
  cr_History : ClX.CRead K A.k_History (.type "type")
  w_History_int : PySem.W.notFirst K A.k_History (.type "int") = true
  w_History_bool : PySem.W.notFirst K A.k_History (.type "bool") = true
  w_History_str : PySem.W.notFirst K A.k_History (.type "str") = true
  w_History_list : PySem.W.notFirst K A.k_History (.type "list") = true
  w_History_tuple : PySem.W.notFirst K A.k_History (.type "tuple") = true
  w_History_dict : PySem.W.notFirst K A.k_History (.type "dict") = true
  w_History_NoneType : PySem.W.notFirst K A.k_History (.type "NoneType") = true
  k_LineError : mg "LineError" = some (.ref A.k_LineError)
  k_InvalidNumber : mg "InvalidNumber" = some (.ref A.k_InvalidNumber)
  k_InvalidText : mg "InvalidText" = some (.ref A.k_InvalidText)
  k_InvalidName : mg "InvalidName" = some (.ref A.k_InvalidName)
  k_InvalidParents : mg "InvalidParents" = some (.ref A.k_InvalidParents)
  x_InvalidNumber : XTxt PW K mg "InvalidNumber" A.k_InvalidNumber A.i_InvalidNumber
  x_InvalidText : XTxt PW K mg "InvalidText" A.k_InvalidText A.i_InvalidText
  x_InvalidName : XTxt PW K mg "InvalidName" A.k_InvalidName A.i_InvalidName
  x_InvalidParents : XTxt PW K mg "InvalidParents" A.k_InvalidParents A.i_InvalidParents
  f_IsSign : Fun K "is_sign" "is_sign" sIsSign A.a_IsSign A.d_IsSign
  m_IsSign : mg "is_sign" = some (.ref A.a_IsSign)
  b_IsSign : Binds K A.d_IsSign ["sign"] []
  f_IsLine : Fun K "is_line" "is_line" sIsLine A.a_IsLine A.d_IsLine
  m_IsLine : mg "is_line" = some (.ref A.a_IsLine)
  b_IsLine : Binds K A.d_IsLine ["value"] []
  f_IsText : Fun K "is_text" "is_text" sIsText A.a_IsText A.d_IsText
  m_IsText : mg "is_text" = some (.ref A.a_IsText)
  b_IsText : Binds K A.d_IsText ["value"] []
  f_IsInteger : Fun K "is_integer" "is_integer" sIsInteger A.a_IsInteger A.d_IsInteger
  m_IsInteger : mg "is_integer" = some (.ref A.a_IsInteger)
  b_IsInteger : Binds K A.d_IsInteger ["value"] []
  f_IsCount : Fun K "is_count" "is_count" sIsCount A.a_IsCount A.d_IsCount
  m_IsCount : mg "is_count" = some (.ref A.a_IsCount)
  b_IsCount : Binds K A.d_IsCount ["value"] []
  f_IsName : Fun K "is_name" "is_name" sIsName A.a_IsName A.d_IsName
  m_IsName : mg "is_name" = some (.ref A.a_IsName)
  b_IsName : Binds K A.d_IsName ["value"] []
  f_AreParents : Fun K "are_parents" "are_parents" sAreParents A.a_AreParents A.d_AreParents
  m_AreParents : mg "are_parents" = some (.ref A.a_AreParents)
  b_AreParents : Binds K A.d_AreParents ["value"] []
  f_VersionInit : FunD K "__init__" "Version.__init__" (defArgs sVersionInit) (defBody sVersionInit) (defScope sVersionInit) [] [("parents", .ref A.u0_VersionInit), ("author", .str "anon")] A.a_VersionInit A.d_VersionInit
  ut0_VersionInit : ∀ H, SqT K H A.u0_VersionInit []
  uk0_VersionInit : ∃ o, K.lookup A.u0_VersionInit = some o ∧ o.cls = .type "tuple"
  h_VersionInit : Meth K A.k_Version "__init__" A.a_VersionInit
  kb0_VersionInit : ∃ g, KBn K A.d_VersionInit ["self", "lines", "parents", "author"] 2 ["parents", "author"] g (fun vs zs => pick [0, 1, 2, 3] (vs ++ [] ++ zs))
  f_VersionLines : Fun K "lines" "Version.lines" sVersionLines A.a_VersionLines A.d_VersionLines
  h_VersionLines : PropOf K A.k_Version "lines" A.p_VersionLines A.a_VersionLines
  b_VersionLines : Binds K A.d_VersionLines ["self"] []
  f_VersionParents : Fun K "parents" "Version.parents" sVersionParents A.a_VersionParents A.d_VersionParents
  h_VersionParents : PropOf K A.k_Version "parents" A.p_VersionParents A.a_VersionParents
  b_VersionParents : Binds K A.d_VersionParents ["self"] []
  f_VersionAuthor : Fun K "author" "Version.author" sVersionAuthor A.a_VersionAuthor A.d_VersionAuthor
  h_VersionAuthor : PropOf K A.k_Version "author" A.p_VersionAuthor A.a_VersionAuthor
  b_VersionAuthor : Binds K A.d_VersionAuthor ["self"] []
  f_VersionLen : Fun K "__len__" "Version.__len__" sVersionLen A.a_VersionLen A.d_VersionLen
  h_VersionLen : Meth K A.k_Version "__len__" A.a_VersionLen
  o_VersionLen : UnF K A.k_Version A.a_VersionLen "__len__"
  b_VersionLen : Binds K A.d_VersionLen ["self"] []
  f_VersionContains : Fun K "__contains__" "Version.__contains__" sVersionContains A.a_VersionContains A.d_VersionContains
  h_VersionContains : Meth K A.k_Version "__contains__" A.a_VersionContains
  o_VersionContains : UnF K A.k_Version A.a_VersionContains "__contains__"
  b_VersionContains : Binds K A.d_VersionContains ["self", "line"] []
  f_VersionGetitem : Fun K "__getitem__" "Version.__getitem__" sVersionGetitem A.a_VersionGetitem A.d_VersionGetitem
  h_VersionGetitem : Meth K A.k_Version "__getitem__" A.a_VersionGetitem
  o_VersionGetitem : UnF K A.k_Version A.a_VersionGetitem "__getitem__"
  fi_VersionGetitem : PySem.W.fnIn K A.a_VersionGetitem = true
  b_VersionGetitem : Binds K A.d_VersionGetitem ["self", "index"] []
  f_VersionEq : Fun K "__eq__" "Version.__eq__" sVersionEq A.a_VersionEq A.d_VersionEq
  h_VersionEq : Meth K A.k_Version "__eq__" A.a_VersionEq
  w_VersionEq : NeF K A.k_Version A.a_VersionEq
  o_VersionEq : CmF K A.k_Version A.a_VersionEq .Eq
  r_VersionEq : CmI K A.k_Version A.a_VersionEq .Eq
  b_VersionEq : Binds K A.d_VersionEq ["self", "other"] []
  f_CanStand : Fun K "can_stand" "can_stand" sCanStand A.a_CanStand A.d_CanStand
  m_CanStand : mg "can_stand" = some (.ref A.a_CanStand)
  b_CanStand : Binds K A.d_CanStand ["value", "number"] []
  f_HistoryInit : FunD K "__init__" "History.__init__" (defArgs sHistoryInit) (defBody sHistoryInit) (defScope sHistoryInit) [.ref A.u0_HistoryInit] [] A.a_HistoryInit A.d_HistoryInit
  ut0_HistoryInit : ∀ H, SqT K H A.u0_HistoryInit []
  uk0_HistoryInit : ∃ o, K.lookup A.u0_HistoryInit = some o ∧ o.cls = .type "tuple"
  e1_HistoryInit : ∃ ds, Vals [.ref A.u0_HistoryInit] ds ∧ Binds K A.d_HistoryInit ["self", "versions"] ds
  h_HistoryInit : Meth K A.k_History "__init__" A.a_HistoryInit
  b_HistoryInit : Binds K A.d_HistoryInit ["self", "versions"] []
  f_HistoryIter : Fun K "__iter__" "History.__iter__" sHistoryIter A.a_HistoryIter A.d_HistoryIter
  h_HistoryIter : Meth K A.k_History "__iter__" A.a_HistoryIter
  o_HistoryIter : UnF K A.k_History A.a_HistoryIter "__iter__"
  b_HistoryIter : Binds K A.d_HistoryIter ["self"] []
  f_HistoryLen : Fun K "__len__" "History.__len__" sHistoryLen A.a_HistoryLen A.d_HistoryLen
  h_HistoryLen : Meth K A.k_History "__len__" A.a_HistoryLen
  o_HistoryLen : UnF K A.k_History A.a_HistoryLen "__len__"
  b_HistoryLen : Binds K A.d_HistoryLen ["self"] []
  f_HistoryContains : Fun K "__contains__" "History.__contains__" sHistoryContains A.a_HistoryContains A.d_HistoryContains
  h_HistoryContains : Meth K A.k_History "__contains__" A.a_HistoryContains
  o_HistoryContains : UnF K A.k_History A.a_HistoryContains "__contains__"
  b_HistoryContains : Binds K A.d_HistoryContains ["self", "number"] []
  f_HistoryEq : Fun K "__eq__" "History.__eq__" sHistoryEq A.a_HistoryEq A.d_HistoryEq
  h_HistoryEq : Meth K A.k_History "__eq__" A.a_HistoryEq
  w_HistoryEq : NeF K A.k_History A.a_HistoryEq
  o_HistoryEq : CmF K A.k_History A.a_HistoryEq .Eq
  r_HistoryEq : CmI K A.k_History A.a_HistoryEq .Eq
  b_HistoryEq : Binds K A.d_HistoryEq ["self", "other"] []
  f_HistoryCheck : Fun K "check" "History.check" sHistoryCheck A.a_HistoryCheck A.d_HistoryCheck
  h_HistoryCheck : Meth K A.k_History "check" A.a_HistoryCheck
  b_HistoryCheck : Binds K A.d_HistoryCheck ["self", "number"] []
  f_HistoryVersion : Fun K "version" "History.version" sHistoryVersion A.a_HistoryVersion A.d_HistoryVersion
  h_HistoryVersion : Meth K A.k_History "version" A.a_HistoryVersion
  b_HistoryVersion : Binds K A.d_HistoryVersion ["self", "number"] []
  f_IsCountWord : Fun K "is_count_word" "is_count_word" sIsCountWord A.a_IsCountWord A.d_IsCountWord
  m_IsCountWord : mg "is_count_word" = some (.ref A.a_IsCountWord)
  b_IsCountWord : Binds K A.d_IsCountWord ["word"] []
  f_CountIn : Fun K "count_in" "count_in" sCountIn A.a_CountIn A.d_CountIn
  m_CountIn : mg "count_in" = some (.ref A.a_CountIn)
  b_CountIn : Binds K A.d_CountIn ["word"] []
  f_FormatParents : Fun K "format_parents" "format_parents" sFormatParents A.a_FormatParents A.d_FormatParents
  m_FormatParents : mg "format_parents" = some (.ref A.a_FormatParents)
  b_FormatParents : Binds K A.d_FormatParents ["parents"] []
  f_FormatHistory : Fun K "format_history" "format_history" sFormatHistory A.a_FormatHistory A.d_FormatHistory
  m_FormatHistory : mg "format_history" = some (.ref A.a_FormatHistory)
  b_FormatHistory : Binds K A.d_FormatHistory ["history"] []
  f_ParentsIn : Fun K "parents_in" "parents_in" sParentsIn A.a_ParentsIn A.d_ParentsIn
  m_ParentsIn : mg "parents_in" = some (.ref A.a_ParentsIn)
  b_ParentsIn : Binds K A.d_ParentsIn ["word", "number"] []
  f_HeadIn : Fun K "head_in" "head_in" sHeadIn A.a_HeadIn A.d_HeadIn
  m_HeadIn : mg "head_in" = some (.ref A.a_HeadIn)
  b_HeadIn : Binds K A.d_HeadIn ["row", "number"] []
  f_ParseHistory : Fun K "parse_history" "parse_history" sParseHistory A.a_ParseHistory A.d_ParseHistory
  m_ParseHistory : mg "parse_history" = some (.ref A.a_ParseHistory)
  b_ParseHistory : Binds K A.d_ParseHistory ["text"] []
  f_LawPool : Fun K "_law_pool" "_law_pool" sLawPool A.a_LawPool A.d_LawPool
  m_LawPool : mg "_law_pool" = some (.ref A.a_LawPool)
  b_LawPool : Binds K A.d_LawPool ["_law_script"] []
  f_LawMixed : Fun K "_law_mixed" "_law_mixed" sLawMixed A.a_LawMixed A.d_LawMixed
  m_LawMixed : mg "_law_mixed" = some (.ref A.a_LawMixed)
  b_LawMixed : Binds K A.d_LawMixed ["_law_number", "_law_count", "_law_many"] []
  f_LawDraw : Fun K "_law_draw" "_law_draw" sLawDraw A.a_LawDraw A.d_LawDraw
  m_LawDraw : mg "_law_draw" = some (.ref A.a_LawDraw)
  b_LawDraw : Binds K A.d_LawDraw ["_law_pool_here", "_law_many"] []
  f_LawMade : Fun K "_law_made" "_law_made" sLawMade A.a_LawMade A.d_LawMade
  m_LawMade : mg "_law_made" = some (.ref A.a_LawMade)
  b_LawMade : Binds K A.d_LawMade ["_law_rows_here"] []
  f_LawText : Fun K "_law_text" "_law_text" sLawText A.a_LawText A.d_LawText
  m_LawText : mg "_law_text" = some (.ref A.a_LawText)
  b_LawText : Binds K A.d_LawText ["_law_rows_here"] []
  f_LawRows : Fun K "_law_rows" "_law_rows" sLawRows A.a_LawRows A.d_LawRows
  m_LawRows : mg "_law_rows" = some (.ref A.a_LawRows)
  b_LawRows : Binds K A.d_LawRows ["_law_pool_here"] []
  f_Law : Fun K "law" "law" sLaw A.a_Law A.d_Law
  m_Law : mg "law" = some (.ref A.a_Law)
  b_Law : Binds K A.d_Law ["_law_script"] []
  z_isinstance : mg "isinstance" = none
  z_str : mg "str" = none
  c_MOST_SIGNS : ∃ t, mg "MOST_SIGNS" = some (.int 40 t)
  z_all : mg "all" = none
  z_len : mg "len" = none
  c_MOST_LINES : ∃ t, mg "MOST_LINES" = some (.int 12 t)
  z_list : mg "list" = none
  z_tuple : mg "tuple" = none
  z_int : mg "int" = none
  z_bool : mg "bool" = none
  c_LONGEST_NAME : ∃ t, mg "LONGEST_NAME" = some (.int 8 t)
  c_SMALL : ∃ t, mg "SMALL" = some (.str "abcdefghijklmnopqrstuvwxyz" t)
  c_MOST_PARENTS : ∃ t, mg "MOST_PARENTS" = some (.int 3 t)
  z_set : mg "set" = none
  z_sorted : mg "sorted" = none
  z_property : mg "property" = none
  z_enumerate : mg "enumerate" = none
  c_MOST_VERSIONS : ∃ t, mg "MOST_VERSIONS" = some (.int 10 t)
  z_iter : mg "iter" = none
  c_MOST_DIGITS : ∃ t, mg "MOST_DIGITS" = some (.int 30 t)
  c_DIGITS : ∃ t, mg "DIGITS" = some (.str "0123456789" t)
  z_zip : mg "zip" = none
  z_range : mg "range" = none
  z_max : mg "max" = none
/-! ## small words over the hand layer (own work) -/
section
variable {X : Cx}
/-- a list's item, a tuple's item, by the tracked object -/
def rIxH : R2 := fun x y H Q => ∃ p xs i v, x = .ref p ∧ y = .int i ∧ H p = some (.lst xs) ∧ atI xs i = some v ∧ Q v H
def rIxU : R2 := fun x y H Q => ∃ p xs i v, x = .ref p ∧ y = .int i ∧ H p = some (.tup xs) ∧ atI xs i = some v ∧ Q v H
theorem ix_lstH : IxR X rIxH := fun value slice pins s σ H x y v u Q I rx ry h hs => by
  obtain ⟨p, xs, i, z, h1, h2, h3, h4, h5⟩ := h
  exact ix_list value slice pins s σ H x y v u Q I rx ry ⟨p, xs, i, z, h1, h2, SqL.of h3, h4, h5⟩ hs
theorem ix_tupH : IxR X rIxU := fun value slice pins s σ H x y v u Q I rx ry h hs => by
  obtain ⟨p, xs, i, z, h1, h2, h3, h4, h5⟩ := h
  exact ix_tup value slice pins s σ H x y v u Q I rx ry ⟨p, xs, i, z, h1, h2, SqT.of h3, h4, h5⟩ hs
def rLenH : List V → Hp → VK → Prop := fun vs H Q => ∃ p ys, vs = [.ref p] ∧ H p = some (.lst ys) ∧ Q (.int ys.length) H
theorem call_lenH : CallR X (.builtin "len") rLenH := fun pins s σ H xs us Q I r h => by
  obtain ⟨p, ys, h1, h2, h3⟩ := h
  exact call_len_seq pins s σ H xs us Q I r ⟨p, ys, h1, Or.inl (SqL.of h2), h3⟩
def rLenU : List V → Hp → VK → Prop := fun vs H Q => ∃ p ys, vs = [.ref p] ∧ H p = some (.tup ys) ∧ Q (.int ys.length) H
theorem call_lenU : CallR X (.builtin "len") rLenU := fun pins s σ H xs us Q I r h => by
  obtain ⟨p, ys, h1, h2, h3⟩ := h
  exact call_len_seq pins s σ H xs us Q I r ⟨p, ys, h1, Or.inr (SqT.of h2), h3⟩
def rLenS : List V → Hp → VK → Prop := fun vs H Q => ∃ z, vs = [.str z] ∧ z.length ≤ sizeLine ∧ Q (.int z.length) H
theorem call_lenS : CallR X (.builtin "len") rLenS := call_len_str
/-- int(i) of an int -/
def rInt1 : List V → Hp → VK → Prop := fun vs H Q => ∃ i, vs = [.int i] ∧ Q (.int i) H
theorem call_intI : CallR X (.type "int") rInt1 := fun pins s σ H xs us Q I r h => call_int1 pins s σ H xs us Q I r (Or.inl h)
end
section
variable {α : Type} {a b c d e f g h : α} {r : List α}
theorem at0 : atI (a :: r) 0 = some a := by
  have q : ixN (a :: r).length 0 = some 0 := by
    unfold ixN
    rw [if_pos (by decide), if_pos (by rw [List.length_cons]; omega)]
    rfl
  unfold atI
  rw [q]
  rfl
theorem atN (n : Nat) {xs : List α} {v : α} (h : xs[n]? = some v) : atI xs (OfNat.ofNat n) = some v := atI_nat h
theorem at1 : atI (a :: b :: r) 1 = some b := atI_nat (j := 1) rfl
theorem at2 : atI (a :: b :: c :: r) 2 = some c := atI_nat (j := 2) rfl
theorem at3 : atI (a :: b :: c :: d :: r) 3 = some d := atI_nat (j := 3) rfl
theorem at4 : atI (a :: b :: c :: d :: e :: r) 4 = some e := atI_nat (j := 4) rfl
theorem at5 : atI (a :: b :: c :: d :: e :: f :: r) 5 = some f := atI_nat (j := 5) rfl
theorem ix51 : ixN 5 1 = some 1 := rfl
theorem ix52 : ixN 5 2 = some 2 := rfl
theorem ix54 : ixN 5 4 = some 4 := rfl
end
theorem scal_int {a b : Int} : scal (.int a) (.int b) = true := rfl
theorem scal_str {a b : Str} : scal (.str a) (.str b) = true := rfl
theorem scal_bl {a b : Bool} : scal (.bl a) (.bl b) = true := rfl
/-! ### loops -/
/-- the turns of a for, of a comprehension, as one word each (never opened by simp) -/
def forGo (J : It) (g : TG) (tb : TS) (D : Ends) (σ : St) (H1 : Hp) : Prop := ∃ W : Nat → Nat → St → Hp → Prop, (∃ m, W 0 m σ H1) ∧ ∀ i m σ H, W i m σ H →
  (J.stop i H ∧ D.nx σ H) ∨ (J.go i H ∧ ∃ N : St → Hp → Prop, (∀ σ' H', N σ' H' → ∃ m', m' < m ∧ W (i + 1) m' σ' H') ∧ ∀ x H', J.yld i H x H' → g x σ H' fun σ2 H2 => tb { D with nx := N, ct := N, bk := D.nx } σ2 H2)
theorem tFor_eq {wi : TI} {g : TG} {tb : TS} {D : Ends} {σ : St} {H : Hp} : tFor wi g tb D σ H = wi σ H fun J H1 => forGo J g tb D σ H1 := rfl
def lcGo (J : It) (g : TG) (tt : TT) (te : TE) (vs : List Nat) (σ : St) (D : Addr) (Q : VK) (H1 : Hp) : Prop := ∃ W : Nat → Nat → Hp → Prop, (∃ m, W 0 m (upd H1 D (.lst []))) ∧ ∀ i m H, W i m H →
  (J.stop i H ∧ Q (.ref D) H) ∨ (J.go i H ∧ ∃ Nx : Hp → Prop, (∀ H', Nx H' → ∃ m', m' < m ∧ W (i + 1) m' H') ∧ ∀ x H', J.yld i H x H' → g x (wipe σ vs) H' fun σ2 H2 => wipe σ2 vs = wipe σ vs ∧ tt σ2 H2 fun b H3 =>
    if b = true then te σ2 H3 fun y H4 => ∃ acc, H4 D = some (.lst acc) ∧ acc.length < sizeLine ∧ Nx (upd H4 D (.lst (acc ++ [y]))) else Nx H3)
theorem tLc_eq {wi : TI} {g : TG} {tt : TT} {te : TE} {vs : List Nat} {σ : St} {H : Hp} {Q : VK} : tLc wi g tt te vs σ H Q = wi σ H fun J H1 => ∀ D, H1 D = none → lcGo J g tt te vs σ D Q H1 := rfl
/-- what a walk gives, as a list -/
def sgn (c : Nat) : V := .str ⟨#[c]⟩
theorem walk_strY {z : Str} : Walk (Its z) (z.cps.toList.map sgn).length (fun _ => True) (YAt (z.cps.toList.map sgn)) := by
  have e : (z.cps.toList.map sgn).length = z.cps.size := by simp
  rw [e]
  refine walk_str.mono (fun _ h => h) fun i H x H' hi _ y => ?_
  obtain ⟨h1, c, h2, h3⟩ := y
  refine ⟨h1, ?_⟩
  rw [List.getElem?_map]
  have q : z.cps.toList[i]? = some c := by simpa using h2
  rw [q, h3]
  rfl
def rngV (lo : Int) (n : Nat) : List V := (List.range n).map fun i => V.int (lo + (i : Nat))
theorem rngV_len {lo : Int} {n : Nat} : (rngV lo n).length = n := by simp [rngV]
theorem walk_rangeY {lo : Int} {n : Nat} : Walk (Itr lo n) (rngV lo n).length (fun _ => True) (YAt (rngV lo n)) := by
  rw [rngV_len]
  refine walk_range.mono (fun _ h => h) fun i H x H' hi _ y => ?_
  obtain ⟨h1, h2⟩ := y
  refine ⟨h1, ?_⟩
  unfold rngV
  rw [List.getElem?_map, List.getElem?_range hi, h2]
  rfl
theorem take_get {α : Type} {l : List α} {i : Nat} {x : α} (h : l[i]? = some x) : l.take (i + 1) = l.take i ++ [x] := by
  rw [List.take_add_one, h]
  rfl
/-- a comprehension whose turns leave all that is tracked: what it chooses, what it gives -/
theorem lc_same {J : It} {xs : List V} {G : Hp → Prop} (w : Walk J xs.length G (YAt xs)) {g : TG} {tt : TT} {te : TE} {vs : List Nat} {σ : St} {D : Addr} {Q : VK} {H1 : Hp} (sel : V → Bool) (val : V → V)
    (hD : H1 D = none) (hG : ∀ H, Same H1 H → G H) (hz : xs.length ≤ 100000)
    (turn : ∀ x, x ∈ xs → ∀ H, Same H1 H → ∀ (R : VK) (R0 : Hp → Prop), (∀ H', Same H H' → sel x = true → R (val x) H') → (∀ H', Same H H' → sel x = false → R0 H') → g x (wipe σ vs) H fun σ2 H2 => wipe σ2 vs = wipe σ vs ∧ tt σ2 H2 fun b H3 => if b = true then te σ2 H3 R else R0 H3)
    (done : ∀ H, Same H1 H → H D = some (.lst ((xs.filter sel).map val)) → Q (.ref D) H) : lcGo J g tt te vs σ D Q H1 := by
  refine lc_it w (fun i H => Same H1 H ∧ H D = some (.lst (((xs.take i).filter sel).map val))) ⟨fun b o e => by rw [upd_ne (ne_of_none e hD)]; exact e, by rw [upd_same]; rfl⟩ (fun i H _ p => hG H p.1) (fun i x H H' hi p y => ?_) (fun H p => ?_)
  · obtain ⟨rfl, hx⟩ := y
    obtain ⟨s1, hacc⟩ := p
    have hm : x ∈ xs := List.mem_of_getElem? hx
    refine turn x hm _ s1 _ _ (fun H2 s2 hs => ?_) (fun H2 s2 hs => ?_)
    · refine ⟨_, s2 _ _ hacc, ?_, fun b o e => ?_, ?_⟩
      · rw [List.length_map]
        have q1 := List.length_filter_le sel (xs.take i)
        rw [List.length_take] at q1
        exact Nat.lt_of_le_of_lt (m := 100000) (by omega) (by decide)
      · rw [upd_ne (ne_of_none e hD)]
        exact s2 _ _ (s1 _ _ e)
      · rw [upd_same, take_get hx, List.filter_append, List.map_append, List.filter_cons, if_pos hs]
        rfl
    · refine ⟨s1.trans s2, ?_⟩
      rw [s2 _ _ hacc, take_get hx, List.filter_append, List.map_append, List.filter_cons, if_neg (by rw [hs]; decide)]
      simp
  · rw [List.take_length] at p
    exact done H p.1 p.2
theorem same_new {H : Hp} {p : Addr} {o : HO} (h : H p = none) : Same H (upd H p o) := fun b x e => by
  rw [upd_ne (ne_of_none e h)]
  exact e
theorem Same.tup {K : PySem.W.Frag} {H H' : Hp} {a : Addr} {xs : List V} (e : Same H H') (h : SqT K H a xs) : SqT K H' a xs := by
  rcases h with (h | ⟨o, h⟩) | h
  · exact .inl (.inl (e _ _ h))
  · exact .inl (.inr ⟨o, e _ _ h⟩)
  · exact .inr h
theorem cxOf_K {CX : CXT} {P : Program} {w : World} {K : PySem.W.Frag} {mg : Str → Option Value} {base : Heap} {N : List Str} {qual : Str} {scope : Scope} {f : Addr} {cd : Value} {A : Around} {outer : List Env} {s : Shared} {H : Hp} {E : XK} :
    (cxOf CX P w K mg base N qual scope f cd A outer s H E).K = K := rfl
theorem cut_to {xs : List V} {n : Nat} : cutV xs none (some (n : Int)) = xs.take n := by
  unfold cutV
  rw [HT.sIx_none, HT.sIx_nat]
  show List.take (min n xs.length - 0) xs = _
  rw [Nat.sub_zero]
  by_cases h : n ≤ xs.length
  · rw [Nat.min_eq_left h]
  · rw [Nat.min_eq_right (by omega), List.take_of_length_le (by omega), List.take_of_length_le (by omega)]
theorem cut_from {xs : List V} {n : Nat} : cutV xs (some (n : Int)) none = xs.drop n := by
  unfold cutV
  rw [HT.sIx_none, HT.sIx_nat]
  by_cases h : n ≤ xs.length
  · rw [Nat.min_eq_left h, List.take_of_length_le (by rw [List.length_drop]; omega)]
  · rw [Nat.min_eq_right (by omega), List.drop_of_length_le (by omega), List.drop_of_length_le (by omega), List.take_nil]
theorem cut_from1 {xs : List V} {n : Nat} : cutV xs (some ((n : Int) + 1)) none = xs.drop (n + 1) := cut_from (n := n + 1)
theorem mem_int {v : V} {ns : List Int} (h : v ∈ ns.map V.int) : ∃ i, v = .int i := by
  obtain ⟨i, _, e⟩ := List.mem_map.mp h
  exact ⟨i, e.symm⟩
/-- a for over what a walk gives -/
theorem for_go {J : It} {xs : List V} {G : Hp → Prop} (w : Walk J xs.length G (YAt xs)) {g : TG} {tb : TS} {D : Ends} {σ : St} {H : Hp} (Pv : Nat → St → Hp → Prop) (h0 : Pv 0 σ H) (hG : ∀ i σ H, i ≤ xs.length → Pv i σ H → G H)
    (hs : ∀ i x σ H, xs[i]? = some x → Pv i σ H → g x σ H fun σ2 H2 => tb { D with nx := Pv (i + 1), ct := Pv (i + 1), bk := D.nx } σ2 H2) (hd : ∀ σ H, Pv xs.length σ H → D.nx σ H) : forGo J g tb D σ H := by
  refine for_it w Pv h0 hG (fun i x σ H H' hi p y => ?_) hd
  obtain ⟨rfl, hx⟩ := y
  exact hs i x σ _ hx p
theorem new_facts {H H1 : Hp} {p : Addr} {o : HO} (hp : H p = none) (hG : upd H p o = H1) : Same H H1 ∧ H1 p = some o := by
  subst hG
  exact ⟨same_new hp, upd_same⟩

/-! ## the pool of draws -/
def spLawMixed : Sp := fun vs H Q _ => ∃ (n c m : Int), vs = [.int n, .int c, .int m] ∧ 0 ≤ n ∧ n < 4294967296 ∧ 0 ≤ c ∧ c ≤ 100000000 ∧ 0 < m ∧ ∀ v, 0 ≤ v → v < m → Q (.int v) H
theorem pow_ok {n c : Int} (h0 : 0 ≤ n) (h1 : n < 4294967296) (h2 : 0 ≤ c) (h3 : c ≤ 100000000) : (n + 7919 * c).natAbs < 2 ^ 64 := by
  have : (2 : Nat) ^ 64 = 18446744073709551616 := by decide
  omega
theorem nat_lt_of {c : Int} {a m : Nat} (h0 : 0 ≤ c) (h : c < (m : Int)) (hm : m ≤ 2 ^ a) : c.natAbs < 2 ^ a := Nat.lt_of_lt_of_le (by omega) hm
section
variable {P : Program} {w : World} {K : PySem.W.Frag} {mg : Str → Option Value} {base : Heap} {A : Adr}
theorem ok_mixed (T : Txt K mg A) : FnOk P w K mg base CX0 1 A.a_LawMixed A.d_LawMixed ["_law_number", "_law_count", "_law_many"] spLawMixed := by
  refine T.f_LawMixed.ok scLawMixed (fun vs H Q E h => ?_) (fun cdv A' outer s H vs Q E hr h => ?_)
  · obtain ⟨n, c, m, rfl, _⟩ := h
    rfl
  · obtain ⟨n, c, m, rfl, h0, h1, h2, h3, h4, k⟩ := h
    refine ⟨_, (pss_one (ps_ret (pe_op op_mod (pe_op op_fdivW (pe_callTy call_intI (by rfl) T.z_int (by decide +kernel) (pa_cons (pe_op op_mod (pe_op op_pow (pe_callTy call_intI (by rfl) T.z_int (by decide +kernel) (pa_cons (pe_op op_add (pv 0) (pe_op op_mulW pe_int (pv 1))) pa_nil)) pe_int) pe_int) pa_nil)) pe_int) (pv 2)))), ?_⟩
    simp only [tSeq, tNext, tRet, tRetN, tAsg, gName, gSub, tDrop, tIfS, tOp, tUn, tCB, tCons, tNil, tC, tVar, rI, rI0, rU, tAnd, tOr, tNot, tAndV, tOrV, tNotV, tIf, tTest, tB, tCall, tChain, tLst, tTup, tYes, rIxH, rIxU, rLenH, rLenU, rLenS, rInt1, rSetL, rEq, rNe, rCat, L2.start, List.map, List.length, List.length_cons, List.length_nil, List.replicate, List.getElem?_cons_zero, List.getElem?_cons_succ, List.set_cons_zero, List.set_cons_succ, List.set_nil, List.cons_append, List.nil_append, List.append_nil, Option.some.injEq, V.int.injEq, V.ref.injEq, V.str.injEq, V.bl.injEq, HO.lst.injEq, HO.tup.injEq, exists_eq_left', exists_and_left, exists_eq_left, List.cons.injEq, and_true, true_and, and_false, false_and, and_self, reduceCtorEq, exists_false, or_false, false_or, exists_const, at0, at1, at2, at3, at4, at5, ix51, ix52, ix54, upd_same, Nat.reduceAdd, Nat.reduceSub, Nat.zero_add, Int.reduceToNat, Int.reduceLE, Int.reduceLT, decide_eq_true_eq, Bool.not_eq_true, if_true, if_false, Bool.false_eq_true, ite_true, ite_false, Bool.not_true, Bool.not_false, decide_true, decide_false, tFor_eq, tLc_eq, iList, iTup, iRng1, iRng2, iStr, tSl, tPart, tNoPart, rSlL, cxOf_K, wipe]
    refine ⟨wide_mul (a := 13) (b := 27) (by decide) (nat_lt_of (m := 134217728) h2 (by omega) (by decide)) (by decide) (by decide) (by decide), ⟨by decide, by decide, pow_ok h0 h1 h2 h3⟩, wide_div (b := 5) (by decide) (by decide) (by decide) (by decide), h4, k _ (Int.emod_nonneg _ (by omega)) (Int.emod_lt_of_pos _ h4)⟩
/-- the pool's list stands at p, its numbers at l; at most c draws so far -/
def PoolAt (p l : Addr) (c : Nat) (H : Hp) : Prop := ∃ (ns : List Int) (t n z y : Int), H p = some (.lst [.ref l, .int t, .int n, .int z, .int y]) ∧ H l = some (.lst (ns.map V.int)) ∧ 0 ≤ t ∧ ns.length ≤ 63 ∧ 0 ≤ n ∧ n ≤ (c : Int) ∧ 0 ≤ z ∧ z < 2147483647
/-- all but the pool's two lists is as it was -/
def Off (p l : Addr) (H H' : Hp) : Prop := ∀ b, b ≠ p → b ≠ l → H' b = H b
def spLawDraw : Sp := fun vs H Q _ => ∃ (p l : Addr) (m : Int) (c : Nat), vs = [.ref p, .int m] ∧ 0 < m ∧ m < 1000000000000000000000000000000000000000 ∧ PoolAt p l c H ∧ c ≤ 90000000 ∧ ∀ v H', 0 ≤ v → v < m → PoolAt p l (c + 1) H' → Off p l H H' → Q (.int v) H'
theorem ok_draw (T : Txt K mg A) (gLawMixed : FnOk P w K mg base CX0 1 A.a_LawMixed A.d_LawMixed ["_law_number", "_law_count", "_law_many"] spLawMixed) : FnOk P w K mg base CX0 2 A.a_LawDraw A.d_LawDraw ["_law_pool_here", "_law_many"] spLawDraw := by
  refine T.f_LawDraw.ok scLawDraw (fun vs H Q E h => ?_) (fun cdv A' outer s H vs Q E hr h => ?_)
  · obtain ⟨p, l, m, c, rfl, _⟩ := h
    rfl
  · obtain ⟨p, l, m, c, rfl, m0, m1, ⟨ns, t, n, z, y, hp, hl, t0, nl, n0, n1, z0, z1⟩, c1, k⟩ := h
    have npl : p ≠ l := ne_of hp hl (by intro q; cases ns with | nil => cases q | cons _ _ => cases q)
    have e1 : ∀ (G : Hp) (o : HO), upd G p o l = G l := fun G o => upd_ne npl.symm
    have e2 : ∀ (G : Hp) (o : HO), upd G l o p = G p := fun G o => upd_ne npl
    have hm : CDivW 0 m := wide_div (b := 130) m0 (nat_lt_of (m := 1000000000000000000000000000000000000000) (by omega) (by omega) (by decide)) (by decide) (by decide)
    refine ⟨_, (pss_cons (ps_asg (pe_op op_add (pe_ix ix_lstH (pv 0) pe_int (fun _ _ => rfl)) pe_int) (pg_sub (pv 0) pe_int set_list))
      (pss_cons (ps_if (pt_cmpR (op_ge) (pe_ix ix_lstH (pv 0) pe_int (fun _ _ => rfl)) (pe_callB call_lenH (by rfl) T.z_len (by decide +kernel) (pa_cons (pe_ix ix_lstH (pv 0) pe_int (fun _ _ => rfl)) pa_nil)) (nomark _)) (pss_one (ps_ret (pe_call gLawMixed (hr.mono (by decide)) (by rfl) T.m_LawMixed T.f_LawMixed.kp T.b_LawMixed .nil pass0 (pa_cons (pe_ix ix_lstH (pv 0) pe_int (fun _ _ => rfl)) (pa_cons (pe_ix ix_lstH (pv 0) pe_int (fun _ _ => rfl)) (pa_cons (pv 1) pa_nil)))))) pss_nil)
      (pss_cons (ps_set (i := 2) scLawDraw.nd rfl (Or.inl rfl) (pe_ix ix_lstH (pv 0) pe_int (fun _ _ => rfl)))
      (pss_cons (ps_set (i := 3) scLawDraw.nd rfl (Or.inl rfl) (pe_ix ix_lstH (pv 0) pe_int (fun _ _ => rfl)))
      (pss_cons (ps_set (i := 4) scLawDraw.nd rfl (Or.inl rfl) (pe_ix ix_lstH (pv 3) (pv 2) (fun _ _ => rfl)))
      (pss_cons (ps_if (PW.pt (pw_and (pt_cmpR (op_ne) (pe_ix ix_lstH (pv 0) pe_int (fun _ _ => rfl)) pe_int (nomark _)) (pw_and1 (pt_cmpR (op_lt) (pv 4) (pe_op op_pow pe_int pe_int) (nomark _))))) (pss_cons (ps_asg (pe_op op_add (pe_ix ix_lstH (pv 0) pe_int (fun _ _ => rfl)) pe_int) (pg_sub (pv 0) pe_int set_list))
      (pss_cons (ps_if (pt_cmpR (op_eq) (pe_ix ix_lstH (pv 0) pe_int (fun _ _ => rfl)) pe_int (nomark _)) (pss_cons (ps_asg (pe_op op_add (pv 2) pe_int) (pg_sub (pv 0) pe_int set_list))
      (pss_one (ps_asg pe_int (pg_sub (pv 0) pe_int set_list)))) pss_nil)
      (pss_one (ps_ret (pe_call gLawMixed (hr.mono (by decide)) (by rfl) T.m_LawMixed T.f_LawMixed.kp T.b_LawMixed .nil pass0 (pa_cons (pe_op op_mod (pe_callTy call_intI (by rfl) T.z_int (by decide +kernel) (pa_cons (pv 4) pa_nil)) pe_int) (pa_cons (pe_ix ix_lstH (pv 0) pe_int (fun _ _ => rfl)) (pa_cons (pv 1) pa_nil)))))))) pss_nil)
      (pss_cons (ps_asg pe_int (pg_sub (pv 0) pe_int set_list))
      (pss_cons (ps_asg (pe_op op_fdivW (pe_callTy call_intI (by rfl) T.z_int (by decide +kernel) (pa_cons (pv 4) pa_nil)) (pv 1)) (pg_sub (pv 3) (pv 2) set_list))
      (pss_cons (ps_if (pt_cmpR (op_eq) (pe_ix ix_lstH (pv 3) (pv 2) (fun _ _ => rfl)) pe_int (nomark _)) (pss_cons (ps_asg (pe_op op_add (pv 2) pe_int) (pg_sub (pv 0) pe_int set_list))
      (pss_one (ps_asg pe_int (pg_sub (pv 0) pe_int set_list)))) pss_nil)
      (pss_one (ps_ret (pe_op op_mod (pe_callTy call_intI (by rfl) T.z_int (by decide +kernel) (pa_cons (pv 4) pa_nil)) (pv 1))))))))))))), ?_⟩
    have p10 : CPow 10 18 := ⟨by decide, by decide, by decide⟩
    have off : ∀ o o', Off p l H (upd (upd H p o) l o') := fun o o' b hb hb' => by rw [upd_ne hb', upd_ne hb]
    have off2 : ∀ o o', Off p l H (upd (upd H l o) p o') := fun o o' b hb hb' => by rw [upd_ne hb, upd_ne hb']
    have off1 : ∀ o, Off p l H (upd H p o) := fun o b hb hb' => by rw [upd_ne hb]
    have pool : ∀ (t' y' : Int), 0 ≤ t' → PoolAt p l (c + 1) (upd H p (.lst [.ref l, .int t', .int (n + 1), .int z, .int y'])) := fun t' y' h => ⟨ns, t', n + 1, z, y', upd_same, by rw [e1]; exact hl, h, nl, by omega, by omega, z0, z1⟩
    by_cases ht : t < (ns.length : Int)
    · have q : t = ((t.toNat : Nat) : Int) := (Int.toNat_of_nonneg t0).symm
      have q2 : t.toNat < ns.length := by omega
      have ha : atI (ns.map V.int) t = some (.int ns[t.toNat]) := at_of q (by rw [List.getElem?_map, List.getElem?_eq_getElem q2]; rfl)
      have hix : ixN ns.length t = some t.toNat := by
        unfold ixN
        rw [if_pos t0, if_pos ht]
      have hnt : ¬ ((ns.length : Int) ≤ t) := by omega
      have hset : ∀ v, (ns.map V.int).set t.toNat (.int v) = (ns.set t.toNat v).map V.int := fun v => by rw [List.map_set]
      have ha2 : ∀ v, atI ((ns.set t.toNat v).map V.int) t = some (.int v) := fun v => at_of q (by rw [List.getElem?_map, List.getElem?_set_self q2]; rfl)
      generalize ns[t.toNat] = v at ha
      simp only [tSeq, tNext, tRet, tRetN, tAsg, gName, gSub, tDrop, tIfS, tOp, tUn, tCB, tCons, tNil, tC, tVar, rI, rI0, rU, tAnd, tOr, tNot, tAndV, tOrV, tNotV, tIf, tTest, tB, tCall, tChain, tLst, tTup, tYes, rIxH, rIxU, rLenH, rLenU, rLenS, rInt1, rSetL, rEq, rNe, rCat, L2.start, List.map, List.length, List.length_cons, List.length_nil, List.replicate, List.getElem?_cons_zero, List.getElem?_cons_succ, List.set_cons_zero, List.set_cons_succ, List.set_nil, List.cons_append, List.nil_append, List.append_nil, Option.some.injEq, V.int.injEq, V.ref.injEq, V.str.injEq, V.bl.injEq, HO.lst.injEq, HO.tup.injEq, exists_eq_left', exists_and_left, exists_eq_left, List.cons.injEq, and_true, true_and, and_false, false_and, and_self, reduceCtorEq, exists_false, or_false, false_or, exists_const, at0, at1, at2, at3, at4, at5, ix51, ix52, ix54, upd_same, Nat.reduceAdd, Nat.reduceSub, Nat.zero_add, Int.reduceToNat, Int.reduceLE, Int.reduceLT, decide_eq_true_eq, Bool.not_eq_true, if_true, if_false, Bool.false_eq_true, ite_true, ite_false, Bool.not_true, Bool.not_false, decide_true, decide_false, tFor_eq, tLc_eq, iList, iTup, iRng1, iRng2, iStr, tSl, tPart, tNoPart, rSlL, cxOf_K, wipe, hp, hl, e1, e2, upd_upd, ha, hix, hnt, hset, ha2, scal_int, p10, List.length_map]
      have hv0 : 0 ≤ v % 2147483647 := Int.emod_nonneg _ (by decide)
      have hv1 : v % 2147483647 < 2147483647 := Int.emod_lt_of_pos _ (by decide)
      have r0 : 0 ≤ v % m := Int.emod_nonneg _ (by omega)
      have r1 : v % m < m := Int.emod_lt_of_pos _ m0
      have hd : CDivW v m := hm
      have mk : ∀ (t' y' : Int), 0 ≤ t' → spLawMixed [.int (v % 2147483647), .int (n + 1), .int m] (upd H p (.lst [.ref l, .int t', .int (n + 1), .int z, .int y'])) Q E0 := fun t' y' h =>
        ⟨_, _, _, rfl, hv0, by omega, by omega, by omega, m0, fun u u0 u1 => k u _ u0 u1 (pool t' y' h) (off1 _)⟩
      have hB : ∀ (ms : List Int), ms.length = ns.length → ∀ o, PoolAt p l (c + 1) (upd (upd (upd H p o) l (.lst (ms.map V.int))) p (.lst [.ref l, .int (t + 1), .int (n + 1), .int z, .int 0])) := fun ms hms o =>
        ⟨ms, t + 1, n + 1, z, 0, upd_same, by rw [e1, upd_same], by omega, by omega, by omega, by omega, z0, z1⟩
      have hC : ∀ (ms : List Int), ms.length = ns.length → PoolAt p l (c + 1) (upd (upd H p (.lst [.ref l, .int t, .int (n + 1), .int z, .int 2])) l (.lst (ms.map V.int))) := fun ms hms =>
        ⟨ms, t, n + 1, z, 2, by rw [e2, upd_same], upd_same, t0, by omega, by omega, by omega, z0, z1⟩
      have off3 : ∀ o o' o'', Off p l H (upd (upd (upd H p o) l o') p o'') := fun o o' o'' b hb hb' => by rw [upd_ne hb, upd_ne hb', upd_ne hb]
      have fin : CDivW v m ∧ if v / m = 0 then 0 < m ∧ Q (V.int (v % m)) (upd (upd (upd H p (HO.lst [V.ref l, V.int t, V.int (n + 1), V.int z, V.int 2])) l (HO.lst (List.map V.int (ns.set t.toNat (v / m))))) p (HO.lst [V.ref l, V.int (t + 1), V.int (n + 1), V.int z, V.int 0]))
          else 0 < m ∧ Q (V.int (v % m)) (upd (upd H p (HO.lst [V.ref l, V.int t, V.int (n + 1), V.int z, V.int 2])) l (HO.lst (List.map V.int (ns.set t.toNat (v / m))))) := by
        refine ⟨hd, ite2 (fun _ => ⟨m0, k _ _ r0 r1 (hB _ (by rw [List.length_set]) _) (off3 _ _ _)⟩) (fun _ => ⟨m0, k _ _ r0 r1 (hC _ (by rw [List.length_set])) (off _ _)⟩)⟩
      refine ite2 (fun _ => ?_) (fun _ => fin)
      refine ite2 (fun _ => ?_) (fun _ => fin)
      exact ite2 (fun _ => mk (t + 1) 0 (by omega)) (fun _ => mk t (y + 1) t0)
    · have hnt : (ns.length : Int) ≤ t := by omega
      simp only [tSeq, tNext, tRet, tRetN, tAsg, gName, gSub, tDrop, tIfS, tOp, tUn, tCB, tCons, tNil, tC, tVar, rI, rI0, rU, tAnd, tOr, tNot, tAndV, tOrV, tNotV, tIf, tTest, tB, tCall, tChain, tLst, tTup, tYes, rIxH, rIxU, rLenH, rLenU, rLenS, rInt1, rSetL, rEq, rNe, rCat, L2.start, List.map, List.length, List.length_cons, List.length_nil, List.replicate, List.getElem?_cons_zero, List.getElem?_cons_succ, List.set_cons_zero, List.set_cons_succ, List.set_nil, List.cons_append, List.nil_append, List.append_nil, Option.some.injEq, V.int.injEq, V.ref.injEq, V.str.injEq, V.bl.injEq, HO.lst.injEq, HO.tup.injEq, exists_eq_left', exists_and_left, exists_eq_left, List.cons.injEq, and_true, true_and, and_false, false_and, and_self, reduceCtorEq, exists_false, or_false, false_or, exists_const, at0, at1, at2, at3, at4, at5, ix51, ix52, ix54, upd_same, Nat.reduceAdd, Nat.reduceSub, Nat.zero_add, Int.reduceToNat, Int.reduceLE, Int.reduceLT, decide_eq_true_eq, Bool.not_eq_true, if_true, if_false, Bool.false_eq_true, ite_true, ite_false, Bool.not_true, Bool.not_false, decide_true, decide_false, tFor_eq, tLc_eq, iList, iTup, iRng1, iRng2, iStr, tSl, tPart, tNoPart, rSlL, cxOf_K, wipe, hp, hl, e1, e2, upd_upd, hnt, List.length_map]
      exact ⟨_, _, _, rfl, z0, by omega, by omega, by omega, m0, fun u u0 u1 => k u _ u0 u1 (pool t y t0) (off1 _)⟩
def spLawPool (K : PySem.W.Frag) : Sp := fun vs H Q _ => ∃ (a : Addr) (ns : List Int), vs = [.ref a] ∧ SqL K H a (ns.map V.int) ∧ ns.length ≤ 63 ∧ ∀ p l H', PoolAt p l 0 H' → H p = none → H l = none → Same H H' → Q (.ref p) H'
theorem ok_pool (T : Txt K mg A) : FnOk P w K mg base CX0 1 A.a_LawPool A.d_LawPool ["_law_script"] (spLawPool K) := by
  refine T.f_LawPool.ok scLawPool (fun vs H Q E h => ?_) (fun cdv A' outer s H vs Q E hr h => ?_)
  · obtain ⟨a, ns, rfl, _⟩ := h
    rfl
  · obtain ⟨a, ns, rfl, hS, nl, k⟩ := h
    refine ⟨_, (pss_cons (ps_setLc (i := 1) (own := [("_law_cell", 3)]) (g := gName 3) (tt := tYes) (by rfl) scLawPool.nd rfl rfl (sw_true rfl rfl rfl (by decide +kernel)) (pi_list (pe_slice sl_list (pv 0) po_none (po_some pe_int))) (blkOk_by (own := [("_law_cell", 3)]) (N := nLawPool) (sc := defScope sLawPool) (by decide +kernel)) (fun _ _ _ _ _ => pg_name (i := 3) scLawPool.nd rfl (Or.inl rfl)) (fun _ _ _ _ _ => pts_nil) (fun _ _ _ _ _ => (pe_callTy call_intI (by rfl) T.z_int (by decide +kernel) (pa_cons (pv 3) pa_nil))))
      (pss_cons (ps_set (i := 2) scLawPool.nd rfl (Or.inl rfl) pe_int)
      (pss_cons (ps_for PassesOwn.never rfl (pi_list (pv 1)) (pg_name (i := 3) scLawPool.nd rfl (Or.inl rfl)) (pss_one (ps_set (i := 2) scLawPool.nd rfl (Or.inl rfl) (pe_op op_mod (pe_callTy call_intI (by rfl) T.z_int (by decide +kernel) (pa_cons (pe_op op_add (pe_op op_mulW (pv 2) pe_int) (pv 3)) pa_nil)) pe_int))))
      (pss_one (ps_ret (pe_lst (pa_cons (pv 1) (pa_cons pe_int (pa_cons pe_int (pa_cons (pv 2) (pa_cons pe_int pa_nil))))))))))), ?_⟩
    simp only [tSeq, tNext, tRet, tRetN, tAsg, gName, gSub, tDrop, tIfS, tOp, tUn, tCB, tCons, tNil, tC, tVar, rI, rI0, rU, tAnd, tOr, tNot, tAndV, tOrV, tNotV, tIf, tTest, tB, tCall, tChain, tLst, tTup, tYes, rIxH, rIxU, rLenH, rLenU, rLenS, rInt1, rSetL, rEq, rNe, rCat, L2.start, List.map, List.length, List.length_cons, List.length_nil, List.replicate, List.getElem?_cons_zero, List.getElem?_cons_succ, List.set_cons_zero, List.set_cons_succ, List.set_nil, List.cons_append, List.nil_append, List.append_nil, Option.some.injEq, V.int.injEq, V.ref.injEq, V.str.injEq, V.bl.injEq, HO.lst.injEq, HO.tup.injEq, exists_eq_left', exists_and_left, exists_eq_left, List.cons.injEq, and_true, true_and, and_false, false_and, and_self, reduceCtorEq, exists_false, or_false, false_or, exists_const, at0, at1, at2, at3, at4, at5, ix51, ix52, ix54, upd_same, Nat.reduceAdd, Nat.reduceSub, Nat.zero_add, Int.reduceToNat, Int.reduceLE, Int.reduceLT, decide_eq_true_eq, Bool.not_eq_true, if_true, if_false, Bool.false_eq_true, ite_true, ite_false, Bool.not_true, Bool.not_false, decide_true, decide_false, tFor_eq, tLc_eq, iList, iTup, iRng1, iRng2, iStr, tSl, tPart, tNoPart, rSlL, cxOf_K, wipe]
    refine ⟨_, hS, fun p hp => ⟨⟨_, SqL.of upd_same⟩, fun D hD => ?_⟩⟩
    have hc : cutV (ns.map V.int) none (some 63) = ns.map V.int := by
      rw [show (63 : Int) = ((63 : Nat) : Int) from rfl, cut_to, List.take_of_length_le (by rw [List.length_map]; exact nl)]
    rw [hc] at hD ⊢
    have hDn : H D = none := (same_new hp).free hD
    refine lc_same (walk_list (K := K) (xs := ns.map V.int)) (fun _ => true) id hD (fun H2 s2 => s2.seq (SqL.of upd_same)) (by rw [List.length_map]; omega) (fun x hx H2 s2 R R0 h1 _ => ?_) (fun H2 s2 h2 => ?_)
    · obtain ⟨i, rfl⟩ := mem_int hx
      simp only [tSeq, tNext, tRet, tRetN, tAsg, gName, gSub, tDrop, tIfS, tOp, tUn, tCB, tCons, tNil, tC, tVar, rI, rI0, rU, tAnd, tOr, tNot, tAndV, tOrV, tNotV, tIf, tTest, tB, tCall, tChain, tLst, tTup, tYes, rIxH, rIxU, rLenH, rLenU, rLenS, rInt1, rSetL, rEq, rNe, rCat, L2.start, List.map, List.length, List.length_cons, List.length_nil, List.replicate, List.getElem?_cons_zero, List.getElem?_cons_succ, List.set_cons_zero, List.set_cons_succ, List.set_nil, List.cons_append, List.nil_append, List.append_nil, Option.some.injEq, V.int.injEq, V.ref.injEq, V.str.injEq, V.bl.injEq, HO.lst.injEq, HO.tup.injEq, exists_eq_left', exists_and_left, exists_eq_left, List.cons.injEq, and_true, true_and, and_false, false_and, and_self, reduceCtorEq, exists_false, or_false, false_or, exists_const, at0, at1, at2, at3, at4, at5, ix51, ix52, ix54, upd_same, Nat.reduceAdd, Nat.reduceSub, Nat.zero_add, Int.reduceToNat, Int.reduceLE, Int.reduceLT, decide_eq_true_eq, Bool.not_eq_true, if_true, if_false, Bool.false_eq_true, ite_true, ite_false, Bool.not_true, Bool.not_false, decide_true, decide_false, tFor_eq, tLc_eq, iList, iTup, iRng1, iRng2, iStr, tSl, tPart, tNoPart, rSlL, cxOf_K, wipe]
      exact h1 H2 (Same.refl _) rfl
    · have h2 : H2 D = some (.lst (ns.map V.int)) := by
        rw [h2, List.map_id, List.filter_eq_self.mpr fun _ _ => rfl]
      have sm : Same H H2 := (same_new hp).trans s2
      refine ⟨D, rfl, ⟨_, SqL.of h2⟩, for_go (walk_list (K := K) (xs := ns.map V.int)) (fun i σ H' => H' = H2 ∧ ∃ (z : Int) (v : Option V), σ = [some (.ref a), some (.ref D), some (.int z), v] ∧ 0 ≤ z ∧ z < 2147483647) ⟨rfl, 11, _, rfl, by decide, by decide⟩ (fun i σ H' _ q => by rw [q.1]; exact SqL.of h2) (fun i x σ H' hx q => ?_) (fun σ H' q => ?_)⟩
      · obtain ⟨rfl, z, v, rfl, z0, z1⟩ := q
        obtain ⟨u, rfl⟩ := mem_int (List.mem_of_getElem? hx)
        simp only [tSeq, tNext, tRet, tRetN, tAsg, gName, gSub, tDrop, tIfS, tOp, tUn, tCB, tCons, tNil, tC, tVar, rI, rI0, rU, tAnd, tOr, tNot, tAndV, tOrV, tNotV, tIf, tTest, tB, tCall, tChain, tLst, tTup, tYes, rIxH, rIxU, rLenH, rLenU, rLenS, rInt1, rSetL, rEq, rNe, rCat, L2.start, List.map, List.length, List.length_cons, List.length_nil, List.replicate, List.getElem?_cons_zero, List.getElem?_cons_succ, List.set_cons_zero, List.set_cons_succ, List.set_nil, List.cons_append, List.nil_append, List.append_nil, Option.some.injEq, V.int.injEq, V.ref.injEq, V.str.injEq, V.bl.injEq, HO.lst.injEq, HO.tup.injEq, exists_eq_left', exists_and_left, exists_eq_left, List.cons.injEq, and_true, true_and, and_false, false_and, and_self, reduceCtorEq, exists_false, or_false, false_or, exists_const, at0, at1, at2, at3, at4, at5, ix51, ix52, ix54, upd_same, Nat.reduceAdd, Nat.reduceSub, Nat.zero_add, Int.reduceToNat, Int.reduceLE, Int.reduceLT, decide_eq_true_eq, Bool.not_eq_true, if_true, if_false, Bool.false_eq_true, ite_true, ite_false, Bool.not_true, Bool.not_false, decide_true, decide_false, tFor_eq, tLc_eq, iList, iTup, iRng1, iRng2, iStr, tSl, tPart, tNoPart, rSlL, cxOf_K, wipe]
        exact ⟨wide_mul (a := 31) (b := 16) (nat_lt_of (m := 2147483648) z0 (by omega) (by decide)) (by decide) (by decide) (by decide) (by decide), _, _, ⟨rfl, rfl⟩, Int.emod_nonneg _ (by decide), Int.emod_lt_of_pos _ (by decide)⟩
      · obtain ⟨rfl, z, v, rfl, z0, z1⟩ := q
        simp only [tSeq, tNext, tRet, tRetN, tAsg, gName, gSub, tDrop, tIfS, tOp, tUn, tCB, tCons, tNil, tC, tVar, rI, rI0, rU, tAnd, tOr, tNot, tAndV, tOrV, tNotV, tIf, tTest, tB, tCall, tChain, tLst, tTup, tYes, rIxH, rIxU, rLenH, rLenU, rLenS, rInt1, rSetL, rEq, rNe, rCat, L2.start, List.map, List.length, List.length_cons, List.length_nil, List.replicate, List.getElem?_cons_zero, List.getElem?_cons_succ, List.set_cons_zero, List.set_cons_succ, List.set_nil, List.cons_append, List.nil_append, List.append_nil, Option.some.injEq, V.int.injEq, V.ref.injEq, V.str.injEq, V.bl.injEq, HO.lst.injEq, HO.tup.injEq, exists_eq_left', exists_and_left, exists_eq_left, List.cons.injEq, and_true, true_and, and_false, false_and, and_self, reduceCtorEq, exists_false, or_false, false_or, exists_const, at0, at1, at2, at3, at4, at5, ix51, ix52, ix54, upd_same, Nat.reduceAdd, Nat.reduceSub, Nat.zero_add, Int.reduceToNat, Int.reduceLE, Int.reduceLT, decide_eq_true_eq, Bool.not_eq_true, if_true, if_false, Bool.false_eq_true, ite_true, ite_false, Bool.not_true, Bool.not_false, decide_true, decide_false, tFor_eq, tLc_eq, iList, iTup, iRng1, iRng2, iStr, tSl, tPart, tNoPart, rSlL, cxOf_K, wipe]
        refine ⟨by decide, fun q hq => ?_⟩
        have nq : D ≠ q := ne_of_none h2 hq
        exact k q D _ ⟨ns, 0, 0, z, 0, upd_same, by rw [upd_ne nq]; exact h2, by omega, nl, by omega, by omega, z0, z1⟩ (sm.free hq) hDn (sm.trans (same_new hq))
end



/-! ### kinds of things -/
def kdO : Option HO → String
  | some (.lst _) => "list"
  | some (.tup _) => "tuple"
  | some (.dK _) => "dict"
  | _ => "?"
def kd (H : Hp) : V → String
  | .non => "NoneType"
  | .bl _ => "bool"
  | .int _ => "int"
  | .str _ => "str"
  | .ref a => kdO (H a)
  | _ => "?"
theorem kd_non {H : Hp} : kd H .non = "NoneType" := rfl
theorem kd_bl {H : Hp} {b : Bool} : kd H (.bl b) = "bool" := rfl
theorem kd_int {H : Hp} {i : Int} : kd H (.int i) = "int" := rfl
theorem kd_str {H : Hp} {z : Str} : kd H (.str z) = "str" := rfl
theorem kd_ref {H : Hp} {a : Addr} : kd H (.ref a) = kdO (H a) := rfl
theorem kdO_lst {xs : List V} : kdO (some (.lst xs)) = "list" := rfl
theorem kdO_tup {xs : List V} : kdO (some (.tup xs)) = "tuple" := rfl
theorem kdO_dK {kvs : List (Key × V)} : kdO (some (.dK kvs)) = "dict" := rfl
theorem nq_n : "NoneType" ≠ "?" := by decide
theorem nq_b : "bool" ≠ "?" := by decide
theorem nq_i : "int" ≠ "?" := by decide
theorem nq_s : "str" ≠ "?" := by decide
theorem nq_l : "list" ≠ "?" := by decide
theorem nq_t : "tuple" ≠ "?" := by decide
theorem nq_d : "dict" ≠ "?" := by decide
theorem kd_ty {K : PySem.W.Frag} {H : Hp} {v : V} (h : kd H v ≠ "?") : TyX K H v (.type (kd H v)) := by
  cases v with
  | non => exact .base .non
  | bl b => exact .base (.bl b)
  | int i => exact .base (.int i)
  | str z => exact .base (.str z)
  | byt b => exact absurd rfl h
  | flt b => exact absurd rfl h
  | ty n => exact absurd rfl h
  | ref a =>
    have h : kdO (H a) ≠ "?" := h
    show TyX K H (.ref a) (.type (kdO (H a)))
    cases e : H a with
    | none => rw [e] at h; exact absurd rfl h
    | some o =>
      rw [e] at h
      cases o with
      | lst xs => exact .base (.lst e)
      | tup xs => exact .base (.tup e)
      | dK kvs => exact .base (.dK e)
      | _ => exact absurd rfl h
def kitAnyB (t : String) : List String → Option Bool
  | [] => some false
  | c :: r => match kitB t c with
    | some true => some true
    | some false => kitAnyB t r
    | none => none
theorem kitAnyB_ok {K : PySem.W.Frag} {t : String} : ∀ {cs : List String} {b : Bool}, kitAnyB t cs = some b → PySem.W.kitAny K (.type t) (cs.map Value.type) = some b
  | [], b, h => h
  | c :: r, b, h => by
    unfold kitAnyB at h
    show PySem.W.kitAny K (.type t) (Value.type c :: r.map Value.type) = some b
    unfold PySem.W.kitAny
    cases e : kitB t c with
    | none => rw [e] at h; cases h
    | some d =>
      rw [kit_ty e]
      rw [e] at h
      cases d with
      | true => exact h
      | false => exact kitAnyB_ok h
theorem clsV_all : ∀ (cs : List String), Paired ClsV (cs.map V.ty) (cs.map Value.type)
  | [] => .nil
  | c :: r => .cons (.ty c) (clsV_all r)
section
variable {X : Cx}
/-- isinstance(x, T), T a built-in class; a tuple of such -/
def rIsB : List V → Hp → VK → Prop := fun vs H Q => ∃ x T b, vs = [x, .ty T] ∧ kd H x ≠ "?" ∧ kitB (kd H x) T = some b ∧ Q (.bl b) H
theorem call_isB : CallR X (.builtin "isinstance") rIsB := fun pins s σ H xs us Q I r h => by
  obtain ⟨x, T, b, h1, h2, h3, h4⟩ := h
  exact call_isi pins s σ H xs us Q I r ⟨x, .ty T, _, _, b, h1, .ty T, kd_ty h2, kit_ty h3, h4⟩
def rIsBT : List V → Hp → VK → Prop := fun vs H Q => ∃ x p ts cs b, vs = [x, .ref p] ∧ H p = some (.tup ts) ∧ ts = List.map V.ty cs ∧ kd H x ≠ "?" ∧ kitAnyB (kd H x) cs = some b ∧ Q (.bl b) H
theorem call_isBT : CallR X (.builtin "isinstance") rIsBT := fun pins s σ H xs us Q I r h => by
  obtain ⟨x, p, ts, cs, b, h1, h2, rfl, h3, h4, h5⟩ := h
  exact call_isiT pins s σ H xs us Q I r ⟨x, p, _, _, _, b, h1, h2, clsV_all cs, kd_ty h3, kitAnyB_ok h4, h5⟩
theorem ex_ty2 {a b : String} {P : List String → Prop} : (∃ cs, [V.ty a, V.ty b] = List.map V.ty cs ∧ P cs) ↔ P [a, b] := by
  constructor
  · rintro ⟨cs, h, p⟩
    match cs, h with
    | [c, d], h =>
      injection h with h1 h2
      injection h1 with h1
      injection h2 with h2 _
      injection h2 with h2
      subst h1 h2
      exact p
  · exact fun p => ⟨[a, b], rfl, p⟩
def rMulS : R2 := fun x y H Q => ∃ z n, x = .str z ∧ y = .int n ∧ MulOk z n ∧ Q (.str (Txt.mul z n)) H
theorem op_mul_str : OpR X (binaryOp .Mult) rMulS := fun pins s σ H x y v u Q I rx ry h => by
  obtain ⟨z, n, rfl, rfl, h1, q⟩ := h
  obtain ⟨t, rfl⟩ := rx
  obtain ⟨t', rfl⟩ := ry
  exact PySem.SB.mul h1 fun t2 k => ⟨.str _, H, I.tok k, ⟨_, rfl⟩, q⟩
end
theorem kit_ss : kitB "str" "str" = some true := by decide +kernel
theorem kit_ns : kitB "NoneType" "str" = some false := by decide +kernel
theorem kit_bs : kitB "bool" "str" = some false := by decide +kernel
theorem kit_is : kitB "int" "str" = some false := by decide +kernel
theorem kit_ls : kitB "list" "str" = some false := by decide +kernel
theorem kit_ts : kitB "tuple" "str" = some false := by decide +kernel
theorem kit_ds : kitB "dict" "str" = some false := by decide +kernel
theorem kit_bb : kitB "bool" "bool" = some true := by decide +kernel
theorem kit_LTl : kitAnyB "list" ["list", "tuple"] = some true := by decide +kernel
theorem kit_LTt : kitAnyB "tuple" ["list", "tuple"] = some true := by decide +kernel
theorem kit_LTd : kitAnyB "dict" ["list", "tuple"] = some false := by decide +kernel
theorem kit_LTs : kitAnyB "str" ["list", "tuple"] = some false := by decide +kernel
theorem kit_LTn : kitAnyB "NoneType" ["list", "tuple"] = some false := by decide +kernel
theorem kit_LTb : kitAnyB "bool" ["list", "tuple"] = some false := by decide +kernel
theorem kit_LTi : kitAnyB "int" ["list", "tuple"] = some false := by decide +kernel
/-- a small text -/
def Sm (z : Str) : Prop := z.length ≤ 1000 ∧ ∀ c ∈ z.cps.toList, c < 128
/-- a thing that the laws hand about -/
inductive Thg (H : Hp) : V → Prop
  | non : Thg H .non
  | bl (b : Bool) : Thg H (.bl b)
  | int (i : Int) : Thg H (.int i)
  | str {z : Str} (h : Sm z) : Thg H (.str z)
  | lst {a : Addr} {xs : List V} (e : H a = some (.lst xs)) : Thg H (.ref a)
  | tup {a : Addr} {xs : List V} (e : H a = some (.tup xs)) : Thg H (.ref a)
  | dic {a : Addr} {kvs : List (Key × V)} (e : H a = some (.dK kvs)) : Thg H (.ref a)
theorem Thg.mono {H H' : Hp} {v : V} (s : Same H H') (h : Thg H v) : Thg H' v := by
  cases h with
  | non => exact .non
  | bl b => exact .bl b
  | int i => exact .int i
  | str h => exact .str h
  | lst e => exact .lst (s _ _ e)
  | tup e => exact .tup (s _ _ e)
  | dic e => exact .dic (s _ _ e)
def codeOf : V → Nat
  | .str z => z.cps.toList.headD 0
  | _ => 0
theorem codeOf_sgn {c : Nat} : codeOf (sgn c) = c := rfl
theorem mem_sgn {x : V} {l : List Nat} (h : x ∈ l.map sgn) : ∃ c, c ∈ l ∧ x = sgn c := by
  obtain ⟨c, h1, h2⟩ := List.mem_map.mp h
  exact ⟨c, h1, h2.symm⟩
theorem filter_all {α : Type} {l : List α} : l.filter (fun _ => true) = l := List.filter_eq_self.mpr fun _ _ => rfl
theorem size1000 {n : Nat} (h : n ≤ 1000) : n ≤ sizeLine := Nat.le_trans h (by decide)
theorem lt1p {a b : Nat} : ([a] < [b]) ↔ a < b := by
  refine ⟨fun h => ?_, fun h => List.cons_lt_cons_iff.mpr (.inl h)⟩
  rcases List.cons_lt_cons_iff.mp h with h | ⟨_, h⟩
  · exact h
  · exact absurd h (List.not_lt_nil _)
section
variable {X : Cx}
/-- a list == [] -/
def rEqNil : R2 := fun x y H Q => ∃ a b xs ys, x = .ref a ∧ y = .ref b ∧ H a = some (.lst xs) ∧ H b = some (.lst ys) ∧ ys = [] ∧ Q (.bl xs.isEmpty) H
theorem op_eqNil (hu : X.A.units + 64 < cLine) : OpR X (compareOp .Eq) rEqNil := fun pins s σ H x y v u Q I rx ry h => by
  obtain ⟨a, b, xs, ys, rfl, rfl, ha, hb, rfl, q⟩ := h
  cases rx
  cases ry
  obtain ⟨its, r, pl, hz⟩ := I.list (SqL.of ha)
  obtain ⟨its2, r2, pl2, hz2⟩ := I.list (SqL.of hb)
  have hl := r.length
  have hl2 := r2.length
  have hu' : X.A.units < cLine := by omega
  cases xs with
  | nil =>
    have e1 : its = [] := List.eq_nil_of_length_eq_zero hl.symm
    have e2 : its2 = [] := List.eq_nil_of_length_eq_zero hl2.symm
    subst e1 e2
    exact SeqAt.eq_listAt (e := fun _ => true) pl.isList pl2.isList rfl hu' (fun j h1 _ => absurd h1 (by simp)) ⟨.bl true, H, I, rfl, q⟩
  | cons x r' =>
    refine SeqAt.eq_list_lengthsAt pl.isList pl2.isList ?_ hu' ⟨.bl false, H, I, rfl, q⟩
    simp only [List.size_toArray, ← hl, ← hl2, List.length_cons, List.length_nil]
    simp
end

/-! ### the world of a law: the pool, and what is known beside it -/
def OffS (p l : Addr) (H H' : Hp) : Prop := ∀ b o, b ≠ p → b ≠ l → H b = some o → H' b = some o
theorem OffS.refl {p l : Addr} {H : Hp} : OffS p l H H := fun _ _ _ _ h => h
theorem OffS.trans {p l : Addr} {H H1 H2 : Hp} (a : OffS p l H H1) (b : OffS p l H1 H2) : OffS p l H H2 := fun x o h1 h2 h => b x o h1 h2 (a x o h1 h2 h)
theorem Off.s {p l : Addr} {H H' : Hp} (h : Off p l H H') : OffS p l H H' := fun b o h1 h2 e => by rw [h b h1 h2]; exact e
theorem same_off {p l : Addr} {H H' : Hp} (h : Same H H') : OffS p l H H' := fun b o _ _ e => h b o e
theorem PoolAt.mono {p l : Addr} {c c' : Nat} {H : Hp} (h : PoolAt p l c H) (hc : c ≤ c') : PoolAt p l c' H := by
  obtain ⟨ns, t, n, z, y, h1, h2, h3, h4, h5, h6, h7⟩ := h
  exact ⟨ns, t, n, z, y, h1, h2, h3, h4, h5, by omega, h7⟩
theorem PoolAt.same {p l : Addr} {c : Nat} {H H' : Hp} (s : Same H H') (h : PoolAt p l c H) : PoolAt p l c H' := by
  obtain ⟨ns, t, n, z, y, h1, h2, h3⟩ := h
  exact ⟨ns, t, n, z, y, s _ _ h1, s _ _ h2, h3⟩
theorem PoolAt.np {p l : Addr} {c : Nat} {H : Hp} {q : Addr} (h : PoolAt p l c H) (hq : H q = none) : q ≠ p ∧ q ≠ l := by
  obtain ⟨ns, t, n, z, y, h1, h2, h3⟩ := h
  exact ⟨(ne_of_none h1 hq).symm, (ne_of_none h2 hq).symm⟩
/-- G: what is known, all of it in H, nothing of it the pool's -/
structure Wd (p l : Addr) (c : Nat) (G H : Hp) : Prop where
  pool : PoolAt p l c H
  kn : Same G H
  gp : G p = none
  gl : G l = none
theorem Wd.mono {p l : Addr} {c c' : Nat} {G H : Hp} (h : Wd p l c G H) (hc : c ≤ c') : Wd p l c' G H := ⟨h.pool.mono hc, h.kn, h.gp, h.gl⟩
theorem Wd.ne {p l : Addr} {c : Nat} {G H : Hp} (h : Wd p l c G H) {b : Addr} {o : HO} (e : G b = some o) : b ≠ p ∧ b ≠ l := ⟨ne_of_none e h.gp, ne_of_none e h.gl⟩
/-- all but the pool kept, the pool as it is now -/
theorem Wd.turn {p l : Addr} {c c' : Nat} {G H H' : Hp} (h : Wd p l c G H) (hp : PoolAt p l c' H') (off : OffS p l H H') : Wd p l c' G H' :=
  ⟨hp, fun b o e => off b o (h.ne e).1 (h.ne e).2 (h.kn b o e), h.gp, h.gl⟩
theorem Wd.same {p l : Addr} {c : Nat} {G H H' : Hp} (h : Wd p l c G H) (s : Same H H') : Wd p l c G H' := h.turn (h.pool.same s) (same_off s)
theorem Wd.add {p l : Addr} {c : Nat} {G H H' : Hp} {q : Addr} {o : HO} (h : Wd p l c G H) (s : OffS p l H H') (hp : PoolAt p l c H') (hq : H q = none) (e : H' q = some o) : Wd p l c (upd G q o) H' := by
  have n := h.pool.np hq
  refine ⟨hp, fun b u hb => ?_, by rw [upd_ne n.1.symm]; exact h.gp, by rw [upd_ne n.2.symm]; exact h.gl⟩
  by_cases hbq : b = q
  · subst hbq
    rw [upd_same] at hb
    rw [← Option.some.inj hb]
    exact e
  · rw [upd_ne hbq] at hb
    exact (h.turn hp s).kn b u hb
theorem Wd.new {p l : Addr} {c : Nat} {G H : Hp} {q : Addr} {o : HO} (h : Wd p l c G H) (hq : H q = none) : Wd p l c (upd G q o) (upd H q o) :=
  h.add (same_off (same_new hq)) (h.pool.same (same_new hq)) hq upd_same
theorem Wd.free {p l : Addr} {c : Nat} {G H : Hp} {q : Addr} (h : Wd p l c G H) (hq : H q = none) : G q = none := h.kn.free hq
theorem Wd.alloc {p l : Addr} {c : Nat} {G H H1 : Hp} {q : Addr} {o : HO} (h : Wd p l c G H) (hq : H q = none) (s : Same H H1) (e : H1 q = some o) : ∃ G1, Wd p l c G1 H1 ∧ Same G G1 ∧ G1 q = some o :=
  ⟨_, h.add (same_off s) (h.pool.same s) hq e, same_new (h.free hq), upd_same⟩
/-- what has come: more is known, all but the pool is kept, what is newly known was free -/
structure Gw (p l : Addr) (G H G' H' : Hp) : Prop where
  gg : Same G G'
  off : OffS p l H H'
  fr : ∀ b o, G' b = some o → G b = some o ∨ H b = none
theorem Gw.refl {p l : Addr} {G H : Hp} : Gw p l G H G H := ⟨Same.refl _, OffS.refl, fun _ _ h => .inl h⟩
theorem Gw.trans {p l : Addr} {c : Nat} {G H G1 H1 G2 H2 : Hp} (a : Gw p l G H G1 H1) (w1 : PoolAt p l c H1) (b : Gw p l G1 H1 G2 H2) : Gw p l G H G2 H2 := by
  refine ⟨a.gg.trans b.gg, a.off.trans b.off, fun x o h => ?_⟩
  rcases b.fr x o h with h1 | h1
  · exact a.fr x o h1
  · refine .inr ?_
    cases q : H x with
    | none => rfl
    | some u =>
      have n := w1.np h1
      rw [a.off x u n.1 n.2 q] at h1
      cases h1
theorem Gw.same {p l : Addr} {G H H' : Hp} (s : Same H H') : Gw p l G H G H' := ⟨Same.refl _, same_off s, fun _ _ h => .inl h⟩
theorem Gw.of {p l : Addr} {G H H' : Hp} (s : OffS p l H H') : Gw p l G H G H' := ⟨Same.refl _, s, fun _ _ h => .inl h⟩
theorem Gw.add {p l : Addr} {G H H' : Hp} {q : Addr} {o : HO} (s : OffS p l H H') (hq : H q = none) (hg : G q = none) : Gw p l G H (upd G q o) H' := by
  refine ⟨same_new hg, s, fun b u h => ?_⟩
  by_cases e : b = q
  · subst e
    exact .inr hq
  · rw [upd_ne e] at h
    exact .inl h
/-- a comprehension whose turns draw: at most k draws a turn, each item is as Pz says -/
theorem lc_pool {J : It} {xs : List V} {Gd : Hp → Prop} (w : Walk J xs.length Gd (YAt xs)) {g : TG} {tt : TT} {te : TE} {vs : List Nat} {σ : St} {D : Addr} {Q : VK} {H1 G : Hp} {p l : Addr} {c k : Nat} (Pz : V → Hp → Prop) (hmono : ∀ v G G', Same G G' → Pz v G → Pz v G')
    (hw : Wd p l c G H1) (hD : H1 D = none) (hGd : ∀ H, OffS p l H1 H → Gd H) (hz : xs.length ≤ 100000)
    (turn : ∀ x, x ∈ xs → ∀ G2 H2 c2, Gw p l G H1 G2 H2 → Wd p l c2 G2 H2 → c2 ≤ c + k * xs.length → ∀ (R : VK) (R0 : Hp → Prop), (∀ v G3 H3, Pz v G3 → Wd p l (c2 + k) G3 H3 → Gw p l G2 H2 G3 H3 → R v H3) → g x (wipe σ vs) H2 fun σ2 H3 => wipe σ2 vs = wipe σ vs ∧ tt σ2 H3 fun b H4 => if b = true then te σ2 H4 R else R0 H4)
    (done : ∀ acc G' H', acc.length = xs.length → (∀ v ∈ acc, Pz v G') → Gw p l G H1 G' H' → Wd p l (c + k * xs.length) G' H' → G' D = some (.lst acc) → Q (.ref D) H') : lcGo J g tt te vs σ D Q H1 := by
  have nD := hw.pool.np hD
  have offD : ∀ {H2 H3 : Hp} {o : HO}, OffS p l H1 H2 → OffS p l H2 H3 → OffS p l H1 (upd H3 D o) := fun a b x o h1 h2 e => by
    rw [upd_ne (ne_of_none e hD)]
    exact b x o h1 h2 (a x o h1 h2 e)
  refine lc_it w (fun i H => ∃ G' acc, acc.length = i ∧ (∀ v ∈ acc, Pz v G') ∧ Gw p l G H1 G' H ∧ Wd p l (c + k * i) G' H ∧ G' D = none ∧ H D = some (.lst acc)) ?_ (fun i H _ q => ?_) (fun i x H H' hi q y => ?_) (fun H q => ?_)
  · exact ⟨G, [], rfl, fun _ h => (nomatch h), Gw.same (same_new hD), (hw.same (same_new hD)), hw.free hD, upd_same⟩
  · obtain ⟨G', acc, _, _, gw, _⟩ := q
    exact hGd H gw.off
  · obtain ⟨rfl, hx⟩ := y
    obtain ⟨G2, acc, ha, hP, gw, hw2, gD, hacc⟩ := q
    have hk : k * i ≤ k * xs.length := Nat.mul_le_mul_left k (by omega)
    refine turn x (List.mem_of_getElem? hx) G2 _ (c + k * i) gw hw2 (by omega) _ _ fun v G3 H3 hv hw3 g3 => ?_
    have hD3 : H3 D = some (.lst acc) := g3.off D _ nD.1 nD.2 hacc
    have gD3 : G3 D = none := by
      cases e : G3 D with
      | none => rfl
      | some o =>
        rcases g3.fr D o e with h | h
        · rw [gD] at h; cases h
        · rw [hacc] at h; cases h
    have gw3 : Gw p l G H1 G3 H3 := gw.trans hw2.pool g3
    refine ⟨acc, hD3, Nat.lt_of_le_of_lt (m := 100000) (by omega) (by decide), G3, acc ++ [v], by rw [List.length_append, ha]; rfl, fun u hu => ?_, ⟨gw3.gg, offD gw3.off OffS.refl, gw3.fr⟩, ?_, gD3, upd_same⟩
    · rcases List.mem_append.mp hu with h | h
      · exact hmono u _ _ g3.gg (hP u h)
      · rw [List.mem_singleton.mp h]
        exact hv
    · have e : c + k * (i + 1) = c + k * i + k := by rw [Nat.mul_add, Nat.mul_one, Nat.add_assoc]
      rw [e]
      obtain ⟨ns, t, n, z, y, h1, h2, h3⟩ := hw3.pool
      refine ⟨⟨ns, t, n, z, y, by rw [upd_ne nD.1.symm]; exact h1, by rw [upd_ne nD.2.symm]; exact h2, h3⟩, fun b o hb => ?_, hw3.gp, hw3.gl⟩
      rw [upd_ne (ne_of_none hb gD3)]
      exact hw3.kn b o hb
  · obtain ⟨G', acc, ha, hP, gw, hw2, gD, hacc⟩ := q
    have sg : Same G' (upd G' D (.lst acc)) := same_new gD
    refine done acc (upd G' D (.lst acc)) H ha (fun v hv => hmono v _ _ sg (hP v hv)) ⟨gw.gg.trans sg, gw.off, fun b o hb => ?_⟩ ⟨hw2.pool, fun b o hb => ?_, by rw [upd_ne nD.1.symm]; exact hw2.gp, by rw [upd_ne nD.2.symm]; exact hw2.gl⟩ upd_same
    · by_cases e : b = D
      · subst e
        exact .inr hD
      · rw [upd_ne e] at hb
        exact gw.fr b o hb
    · by_cases e : b = D
      · subst e
        rw [upd_same] at hb
        rw [← Option.some.inj hb]
        exact hacc
      · rw [upd_ne e] at hb
        exact hw2.kn b o hb
/-! ### data compared -/
theorem dp_strs {K : PySem.W.Frag} {H : Hp} : ∀ (zs : List Str), DpAll K H (zs.map V.str) (zs.map PyData.str)
  | [] => .nil
  | z :: r => .cons (.str z) (dp_strs r)
theorem lay_strs : ∀ (zs : List Str), (∀ z ∈ zs, ∀ c ∈ z.cps.toList, c < 128) → PyData.canLayAll0 (zs.map PyData.str) = true
  | [], _ => rfl
  | z :: r, h => by
    have h1 : PyData.strOk z = true := by
      unfold PyData.strOk
      rw [Array.all_eq_true']
      intro c hc
      exact decide_eq_true (Nat.lt_trans (h z List.mem_cons_self c (by simpa using hc)) (by decide))
    show (PyData.canLay0 (.str z) && PyData.canLayAll0 (r.map PyData.str)) = true
    rw [lay_strs r fun y hy => h y (List.mem_cons_of_mem _ hy), Bool.and_true]
    exact h1
theorem dep_strs : ∀ (zs : List Str), PyData.depthAll (zs.map PyData.str) ≤ 1
  | [] => by simp [PyData.depthAll]
  | z :: r => by
    have := dep_strs r
    simp only [List.map_cons, PyData.depthAll, PyData.depth]
    omega
theorem shaped_strs {zs : List Str} (h : ∀ z ∈ zs, ∀ c ∈ z.cps.toList, c < 128) : SeqAt.shaped (.list (zs.map PyData.str)) = true := by
  unfold SeqAt.shaped
  have h1 := dep_strs zs
  have h2 : PyData.canLay0 (.list (zs.map PyData.str)) = true := lay_strs zs h
  rw [h2, Bool.true_and]
  refine decide_eq_true ?_
  simp only [PyData.depth]
  omega
theorem shaped_nil : SeqAt.shaped (.list []) = true := by decide
theorem eqv_nil {ds : List PyData} : PyData.eqv (.list ds) (.list []) = ds.isEmpty := by
  cases ds <;> simp [PyData.eqv, PyData.eqvAll]
theorem strs_of {xs : List V} (h : ∀ x ∈ xs, ∃ z, x = V.str z) : ∃ zs : List Str, xs = zs.map V.str := by
  induction xs with
  | nil => exact ⟨[], rfl⟩
  | cons x r ih =>
    obtain ⟨z, rfl⟩ := h x List.mem_cons_self
    obtain ⟨zs, rfl⟩ := ih fun y hy => h y (List.mem_cons_of_mem _ hy)
    exact ⟨z :: zs, rfl⟩
/-- texts == [] -/
theorem eqD_nil {K : PySem.W.Frag} {H : Hp} {a b : Addr} {zs : List Str} {Q : VK} (ha : H a = some (.lst (zs.map V.str))) (hb : H b = some (.lst [])) (h : ∀ z ∈ zs, ∀ c ∈ z.cps.toList, c < 128) (k : Q (.bl zs.isEmpty) H) : rEqD K (.ref a) (.ref b) H Q := by
  refine ⟨.list (zs.map PyData.str), .list [], .lst (SqL.of ha) (dp_strs zs), .lst (SqL.of hb) .nil, shaped_strs h, shaped_nil, ?_⟩
  rw [eqv_nil]
  cases zs <;> exact k
theorem eqD_nn {K : PySem.W.Frag} {H : Hp} {a b : Addr} {Q : VK} (ha : H a = some (.lst [])) (hb : H b = some (.lst [])) (k : Q (.bl true) H) : rEqD K (.ref a) (.ref b) H Q := eqD_nil (zs := []) ha hb (fun _ h => (nomatch h)) k
theorem neD_nn {K : PySem.W.Frag} {H : Hp} {a b : Addr} {Q : VK} (ha : H a = some (.lst [])) (hb : H b = some (.lst [])) (k : Q (.bl false) H) : rNeD K (.ref a) (.ref b) H Q := by
  refine ⟨.list [], .list [], .lst (SqL.of ha) .nil, .lst (SqL.of hb) .nil, shaped_nil, shaped_nil, ?_⟩
  rw [eqv_nil]
  exact k
/-! ### texts -/
theorem join_sm {ys : List Str} (h1 : ∀ y ∈ ys, y.length = 1) (h2 : ∀ y ∈ ys, ∀ c ∈ y.cps.toList, c < 128) : (Txt.join Str.empty ys).length ≤ ys.length ∧ ∀ c ∈ (Txt.join Str.empty ys).cps.toList, c < 128 := by
  have e : Txt.join Str.empty ys = Str.join Str.empty ys := StrLaws.glued_eq_join _ _
  rw [e]
  refine ⟨?_, fun c hc => ?_⟩
  · refine Nat.le_trans (StrLaws.join_length_le _ _) ?_
    have e2 : ys.map (·.length) = ys.map (fun _ => 1) := List.map_congr_left h1
    rw [e2, List.map_const', List.sum_replicate_nat]
    show ys.length * 1 + ys.length * 0 ≤ ys.length
    omega
  · rcases (PyProof.Rows.mem_join _ c ys).mp hc with ⟨t, ht, h⟩ | ⟨_, h⟩
    · exact h2 t ht c h
    · exact absurd (show c ∈ ([] : List Nat) from h) List.not_mem_nil
theorem at_of' {α : Type} {xs : List α} {z : Int} {j : Nat} {v : α} (e : z = (j : Int)) (h : xs[j]? = some v) : atI xs z = some v := by
  rw [e]
  exact atI_nat h
theorem atI_ex {α : Type} {xs : List α} {i : Int} (h0 : 0 ≤ i) (h1 : i < (xs.length : Int)) : ∃ v, atI xs i = some v ∧ v ∈ xs ∧ xs[i.toNat]? = some v := by
  have q : i = ((i.toNat : Nat) : Int) := (Int.toNat_of_nonneg h0).symm
  have q2 : i.toNat < xs.length := by omega
  have q3 : xs[i.toNat]? = some xs[i.toNat] := List.getElem?_eq_getElem q2
  exact ⟨xs[i.toNat], at_of' q q3, List.getElem_mem q2, q3⟩
theorem int62 {m : Int} (h0 : 0 ≤ m) (h : m ≤ 100000) : -2 ^ 62 ≤ m ∧ m < 2 ^ 62 := by
  have e : (2 : Int) ^ 62 = 4611686018427387904 := by decide
  omega
theorem wd0 {p l : Addr} {c : Nat} {H : Hp} (h : PoolAt p l c H) : Wd p l c (fun _ => none) H := ⟨h, fun _ _ e => (nomatch e), rfl, rfl⟩
theorem filter_empty {α : Type} {l : List α} {f : α → Bool} : (l.filter fun c => !f c).isEmpty = l.all f := by
  induction l with
  | nil => rfl
  | cons a r ih =>
    rw [List.filter_cons, List.all_cons]
    cases e : f a with
    | true => simpa [e] using ih
    | false => simp [e]
theorem rng_item {lo : Int} {n i : Nat} {x : V} (h : (rngV lo n)[i]? = some x) : x = .int (lo + (i : Int)) ∧ i < n := by
  have hi : i < n := by
    have := (List.getElem?_eq_some_iff.mp h).1
    rw [rngV_len] at this
    exact this
  unfold rngV at h
  rw [List.getElem?_map, List.getElem?_range hi] at h
  exact ⟨(Option.some.inj h).symm, hi⟩
theorem cutS_sm {z : Str} {lo hi : Option Int} (h : ∀ c ∈ z.cps.toList, c < 128) : ∀ c ∈ (cutS z lo hi).cps.toList, c < 128 := fun c hc => by
  unfold cutS at hc
  have hc : c ∈ (z.cps.toList.drop (HT.sIx z.length 0 lo)).take (HT.sIx z.length z.length hi - HT.sIx z.length 0 lo) := by simpa using hc
  exact h c (List.mem_of_mem_drop (List.mem_of_mem_take hc))
theorem app_sm {x y : Str} (h1 : ∀ c ∈ x.cps.toList, c < 128) (h2 : ∀ c ∈ y.cps.toList, c < 128) : ∀ c ∈ (x ++ y).cps.toList, c < 128 := fun c hc => by
  have e : (x ++ y).cps.toList = x.cps.toList ++ y.cps.toList := by
    show (x.cps ++ y.cps).toList = _
    rw [Array.toList_append]
  rw [e] at hc
  rcases List.mem_append.mp hc with h | h
  · exact h1 c h
  · exact h2 c h
theorem app_len {x y : Str} : (x ++ y).length = x.length + y.length := by
  show (x.cps ++ y.cps).size = _
  rw [Array.size_append]
  rfl

theorem nox_K {X : Cx} : X.nox.K = X.K := rfl
def tNever : TS := fun _ _ _ => False
theorem ps_never {X : Cx} {st : Stmt} : PS X st tNever := ⟨fun _ _ _ _ _ _ h => h.elim⟩

/-- one statement at a time: what follows is N -/
theorem seq_gen {t v : TS} {D : Ends} {σ : St} {H : Hp} (h : ∀ N : St → Hp → Prop, (∀ σ H, N σ H = v D σ H) → t { D with nx := N } σ H) : tSeq t v D σ H := h (v D) fun _ _ => rfl
theorem join {J : St → Hp → Prop} {t v : TS} {D : Ends} {σ : St} {H : Hp} (k : ∀ σ H, J σ H → v D σ H) (h : ∀ N : St → Hp → Prop, (∀ σ H, J σ H → N σ H) → t { D with nx := N } σ H) : tSeq t v D σ H := h (v D) k
theorem ty_same {H H' : Hp} {v : V} {t : Value} (s : Same H H') (h : tyV H v = some t) : tyV H' v = some t := by
  cases v with
  | ref a =>
    have h : tyO (H a) = some t := h
    show tyO (H' a) = some t
    cases e : H a with
    | none => rw [e] at h; cases h
    | some o => rw [s _ _ e, ← e]; exact h
  | _ => exact h
/-- where a new tuple is told, the pool's world goes on -/
theorem Wd.told {p l : Addr} {c c' : Nat} {G H H' : Hp} {q : Addr} {o : HO} (h : Wd p l c G H) (nq : H q = none) (hq : H' q = some o) (hp : PoolAt p l c' H') (off : OffS p l H H') : ∃ G1, Wd p l c' G1 H' ∧ Same G G1 ∧ G1 q = some o := by
  have np := h.pool.np nq
  have w5 := h.turn hp off
  refine ⟨upd G q o, ⟨hp, fun x u e => ?_, by rw [upd_ne np.1.symm]; exact h.gp, by rw [upd_ne np.2.symm]; exact h.gl⟩, same_new (h.free nq), upd_same⟩
  by_cases ex : x = q
  · subst ex
    rw [upd_same] at e
    rw [← Option.some.inj e]
    exact hq
  · rw [upd_ne ex] at e
    exact w5.kn x u e

/-! ## signs, ignored signs -/
def signOk (c : Nat) : Bool := decide (32 ≤ c) && decide (c ≤ 126)
theorem cSp : (Str.ofString " ").cps.toList = [32] := by decide +kernel
theorem cTi : (Str.ofString "~").cps.toList = [126] := by decide +kernel
theorem empS : Str.ofString "" = Str.empty := by decide +kernel
theorem sign_lo {c : Nat} (h : c < 32) : (!signOk c) = true := by
  unfold signOk
  rw [decide_eq_false (show ¬ 32 ≤ c by omega)]
  rfl
theorem sign_hi {c : Nat} (h : 126 < c) : (!signOk c) = true := by
  unfold signOk
  rw [decide_eq_false (show ¬ c ≤ 126 by omega), Bool.and_false]
  rfl
theorem sign_ok {c : Nat} (h : ¬ c < 32) (h' : ¬ 126 < c) : (!signOk c) = false := by
  unfold signOk
  rw [decide_eq_true (show 32 ≤ c by omega), decide_eq_true (show c ≤ 126 by omega)]
  rfl
section
variable {P : Program} {w : World} {K : PySem.W.Frag} {mg : Str → Option Value} {base : Heap} {A : Adr}
def spIsSign : Sp := fun vs H Q _ => ∃ c : Nat, vs = [.str ⟨#[c]⟩] ∧ Q (.bl (signOk c)) H
theorem ok_is_sign (T : Txt K mg A) : FnOk P w K mg base CX0 1 A.a_IsSign A.d_IsSign ["sign"] spIsSign := by
  refine T.f_IsSign.ok scIsSign (fun vs H Q E h => ?_) (fun cdv A' outer s H vs Q E hr h => ?_)
  · obtain ⟨c, rfl, _⟩ := h
    rfl
  · obtain ⟨c, rfl, k⟩ := h
    refine ⟨_, (pss_one (ps_ret (pe_chain (op_le_str) (op_le_str) pe_str (pv 0) pe_str))), ?_⟩
    try simp only [tSeq, tNext, tRet, tRetN, tAsg, gName, gSub, tDrop, tIfS, tOp, tUn, tCB, tCons, tNil, tC, tVar, rI, rI0, rU, tAnd, tOr, tNot, tAndV, tOrV, tNotV, tIf, tTest, tB, tCall, tChain, tLst, tTup, tYes, rIxH, rIsB, rIsBT, rMulS, kd_non, kd_bl, kd_int, kd_str, kd_ref, kdO_lst, kdO_tup, kdO_dK, nq_n, nq_b, nq_i, nq_s, nq_l, nq_t, nq_d, ne_eq, not_false_eq_true, kit_ss, kit_ns, kit_bs, kit_is, kit_ls, kit_ts, kit_ds, kit_bb, V.ty.injEq, and_assoc, rIxU, rLenH, rLenU, rLenS, rInt1, rSetL, rEq, rNe, rCat, L2.start, List.map, List.length, List.length_cons, List.length_nil, List.replicate, List.getElem?_cons_zero, List.getElem?_cons_succ, List.set_cons_zero, List.set_cons_succ, List.set_nil, List.cons_append, List.nil_append, List.append_nil, Option.some.injEq, V.int.injEq, V.ref.injEq, V.str.injEq, V.bl.injEq, HO.lst.injEq, HO.tup.injEq, exists_eq_left', exists_and_left, exists_eq_left, List.cons.injEq, and_true, true_and, and_false, false_and, and_self, reduceCtorEq, exists_false, or_false, false_or, exists_const, at0, at1, at2, at3, at4, at5, ix51, ix52, ix54, upd_same, Nat.reduceAdd, Nat.reduceSub, Nat.zero_add, Int.reduceToNat, Int.reduceLE, Int.reduceLT, decide_eq_true_eq, Bool.not_eq_true, if_true, if_false, Bool.false_eq_true, ite_true, ite_false, Bool.not_true, Bool.not_false, decide_true, decide_false, tFor_eq, tLc_eq, iList, iTup, iRng1, iRng2, iStr, tSl, tPart, tNoPart, rSlL, cxOf_K, wipe, ex_ty2, kit_LTl, kit_LTt, kit_LTd, kit_LTs, kit_LTn, kit_LTb, kit_LTi, tM1, rIxS, exists_eq', lt1p, tDNewK, rSlS, rEqNil, cSp, cTi]
    have e : signOk c = (!decide (c < 32) && !decide (126 < c)) := by
      unfold signOk
      rw [Bool.eq_iff_iff]
      simp only [Bool.and_eq_true, Bool.not_eq_true', decide_eq_true_eq, decide_eq_false_iff_not]
      omega
    rw [e] at k
    refine ite2 (fun h => ?_) (fun h => ?_)
    · rw [h] at k
      exact k
    · rw [Bool.not_eq_true] at h
      rw [h] at k
      exact k
end

/-! ### lines -/
def isLineV : V → Bool
  | .str z => decide (z.length ≤ 40) && z.cps.toList.all signOk
  | _ => false
section
variable {P : Program} {w : World} {K : PySem.W.Frag} {mg : Str → Option Value} {base : Heap} {A : Adr}
def spIsLine : Sp := fun vs H Q _ => ∃ v, vs = [v] ∧ Thg H v ∧ ∀ H', Same H H' → Q (.bl (isLineV v)) H'
theorem ok_is_line (T : Txt K mg A) (gIsSign : FnOk P w K mg base CX0 1 A.a_IsSign A.d_IsSign ["sign"] spIsSign) : FnOk P w K mg base CX0 2 A.a_IsLine A.d_IsLine ["value"] spIsLine := by
  refine T.f_IsLine.ok scIsLine (fun vs H Q E h => ?_) (fun cdv A' outer s H vs Q E hr h => ?_)
  · obtain ⟨v, rfl, _⟩ := h
    rfl
  · obtain ⟨v, rfl, ht, k⟩ := h
    refine ⟨_, (pss_one (ps_ret (pe_and (pe_callB call_isB (by rfl) T.z_isinstance (by decide +kernel) (pa_cons (pv 0) (pa_cons (pe_bltn (v := .ty "str") (by rfl) T.z_str (by decide +kernel) rfl) pa_nil))) (pe_and (pe_cmpR (op_le) (pe_callB call_lenS (by rfl) T.z_len (by decide +kernel) (pa_cons (pv 0) pa_nil)) (pe_glob (v := .int 40) (by rfl) T.c_MOST_SIGNS.choose_spec ⟨_, rfl⟩) (nomark _)) (pe_one (pe_callB (cr_all rfl) (by rfl) T.z_all (by decide +kernel) (pa_cons (pe_lc (own := [("sign", 1)]) (g := gName 1) (tt := tYes) (by rfl) scIsLine.nd (pi_str (pv 0)) (blkOk_by (own := [("sign", 1)]) (N := nIsLine) (sc := defScope sIsLine) (by decide +kernel)) (fun _ _ _ _ _ => pg_name (i := 1) scIsLine.nd rfl (Or.inl rfl)) (fun _ _ _ _ _ => pts_nil) (fun _ _ _ _ _ => (pe_call gIsSign (hr.mono (by decide)) (by rfl) T.m_IsSign T.f_IsSign.kp T.b_IsSign .nil pass0 (pa_cons (pv 1) pa_nil)))) pa_nil))))))), ?_⟩
    cases ht with
    | str hz =>
      try simp only [tSeq, tNext, tRet, tRetN, tAsg, gName, gSub, tDrop, tIfS, tOp, tUn, tCB, tCons, tNil, tC, tVar, rI, rI0, rU, tAnd, tOr, tNot, tAndV, tOrV, tNotV, tIf, tTest, tB, tCall, tChain, tLst, tTup, tYes, rIxH, rIsB, rIsBT, rMulS, kd_non, kd_bl, kd_int, kd_str, kd_ref, kdO_lst, kdO_tup, kdO_dK, nq_n, nq_b, nq_i, nq_s, nq_l, nq_t, nq_d, ne_eq, not_false_eq_true, kit_ss, kit_ns, kit_bs, kit_is, kit_ls, kit_ts, kit_ds, kit_bb, V.ty.injEq, and_assoc, rIxU, rLenH, rLenU, rLenS, rInt1, rSetL, rEq, rNe, rCat, L2.start, List.map, List.length, List.length_cons, List.length_nil, List.replicate, List.getElem?_cons_zero, List.getElem?_cons_succ, List.set_cons_zero, List.set_cons_succ, List.set_nil, List.cons_append, List.nil_append, List.append_nil, Option.some.injEq, V.int.injEq, V.ref.injEq, V.str.injEq, V.bl.injEq, HO.lst.injEq, HO.tup.injEq, exists_eq_left', exists_and_left, exists_eq_left, List.cons.injEq, and_true, true_and, and_false, false_and, and_self, reduceCtorEq, exists_false, or_false, false_or, exists_const, at0, at1, at2, at3, at4, at5, ix51, ix52, ix54, upd_same, Nat.reduceAdd, Nat.reduceSub, Nat.zero_add, Int.reduceToNat, Int.reduceLE, Int.reduceLT, decide_eq_true_eq, Bool.not_eq_true, if_true, if_false, Bool.false_eq_true, ite_true, ite_false, Bool.not_true, Bool.not_false, decide_true, decide_false, tFor_eq, tLc_eq, iList, iTup, iRng1, iRng2, iStr, tSl, tPart, tNoPart, rSlL, cxOf_K, wipe, ex_ty2, kit_LTl, kit_LTt, kit_LTd, kit_LTs, kit_LTn, kit_LTb, kit_LTi, tM1, rIxS, exists_eq', lt1p, tDNewK, rSlS, rEqNil]
      rename_i z
      have hz1 := hz.1
      refine ⟨size1000 hz1, ite2 (fun h => fun D hD => ?_) (fun h => ?_)⟩
      · refine lc_same walk_strY (fun _ => true) (fun v => .bl (signOk (codeOf v))) hD (fun _ _ => trivial) (by rw [List.length_map, Array.length_toList]; show z.length ≤ _; omega) (fun x hx H2 s2 R R0 h1 _ => ?_) (fun H2 s2 h2 => ?_)
        · obtain ⟨c, hc, rfl⟩ := mem_sgn hx
          try simp only [tSeq, tNext, tRet, tRetN, tAsg, gName, gSub, tDrop, tIfS, tOp, tUn, tCB, tCons, tNil, tC, tVar, rI, rI0, rU, tAnd, tOr, tNot, tAndV, tOrV, tNotV, tIf, tTest, tB, tCall, tChain, tLst, tTup, tYes, rIxH, rIsB, rIsBT, rMulS, kd_non, kd_bl, kd_int, kd_str, kd_ref, kdO_lst, kdO_tup, kdO_dK, nq_n, nq_b, nq_i, nq_s, nq_l, nq_t, nq_d, ne_eq, not_false_eq_true, kit_ss, kit_ns, kit_bs, kit_is, kit_ls, kit_ts, kit_ds, kit_bb, V.ty.injEq, and_assoc, rIxU, rLenH, rLenU, rLenS, rInt1, rSetL, rEq, rNe, rCat, L2.start, List.map, List.length, List.length_cons, List.length_nil, List.replicate, List.getElem?_cons_zero, List.getElem?_cons_succ, List.set_cons_zero, List.set_cons_succ, List.set_nil, List.cons_append, List.nil_append, List.append_nil, Option.some.injEq, V.int.injEq, V.ref.injEq, V.str.injEq, V.bl.injEq, HO.lst.injEq, HO.tup.injEq, exists_eq_left', exists_and_left, exists_eq_left, List.cons.injEq, and_true, true_and, and_false, false_and, and_self, reduceCtorEq, exists_false, or_false, false_or, exists_const, at0, at1, at2, at3, at4, at5, ix51, ix52, ix54, upd_same, Nat.reduceAdd, Nat.reduceSub, Nat.zero_add, Int.reduceToNat, Int.reduceLE, Int.reduceLT, decide_eq_true_eq, Bool.not_eq_true, if_true, if_false, Bool.false_eq_true, ite_true, ite_false, Bool.not_true, Bool.not_false, decide_true, decide_false, tFor_eq, tLc_eq, iList, iTup, iRng1, iRng2, iStr, tSl, tPart, tNoPart, rSlL, cxOf_K, wipe, ex_ty2, kit_LTl, kit_LTt, kit_LTd, kit_LTs, kit_LTn, kit_LTb, kit_LTi, tM1, rIxS, exists_eq', lt1p, tDNewK, rSlS, rEqNil]
          exact ⟨c, rfl, h1 H2 (Same.refl _) rfl⟩
        · rw [filter_all, List.map_map] at h2
          refine ⟨D, z.cps.toList.map signOk, rfl, SqL.of (by rw [h2, List.map_map]; rfl), ?_⟩
          have e : isLineV (.str z) = (z.cps.toList.map signOk).all id := by
            show (decide (z.length ≤ 40) && z.cps.toList.all signOk) = _
            rw [decide_eq_true (show z.length ≤ 40 by omega), Bool.true_and, List.all_map]
            rfl
          rw [← e]
          exact k H2 s2
      · have e : isLineV (.str z) = false := by
          show (decide (z.length ≤ 40) && z.cps.toList.all signOk) = _
          rw [decide_eq_false (show ¬ z.length ≤ 40 by omega), Bool.false_and]
        rw [← e]
        exact k H (Same.refl H)
    | lst e =>
      try simp only [tSeq, tNext, tRet, tRetN, tAsg, gName, gSub, tDrop, tIfS, tOp, tUn, tCB, tCons, tNil, tC, tVar, rI, rI0, rU, tAnd, tOr, tNot, tAndV, tOrV, tNotV, tIf, tTest, tB, tCall, tChain, tLst, tTup, tYes, rIxH, rIsB, rIsBT, rMulS, kd_non, kd_bl, kd_int, kd_str, kd_ref, kdO_lst, kdO_tup, kdO_dK, nq_n, nq_b, nq_i, nq_s, nq_l, nq_t, nq_d, ne_eq, not_false_eq_true, kit_ss, kit_ns, kit_bs, kit_is, kit_ls, kit_ts, kit_ds, kit_bb, V.ty.injEq, and_assoc, rIxU, rLenH, rLenU, rLenS, rInt1, rSetL, rEq, rNe, rCat, L2.start, List.map, List.length, List.length_cons, List.length_nil, List.replicate, List.getElem?_cons_zero, List.getElem?_cons_succ, List.set_cons_zero, List.set_cons_succ, List.set_nil, List.cons_append, List.nil_append, List.append_nil, Option.some.injEq, V.int.injEq, V.ref.injEq, V.str.injEq, V.bl.injEq, HO.lst.injEq, HO.tup.injEq, exists_eq_left', exists_and_left, exists_eq_left, List.cons.injEq, and_true, true_and, and_false, false_and, and_self, reduceCtorEq, exists_false, or_false, false_or, exists_const, at0, at1, at2, at3, at4, at5, ix51, ix52, ix54, upd_same, Nat.reduceAdd, Nat.reduceSub, Nat.zero_add, Int.reduceToNat, Int.reduceLE, Int.reduceLT, decide_eq_true_eq, Bool.not_eq_true, if_true, if_false, Bool.false_eq_true, ite_true, ite_false, Bool.not_true, Bool.not_false, decide_true, decide_false, tFor_eq, tLc_eq, iList, iTup, iRng1, iRng2, iStr, tSl, tPart, tNoPart, rSlL, cxOf_K, wipe, ex_ty2, kit_LTl, kit_LTt, kit_LTd, kit_LTs, kit_LTn, kit_LTb, kit_LTi, tM1, rIxS, exists_eq', lt1p, tDNewK, rSlS, rEqNil, e]
      exact k H (Same.refl H)
    | tup e =>
      try simp only [tSeq, tNext, tRet, tRetN, tAsg, gName, gSub, tDrop, tIfS, tOp, tUn, tCB, tCons, tNil, tC, tVar, rI, rI0, rU, tAnd, tOr, tNot, tAndV, tOrV, tNotV, tIf, tTest, tB, tCall, tChain, tLst, tTup, tYes, rIxH, rIsB, rIsBT, rMulS, kd_non, kd_bl, kd_int, kd_str, kd_ref, kdO_lst, kdO_tup, kdO_dK, nq_n, nq_b, nq_i, nq_s, nq_l, nq_t, nq_d, ne_eq, not_false_eq_true, kit_ss, kit_ns, kit_bs, kit_is, kit_ls, kit_ts, kit_ds, kit_bb, V.ty.injEq, and_assoc, rIxU, rLenH, rLenU, rLenS, rInt1, rSetL, rEq, rNe, rCat, L2.start, List.map, List.length, List.length_cons, List.length_nil, List.replicate, List.getElem?_cons_zero, List.getElem?_cons_succ, List.set_cons_zero, List.set_cons_succ, List.set_nil, List.cons_append, List.nil_append, List.append_nil, Option.some.injEq, V.int.injEq, V.ref.injEq, V.str.injEq, V.bl.injEq, HO.lst.injEq, HO.tup.injEq, exists_eq_left', exists_and_left, exists_eq_left, List.cons.injEq, and_true, true_and, and_false, false_and, and_self, reduceCtorEq, exists_false, or_false, false_or, exists_const, at0, at1, at2, at3, at4, at5, ix51, ix52, ix54, upd_same, Nat.reduceAdd, Nat.reduceSub, Nat.zero_add, Int.reduceToNat, Int.reduceLE, Int.reduceLT, decide_eq_true_eq, Bool.not_eq_true, if_true, if_false, Bool.false_eq_true, ite_true, ite_false, Bool.not_true, Bool.not_false, decide_true, decide_false, tFor_eq, tLc_eq, iList, iTup, iRng1, iRng2, iStr, tSl, tPart, tNoPart, rSlL, cxOf_K, wipe, ex_ty2, kit_LTl, kit_LTt, kit_LTd, kit_LTs, kit_LTn, kit_LTb, kit_LTi, tM1, rIxS, exists_eq', lt1p, tDNewK, rSlS, rEqNil, e]
      exact k H (Same.refl H)
    | dic e =>
      try simp only [tSeq, tNext, tRet, tRetN, tAsg, gName, gSub, tDrop, tIfS, tOp, tUn, tCB, tCons, tNil, tC, tVar, rI, rI0, rU, tAnd, tOr, tNot, tAndV, tOrV, tNotV, tIf, tTest, tB, tCall, tChain, tLst, tTup, tYes, rIxH, rIsB, rIsBT, rMulS, kd_non, kd_bl, kd_int, kd_str, kd_ref, kdO_lst, kdO_tup, kdO_dK, nq_n, nq_b, nq_i, nq_s, nq_l, nq_t, nq_d, ne_eq, not_false_eq_true, kit_ss, kit_ns, kit_bs, kit_is, kit_ls, kit_ts, kit_ds, kit_bb, V.ty.injEq, and_assoc, rIxU, rLenH, rLenU, rLenS, rInt1, rSetL, rEq, rNe, rCat, L2.start, List.map, List.length, List.length_cons, List.length_nil, List.replicate, List.getElem?_cons_zero, List.getElem?_cons_succ, List.set_cons_zero, List.set_cons_succ, List.set_nil, List.cons_append, List.nil_append, List.append_nil, Option.some.injEq, V.int.injEq, V.ref.injEq, V.str.injEq, V.bl.injEq, HO.lst.injEq, HO.tup.injEq, exists_eq_left', exists_and_left, exists_eq_left, List.cons.injEq, and_true, true_and, and_false, false_and, and_self, reduceCtorEq, exists_false, or_false, false_or, exists_const, at0, at1, at2, at3, at4, at5, ix51, ix52, ix54, upd_same, Nat.reduceAdd, Nat.reduceSub, Nat.zero_add, Int.reduceToNat, Int.reduceLE, Int.reduceLT, decide_eq_true_eq, Bool.not_eq_true, if_true, if_false, Bool.false_eq_true, ite_true, ite_false, Bool.not_true, Bool.not_false, decide_true, decide_false, tFor_eq, tLc_eq, iList, iTup, iRng1, iRng2, iStr, tSl, tPart, tNoPart, rSlL, cxOf_K, wipe, ex_ty2, kit_LTl, kit_LTt, kit_LTd, kit_LTs, kit_LTn, kit_LTb, kit_LTi, tM1, rIxS, exists_eq', lt1p, tDNewK, rSlS, rEqNil, e]
      exact k H (Same.refl H)
    | non =>
      try simp only [tSeq, tNext, tRet, tRetN, tAsg, gName, gSub, tDrop, tIfS, tOp, tUn, tCB, tCons, tNil, tC, tVar, rI, rI0, rU, tAnd, tOr, tNot, tAndV, tOrV, tNotV, tIf, tTest, tB, tCall, tChain, tLst, tTup, tYes, rIxH, rIsB, rIsBT, rMulS, kd_non, kd_bl, kd_int, kd_str, kd_ref, kdO_lst, kdO_tup, kdO_dK, nq_n, nq_b, nq_i, nq_s, nq_l, nq_t, nq_d, ne_eq, not_false_eq_true, kit_ss, kit_ns, kit_bs, kit_is, kit_ls, kit_ts, kit_ds, kit_bb, V.ty.injEq, and_assoc, rIxU, rLenH, rLenU, rLenS, rInt1, rSetL, rEq, rNe, rCat, L2.start, List.map, List.length, List.length_cons, List.length_nil, List.replicate, List.getElem?_cons_zero, List.getElem?_cons_succ, List.set_cons_zero, List.set_cons_succ, List.set_nil, List.cons_append, List.nil_append, List.append_nil, Option.some.injEq, V.int.injEq, V.ref.injEq, V.str.injEq, V.bl.injEq, HO.lst.injEq, HO.tup.injEq, exists_eq_left', exists_and_left, exists_eq_left, List.cons.injEq, and_true, true_and, and_false, false_and, and_self, reduceCtorEq, exists_false, or_false, false_or, exists_const, at0, at1, at2, at3, at4, at5, ix51, ix52, ix54, upd_same, Nat.reduceAdd, Nat.reduceSub, Nat.zero_add, Int.reduceToNat, Int.reduceLE, Int.reduceLT, decide_eq_true_eq, Bool.not_eq_true, if_true, if_false, Bool.false_eq_true, ite_true, ite_false, Bool.not_true, Bool.not_false, decide_true, decide_false, tFor_eq, tLc_eq, iList, iTup, iRng1, iRng2, iStr, tSl, tPart, tNoPart, rSlL, cxOf_K, wipe, ex_ty2, kit_LTl, kit_LTt, kit_LTd, kit_LTs, kit_LTn, kit_LTb, kit_LTi, tM1, rIxS, exists_eq', lt1p, tDNewK, rSlS, rEqNil]
      exact k H (Same.refl H)
    | bl b =>
      try simp only [tSeq, tNext, tRet, tRetN, tAsg, gName, gSub, tDrop, tIfS, tOp, tUn, tCB, tCons, tNil, tC, tVar, rI, rI0, rU, tAnd, tOr, tNot, tAndV, tOrV, tNotV, tIf, tTest, tB, tCall, tChain, tLst, tTup, tYes, rIxH, rIsB, rIsBT, rMulS, kd_non, kd_bl, kd_int, kd_str, kd_ref, kdO_lst, kdO_tup, kdO_dK, nq_n, nq_b, nq_i, nq_s, nq_l, nq_t, nq_d, ne_eq, not_false_eq_true, kit_ss, kit_ns, kit_bs, kit_is, kit_ls, kit_ts, kit_ds, kit_bb, V.ty.injEq, and_assoc, rIxU, rLenH, rLenU, rLenS, rInt1, rSetL, rEq, rNe, rCat, L2.start, List.map, List.length, List.length_cons, List.length_nil, List.replicate, List.getElem?_cons_zero, List.getElem?_cons_succ, List.set_cons_zero, List.set_cons_succ, List.set_nil, List.cons_append, List.nil_append, List.append_nil, Option.some.injEq, V.int.injEq, V.ref.injEq, V.str.injEq, V.bl.injEq, HO.lst.injEq, HO.tup.injEq, exists_eq_left', exists_and_left, exists_eq_left, List.cons.injEq, and_true, true_and, and_false, false_and, and_self, reduceCtorEq, exists_false, or_false, false_or, exists_const, at0, at1, at2, at3, at4, at5, ix51, ix52, ix54, upd_same, Nat.reduceAdd, Nat.reduceSub, Nat.zero_add, Int.reduceToNat, Int.reduceLE, Int.reduceLT, decide_eq_true_eq, Bool.not_eq_true, if_true, if_false, Bool.false_eq_true, ite_true, ite_false, Bool.not_true, Bool.not_false, decide_true, decide_false, tFor_eq, tLc_eq, iList, iTup, iRng1, iRng2, iStr, tSl, tPart, tNoPart, rSlL, cxOf_K, wipe, ex_ty2, kit_LTl, kit_LTt, kit_LTd, kit_LTs, kit_LTn, kit_LTb, kit_LTi, tM1, rIxS, exists_eq', lt1p, tDNewK, rSlS, rEqNil]
      exact k H (Same.refl H)
    | int i =>
      try simp only [tSeq, tNext, tRet, tRetN, tAsg, gName, gSub, tDrop, tIfS, tOp, tUn, tCB, tCons, tNil, tC, tVar, rI, rI0, rU, tAnd, tOr, tNot, tAndV, tOrV, tNotV, tIf, tTest, tB, tCall, tChain, tLst, tTup, tYes, rIxH, rIsB, rIsBT, rMulS, kd_non, kd_bl, kd_int, kd_str, kd_ref, kdO_lst, kdO_tup, kdO_dK, nq_n, nq_b, nq_i, nq_s, nq_l, nq_t, nq_d, ne_eq, not_false_eq_true, kit_ss, kit_ns, kit_bs, kit_is, kit_ls, kit_ts, kit_ds, kit_bb, V.ty.injEq, and_assoc, rIxU, rLenH, rLenU, rLenS, rInt1, rSetL, rEq, rNe, rCat, L2.start, List.map, List.length, List.length_cons, List.length_nil, List.replicate, List.getElem?_cons_zero, List.getElem?_cons_succ, List.set_cons_zero, List.set_cons_succ, List.set_nil, List.cons_append, List.nil_append, List.append_nil, Option.some.injEq, V.int.injEq, V.ref.injEq, V.str.injEq, V.bl.injEq, HO.lst.injEq, HO.tup.injEq, exists_eq_left', exists_and_left, exists_eq_left, List.cons.injEq, and_true, true_and, and_false, false_and, and_self, reduceCtorEq, exists_false, or_false, false_or, exists_const, at0, at1, at2, at3, at4, at5, ix51, ix52, ix54, upd_same, Nat.reduceAdd, Nat.reduceSub, Nat.zero_add, Int.reduceToNat, Int.reduceLE, Int.reduceLT, decide_eq_true_eq, Bool.not_eq_true, if_true, if_false, Bool.false_eq_true, ite_true, ite_false, Bool.not_true, Bool.not_false, decide_true, decide_false, tFor_eq, tLc_eq, iList, iTup, iRng1, iRng2, iStr, tSl, tPart, tNoPart, rSlL, cxOf_K, wipe, ex_ty2, kit_LTl, kit_LTt, kit_LTd, kit_LTs, kit_LTn, kit_LTb, kit_LTi, tM1, rIxS, exists_eq', lt1p, tDNewK, rSlS, rEqNil]
      exact k H (Same.refl H)
end

/-! ### texts -/
section
variable {P : Program} {w : World} {K : PySem.W.Frag} {mg : Str → Option Value} {base : Heap} {A : Adr}
/-- the items of a list or a tuple -/
def seqO : Option HO → Option (List V)
  | some (.lst xs) => some xs
  | some (.tup xs) => some xs
  | _ => none
def seqV (H : Hp) : V → Option (List V)
  | .ref a => seqO (H a)
  | _ => none
def isTextV (H : Hp) (v : V) : Bool := match seqV H v with
  | some xs => decide (xs.length ≤ 12) && xs.all isLineV
  | none => false
def spIsText : Sp := fun vs H Q _ => ∃ v, vs = [v] ∧ Thg H v ∧ (∀ xs, seqV H v = some xs → xs.length ≤ 1000 ∧ ∀ x ∈ xs, Thg H x) ∧ ∀ H', Same H H' → Q (.bl (isTextV H v)) H'
theorem text_of {H : Hp} {v : V} {xs : List V} (h : seqV H v = some xs) : isTextV H v = (decide (xs.length ≤ 12) && xs.all isLineV) := by
  unfold isTextV
  rw [h]
theorem text_no {H : Hp} {v : V} (h : seqV H v = none) : isTextV H v = false := by
  unfold isTextV
  rw [h]
theorem ok_is_text (T : Txt K mg A) (gIsLine : FnOk P w K mg base CX0 2 A.a_IsLine A.d_IsLine ["value"] spIsLine) : FnOk P w K mg base CX0 3 A.a_IsText A.d_IsText ["value"] spIsText := by
  refine T.f_IsText.ok scIsText (fun vs H Q E h => ?_) (fun cdv A' outer s H vs Q E hr h => ?_)
  · obtain ⟨v, rfl, _⟩ := h
    rfl
  · obtain ⟨v, rfl, ht, hx, k⟩ := h
    cases ht with
    | lst e =>
      rename_i a xs
      refine ⟨_, (pss_one (ps_ret (pe_and (pe_callB call_isBT (by rfl) T.z_isinstance (by decide +kernel) (pa_cons (pv 0) (pa_cons (pe_tup (pa_cons (pe_bltn (v := .ty "list") (by rfl) T.z_list (by decide +kernel) rfl) (pa_cons (pe_bltn (v := .ty "tuple") (by rfl) T.z_tuple (by decide +kernel) rfl) pa_nil))) pa_nil))) (pe_and (pe_cmpR (op_le) (pe_callB call_lenH (by rfl) T.z_len (by decide +kernel) (pa_cons (pv 0) pa_nil)) (pe_glob (v := .int 12) (by rfl) T.c_MOST_LINES.choose_spec ⟨_, rfl⟩) (nomark _)) (pe_one (pe_callB (cr_all rfl) (by rfl) T.z_all (by decide +kernel) (pa_cons (pe_lc (own := [("line", 1)]) (g := gName 1) (tt := tYes) (by rfl) scIsText.nd (pi_list (pv 0)) (blkOk_by (own := [("line", 1)]) (N := nIsText) (sc := defScope sIsText) (by decide +kernel)) (fun _ _ _ _ _ => pg_name (i := 1) scIsText.nd rfl (Or.inl rfl)) (fun _ _ _ _ _ => pts_nil) (fun _ _ _ _ _ => (pe_call gIsLine (hr.mono (by decide)) (by rfl) T.m_IsLine T.f_IsLine.kp T.b_IsLine .nil pass0 (pa_cons (pv 1) pa_nil)))) pa_nil))))))), ?_⟩
      try simp only [tSeq, tNext, tRet, tRetN, tAsg, gName, gSub, tDrop, tIfS, tOp, tUn, tCB, tCons, tNil, tC, tVar, rI, rI0, rU, tAnd, tOr, tNot, tAndV, tOrV, tNotV, tIf, tTest, tB, tCall, tChain, tLst, tTup, tYes, rIxH, rIsB, rIsBT, rMulS, kd_non, kd_bl, kd_int, kd_str, kd_ref, kdO_lst, kdO_tup, kdO_dK, nq_n, nq_b, nq_i, nq_s, nq_l, nq_t, nq_d, ne_eq, not_false_eq_true, kit_ss, kit_ns, kit_bs, kit_is, kit_ls, kit_ts, kit_ds, kit_bb, V.ty.injEq, and_assoc, rIxU, rLenH, rLenU, rLenS, rInt1, rSetL, rEq, rNe, rCat, L2.start, List.map, List.length, List.length_cons, List.length_nil, List.replicate, List.getElem?_cons_zero, List.getElem?_cons_succ, List.set_cons_zero, List.set_cons_succ, List.set_nil, List.cons_append, List.nil_append, List.append_nil, Option.some.injEq, V.int.injEq, V.ref.injEq, V.str.injEq, V.bl.injEq, HO.lst.injEq, HO.tup.injEq, exists_eq_left', exists_and_left, exists_eq_left, List.cons.injEq, and_true, true_and, and_false, false_and, and_self, reduceCtorEq, exists_false, or_false, false_or, exists_const, at0, at1, at2, at3, at4, at5, ix51, ix52, ix54, upd_same, Nat.reduceAdd, Nat.reduceSub, Nat.zero_add, Int.reduceToNat, Int.reduceLE, Int.reduceLT, decide_eq_true_eq, Bool.not_eq_true, if_true, if_false, Bool.false_eq_true, ite_true, ite_false, Bool.not_true, Bool.not_false, decide_true, decide_false, tFor_eq, tLc_eq, iList, iTup, iRng1, iRng2, iStr, tSl, tPart, tNoPart, rSlL, cxOf_K, wipe, ex_ty2, kit_LTl, kit_LTt, kit_LTd, kit_LTs, kit_LTn, kit_LTb, kit_LTi, tM1, rIxS, exists_eq', lt1p, tDNewK, rSlS, rEqNil, e]
      refine ⟨by decide, ?_⟩
      intro p n_p; generalize g_H1 : upd H p _ = H1; obtain ⟨s_H1, h_p⟩ := new_facts n_p g_H1; clear g_H1
      have e1 := s_H1 _ _ e
      obtain ⟨hl, hth⟩ := hx xs (by show seqO (H a) = _; rw [e]; rfl)
      have ev : isTextV H (.ref a) = (decide (xs.length ≤ 12) && xs.all isLineV) := text_of (by show seqO (H a) = _; rw [e]; rfl)
      try simp only [tSeq, tNext, tRet, tRetN, tAsg, gName, gSub, tDrop, tIfS, tOp, tUn, tCB, tCons, tNil, tC, tVar, rI, rI0, rU, tAnd, tOr, tNot, tAndV, tOrV, tNotV, tIf, tTest, tB, tCall, tChain, tLst, tTup, tYes, rIxH, rIsB, rIsBT, rMulS, kd_non, kd_bl, kd_int, kd_str, kd_ref, kdO_lst, kdO_tup, kdO_dK, nq_n, nq_b, nq_i, nq_s, nq_l, nq_t, nq_d, ne_eq, not_false_eq_true, kit_ss, kit_ns, kit_bs, kit_is, kit_ls, kit_ts, kit_ds, kit_bb, V.ty.injEq, and_assoc, rIxU, rLenH, rLenU, rLenS, rInt1, rSetL, rEq, rNe, rCat, L2.start, List.map, List.length, List.length_cons, List.length_nil, List.replicate, List.getElem?_cons_zero, List.getElem?_cons_succ, List.set_cons_zero, List.set_cons_succ, List.set_nil, List.cons_append, List.nil_append, List.append_nil, Option.some.injEq, V.int.injEq, V.ref.injEq, V.str.injEq, V.bl.injEq, HO.lst.injEq, HO.tup.injEq, exists_eq_left', exists_and_left, exists_eq_left, List.cons.injEq, and_true, true_and, and_false, false_and, and_self, reduceCtorEq, exists_false, or_false, false_or, exists_const, at0, at1, at2, at3, at4, at5, ix51, ix52, ix54, upd_same, Nat.reduceAdd, Nat.reduceSub, Nat.zero_add, Int.reduceToNat, Int.reduceLE, Int.reduceLT, decide_eq_true_eq, Bool.not_eq_true, if_true, if_false, Bool.false_eq_true, ite_true, ite_false, Bool.not_true, Bool.not_false, decide_true, decide_false, tFor_eq, tLc_eq, iList, iTup, iRng1, iRng2, iStr, tSl, tPart, tNoPart, rSlL, cxOf_K, wipe, ex_ty2, kit_LTl, kit_LTt, kit_LTd, kit_LTs, kit_LTn, kit_LTb, kit_LTi, tM1, rIxS, exists_eq', lt1p, tDNewK, rSlS, rEqNil, e1]
      refine ite2 (fun h => ⟨⟨_, SqL.of e1⟩, fun D hD => ?_⟩) (fun h => ?_)
      · refine lc_same (walk_list (K := K) (xs := xs)) (fun _ => true) (fun v => .bl (isLineV v)) hD (fun _ s2 => s2.seq (SqL.of e1)) (by omega) (fun x hx H2 s2 R R0 h1 _ => ?_) (fun H2 s2 h2 => ?_)
        · try simp only [tSeq, tNext, tRet, tRetN, tAsg, gName, gSub, tDrop, tIfS, tOp, tUn, tCB, tCons, tNil, tC, tVar, rI, rI0, rU, tAnd, tOr, tNot, tAndV, tOrV, tNotV, tIf, tTest, tB, tCall, tChain, tLst, tTup, tYes, rIxH, rIsB, rIsBT, rMulS, kd_non, kd_bl, kd_int, kd_str, kd_ref, kdO_lst, kdO_tup, kdO_dK, nq_n, nq_b, nq_i, nq_s, nq_l, nq_t, nq_d, ne_eq, not_false_eq_true, kit_ss, kit_ns, kit_bs, kit_is, kit_ls, kit_ts, kit_ds, kit_bb, V.ty.injEq, and_assoc, rIxU, rLenH, rLenU, rLenS, rInt1, rSetL, rEq, rNe, rCat, L2.start, List.map, List.length, List.length_cons, List.length_nil, List.replicate, List.getElem?_cons_zero, List.getElem?_cons_succ, List.set_cons_zero, List.set_cons_succ, List.set_nil, List.cons_append, List.nil_append, List.append_nil, Option.some.injEq, V.int.injEq, V.ref.injEq, V.str.injEq, V.bl.injEq, HO.lst.injEq, HO.tup.injEq, exists_eq_left', exists_and_left, exists_eq_left, List.cons.injEq, and_true, true_and, and_false, false_and, and_self, reduceCtorEq, exists_false, or_false, false_or, exists_const, at0, at1, at2, at3, at4, at5, ix51, ix52, ix54, upd_same, Nat.reduceAdd, Nat.reduceSub, Nat.zero_add, Int.reduceToNat, Int.reduceLE, Int.reduceLT, decide_eq_true_eq, Bool.not_eq_true, if_true, if_false, Bool.false_eq_true, ite_true, ite_false, Bool.not_true, Bool.not_false, decide_true, decide_false, tFor_eq, tLc_eq, iList, iTup, iRng1, iRng2, iStr, tSl, tPart, tNoPart, rSlL, cxOf_K, wipe, ex_ty2, kit_LTl, kit_LTt, kit_LTd, kit_LTs, kit_LTn, kit_LTb, kit_LTi, tM1, rIxS, exists_eq', lt1p, tDNewK, rSlS, rEqNil]
          exact ⟨x, rfl, (hth x hx).mono (s_H1.trans s2), fun H3 s3 => h1 H3 s3 rfl⟩
        · rw [filter_all] at h2
          refine ⟨D, xs.map isLineV, rfl, SqL.of (by rw [h2, List.map_map]; rfl), ?_⟩
          rw [decide_eq_true (show xs.length ≤ 12 by omega), Bool.true_and] at ev
          have e2 : (xs.map isLineV).all id = xs.all isLineV := by rw [List.all_map]; rfl
          rw [e2, ← ev]
          exact k H2 (s_H1.trans s2)
      · rw [decide_eq_false (show ¬ xs.length ≤ 12 by omega), Bool.false_and] at ev
        rw [← ev]
        exact k _ s_H1
    | tup e =>
      rename_i a xs
      refine ⟨_, (pss_one (ps_ret (pe_and (pe_callB call_isBT (by rfl) T.z_isinstance (by decide +kernel) (pa_cons (pv 0) (pa_cons (pe_tup (pa_cons (pe_bltn (v := .ty "list") (by rfl) T.z_list (by decide +kernel) rfl) (pa_cons (pe_bltn (v := .ty "tuple") (by rfl) T.z_tuple (by decide +kernel) rfl) pa_nil))) pa_nil))) (pe_and (pe_cmpR (op_le) (pe_callB call_lenU (by rfl) T.z_len (by decide +kernel) (pa_cons (pv 0) pa_nil)) (pe_glob (v := .int 12) (by rfl) T.c_MOST_LINES.choose_spec ⟨_, rfl⟩) (nomark _)) (pe_one (pe_callB (cr_all rfl) (by rfl) T.z_all (by decide +kernel) (pa_cons (pe_lc (own := [("line", 1)]) (g := gName 1) (tt := tYes) (by rfl) scIsText.nd (pi_tup (pv 0)) (blkOk_by (own := [("line", 1)]) (N := nIsText) (sc := defScope sIsText) (by decide +kernel)) (fun _ _ _ _ _ => pg_name (i := 1) scIsText.nd rfl (Or.inl rfl)) (fun _ _ _ _ _ => pts_nil) (fun _ _ _ _ _ => (pe_call gIsLine (hr.mono (by decide)) (by rfl) T.m_IsLine T.f_IsLine.kp T.b_IsLine .nil pass0 (pa_cons (pv 1) pa_nil)))) pa_nil))))))), ?_⟩
      try simp only [tSeq, tNext, tRet, tRetN, tAsg, gName, gSub, tDrop, tIfS, tOp, tUn, tCB, tCons, tNil, tC, tVar, rI, rI0, rU, tAnd, tOr, tNot, tAndV, tOrV, tNotV, tIf, tTest, tB, tCall, tChain, tLst, tTup, tYes, rIxH, rIsB, rIsBT, rMulS, kd_non, kd_bl, kd_int, kd_str, kd_ref, kdO_lst, kdO_tup, kdO_dK, nq_n, nq_b, nq_i, nq_s, nq_l, nq_t, nq_d, ne_eq, not_false_eq_true, kit_ss, kit_ns, kit_bs, kit_is, kit_ls, kit_ts, kit_ds, kit_bb, V.ty.injEq, and_assoc, rIxU, rLenH, rLenU, rLenS, rInt1, rSetL, rEq, rNe, rCat, L2.start, List.map, List.length, List.length_cons, List.length_nil, List.replicate, List.getElem?_cons_zero, List.getElem?_cons_succ, List.set_cons_zero, List.set_cons_succ, List.set_nil, List.cons_append, List.nil_append, List.append_nil, Option.some.injEq, V.int.injEq, V.ref.injEq, V.str.injEq, V.bl.injEq, HO.lst.injEq, HO.tup.injEq, exists_eq_left', exists_and_left, exists_eq_left, List.cons.injEq, and_true, true_and, and_false, false_and, and_self, reduceCtorEq, exists_false, or_false, false_or, exists_const, at0, at1, at2, at3, at4, at5, ix51, ix52, ix54, upd_same, Nat.reduceAdd, Nat.reduceSub, Nat.zero_add, Int.reduceToNat, Int.reduceLE, Int.reduceLT, decide_eq_true_eq, Bool.not_eq_true, if_true, if_false, Bool.false_eq_true, ite_true, ite_false, Bool.not_true, Bool.not_false, decide_true, decide_false, tFor_eq, tLc_eq, iList, iTup, iRng1, iRng2, iStr, tSl, tPart, tNoPart, rSlL, cxOf_K, wipe, ex_ty2, kit_LTl, kit_LTt, kit_LTd, kit_LTs, kit_LTn, kit_LTb, kit_LTi, tM1, rIxS, exists_eq', lt1p, tDNewK, rSlS, rEqNil, e]
      refine ⟨by decide, ?_⟩
      intro p n_p; generalize g_H1 : upd H p _ = H1; obtain ⟨s_H1, h_p⟩ := new_facts n_p g_H1; clear g_H1
      have e1 := s_H1 _ _ e
      obtain ⟨hl, hth⟩ := hx xs (by show seqO (H a) = _; rw [e]; rfl)
      have ev : isTextV H (.ref a) = (decide (xs.length ≤ 12) && xs.all isLineV) := text_of (by show seqO (H a) = _; rw [e]; rfl)
      try simp only [tSeq, tNext, tRet, tRetN, tAsg, gName, gSub, tDrop, tIfS, tOp, tUn, tCB, tCons, tNil, tC, tVar, rI, rI0, rU, tAnd, tOr, tNot, tAndV, tOrV, tNotV, tIf, tTest, tB, tCall, tChain, tLst, tTup, tYes, rIxH, rIsB, rIsBT, rMulS, kd_non, kd_bl, kd_int, kd_str, kd_ref, kdO_lst, kdO_tup, kdO_dK, nq_n, nq_b, nq_i, nq_s, nq_l, nq_t, nq_d, ne_eq, not_false_eq_true, kit_ss, kit_ns, kit_bs, kit_is, kit_ls, kit_ts, kit_ds, kit_bb, V.ty.injEq, and_assoc, rIxU, rLenH, rLenU, rLenS, rInt1, rSetL, rEq, rNe, rCat, L2.start, List.map, List.length, List.length_cons, List.length_nil, List.replicate, List.getElem?_cons_zero, List.getElem?_cons_succ, List.set_cons_zero, List.set_cons_succ, List.set_nil, List.cons_append, List.nil_append, List.append_nil, Option.some.injEq, V.int.injEq, V.ref.injEq, V.str.injEq, V.bl.injEq, HO.lst.injEq, HO.tup.injEq, exists_eq_left', exists_and_left, exists_eq_left, List.cons.injEq, and_true, true_and, and_false, false_and, and_self, reduceCtorEq, exists_false, or_false, false_or, exists_const, at0, at1, at2, at3, at4, at5, ix51, ix52, ix54, upd_same, Nat.reduceAdd, Nat.reduceSub, Nat.zero_add, Int.reduceToNat, Int.reduceLE, Int.reduceLT, decide_eq_true_eq, Bool.not_eq_true, if_true, if_false, Bool.false_eq_true, ite_true, ite_false, Bool.not_true, Bool.not_false, decide_true, decide_false, tFor_eq, tLc_eq, iList, iTup, iRng1, iRng2, iStr, tSl, tPart, tNoPart, rSlL, cxOf_K, wipe, ex_ty2, kit_LTl, kit_LTt, kit_LTd, kit_LTs, kit_LTn, kit_LTb, kit_LTi, tM1, rIxS, exists_eq', lt1p, tDNewK, rSlS, rEqNil, e1]
      refine ite2 (fun h => ⟨⟨_, SqT.of e1⟩, fun D hD => ?_⟩) (fun h => ?_)
      · refine lc_same (walk_tup (K := K) (xs := xs)) (fun _ => true) (fun v => .bl (isLineV v)) hD (fun _ s2 => Same.tup s2 (SqT.of e1)) (by omega) (fun x hx H2 s2 R R0 h1 _ => ?_) (fun H2 s2 h2 => ?_)
        · try simp only [tSeq, tNext, tRet, tRetN, tAsg, gName, gSub, tDrop, tIfS, tOp, tUn, tCB, tCons, tNil, tC, tVar, rI, rI0, rU, tAnd, tOr, tNot, tAndV, tOrV, tNotV, tIf, tTest, tB, tCall, tChain, tLst, tTup, tYes, rIxH, rIsB, rIsBT, rMulS, kd_non, kd_bl, kd_int, kd_str, kd_ref, kdO_lst, kdO_tup, kdO_dK, nq_n, nq_b, nq_i, nq_s, nq_l, nq_t, nq_d, ne_eq, not_false_eq_true, kit_ss, kit_ns, kit_bs, kit_is, kit_ls, kit_ts, kit_ds, kit_bb, V.ty.injEq, and_assoc, rIxU, rLenH, rLenU, rLenS, rInt1, rSetL, rEq, rNe, rCat, L2.start, List.map, List.length, List.length_cons, List.length_nil, List.replicate, List.getElem?_cons_zero, List.getElem?_cons_succ, List.set_cons_zero, List.set_cons_succ, List.set_nil, List.cons_append, List.nil_append, List.append_nil, Option.some.injEq, V.int.injEq, V.ref.injEq, V.str.injEq, V.bl.injEq, HO.lst.injEq, HO.tup.injEq, exists_eq_left', exists_and_left, exists_eq_left, List.cons.injEq, and_true, true_and, and_false, false_and, and_self, reduceCtorEq, exists_false, or_false, false_or, exists_const, at0, at1, at2, at3, at4, at5, ix51, ix52, ix54, upd_same, Nat.reduceAdd, Nat.reduceSub, Nat.zero_add, Int.reduceToNat, Int.reduceLE, Int.reduceLT, decide_eq_true_eq, Bool.not_eq_true, if_true, if_false, Bool.false_eq_true, ite_true, ite_false, Bool.not_true, Bool.not_false, decide_true, decide_false, tFor_eq, tLc_eq, iList, iTup, iRng1, iRng2, iStr, tSl, tPart, tNoPart, rSlL, cxOf_K, wipe, ex_ty2, kit_LTl, kit_LTt, kit_LTd, kit_LTs, kit_LTn, kit_LTb, kit_LTi, tM1, rIxS, exists_eq', lt1p, tDNewK, rSlS, rEqNil]
          exact ⟨x, rfl, (hth x hx).mono (s_H1.trans s2), fun H3 s3 => h1 H3 s3 rfl⟩
        · rw [filter_all] at h2
          refine ⟨D, xs.map isLineV, rfl, SqL.of (by rw [h2, List.map_map]; rfl), ?_⟩
          rw [decide_eq_true (show xs.length ≤ 12 by omega), Bool.true_and] at ev
          have e2 : (xs.map isLineV).all id = xs.all isLineV := by rw [List.all_map]; rfl
          rw [e2, ← ev]
          exact k H2 (s_H1.trans s2)
      · rw [decide_eq_false (show ¬ xs.length ≤ 12 by omega), Bool.false_and] at ev
        rw [← ev]
        exact k _ s_H1
    | dic e =>
      refine ⟨_, (pss_one (ps_ret (pe_and (pe_callB call_isBT (by rfl) T.z_isinstance (by decide +kernel) (pa_cons (pv 0) (pa_cons (pe_tup (pa_cons (pe_bltn (v := .ty "list") (by rfl) T.z_list (by decide +kernel) rfl) (pa_cons (pe_bltn (v := .ty "tuple") (by rfl) T.z_tuple (by decide +kernel) rfl) pa_nil))) pa_nil))) (pe_and (pe_cmpR (op_le) (pe_callB call_lenH (by rfl) T.z_len (by decide +kernel) (pa_cons (pv 0) pa_nil)) (pe_glob (v := .int 12) (by rfl) T.c_MOST_LINES.choose_spec ⟨_, rfl⟩) (nomark _)) (pe_one (pe_callB (cr_all rfl) (by rfl) T.z_all (by decide +kernel) (pa_cons (pe_lc (own := [("line", 1)]) (g := gName 1) (tt := tYes) (by rfl) scIsText.nd (pi_list (pv 0)) (blkOk_by (own := [("line", 1)]) (N := nIsText) (sc := defScope sIsText) (by decide +kernel)) (fun _ _ _ _ _ => pg_name (i := 1) scIsText.nd rfl (Or.inl rfl)) (fun _ _ _ _ _ => pts_nil) (fun _ _ _ _ _ => (pe_call gIsLine (hr.mono (by decide)) (by rfl) T.m_IsLine T.f_IsLine.kp T.b_IsLine .nil pass0 (pa_cons (pv 1) pa_nil)))) pa_nil))))))), ?_⟩
      try simp only [tSeq, tNext, tRet, tRetN, tAsg, gName, gSub, tDrop, tIfS, tOp, tUn, tCB, tCons, tNil, tC, tVar, rI, rI0, rU, tAnd, tOr, tNot, tAndV, tOrV, tNotV, tIf, tTest, tB, tCall, tChain, tLst, tTup, tYes, rIxH, rIsB, rIsBT, rMulS, kd_non, kd_bl, kd_int, kd_str, kd_ref, kdO_lst, kdO_tup, kdO_dK, nq_n, nq_b, nq_i, nq_s, nq_l, nq_t, nq_d, ne_eq, not_false_eq_true, kit_ss, kit_ns, kit_bs, kit_is, kit_ls, kit_ts, kit_ds, kit_bb, V.ty.injEq, and_assoc, rIxU, rLenH, rLenU, rLenS, rInt1, rSetL, rEq, rNe, rCat, L2.start, List.map, List.length, List.length_cons, List.length_nil, List.replicate, List.getElem?_cons_zero, List.getElem?_cons_succ, List.set_cons_zero, List.set_cons_succ, List.set_nil, List.cons_append, List.nil_append, List.append_nil, Option.some.injEq, V.int.injEq, V.ref.injEq, V.str.injEq, V.bl.injEq, HO.lst.injEq, HO.tup.injEq, exists_eq_left', exists_and_left, exists_eq_left, List.cons.injEq, and_true, true_and, and_false, false_and, and_self, reduceCtorEq, exists_false, or_false, false_or, exists_const, at0, at1, at2, at3, at4, at5, ix51, ix52, ix54, upd_same, Nat.reduceAdd, Nat.reduceSub, Nat.zero_add, Int.reduceToNat, Int.reduceLE, Int.reduceLT, decide_eq_true_eq, Bool.not_eq_true, if_true, if_false, Bool.false_eq_true, ite_true, ite_false, Bool.not_true, Bool.not_false, decide_true, decide_false, tFor_eq, tLc_eq, iList, iTup, iRng1, iRng2, iStr, tSl, tPart, tNoPart, rSlL, cxOf_K, wipe, ex_ty2, kit_LTl, kit_LTt, kit_LTd, kit_LTs, kit_LTn, kit_LTb, kit_LTi, tM1, rIxS, exists_eq', lt1p, tDNewK, rSlS, rEqNil, e]
      refine ⟨by decide, ?_⟩
      intro p n_p; generalize g_H1 : upd H p _ = H1; obtain ⟨s_H1, h_p⟩ := new_facts n_p g_H1; clear g_H1
      have e1 := s_H1 _ _ e
      try simp only [tSeq, tNext, tRet, tRetN, tAsg, gName, gSub, tDrop, tIfS, tOp, tUn, tCB, tCons, tNil, tC, tVar, rI, rI0, rU, tAnd, tOr, tNot, tAndV, tOrV, tNotV, tIf, tTest, tB, tCall, tChain, tLst, tTup, tYes, rIxH, rIsB, rIsBT, rMulS, kd_non, kd_bl, kd_int, kd_str, kd_ref, kdO_lst, kdO_tup, kdO_dK, nq_n, nq_b, nq_i, nq_s, nq_l, nq_t, nq_d, ne_eq, not_false_eq_true, kit_ss, kit_ns, kit_bs, kit_is, kit_ls, kit_ts, kit_ds, kit_bb, V.ty.injEq, and_assoc, rIxU, rLenH, rLenU, rLenS, rInt1, rSetL, rEq, rNe, rCat, L2.start, List.map, List.length, List.length_cons, List.length_nil, List.replicate, List.getElem?_cons_zero, List.getElem?_cons_succ, List.set_cons_zero, List.set_cons_succ, List.set_nil, List.cons_append, List.nil_append, List.append_nil, Option.some.injEq, V.int.injEq, V.ref.injEq, V.str.injEq, V.bl.injEq, HO.lst.injEq, HO.tup.injEq, exists_eq_left', exists_and_left, exists_eq_left, List.cons.injEq, and_true, true_and, and_false, false_and, and_self, reduceCtorEq, exists_false, or_false, false_or, exists_const, at0, at1, at2, at3, at4, at5, ix51, ix52, ix54, upd_same, Nat.reduceAdd, Nat.reduceSub, Nat.zero_add, Int.reduceToNat, Int.reduceLE, Int.reduceLT, decide_eq_true_eq, Bool.not_eq_true, if_true, if_false, Bool.false_eq_true, ite_true, ite_false, Bool.not_true, Bool.not_false, decide_true, decide_false, tFor_eq, tLc_eq, iList, iTup, iRng1, iRng2, iStr, tSl, tPart, tNoPart, rSlL, cxOf_K, wipe, ex_ty2, kit_LTl, kit_LTt, kit_LTd, kit_LTs, kit_LTn, kit_LTb, kit_LTi, tM1, rIxS, exists_eq', lt1p, tDNewK, rSlS, rEqNil, e1]
      rw [← text_no (H := H) (v := .ref _) (by show seqO (H _) = _; rw [e]; rfl)]
      exact k _ s_H1
    | non =>
      refine ⟨_, (pss_one (ps_ret (pe_and (pe_callB call_isBT (by rfl) T.z_isinstance (by decide +kernel) (pa_cons (pv 0) (pa_cons (pe_tup (pa_cons (pe_bltn (v := .ty "list") (by rfl) T.z_list (by decide +kernel) rfl) (pa_cons (pe_bltn (v := .ty "tuple") (by rfl) T.z_tuple (by decide +kernel) rfl) pa_nil))) pa_nil))) (pe_and (pe_cmpR (op_le) (pe_callB call_lenH (by rfl) T.z_len (by decide +kernel) (pa_cons (pv 0) pa_nil)) (pe_glob (v := .int 12) (by rfl) T.c_MOST_LINES.choose_spec ⟨_, rfl⟩) (nomark _)) (pe_one (pe_callB (cr_all rfl) (by rfl) T.z_all (by decide +kernel) (pa_cons (pe_lc (own := [("line", 1)]) (g := gName 1) (tt := tYes) (by rfl) scIsText.nd (pi_list (pv 0)) (blkOk_by (own := [("line", 1)]) (N := nIsText) (sc := defScope sIsText) (by decide +kernel)) (fun _ _ _ _ _ => pg_name (i := 1) scIsText.nd rfl (Or.inl rfl)) (fun _ _ _ _ _ => pts_nil) (fun _ _ _ _ _ => (pe_call gIsLine (hr.mono (by decide)) (by rfl) T.m_IsLine T.f_IsLine.kp T.b_IsLine .nil pass0 (pa_cons (pv 1) pa_nil)))) pa_nil))))))), ?_⟩
      try simp only [tSeq, tNext, tRet, tRetN, tAsg, gName, gSub, tDrop, tIfS, tOp, tUn, tCB, tCons, tNil, tC, tVar, rI, rI0, rU, tAnd, tOr, tNot, tAndV, tOrV, tNotV, tIf, tTest, tB, tCall, tChain, tLst, tTup, tYes, rIxH, rIsB, rIsBT, rMulS, kd_non, kd_bl, kd_int, kd_str, kd_ref, kdO_lst, kdO_tup, kdO_dK, nq_n, nq_b, nq_i, nq_s, nq_l, nq_t, nq_d, ne_eq, not_false_eq_true, kit_ss, kit_ns, kit_bs, kit_is, kit_ls, kit_ts, kit_ds, kit_bb, V.ty.injEq, and_assoc, rIxU, rLenH, rLenU, rLenS, rInt1, rSetL, rEq, rNe, rCat, L2.start, List.map, List.length, List.length_cons, List.length_nil, List.replicate, List.getElem?_cons_zero, List.getElem?_cons_succ, List.set_cons_zero, List.set_cons_succ, List.set_nil, List.cons_append, List.nil_append, List.append_nil, Option.some.injEq, V.int.injEq, V.ref.injEq, V.str.injEq, V.bl.injEq, HO.lst.injEq, HO.tup.injEq, exists_eq_left', exists_and_left, exists_eq_left, List.cons.injEq, and_true, true_and, and_false, false_and, and_self, reduceCtorEq, exists_false, or_false, false_or, exists_const, at0, at1, at2, at3, at4, at5, ix51, ix52, ix54, upd_same, Nat.reduceAdd, Nat.reduceSub, Nat.zero_add, Int.reduceToNat, Int.reduceLE, Int.reduceLT, decide_eq_true_eq, Bool.not_eq_true, if_true, if_false, Bool.false_eq_true, ite_true, ite_false, Bool.not_true, Bool.not_false, decide_true, decide_false, tFor_eq, tLc_eq, iList, iTup, iRng1, iRng2, iStr, tSl, tPart, tNoPart, rSlL, cxOf_K, wipe, ex_ty2, kit_LTl, kit_LTt, kit_LTd, kit_LTs, kit_LTn, kit_LTb, kit_LTi, tM1, rIxS, exists_eq', lt1p, tDNewK, rSlS, rEqNil]
      refine ⟨by decide, fun p hp => k _ (same_new hp)⟩
    | bl b =>
      refine ⟨_, (pss_one (ps_ret (pe_and (pe_callB call_isBT (by rfl) T.z_isinstance (by decide +kernel) (pa_cons (pv 0) (pa_cons (pe_tup (pa_cons (pe_bltn (v := .ty "list") (by rfl) T.z_list (by decide +kernel) rfl) (pa_cons (pe_bltn (v := .ty "tuple") (by rfl) T.z_tuple (by decide +kernel) rfl) pa_nil))) pa_nil))) (pe_and (pe_cmpR (op_le) (pe_callB call_lenH (by rfl) T.z_len (by decide +kernel) (pa_cons (pv 0) pa_nil)) (pe_glob (v := .int 12) (by rfl) T.c_MOST_LINES.choose_spec ⟨_, rfl⟩) (nomark _)) (pe_one (pe_callB (cr_all rfl) (by rfl) T.z_all (by decide +kernel) (pa_cons (pe_lc (own := [("line", 1)]) (g := gName 1) (tt := tYes) (by rfl) scIsText.nd (pi_list (pv 0)) (blkOk_by (own := [("line", 1)]) (N := nIsText) (sc := defScope sIsText) (by decide +kernel)) (fun _ _ _ _ _ => pg_name (i := 1) scIsText.nd rfl (Or.inl rfl)) (fun _ _ _ _ _ => pts_nil) (fun _ _ _ _ _ => (pe_call gIsLine (hr.mono (by decide)) (by rfl) T.m_IsLine T.f_IsLine.kp T.b_IsLine .nil pass0 (pa_cons (pv 1) pa_nil)))) pa_nil))))))), ?_⟩
      try simp only [tSeq, tNext, tRet, tRetN, tAsg, gName, gSub, tDrop, tIfS, tOp, tUn, tCB, tCons, tNil, tC, tVar, rI, rI0, rU, tAnd, tOr, tNot, tAndV, tOrV, tNotV, tIf, tTest, tB, tCall, tChain, tLst, tTup, tYes, rIxH, rIsB, rIsBT, rMulS, kd_non, kd_bl, kd_int, kd_str, kd_ref, kdO_lst, kdO_tup, kdO_dK, nq_n, nq_b, nq_i, nq_s, nq_l, nq_t, nq_d, ne_eq, not_false_eq_true, kit_ss, kit_ns, kit_bs, kit_is, kit_ls, kit_ts, kit_ds, kit_bb, V.ty.injEq, and_assoc, rIxU, rLenH, rLenU, rLenS, rInt1, rSetL, rEq, rNe, rCat, L2.start, List.map, List.length, List.length_cons, List.length_nil, List.replicate, List.getElem?_cons_zero, List.getElem?_cons_succ, List.set_cons_zero, List.set_cons_succ, List.set_nil, List.cons_append, List.nil_append, List.append_nil, Option.some.injEq, V.int.injEq, V.ref.injEq, V.str.injEq, V.bl.injEq, HO.lst.injEq, HO.tup.injEq, exists_eq_left', exists_and_left, exists_eq_left, List.cons.injEq, and_true, true_and, and_false, false_and, and_self, reduceCtorEq, exists_false, or_false, false_or, exists_const, at0, at1, at2, at3, at4, at5, ix51, ix52, ix54, upd_same, Nat.reduceAdd, Nat.reduceSub, Nat.zero_add, Int.reduceToNat, Int.reduceLE, Int.reduceLT, decide_eq_true_eq, Bool.not_eq_true, if_true, if_false, Bool.false_eq_true, ite_true, ite_false, Bool.not_true, Bool.not_false, decide_true, decide_false, tFor_eq, tLc_eq, iList, iTup, iRng1, iRng2, iStr, tSl, tPart, tNoPart, rSlL, cxOf_K, wipe, ex_ty2, kit_LTl, kit_LTt, kit_LTd, kit_LTs, kit_LTn, kit_LTb, kit_LTi, tM1, rIxS, exists_eq', lt1p, tDNewK, rSlS, rEqNil]
      refine ⟨by decide, fun p hp => k _ (same_new hp)⟩
    | int i =>
      refine ⟨_, (pss_one (ps_ret (pe_and (pe_callB call_isBT (by rfl) T.z_isinstance (by decide +kernel) (pa_cons (pv 0) (pa_cons (pe_tup (pa_cons (pe_bltn (v := .ty "list") (by rfl) T.z_list (by decide +kernel) rfl) (pa_cons (pe_bltn (v := .ty "tuple") (by rfl) T.z_tuple (by decide +kernel) rfl) pa_nil))) pa_nil))) (pe_and (pe_cmpR (op_le) (pe_callB call_lenH (by rfl) T.z_len (by decide +kernel) (pa_cons (pv 0) pa_nil)) (pe_glob (v := .int 12) (by rfl) T.c_MOST_LINES.choose_spec ⟨_, rfl⟩) (nomark _)) (pe_one (pe_callB (cr_all rfl) (by rfl) T.z_all (by decide +kernel) (pa_cons (pe_lc (own := [("line", 1)]) (g := gName 1) (tt := tYes) (by rfl) scIsText.nd (pi_list (pv 0)) (blkOk_by (own := [("line", 1)]) (N := nIsText) (sc := defScope sIsText) (by decide +kernel)) (fun _ _ _ _ _ => pg_name (i := 1) scIsText.nd rfl (Or.inl rfl)) (fun _ _ _ _ _ => pts_nil) (fun _ _ _ _ _ => (pe_call gIsLine (hr.mono (by decide)) (by rfl) T.m_IsLine T.f_IsLine.kp T.b_IsLine .nil pass0 (pa_cons (pv 1) pa_nil)))) pa_nil))))))), ?_⟩
      try simp only [tSeq, tNext, tRet, tRetN, tAsg, gName, gSub, tDrop, tIfS, tOp, tUn, tCB, tCons, tNil, tC, tVar, rI, rI0, rU, tAnd, tOr, tNot, tAndV, tOrV, tNotV, tIf, tTest, tB, tCall, tChain, tLst, tTup, tYes, rIxH, rIsB, rIsBT, rMulS, kd_non, kd_bl, kd_int, kd_str, kd_ref, kdO_lst, kdO_tup, kdO_dK, nq_n, nq_b, nq_i, nq_s, nq_l, nq_t, nq_d, ne_eq, not_false_eq_true, kit_ss, kit_ns, kit_bs, kit_is, kit_ls, kit_ts, kit_ds, kit_bb, V.ty.injEq, and_assoc, rIxU, rLenH, rLenU, rLenS, rInt1, rSetL, rEq, rNe, rCat, L2.start, List.map, List.length, List.length_cons, List.length_nil, List.replicate, List.getElem?_cons_zero, List.getElem?_cons_succ, List.set_cons_zero, List.set_cons_succ, List.set_nil, List.cons_append, List.nil_append, List.append_nil, Option.some.injEq, V.int.injEq, V.ref.injEq, V.str.injEq, V.bl.injEq, HO.lst.injEq, HO.tup.injEq, exists_eq_left', exists_and_left, exists_eq_left, List.cons.injEq, and_true, true_and, and_false, false_and, and_self, reduceCtorEq, exists_false, or_false, false_or, exists_const, at0, at1, at2, at3, at4, at5, ix51, ix52, ix54, upd_same, Nat.reduceAdd, Nat.reduceSub, Nat.zero_add, Int.reduceToNat, Int.reduceLE, Int.reduceLT, decide_eq_true_eq, Bool.not_eq_true, if_true, if_false, Bool.false_eq_true, ite_true, ite_false, Bool.not_true, Bool.not_false, decide_true, decide_false, tFor_eq, tLc_eq, iList, iTup, iRng1, iRng2, iStr, tSl, tPart, tNoPart, rSlL, cxOf_K, wipe, ex_ty2, kit_LTl, kit_LTt, kit_LTd, kit_LTs, kit_LTn, kit_LTb, kit_LTi, tM1, rIxS, exists_eq', lt1p, tDNewK, rSlS, rEqNil]
      refine ⟨by decide, fun p hp => k _ (same_new hp)⟩
    | str hz =>
      refine ⟨_, (pss_one (ps_ret (pe_and (pe_callB call_isBT (by rfl) T.z_isinstance (by decide +kernel) (pa_cons (pv 0) (pa_cons (pe_tup (pa_cons (pe_bltn (v := .ty "list") (by rfl) T.z_list (by decide +kernel) rfl) (pa_cons (pe_bltn (v := .ty "tuple") (by rfl) T.z_tuple (by decide +kernel) rfl) pa_nil))) pa_nil))) (pe_and (pe_cmpR (op_le) (pe_callB call_lenH (by rfl) T.z_len (by decide +kernel) (pa_cons (pv 0) pa_nil)) (pe_glob (v := .int 12) (by rfl) T.c_MOST_LINES.choose_spec ⟨_, rfl⟩) (nomark _)) (pe_one (pe_callB (cr_all rfl) (by rfl) T.z_all (by decide +kernel) (pa_cons (pe_lc (own := [("line", 1)]) (g := gName 1) (tt := tYes) (by rfl) scIsText.nd (pi_list (pv 0)) (blkOk_by (own := [("line", 1)]) (N := nIsText) (sc := defScope sIsText) (by decide +kernel)) (fun _ _ _ _ _ => pg_name (i := 1) scIsText.nd rfl (Or.inl rfl)) (fun _ _ _ _ _ => pts_nil) (fun _ _ _ _ _ => (pe_call gIsLine (hr.mono (by decide)) (by rfl) T.m_IsLine T.f_IsLine.kp T.b_IsLine .nil pass0 (pa_cons (pv 1) pa_nil)))) pa_nil))))))), ?_⟩
      try simp only [tSeq, tNext, tRet, tRetN, tAsg, gName, gSub, tDrop, tIfS, tOp, tUn, tCB, tCons, tNil, tC, tVar, rI, rI0, rU, tAnd, tOr, tNot, tAndV, tOrV, tNotV, tIf, tTest, tB, tCall, tChain, tLst, tTup, tYes, rIxH, rIsB, rIsBT, rMulS, kd_non, kd_bl, kd_int, kd_str, kd_ref, kdO_lst, kdO_tup, kdO_dK, nq_n, nq_b, nq_i, nq_s, nq_l, nq_t, nq_d, ne_eq, not_false_eq_true, kit_ss, kit_ns, kit_bs, kit_is, kit_ls, kit_ts, kit_ds, kit_bb, V.ty.injEq, and_assoc, rIxU, rLenH, rLenU, rLenS, rInt1, rSetL, rEq, rNe, rCat, L2.start, List.map, List.length, List.length_cons, List.length_nil, List.replicate, List.getElem?_cons_zero, List.getElem?_cons_succ, List.set_cons_zero, List.set_cons_succ, List.set_nil, List.cons_append, List.nil_append, List.append_nil, Option.some.injEq, V.int.injEq, V.ref.injEq, V.str.injEq, V.bl.injEq, HO.lst.injEq, HO.tup.injEq, exists_eq_left', exists_and_left, exists_eq_left, List.cons.injEq, and_true, true_and, and_false, false_and, and_self, reduceCtorEq, exists_false, or_false, false_or, exists_const, at0, at1, at2, at3, at4, at5, ix51, ix52, ix54, upd_same, Nat.reduceAdd, Nat.reduceSub, Nat.zero_add, Int.reduceToNat, Int.reduceLE, Int.reduceLT, decide_eq_true_eq, Bool.not_eq_true, if_true, if_false, Bool.false_eq_true, ite_true, ite_false, Bool.not_true, Bool.not_false, decide_true, decide_false, tFor_eq, tLc_eq, iList, iTup, iRng1, iRng2, iStr, tSl, tPart, tNoPart, rSlL, cxOf_K, wipe, ex_ty2, kit_LTl, kit_LTt, kit_LTd, kit_LTs, kit_LTn, kit_LTb, kit_LTi, tM1, rIxS, exists_eq', lt1p, tDNewK, rSlS, rEqNil]
      refine ⟨by decide, fun p hp => k _ (same_new hp)⟩
end

/-! ## numbers, counts, names -/
def isIntV : V → Bool
  | .int _ => true
  | _ => false
def isCntV : V → Bool
  | .int i => decide (0 ≤ i)
  | _ => false
theorem kit_ii : kitB "int" "int" = some true := by decide +kernel
theorem kit_ibo : kitB "int" "bool" = some false := by decide +kernel
theorem kit_bi : kitB "bool" "int" = some true := by decide +kernel
theorem kit_si : kitB "str" "int" = some false := by decide +kernel
theorem kit_li : kitB "list" "int" = some false := by decide +kernel
theorem kit_ti : kitB "tuple" "int" = some false := by decide +kernel
theorem kit_di : kitB "dict" "int" = some false := by decide +kernel
theorem kit_ni : kitB "NoneType" "int" = some false := by decide +kernel
section
variable {P : Program} {w : World} {K : PySem.W.Frag} {mg : Str → Option Value} {base : Heap} {A : Adr}
def spIsIntT : Sp := fun vs H Q _ => ∃ v, vs = [v] ∧ Thg H v ∧ Q (.bl (isIntV v)) H
theorem ok_isintT (T : Txt K mg A) : FnOk P w K mg base CX0 1 A.a_IsInteger A.d_IsInteger ["value"] spIsIntT := by
  refine T.f_IsInteger.ok scIsInteger (fun vs H Q E h => ?_) (fun cdv A' outer s H vs Q E hr h => ?_)
  · obtain ⟨v, rfl, _⟩ := h
    rfl
  · obtain ⟨v, rfl, ht, k⟩ := h
    refine ⟨_, (pss_one (ps_ret (pe_and (pe_callB call_isB (by rfl) T.z_isinstance (by decide +kernel) (pa_cons (pv 0) (pa_cons (pe_bltn (v := .ty "int") (by rfl) T.z_int (by decide +kernel) rfl) pa_nil))) (pe_one (pe_not (pe_callB call_isB (by rfl) T.z_isinstance (by decide +kernel) (pa_cons (pv 0) (pa_cons (pe_bltn (v := .ty "bool") (by rfl) T.z_bool (by decide +kernel) rfl) pa_nil)))))))), ?_⟩
    cases ht with
    | str hz => try simp only [tSeq, tNext, tRet, tRetN, tAsg, gName, gSub, tDrop, tIfS, tOp, tUn, tCB, tCons, tNil, tC, tVar, rI, rI0, rU, tAnd, tOr, tNot, tAndV, tOrV, tNotV, tIf, tTest, tB, tCall, tChain, tLst, tTup, tYes, rIxH, rIsB, rIsBT, rMulS, kd_non, kd_bl, kd_int, kd_str, kd_ref, kdO_lst, kdO_tup, kdO_dK, nq_n, nq_b, nq_i, nq_s, nq_l, nq_t, nq_d, ne_eq, not_false_eq_true, kit_ss, kit_ns, kit_bs, kit_is, kit_ls, kit_ts, kit_ds, kit_bb, V.ty.injEq, and_assoc, rIxU, rLenH, rLenU, rLenS, rInt1, rSetL, rEq, rNe, rCat, L2.start, List.map, List.length, List.length_cons, List.length_nil, List.replicate, List.getElem?_cons_zero, List.getElem?_cons_succ, List.set_cons_zero, List.set_cons_succ, List.set_nil, List.cons_append, List.nil_append, List.append_nil, Option.some.injEq, V.int.injEq, V.ref.injEq, V.str.injEq, V.bl.injEq, HO.lst.injEq, HO.tup.injEq, exists_eq_left', exists_and_left, exists_eq_left, List.cons.injEq, and_true, true_and, and_false, false_and, and_self, reduceCtorEq, exists_false, or_false, false_or, exists_const, at0, at1, at2, at3, at4, at5, ix51, ix52, ix54, upd_same, Nat.reduceAdd, Nat.reduceSub, Nat.zero_add, Int.reduceToNat, Int.reduceLE, Int.reduceLT, decide_eq_true_eq, Bool.not_eq_true, if_true, if_false, Bool.false_eq_true, ite_true, ite_false, Bool.not_true, Bool.not_false, decide_true, decide_false, tFor_eq, tLc_eq, iList, iTup, iRng1, iRng2, iStr, tSl, tPart, tNoPart, rSlL, cxOf_K, wipe, ex_ty2, kit_LTl, kit_LTt, kit_LTd, kit_LTs, kit_LTn, kit_LTb, kit_LTi, tM1, rIxS, exists_eq', lt1p, tDNewK, rSlS, rEqNil, kit_si]; exact k
    | lst e => try simp only [tSeq, tNext, tRet, tRetN, tAsg, gName, gSub, tDrop, tIfS, tOp, tUn, tCB, tCons, tNil, tC, tVar, rI, rI0, rU, tAnd, tOr, tNot, tAndV, tOrV, tNotV, tIf, tTest, tB, tCall, tChain, tLst, tTup, tYes, rIxH, rIsB, rIsBT, rMulS, kd_non, kd_bl, kd_int, kd_str, kd_ref, kdO_lst, kdO_tup, kdO_dK, nq_n, nq_b, nq_i, nq_s, nq_l, nq_t, nq_d, ne_eq, not_false_eq_true, kit_ss, kit_ns, kit_bs, kit_is, kit_ls, kit_ts, kit_ds, kit_bb, V.ty.injEq, and_assoc, rIxU, rLenH, rLenU, rLenS, rInt1, rSetL, rEq, rNe, rCat, L2.start, List.map, List.length, List.length_cons, List.length_nil, List.replicate, List.getElem?_cons_zero, List.getElem?_cons_succ, List.set_cons_zero, List.set_cons_succ, List.set_nil, List.cons_append, List.nil_append, List.append_nil, Option.some.injEq, V.int.injEq, V.ref.injEq, V.str.injEq, V.bl.injEq, HO.lst.injEq, HO.tup.injEq, exists_eq_left', exists_and_left, exists_eq_left, List.cons.injEq, and_true, true_and, and_false, false_and, and_self, reduceCtorEq, exists_false, or_false, false_or, exists_const, at0, at1, at2, at3, at4, at5, ix51, ix52, ix54, upd_same, Nat.reduceAdd, Nat.reduceSub, Nat.zero_add, Int.reduceToNat, Int.reduceLE, Int.reduceLT, decide_eq_true_eq, Bool.not_eq_true, if_true, if_false, Bool.false_eq_true, ite_true, ite_false, Bool.not_true, Bool.not_false, decide_true, decide_false, tFor_eq, tLc_eq, iList, iTup, iRng1, iRng2, iStr, tSl, tPart, tNoPart, rSlL, cxOf_K, wipe, ex_ty2, kit_LTl, kit_LTt, kit_LTd, kit_LTs, kit_LTn, kit_LTb, kit_LTi, tM1, rIxS, exists_eq', lt1p, tDNewK, rSlS, rEqNil, e, kit_li]; exact k
    | tup e => try simp only [tSeq, tNext, tRet, tRetN, tAsg, gName, gSub, tDrop, tIfS, tOp, tUn, tCB, tCons, tNil, tC, tVar, rI, rI0, rU, tAnd, tOr, tNot, tAndV, tOrV, tNotV, tIf, tTest, tB, tCall, tChain, tLst, tTup, tYes, rIxH, rIsB, rIsBT, rMulS, kd_non, kd_bl, kd_int, kd_str, kd_ref, kdO_lst, kdO_tup, kdO_dK, nq_n, nq_b, nq_i, nq_s, nq_l, nq_t, nq_d, ne_eq, not_false_eq_true, kit_ss, kit_ns, kit_bs, kit_is, kit_ls, kit_ts, kit_ds, kit_bb, V.ty.injEq, and_assoc, rIxU, rLenH, rLenU, rLenS, rInt1, rSetL, rEq, rNe, rCat, L2.start, List.map, List.length, List.length_cons, List.length_nil, List.replicate, List.getElem?_cons_zero, List.getElem?_cons_succ, List.set_cons_zero, List.set_cons_succ, List.set_nil, List.cons_append, List.nil_append, List.append_nil, Option.some.injEq, V.int.injEq, V.ref.injEq, V.str.injEq, V.bl.injEq, HO.lst.injEq, HO.tup.injEq, exists_eq_left', exists_and_left, exists_eq_left, List.cons.injEq, and_true, true_and, and_false, false_and, and_self, reduceCtorEq, exists_false, or_false, false_or, exists_const, at0, at1, at2, at3, at4, at5, ix51, ix52, ix54, upd_same, Nat.reduceAdd, Nat.reduceSub, Nat.zero_add, Int.reduceToNat, Int.reduceLE, Int.reduceLT, decide_eq_true_eq, Bool.not_eq_true, if_true, if_false, Bool.false_eq_true, ite_true, ite_false, Bool.not_true, Bool.not_false, decide_true, decide_false, tFor_eq, tLc_eq, iList, iTup, iRng1, iRng2, iStr, tSl, tPart, tNoPart, rSlL, cxOf_K, wipe, ex_ty2, kit_LTl, kit_LTt, kit_LTd, kit_LTs, kit_LTn, kit_LTb, kit_LTi, tM1, rIxS, exists_eq', lt1p, tDNewK, rSlS, rEqNil, e, kit_ti]; exact k
    | dic e => try simp only [tSeq, tNext, tRet, tRetN, tAsg, gName, gSub, tDrop, tIfS, tOp, tUn, tCB, tCons, tNil, tC, tVar, rI, rI0, rU, tAnd, tOr, tNot, tAndV, tOrV, tNotV, tIf, tTest, tB, tCall, tChain, tLst, tTup, tYes, rIxH, rIsB, rIsBT, rMulS, kd_non, kd_bl, kd_int, kd_str, kd_ref, kdO_lst, kdO_tup, kdO_dK, nq_n, nq_b, nq_i, nq_s, nq_l, nq_t, nq_d, ne_eq, not_false_eq_true, kit_ss, kit_ns, kit_bs, kit_is, kit_ls, kit_ts, kit_ds, kit_bb, V.ty.injEq, and_assoc, rIxU, rLenH, rLenU, rLenS, rInt1, rSetL, rEq, rNe, rCat, L2.start, List.map, List.length, List.length_cons, List.length_nil, List.replicate, List.getElem?_cons_zero, List.getElem?_cons_succ, List.set_cons_zero, List.set_cons_succ, List.set_nil, List.cons_append, List.nil_append, List.append_nil, Option.some.injEq, V.int.injEq, V.ref.injEq, V.str.injEq, V.bl.injEq, HO.lst.injEq, HO.tup.injEq, exists_eq_left', exists_and_left, exists_eq_left, List.cons.injEq, and_true, true_and, and_false, false_and, and_self, reduceCtorEq, exists_false, or_false, false_or, exists_const, at0, at1, at2, at3, at4, at5, ix51, ix52, ix54, upd_same, Nat.reduceAdd, Nat.reduceSub, Nat.zero_add, Int.reduceToNat, Int.reduceLE, Int.reduceLT, decide_eq_true_eq, Bool.not_eq_true, if_true, if_false, Bool.false_eq_true, ite_true, ite_false, Bool.not_true, Bool.not_false, decide_true, decide_false, tFor_eq, tLc_eq, iList, iTup, iRng1, iRng2, iStr, tSl, tPart, tNoPart, rSlL, cxOf_K, wipe, ex_ty2, kit_LTl, kit_LTt, kit_LTd, kit_LTs, kit_LTn, kit_LTb, kit_LTi, tM1, rIxS, exists_eq', lt1p, tDNewK, rSlS, rEqNil, e, kit_di]; exact k
    | non => try simp only [tSeq, tNext, tRet, tRetN, tAsg, gName, gSub, tDrop, tIfS, tOp, tUn, tCB, tCons, tNil, tC, tVar, rI, rI0, rU, tAnd, tOr, tNot, tAndV, tOrV, tNotV, tIf, tTest, tB, tCall, tChain, tLst, tTup, tYes, rIxH, rIsB, rIsBT, rMulS, kd_non, kd_bl, kd_int, kd_str, kd_ref, kdO_lst, kdO_tup, kdO_dK, nq_n, nq_b, nq_i, nq_s, nq_l, nq_t, nq_d, ne_eq, not_false_eq_true, kit_ss, kit_ns, kit_bs, kit_is, kit_ls, kit_ts, kit_ds, kit_bb, V.ty.injEq, and_assoc, rIxU, rLenH, rLenU, rLenS, rInt1, rSetL, rEq, rNe, rCat, L2.start, List.map, List.length, List.length_cons, List.length_nil, List.replicate, List.getElem?_cons_zero, List.getElem?_cons_succ, List.set_cons_zero, List.set_cons_succ, List.set_nil, List.cons_append, List.nil_append, List.append_nil, Option.some.injEq, V.int.injEq, V.ref.injEq, V.str.injEq, V.bl.injEq, HO.lst.injEq, HO.tup.injEq, exists_eq_left', exists_and_left, exists_eq_left, List.cons.injEq, and_true, true_and, and_false, false_and, and_self, reduceCtorEq, exists_false, or_false, false_or, exists_const, at0, at1, at2, at3, at4, at5, ix51, ix52, ix54, upd_same, Nat.reduceAdd, Nat.reduceSub, Nat.zero_add, Int.reduceToNat, Int.reduceLE, Int.reduceLT, decide_eq_true_eq, Bool.not_eq_true, if_true, if_false, Bool.false_eq_true, ite_true, ite_false, Bool.not_true, Bool.not_false, decide_true, decide_false, tFor_eq, tLc_eq, iList, iTup, iRng1, iRng2, iStr, tSl, tPart, tNoPart, rSlL, cxOf_K, wipe, ex_ty2, kit_LTl, kit_LTt, kit_LTd, kit_LTs, kit_LTn, kit_LTb, kit_LTi, tM1, rIxS, exists_eq', lt1p, tDNewK, rSlS, rEqNil, kit_ni]; exact k
    | bl b => try simp only [tSeq, tNext, tRet, tRetN, tAsg, gName, gSub, tDrop, tIfS, tOp, tUn, tCB, tCons, tNil, tC, tVar, rI, rI0, rU, tAnd, tOr, tNot, tAndV, tOrV, tNotV, tIf, tTest, tB, tCall, tChain, tLst, tTup, tYes, rIxH, rIsB, rIsBT, rMulS, kd_non, kd_bl, kd_int, kd_str, kd_ref, kdO_lst, kdO_tup, kdO_dK, nq_n, nq_b, nq_i, nq_s, nq_l, nq_t, nq_d, ne_eq, not_false_eq_true, kit_ss, kit_ns, kit_bs, kit_is, kit_ls, kit_ts, kit_ds, kit_bb, V.ty.injEq, and_assoc, rIxU, rLenH, rLenU, rLenS, rInt1, rSetL, rEq, rNe, rCat, L2.start, List.map, List.length, List.length_cons, List.length_nil, List.replicate, List.getElem?_cons_zero, List.getElem?_cons_succ, List.set_cons_zero, List.set_cons_succ, List.set_nil, List.cons_append, List.nil_append, List.append_nil, Option.some.injEq, V.int.injEq, V.ref.injEq, V.str.injEq, V.bl.injEq, HO.lst.injEq, HO.tup.injEq, exists_eq_left', exists_and_left, exists_eq_left, List.cons.injEq, and_true, true_and, and_false, false_and, and_self, reduceCtorEq, exists_false, or_false, false_or, exists_const, at0, at1, at2, at3, at4, at5, ix51, ix52, ix54, upd_same, Nat.reduceAdd, Nat.reduceSub, Nat.zero_add, Int.reduceToNat, Int.reduceLE, Int.reduceLT, decide_eq_true_eq, Bool.not_eq_true, if_true, if_false, Bool.false_eq_true, ite_true, ite_false, Bool.not_true, Bool.not_false, decide_true, decide_false, tFor_eq, tLc_eq, iList, iTup, iRng1, iRng2, iStr, tSl, tPart, tNoPart, rSlL, cxOf_K, wipe, ex_ty2, kit_LTl, kit_LTt, kit_LTd, kit_LTs, kit_LTn, kit_LTb, kit_LTi, tM1, rIxS, exists_eq', lt1p, tDNewK, rSlS, rEqNil, kit_bi, kit_bb]; exact k
    | int i => try simp only [tSeq, tNext, tRet, tRetN, tAsg, gName, gSub, tDrop, tIfS, tOp, tUn, tCB, tCons, tNil, tC, tVar, rI, rI0, rU, tAnd, tOr, tNot, tAndV, tOrV, tNotV, tIf, tTest, tB, tCall, tChain, tLst, tTup, tYes, rIxH, rIsB, rIsBT, rMulS, kd_non, kd_bl, kd_int, kd_str, kd_ref, kdO_lst, kdO_tup, kdO_dK, nq_n, nq_b, nq_i, nq_s, nq_l, nq_t, nq_d, ne_eq, not_false_eq_true, kit_ss, kit_ns, kit_bs, kit_is, kit_ls, kit_ts, kit_ds, kit_bb, V.ty.injEq, and_assoc, rIxU, rLenH, rLenU, rLenS, rInt1, rSetL, rEq, rNe, rCat, L2.start, List.map, List.length, List.length_cons, List.length_nil, List.replicate, List.getElem?_cons_zero, List.getElem?_cons_succ, List.set_cons_zero, List.set_cons_succ, List.set_nil, List.cons_append, List.nil_append, List.append_nil, Option.some.injEq, V.int.injEq, V.ref.injEq, V.str.injEq, V.bl.injEq, HO.lst.injEq, HO.tup.injEq, exists_eq_left', exists_and_left, exists_eq_left, List.cons.injEq, and_true, true_and, and_false, false_and, and_self, reduceCtorEq, exists_false, or_false, false_or, exists_const, at0, at1, at2, at3, at4, at5, ix51, ix52, ix54, upd_same, Nat.reduceAdd, Nat.reduceSub, Nat.zero_add, Int.reduceToNat, Int.reduceLE, Int.reduceLT, decide_eq_true_eq, Bool.not_eq_true, if_true, if_false, Bool.false_eq_true, ite_true, ite_false, Bool.not_true, Bool.not_false, decide_true, decide_false, tFor_eq, tLc_eq, iList, iTup, iRng1, iRng2, iStr, tSl, tPart, tNoPart, rSlL, cxOf_K, wipe, ex_ty2, kit_LTl, kit_LTt, kit_LTd, kit_LTs, kit_LTn, kit_LTb, kit_LTi, tM1, rIxS, exists_eq', lt1p, tDNewK, rSlS, rEqNil, kit_ii, kit_ibo]; exact k
def spIsCntT : Sp := fun vs H Q _ => ∃ v, vs = [v] ∧ Thg H v ∧ Q (.bl (isCntV v)) H
theorem ok_iscntT (T : Txt K mg A) (gIsInteger : FnOk P w K mg base CX0 1 A.a_IsInteger A.d_IsInteger ["value"] spIsIntT) : FnOk P w K mg base CX0 2 A.a_IsCount A.d_IsCount ["value"] spIsCntT := by
  refine T.f_IsCount.ok scIsCount (fun vs H Q E h => ?_) (fun cdv A' outer s H vs Q E hr h => ?_)
  · obtain ⟨v, rfl, _⟩ := h
    rfl
  · obtain ⟨v, rfl, ht, k⟩ := h
    refine ⟨_, (pss_one (ps_ret (pe_and (pe_call gIsInteger (hr.mono (by decide)) (by rfl) T.m_IsInteger T.f_IsInteger.kp T.b_IsInteger .nil pass0 (pa_cons (pv 0) pa_nil)) (pe_one (pe_cmpR (op_ge) (pv 0) pe_int (nomark _)))))), ?_⟩
    try simp only [tSeq, tNext, tRet, tRetN, tAsg, gName, gSub, tDrop, tIfS, tOp, tUn, tCB, tCons, tNil, tC, tVar, rI, rI0, rU, tAnd, tOr, tNot, tAndV, tOrV, tNotV, tIf, tTest, tB, tCall, tChain, tLst, tTup, tYes, rIxH, rIsB, rIsBT, rMulS, kd_non, kd_bl, kd_int, kd_str, kd_ref, kdO_lst, kdO_tup, kdO_dK, nq_n, nq_b, nq_i, nq_s, nq_l, nq_t, nq_d, ne_eq, not_false_eq_true, kit_ss, kit_ns, kit_bs, kit_is, kit_ls, kit_ts, kit_ds, kit_bb, V.ty.injEq, and_assoc, rIxU, rLenH, rLenU, rLenS, rInt1, rSetL, rEq, rNe, rCat, L2.start, List.map, List.length, List.length_cons, List.length_nil, List.replicate, List.getElem?_cons_zero, List.getElem?_cons_succ, List.set_cons_zero, List.set_cons_succ, List.set_nil, List.cons_append, List.nil_append, List.append_nil, Option.some.injEq, V.int.injEq, V.ref.injEq, V.str.injEq, V.bl.injEq, HO.lst.injEq, HO.tup.injEq, exists_eq_left', exists_and_left, exists_eq_left, List.cons.injEq, and_true, true_and, and_false, false_and, and_self, reduceCtorEq, exists_false, or_false, false_or, exists_const, at0, at1, at2, at3, at4, at5, ix51, ix52, ix54, upd_same, Nat.reduceAdd, Nat.reduceSub, Nat.zero_add, Int.reduceToNat, Int.reduceLE, Int.reduceLT, decide_eq_true_eq, Bool.not_eq_true, if_true, if_false, Bool.false_eq_true, ite_true, ite_false, Bool.not_true, Bool.not_false, decide_true, decide_false, tFor_eq, tLc_eq, iList, iTup, iRng1, iRng2, iStr, tSl, tPart, tNoPart, rSlL, cxOf_K, wipe, ex_ty2, kit_LTl, kit_LTt, kit_LTd, kit_LTs, kit_LTn, kit_LTb, kit_LTi, tM1, rIxS, exists_eq', lt1p, tDNewK, rSlS, rEqNil]
    refine ⟨v, rfl, ht, ?_⟩
    cases ht with
    | int i => try simp only [tSeq, tNext, tRet, tRetN, tAsg, gName, gSub, tDrop, tIfS, tOp, tUn, tCB, tCons, tNil, tC, tVar, rI, rI0, rU, tAnd, tOr, tNot, tAndV, tOrV, tNotV, tIf, tTest, tB, tCall, tChain, tLst, tTup, tYes, rIxH, rIsB, rIsBT, rMulS, kd_non, kd_bl, kd_int, kd_str, kd_ref, kdO_lst, kdO_tup, kdO_dK, nq_n, nq_b, nq_i, nq_s, nq_l, nq_t, nq_d, ne_eq, not_false_eq_true, kit_ss, kit_ns, kit_bs, kit_is, kit_ls, kit_ts, kit_ds, kit_bb, V.ty.injEq, and_assoc, rIxU, rLenH, rLenU, rLenS, rInt1, rSetL, rEq, rNe, rCat, L2.start, List.map, List.length, List.length_cons, List.length_nil, List.replicate, List.getElem?_cons_zero, List.getElem?_cons_succ, List.set_cons_zero, List.set_cons_succ, List.set_nil, List.cons_append, List.nil_append, List.append_nil, Option.some.injEq, V.int.injEq, V.ref.injEq, V.str.injEq, V.bl.injEq, HO.lst.injEq, HO.tup.injEq, exists_eq_left', exists_and_left, exists_eq_left, List.cons.injEq, and_true, true_and, and_false, false_and, and_self, reduceCtorEq, exists_false, or_false, false_or, exists_const, at0, at1, at2, at3, at4, at5, ix51, ix52, ix54, upd_same, Nat.reduceAdd, Nat.reduceSub, Nat.zero_add, Int.reduceToNat, Int.reduceLE, Int.reduceLT, decide_eq_true_eq, Bool.not_eq_true, if_true, if_false, Bool.false_eq_true, ite_true, ite_false, Bool.not_true, Bool.not_false, decide_true, decide_false, tFor_eq, tLc_eq, iList, iTup, iRng1, iRng2, iStr, tSl, tPart, tNoPart, rSlL, cxOf_K, wipe, ex_ty2, kit_LTl, kit_LTt, kit_LTd, kit_LTs, kit_LTn, kit_LTb, kit_LTi, tM1, rIxS, exists_eq', lt1p, tDNewK, rSlS, rEqNil, isIntV]; exact k
    | str hz => try simp only [tSeq, tNext, tRet, tRetN, tAsg, gName, gSub, tDrop, tIfS, tOp, tUn, tCB, tCons, tNil, tC, tVar, rI, rI0, rU, tAnd, tOr, tNot, tAndV, tOrV, tNotV, tIf, tTest, tB, tCall, tChain, tLst, tTup, tYes, rIxH, rIsB, rIsBT, rMulS, kd_non, kd_bl, kd_int, kd_str, kd_ref, kdO_lst, kdO_tup, kdO_dK, nq_n, nq_b, nq_i, nq_s, nq_l, nq_t, nq_d, ne_eq, not_false_eq_true, kit_ss, kit_ns, kit_bs, kit_is, kit_ls, kit_ts, kit_ds, kit_bb, V.ty.injEq, and_assoc, rIxU, rLenH, rLenU, rLenS, rInt1, rSetL, rEq, rNe, rCat, L2.start, List.map, List.length, List.length_cons, List.length_nil, List.replicate, List.getElem?_cons_zero, List.getElem?_cons_succ, List.set_cons_zero, List.set_cons_succ, List.set_nil, List.cons_append, List.nil_append, List.append_nil, Option.some.injEq, V.int.injEq, V.ref.injEq, V.str.injEq, V.bl.injEq, HO.lst.injEq, HO.tup.injEq, exists_eq_left', exists_and_left, exists_eq_left, List.cons.injEq, and_true, true_and, and_false, false_and, and_self, reduceCtorEq, exists_false, or_false, false_or, exists_const, at0, at1, at2, at3, at4, at5, ix51, ix52, ix54, upd_same, Nat.reduceAdd, Nat.reduceSub, Nat.zero_add, Int.reduceToNat, Int.reduceLE, Int.reduceLT, decide_eq_true_eq, Bool.not_eq_true, if_true, if_false, Bool.false_eq_true, ite_true, ite_false, Bool.not_true, Bool.not_false, decide_true, decide_false, tFor_eq, tLc_eq, iList, iTup, iRng1, iRng2, iStr, tSl, tPart, tNoPart, rSlL, cxOf_K, wipe, ex_ty2, kit_LTl, kit_LTt, kit_LTd, kit_LTs, kit_LTn, kit_LTb, kit_LTi, tM1, rIxS, exists_eq', lt1p, tDNewK, rSlS, rEqNil, isIntV]; exact k
    | lst e => try simp only [tSeq, tNext, tRet, tRetN, tAsg, gName, gSub, tDrop, tIfS, tOp, tUn, tCB, tCons, tNil, tC, tVar, rI, rI0, rU, tAnd, tOr, tNot, tAndV, tOrV, tNotV, tIf, tTest, tB, tCall, tChain, tLst, tTup, tYes, rIxH, rIsB, rIsBT, rMulS, kd_non, kd_bl, kd_int, kd_str, kd_ref, kdO_lst, kdO_tup, kdO_dK, nq_n, nq_b, nq_i, nq_s, nq_l, nq_t, nq_d, ne_eq, not_false_eq_true, kit_ss, kit_ns, kit_bs, kit_is, kit_ls, kit_ts, kit_ds, kit_bb, V.ty.injEq, and_assoc, rIxU, rLenH, rLenU, rLenS, rInt1, rSetL, rEq, rNe, rCat, L2.start, List.map, List.length, List.length_cons, List.length_nil, List.replicate, List.getElem?_cons_zero, List.getElem?_cons_succ, List.set_cons_zero, List.set_cons_succ, List.set_nil, List.cons_append, List.nil_append, List.append_nil, Option.some.injEq, V.int.injEq, V.ref.injEq, V.str.injEq, V.bl.injEq, HO.lst.injEq, HO.tup.injEq, exists_eq_left', exists_and_left, exists_eq_left, List.cons.injEq, and_true, true_and, and_false, false_and, and_self, reduceCtorEq, exists_false, or_false, false_or, exists_const, at0, at1, at2, at3, at4, at5, ix51, ix52, ix54, upd_same, Nat.reduceAdd, Nat.reduceSub, Nat.zero_add, Int.reduceToNat, Int.reduceLE, Int.reduceLT, decide_eq_true_eq, Bool.not_eq_true, if_true, if_false, Bool.false_eq_true, ite_true, ite_false, Bool.not_true, Bool.not_false, decide_true, decide_false, tFor_eq, tLc_eq, iList, iTup, iRng1, iRng2, iStr, tSl, tPart, tNoPart, rSlL, cxOf_K, wipe, ex_ty2, kit_LTl, kit_LTt, kit_LTd, kit_LTs, kit_LTn, kit_LTb, kit_LTi, tM1, rIxS, exists_eq', lt1p, tDNewK, rSlS, rEqNil, isIntV]; exact k
    | tup e => try simp only [tSeq, tNext, tRet, tRetN, tAsg, gName, gSub, tDrop, tIfS, tOp, tUn, tCB, tCons, tNil, tC, tVar, rI, rI0, rU, tAnd, tOr, tNot, tAndV, tOrV, tNotV, tIf, tTest, tB, tCall, tChain, tLst, tTup, tYes, rIxH, rIsB, rIsBT, rMulS, kd_non, kd_bl, kd_int, kd_str, kd_ref, kdO_lst, kdO_tup, kdO_dK, nq_n, nq_b, nq_i, nq_s, nq_l, nq_t, nq_d, ne_eq, not_false_eq_true, kit_ss, kit_ns, kit_bs, kit_is, kit_ls, kit_ts, kit_ds, kit_bb, V.ty.injEq, and_assoc, rIxU, rLenH, rLenU, rLenS, rInt1, rSetL, rEq, rNe, rCat, L2.start, List.map, List.length, List.length_cons, List.length_nil, List.replicate, List.getElem?_cons_zero, List.getElem?_cons_succ, List.set_cons_zero, List.set_cons_succ, List.set_nil, List.cons_append, List.nil_append, List.append_nil, Option.some.injEq, V.int.injEq, V.ref.injEq, V.str.injEq, V.bl.injEq, HO.lst.injEq, HO.tup.injEq, exists_eq_left', exists_and_left, exists_eq_left, List.cons.injEq, and_true, true_and, and_false, false_and, and_self, reduceCtorEq, exists_false, or_false, false_or, exists_const, at0, at1, at2, at3, at4, at5, ix51, ix52, ix54, upd_same, Nat.reduceAdd, Nat.reduceSub, Nat.zero_add, Int.reduceToNat, Int.reduceLE, Int.reduceLT, decide_eq_true_eq, Bool.not_eq_true, if_true, if_false, Bool.false_eq_true, ite_true, ite_false, Bool.not_true, Bool.not_false, decide_true, decide_false, tFor_eq, tLc_eq, iList, iTup, iRng1, iRng2, iStr, tSl, tPart, tNoPart, rSlL, cxOf_K, wipe, ex_ty2, kit_LTl, kit_LTt, kit_LTd, kit_LTs, kit_LTn, kit_LTb, kit_LTi, tM1, rIxS, exists_eq', lt1p, tDNewK, rSlS, rEqNil, isIntV]; exact k
    | dic e => try simp only [tSeq, tNext, tRet, tRetN, tAsg, gName, gSub, tDrop, tIfS, tOp, tUn, tCB, tCons, tNil, tC, tVar, rI, rI0, rU, tAnd, tOr, tNot, tAndV, tOrV, tNotV, tIf, tTest, tB, tCall, tChain, tLst, tTup, tYes, rIxH, rIsB, rIsBT, rMulS, kd_non, kd_bl, kd_int, kd_str, kd_ref, kdO_lst, kdO_tup, kdO_dK, nq_n, nq_b, nq_i, nq_s, nq_l, nq_t, nq_d, ne_eq, not_false_eq_true, kit_ss, kit_ns, kit_bs, kit_is, kit_ls, kit_ts, kit_ds, kit_bb, V.ty.injEq, and_assoc, rIxU, rLenH, rLenU, rLenS, rInt1, rSetL, rEq, rNe, rCat, L2.start, List.map, List.length, List.length_cons, List.length_nil, List.replicate, List.getElem?_cons_zero, List.getElem?_cons_succ, List.set_cons_zero, List.set_cons_succ, List.set_nil, List.cons_append, List.nil_append, List.append_nil, Option.some.injEq, V.int.injEq, V.ref.injEq, V.str.injEq, V.bl.injEq, HO.lst.injEq, HO.tup.injEq, exists_eq_left', exists_and_left, exists_eq_left, List.cons.injEq, and_true, true_and, and_false, false_and, and_self, reduceCtorEq, exists_false, or_false, false_or, exists_const, at0, at1, at2, at3, at4, at5, ix51, ix52, ix54, upd_same, Nat.reduceAdd, Nat.reduceSub, Nat.zero_add, Int.reduceToNat, Int.reduceLE, Int.reduceLT, decide_eq_true_eq, Bool.not_eq_true, if_true, if_false, Bool.false_eq_true, ite_true, ite_false, Bool.not_true, Bool.not_false, decide_true, decide_false, tFor_eq, tLc_eq, iList, iTup, iRng1, iRng2, iStr, tSl, tPart, tNoPart, rSlL, cxOf_K, wipe, ex_ty2, kit_LTl, kit_LTt, kit_LTd, kit_LTs, kit_LTn, kit_LTb, kit_LTi, tM1, rIxS, exists_eq', lt1p, tDNewK, rSlS, rEqNil, isIntV]; exact k
    | non => try simp only [tSeq, tNext, tRet, tRetN, tAsg, gName, gSub, tDrop, tIfS, tOp, tUn, tCB, tCons, tNil, tC, tVar, rI, rI0, rU, tAnd, tOr, tNot, tAndV, tOrV, tNotV, tIf, tTest, tB, tCall, tChain, tLst, tTup, tYes, rIxH, rIsB, rIsBT, rMulS, kd_non, kd_bl, kd_int, kd_str, kd_ref, kdO_lst, kdO_tup, kdO_dK, nq_n, nq_b, nq_i, nq_s, nq_l, nq_t, nq_d, ne_eq, not_false_eq_true, kit_ss, kit_ns, kit_bs, kit_is, kit_ls, kit_ts, kit_ds, kit_bb, V.ty.injEq, and_assoc, rIxU, rLenH, rLenU, rLenS, rInt1, rSetL, rEq, rNe, rCat, L2.start, List.map, List.length, List.length_cons, List.length_nil, List.replicate, List.getElem?_cons_zero, List.getElem?_cons_succ, List.set_cons_zero, List.set_cons_succ, List.set_nil, List.cons_append, List.nil_append, List.append_nil, Option.some.injEq, V.int.injEq, V.ref.injEq, V.str.injEq, V.bl.injEq, HO.lst.injEq, HO.tup.injEq, exists_eq_left', exists_and_left, exists_eq_left, List.cons.injEq, and_true, true_and, and_false, false_and, and_self, reduceCtorEq, exists_false, or_false, false_or, exists_const, at0, at1, at2, at3, at4, at5, ix51, ix52, ix54, upd_same, Nat.reduceAdd, Nat.reduceSub, Nat.zero_add, Int.reduceToNat, Int.reduceLE, Int.reduceLT, decide_eq_true_eq, Bool.not_eq_true, if_true, if_false, Bool.false_eq_true, ite_true, ite_false, Bool.not_true, Bool.not_false, decide_true, decide_false, tFor_eq, tLc_eq, iList, iTup, iRng1, iRng2, iStr, tSl, tPart, tNoPart, rSlL, cxOf_K, wipe, ex_ty2, kit_LTl, kit_LTt, kit_LTd, kit_LTs, kit_LTn, kit_LTb, kit_LTi, tM1, rIxS, exists_eq', lt1p, tDNewK, rSlS, rEqNil, isIntV]; exact k
    | bl b => try simp only [tSeq, tNext, tRet, tRetN, tAsg, gName, gSub, tDrop, tIfS, tOp, tUn, tCB, tCons, tNil, tC, tVar, rI, rI0, rU, tAnd, tOr, tNot, tAndV, tOrV, tNotV, tIf, tTest, tB, tCall, tChain, tLst, tTup, tYes, rIxH, rIsB, rIsBT, rMulS, kd_non, kd_bl, kd_int, kd_str, kd_ref, kdO_lst, kdO_tup, kdO_dK, nq_n, nq_b, nq_i, nq_s, nq_l, nq_t, nq_d, ne_eq, not_false_eq_true, kit_ss, kit_ns, kit_bs, kit_is, kit_ls, kit_ts, kit_ds, kit_bb, V.ty.injEq, and_assoc, rIxU, rLenH, rLenU, rLenS, rInt1, rSetL, rEq, rNe, rCat, L2.start, List.map, List.length, List.length_cons, List.length_nil, List.replicate, List.getElem?_cons_zero, List.getElem?_cons_succ, List.set_cons_zero, List.set_cons_succ, List.set_nil, List.cons_append, List.nil_append, List.append_nil, Option.some.injEq, V.int.injEq, V.ref.injEq, V.str.injEq, V.bl.injEq, HO.lst.injEq, HO.tup.injEq, exists_eq_left', exists_and_left, exists_eq_left, List.cons.injEq, and_true, true_and, and_false, false_and, and_self, reduceCtorEq, exists_false, or_false, false_or, exists_const, at0, at1, at2, at3, at4, at5, ix51, ix52, ix54, upd_same, Nat.reduceAdd, Nat.reduceSub, Nat.zero_add, Int.reduceToNat, Int.reduceLE, Int.reduceLT, decide_eq_true_eq, Bool.not_eq_true, if_true, if_false, Bool.false_eq_true, ite_true, ite_false, Bool.not_true, Bool.not_false, decide_true, decide_false, tFor_eq, tLc_eq, iList, iTup, iRng1, iRng2, iStr, tSl, tPart, tNoPart, rSlL, cxOf_K, wipe, ex_ty2, kit_LTl, kit_LTt, kit_LTd, kit_LTs, kit_LTn, kit_LTb, kit_LTi, tM1, rIxS, exists_eq', lt1p, tDNewK, rSlS, rEqNil, isIntV]; exact k
def smallS : Str := "abcdefghijklmnopqrstuvwxyz"
def isNameV : V → Bool
  | .str z => decide (1 ≤ z.length) && decide (z.length ≤ 8) && z.cps.toList.all fun c => decide (c ∈ smallS.cps.toList)
  | _ => false
def spIsNameT : Sp := fun vs H Q _ => ∃ v, vs = [v] ∧ Thg H v ∧ ∀ H', Same H H' → Q (.bl (isNameV v)) H'
theorem ok_isnameT (T : Txt K mg A) : FnOk P w K mg base CX0 1 A.a_IsName A.d_IsName ["value"] spIsNameT := by
  refine T.f_IsName.ok scIsName (fun vs H Q E h => ?_) (fun cdv A' outer s H vs Q E hr h => ?_)
  · obtain ⟨v, rfl, _⟩ := h
    rfl
  · obtain ⟨v, rfl, ht, k⟩ := h
    refine ⟨_, (pss_cons (ps_if (PW.pt (pw_or (pt_not (pt_val (pe_callB call_isB (by rfl) T.z_isinstance (by decide +kernel) (pa_cons (pv 0) (pa_cons (pe_bltn (v := .ty "str") (by rfl) T.z_str (by decide +kernel) rfl) pa_nil))))) (pw_or1 (pt_not (pt_chain (op_le) (op_le) pe_int (pe_callB call_lenS (by rfl) T.z_len (by decide +kernel) (pa_cons (pv 0) pa_nil)) (pe_glob (v := .int 8) (by rfl) T.c_LONGEST_NAME.choose_spec ⟨_, rfl⟩)))))) (pss_one (ps_ret pe_bl)) pss_nil)
      (pss_one (ps_ret (pe_callB (cr_all rfl) (by rfl) T.z_all (by decide +kernel) (pa_cons (pe_lc (own := [("sign", 1)]) (g := gName 1) (tt := tYes) (by rfl) scIsName.nd (pi_str (pv 0)) (blkOk_by (own := [("sign", 1)]) (N := nIsName) (sc := defScope sIsName) (by decide +kernel)) (fun _ _ _ _ _ => pg_name (i := 1) scIsName.nd rfl (Or.inl rfl)) (fun _ _ _ _ _ => pts_nil) (fun _ _ _ _ _ => (pe_cmpR (op_in_sign) (pv 1) (pe_glob (v := .str "abcdefghijklmnopqrstuvwxyz") (by rfl) T.c_SMALL.choose_spec ⟨_, rfl⟩) (by rfl)))) pa_nil))))), ?_⟩
    cases ht with
    | str hz =>
      rename_i z
      try simp only [tSeq, tNext, tRet, tRetN, tAsg, gName, gSub, tDrop, tIfS, tOp, tUn, tCB, tCons, tNil, tC, tVar, rI, rI0, rU, tAnd, tOr, tNot, tAndV, tOrV, tNotV, tIf, tTest, tB, tCall, tChain, tLst, tTup, tYes, rIxH, rIsB, rIsBT, rMulS, kd_non, kd_bl, kd_int, kd_str, kd_ref, kdO_lst, kdO_tup, kdO_dK, nq_n, nq_b, nq_i, nq_s, nq_l, nq_t, nq_d, ne_eq, not_false_eq_true, kit_ss, kit_ns, kit_bs, kit_is, kit_ls, kit_ts, kit_ds, kit_bb, V.ty.injEq, and_assoc, rIxU, rLenH, rLenU, rLenS, rInt1, rSetL, rEq, rNe, rCat, L2.start, List.map, List.length, List.length_cons, List.length_nil, List.replicate, List.getElem?_cons_zero, List.getElem?_cons_succ, List.set_cons_zero, List.set_cons_succ, List.set_nil, List.cons_append, List.nil_append, List.append_nil, Option.some.injEq, V.int.injEq, V.ref.injEq, V.str.injEq, V.bl.injEq, HO.lst.injEq, HO.tup.injEq, exists_eq_left', exists_and_left, exists_eq_left, List.cons.injEq, and_true, true_and, and_false, false_and, and_self, reduceCtorEq, exists_false, or_false, false_or, exists_const, at0, at1, at2, at3, at4, at5, ix51, ix52, ix54, upd_same, Nat.reduceAdd, Nat.reduceSub, Nat.zero_add, Int.reduceToNat, Int.reduceLE, Int.reduceLT, decide_eq_true_eq, Bool.not_eq_true, if_true, if_false, Bool.false_eq_true, ite_true, ite_false, Bool.not_true, Bool.not_false, decide_true, decide_false, tFor_eq, tLc_eq, iList, iTup, iRng1, iRng2, iStr, tSl, tPart, tNoPart, rSlL, cxOf_K, wipe, ex_ty2, kit_LTl, kit_LTt, kit_LTd, kit_LTs, kit_LTn, kit_LTb, kit_LTi, tM1, rIxS, exists_eq', lt1p, tDNewK, rSlS, rEqNil]
      have hz1 := hz.1
      have nm : isNameV (.str z) = (decide (1 ≤ z.length) && decide (z.length ≤ 8) && z.cps.toList.all fun c => decide (c ∈ smallS.cps.toList)) := rfl
      refine ⟨size1000 hz1, ite2 (fun h1 => ite2 (fun h2 => ?_) (fun h2 => ?_)) (fun h1 => ?_)⟩
      · have h2' := of_decide_eq_false ((Bool.not_eq_true' _).mp h2)
        rw [decide_eq_false (show ¬ z.length ≤ 8 by omega), Bool.and_false, Bool.false_and] at nm
        rw [← nm]
        exact k H (Same.refl H)
      · have h2' : z.length ≤ 8 := by
          by_cases h8 : z.length ≤ 8
          · exact h8
          · refine absurd ?_ h2
            rw [decide_eq_false (by omega)]
            rfl
        rw [decide_eq_true (show 1 ≤ z.length by omega), decide_eq_true h2', Bool.true_and, Bool.true_and] at nm
        intro D hD
        refine lc_same walk_strY (fun _ => true) (fun v => .bl (decide (codeOf v ∈ smallS.cps.toList))) hD (fun _ _ => trivial) (by rw [List.length_map, Array.length_toList]; show z.length ≤ _; omega) (fun x hx H2 s2 R R0 g1 _ => ?_) (fun H2 s2 g2 => ?_)
        · obtain ⟨c, hc, rfl⟩ := mem_sgn hx
          try simp only [tSeq, tNext, tRet, tRetN, tAsg, gName, gSub, tDrop, tIfS, tOp, tUn, tCB, tCons, tNil, tC, tVar, rI, rI0, rU, tAnd, tOr, tNot, tAndV, tOrV, tNotV, tIf, tTest, tB, tCall, tChain, tLst, tTup, tYes, rIxH, rIsB, rIsBT, rMulS, kd_non, kd_bl, kd_int, kd_str, kd_ref, kdO_lst, kdO_tup, kdO_dK, nq_n, nq_b, nq_i, nq_s, nq_l, nq_t, nq_d, ne_eq, not_false_eq_true, kit_ss, kit_ns, kit_bs, kit_is, kit_ls, kit_ts, kit_ds, kit_bb, V.ty.injEq, and_assoc, rIxU, rLenH, rLenU, rLenS, rInt1, rSetL, rEq, rNe, rCat, L2.start, List.map, List.length, List.length_cons, List.length_nil, List.replicate, List.getElem?_cons_zero, List.getElem?_cons_succ, List.set_cons_zero, List.set_cons_succ, List.set_nil, List.cons_append, List.nil_append, List.append_nil, Option.some.injEq, V.int.injEq, V.ref.injEq, V.str.injEq, V.bl.injEq, HO.lst.injEq, HO.tup.injEq, exists_eq_left', exists_and_left, exists_eq_left, List.cons.injEq, and_true, true_and, and_false, false_and, and_self, reduceCtorEq, exists_false, or_false, false_or, exists_const, at0, at1, at2, at3, at4, at5, ix51, ix52, ix54, upd_same, Nat.reduceAdd, Nat.reduceSub, Nat.zero_add, Int.reduceToNat, Int.reduceLE, Int.reduceLT, decide_eq_true_eq, Bool.not_eq_true, if_true, if_false, Bool.false_eq_true, ite_true, ite_false, Bool.not_true, Bool.not_false, decide_true, decide_false, tFor_eq, tLc_eq, iList, iTup, iRng1, iRng2, iStr, tSl, tPart, tNoPart, rSlL, cxOf_K, wipe, ex_ty2, kit_LTl, kit_LTt, kit_LTd, kit_LTs, kit_LTn, kit_LTb, kit_LTi, tM1, rIxS, exists_eq', lt1p, tDNewK, rSlS, rEqNil]
          exact ⟨c, rfl, g1 H2 (Same.refl _) rfl⟩
        · rw [filter_all, List.map_map] at g2
          refine ⟨D, z.cps.toList.map (fun c => decide (c ∈ smallS.cps.toList)), rfl, SqL.of (by rw [g2, List.map_map]; rfl), ?_⟩
          have e2 : (z.cps.toList.map fun c => decide (c ∈ smallS.cps.toList)).all id = z.cps.toList.all fun c => decide (c ∈ smallS.cps.toList) := by rw [List.all_map]; rfl
          rw [e2, ← nm]
          exact k H2 s2
      · rw [decide_eq_false (show ¬ 1 ≤ z.length by omega), Bool.false_and, Bool.false_and] at nm
        rw [← nm]
        exact k H (Same.refl H)
    | lst e => try simp only [tSeq, tNext, tRet, tRetN, tAsg, gName, gSub, tDrop, tIfS, tOp, tUn, tCB, tCons, tNil, tC, tVar, rI, rI0, rU, tAnd, tOr, tNot, tAndV, tOrV, tNotV, tIf, tTest, tB, tCall, tChain, tLst, tTup, tYes, rIxH, rIsB, rIsBT, rMulS, kd_non, kd_bl, kd_int, kd_str, kd_ref, kdO_lst, kdO_tup, kdO_dK, nq_n, nq_b, nq_i, nq_s, nq_l, nq_t, nq_d, ne_eq, not_false_eq_true, kit_ss, kit_ns, kit_bs, kit_is, kit_ls, kit_ts, kit_ds, kit_bb, V.ty.injEq, and_assoc, rIxU, rLenH, rLenU, rLenS, rInt1, rSetL, rEq, rNe, rCat, L2.start, List.map, List.length, List.length_cons, List.length_nil, List.replicate, List.getElem?_cons_zero, List.getElem?_cons_succ, List.set_cons_zero, List.set_cons_succ, List.set_nil, List.cons_append, List.nil_append, List.append_nil, Option.some.injEq, V.int.injEq, V.ref.injEq, V.str.injEq, V.bl.injEq, HO.lst.injEq, HO.tup.injEq, exists_eq_left', exists_and_left, exists_eq_left, List.cons.injEq, and_true, true_and, and_false, false_and, and_self, reduceCtorEq, exists_false, or_false, false_or, exists_const, at0, at1, at2, at3, at4, at5, ix51, ix52, ix54, upd_same, Nat.reduceAdd, Nat.reduceSub, Nat.zero_add, Int.reduceToNat, Int.reduceLE, Int.reduceLT, decide_eq_true_eq, Bool.not_eq_true, if_true, if_false, Bool.false_eq_true, ite_true, ite_false, Bool.not_true, Bool.not_false, decide_true, decide_false, tFor_eq, tLc_eq, iList, iTup, iRng1, iRng2, iStr, tSl, tPart, tNoPart, rSlL, cxOf_K, wipe, ex_ty2, kit_LTl, kit_LTt, kit_LTd, kit_LTs, kit_LTn, kit_LTb, kit_LTi, tM1, rIxS, exists_eq', lt1p, tDNewK, rSlS, rEqNil, e]; exact k H (Same.refl H)
    | tup e => try simp only [tSeq, tNext, tRet, tRetN, tAsg, gName, gSub, tDrop, tIfS, tOp, tUn, tCB, tCons, tNil, tC, tVar, rI, rI0, rU, tAnd, tOr, tNot, tAndV, tOrV, tNotV, tIf, tTest, tB, tCall, tChain, tLst, tTup, tYes, rIxH, rIsB, rIsBT, rMulS, kd_non, kd_bl, kd_int, kd_str, kd_ref, kdO_lst, kdO_tup, kdO_dK, nq_n, nq_b, nq_i, nq_s, nq_l, nq_t, nq_d, ne_eq, not_false_eq_true, kit_ss, kit_ns, kit_bs, kit_is, kit_ls, kit_ts, kit_ds, kit_bb, V.ty.injEq, and_assoc, rIxU, rLenH, rLenU, rLenS, rInt1, rSetL, rEq, rNe, rCat, L2.start, List.map, List.length, List.length_cons, List.length_nil, List.replicate, List.getElem?_cons_zero, List.getElem?_cons_succ, List.set_cons_zero, List.set_cons_succ, List.set_nil, List.cons_append, List.nil_append, List.append_nil, Option.some.injEq, V.int.injEq, V.ref.injEq, V.str.injEq, V.bl.injEq, HO.lst.injEq, HO.tup.injEq, exists_eq_left', exists_and_left, exists_eq_left, List.cons.injEq, and_true, true_and, and_false, false_and, and_self, reduceCtorEq, exists_false, or_false, false_or, exists_const, at0, at1, at2, at3, at4, at5, ix51, ix52, ix54, upd_same, Nat.reduceAdd, Nat.reduceSub, Nat.zero_add, Int.reduceToNat, Int.reduceLE, Int.reduceLT, decide_eq_true_eq, Bool.not_eq_true, if_true, if_false, Bool.false_eq_true, ite_true, ite_false, Bool.not_true, Bool.not_false, decide_true, decide_false, tFor_eq, tLc_eq, iList, iTup, iRng1, iRng2, iStr, tSl, tPart, tNoPart, rSlL, cxOf_K, wipe, ex_ty2, kit_LTl, kit_LTt, kit_LTd, kit_LTs, kit_LTn, kit_LTb, kit_LTi, tM1, rIxS, exists_eq', lt1p, tDNewK, rSlS, rEqNil, e]; exact k H (Same.refl H)
    | dic e => try simp only [tSeq, tNext, tRet, tRetN, tAsg, gName, gSub, tDrop, tIfS, tOp, tUn, tCB, tCons, tNil, tC, tVar, rI, rI0, rU, tAnd, tOr, tNot, tAndV, tOrV, tNotV, tIf, tTest, tB, tCall, tChain, tLst, tTup, tYes, rIxH, rIsB, rIsBT, rMulS, kd_non, kd_bl, kd_int, kd_str, kd_ref, kdO_lst, kdO_tup, kdO_dK, nq_n, nq_b, nq_i, nq_s, nq_l, nq_t, nq_d, ne_eq, not_false_eq_true, kit_ss, kit_ns, kit_bs, kit_is, kit_ls, kit_ts, kit_ds, kit_bb, V.ty.injEq, and_assoc, rIxU, rLenH, rLenU, rLenS, rInt1, rSetL, rEq, rNe, rCat, L2.start, List.map, List.length, List.length_cons, List.length_nil, List.replicate, List.getElem?_cons_zero, List.getElem?_cons_succ, List.set_cons_zero, List.set_cons_succ, List.set_nil, List.cons_append, List.nil_append, List.append_nil, Option.some.injEq, V.int.injEq, V.ref.injEq, V.str.injEq, V.bl.injEq, HO.lst.injEq, HO.tup.injEq, exists_eq_left', exists_and_left, exists_eq_left, List.cons.injEq, and_true, true_and, and_false, false_and, and_self, reduceCtorEq, exists_false, or_false, false_or, exists_const, at0, at1, at2, at3, at4, at5, ix51, ix52, ix54, upd_same, Nat.reduceAdd, Nat.reduceSub, Nat.zero_add, Int.reduceToNat, Int.reduceLE, Int.reduceLT, decide_eq_true_eq, Bool.not_eq_true, if_true, if_false, Bool.false_eq_true, ite_true, ite_false, Bool.not_true, Bool.not_false, decide_true, decide_false, tFor_eq, tLc_eq, iList, iTup, iRng1, iRng2, iStr, tSl, tPart, tNoPart, rSlL, cxOf_K, wipe, ex_ty2, kit_LTl, kit_LTt, kit_LTd, kit_LTs, kit_LTn, kit_LTb, kit_LTi, tM1, rIxS, exists_eq', lt1p, tDNewK, rSlS, rEqNil, e]; exact k H (Same.refl H)
    | non => try simp only [tSeq, tNext, tRet, tRetN, tAsg, gName, gSub, tDrop, tIfS, tOp, tUn, tCB, tCons, tNil, tC, tVar, rI, rI0, rU, tAnd, tOr, tNot, tAndV, tOrV, tNotV, tIf, tTest, tB, tCall, tChain, tLst, tTup, tYes, rIxH, rIsB, rIsBT, rMulS, kd_non, kd_bl, kd_int, kd_str, kd_ref, kdO_lst, kdO_tup, kdO_dK, nq_n, nq_b, nq_i, nq_s, nq_l, nq_t, nq_d, ne_eq, not_false_eq_true, kit_ss, kit_ns, kit_bs, kit_is, kit_ls, kit_ts, kit_ds, kit_bb, V.ty.injEq, and_assoc, rIxU, rLenH, rLenU, rLenS, rInt1, rSetL, rEq, rNe, rCat, L2.start, List.map, List.length, List.length_cons, List.length_nil, List.replicate, List.getElem?_cons_zero, List.getElem?_cons_succ, List.set_cons_zero, List.set_cons_succ, List.set_nil, List.cons_append, List.nil_append, List.append_nil, Option.some.injEq, V.int.injEq, V.ref.injEq, V.str.injEq, V.bl.injEq, HO.lst.injEq, HO.tup.injEq, exists_eq_left', exists_and_left, exists_eq_left, List.cons.injEq, and_true, true_and, and_false, false_and, and_self, reduceCtorEq, exists_false, or_false, false_or, exists_const, at0, at1, at2, at3, at4, at5, ix51, ix52, ix54, upd_same, Nat.reduceAdd, Nat.reduceSub, Nat.zero_add, Int.reduceToNat, Int.reduceLE, Int.reduceLT, decide_eq_true_eq, Bool.not_eq_true, if_true, if_false, Bool.false_eq_true, ite_true, ite_false, Bool.not_true, Bool.not_false, decide_true, decide_false, tFor_eq, tLc_eq, iList, iTup, iRng1, iRng2, iStr, tSl, tPart, tNoPart, rSlL, cxOf_K, wipe, ex_ty2, kit_LTl, kit_LTt, kit_LTd, kit_LTs, kit_LTn, kit_LTb, kit_LTi, tM1, rIxS, exists_eq', lt1p, tDNewK, rSlS, rEqNil]; exact k H (Same.refl H)
    | bl b => try simp only [tSeq, tNext, tRet, tRetN, tAsg, gName, gSub, tDrop, tIfS, tOp, tUn, tCB, tCons, tNil, tC, tVar, rI, rI0, rU, tAnd, tOr, tNot, tAndV, tOrV, tNotV, tIf, tTest, tB, tCall, tChain, tLst, tTup, tYes, rIxH, rIsB, rIsBT, rMulS, kd_non, kd_bl, kd_int, kd_str, kd_ref, kdO_lst, kdO_tup, kdO_dK, nq_n, nq_b, nq_i, nq_s, nq_l, nq_t, nq_d, ne_eq, not_false_eq_true, kit_ss, kit_ns, kit_bs, kit_is, kit_ls, kit_ts, kit_ds, kit_bb, V.ty.injEq, and_assoc, rIxU, rLenH, rLenU, rLenS, rInt1, rSetL, rEq, rNe, rCat, L2.start, List.map, List.length, List.length_cons, List.length_nil, List.replicate, List.getElem?_cons_zero, List.getElem?_cons_succ, List.set_cons_zero, List.set_cons_succ, List.set_nil, List.cons_append, List.nil_append, List.append_nil, Option.some.injEq, V.int.injEq, V.ref.injEq, V.str.injEq, V.bl.injEq, HO.lst.injEq, HO.tup.injEq, exists_eq_left', exists_and_left, exists_eq_left, List.cons.injEq, and_true, true_and, and_false, false_and, and_self, reduceCtorEq, exists_false, or_false, false_or, exists_const, at0, at1, at2, at3, at4, at5, ix51, ix52, ix54, upd_same, Nat.reduceAdd, Nat.reduceSub, Nat.zero_add, Int.reduceToNat, Int.reduceLE, Int.reduceLT, decide_eq_true_eq, Bool.not_eq_true, if_true, if_false, Bool.false_eq_true, ite_true, ite_false, Bool.not_true, Bool.not_false, decide_true, decide_false, tFor_eq, tLc_eq, iList, iTup, iRng1, iRng2, iStr, tSl, tPart, tNoPart, rSlL, cxOf_K, wipe, ex_ty2, kit_LTl, kit_LTt, kit_LTd, kit_LTs, kit_LTn, kit_LTb, kit_LTi, tM1, rIxS, exists_eq', lt1p, tDNewK, rSlS, rEqNil]; exact k H (Same.refl H)
    | int i => try simp only [tSeq, tNext, tRet, tRetN, tAsg, gName, gSub, tDrop, tIfS, tOp, tUn, tCB, tCons, tNil, tC, tVar, rI, rI0, rU, tAnd, tOr, tNot, tAndV, tOrV, tNotV, tIf, tTest, tB, tCall, tChain, tLst, tTup, tYes, rIxH, rIsB, rIsBT, rMulS, kd_non, kd_bl, kd_int, kd_str, kd_ref, kdO_lst, kdO_tup, kdO_dK, nq_n, nq_b, nq_i, nq_s, nq_l, nq_t, nq_d, ne_eq, not_false_eq_true, kit_ss, kit_ns, kit_bs, kit_is, kit_ls, kit_ts, kit_ds, kit_bb, V.ty.injEq, and_assoc, rIxU, rLenH, rLenU, rLenS, rInt1, rSetL, rEq, rNe, rCat, L2.start, List.map, List.length, List.length_cons, List.length_nil, List.replicate, List.getElem?_cons_zero, List.getElem?_cons_succ, List.set_cons_zero, List.set_cons_succ, List.set_nil, List.cons_append, List.nil_append, List.append_nil, Option.some.injEq, V.int.injEq, V.ref.injEq, V.str.injEq, V.bl.injEq, HO.lst.injEq, HO.tup.injEq, exists_eq_left', exists_and_left, exists_eq_left, List.cons.injEq, and_true, true_and, and_false, false_and, and_self, reduceCtorEq, exists_false, or_false, false_or, exists_const, at0, at1, at2, at3, at4, at5, ix51, ix52, ix54, upd_same, Nat.reduceAdd, Nat.reduceSub, Nat.zero_add, Int.reduceToNat, Int.reduceLE, Int.reduceLT, decide_eq_true_eq, Bool.not_eq_true, if_true, if_false, Bool.false_eq_true, ite_true, ite_false, Bool.not_true, Bool.not_false, decide_true, decide_false, tFor_eq, tLc_eq, iList, iTup, iRng1, iRng2, iStr, tSl, tPart, tNoPart, rSlL, cxOf_K, wipe, ex_ty2, kit_LTl, kit_LTt, kit_LTd, kit_LTs, kit_LTn, kit_LTb, kit_LTi, tM1, rIxS, exists_eq', lt1p, tDNewK, rSlS, rEqNil]; exact k H (Same.refl H)
end
/-! ### parents -/
def cntOf : V → Int
  | .int i => i
  | _ => 0
/-- at most 3 unlike counts -/
def parL (xs : List V) : Bool := decide (xs.length ≤ 3) && xs.all isCntV && decide ((nd (xs.map cntOf)).length = xs.length)
theorem cnt_ints : ∀ {xs : List V}, xs.all isCntV = true → xs = (xs.map cntOf).map V.int
  | [], _ => rfl
  | x :: r, h => by
    rw [List.all_cons, Bool.and_eq_true] at h
    have ih := cnt_ints h.2
    cases x with
    | int i =>
      rw [List.map_cons, List.map_cons, ← ih]
      rfl
    | _ => cases h.1



/-! ### a Version's parts -/
def verF (l p : Addr) (n : Str) : List (Str × V) := [("kept_lines", .ref l), ("kept_parents", .ref p), ("kept_author", .str n)]
theorem vf_l {l p : Addr} {n : Str} : (verF l p n).lookup ("kept_lines" : Str) = some (V.ref l) := by
  unfold verF
  rw [List.lookup_cons_self]
theorem vf_p {l p : Addr} {n : Str} : (verF l p n).lookup ("kept_parents" : Str) = some (V.ref p) := by
  unfold verF
  rw [List.lookup_cons, show (("kept_parents" : Str) == "kept_lines") = false from by decide +kernel]
  rw [List.lookup_cons_self]
theorem vf_a {l p : Addr} {n : Str} : (verF l p n).lookup ("kept_author" : Str) = some (V.str n) := by
  unfold verF
  rw [List.lookup_cons, show (("kept_author" : Str) == "kept_lines") = false from by decide +kernel]
  rw [List.lookup_cons, show (("kept_author" : Str) == "kept_parents") = false from by decide +kernel]
  rw [List.lookup_cons_self]
theorem flat_strs : ∀ ls : List Str, (ls.map V.str).all flatV = true
  | [] => rfl
  | _ :: r => flat_strs r
theorem in_strs {z : Str} : ∀ {ls : List Str}, inV (.str z) (ls.map V.str) = decide (z ∈ ls)
  | [] => by simp [inV]
  | y :: r => by
    have ih := in_strs (z := z) (ls := r)
    unfold inV at ih ⊢
    rw [List.map_cons, List.any_cons, ih]
    by_cases h : z = y
    · subst h
      simp [eqV]
    · have h' : ¬ y = z := fun e => h e.symm
      simp [eqV, h, h']
/-- a is a Version of these lines, parents and author -/
structure VerAt (C : Addr) (H : Hp) (a : Addr) (ls : List Str) (ps : List Int) (n : Str) : Prop where
  ex : ∃ dx l p, H a = some (.ins C dx (verF l p n)) ∧ H l = some (.tup (ls.map V.str)) ∧ H p = some (.tup (ps.map V.int))
theorem VerAt.same {C : Addr} {H H' : Hp} {a : Addr} {ls : List Str} {ps : List Int} {n : Str} (h : VerAt C H a ls ps n) (s : Same H H') : VerAt C H' a ls ps n := by
  obtain ⟨dx, l, p, h1, h2, h3⟩ := h.ex
  exact ⟨dx, l, p, s _ _ h1, s _ _ h2, s _ _ h3⟩
section
variable {P : Program} {w : World} {K : PySem.W.Frag} {mg : Str → Option Value} {base : Heap} {A : Adr}
def spLines (C : Addr) : Sp := fun vs H Q _ => ∃ a dx l p n, vs = [.ref a] ∧ H a = some (.ins C dx (verF l p n)) ∧ Q (.ref l) H
def spParents (C : Addr) : Sp := fun vs H Q _ => ∃ a dx l p n, vs = [.ref a] ∧ H a = some (.ins C dx (verF l p n)) ∧ Q (.ref p) H
def spAuthor (C : Addr) : Sp := fun vs H Q _ => ∃ a dx l p n, vs = [.ref a] ∧ H a = some (.ins C dx (verF l p n)) ∧ Q (.str n) H
theorem ok_lines (T : Txt K mg A) : FnOk P w K mg base CX0 1 A.a_VersionLines A.d_VersionLines ["self"] (spLines A.k_Version) := by
  refine T.f_VersionLines.ok scVersionLines (fun vs H Q E h => ?_) (fun cdv A' outer s H vs Q E hr h => ?_)
  · obtain ⟨a, dx, l, p, n, rfl, _⟩ := h
    rfl
  · obtain ⟨a, dx, l, p, n, rfl, ha, k⟩ := h
    refine ⟨_, (pss_one (ps_ret (pe_fld (pv 0) rfl))), ?_⟩
    try simp only [tSeq, tNext, tRet, tRetN, tAsg, gName, gSub, tDrop, tIfS, tOp, tUn, tCB, tCons, tNil, tC, tVar, rI, rI0, rU, tAnd, tOr, tNot, tAndV, tOrV, tNotV, tIf, tTest, tB, tCall, tChain, tLst, tTup, tYes, rIxH, rIsB, rIsBT, rMulS, kd_non, kd_bl, kd_int, kd_str, kd_ref, kdO_lst, kdO_tup, kdO_dK, nq_n, nq_b, nq_i, nq_s, nq_l, nq_t, nq_d, ne_eq, not_false_eq_true, kit_ss, kit_ns, kit_bs, kit_is, kit_ls, kit_ts, kit_ds, kit_bb, V.ty.injEq, and_assoc, rIxU, rLenH, rLenU, rLenS, rInt1, rSetL, rEq, rNe, rCat, L2.start, List.map, List.length, List.length_cons, List.length_nil, List.replicate, List.getElem?_cons_zero, List.getElem?_cons_succ, List.set_cons_zero, List.set_cons_succ, List.set_nil, List.cons_append, List.nil_append, List.append_nil, Option.some.injEq, V.int.injEq, V.ref.injEq, V.str.injEq, V.bl.injEq, HO.lst.injEq, HO.tup.injEq, exists_eq_left', exists_and_left, exists_eq_left, List.cons.injEq, and_true, true_and, and_false, false_and, and_self, reduceCtorEq, exists_false, or_false, false_or, exists_const, at0, at1, at2, at3, at4, at5, ix51, ix52, ix54, upd_same, Nat.reduceAdd, Nat.reduceSub, Nat.zero_add, Int.reduceToNat, Int.reduceLE, Int.reduceLT, decide_eq_true_eq, Bool.not_eq_true, if_true, if_false, Bool.false_eq_true, ite_true, ite_false, Bool.not_true, Bool.not_false, decide_true, decide_false, tFor_eq, tLc_eq, iList, iTup, iRng1, iRng2, iStr, tSl, tPart, tNoPart, rSlL, cxOf_K, wipe, ex_ty2, kit_LTl, kit_LTt, kit_LTd, kit_LTs, kit_LTn, kit_LTb, kit_LTi, tM1, rIxS, exists_eq', lt1p, tDNewK, rSlS, rEqNil, nox_K, tFld, ha, HO.ins.injEq, T.t_Version.cl, T.n_Version_kept_lines, vf_l]
    exact k
theorem ok_parents (T : Txt K mg A) : FnOk P w K mg base CX0 1 A.a_VersionParents A.d_VersionParents ["self"] (spParents A.k_Version) := by
  refine T.f_VersionParents.ok scVersionParents (fun vs H Q E h => ?_) (fun cdv A' outer s H vs Q E hr h => ?_)
  · obtain ⟨a, dx, l, p, n, rfl, _⟩ := h
    rfl
  · obtain ⟨a, dx, l, p, n, rfl, ha, k⟩ := h
    refine ⟨_, (pss_one (ps_ret (pe_fld (pv 0) rfl))), ?_⟩
    try simp only [tSeq, tNext, tRet, tRetN, tAsg, gName, gSub, tDrop, tIfS, tOp, tUn, tCB, tCons, tNil, tC, tVar, rI, rI0, rU, tAnd, tOr, tNot, tAndV, tOrV, tNotV, tIf, tTest, tB, tCall, tChain, tLst, tTup, tYes, rIxH, rIsB, rIsBT, rMulS, kd_non, kd_bl, kd_int, kd_str, kd_ref, kdO_lst, kdO_tup, kdO_dK, nq_n, nq_b, nq_i, nq_s, nq_l, nq_t, nq_d, ne_eq, not_false_eq_true, kit_ss, kit_ns, kit_bs, kit_is, kit_ls, kit_ts, kit_ds, kit_bb, V.ty.injEq, and_assoc, rIxU, rLenH, rLenU, rLenS, rInt1, rSetL, rEq, rNe, rCat, L2.start, List.map, List.length, List.length_cons, List.length_nil, List.replicate, List.getElem?_cons_zero, List.getElem?_cons_succ, List.set_cons_zero, List.set_cons_succ, List.set_nil, List.cons_append, List.nil_append, List.append_nil, Option.some.injEq, V.int.injEq, V.ref.injEq, V.str.injEq, V.bl.injEq, HO.lst.injEq, HO.tup.injEq, exists_eq_left', exists_and_left, exists_eq_left, List.cons.injEq, and_true, true_and, and_false, false_and, and_self, reduceCtorEq, exists_false, or_false, false_or, exists_const, at0, at1, at2, at3, at4, at5, ix51, ix52, ix54, upd_same, Nat.reduceAdd, Nat.reduceSub, Nat.zero_add, Int.reduceToNat, Int.reduceLE, Int.reduceLT, decide_eq_true_eq, Bool.not_eq_true, if_true, if_false, Bool.false_eq_true, ite_true, ite_false, Bool.not_true, Bool.not_false, decide_true, decide_false, tFor_eq, tLc_eq, iList, iTup, iRng1, iRng2, iStr, tSl, tPart, tNoPart, rSlL, cxOf_K, wipe, ex_ty2, kit_LTl, kit_LTt, kit_LTd, kit_LTs, kit_LTn, kit_LTb, kit_LTi, tM1, rIxS, exists_eq', lt1p, tDNewK, rSlS, rEqNil, nox_K, tFld, ha, HO.ins.injEq, T.t_Version.cl, T.n_Version_kept_parents, vf_p]
    exact k
theorem ok_author (T : Txt K mg A) : FnOk P w K mg base CX0 1 A.a_VersionAuthor A.d_VersionAuthor ["self"] (spAuthor A.k_Version) := by
  refine T.f_VersionAuthor.ok scVersionAuthor (fun vs H Q E h => ?_) (fun cdv A' outer s H vs Q E hr h => ?_)
  · obtain ⟨a, dx, l, p, n, rfl, _⟩ := h
    rfl
  · obtain ⟨a, dx, l, p, n, rfl, ha, k⟩ := h
    refine ⟨_, (pss_one (ps_ret (pe_fld (pv 0) rfl))), ?_⟩
    try simp only [tSeq, tNext, tRet, tRetN, tAsg, gName, gSub, tDrop, tIfS, tOp, tUn, tCB, tCons, tNil, tC, tVar, rI, rI0, rU, tAnd, tOr, tNot, tAndV, tOrV, tNotV, tIf, tTest, tB, tCall, tChain, tLst, tTup, tYes, rIxH, rIsB, rIsBT, rMulS, kd_non, kd_bl, kd_int, kd_str, kd_ref, kdO_lst, kdO_tup, kdO_dK, nq_n, nq_b, nq_i, nq_s, nq_l, nq_t, nq_d, ne_eq, not_false_eq_true, kit_ss, kit_ns, kit_bs, kit_is, kit_ls, kit_ts, kit_ds, kit_bb, V.ty.injEq, and_assoc, rIxU, rLenH, rLenU, rLenS, rInt1, rSetL, rEq, rNe, rCat, L2.start, List.map, List.length, List.length_cons, List.length_nil, List.replicate, List.getElem?_cons_zero, List.getElem?_cons_succ, List.set_cons_zero, List.set_cons_succ, List.set_nil, List.cons_append, List.nil_append, List.append_nil, Option.some.injEq, V.int.injEq, V.ref.injEq, V.str.injEq, V.bl.injEq, HO.lst.injEq, HO.tup.injEq, exists_eq_left', exists_and_left, exists_eq_left, List.cons.injEq, and_true, true_and, and_false, false_and, and_self, reduceCtorEq, exists_false, or_false, false_or, exists_const, at0, at1, at2, at3, at4, at5, ix51, ix52, ix54, upd_same, Nat.reduceAdd, Nat.reduceSub, Nat.zero_add, Int.reduceToNat, Int.reduceLE, Int.reduceLT, decide_eq_true_eq, Bool.not_eq_true, if_true, if_false, Bool.false_eq_true, ite_true, ite_false, Bool.not_true, Bool.not_false, decide_true, decide_false, tFor_eq, tLc_eq, iList, iTup, iRng1, iRng2, iStr, tSl, tPart, tNoPart, rSlL, cxOf_K, wipe, ex_ty2, kit_LTl, kit_LTt, kit_LTd, kit_LTs, kit_LTn, kit_LTb, kit_LTi, tM1, rIxS, exists_eq', lt1p, tDNewK, rSlS, rEqNil, nox_K, tFld, ha, HO.ins.injEq, T.t_Version.cl, T.n_Version_kept_author, vf_a]
    exact k
def spVLen (C : Addr) : Sp := fun vs H Q _ => ∃ a dx l p n xs, vs = [.ref a] ∧ H a = some (.ins C dx (verF l p n)) ∧ H l = some (.tup xs) ∧ Q (.int (xs.length : Int)) H
theorem ok_vlen (T : Txt K mg A) : FnOk P w K mg base CX0 1 A.a_VersionLen A.d_VersionLen ["self"] (spVLen A.k_Version) := by
  refine T.f_VersionLen.ok scVersionLen (fun vs H Q E h => ?_) (fun cdv A' outer s H vs Q E hr h => ?_)
  · obtain ⟨a, dx, l, p, n, xs, rfl, _⟩ := h
    rfl
  · obtain ⟨a, dx, l, p, n, xs, rfl, ha, hl, k⟩ := h
    refine ⟨_, (pss_one (ps_ret (pe_callB call_lenU (by rfl) T.z_len (by decide +kernel) (pa_cons (pe_fld (pv 0) rfl) pa_nil)))), ?_⟩
    try simp only [tSeq, tNext, tRet, tRetN, tAsg, gName, gSub, tDrop, tIfS, tOp, tUn, tCB, tCons, tNil, tC, tVar, rI, rI0, rU, tAnd, tOr, tNot, tAndV, tOrV, tNotV, tIf, tTest, tB, tCall, tChain, tLst, tTup, tYes, rIxH, rIsB, rIsBT, rMulS, kd_non, kd_bl, kd_int, kd_str, kd_ref, kdO_lst, kdO_tup, kdO_dK, nq_n, nq_b, nq_i, nq_s, nq_l, nq_t, nq_d, ne_eq, not_false_eq_true, kit_ss, kit_ns, kit_bs, kit_is, kit_ls, kit_ts, kit_ds, kit_bb, V.ty.injEq, and_assoc, rIxU, rLenH, rLenU, rLenS, rInt1, rSetL, rEq, rNe, rCat, L2.start, List.map, List.length, List.length_cons, List.length_nil, List.replicate, List.getElem?_cons_zero, List.getElem?_cons_succ, List.set_cons_zero, List.set_cons_succ, List.set_nil, List.cons_append, List.nil_append, List.append_nil, Option.some.injEq, V.int.injEq, V.ref.injEq, V.str.injEq, V.bl.injEq, HO.lst.injEq, HO.tup.injEq, exists_eq_left', exists_and_left, exists_eq_left, List.cons.injEq, and_true, true_and, and_false, false_and, and_self, reduceCtorEq, exists_false, or_false, false_or, exists_const, at0, at1, at2, at3, at4, at5, ix51, ix52, ix54, upd_same, Nat.reduceAdd, Nat.reduceSub, Nat.zero_add, Int.reduceToNat, Int.reduceLE, Int.reduceLT, decide_eq_true_eq, Bool.not_eq_true, if_true, if_false, Bool.false_eq_true, ite_true, ite_false, Bool.not_true, Bool.not_false, decide_true, decide_false, tFor_eq, tLc_eq, iList, iTup, iRng1, iRng2, iStr, tSl, tPart, tNoPart, rSlL, cxOf_K, wipe, ex_ty2, kit_LTl, kit_LTt, kit_LTd, kit_LTs, kit_LTn, kit_LTb, kit_LTi, tM1, rIxS, exists_eq', lt1p, tDNewK, rSlS, rEqNil, nox_K, tFld, ha, hl, HO.ins.injEq, T.t_Version.cl, T.n_Version_kept_lines, vf_l]
    exact k
def spVIn (C : Addr) : Sp := fun vs H Q _ => ∃ a dx l p n ls z, vs = [.ref a, .str z] ∧ H a = some (.ins C dx (verF l p n)) ∧ H l = some (.tup (List.map V.str ls)) ∧ Q (.bl (decide (z ∈ ls))) H
theorem ok_vin (T : Txt K mg A) : FnOk P w K mg base CX0 1 A.a_VersionContains A.d_VersionContains ["self", "line"] (spVIn A.k_Version) := by
  refine T.f_VersionContains.ok scVersionContains (fun vs H Q E h => ?_) (fun cdv A' outer s H vs Q E hr h => ?_)
  · obtain ⟨a, dx, l, p, n, ls, z, rfl, _⟩ := h
    rfl
  · obtain ⟨a, dx, l, p, n, ls, z, rfl, ha, hl, k⟩ := h
    refine ⟨_, (pss_one (ps_ret (pe_cmpR (op_in_seq) (pv 1) (pe_fld (pv 0) rfl) (by rfl)))), ?_⟩
    try simp only [tSeq, tNext, tRet, tRetN, tAsg, gName, gSub, tDrop, tIfS, tOp, tUn, tCB, tCons, tNil, tC, tVar, rI, rI0, rU, tAnd, tOr, tNot, tAndV, tOrV, tNotV, tIf, tTest, tB, tCall, tChain, tLst, tTup, tYes, rIxH, rIsB, rIsBT, rMulS, kd_non, kd_bl, kd_int, kd_str, kd_ref, kdO_lst, kdO_tup, kdO_dK, nq_n, nq_b, nq_i, nq_s, nq_l, nq_t, nq_d, ne_eq, not_false_eq_true, kit_ss, kit_ns, kit_bs, kit_is, kit_ls, kit_ts, kit_ds, kit_bb, V.ty.injEq, and_assoc, rIxU, rLenH, rLenU, rLenS, rInt1, rSetL, rEq, rNe, rCat, L2.start, List.map, List.length, List.length_cons, List.length_nil, List.replicate, List.getElem?_cons_zero, List.getElem?_cons_succ, List.set_cons_zero, List.set_cons_succ, List.set_nil, List.cons_append, List.nil_append, List.append_nil, Option.some.injEq, V.int.injEq, V.ref.injEq, V.str.injEq, V.bl.injEq, HO.lst.injEq, HO.tup.injEq, exists_eq_left', exists_and_left, exists_eq_left, List.cons.injEq, and_true, true_and, and_false, false_and, and_self, reduceCtorEq, exists_false, or_false, false_or, exists_const, at0, at1, at2, at3, at4, at5, ix51, ix52, ix54, upd_same, Nat.reduceAdd, Nat.reduceSub, Nat.zero_add, Int.reduceToNat, Int.reduceLE, Int.reduceLT, decide_eq_true_eq, Bool.not_eq_true, if_true, if_false, Bool.false_eq_true, ite_true, ite_false, Bool.not_true, Bool.not_false, decide_true, decide_false, tFor_eq, tLc_eq, iList, iTup, iRng1, iRng2, iStr, tSl, tPart, tNoPart, rSlL, cxOf_K, wipe, ex_ty2, kit_LTl, kit_LTt, kit_LTd, kit_LTs, kit_LTn, kit_LTb, kit_LTi, tM1, rIxS, exists_eq', lt1p, tDNewK, rSlS, rEqNil, nox_K, tFld, ha, hl, HO.ins.injEq, T.t_Version.cl, T.n_Version_kept_lines, vf_l]
    refine ⟨l, ls.map V.str, rfl, .inr (SqT.of hl), rfl, flat_strs ls, ?_⟩
    rw [if_neg (by decide), in_strs]
    exact k
end
def spVGet (C N : Addr) : Sp := fun vs H Q E => ∃ a dx l p n ls v, vs = [.ref a, v] ∧ H a = some (.ins C dx (verF l p n)) ∧ H l = some (.tup (List.map V.str ls)) ∧ Thg H v ∧
  ((∃ (i : Nat) (z : Str), v = .int (i : Int) ∧ ls[i]? = some z ∧ Q (.str z) H) ∨ ((∀ i : Int, v = .int i → i < 0 ∨ (ls.length : Int) ≤ i) ∧ ∀ H' d, Same H H' → H' d = some (.xd [("value", v)]) → E (.ref N) (some d) H'))
section
variable {w : World} {K : PySem.W.Frag} {mg : Str → Option Value} {base : Heap} {A : Adr}
theorem ok_vget (T : Txt K mg A) (gIsInteger : FnOk PW w K mg base CX0 1 A.a_IsInteger A.d_IsInteger ["value"] spIsIntT) :
    FnOk PW w K mg base (L2.CX PW w) 2 A.a_VersionGetitem A.d_VersionGetitem ["self", "index"] (spVGet A.k_Version A.k_InvalidNumber) := by
  refine T.f_VersionGetitem.okX scVersionGetitem (fun vs H Q E h => ?_) (fun cdv A' outer s H vs Q E hr h => ?_)
  · obtain ⟨a, dx, l, p, n, ls, v, rfl, _⟩ := h
    rfl
  · refine ⟨_, (pss_cons (ps_if (PW.pt (pw_or (pt_not (pt_val (pe_call gIsInteger (hr.mono (by decide)) (by rfl) T.m_IsInteger T.f_IsInteger.kp T.b_IsInteger .nil pass0 (pa_cons (pv 1) pa_nil)))) (pw_or1 (pt_not (pt_chain (op_le) (op_lt) pe_int (pv 1) (pe_callB call_lenU (by rfl) T.z_len (by decide +kernel) (pa_cons (pe_fld (pv 0) rfl) pa_nil))))))) (pss_one (ps_raiseX rfl T.x_InvalidNumber hr (takes_of rfl rfl rfl rfl) (pa_cons (pv 1) pa_nil) (by rfl))) pss_nil)
      (pss_one (ps_ret (pe_ix ix_tupH (pe_fld (pv 0) rfl) (pv 1) (fun _ _ => rfl))))), ?_⟩
    obtain ⟨a, dx, l, p, n, ls, v, rfl, ha, hl, tv, h⟩ := h
    rcases h with ⟨i, z, rfl, hz, k⟩ | ⟨hn, k⟩
    · try simp only [tSeq, tNext, tRet, tRetN, tAsg, gName, gSub, tDrop, tIfS, tOp, tUn, tCB, tCons, tNil, tC, tVar, rI, rI0, rU, tAnd, tOr, tNot, tAndV, tOrV, tNotV, tIf, tTest, tB, tCall, tChain, tLst, tTup, tYes, rIxH, rIsB, rIsBT, rMulS, kd_non, kd_bl, kd_int, kd_str, kd_ref, kdO_lst, kdO_tup, kdO_dK, nq_n, nq_b, nq_i, nq_s, nq_l, nq_t, nq_d, ne_eq, not_false_eq_true, kit_ss, kit_ns, kit_bs, kit_is, kit_ls, kit_ts, kit_ds, kit_bb, V.ty.injEq, and_assoc, rIxU, rLenH, rLenU, rLenS, rInt1, rSetL, rEq, rNe, rCat, L2.start, List.map, List.length, List.length_cons, List.length_nil, List.replicate, List.getElem?_cons_zero, List.getElem?_cons_succ, List.set_cons_zero, List.set_cons_succ, List.set_nil, List.cons_append, List.nil_append, List.append_nil, Option.some.injEq, V.int.injEq, V.ref.injEq, V.str.injEq, V.bl.injEq, HO.lst.injEq, HO.tup.injEq, exists_eq_left', exists_and_left, exists_eq_left, List.cons.injEq, and_true, true_and, and_false, false_and, and_self, reduceCtorEq, exists_false, or_false, false_or, exists_const, at0, at1, at2, at3, at4, at5, ix51, ix52, ix54, upd_same, Nat.reduceAdd, Nat.reduceSub, Nat.zero_add, Int.reduceToNat, Int.reduceLE, Int.reduceLT, decide_eq_true_eq, Bool.not_eq_true, if_true, if_false, Bool.false_eq_true, ite_true, ite_false, Bool.not_true, Bool.not_false, decide_true, decide_false, tFor_eq, tLc_eq, iList, iTup, iRng1, iRng2, iStr, tSl, tPart, tNoPart, rSlL, cxOf_K, wipe, ex_ty2, kit_LTl, kit_LTt, kit_LTd, kit_LTs, kit_LTn, kit_LTb, kit_LTi, tM1, rIxS, exists_eq', lt1p, tDNewK, rSlS, rEqNil, nox_K]
      refine ⟨_, rfl, tv, ?_⟩
      have hi : i < ls.length := (List.getElem?_eq_some_iff.mp hz).1
      try simp only [tSeq, tNext, tRet, tRetN, tAsg, gName, gSub, tDrop, tIfS, tOp, tUn, tCB, tCons, tNil, tC, tVar, rI, rI0, rU, tAnd, tOr, tNot, tAndV, tOrV, tNotV, tIf, tTest, tB, tCall, tChain, tLst, tTup, tYes, rIxH, rIsB, rIsBT, rMulS, kd_non, kd_bl, kd_int, kd_str, kd_ref, kdO_lst, kdO_tup, kdO_dK, nq_n, nq_b, nq_i, nq_s, nq_l, nq_t, nq_d, ne_eq, not_false_eq_true, kit_ss, kit_ns, kit_bs, kit_is, kit_ls, kit_ts, kit_ds, kit_bb, V.ty.injEq, and_assoc, rIxU, rLenH, rLenU, rLenS, rInt1, rSetL, rEq, rNe, rCat, L2.start, List.map, List.length, List.length_cons, List.length_nil, List.replicate, List.getElem?_cons_zero, List.getElem?_cons_succ, List.set_cons_zero, List.set_cons_succ, List.set_nil, List.cons_append, List.nil_append, List.append_nil, Option.some.injEq, V.int.injEq, V.ref.injEq, V.str.injEq, V.bl.injEq, HO.lst.injEq, HO.tup.injEq, exists_eq_left', exists_and_left, exists_eq_left, List.cons.injEq, and_true, true_and, and_false, false_and, and_self, reduceCtorEq, exists_false, or_false, false_or, exists_const, at0, at1, at2, at3, at4, at5, ix51, ix52, ix54, upd_same, Nat.reduceAdd, Nat.reduceSub, Nat.zero_add, Int.reduceToNat, Int.reduceLE, Int.reduceLT, decide_eq_true_eq, Bool.not_eq_true, if_true, if_false, Bool.false_eq_true, ite_true, ite_false, Bool.not_true, Bool.not_false, decide_true, decide_false, tFor_eq, tLc_eq, iList, iTup, iRng1, iRng2, iStr, tSl, tPart, tNoPart, rSlL, cxOf_K, wipe, ex_ty2, kit_LTl, kit_LTt, kit_LTd, kit_LTs, kit_LTn, kit_LTb, kit_LTi, tM1, rIxS, exists_eq', lt1p, tDNewK, rSlS, rEqNil, nox_K, isIntV, tFld, ha, hl, HO.ins.injEq, T.t_Version.cl, T.n_Version_kept_lines, vf_l, List.length_map]
      rw [if_pos (by omega), if_neg (by rw [decide_eq_true (by omega)]; decide)]
      exact ⟨.str z, atI_nat (by rw [List.getElem?_map, hz]; rfl), k⟩
    · try simp only [tSeq, tNext, tRet, tRetN, tAsg, gName, gSub, tDrop, tIfS, tOp, tUn, tCB, tCons, tNil, tC, tVar, rI, rI0, rU, tAnd, tOr, tNot, tAndV, tOrV, tNotV, tIf, tTest, tB, tCall, tChain, tLst, tTup, tYes, rIxH, rIsB, rIsBT, rMulS, kd_non, kd_bl, kd_int, kd_str, kd_ref, kdO_lst, kdO_tup, kdO_dK, nq_n, nq_b, nq_i, nq_s, nq_l, nq_t, nq_d, ne_eq, not_false_eq_true, kit_ss, kit_ns, kit_bs, kit_is, kit_ls, kit_ts, kit_ds, kit_bb, V.ty.injEq, and_assoc, rIxU, rLenH, rLenU, rLenS, rInt1, rSetL, rEq, rNe, rCat, L2.start, List.map, List.length, List.length_cons, List.length_nil, List.replicate, List.getElem?_cons_zero, List.getElem?_cons_succ, List.set_cons_zero, List.set_cons_succ, List.set_nil, List.cons_append, List.nil_append, List.append_nil, Option.some.injEq, V.int.injEq, V.ref.injEq, V.str.injEq, V.bl.injEq, HO.lst.injEq, HO.tup.injEq, exists_eq_left', exists_and_left, exists_eq_left, List.cons.injEq, and_true, true_and, and_false, false_and, and_self, reduceCtorEq, exists_false, or_false, false_or, exists_const, at0, at1, at2, at3, at4, at5, ix51, ix52, ix54, upd_same, Nat.reduceAdd, Nat.reduceSub, Nat.zero_add, Int.reduceToNat, Int.reduceLE, Int.reduceLT, decide_eq_true_eq, Bool.not_eq_true, if_true, if_false, Bool.false_eq_true, ite_true, ite_false, Bool.not_true, Bool.not_false, decide_true, decide_false, tFor_eq, tLc_eq, iList, iTup, iRng1, iRng2, iStr, tSl, tPart, tNoPart, rSlL, cxOf_K, wipe, ex_ty2, kit_LTl, kit_LTt, kit_LTd, kit_LTs, kit_LTn, kit_LTb, kit_LTi, tM1, rIxS, exists_eq', lt1p, tDNewK, rSlS, rEqNil, nox_K]
      refine ⟨_, rfl, tv, ?_⟩
      cases tv with
      | int i =>
        have hn := hn i rfl
        try simp only [tSeq, tNext, tRet, tRetN, tAsg, gName, gSub, tDrop, tIfS, tOp, tUn, tCB, tCons, tNil, tC, tVar, rI, rI0, rU, tAnd, tOr, tNot, tAndV, tOrV, tNotV, tIf, tTest, tB, tCall, tChain, tLst, tTup, tYes, rIxH, rIsB, rIsBT, rMulS, kd_non, kd_bl, kd_int, kd_str, kd_ref, kdO_lst, kdO_tup, kdO_dK, nq_n, nq_b, nq_i, nq_s, nq_l, nq_t, nq_d, ne_eq, not_false_eq_true, kit_ss, kit_ns, kit_bs, kit_is, kit_ls, kit_ts, kit_ds, kit_bb, V.ty.injEq, and_assoc, rIxU, rLenH, rLenU, rLenS, rInt1, rSetL, rEq, rNe, rCat, L2.start, List.map, List.length, List.length_cons, List.length_nil, List.replicate, List.getElem?_cons_zero, List.getElem?_cons_succ, List.set_cons_zero, List.set_cons_succ, List.set_nil, List.cons_append, List.nil_append, List.append_nil, Option.some.injEq, V.int.injEq, V.ref.injEq, V.str.injEq, V.bl.injEq, HO.lst.injEq, HO.tup.injEq, exists_eq_left', exists_and_left, exists_eq_left, List.cons.injEq, and_true, true_and, and_false, false_and, and_self, reduceCtorEq, exists_false, or_false, false_or, exists_const, at0, at1, at2, at3, at4, at5, ix51, ix52, ix54, upd_same, Nat.reduceAdd, Nat.reduceSub, Nat.zero_add, Int.reduceToNat, Int.reduceLE, Int.reduceLT, decide_eq_true_eq, Bool.not_eq_true, if_true, if_false, Bool.false_eq_true, ite_true, ite_false, Bool.not_true, Bool.not_false, decide_true, decide_false, tFor_eq, tLc_eq, iList, iTup, iRng1, iRng2, iStr, tSl, tPart, tNoPart, rSlL, cxOf_K, wipe, ex_ty2, kit_LTl, kit_LTt, kit_LTd, kit_LTs, kit_LTn, kit_LTb, kit_LTi, tM1, rIxS, exists_eq', lt1p, tDNewK, rSlS, rEqNil, nox_K, isIntV, tFld, ha, hl, HO.ins.injEq, T.t_Version.cl, T.n_Version_kept_lines, vf_l, List.length_map, tRaiseX, tMkX]
        have kk : ∀ (d : Addr), H d = none → E (Value.ref A.k_InvalidNumber) (some d) (upd H d (HO.xd [(Str.ofString "value", V.int i)])) := fun d hd => k _ d (same_new hd) upd_same
        by_cases h0 : 0 ≤ i
        · rw [if_pos h0, if_pos (by rw [decide_eq_false (by omega)]; rfl)]
          exact kk
        · rw [if_neg h0]
          exact kk
      | str hz => try simp only [tSeq, tNext, tRet, tRetN, tAsg, gName, gSub, tDrop, tIfS, tOp, tUn, tCB, tCons, tNil, tC, tVar, rI, rI0, rU, tAnd, tOr, tNot, tAndV, tOrV, tNotV, tIf, tTest, tB, tCall, tChain, tLst, tTup, tYes, rIxH, rIsB, rIsBT, rMulS, kd_non, kd_bl, kd_int, kd_str, kd_ref, kdO_lst, kdO_tup, kdO_dK, nq_n, nq_b, nq_i, nq_s, nq_l, nq_t, nq_d, ne_eq, not_false_eq_true, kit_ss, kit_ns, kit_bs, kit_is, kit_ls, kit_ts, kit_ds, kit_bb, V.ty.injEq, and_assoc, rIxU, rLenH, rLenU, rLenS, rInt1, rSetL, rEq, rNe, rCat, L2.start, List.map, List.length, List.length_cons, List.length_nil, List.replicate, List.getElem?_cons_zero, List.getElem?_cons_succ, List.set_cons_zero, List.set_cons_succ, List.set_nil, List.cons_append, List.nil_append, List.append_nil, Option.some.injEq, V.int.injEq, V.ref.injEq, V.str.injEq, V.bl.injEq, HO.lst.injEq, HO.tup.injEq, exists_eq_left', exists_and_left, exists_eq_left, List.cons.injEq, and_true, true_and, and_false, false_and, and_self, reduceCtorEq, exists_false, or_false, false_or, exists_const, at0, at1, at2, at3, at4, at5, ix51, ix52, ix54, upd_same, Nat.reduceAdd, Nat.reduceSub, Nat.zero_add, Int.reduceToNat, Int.reduceLE, Int.reduceLT, decide_eq_true_eq, Bool.not_eq_true, if_true, if_false, Bool.false_eq_true, ite_true, ite_false, Bool.not_true, Bool.not_false, decide_true, decide_false, tFor_eq, tLc_eq, iList, iTup, iRng1, iRng2, iStr, tSl, tPart, tNoPart, rSlL, cxOf_K, wipe, ex_ty2, kit_LTl, kit_LTt, kit_LTd, kit_LTs, kit_LTn, kit_LTb, kit_LTi, tM1, rIxS, exists_eq', lt1p, tDNewK, rSlS, rEqNil, nox_K, isIntV, tRaiseX, tMkX]; exact fun d hd => k _ d (same_new hd) upd_same
      | lst e => try simp only [tSeq, tNext, tRet, tRetN, tAsg, gName, gSub, tDrop, tIfS, tOp, tUn, tCB, tCons, tNil, tC, tVar, rI, rI0, rU, tAnd, tOr, tNot, tAndV, tOrV, tNotV, tIf, tTest, tB, tCall, tChain, tLst, tTup, tYes, rIxH, rIsB, rIsBT, rMulS, kd_non, kd_bl, kd_int, kd_str, kd_ref, kdO_lst, kdO_tup, kdO_dK, nq_n, nq_b, nq_i, nq_s, nq_l, nq_t, nq_d, ne_eq, not_false_eq_true, kit_ss, kit_ns, kit_bs, kit_is, kit_ls, kit_ts, kit_ds, kit_bb, V.ty.injEq, and_assoc, rIxU, rLenH, rLenU, rLenS, rInt1, rSetL, rEq, rNe, rCat, L2.start, List.map, List.length, List.length_cons, List.length_nil, List.replicate, List.getElem?_cons_zero, List.getElem?_cons_succ, List.set_cons_zero, List.set_cons_succ, List.set_nil, List.cons_append, List.nil_append, List.append_nil, Option.some.injEq, V.int.injEq, V.ref.injEq, V.str.injEq, V.bl.injEq, HO.lst.injEq, HO.tup.injEq, exists_eq_left', exists_and_left, exists_eq_left, List.cons.injEq, and_true, true_and, and_false, false_and, and_self, reduceCtorEq, exists_false, or_false, false_or, exists_const, at0, at1, at2, at3, at4, at5, ix51, ix52, ix54, upd_same, Nat.reduceAdd, Nat.reduceSub, Nat.zero_add, Int.reduceToNat, Int.reduceLE, Int.reduceLT, decide_eq_true_eq, Bool.not_eq_true, if_true, if_false, Bool.false_eq_true, ite_true, ite_false, Bool.not_true, Bool.not_false, decide_true, decide_false, tFor_eq, tLc_eq, iList, iTup, iRng1, iRng2, iStr, tSl, tPart, tNoPart, rSlL, cxOf_K, wipe, ex_ty2, kit_LTl, kit_LTt, kit_LTd, kit_LTs, kit_LTn, kit_LTb, kit_LTi, tM1, rIxS, exists_eq', lt1p, tDNewK, rSlS, rEqNil, nox_K, isIntV, tRaiseX, tMkX]; exact fun d hd => k _ d (same_new hd) upd_same
      | tup e => try simp only [tSeq, tNext, tRet, tRetN, tAsg, gName, gSub, tDrop, tIfS, tOp, tUn, tCB, tCons, tNil, tC, tVar, rI, rI0, rU, tAnd, tOr, tNot, tAndV, tOrV, tNotV, tIf, tTest, tB, tCall, tChain, tLst, tTup, tYes, rIxH, rIsB, rIsBT, rMulS, kd_non, kd_bl, kd_int, kd_str, kd_ref, kdO_lst, kdO_tup, kdO_dK, nq_n, nq_b, nq_i, nq_s, nq_l, nq_t, nq_d, ne_eq, not_false_eq_true, kit_ss, kit_ns, kit_bs, kit_is, kit_ls, kit_ts, kit_ds, kit_bb, V.ty.injEq, and_assoc, rIxU, rLenH, rLenU, rLenS, rInt1, rSetL, rEq, rNe, rCat, L2.start, List.map, List.length, List.length_cons, List.length_nil, List.replicate, List.getElem?_cons_zero, List.getElem?_cons_succ, List.set_cons_zero, List.set_cons_succ, List.set_nil, List.cons_append, List.nil_append, List.append_nil, Option.some.injEq, V.int.injEq, V.ref.injEq, V.str.injEq, V.bl.injEq, HO.lst.injEq, HO.tup.injEq, exists_eq_left', exists_and_left, exists_eq_left, List.cons.injEq, and_true, true_and, and_false, false_and, and_self, reduceCtorEq, exists_false, or_false, false_or, exists_const, at0, at1, at2, at3, at4, at5, ix51, ix52, ix54, upd_same, Nat.reduceAdd, Nat.reduceSub, Nat.zero_add, Int.reduceToNat, Int.reduceLE, Int.reduceLT, decide_eq_true_eq, Bool.not_eq_true, if_true, if_false, Bool.false_eq_true, ite_true, ite_false, Bool.not_true, Bool.not_false, decide_true, decide_false, tFor_eq, tLc_eq, iList, iTup, iRng1, iRng2, iStr, tSl, tPart, tNoPart, rSlL, cxOf_K, wipe, ex_ty2, kit_LTl, kit_LTt, kit_LTd, kit_LTs, kit_LTn, kit_LTb, kit_LTi, tM1, rIxS, exists_eq', lt1p, tDNewK, rSlS, rEqNil, nox_K, isIntV, tRaiseX, tMkX]; exact fun d hd => k _ d (same_new hd) upd_same
      | dic e => try simp only [tSeq, tNext, tRet, tRetN, tAsg, gName, gSub, tDrop, tIfS, tOp, tUn, tCB, tCons, tNil, tC, tVar, rI, rI0, rU, tAnd, tOr, tNot, tAndV, tOrV, tNotV, tIf, tTest, tB, tCall, tChain, tLst, tTup, tYes, rIxH, rIsB, rIsBT, rMulS, kd_non, kd_bl, kd_int, kd_str, kd_ref, kdO_lst, kdO_tup, kdO_dK, nq_n, nq_b, nq_i, nq_s, nq_l, nq_t, nq_d, ne_eq, not_false_eq_true, kit_ss, kit_ns, kit_bs, kit_is, kit_ls, kit_ts, kit_ds, kit_bb, V.ty.injEq, and_assoc, rIxU, rLenH, rLenU, rLenS, rInt1, rSetL, rEq, rNe, rCat, L2.start, List.map, List.length, List.length_cons, List.length_nil, List.replicate, List.getElem?_cons_zero, List.getElem?_cons_succ, List.set_cons_zero, List.set_cons_succ, List.set_nil, List.cons_append, List.nil_append, List.append_nil, Option.some.injEq, V.int.injEq, V.ref.injEq, V.str.injEq, V.bl.injEq, HO.lst.injEq, HO.tup.injEq, exists_eq_left', exists_and_left, exists_eq_left, List.cons.injEq, and_true, true_and, and_false, false_and, and_self, reduceCtorEq, exists_false, or_false, false_or, exists_const, at0, at1, at2, at3, at4, at5, ix51, ix52, ix54, upd_same, Nat.reduceAdd, Nat.reduceSub, Nat.zero_add, Int.reduceToNat, Int.reduceLE, Int.reduceLT, decide_eq_true_eq, Bool.not_eq_true, if_true, if_false, Bool.false_eq_true, ite_true, ite_false, Bool.not_true, Bool.not_false, decide_true, decide_false, tFor_eq, tLc_eq, iList, iTup, iRng1, iRng2, iStr, tSl, tPart, tNoPart, rSlL, cxOf_K, wipe, ex_ty2, kit_LTl, kit_LTt, kit_LTd, kit_LTs, kit_LTn, kit_LTb, kit_LTi, tM1, rIxS, exists_eq', lt1p, tDNewK, rSlS, rEqNil, nox_K, isIntV, tRaiseX, tMkX]; exact fun d hd => k _ d (same_new hd) upd_same
      | non => try simp only [tSeq, tNext, tRet, tRetN, tAsg, gName, gSub, tDrop, tIfS, tOp, tUn, tCB, tCons, tNil, tC, tVar, rI, rI0, rU, tAnd, tOr, tNot, tAndV, tOrV, tNotV, tIf, tTest, tB, tCall, tChain, tLst, tTup, tYes, rIxH, rIsB, rIsBT, rMulS, kd_non, kd_bl, kd_int, kd_str, kd_ref, kdO_lst, kdO_tup, kdO_dK, nq_n, nq_b, nq_i, nq_s, nq_l, nq_t, nq_d, ne_eq, not_false_eq_true, kit_ss, kit_ns, kit_bs, kit_is, kit_ls, kit_ts, kit_ds, kit_bb, V.ty.injEq, and_assoc, rIxU, rLenH, rLenU, rLenS, rInt1, rSetL, rEq, rNe, rCat, L2.start, List.map, List.length, List.length_cons, List.length_nil, List.replicate, List.getElem?_cons_zero, List.getElem?_cons_succ, List.set_cons_zero, List.set_cons_succ, List.set_nil, List.cons_append, List.nil_append, List.append_nil, Option.some.injEq, V.int.injEq, V.ref.injEq, V.str.injEq, V.bl.injEq, HO.lst.injEq, HO.tup.injEq, exists_eq_left', exists_and_left, exists_eq_left, List.cons.injEq, and_true, true_and, and_false, false_and, and_self, reduceCtorEq, exists_false, or_false, false_or, exists_const, at0, at1, at2, at3, at4, at5, ix51, ix52, ix54, upd_same, Nat.reduceAdd, Nat.reduceSub, Nat.zero_add, Int.reduceToNat, Int.reduceLE, Int.reduceLT, decide_eq_true_eq, Bool.not_eq_true, if_true, if_false, Bool.false_eq_true, ite_true, ite_false, Bool.not_true, Bool.not_false, decide_true, decide_false, tFor_eq, tLc_eq, iList, iTup, iRng1, iRng2, iStr, tSl, tPart, tNoPart, rSlL, cxOf_K, wipe, ex_ty2, kit_LTl, kit_LTt, kit_LTd, kit_LTs, kit_LTn, kit_LTb, kit_LTi, tM1, rIxS, exists_eq', lt1p, tDNewK, rSlS, rEqNil, nox_K, isIntV, tRaiseX, tMkX]; exact fun d hd => k _ d (same_new hd) upd_same
      | bl b => try simp only [tSeq, tNext, tRet, tRetN, tAsg, gName, gSub, tDrop, tIfS, tOp, tUn, tCB, tCons, tNil, tC, tVar, rI, rI0, rU, tAnd, tOr, tNot, tAndV, tOrV, tNotV, tIf, tTest, tB, tCall, tChain, tLst, tTup, tYes, rIxH, rIsB, rIsBT, rMulS, kd_non, kd_bl, kd_int, kd_str, kd_ref, kdO_lst, kdO_tup, kdO_dK, nq_n, nq_b, nq_i, nq_s, nq_l, nq_t, nq_d, ne_eq, not_false_eq_true, kit_ss, kit_ns, kit_bs, kit_is, kit_ls, kit_ts, kit_ds, kit_bb, V.ty.injEq, and_assoc, rIxU, rLenH, rLenU, rLenS, rInt1, rSetL, rEq, rNe, rCat, L2.start, List.map, List.length, List.length_cons, List.length_nil, List.replicate, List.getElem?_cons_zero, List.getElem?_cons_succ, List.set_cons_zero, List.set_cons_succ, List.set_nil, List.cons_append, List.nil_append, List.append_nil, Option.some.injEq, V.int.injEq, V.ref.injEq, V.str.injEq, V.bl.injEq, HO.lst.injEq, HO.tup.injEq, exists_eq_left', exists_and_left, exists_eq_left, List.cons.injEq, and_true, true_and, and_false, false_and, and_self, reduceCtorEq, exists_false, or_false, false_or, exists_const, at0, at1, at2, at3, at4, at5, ix51, ix52, ix54, upd_same, Nat.reduceAdd, Nat.reduceSub, Nat.zero_add, Int.reduceToNat, Int.reduceLE, Int.reduceLT, decide_eq_true_eq, Bool.not_eq_true, if_true, if_false, Bool.false_eq_true, ite_true, ite_false, Bool.not_true, Bool.not_false, decide_true, decide_false, tFor_eq, tLc_eq, iList, iTup, iRng1, iRng2, iStr, tSl, tPart, tNoPart, rSlL, cxOf_K, wipe, ex_ty2, kit_LTl, kit_LTt, kit_LTd, kit_LTs, kit_LTn, kit_LTb, kit_LTi, tM1, rIxS, exists_eq', lt1p, tDNewK, rSlS, rEqNil, nox_K, isIntV, tRaiseX, tMkX]; exact fun d hd => k _ d (same_new hd) upd_same
theorem lay_ints : ∀ (ps : List Int), PyData.canLayAll0 (ps.map PyData.int) = true
  | [] => rfl
  | _ :: r => by
    show (true && PyData.canLayAll0 (r.map PyData.int)) = true
    rw [lay_ints r]
    rfl
theorem dep_ints : ∀ (ps : List Int), PyData.depthAll (ps.map PyData.int) ≤ 1
  | [] => by simp [PyData.depthAll]
  | z :: r => by
    have := dep_ints r
    simp only [List.map_cons, PyData.depthAll, PyData.depth]
    omega
theorem shT {ds : List PyData} (h1 : PyData.canLayAll0 ds = true) (h2 : PyData.depthAll ds ≤ 1) : SeqAt.shaped (.tuple ds) = true := by
  unfold SeqAt.shaped
  have h3 : PyData.canLay0 (.tuple ds) = true := h1
  rw [h3, Bool.true_and]
  refine decide_eq_true ?_
  simp only [PyData.depth]
  omega
theorem eqv_strsT : ∀ (xs ys : List Str), PyData.eqvAll (xs.map PyData.str) (ys.map PyData.str) = decide (xs = ys)
  | [], [] => by simp [PyData.eqvAll]
  | [], _ :: _ => by simp [PyData.eqvAll]
  | _ :: _, [] => by simp [PyData.eqvAll]
  | x :: xs, y :: ys => by
    have ih := eqv_strsT xs ys
    simp only [List.map_cons, PyData.eqvAll, ih, PyData.eqv]
    rw [Bool.eq_iff_iff]
    simp
theorem eqv_intsT : ∀ (xs ys : List Int), PyData.eqvAll (xs.map PyData.int) (ys.map PyData.int) = decide (xs = ys)
  | [], [] => by simp [PyData.eqvAll]
  | [], _ :: _ => by simp [PyData.eqvAll]
  | _ :: _, [] => by simp [PyData.eqvAll]
  | x :: xs, y :: ys => by
    have ih := eqv_intsT xs ys
    simp only [List.map_cons, PyData.eqvAll, ih, PyData.eqv]
    rw [Bool.eq_iff_iff]
    simp
theorem dp_ints {K : PySem.W.Frag} {H : Hp} : ∀ (zs : List Int), DpAll K H (zs.map V.int) (zs.map PyData.int)
  | [] => .nil
  | z :: r => .cons (.int z) (dp_ints r)
theorem neT_strs {K : PySem.W.Frag} {H : Hp} {a b : Addr} {xs ys : List Str} {Q : VK} (ha : H a = some (.tup (xs.map V.str))) (hb : H b = some (.tup (ys.map V.str))) (h1 : ∀ z ∈ xs, ∀ c ∈ z.cps.toList, c < 128) (h2 : ∀ z ∈ ys, ∀ c ∈ z.cps.toList, c < 128) (k : Q (.bl (!decide (xs = ys))) H) : rNeD K (.ref a) (.ref b) H Q := by
  refine ⟨.tuple (xs.map PyData.str), .tuple (ys.map PyData.str), .tup (SqT.of ha) (dp_strs xs), .tup (SqT.of hb) (dp_strs ys), shT (lay_strs xs h1) (dep_strs xs), shT (lay_strs ys h2) (dep_strs ys), ?_⟩
  have e : PyData.eqv (.tuple (xs.map PyData.str)) (.tuple (ys.map PyData.str)) = decide (xs = ys) := by
    rw [← eqv_strsT]
    simp only [PyData.eqv]
  rw [e]
  exact k
theorem neT_ints {K : PySem.W.Frag} {H : Hp} {a b : Addr} {xs ys : List Int} {Q : VK} (ha : H a = some (.tup (xs.map V.int))) (hb : H b = some (.tup (ys.map V.int))) (k : Q (.bl (!decide (xs = ys))) H) : rNeD K (.ref a) (.ref b) H Q := by
  refine ⟨.tuple (xs.map PyData.int), .tuple (ys.map PyData.int), .tup (SqT.of ha) (dp_ints xs), .tup (SqT.of hb) (dp_ints ys), shT (lay_ints xs) (dep_ints xs), shT (lay_ints ys) (dep_ints ys), ?_⟩
  have e : PyData.eqv (.tuple (xs.map PyData.int)) (.tuple (ys.map PyData.int)) = decide (xs = ys) := by
    rw [← eqv_intsT]
    simp only [PyData.eqv]
  rw [e]
  exact k
def spVEq (C : Addr) : Sp := fun vs H Q _ => ∃ a ls ps n v, vs = [.ref a, v] ∧ VerAt C H a ls ps n ∧ ls.length ≤ 12 ∧ ps.length ≤ 3 ∧ (∀ z ∈ ls, ∀ c ∈ z.cps.toList, c < 128) ∧
  ((∃ a' ls' ps' n', v = .ref a' ∧ VerAt C H a' ls' ps' n' ∧ ls'.length ≤ 12 ∧ ps'.length ≤ 3 ∧ (∀ z ∈ ls', ∀ c ∈ z.cps.toList, c < 128) ∧ Q (.bl (decide (ls = ls') && decide (ps = ps') && decide (n = n'))) H) ∨ (∃ b xs, v = .ref b ∧ H b = some (.lst xs) ∧ Q (.bl false) H))
theorem ok_veq (T : Txt K mg A) : FnOk PW w K mg base CX0 1 A.a_VersionEq A.d_VersionEq ["self", "other"] (spVEq A.k_Version) := by
  refine T.f_VersionEq.ok scVersionEq (fun vs H Q E h => ?_) (fun cdv A' outer s H vs Q E hr h => ?_)
  · obtain ⟨a, ls, ps, n, v, rfl, _⟩ := h
    rfl
  · obtain ⟨a, ls, ps, n, v, rfl, ⟨dx, l, p, ha, hl, hp⟩, l12, p3, asc, h⟩ := h
    refine ⟨_, (pss_cons (ps_if (pt_not (pt_val (pe_callB call_isW (by rfl) T.z_isinstance (by decide +kernel) (pa_cons (pv 1) (pa_cons (pe_glob (v := .ref A.k_Version) (by rfl) T.k_Version rfl) pa_nil))))) (pss_one (ps_ret pe_bl)) pss_nil)
      (pss_cons (ps_if (PW.pt (pw_or (pt_cmpR (op_neD hr.units) (pe_fld (pv 0) rfl) (pe_fld (pv 1) rfl) (nomark _)) (pw_or1 (pt_cmpR (op_neD hr.units) (pe_fld (pv 0) rfl) (pe_fld (pv 1) rfl) (nomark _))))) (pss_one (ps_ret pe_bl)) pss_nil)
      (pss_one (ps_ret (pe_cmpR (op_eq) (pe_fld (pv 0) rfl) (pe_fld (pv 1) rfl) (nomark _)))))), ?_⟩
    rcases h with ⟨a', ls', ps', n', rfl, ⟨dx', l', p', ha', hl', hp'⟩, l12', p3', asc', k⟩ | ⟨b, xs, rfl, hb, k⟩
    · have e1 : PySem.W.kitOne K (.ref A.k_Version) (.ref A.k_Version) = some true := kit_self
      have et : tyV H (.ref a') = some (.ref A.k_Version) := by rw [tyV_ref, ha']; rfl
      try simp only [tSeq, tNext, tRet, tRetN, tAsg, gName, gSub, tDrop, tIfS, tOp, tUn, tCB, tCons, tNil, tC, tVar, rI, rI0, rU, tAnd, tOr, tNot, tAndV, tOrV, tNotV, tIf, tTest, tB, tCall, tChain, tLst, tTup, tYes, rIxH, rIsB, rIsBT, rMulS, kd_non, kd_bl, kd_int, kd_str, kd_ref, kdO_lst, kdO_tup, kdO_dK, nq_n, nq_b, nq_i, nq_s, nq_l, nq_t, nq_d, ne_eq, not_false_eq_true, kit_ss, kit_ns, kit_bs, kit_is, kit_ls, kit_ts, kit_ds, kit_bb, V.ty.injEq, and_assoc, rIxU, rLenH, rLenU, rLenS, rInt1, rSetL, rEq, rNe, rCat, L2.start, List.map, List.length, List.length_cons, List.length_nil, List.replicate, List.getElem?_cons_zero, List.getElem?_cons_succ, List.set_cons_zero, List.set_cons_succ, List.set_nil, List.cons_append, List.nil_append, List.append_nil, Option.some.injEq, V.int.injEq, V.ref.injEq, V.str.injEq, V.bl.injEq, HO.lst.injEq, HO.tup.injEq, exists_eq_left', exists_and_left, exists_eq_left, List.cons.injEq, and_true, true_and, and_false, false_and, and_self, reduceCtorEq, exists_false, or_false, false_or, exists_const, at0, at1, at2, at3, at4, at5, ix51, ix52, ix54, upd_same, Nat.reduceAdd, Nat.reduceSub, Nat.zero_add, Int.reduceToNat, Int.reduceLE, Int.reduceLT, decide_eq_true_eq, Bool.not_eq_true, if_true, if_false, Bool.false_eq_true, ite_true, ite_false, Bool.not_true, Bool.not_false, decide_true, decide_false, tFor_eq, tLc_eq, iList, iTup, iRng1, iRng2, iStr, tSl, tPart, tNoPart, rSlL, cxOf_K, wipe, ex_ty2, kit_LTl, kit_LTt, kit_LTd, kit_LTs, kit_LTn, kit_LTb, kit_LTi, tM1, rIxS, exists_eq', lt1p, tDNewK, rSlS, rEqNil, nox_K, rIsW, clsV_ty, clsV_ref, et, e1, Value.ref.injEq, forall_eq', T.t_Version, implies_true, forall_const, tFld, ha, ha', HO.ins.injEq, T.t_Version.cl, T.n_Version_kept_lines, T.n_Version_kept_parents, T.n_Version_kept_author, vf_l, vf_p, vf_a, scal_str]
      refine neT_strs hl hl' asc asc' ?_
      refine ⟨_, rfl, ?_⟩
      by_cases e : ls = ls'
      · rw [if_neg (by simp [e])]
        refine ⟨_, _, _, ha, T.t_Version.cl, T.n_Version_kept_parents, _, vf_p, _, _, _, ha', T.t_Version.cl, T.n_Version_kept_parents, _, vf_p, ?_⟩
        refine neT_ints hp hp' ?_
        refine ⟨_, rfl, ?_⟩
        by_cases e' : ps = ps'
        · rw [if_neg (by simp [e'])]
          refine ⟨_, _, _, ha, T.t_Version.cl, T.n_Version_kept_author, _, vf_a, _, _, _, ha', T.t_Version.cl, T.n_Version_kept_author, _, vf_a, ?_⟩
          rw [decide_eq_true e, decide_eq_true e', Bool.true_and, Bool.true_and] at k
          first | exact ⟨scal_str, k⟩ | exact k | exact ⟨scal_str, by simpa [eqV] using k⟩ | simpa [eqV] using k
        · rw [if_pos (by simp [e'])]
          rw [decide_eq_false e', Bool.and_false, Bool.false_and] at k
          exact k
      · rw [if_pos (by simp [e])]
        rw [decide_eq_false e, Bool.false_and, Bool.false_and] at k
        exact k
    · have et : tyV H (.ref b) = some (.type "list") := by rw [tyV_ref, hb]; rfl
      try simp only [tSeq, tNext, tRet, tRetN, tAsg, gName, gSub, tDrop, tIfS, tOp, tUn, tCB, tCons, tNil, tC, tVar, rI, rI0, rU, tAnd, tOr, tNot, tAndV, tOrV, tNotV, tIf, tTest, tB, tCall, tChain, tLst, tTup, tYes, rIxH, rIsB, rIsBT, rMulS, kd_non, kd_bl, kd_int, kd_str, kd_ref, kdO_lst, kdO_tup, kdO_dK, nq_n, nq_b, nq_i, nq_s, nq_l, nq_t, nq_d, ne_eq, not_false_eq_true, kit_ss, kit_ns, kit_bs, kit_is, kit_ls, kit_ts, kit_ds, kit_bb, V.ty.injEq, and_assoc, rIxU, rLenH, rLenU, rLenS, rInt1, rSetL, rEq, rNe, rCat, L2.start, List.map, List.length, List.length_cons, List.length_nil, List.replicate, List.getElem?_cons_zero, List.getElem?_cons_succ, List.set_cons_zero, List.set_cons_succ, List.set_nil, List.cons_append, List.nil_append, List.append_nil, Option.some.injEq, V.int.injEq, V.ref.injEq, V.str.injEq, V.bl.injEq, HO.lst.injEq, HO.tup.injEq, exists_eq_left', exists_and_left, exists_eq_left, List.cons.injEq, and_true, true_and, and_false, false_and, and_self, reduceCtorEq, exists_false, or_false, false_or, exists_const, at0, at1, at2, at3, at4, at5, ix51, ix52, ix54, upd_same, Nat.reduceAdd, Nat.reduceSub, Nat.zero_add, Int.reduceToNat, Int.reduceLE, Int.reduceLT, decide_eq_true_eq, Bool.not_eq_true, if_true, if_false, Bool.false_eq_true, ite_true, ite_false, Bool.not_true, Bool.not_false, decide_true, decide_false, tFor_eq, tLc_eq, iList, iTup, iRng1, iRng2, iStr, tSl, tPart, tNoPart, rSlL, cxOf_K, wipe, ex_ty2, kit_LTl, kit_LTt, kit_LTd, kit_LTs, kit_LTn, kit_LTb, kit_LTi, tM1, rIxS, exists_eq', lt1p, tDNewK, rSlS, rEqNil, nox_K, rIsW, clsV_ty, clsV_ref, et, T.q_list_Version]
      exact ⟨fun _ z => z.elim, k⟩
end



/-! ### parents -/
section
variable {X : Cx}
/-- isinstance(x, (.., ..)) where x is a tuple of the text itself -/
def rIsKT (K : PySem.W.Frag) : List V → Hp → VK → Prop := fun vs H Q => ∃ a p ts cs b o, vs = [.ref a, .ref p] ∧ H p = some (.tup ts) ∧ ts = List.map V.ty cs ∧ K.lookup a = some o ∧ o.cls = .type "tuple" ∧ kitAnyB "tuple" cs = some b ∧ Q (.bl b) H
theorem call_isKT : CallR X (.builtin "isinstance") (rIsKT X.K) := fun pins s σ H xs us Q I r h => by
  obtain ⟨a, p, ts, cs, b, o, h1, h2, rfl, h3, h4, h5, h6⟩ := h
  exact call_isiT pins s σ H xs us Q I r ⟨.ref a, p, _, _, _, b, h1, h2, clsV_all cs, .kTuple h3 h4, kitAnyB_ok h5, h6⟩
end
/-- the empty tuple of the text -/
structure KT0 (K : PySem.W.Frag) (a : Addr) : Prop where
  sq : ∀ H, SqT K H a []
  lk : ∃ o, K.lookup a = some o ∧ o.cls = .type "tuple"
def isParV (H : Hp) (v : V) : Bool := match seqV H v with
  | some xs => parL xs
  | none => false
theorem par_of {H : Hp} {v : V} {xs : List V} (h : seqV H v = some xs) : isParV H v = parL xs := by
  unfold isParV
  rw [h]
theorem par_no {H : Hp} {v : V} (h : seqV H v = none) : isParV H v = false := by
  unfold isParV
  rw [h]
def spPar (K : PySem.W.Frag) : Sp := fun vs H Q _ => ∃ v, vs = [v] ∧ ((Thg H v ∧ (∀ xs, seqV H v = some xs → xs.length ≤ 1000 ∧ ∀ x ∈ xs, Thg H x) ∧ ∀ H', Same H H' → Q (.bl (isParV H v)) H') ∨
  (∃ a, v = .ref a ∧ KT0 K a ∧ ∀ H', Same H H' → Q (.bl true) H'))
section
variable {P : Program} {w : World} {K : PySem.W.Frag} {mg : Str → Option Value} {base : Heap} {A : Adr}
theorem ok_par (T : Txt K mg A) (gIsCount : FnOk P w K mg base CX0 2 A.a_IsCount A.d_IsCount ["value"] spIsCntT) : FnOk P w K mg base CX0 3 A.a_AreParents A.d_AreParents ["value"] (spPar K) := by
  refine T.f_AreParents.ok scAreParents (fun vs H Q E h => ?_) (fun cdv A' outer s H vs Q E hr h => ?_)
  · obtain ⟨v, rfl, _⟩ := h
    rfl
  · obtain ⟨v, rfl, h⟩ := h
    rcases h with ⟨ht, hx, k⟩ | ⟨a, rfl, ⟨sq, o, ho1, ho2⟩, k⟩
    · cases ht with
      | lst e =>
        rename_i a xs
        refine ⟨_, (pss_cons (ps_if (PW.pt (pw_or (pt_not (pt_val (pe_callB call_isBT (by rfl) T.z_isinstance (by decide +kernel) (pa_cons (pv 0) (pa_cons (pe_tup (pa_cons (pe_bltn (v := .ty "list") (by rfl) T.z_list (by decide +kernel) rfl) (pa_cons (pe_bltn (v := .ty "tuple") (by rfl) T.z_tuple (by decide +kernel) rfl) pa_nil))) pa_nil))))) (pw_or1 (pt_cmpR (op_gt) (pe_callB call_lenH (by rfl) T.z_len (by decide +kernel) (pa_cons (pv 0) pa_nil)) (pe_glob (v := .int 3) (by rfl) T.c_MOST_PARENTS.choose_spec ⟨_, rfl⟩) (nomark _))))) (pss_one (ps_ret pe_bl)) pss_nil)
      (pss_one (ps_ret (pe_and (pe_callB (cr_all rfl) (by rfl) T.z_all (by decide +kernel) (pa_cons (pe_lc (own := [("number", 1)]) (g := gName 1) (tt := tYes) (by rfl) scAreParents.nd (pi_list (pv 0)) (blkOk_by (own := [("number", 1)]) (N := nAreParents) (sc := defScope sAreParents) (by decide +kernel)) (fun _ _ _ _ _ => pg_name (i := 1) scAreParents.nd rfl (Or.inl rfl)) (fun _ _ _ _ _ => pts_nil) (fun _ _ _ _ _ => (pe_call gIsCount (hr.mono (by decide)) (by rfl) T.m_IsCount T.f_IsCount.kp T.b_IsCount .nil pass0 (pa_cons (pv 1) pa_nil)))) pa_nil)) (pe_one (pe_cmpR (op_eq) (pe_lenSetI2 rfl (by rfl) T.z_len (by rfl) T.z_set (pv 0)) (pe_callB call_lenH (by rfl) T.z_len (by decide +kernel) (pa_cons (pv 0) pa_nil)) (nomark _))))))), ?_⟩
        try simp only [tSeq, tNext, tRet, tRetN, tAsg, gName, gSub, tDrop, tIfS, tOp, tUn, tCB, tCons, tNil, tC, tVar, rI, rI0, rU, tAnd, tOr, tNot, tAndV, tOrV, tNotV, tIf, tTest, tB, tCall, tChain, tLst, tTup, tYes, rIxH, rIsB, rIsBT, rMulS, kd_non, kd_bl, kd_int, kd_str, kd_ref, kdO_lst, kdO_tup, kdO_dK, nq_n, nq_b, nq_i, nq_s, nq_l, nq_t, nq_d, ne_eq, not_false_eq_true, kit_ss, kit_ns, kit_bs, kit_is, kit_ls, kit_ts, kit_ds, kit_bb, V.ty.injEq, and_assoc, rIxU, rLenH, rLenU, rLenS, rInt1, rSetL, rEq, rNe, rCat, L2.start, List.map, List.length, List.length_cons, List.length_nil, List.replicate, List.getElem?_cons_zero, List.getElem?_cons_succ, List.set_cons_zero, List.set_cons_succ, List.set_nil, List.cons_append, List.nil_append, List.append_nil, Option.some.injEq, V.int.injEq, V.ref.injEq, V.str.injEq, V.bl.injEq, HO.lst.injEq, HO.tup.injEq, exists_eq_left', exists_and_left, exists_eq_left, List.cons.injEq, and_true, true_and, and_false, false_and, and_self, reduceCtorEq, exists_false, or_false, false_or, exists_const, at0, at1, at2, at3, at4, at5, ix51, ix52, ix54, upd_same, Nat.reduceAdd, Nat.reduceSub, Nat.zero_add, Int.reduceToNat, Int.reduceLE, Int.reduceLT, decide_eq_true_eq, Bool.not_eq_true, if_true, if_false, Bool.false_eq_true, ite_true, ite_false, Bool.not_true, Bool.not_false, decide_true, decide_false, tFor_eq, tLc_eq, iList, iTup, iRng1, iRng2, iStr, tSl, tPart, tNoPart, rSlL, cxOf_K, wipe, ex_ty2, kit_LTl, kit_LTt, kit_LTd, kit_LTs, kit_LTn, kit_LTb, kit_LTi, tM1, rIxS, exists_eq', lt1p, tDNewK, rSlS, rEqNil, e]
        refine ⟨by decide, ?_⟩
        intro p n_p; generalize g_H1 : upd H p _ = H1; obtain ⟨s_H1, h_p⟩ := new_facts n_p g_H1; clear g_H1
        have e1 := s_H1 _ _ e
        obtain ⟨hl, hth⟩ := hx xs (by show seqO (H a) = _; rw [e]; rfl)
        have ev : isParV H (.ref a) = parL xs := par_of (by show seqO (H a) = _; rw [e]; rfl)
        unfold parL at ev
        try simp only [tSeq, tNext, tRet, tRetN, tAsg, gName, gSub, tDrop, tIfS, tOp, tUn, tCB, tCons, tNil, tC, tVar, rI, rI0, rU, tAnd, tOr, tNot, tAndV, tOrV, tNotV, tIf, tTest, tB, tCall, tChain, tLst, tTup, tYes, rIxH, rIsB, rIsBT, rMulS, kd_non, kd_bl, kd_int, kd_str, kd_ref, kdO_lst, kdO_tup, kdO_dK, nq_n, nq_b, nq_i, nq_s, nq_l, nq_t, nq_d, ne_eq, not_false_eq_true, kit_ss, kit_ns, kit_bs, kit_is, kit_ls, kit_ts, kit_ds, kit_bb, V.ty.injEq, and_assoc, rIxU, rLenH, rLenU, rLenS, rInt1, rSetL, rEq, rNe, rCat, L2.start, List.map, List.length, List.length_cons, List.length_nil, List.replicate, List.getElem?_cons_zero, List.getElem?_cons_succ, List.set_cons_zero, List.set_cons_succ, List.set_nil, List.cons_append, List.nil_append, List.append_nil, Option.some.injEq, V.int.injEq, V.ref.injEq, V.str.injEq, V.bl.injEq, HO.lst.injEq, HO.tup.injEq, exists_eq_left', exists_and_left, exists_eq_left, List.cons.injEq, and_true, true_and, and_false, false_and, and_self, reduceCtorEq, exists_false, or_false, false_or, exists_const, at0, at1, at2, at3, at4, at5, ix51, ix52, ix54, upd_same, Nat.reduceAdd, Nat.reduceSub, Nat.zero_add, Int.reduceToNat, Int.reduceLE, Int.reduceLT, decide_eq_true_eq, Bool.not_eq_true, if_true, if_false, Bool.false_eq_true, ite_true, ite_false, Bool.not_true, Bool.not_false, decide_true, decide_false, tFor_eq, tLc_eq, iList, iTup, iRng1, iRng2, iStr, tSl, tPart, tNoPart, rSlL, cxOf_K, wipe, ex_ty2, kit_LTl, kit_LTt, kit_LTd, kit_LTs, kit_LTn, kit_LTb, kit_LTi, tM1, rIxS, exists_eq', lt1p, tDNewK, rSlS, rEqNil, e1]
        refine ite2 (fun h => ?_) (fun h => ?_)
        · rw [decide_eq_false (show ¬ xs.length ≤ 3 by omega), Bool.false_and, Bool.false_and] at ev
          rw [← ev]
          exact k _ s_H1
        · refine ⟨⟨_, SqL.of e1⟩, fun D hD => ?_⟩
          refine lc_same (walk_list (K := K) (xs := xs)) (fun _ => true) (fun v => .bl (isCntV v)) hD (fun _ s2 => s2.seq (SqL.of e1)) (by omega) (fun x hx H2 s2 R R0 h1 _ => ?_) (fun H2 s2 h2 => ?_)
          · try simp only [tSeq, tNext, tRet, tRetN, tAsg, gName, gSub, tDrop, tIfS, tOp, tUn, tCB, tCons, tNil, tC, tVar, rI, rI0, rU, tAnd, tOr, tNot, tAndV, tOrV, tNotV, tIf, tTest, tB, tCall, tChain, tLst, tTup, tYes, rIxH, rIsB, rIsBT, rMulS, kd_non, kd_bl, kd_int, kd_str, kd_ref, kdO_lst, kdO_tup, kdO_dK, nq_n, nq_b, nq_i, nq_s, nq_l, nq_t, nq_d, ne_eq, not_false_eq_true, kit_ss, kit_ns, kit_bs, kit_is, kit_ls, kit_ts, kit_ds, kit_bb, V.ty.injEq, and_assoc, rIxU, rLenH, rLenU, rLenS, rInt1, rSetL, rEq, rNe, rCat, L2.start, List.map, List.length, List.length_cons, List.length_nil, List.replicate, List.getElem?_cons_zero, List.getElem?_cons_succ, List.set_cons_zero, List.set_cons_succ, List.set_nil, List.cons_append, List.nil_append, List.append_nil, Option.some.injEq, V.int.injEq, V.ref.injEq, V.str.injEq, V.bl.injEq, HO.lst.injEq, HO.tup.injEq, exists_eq_left', exists_and_left, exists_eq_left, List.cons.injEq, and_true, true_and, and_false, false_and, and_self, reduceCtorEq, exists_false, or_false, false_or, exists_const, at0, at1, at2, at3, at4, at5, ix51, ix52, ix54, upd_same, Nat.reduceAdd, Nat.reduceSub, Nat.zero_add, Int.reduceToNat, Int.reduceLE, Int.reduceLT, decide_eq_true_eq, Bool.not_eq_true, if_true, if_false, Bool.false_eq_true, ite_true, ite_false, Bool.not_true, Bool.not_false, decide_true, decide_false, tFor_eq, tLc_eq, iList, iTup, iRng1, iRng2, iStr, tSl, tPart, tNoPart, rSlL, cxOf_K, wipe, ex_ty2, kit_LTl, kit_LTt, kit_LTd, kit_LTs, kit_LTn, kit_LTb, kit_LTi, tM1, rIxS, exists_eq', lt1p, tDNewK, rSlS, rEqNil]
            exact ⟨x, rfl, (hth x hx).mono (s_H1.trans s2), h1 H2 (Same.refl _) rfl⟩
          · rw [filter_all] at h2
            refine ⟨D, xs.map isCntV, rfl, SqL.of (by rw [h2, List.map_map]; rfl), ?_⟩
            rw [decide_eq_true (show xs.length ≤ 3 by omega), Bool.true_and] at ev
            have e2 : (xs.map isCntV).all id = xs.all isCntV := by rw [List.all_map]; rfl
            rw [e2]
            have e12 := s2 _ _ e1
            cases ea : xs.all isCntV with
            | false =>
              try simp only [tSeq, tNext, tRet, tRetN, tAsg, gName, gSub, tDrop, tIfS, tOp, tUn, tCB, tCons, tNil, tC, tVar, rI, rI0, rU, tAnd, tOr, tNot, tAndV, tOrV, tNotV, tIf, tTest, tB, tCall, tChain, tLst, tTup, tYes, rIxH, rIsB, rIsBT, rMulS, kd_non, kd_bl, kd_int, kd_str, kd_ref, kdO_lst, kdO_tup, kdO_dK, nq_n, nq_b, nq_i, nq_s, nq_l, nq_t, nq_d, ne_eq, not_false_eq_true, kit_ss, kit_ns, kit_bs, kit_is, kit_ls, kit_ts, kit_ds, kit_bb, V.ty.injEq, and_assoc, rIxU, rLenH, rLenU, rLenS, rInt1, rSetL, rEq, rNe, rCat, L2.start, List.map, List.length, List.length_cons, List.length_nil, List.replicate, List.getElem?_cons_zero, List.getElem?_cons_succ, List.set_cons_zero, List.set_cons_succ, List.set_nil, List.cons_append, List.nil_append, List.append_nil, Option.some.injEq, V.int.injEq, V.ref.injEq, V.str.injEq, V.bl.injEq, HO.lst.injEq, HO.tup.injEq, exists_eq_left', exists_and_left, exists_eq_left, List.cons.injEq, and_true, true_and, and_false, false_and, and_self, reduceCtorEq, exists_false, or_false, false_or, exists_const, at0, at1, at2, at3, at4, at5, ix51, ix52, ix54, upd_same, Nat.reduceAdd, Nat.reduceSub, Nat.zero_add, Int.reduceToNat, Int.reduceLE, Int.reduceLT, decide_eq_true_eq, Bool.not_eq_true, if_true, if_false, Bool.false_eq_true, ite_true, ite_false, Bool.not_true, Bool.not_false, decide_true, decide_false, tFor_eq, tLc_eq, iList, iTup, iRng1, iRng2, iStr, tSl, tPart, tNoPart, rSlL, cxOf_K, wipe, ex_ty2, kit_LTl, kit_LTt, kit_LTd, kit_LTs, kit_LTn, kit_LTb, kit_LTi, tM1, rIxS, exists_eq', lt1p, tDNewK, rSlS, rEqNil]
              rw [ea, Bool.false_and] at ev
              rw [← ev]
              exact k H2 (s_H1.trans s2)
            | true =>
              rw [ea, Bool.true_and] at ev
              have ei := cnt_ints ea
              try simp only [tSeq, tNext, tRet, tRetN, tAsg, gName, gSub, tDrop, tIfS, tOp, tUn, tCB, tCons, tNil, tC, tVar, rI, rI0, rU, tAnd, tOr, tNot, tAndV, tOrV, tNotV, tIf, tTest, tB, tCall, tChain, tLst, tTup, tYes, rIxH, rIsB, rIsBT, rMulS, kd_non, kd_bl, kd_int, kd_str, kd_ref, kdO_lst, kdO_tup, kdO_dK, nq_n, nq_b, nq_i, nq_s, nq_l, nq_t, nq_d, ne_eq, not_false_eq_true, kit_ss, kit_ns, kit_bs, kit_is, kit_ls, kit_ts, kit_ds, kit_bb, V.ty.injEq, and_assoc, rIxU, rLenH, rLenU, rLenS, rInt1, rSetL, rEq, rNe, rCat, L2.start, List.map, List.length, List.length_cons, List.length_nil, List.replicate, List.getElem?_cons_zero, List.getElem?_cons_succ, List.set_cons_zero, List.set_cons_succ, List.set_nil, List.cons_append, List.nil_append, List.append_nil, Option.some.injEq, V.int.injEq, V.ref.injEq, V.str.injEq, V.bl.injEq, HO.lst.injEq, HO.tup.injEq, exists_eq_left', exists_and_left, exists_eq_left, List.cons.injEq, and_true, true_and, and_false, false_and, and_self, reduceCtorEq, exists_false, or_false, false_or, exists_const, at0, at1, at2, at3, at4, at5, ix51, ix52, ix54, upd_same, Nat.reduceAdd, Nat.reduceSub, Nat.zero_add, Int.reduceToNat, Int.reduceLE, Int.reduceLT, decide_eq_true_eq, Bool.not_eq_true, if_true, if_false, Bool.false_eq_true, ite_true, ite_false, Bool.not_true, Bool.not_false, decide_true, decide_false, tFor_eq, tLc_eq, iList, iTup, iRng1, iRng2, iStr, tSl, tPart, tNoPart, rSlL, cxOf_K, wipe, ex_ty2, kit_LTl, kit_LTt, kit_LTd, kit_LTs, kit_LTn, kit_LTb, kit_LTi, tM1, rIxS, exists_eq', lt1p, tDNewK, rSlS, rEqNil, e12, tLenSetI2]
              refine ⟨xs.map cntOf, ⟨a, rfl, .inl (SqL.of (by rw [e12, ← ei]))⟩, by rw [List.length_map]; omega, scal_int, ?_⟩
              have h0 := k H2 (s_H1.trans s2)
              rw [ev] at h0
              have ec : decide (((nd (xs.map cntOf)).length : Int) = (xs.length : Int)) = decide ((nd (xs.map cntOf)).length = xs.length) := by
                rw [Bool.eq_iff_iff]
                simp only [decide_eq_true_eq]
                omega
              rw [← ec] at h0
              exact h0
      | tup e =>
        rename_i a xs
        refine ⟨_, (pss_cons (ps_if (PW.pt (pw_or (pt_not (pt_val (pe_callB call_isBT (by rfl) T.z_isinstance (by decide +kernel) (pa_cons (pv 0) (pa_cons (pe_tup (pa_cons (pe_bltn (v := .ty "list") (by rfl) T.z_list (by decide +kernel) rfl) (pa_cons (pe_bltn (v := .ty "tuple") (by rfl) T.z_tuple (by decide +kernel) rfl) pa_nil))) pa_nil))))) (pw_or1 (pt_cmpR (op_gt) (pe_callB call_lenU (by rfl) T.z_len (by decide +kernel) (pa_cons (pv 0) pa_nil)) (pe_glob (v := .int 3) (by rfl) T.c_MOST_PARENTS.choose_spec ⟨_, rfl⟩) (nomark _))))) (pss_one (ps_ret pe_bl)) pss_nil)
      (pss_one (ps_ret (pe_and (pe_callB (cr_all rfl) (by rfl) T.z_all (by decide +kernel) (pa_cons (pe_lc (own := [("number", 1)]) (g := gName 1) (tt := tYes) (by rfl) scAreParents.nd (pi_tup (pv 0)) (blkOk_by (own := [("number", 1)]) (N := nAreParents) (sc := defScope sAreParents) (by decide +kernel)) (fun _ _ _ _ _ => pg_name (i := 1) scAreParents.nd rfl (Or.inl rfl)) (fun _ _ _ _ _ => pts_nil) (fun _ _ _ _ _ => (pe_call gIsCount (hr.mono (by decide)) (by rfl) T.m_IsCount T.f_IsCount.kp T.b_IsCount .nil pass0 (pa_cons (pv 1) pa_nil)))) pa_nil)) (pe_one (pe_cmpR (op_eq) (pe_lenSetI2 rfl (by rfl) T.z_len (by rfl) T.z_set (pv 0)) (pe_callB call_lenU (by rfl) T.z_len (by decide +kernel) (pa_cons (pv 0) pa_nil)) (nomark _))))))), ?_⟩
        try simp only [tSeq, tNext, tRet, tRetN, tAsg, gName, gSub, tDrop, tIfS, tOp, tUn, tCB, tCons, tNil, tC, tVar, rI, rI0, rU, tAnd, tOr, tNot, tAndV, tOrV, tNotV, tIf, tTest, tB, tCall, tChain, tLst, tTup, tYes, rIxH, rIsB, rIsBT, rMulS, kd_non, kd_bl, kd_int, kd_str, kd_ref, kdO_lst, kdO_tup, kdO_dK, nq_n, nq_b, nq_i, nq_s, nq_l, nq_t, nq_d, ne_eq, not_false_eq_true, kit_ss, kit_ns, kit_bs, kit_is, kit_ls, kit_ts, kit_ds, kit_bb, V.ty.injEq, and_assoc, rIxU, rLenH, rLenU, rLenS, rInt1, rSetL, rEq, rNe, rCat, L2.start, List.map, List.length, List.length_cons, List.length_nil, List.replicate, List.getElem?_cons_zero, List.getElem?_cons_succ, List.set_cons_zero, List.set_cons_succ, List.set_nil, List.cons_append, List.nil_append, List.append_nil, Option.some.injEq, V.int.injEq, V.ref.injEq, V.str.injEq, V.bl.injEq, HO.lst.injEq, HO.tup.injEq, exists_eq_left', exists_and_left, exists_eq_left, List.cons.injEq, and_true, true_and, and_false, false_and, and_self, reduceCtorEq, exists_false, or_false, false_or, exists_const, at0, at1, at2, at3, at4, at5, ix51, ix52, ix54, upd_same, Nat.reduceAdd, Nat.reduceSub, Nat.zero_add, Int.reduceToNat, Int.reduceLE, Int.reduceLT, decide_eq_true_eq, Bool.not_eq_true, if_true, if_false, Bool.false_eq_true, ite_true, ite_false, Bool.not_true, Bool.not_false, decide_true, decide_false, tFor_eq, tLc_eq, iList, iTup, iRng1, iRng2, iStr, tSl, tPart, tNoPart, rSlL, cxOf_K, wipe, ex_ty2, kit_LTl, kit_LTt, kit_LTd, kit_LTs, kit_LTn, kit_LTb, kit_LTi, tM1, rIxS, exists_eq', lt1p, tDNewK, rSlS, rEqNil, e]
        refine ⟨by decide, ?_⟩
        intro p n_p; generalize g_H1 : upd H p _ = H1; obtain ⟨s_H1, h_p⟩ := new_facts n_p g_H1; clear g_H1
        have e1 := s_H1 _ _ e
        obtain ⟨hl, hth⟩ := hx xs (by show seqO (H a) = _; rw [e]; rfl)
        have ev : isParV H (.ref a) = parL xs := par_of (by show seqO (H a) = _; rw [e]; rfl)
        unfold parL at ev
        try simp only [tSeq, tNext, tRet, tRetN, tAsg, gName, gSub, tDrop, tIfS, tOp, tUn, tCB, tCons, tNil, tC, tVar, rI, rI0, rU, tAnd, tOr, tNot, tAndV, tOrV, tNotV, tIf, tTest, tB, tCall, tChain, tLst, tTup, tYes, rIxH, rIsB, rIsBT, rMulS, kd_non, kd_bl, kd_int, kd_str, kd_ref, kdO_lst, kdO_tup, kdO_dK, nq_n, nq_b, nq_i, nq_s, nq_l, nq_t, nq_d, ne_eq, not_false_eq_true, kit_ss, kit_ns, kit_bs, kit_is, kit_ls, kit_ts, kit_ds, kit_bb, V.ty.injEq, and_assoc, rIxU, rLenH, rLenU, rLenS, rInt1, rSetL, rEq, rNe, rCat, L2.start, List.map, List.length, List.length_cons, List.length_nil, List.replicate, List.getElem?_cons_zero, List.getElem?_cons_succ, List.set_cons_zero, List.set_cons_succ, List.set_nil, List.cons_append, List.nil_append, List.append_nil, Option.some.injEq, V.int.injEq, V.ref.injEq, V.str.injEq, V.bl.injEq, HO.lst.injEq, HO.tup.injEq, exists_eq_left', exists_and_left, exists_eq_left, List.cons.injEq, and_true, true_and, and_false, false_and, and_self, reduceCtorEq, exists_false, or_false, false_or, exists_const, at0, at1, at2, at3, at4, at5, ix51, ix52, ix54, upd_same, Nat.reduceAdd, Nat.reduceSub, Nat.zero_add, Int.reduceToNat, Int.reduceLE, Int.reduceLT, decide_eq_true_eq, Bool.not_eq_true, if_true, if_false, Bool.false_eq_true, ite_true, ite_false, Bool.not_true, Bool.not_false, decide_true, decide_false, tFor_eq, tLc_eq, iList, iTup, iRng1, iRng2, iStr, tSl, tPart, tNoPart, rSlL, cxOf_K, wipe, ex_ty2, kit_LTl, kit_LTt, kit_LTd, kit_LTs, kit_LTn, kit_LTb, kit_LTi, tM1, rIxS, exists_eq', lt1p, tDNewK, rSlS, rEqNil, e1]
        refine ite2 (fun h => ?_) (fun h => ?_)
        · rw [decide_eq_false (show ¬ xs.length ≤ 3 by omega), Bool.false_and, Bool.false_and] at ev
          rw [← ev]
          exact k _ s_H1
        · refine ⟨⟨_, SqT.of e1⟩, fun D hD => ?_⟩
          refine lc_same (walk_tup (K := K) (xs := xs)) (fun _ => true) (fun v => .bl (isCntV v)) hD (fun _ s2 => Same.tup s2 (SqT.of e1)) (by omega) (fun x hx H2 s2 R R0 h1 _ => ?_) (fun H2 s2 h2 => ?_)
          · try simp only [tSeq, tNext, tRet, tRetN, tAsg, gName, gSub, tDrop, tIfS, tOp, tUn, tCB, tCons, tNil, tC, tVar, rI, rI0, rU, tAnd, tOr, tNot, tAndV, tOrV, tNotV, tIf, tTest, tB, tCall, tChain, tLst, tTup, tYes, rIxH, rIsB, rIsBT, rMulS, kd_non, kd_bl, kd_int, kd_str, kd_ref, kdO_lst, kdO_tup, kdO_dK, nq_n, nq_b, nq_i, nq_s, nq_l, nq_t, nq_d, ne_eq, not_false_eq_true, kit_ss, kit_ns, kit_bs, kit_is, kit_ls, kit_ts, kit_ds, kit_bb, V.ty.injEq, and_assoc, rIxU, rLenH, rLenU, rLenS, rInt1, rSetL, rEq, rNe, rCat, L2.start, List.map, List.length, List.length_cons, List.length_nil, List.replicate, List.getElem?_cons_zero, List.getElem?_cons_succ, List.set_cons_zero, List.set_cons_succ, List.set_nil, List.cons_append, List.nil_append, List.append_nil, Option.some.injEq, V.int.injEq, V.ref.injEq, V.str.injEq, V.bl.injEq, HO.lst.injEq, HO.tup.injEq, exists_eq_left', exists_and_left, exists_eq_left, List.cons.injEq, and_true, true_and, and_false, false_and, and_self, reduceCtorEq, exists_false, or_false, false_or, exists_const, at0, at1, at2, at3, at4, at5, ix51, ix52, ix54, upd_same, Nat.reduceAdd, Nat.reduceSub, Nat.zero_add, Int.reduceToNat, Int.reduceLE, Int.reduceLT, decide_eq_true_eq, Bool.not_eq_true, if_true, if_false, Bool.false_eq_true, ite_true, ite_false, Bool.not_true, Bool.not_false, decide_true, decide_false, tFor_eq, tLc_eq, iList, iTup, iRng1, iRng2, iStr, tSl, tPart, tNoPart, rSlL, cxOf_K, wipe, ex_ty2, kit_LTl, kit_LTt, kit_LTd, kit_LTs, kit_LTn, kit_LTb, kit_LTi, tM1, rIxS, exists_eq', lt1p, tDNewK, rSlS, rEqNil]
            exact ⟨x, rfl, (hth x hx).mono (s_H1.trans s2), h1 H2 (Same.refl _) rfl⟩
          · rw [filter_all] at h2
            refine ⟨D, xs.map isCntV, rfl, SqL.of (by rw [h2, List.map_map]; rfl), ?_⟩
            rw [decide_eq_true (show xs.length ≤ 3 by omega), Bool.true_and] at ev
            have e2 : (xs.map isCntV).all id = xs.all isCntV := by rw [List.all_map]; rfl
            rw [e2]
            have e12 := s2 _ _ e1
            cases ea : xs.all isCntV with
            | false =>
              try simp only [tSeq, tNext, tRet, tRetN, tAsg, gName, gSub, tDrop, tIfS, tOp, tUn, tCB, tCons, tNil, tC, tVar, rI, rI0, rU, tAnd, tOr, tNot, tAndV, tOrV, tNotV, tIf, tTest, tB, tCall, tChain, tLst, tTup, tYes, rIxH, rIsB, rIsBT, rMulS, kd_non, kd_bl, kd_int, kd_str, kd_ref, kdO_lst, kdO_tup, kdO_dK, nq_n, nq_b, nq_i, nq_s, nq_l, nq_t, nq_d, ne_eq, not_false_eq_true, kit_ss, kit_ns, kit_bs, kit_is, kit_ls, kit_ts, kit_ds, kit_bb, V.ty.injEq, and_assoc, rIxU, rLenH, rLenU, rLenS, rInt1, rSetL, rEq, rNe, rCat, L2.start, List.map, List.length, List.length_cons, List.length_nil, List.replicate, List.getElem?_cons_zero, List.getElem?_cons_succ, List.set_cons_zero, List.set_cons_succ, List.set_nil, List.cons_append, List.nil_append, List.append_nil, Option.some.injEq, V.int.injEq, V.ref.injEq, V.str.injEq, V.bl.injEq, HO.lst.injEq, HO.tup.injEq, exists_eq_left', exists_and_left, exists_eq_left, List.cons.injEq, and_true, true_and, and_false, false_and, and_self, reduceCtorEq, exists_false, or_false, false_or, exists_const, at0, at1, at2, at3, at4, at5, ix51, ix52, ix54, upd_same, Nat.reduceAdd, Nat.reduceSub, Nat.zero_add, Int.reduceToNat, Int.reduceLE, Int.reduceLT, decide_eq_true_eq, Bool.not_eq_true, if_true, if_false, Bool.false_eq_true, ite_true, ite_false, Bool.not_true, Bool.not_false, decide_true, decide_false, tFor_eq, tLc_eq, iList, iTup, iRng1, iRng2, iStr, tSl, tPart, tNoPart, rSlL, cxOf_K, wipe, ex_ty2, kit_LTl, kit_LTt, kit_LTd, kit_LTs, kit_LTn, kit_LTb, kit_LTi, tM1, rIxS, exists_eq', lt1p, tDNewK, rSlS, rEqNil]
              rw [ea, Bool.false_and] at ev
              rw [← ev]
              exact k H2 (s_H1.trans s2)
            | true =>
              rw [ea, Bool.true_and] at ev
              have ei := cnt_ints ea
              try simp only [tSeq, tNext, tRet, tRetN, tAsg, gName, gSub, tDrop, tIfS, tOp, tUn, tCB, tCons, tNil, tC, tVar, rI, rI0, rU, tAnd, tOr, tNot, tAndV, tOrV, tNotV, tIf, tTest, tB, tCall, tChain, tLst, tTup, tYes, rIxH, rIsB, rIsBT, rMulS, kd_non, kd_bl, kd_int, kd_str, kd_ref, kdO_lst, kdO_tup, kdO_dK, nq_n, nq_b, nq_i, nq_s, nq_l, nq_t, nq_d, ne_eq, not_false_eq_true, kit_ss, kit_ns, kit_bs, kit_is, kit_ls, kit_ts, kit_ds, kit_bb, V.ty.injEq, and_assoc, rIxU, rLenH, rLenU, rLenS, rInt1, rSetL, rEq, rNe, rCat, L2.start, List.map, List.length, List.length_cons, List.length_nil, List.replicate, List.getElem?_cons_zero, List.getElem?_cons_succ, List.set_cons_zero, List.set_cons_succ, List.set_nil, List.cons_append, List.nil_append, List.append_nil, Option.some.injEq, V.int.injEq, V.ref.injEq, V.str.injEq, V.bl.injEq, HO.lst.injEq, HO.tup.injEq, exists_eq_left', exists_and_left, exists_eq_left, List.cons.injEq, and_true, true_and, and_false, false_and, and_self, reduceCtorEq, exists_false, or_false, false_or, exists_const, at0, at1, at2, at3, at4, at5, ix51, ix52, ix54, upd_same, Nat.reduceAdd, Nat.reduceSub, Nat.zero_add, Int.reduceToNat, Int.reduceLE, Int.reduceLT, decide_eq_true_eq, Bool.not_eq_true, if_true, if_false, Bool.false_eq_true, ite_true, ite_false, Bool.not_true, Bool.not_false, decide_true, decide_false, tFor_eq, tLc_eq, iList, iTup, iRng1, iRng2, iStr, tSl, tPart, tNoPart, rSlL, cxOf_K, wipe, ex_ty2, kit_LTl, kit_LTt, kit_LTd, kit_LTs, kit_LTn, kit_LTb, kit_LTi, tM1, rIxS, exists_eq', lt1p, tDNewK, rSlS, rEqNil, e12, tLenSetI2]
              refine ⟨xs.map cntOf, ⟨a, rfl, .inr (SqT.of (by rw [e12, ← ei]))⟩, by rw [List.length_map]; omega, scal_int, ?_⟩
              have h0 := k H2 (s_H1.trans s2)
              rw [ev] at h0
              have ec : decide (((nd (xs.map cntOf)).length : Int) = (xs.length : Int)) = decide ((nd (xs.map cntOf)).length = xs.length) := by
                rw [Bool.eq_iff_iff]
                simp only [decide_eq_true_eq]
                omega
              rw [← ec] at h0
              exact h0
      | dic e =>
        refine ⟨_, (pss_cons (ps_if (PW.pt (pw_or (pt_not (pt_val (pe_callB call_isBT (by rfl) T.z_isinstance (by decide +kernel) (pa_cons (pv 0) (pa_cons (pe_tup (pa_cons (pe_bltn (v := .ty "list") (by rfl) T.z_list (by decide +kernel) rfl) (pa_cons (pe_bltn (v := .ty "tuple") (by rfl) T.z_tuple (by decide +kernel) rfl) pa_nil))) pa_nil))))) (pw_or1 (pt_cmpR (op_gt) (pe_callB call_lenH (by rfl) T.z_len (by decide +kernel) (pa_cons (pv 0) pa_nil)) (pe_glob (v := .int 3) (by rfl) T.c_MOST_PARENTS.choose_spec ⟨_, rfl⟩) (nomark _))))) (pss_one (ps_ret pe_bl)) pss_nil)
      (pss_one (ps_ret (pe_and (pe_callB (cr_all rfl) (by rfl) T.z_all (by decide +kernel) (pa_cons (pe_lc (own := [("number", 1)]) (g := gName 1) (tt := tYes) (by rfl) scAreParents.nd (pi_list (pv 0)) (blkOk_by (own := [("number", 1)]) (N := nAreParents) (sc := defScope sAreParents) (by decide +kernel)) (fun _ _ _ _ _ => pg_name (i := 1) scAreParents.nd rfl (Or.inl rfl)) (fun _ _ _ _ _ => pts_nil) (fun _ _ _ _ _ => (pe_call gIsCount (hr.mono (by decide)) (by rfl) T.m_IsCount T.f_IsCount.kp T.b_IsCount .nil pass0 (pa_cons (pv 1) pa_nil)))) pa_nil)) (pe_one (pe_cmpR (op_eq) (pe_lenSetI2 rfl (by rfl) T.z_len (by rfl) T.z_set (pv 0)) (pe_callB call_lenH (by rfl) T.z_len (by decide +kernel) (pa_cons (pv 0) pa_nil)) (nomark _))))))), ?_⟩
        try simp only [tSeq, tNext, tRet, tRetN, tAsg, gName, gSub, tDrop, tIfS, tOp, tUn, tCB, tCons, tNil, tC, tVar, rI, rI0, rU, tAnd, tOr, tNot, tAndV, tOrV, tNotV, tIf, tTest, tB, tCall, tChain, tLst, tTup, tYes, rIxH, rIsB, rIsBT, rMulS, kd_non, kd_bl, kd_int, kd_str, kd_ref, kdO_lst, kdO_tup, kdO_dK, nq_n, nq_b, nq_i, nq_s, nq_l, nq_t, nq_d, ne_eq, not_false_eq_true, kit_ss, kit_ns, kit_bs, kit_is, kit_ls, kit_ts, kit_ds, kit_bb, V.ty.injEq, and_assoc, rIxU, rLenH, rLenU, rLenS, rInt1, rSetL, rEq, rNe, rCat, L2.start, List.map, List.length, List.length_cons, List.length_nil, List.replicate, List.getElem?_cons_zero, List.getElem?_cons_succ, List.set_cons_zero, List.set_cons_succ, List.set_nil, List.cons_append, List.nil_append, List.append_nil, Option.some.injEq, V.int.injEq, V.ref.injEq, V.str.injEq, V.bl.injEq, HO.lst.injEq, HO.tup.injEq, exists_eq_left', exists_and_left, exists_eq_left, List.cons.injEq, and_true, true_and, and_false, false_and, and_self, reduceCtorEq, exists_false, or_false, false_or, exists_const, at0, at1, at2, at3, at4, at5, ix51, ix52, ix54, upd_same, Nat.reduceAdd, Nat.reduceSub, Nat.zero_add, Int.reduceToNat, Int.reduceLE, Int.reduceLT, decide_eq_true_eq, Bool.not_eq_true, if_true, if_false, Bool.false_eq_true, ite_true, ite_false, Bool.not_true, Bool.not_false, decide_true, decide_false, tFor_eq, tLc_eq, iList, iTup, iRng1, iRng2, iStr, tSl, tPart, tNoPart, rSlL, cxOf_K, wipe, ex_ty2, kit_LTl, kit_LTt, kit_LTd, kit_LTs, kit_LTn, kit_LTb, kit_LTi, tM1, rIxS, exists_eq', lt1p, tDNewK, rSlS, rEqNil, e]
        refine ⟨by decide, ?_⟩
        intro p n_p; generalize g_H1 : upd H p _ = H1; obtain ⟨s_H1, h_p⟩ := new_facts n_p g_H1; clear g_H1
        have e1 := s_H1 _ _ e
        try simp only [tSeq, tNext, tRet, tRetN, tAsg, gName, gSub, tDrop, tIfS, tOp, tUn, tCB, tCons, tNil, tC, tVar, rI, rI0, rU, tAnd, tOr, tNot, tAndV, tOrV, tNotV, tIf, tTest, tB, tCall, tChain, tLst, tTup, tYes, rIxH, rIsB, rIsBT, rMulS, kd_non, kd_bl, kd_int, kd_str, kd_ref, kdO_lst, kdO_tup, kdO_dK, nq_n, nq_b, nq_i, nq_s, nq_l, nq_t, nq_d, ne_eq, not_false_eq_true, kit_ss, kit_ns, kit_bs, kit_is, kit_ls, kit_ts, kit_ds, kit_bb, V.ty.injEq, and_assoc, rIxU, rLenH, rLenU, rLenS, rInt1, rSetL, rEq, rNe, rCat, L2.start, List.map, List.length, List.length_cons, List.length_nil, List.replicate, List.getElem?_cons_zero, List.getElem?_cons_succ, List.set_cons_zero, List.set_cons_succ, List.set_nil, List.cons_append, List.nil_append, List.append_nil, Option.some.injEq, V.int.injEq, V.ref.injEq, V.str.injEq, V.bl.injEq, HO.lst.injEq, HO.tup.injEq, exists_eq_left', exists_and_left, exists_eq_left, List.cons.injEq, and_true, true_and, and_false, false_and, and_self, reduceCtorEq, exists_false, or_false, false_or, exists_const, at0, at1, at2, at3, at4, at5, ix51, ix52, ix54, upd_same, Nat.reduceAdd, Nat.reduceSub, Nat.zero_add, Int.reduceToNat, Int.reduceLE, Int.reduceLT, decide_eq_true_eq, Bool.not_eq_true, if_true, if_false, Bool.false_eq_true, ite_true, ite_false, Bool.not_true, Bool.not_false, decide_true, decide_false, tFor_eq, tLc_eq, iList, iTup, iRng1, iRng2, iStr, tSl, tPart, tNoPart, rSlL, cxOf_K, wipe, ex_ty2, kit_LTl, kit_LTt, kit_LTd, kit_LTs, kit_LTn, kit_LTb, kit_LTi, tM1, rIxS, exists_eq', lt1p, tDNewK, rSlS, rEqNil, e1]
        rw [← par_no (H := H) (v := .ref _) (by show seqO (H _) = _; rw [e]; rfl)]
        exact k _ s_H1
      | non =>
        refine ⟨_, (pss_cons (ps_if (PW.pt (pw_or (pt_not (pt_val (pe_callB call_isBT (by rfl) T.z_isinstance (by decide +kernel) (pa_cons (pv 0) (pa_cons (pe_tup (pa_cons (pe_bltn (v := .ty "list") (by rfl) T.z_list (by decide +kernel) rfl) (pa_cons (pe_bltn (v := .ty "tuple") (by rfl) T.z_tuple (by decide +kernel) rfl) pa_nil))) pa_nil))))) (pw_or1 (pt_cmpR (op_gt) (pe_callB call_lenH (by rfl) T.z_len (by decide +kernel) (pa_cons (pv 0) pa_nil)) (pe_glob (v := .int 3) (by rfl) T.c_MOST_PARENTS.choose_spec ⟨_, rfl⟩) (nomark _))))) (pss_one (ps_ret pe_bl)) pss_nil)
      (pss_one (ps_ret (pe_and (pe_callB (cr_all rfl) (by rfl) T.z_all (by decide +kernel) (pa_cons (pe_lc (own := [("number", 1)]) (g := gName 1) (tt := tYes) (by rfl) scAreParents.nd (pi_list (pv 0)) (blkOk_by (own := [("number", 1)]) (N := nAreParents) (sc := defScope sAreParents) (by decide +kernel)) (fun _ _ _ _ _ => pg_name (i := 1) scAreParents.nd rfl (Or.inl rfl)) (fun _ _ _ _ _ => pts_nil) (fun _ _ _ _ _ => (pe_call gIsCount (hr.mono (by decide)) (by rfl) T.m_IsCount T.f_IsCount.kp T.b_IsCount .nil pass0 (pa_cons (pv 1) pa_nil)))) pa_nil)) (pe_one (pe_cmpR (op_eq) (pe_lenSetI2 rfl (by rfl) T.z_len (by rfl) T.z_set (pv 0)) (pe_callB call_lenH (by rfl) T.z_len (by decide +kernel) (pa_cons (pv 0) pa_nil)) (nomark _))))))), ?_⟩
        try simp only [tSeq, tNext, tRet, tRetN, tAsg, gName, gSub, tDrop, tIfS, tOp, tUn, tCB, tCons, tNil, tC, tVar, rI, rI0, rU, tAnd, tOr, tNot, tAndV, tOrV, tNotV, tIf, tTest, tB, tCall, tChain, tLst, tTup, tYes, rIxH, rIsB, rIsBT, rMulS, kd_non, kd_bl, kd_int, kd_str, kd_ref, kdO_lst, kdO_tup, kdO_dK, nq_n, nq_b, nq_i, nq_s, nq_l, nq_t, nq_d, ne_eq, not_false_eq_true, kit_ss, kit_ns, kit_bs, kit_is, kit_ls, kit_ts, kit_ds, kit_bb, V.ty.injEq, and_assoc, rIxU, rLenH, rLenU, rLenS, rInt1, rSetL, rEq, rNe, rCat, L2.start, List.map, List.length, List.length_cons, List.length_nil, List.replicate, List.getElem?_cons_zero, List.getElem?_cons_succ, List.set_cons_zero, List.set_cons_succ, List.set_nil, List.cons_append, List.nil_append, List.append_nil, Option.some.injEq, V.int.injEq, V.ref.injEq, V.str.injEq, V.bl.injEq, HO.lst.injEq, HO.tup.injEq, exists_eq_left', exists_and_left, exists_eq_left, List.cons.injEq, and_true, true_and, and_false, false_and, and_self, reduceCtorEq, exists_false, or_false, false_or, exists_const, at0, at1, at2, at3, at4, at5, ix51, ix52, ix54, upd_same, Nat.reduceAdd, Nat.reduceSub, Nat.zero_add, Int.reduceToNat, Int.reduceLE, Int.reduceLT, decide_eq_true_eq, Bool.not_eq_true, if_true, if_false, Bool.false_eq_true, ite_true, ite_false, Bool.not_true, Bool.not_false, decide_true, decide_false, tFor_eq, tLc_eq, iList, iTup, iRng1, iRng2, iStr, tSl, tPart, tNoPart, rSlL, cxOf_K, wipe, ex_ty2, kit_LTl, kit_LTt, kit_LTd, kit_LTs, kit_LTn, kit_LTb, kit_LTi, tM1, rIxS, exists_eq', lt1p, tDNewK, rSlS, rEqNil]
        refine ⟨by decide, fun p hp => k _ (same_new hp)⟩
      | bl b =>
        refine ⟨_, (pss_cons (ps_if (PW.pt (pw_or (pt_not (pt_val (pe_callB call_isBT (by rfl) T.z_isinstance (by decide +kernel) (pa_cons (pv 0) (pa_cons (pe_tup (pa_cons (pe_bltn (v := .ty "list") (by rfl) T.z_list (by decide +kernel) rfl) (pa_cons (pe_bltn (v := .ty "tuple") (by rfl) T.z_tuple (by decide +kernel) rfl) pa_nil))) pa_nil))))) (pw_or1 (pt_cmpR (op_gt) (pe_callB call_lenH (by rfl) T.z_len (by decide +kernel) (pa_cons (pv 0) pa_nil)) (pe_glob (v := .int 3) (by rfl) T.c_MOST_PARENTS.choose_spec ⟨_, rfl⟩) (nomark _))))) (pss_one (ps_ret pe_bl)) pss_nil)
      (pss_one (ps_ret (pe_and (pe_callB (cr_all rfl) (by rfl) T.z_all (by decide +kernel) (pa_cons (pe_lc (own := [("number", 1)]) (g := gName 1) (tt := tYes) (by rfl) scAreParents.nd (pi_list (pv 0)) (blkOk_by (own := [("number", 1)]) (N := nAreParents) (sc := defScope sAreParents) (by decide +kernel)) (fun _ _ _ _ _ => pg_name (i := 1) scAreParents.nd rfl (Or.inl rfl)) (fun _ _ _ _ _ => pts_nil) (fun _ _ _ _ _ => (pe_call gIsCount (hr.mono (by decide)) (by rfl) T.m_IsCount T.f_IsCount.kp T.b_IsCount .nil pass0 (pa_cons (pv 1) pa_nil)))) pa_nil)) (pe_one (pe_cmpR (op_eq) (pe_lenSetI2 rfl (by rfl) T.z_len (by rfl) T.z_set (pv 0)) (pe_callB call_lenH (by rfl) T.z_len (by decide +kernel) (pa_cons (pv 0) pa_nil)) (nomark _))))))), ?_⟩
        try simp only [tSeq, tNext, tRet, tRetN, tAsg, gName, gSub, tDrop, tIfS, tOp, tUn, tCB, tCons, tNil, tC, tVar, rI, rI0, rU, tAnd, tOr, tNot, tAndV, tOrV, tNotV, tIf, tTest, tB, tCall, tChain, tLst, tTup, tYes, rIxH, rIsB, rIsBT, rMulS, kd_non, kd_bl, kd_int, kd_str, kd_ref, kdO_lst, kdO_tup, kdO_dK, nq_n, nq_b, nq_i, nq_s, nq_l, nq_t, nq_d, ne_eq, not_false_eq_true, kit_ss, kit_ns, kit_bs, kit_is, kit_ls, kit_ts, kit_ds, kit_bb, V.ty.injEq, and_assoc, rIxU, rLenH, rLenU, rLenS, rInt1, rSetL, rEq, rNe, rCat, L2.start, List.map, List.length, List.length_cons, List.length_nil, List.replicate, List.getElem?_cons_zero, List.getElem?_cons_succ, List.set_cons_zero, List.set_cons_succ, List.set_nil, List.cons_append, List.nil_append, List.append_nil, Option.some.injEq, V.int.injEq, V.ref.injEq, V.str.injEq, V.bl.injEq, HO.lst.injEq, HO.tup.injEq, exists_eq_left', exists_and_left, exists_eq_left, List.cons.injEq, and_true, true_and, and_false, false_and, and_self, reduceCtorEq, exists_false, or_false, false_or, exists_const, at0, at1, at2, at3, at4, at5, ix51, ix52, ix54, upd_same, Nat.reduceAdd, Nat.reduceSub, Nat.zero_add, Int.reduceToNat, Int.reduceLE, Int.reduceLT, decide_eq_true_eq, Bool.not_eq_true, if_true, if_false, Bool.false_eq_true, ite_true, ite_false, Bool.not_true, Bool.not_false, decide_true, decide_false, tFor_eq, tLc_eq, iList, iTup, iRng1, iRng2, iStr, tSl, tPart, tNoPart, rSlL, cxOf_K, wipe, ex_ty2, kit_LTl, kit_LTt, kit_LTd, kit_LTs, kit_LTn, kit_LTb, kit_LTi, tM1, rIxS, exists_eq', lt1p, tDNewK, rSlS, rEqNil]
        refine ⟨by decide, fun p hp => k _ (same_new hp)⟩
      | int i =>
        refine ⟨_, (pss_cons (ps_if (PW.pt (pw_or (pt_not (pt_val (pe_callB call_isBT (by rfl) T.z_isinstance (by decide +kernel) (pa_cons (pv 0) (pa_cons (pe_tup (pa_cons (pe_bltn (v := .ty "list") (by rfl) T.z_list (by decide +kernel) rfl) (pa_cons (pe_bltn (v := .ty "tuple") (by rfl) T.z_tuple (by decide +kernel) rfl) pa_nil))) pa_nil))))) (pw_or1 (pt_cmpR (op_gt) (pe_callB call_lenH (by rfl) T.z_len (by decide +kernel) (pa_cons (pv 0) pa_nil)) (pe_glob (v := .int 3) (by rfl) T.c_MOST_PARENTS.choose_spec ⟨_, rfl⟩) (nomark _))))) (pss_one (ps_ret pe_bl)) pss_nil)
      (pss_one (ps_ret (pe_and (pe_callB (cr_all rfl) (by rfl) T.z_all (by decide +kernel) (pa_cons (pe_lc (own := [("number", 1)]) (g := gName 1) (tt := tYes) (by rfl) scAreParents.nd (pi_list (pv 0)) (blkOk_by (own := [("number", 1)]) (N := nAreParents) (sc := defScope sAreParents) (by decide +kernel)) (fun _ _ _ _ _ => pg_name (i := 1) scAreParents.nd rfl (Or.inl rfl)) (fun _ _ _ _ _ => pts_nil) (fun _ _ _ _ _ => (pe_call gIsCount (hr.mono (by decide)) (by rfl) T.m_IsCount T.f_IsCount.kp T.b_IsCount .nil pass0 (pa_cons (pv 1) pa_nil)))) pa_nil)) (pe_one (pe_cmpR (op_eq) (pe_lenSetI2 rfl (by rfl) T.z_len (by rfl) T.z_set (pv 0)) (pe_callB call_lenH (by rfl) T.z_len (by decide +kernel) (pa_cons (pv 0) pa_nil)) (nomark _))))))), ?_⟩
        try simp only [tSeq, tNext, tRet, tRetN, tAsg, gName, gSub, tDrop, tIfS, tOp, tUn, tCB, tCons, tNil, tC, tVar, rI, rI0, rU, tAnd, tOr, tNot, tAndV, tOrV, tNotV, tIf, tTest, tB, tCall, tChain, tLst, tTup, tYes, rIxH, rIsB, rIsBT, rMulS, kd_non, kd_bl, kd_int, kd_str, kd_ref, kdO_lst, kdO_tup, kdO_dK, nq_n, nq_b, nq_i, nq_s, nq_l, nq_t, nq_d, ne_eq, not_false_eq_true, kit_ss, kit_ns, kit_bs, kit_is, kit_ls, kit_ts, kit_ds, kit_bb, V.ty.injEq, and_assoc, rIxU, rLenH, rLenU, rLenS, rInt1, rSetL, rEq, rNe, rCat, L2.start, List.map, List.length, List.length_cons, List.length_nil, List.replicate, List.getElem?_cons_zero, List.getElem?_cons_succ, List.set_cons_zero, List.set_cons_succ, List.set_nil, List.cons_append, List.nil_append, List.append_nil, Option.some.injEq, V.int.injEq, V.ref.injEq, V.str.injEq, V.bl.injEq, HO.lst.injEq, HO.tup.injEq, exists_eq_left', exists_and_left, exists_eq_left, List.cons.injEq, and_true, true_and, and_false, false_and, and_self, reduceCtorEq, exists_false, or_false, false_or, exists_const, at0, at1, at2, at3, at4, at5, ix51, ix52, ix54, upd_same, Nat.reduceAdd, Nat.reduceSub, Nat.zero_add, Int.reduceToNat, Int.reduceLE, Int.reduceLT, decide_eq_true_eq, Bool.not_eq_true, if_true, if_false, Bool.false_eq_true, ite_true, ite_false, Bool.not_true, Bool.not_false, decide_true, decide_false, tFor_eq, tLc_eq, iList, iTup, iRng1, iRng2, iStr, tSl, tPart, tNoPart, rSlL, cxOf_K, wipe, ex_ty2, kit_LTl, kit_LTt, kit_LTd, kit_LTs, kit_LTn, kit_LTb, kit_LTi, tM1, rIxS, exists_eq', lt1p, tDNewK, rSlS, rEqNil]
        refine ⟨by decide, fun p hp => k _ (same_new hp)⟩
      | str hz =>
        refine ⟨_, (pss_cons (ps_if (PW.pt (pw_or (pt_not (pt_val (pe_callB call_isBT (by rfl) T.z_isinstance (by decide +kernel) (pa_cons (pv 0) (pa_cons (pe_tup (pa_cons (pe_bltn (v := .ty "list") (by rfl) T.z_list (by decide +kernel) rfl) (pa_cons (pe_bltn (v := .ty "tuple") (by rfl) T.z_tuple (by decide +kernel) rfl) pa_nil))) pa_nil))))) (pw_or1 (pt_cmpR (op_gt) (pe_callB call_lenH (by rfl) T.z_len (by decide +kernel) (pa_cons (pv 0) pa_nil)) (pe_glob (v := .int 3) (by rfl) T.c_MOST_PARENTS.choose_spec ⟨_, rfl⟩) (nomark _))))) (pss_one (ps_ret pe_bl)) pss_nil)
      (pss_one (ps_ret (pe_and (pe_callB (cr_all rfl) (by rfl) T.z_all (by decide +kernel) (pa_cons (pe_lc (own := [("number", 1)]) (g := gName 1) (tt := tYes) (by rfl) scAreParents.nd (pi_list (pv 0)) (blkOk_by (own := [("number", 1)]) (N := nAreParents) (sc := defScope sAreParents) (by decide +kernel)) (fun _ _ _ _ _ => pg_name (i := 1) scAreParents.nd rfl (Or.inl rfl)) (fun _ _ _ _ _ => pts_nil) (fun _ _ _ _ _ => (pe_call gIsCount (hr.mono (by decide)) (by rfl) T.m_IsCount T.f_IsCount.kp T.b_IsCount .nil pass0 (pa_cons (pv 1) pa_nil)))) pa_nil)) (pe_one (pe_cmpR (op_eq) (pe_lenSetI2 rfl (by rfl) T.z_len (by rfl) T.z_set (pv 0)) (pe_callB call_lenH (by rfl) T.z_len (by decide +kernel) (pa_cons (pv 0) pa_nil)) (nomark _))))))), ?_⟩
        try simp only [tSeq, tNext, tRet, tRetN, tAsg, gName, gSub, tDrop, tIfS, tOp, tUn, tCB, tCons, tNil, tC, tVar, rI, rI0, rU, tAnd, tOr, tNot, tAndV, tOrV, tNotV, tIf, tTest, tB, tCall, tChain, tLst, tTup, tYes, rIxH, rIsB, rIsBT, rMulS, kd_non, kd_bl, kd_int, kd_str, kd_ref, kdO_lst, kdO_tup, kdO_dK, nq_n, nq_b, nq_i, nq_s, nq_l, nq_t, nq_d, ne_eq, not_false_eq_true, kit_ss, kit_ns, kit_bs, kit_is, kit_ls, kit_ts, kit_ds, kit_bb, V.ty.injEq, and_assoc, rIxU, rLenH, rLenU, rLenS, rInt1, rSetL, rEq, rNe, rCat, L2.start, List.map, List.length, List.length_cons, List.length_nil, List.replicate, List.getElem?_cons_zero, List.getElem?_cons_succ, List.set_cons_zero, List.set_cons_succ, List.set_nil, List.cons_append, List.nil_append, List.append_nil, Option.some.injEq, V.int.injEq, V.ref.injEq, V.str.injEq, V.bl.injEq, HO.lst.injEq, HO.tup.injEq, exists_eq_left', exists_and_left, exists_eq_left, List.cons.injEq, and_true, true_and, and_false, false_and, and_self, reduceCtorEq, exists_false, or_false, false_or, exists_const, at0, at1, at2, at3, at4, at5, ix51, ix52, ix54, upd_same, Nat.reduceAdd, Nat.reduceSub, Nat.zero_add, Int.reduceToNat, Int.reduceLE, Int.reduceLT, decide_eq_true_eq, Bool.not_eq_true, if_true, if_false, Bool.false_eq_true, ite_true, ite_false, Bool.not_true, Bool.not_false, decide_true, decide_false, tFor_eq, tLc_eq, iList, iTup, iRng1, iRng2, iStr, tSl, tPart, tNoPart, rSlL, cxOf_K, wipe, ex_ty2, kit_LTl, kit_LTt, kit_LTd, kit_LTs, kit_LTn, kit_LTb, kit_LTi, tM1, rIxS, exists_eq', lt1p, tDNewK, rSlS, rEqNil]
        refine ⟨by decide, fun p hp => k _ (same_new hp)⟩
    · refine ⟨_, (pss_cons (ps_if (PW.pt (pw_or (pt_not (pt_val (pe_callB call_isKT (by rfl) T.z_isinstance (by decide +kernel) (pa_cons (pv 0) (pa_cons (pe_tup (pa_cons (pe_bltn (v := .ty "list") (by rfl) T.z_list (by decide +kernel) rfl) (pa_cons (pe_bltn (v := .ty "tuple") (by rfl) T.z_tuple (by decide +kernel) rfl) pa_nil))) pa_nil))))) (pw_or1 (pt_cmpR (op_gt) (pe_callB call_len_seq (by rfl) T.z_len (by decide +kernel) (pa_cons (pv 0) pa_nil)) (pe_glob (v := .int 3) (by rfl) T.c_MOST_PARENTS.choose_spec ⟨_, rfl⟩) (nomark _))))) (pss_one (ps_ret pe_bl)) pss_nil)
      (pss_one (ps_ret (pe_and (pe_callB (cr_all rfl) (by rfl) T.z_all (by decide +kernel) (pa_cons (pe_lc (own := [("number", 1)]) (g := gName 1) (tt := tYes) (by rfl) scAreParents.nd (pi_tup (pv 0)) (blkOk_by (own := [("number", 1)]) (N := nAreParents) (sc := defScope sAreParents) (by decide +kernel)) (fun _ _ _ _ _ => pg_name (i := 1) scAreParents.nd rfl (Or.inl rfl)) (fun _ _ _ _ _ => pts_nil) (fun _ _ _ _ _ => (pe_call gIsCount (hr.mono (by decide)) (by rfl) T.m_IsCount T.f_IsCount.kp T.b_IsCount .nil pass0 (pa_cons (pv 1) pa_nil)))) pa_nil)) (pe_one (pe_cmpR (op_eq) (pe_lenSetI2 rfl (by rfl) T.z_len (by rfl) T.z_set (pv 0)) (pe_callB call_len_seq (by rfl) T.z_len (by decide +kernel) (pa_cons (pv 0) pa_nil)) (nomark _))))))), ?_⟩
      try simp only [tSeq, tNext, tRet, tRetN, tAsg, gName, gSub, tDrop, tIfS, tOp, tUn, tCB, tCons, tNil, tC, tVar, rI, rI0, rU, tAnd, tOr, tNot, tAndV, tOrV, tNotV, tIf, tTest, tB, tCall, tChain, tLst, tTup, tYes, rIxH, rIsB, rIsBT, rMulS, kd_non, kd_bl, kd_int, kd_str, kd_ref, kdO_lst, kdO_tup, kdO_dK, nq_n, nq_b, nq_i, nq_s, nq_l, nq_t, nq_d, ne_eq, not_false_eq_true, kit_ss, kit_ns, kit_bs, kit_is, kit_ls, kit_ts, kit_ds, kit_bb, V.ty.injEq, and_assoc, rIxU, rLenH, rLenU, rLenS, rInt1, rSetL, rEq, rNe, rCat, L2.start, List.map, List.length, List.length_cons, List.length_nil, List.replicate, List.getElem?_cons_zero, List.getElem?_cons_succ, List.set_cons_zero, List.set_cons_succ, List.set_nil, List.cons_append, List.nil_append, List.append_nil, Option.some.injEq, V.int.injEq, V.ref.injEq, V.str.injEq, V.bl.injEq, HO.lst.injEq, HO.tup.injEq, exists_eq_left', exists_and_left, exists_eq_left, List.cons.injEq, and_true, true_and, and_false, false_and, and_self, reduceCtorEq, exists_false, or_false, false_or, exists_const, at0, at1, at2, at3, at4, at5, ix51, ix52, ix54, upd_same, Nat.reduceAdd, Nat.reduceSub, Nat.zero_add, Int.reduceToNat, Int.reduceLE, Int.reduceLT, decide_eq_true_eq, Bool.not_eq_true, if_true, if_false, Bool.false_eq_true, ite_true, ite_false, Bool.not_true, Bool.not_false, decide_true, decide_false, tFor_eq, tLc_eq, iList, iTup, iRng1, iRng2, iStr, tSl, tPart, tNoPart, rSlL, cxOf_K, wipe, ex_ty2, kit_LTl, kit_LTt, kit_LTd, kit_LTs, kit_LTn, kit_LTb, kit_LTi, tM1, rIxS, exists_eq', lt1p, tDNewK, rSlS, rEqNil, rIsKT]
      refine ⟨by decide, ?_⟩
      intro p n_p; generalize g_H1 : upd H p _ = H1; obtain ⟨s_H1, h_p⟩ := new_facts n_p g_H1; clear g_H1
      try simp only [tSeq, tNext, tRet, tRetN, tAsg, gName, gSub, tDrop, tIfS, tOp, tUn, tCB, tCons, tNil, tC, tVar, rI, rI0, rU, tAnd, tOr, tNot, tAndV, tOrV, tNotV, tIf, tTest, tB, tCall, tChain, tLst, tTup, tYes, rIxH, rIsB, rIsBT, rMulS, kd_non, kd_bl, kd_int, kd_str, kd_ref, kdO_lst, kdO_tup, kdO_dK, nq_n, nq_b, nq_i, nq_s, nq_l, nq_t, nq_d, ne_eq, not_false_eq_true, kit_ss, kit_ns, kit_bs, kit_is, kit_ls, kit_ts, kit_ds, kit_bb, V.ty.injEq, and_assoc, rIxU, rLenH, rLenU, rLenS, rInt1, rSetL, rEq, rNe, rCat, L2.start, List.map, List.length, List.length_cons, List.length_nil, List.replicate, List.getElem?_cons_zero, List.getElem?_cons_succ, List.set_cons_zero, List.set_cons_succ, List.set_nil, List.cons_append, List.nil_append, List.append_nil, Option.some.injEq, V.int.injEq, V.ref.injEq, V.str.injEq, V.bl.injEq, HO.lst.injEq, HO.tup.injEq, exists_eq_left', exists_and_left, exists_eq_left, List.cons.injEq, and_true, true_and, and_false, false_and, and_self, reduceCtorEq, exists_false, or_false, false_or, exists_const, at0, at1, at2, at3, at4, at5, ix51, ix52, ix54, upd_same, Nat.reduceAdd, Nat.reduceSub, Nat.zero_add, Int.reduceToNat, Int.reduceLE, Int.reduceLT, decide_eq_true_eq, Bool.not_eq_true, if_true, if_false, Bool.false_eq_true, ite_true, ite_false, Bool.not_true, Bool.not_false, decide_true, decide_false, tFor_eq, tLc_eq, iList, iTup, iRng1, iRng2, iStr, tSl, tPart, tNoPart, rSlL, cxOf_K, wipe, ex_ty2, kit_LTl, kit_LTt, kit_LTd, kit_LTs, kit_LTn, kit_LTb, kit_LTi, tM1, rIxS, exists_eq', lt1p, tDNewK, rSlS, rEqNil, h_p]
      refine ⟨true, o, ho1, ho2, rfl, ?_⟩
      rw [if_neg (by decide)]
      refine ⟨[], .inr (sq _), ?_⟩
      rw [if_neg (by decide)]
      refine ⟨⟨[], sq _⟩, fun D hD => ?_⟩
      refine lc_same (walk_tup (K := K) (xs := [])) (fun _ => true) (fun v => .bl (isCntV v)) hD (fun _ _ => sq _) (by decide) (fun x hx => by cases hx) (fun H2 s2 h2 => ?_)
      refine ⟨D, [], rfl, SqL.of h2, true, rfl, ?_⟩
      try simp only [tSeq, tNext, tRet, tRetN, tAsg, gName, gSub, tDrop, tIfS, tOp, tUn, tCB, tCons, tNil, tC, tVar, rI, rI0, rU, tAnd, tOr, tNot, tAndV, tOrV, tNotV, tIf, tTest, tB, tCall, tChain, tLst, tTup, tYes, rIxH, rIsB, rIsBT, rMulS, kd_non, kd_bl, kd_int, kd_str, kd_ref, kdO_lst, kdO_tup, kdO_dK, nq_n, nq_b, nq_i, nq_s, nq_l, nq_t, nq_d, ne_eq, not_false_eq_true, kit_ss, kit_ns, kit_bs, kit_is, kit_ls, kit_ts, kit_ds, kit_bb, V.ty.injEq, and_assoc, rIxU, rLenH, rLenU, rLenS, rInt1, rSetL, rEq, rNe, rCat, L2.start, List.map, List.length, List.length_cons, List.length_nil, List.replicate, List.getElem?_cons_zero, List.getElem?_cons_succ, List.set_cons_zero, List.set_cons_succ, List.set_nil, List.cons_append, List.nil_append, List.append_nil, Option.some.injEq, V.int.injEq, V.ref.injEq, V.str.injEq, V.bl.injEq, HO.lst.injEq, HO.tup.injEq, exists_eq_left', exists_and_left, exists_eq_left, List.cons.injEq, and_true, true_and, and_false, false_and, and_self, reduceCtorEq, exists_false, or_false, false_or, exists_const, at0, at1, at2, at3, at4, at5, ix51, ix52, ix54, upd_same, Nat.reduceAdd, Nat.reduceSub, Nat.zero_add, Int.reduceToNat, Int.reduceLE, Int.reduceLT, decide_eq_true_eq, Bool.not_eq_true, if_true, if_false, Bool.false_eq_true, ite_true, ite_false, Bool.not_true, Bool.not_false, decide_true, decide_false, tFor_eq, tLc_eq, iList, iTup, iRng1, iRng2, iStr, tSl, tPart, tNoPart, rSlL, cxOf_K, wipe, ex_ty2, kit_LTl, kit_LTt, kit_LTd, kit_LTs, kit_LTn, kit_LTb, kit_LTi, tM1, rIxS, exists_eq', lt1p, tDNewK, rSlS, rEqNil, tLenSetI2]
      exact ⟨[], ⟨a, rfl, .inr (sq _)⟩, by decide, [], .inr (sq _), scal_int, k H2 (s_H1.trans s2)⟩
end
/-! ### Version.__init__ -/
theorem verF_put {l p : Addr} {n : Str} : putF "kept_author" (.str n) (putF "kept_parents" (.ref p) (putF "kept_lines" (.ref l) [])) = verF l p n := by
  show putF "kept_author" (.str n) (if ("kept_lines" : Str) = "kept_parents" then _ else (("kept_lines" : Str), V.ref l) :: [("kept_parents", .ref p)]) = _
  rw [if_neg (by decide +kernel)]
  show (if ("kept_lines" : Str) = "kept_author" then _ else (("kept_lines" : Str), V.ref l) :: (if ("kept_parents" : Str) = "kept_author" then _ else (("kept_parents" : Str), V.ref p) :: [("kept_author", .str n)])) = _
  rw [if_neg (by decide +kernel), if_neg (by decide +kernel)]
  rfl
theorem putF_len (k : Str) (v : V) : ∀ fs : List (Str × V), (putF k v fs).length ≤ fs.length + 1
  | [] => Nat.le_refl _
  | (k', v') :: r => by
    have ih := putF_len k v r
    unfold putF
    by_cases h : k' = k
    · rw [if_pos h]
      simp
    · rw [if_neg h, List.length_cons, List.length_cons]
      omega
/-- a thing whose items, if it has some, are things -/
def Thq (H : Hp) (v : V) : Prop := Thg H v ∧ ∀ xs, seqV H v = some xs → xs.length ≤ 1000 ∧ ∀ x ∈ xs, Thg H x
theorem Thq.mono {H H' : Hp} {v : V} (s : Same H H') (h : Thq H v) : Thq H' v ∧ seqV H' v = seqV H v := by
  obtain ⟨h1, h2⟩ := h
  have e : seqV H' v = seqV H v := by
    cases h1 with
    | lst e => show seqO (H' _) = seqO (H _); rw [e, s _ _ e]
    | tup e => show seqO (H' _) = seqO (H _); rw [e, s _ _ e]
    | dic e => show seqO (H' _) = seqO (H _); rw [e, s _ _ e]
    | _ => rfl
  exact ⟨⟨h1.mono s, fun xs hx => ⟨(h2 xs (e ▸ hx)).1, fun x m => ((h2 xs (e ▸ hx)).2 x m).mono s⟩⟩, e⟩
/-- the parents handed: things that are such, or the default -/
def ParOk (K : PySem.W.Frag) (H : Hp) (v : V) (qs : List Int) : Prop := (Thq H v ∧ seqV H v = some (qs.map V.int) ∧ parL (qs.map V.int) = true) ∨ (∃ a, v = .ref a ∧ KT0 K a ∧ qs = [])
theorem text_mono {H H' : Hp} {v : V} (s : Same H H') (h : Thq H v) : isTextV H' v = isTextV H v := by
  unfold isTextV
  rw [(h.mono s).2]
theorem par_mono {H H' : Hp} {v : V} (s : Same H H') (h : Thq H v) : isParV H' v = isParV H v := by
  unfold isParV
  rw [(h.mono s).2]
def spVer (K : PySem.W.Frag) (C NT NP NN : Addr) : Sp := fun vs H Q E => ∃ x dx g pv nv, H x = some (.ins C dx []) ∧ vs = [.ref x, g, pv, nv] ∧ Thq H g ∧
  ((isTextV H g = false ∧ ∀ H' d, Same H H' → H' d = some (.xd [("value", g)]) → E (.ref NT) (some d) H') ∨
   (isTextV H g = true ∧ Thq H pv ∧ isParV H pv = false ∧ ∀ H' d, Same H H' → H' d = some (.xd [("value", pv)]) → E (.ref NP) (some d) H') ∨
   (isTextV H g = true ∧ (∃ qs, ParOk K H pv qs) ∧ Thg H nv ∧ isNameV nv = false ∧ ∀ H' d, Same H H' → H' d = some (.xd [("value", nv)]) → E (.ref NN) (some d) H') ∨
   (∃ (ls : List Str) (qs : List Int) (n : Str), seqV H g = some (ls.map V.str) ∧ isTextV H g = true ∧ ParOk K H pv qs ∧ nv = .str n ∧ Sm n ∧ isNameV nv = true ∧
     ∀ H' l p (ps : List Int), (∀ c o, c ≠ x → H c = some o → H' c = some o) → H' x = some (.ins C dx (verF l p n)) → H' l = some (.tup (ls.map V.str)) → H' p = some (.tup (ps.map V.int)) → ps.Pairwise (· < ·) → (∀ k : Int, k ∈ ps ↔ k ∈ qs) → Q .non H'))
section
variable {w : World} {K : PySem.W.Frag} {mg : Str → Option Value} {base : Heap} {A : Adr}
theorem ParOk.mono {H H' : Hp} {v : V} {qs : List Int} (s : Same H H') (h : ParOk K H v qs) : ParOk K H' v qs := by
  rcases h with ⟨h1, h2, h3⟩ | h
  · exact .inl ⟨(h1.mono s).1, by rw [(h1.mono s).2]; exact h2, h3⟩
  · exact .inr h
theorem ParOk.call {H : Hp} {v : V} {qs : List Int} (h : ParOk K H v qs) {Q : VK} {E : XK} (k : ∀ H', Same H H' → Q (.bl true) H') : spPar K [v] H Q E := by
  rcases h with ⟨h1, h2, h3⟩ | ⟨a, rfl, h, _⟩
  · refine ⟨v, rfl, .inl ⟨h1.1, h1.2, ?_⟩⟩
    rw [par_of h2, h3]
    exact k
  · exact ⟨_, rfl, .inr ⟨a, rfl, h, k⟩⟩
theorem ParOk.sq {H : Hp} {v : V} {qs : List Int} (h : ParOk K H v qs) : SqI K H v qs ∧ qs.length ≤ 3 := by
  rcases h with ⟨h1, h2, h3⟩ | ⟨a, rfl, h, rfl⟩
  · have hl : qs.length ≤ 3 := by
      unfold parL at h3
      rw [Bool.and_eq_true, Bool.and_eq_true, List.length_map] at h3
      exact of_decide_eq_true h3.1.1
    refine ⟨?_, hl⟩
    obtain ⟨h1, _⟩ := h1
    cases h1 with
    | lst e =>
      have h2 : seqO (H _) = _ := h2
      rw [e] at h2
      injection h2 with h2
      subst h2
      exact ⟨_, rfl, .inl (SqL.of e)⟩
    | tup e =>
      have h2 : seqO (H _) = _ := h2
      rw [e] at h2
      injection h2 with h2
      subst h2
      exact ⟨_, rfl, .inr (SqT.of e)⟩
    | dic e =>
      have h2 : seqO (H _) = _ := h2
      rw [e] at h2
      cases h2
    | _ => cases h2
  · exact ⟨⟨a, rfl, .inr (h.sq _)⟩, by decide⟩
theorem ok_ver (T : Txt K mg A) (gIsText : FnOk PW w K mg base CX0 3 A.a_IsText A.d_IsText ["value"] spIsText) (gAreParents : FnOk PW w K mg base CX0 3 A.a_AreParents A.d_AreParents ["value"] (spPar K)) (gIsName : FnOk PW w K mg base CX0 1 A.a_IsName A.d_IsName ["value"] spIsNameT) :
    FnOk PW w K mg base (L2.CX PW w) 4 A.a_VersionInit A.d_VersionInit ["self", "lines", "parents", "author"] (spVer K A.k_Version A.k_InvalidText A.k_InvalidParents A.k_InvalidName) := by
  refine T.f_VersionInit.ok (CX := L2.CX PW w) scVersionInit (fun vs H Q E h => ?_) (fun cdv A' outer s H vs Q E hr h => ?_)
  · obtain ⟨x, dx, g, pv, nv, _, rfl, _⟩ := h
    rfl
  · refine ⟨_, (pss_cons (ps_if (pt_not (pt_val (pe_call gIsText (hr.mono (by decide)) (by rfl) T.m_IsText T.f_IsText.kp T.b_IsText .nil pass0 (pa_cons (pv 1) pa_nil)))) (pss_one (ps_raiseX rfl T.x_InvalidText hr (takes_of rfl rfl rfl rfl) (pa_cons (pv 1) pa_nil) (by rfl))) pss_nil)
      (pss_cons (ps_if (pt_not (pt_val (pe_call gAreParents (hr.mono (by decide)) (by rfl) T.m_AreParents T.f_AreParents.kp T.b_AreParents .nil pass0 (pa_cons (pv 2) pa_nil)))) (pss_one (ps_raiseX rfl T.x_InvalidParents hr (takes_of rfl rfl rfl rfl) (pa_cons (pv 2) pa_nil) (by rfl))) pss_nil)
      (pss_cons (ps_if (pt_not (pt_val (pe_call gIsName (hr.mono (by decide)) (by rfl) T.m_IsName T.f_IsName.kp T.b_IsName .nil pass0 (pa_cons (pv 3) pa_nil)))) (pss_one (ps_raiseX rfl T.x_InvalidName hr (takes_of rfl rfl rfl rfl) (pa_cons (pv 3) pa_nil) (by rfl))) pss_nil)
      (pss_cons (ps_fld (pv 0) (pe_callTy call_tuple_of (by rfl) T.z_tuple (by decide +kernel) (pa_cons (pv 1) pa_nil)) rfl)
      (pss_cons (ps_fld (pv 0) (pe_callTy call_tuple_of (by rfl) T.z_tuple (by decide +kernel) (pa_cons (pe_sortSetI2 rfl (by rfl) T.z_sorted (by rfl) T.z_set (pv 2)) pa_nil)) rfl)
      (pss_one (ps_fld (pv 0) (pv 3) rfl))))))), ?_⟩
    obtain ⟨x, dx, g, pv, nv, hx, rfl, tg, h⟩ := h
    rcases h with ⟨hg, k⟩ | ⟨hg, tp, hp, k⟩ | ⟨hg, ⟨qs, hp⟩, tn, hn, k⟩ | ⟨ls, qs, n, hl, hg, hp, rfl, sn, hn, k⟩
    · try simp only [tSeq, tNext, tRet, tRetN, tAsg, gName, gSub, tDrop, tIfS, tOp, tUn, tCB, tCons, tNil, tC, tVar, rI, rI0, rU, tAnd, tOr, tNot, tAndV, tOrV, tNotV, tIf, tTest, tB, tCall, tChain, tLst, tTup, tYes, rIxH, rIsB, rIsBT, rMulS, kd_non, kd_bl, kd_int, kd_str, kd_ref, kdO_lst, kdO_tup, kdO_dK, nq_n, nq_b, nq_i, nq_s, nq_l, nq_t, nq_d, ne_eq, not_false_eq_true, kit_ss, kit_ns, kit_bs, kit_is, kit_ls, kit_ts, kit_ds, kit_bb, V.ty.injEq, and_assoc, rIxU, rLenH, rLenU, rLenS, rInt1, rSetL, rEq, rNe, rCat, L2.start, List.map, List.length, List.length_cons, List.length_nil, List.replicate, List.getElem?_cons_zero, List.getElem?_cons_succ, List.set_cons_zero, List.set_cons_succ, List.set_nil, List.cons_append, List.nil_append, List.append_nil, Option.some.injEq, V.int.injEq, V.ref.injEq, V.str.injEq, V.bl.injEq, HO.lst.injEq, HO.tup.injEq, exists_eq_left', exists_and_left, exists_eq_left, List.cons.injEq, and_true, true_and, and_false, false_and, and_self, reduceCtorEq, exists_false, or_false, false_or, exists_const, at0, at1, at2, at3, at4, at5, ix51, ix52, ix54, upd_same, Nat.reduceAdd, Nat.reduceSub, Nat.zero_add, Int.reduceToNat, Int.reduceLE, Int.reduceLT, decide_eq_true_eq, Bool.not_eq_true, if_true, if_false, Bool.false_eq_true, ite_true, ite_false, Bool.not_true, Bool.not_false, decide_true, decide_false, tFor_eq, tLc_eq, iList, iTup, iRng1, iRng2, iStr, tSl, tPart, tNoPart, rSlL, cxOf_K, wipe, ex_ty2, kit_LTl, kit_LTt, kit_LTd, kit_LTs, kit_LTn, kit_LTb, kit_LTi, tM1, rIxS, exists_eq', lt1p, tDNewK, rSlS, rEqNil, nox_K]
      refine ⟨g, rfl, tg.1, tg.2, fun H1 s1 => ?_⟩
      try simp only [tSeq, tNext, tRet, tRetN, tAsg, gName, gSub, tDrop, tIfS, tOp, tUn, tCB, tCons, tNil, tC, tVar, rI, rI0, rU, tAnd, tOr, tNot, tAndV, tOrV, tNotV, tIf, tTest, tB, tCall, tChain, tLst, tTup, tYes, rIxH, rIsB, rIsBT, rMulS, kd_non, kd_bl, kd_int, kd_str, kd_ref, kdO_lst, kdO_tup, kdO_dK, nq_n, nq_b, nq_i, nq_s, nq_l, nq_t, nq_d, ne_eq, not_false_eq_true, kit_ss, kit_ns, kit_bs, kit_is, kit_ls, kit_ts, kit_ds, kit_bb, V.ty.injEq, and_assoc, rIxU, rLenH, rLenU, rLenS, rInt1, rSetL, rEq, rNe, rCat, L2.start, List.map, List.length, List.length_cons, List.length_nil, List.replicate, List.getElem?_cons_zero, List.getElem?_cons_succ, List.set_cons_zero, List.set_cons_succ, List.set_nil, List.cons_append, List.nil_append, List.append_nil, Option.some.injEq, V.int.injEq, V.ref.injEq, V.str.injEq, V.bl.injEq, HO.lst.injEq, HO.tup.injEq, exists_eq_left', exists_and_left, exists_eq_left, List.cons.injEq, and_true, true_and, and_false, false_and, and_self, reduceCtorEq, exists_false, or_false, false_or, exists_const, at0, at1, at2, at3, at4, at5, ix51, ix52, ix54, upd_same, Nat.reduceAdd, Nat.reduceSub, Nat.zero_add, Int.reduceToNat, Int.reduceLE, Int.reduceLT, decide_eq_true_eq, Bool.not_eq_true, if_true, if_false, Bool.false_eq_true, ite_true, ite_false, Bool.not_true, Bool.not_false, decide_true, decide_false, tFor_eq, tLc_eq, iList, iTup, iRng1, iRng2, iStr, tSl, tPart, tNoPart, rSlL, cxOf_K, wipe, ex_ty2, kit_LTl, kit_LTt, kit_LTd, kit_LTs, kit_LTn, kit_LTb, kit_LTi, tM1, rIxS, exists_eq', lt1p, tDNewK, rSlS, rEqNil, nox_K, hg, tRaiseX, tMkX]
      exact fun d hd => k _ d (s1.trans (same_new hd)) upd_same
    · try simp only [tSeq, tNext, tRet, tRetN, tAsg, gName, gSub, tDrop, tIfS, tOp, tUn, tCB, tCons, tNil, tC, tVar, rI, rI0, rU, tAnd, tOr, tNot, tAndV, tOrV, tNotV, tIf, tTest, tB, tCall, tChain, tLst, tTup, tYes, rIxH, rIsB, rIsBT, rMulS, kd_non, kd_bl, kd_int, kd_str, kd_ref, kdO_lst, kdO_tup, kdO_dK, nq_n, nq_b, nq_i, nq_s, nq_l, nq_t, nq_d, ne_eq, not_false_eq_true, kit_ss, kit_ns, kit_bs, kit_is, kit_ls, kit_ts, kit_ds, kit_bb, V.ty.injEq, and_assoc, rIxU, rLenH, rLenU, rLenS, rInt1, rSetL, rEq, rNe, rCat, L2.start, List.map, List.length, List.length_cons, List.length_nil, List.replicate, List.getElem?_cons_zero, List.getElem?_cons_succ, List.set_cons_zero, List.set_cons_succ, List.set_nil, List.cons_append, List.nil_append, List.append_nil, Option.some.injEq, V.int.injEq, V.ref.injEq, V.str.injEq, V.bl.injEq, HO.lst.injEq, HO.tup.injEq, exists_eq_left', exists_and_left, exists_eq_left, List.cons.injEq, and_true, true_and, and_false, false_and, and_self, reduceCtorEq, exists_false, or_false, false_or, exists_const, at0, at1, at2, at3, at4, at5, ix51, ix52, ix54, upd_same, Nat.reduceAdd, Nat.reduceSub, Nat.zero_add, Int.reduceToNat, Int.reduceLE, Int.reduceLT, decide_eq_true_eq, Bool.not_eq_true, if_true, if_false, Bool.false_eq_true, ite_true, ite_false, Bool.not_true, Bool.not_false, decide_true, decide_false, tFor_eq, tLc_eq, iList, iTup, iRng1, iRng2, iStr, tSl, tPart, tNoPart, rSlL, cxOf_K, wipe, ex_ty2, kit_LTl, kit_LTt, kit_LTd, kit_LTs, kit_LTn, kit_LTb, kit_LTi, tM1, rIxS, exists_eq', lt1p, tDNewK, rSlS, rEqNil, nox_K]
      refine ⟨g, rfl, tg.1, tg.2, fun H1 s1 => ?_⟩
      try simp only [tSeq, tNext, tRet, tRetN, tAsg, gName, gSub, tDrop, tIfS, tOp, tUn, tCB, tCons, tNil, tC, tVar, rI, rI0, rU, tAnd, tOr, tNot, tAndV, tOrV, tNotV, tIf, tTest, tB, tCall, tChain, tLst, tTup, tYes, rIxH, rIsB, rIsBT, rMulS, kd_non, kd_bl, kd_int, kd_str, kd_ref, kdO_lst, kdO_tup, kdO_dK, nq_n, nq_b, nq_i, nq_s, nq_l, nq_t, nq_d, ne_eq, not_false_eq_true, kit_ss, kit_ns, kit_bs, kit_is, kit_ls, kit_ts, kit_ds, kit_bb, V.ty.injEq, and_assoc, rIxU, rLenH, rLenU, rLenS, rInt1, rSetL, rEq, rNe, rCat, L2.start, List.map, List.length, List.length_cons, List.length_nil, List.replicate, List.getElem?_cons_zero, List.getElem?_cons_succ, List.set_cons_zero, List.set_cons_succ, List.set_nil, List.cons_append, List.nil_append, List.append_nil, Option.some.injEq, V.int.injEq, V.ref.injEq, V.str.injEq, V.bl.injEq, HO.lst.injEq, HO.tup.injEq, exists_eq_left', exists_and_left, exists_eq_left, List.cons.injEq, and_true, true_and, and_false, false_and, and_self, reduceCtorEq, exists_false, or_false, false_or, exists_const, at0, at1, at2, at3, at4, at5, ix51, ix52, ix54, upd_same, Nat.reduceAdd, Nat.reduceSub, Nat.zero_add, Int.reduceToNat, Int.reduceLE, Int.reduceLT, decide_eq_true_eq, Bool.not_eq_true, if_true, if_false, Bool.false_eq_true, ite_true, ite_false, Bool.not_true, Bool.not_false, decide_true, decide_false, tFor_eq, tLc_eq, iList, iTup, iRng1, iRng2, iStr, tSl, tPart, tNoPart, rSlL, cxOf_K, wipe, ex_ty2, kit_LTl, kit_LTt, kit_LTd, kit_LTs, kit_LTn, kit_LTb, kit_LTi, tM1, rIxS, exists_eq', lt1p, tDNewK, rSlS, rEqNil, nox_K, hg]
      have tp1 := (tp.mono s1).1
      refine ⟨pv, rfl, .inl ⟨tp1.1, tp1.2, fun H2 s2 => ?_⟩⟩
      rw [par_mono s1 tp, hp]
      try simp only [tSeq, tNext, tRet, tRetN, tAsg, gName, gSub, tDrop, tIfS, tOp, tUn, tCB, tCons, tNil, tC, tVar, rI, rI0, rU, tAnd, tOr, tNot, tAndV, tOrV, tNotV, tIf, tTest, tB, tCall, tChain, tLst, tTup, tYes, rIxH, rIsB, rIsBT, rMulS, kd_non, kd_bl, kd_int, kd_str, kd_ref, kdO_lst, kdO_tup, kdO_dK, nq_n, nq_b, nq_i, nq_s, nq_l, nq_t, nq_d, ne_eq, not_false_eq_true, kit_ss, kit_ns, kit_bs, kit_is, kit_ls, kit_ts, kit_ds, kit_bb, V.ty.injEq, and_assoc, rIxU, rLenH, rLenU, rLenS, rInt1, rSetL, rEq, rNe, rCat, L2.start, List.map, List.length, List.length_cons, List.length_nil, List.replicate, List.getElem?_cons_zero, List.getElem?_cons_succ, List.set_cons_zero, List.set_cons_succ, List.set_nil, List.cons_append, List.nil_append, List.append_nil, Option.some.injEq, V.int.injEq, V.ref.injEq, V.str.injEq, V.bl.injEq, HO.lst.injEq, HO.tup.injEq, exists_eq_left', exists_and_left, exists_eq_left, List.cons.injEq, and_true, true_and, and_false, false_and, and_self, reduceCtorEq, exists_false, or_false, false_or, exists_const, at0, at1, at2, at3, at4, at5, ix51, ix52, ix54, upd_same, Nat.reduceAdd, Nat.reduceSub, Nat.zero_add, Int.reduceToNat, Int.reduceLE, Int.reduceLT, decide_eq_true_eq, Bool.not_eq_true, if_true, if_false, Bool.false_eq_true, ite_true, ite_false, Bool.not_true, Bool.not_false, decide_true, decide_false, tFor_eq, tLc_eq, iList, iTup, iRng1, iRng2, iStr, tSl, tPart, tNoPart, rSlL, cxOf_K, wipe, ex_ty2, kit_LTl, kit_LTt, kit_LTd, kit_LTs, kit_LTn, kit_LTb, kit_LTi, tM1, rIxS, exists_eq', lt1p, tDNewK, rSlS, rEqNil, nox_K, tRaiseX, tMkX]
      exact fun d hd => k _ d (s1.trans (s2.trans (same_new hd))) upd_same
    · try simp only [tSeq, tNext, tRet, tRetN, tAsg, gName, gSub, tDrop, tIfS, tOp, tUn, tCB, tCons, tNil, tC, tVar, rI, rI0, rU, tAnd, tOr, tNot, tAndV, tOrV, tNotV, tIf, tTest, tB, tCall, tChain, tLst, tTup, tYes, rIxH, rIsB, rIsBT, rMulS, kd_non, kd_bl, kd_int, kd_str, kd_ref, kdO_lst, kdO_tup, kdO_dK, nq_n, nq_b, nq_i, nq_s, nq_l, nq_t, nq_d, ne_eq, not_false_eq_true, kit_ss, kit_ns, kit_bs, kit_is, kit_ls, kit_ts, kit_ds, kit_bb, V.ty.injEq, and_assoc, rIxU, rLenH, rLenU, rLenS, rInt1, rSetL, rEq, rNe, rCat, L2.start, List.map, List.length, List.length_cons, List.length_nil, List.replicate, List.getElem?_cons_zero, List.getElem?_cons_succ, List.set_cons_zero, List.set_cons_succ, List.set_nil, List.cons_append, List.nil_append, List.append_nil, Option.some.injEq, V.int.injEq, V.ref.injEq, V.str.injEq, V.bl.injEq, HO.lst.injEq, HO.tup.injEq, exists_eq_left', exists_and_left, exists_eq_left, List.cons.injEq, and_true, true_and, and_false, false_and, and_self, reduceCtorEq, exists_false, or_false, false_or, exists_const, at0, at1, at2, at3, at4, at5, ix51, ix52, ix54, upd_same, Nat.reduceAdd, Nat.reduceSub, Nat.zero_add, Int.reduceToNat, Int.reduceLE, Int.reduceLT, decide_eq_true_eq, Bool.not_eq_true, if_true, if_false, Bool.false_eq_true, ite_true, ite_false, Bool.not_true, Bool.not_false, decide_true, decide_false, tFor_eq, tLc_eq, iList, iTup, iRng1, iRng2, iStr, tSl, tPart, tNoPart, rSlL, cxOf_K, wipe, ex_ty2, kit_LTl, kit_LTt, kit_LTd, kit_LTs, kit_LTn, kit_LTb, kit_LTi, tM1, rIxS, exists_eq', lt1p, tDNewK, rSlS, rEqNil, nox_K]
      refine ⟨g, rfl, tg.1, tg.2, fun H1 s1 => ?_⟩
      try simp only [tSeq, tNext, tRet, tRetN, tAsg, gName, gSub, tDrop, tIfS, tOp, tUn, tCB, tCons, tNil, tC, tVar, rI, rI0, rU, tAnd, tOr, tNot, tAndV, tOrV, tNotV, tIf, tTest, tB, tCall, tChain, tLst, tTup, tYes, rIxH, rIsB, rIsBT, rMulS, kd_non, kd_bl, kd_int, kd_str, kd_ref, kdO_lst, kdO_tup, kdO_dK, nq_n, nq_b, nq_i, nq_s, nq_l, nq_t, nq_d, ne_eq, not_false_eq_true, kit_ss, kit_ns, kit_bs, kit_is, kit_ls, kit_ts, kit_ds, kit_bb, V.ty.injEq, and_assoc, rIxU, rLenH, rLenU, rLenS, rInt1, rSetL, rEq, rNe, rCat, L2.start, List.map, List.length, List.length_cons, List.length_nil, List.replicate, List.getElem?_cons_zero, List.getElem?_cons_succ, List.set_cons_zero, List.set_cons_succ, List.set_nil, List.cons_append, List.nil_append, List.append_nil, Option.some.injEq, V.int.injEq, V.ref.injEq, V.str.injEq, V.bl.injEq, HO.lst.injEq, HO.tup.injEq, exists_eq_left', exists_and_left, exists_eq_left, List.cons.injEq, and_true, true_and, and_false, false_and, and_self, reduceCtorEq, exists_false, or_false, false_or, exists_const, at0, at1, at2, at3, at4, at5, ix51, ix52, ix54, upd_same, Nat.reduceAdd, Nat.reduceSub, Nat.zero_add, Int.reduceToNat, Int.reduceLE, Int.reduceLT, decide_eq_true_eq, Bool.not_eq_true, if_true, if_false, Bool.false_eq_true, ite_true, ite_false, Bool.not_true, Bool.not_false, decide_true, decide_false, tFor_eq, tLc_eq, iList, iTup, iRng1, iRng2, iStr, tSl, tPart, tNoPart, rSlL, cxOf_K, wipe, ex_ty2, kit_LTl, kit_LTt, kit_LTd, kit_LTs, kit_LTn, kit_LTb, kit_LTi, tM1, rIxS, exists_eq', lt1p, tDNewK, rSlS, rEqNil, nox_K, hg]
      refine (hp.mono s1).call fun H2 s2 => ?_
      try simp only [tSeq, tNext, tRet, tRetN, tAsg, gName, gSub, tDrop, tIfS, tOp, tUn, tCB, tCons, tNil, tC, tVar, rI, rI0, rU, tAnd, tOr, tNot, tAndV, tOrV, tNotV, tIf, tTest, tB, tCall, tChain, tLst, tTup, tYes, rIxH, rIsB, rIsBT, rMulS, kd_non, kd_bl, kd_int, kd_str, kd_ref, kdO_lst, kdO_tup, kdO_dK, nq_n, nq_b, nq_i, nq_s, nq_l, nq_t, nq_d, ne_eq, not_false_eq_true, kit_ss, kit_ns, kit_bs, kit_is, kit_ls, kit_ts, kit_ds, kit_bb, V.ty.injEq, and_assoc, rIxU, rLenH, rLenU, rLenS, rInt1, rSetL, rEq, rNe, rCat, L2.start, List.map, List.length, List.length_cons, List.length_nil, List.replicate, List.getElem?_cons_zero, List.getElem?_cons_succ, List.set_cons_zero, List.set_cons_succ, List.set_nil, List.cons_append, List.nil_append, List.append_nil, Option.some.injEq, V.int.injEq, V.ref.injEq, V.str.injEq, V.bl.injEq, HO.lst.injEq, HO.tup.injEq, exists_eq_left', exists_and_left, exists_eq_left, List.cons.injEq, and_true, true_and, and_false, false_and, and_self, reduceCtorEq, exists_false, or_false, false_or, exists_const, at0, at1, at2, at3, at4, at5, ix51, ix52, ix54, upd_same, Nat.reduceAdd, Nat.reduceSub, Nat.zero_add, Int.reduceToNat, Int.reduceLE, Int.reduceLT, decide_eq_true_eq, Bool.not_eq_true, if_true, if_false, Bool.false_eq_true, ite_true, ite_false, Bool.not_true, Bool.not_false, decide_true, decide_false, tFor_eq, tLc_eq, iList, iTup, iRng1, iRng2, iStr, tSl, tPart, tNoPart, rSlL, cxOf_K, wipe, ex_ty2, kit_LTl, kit_LTt, kit_LTd, kit_LTs, kit_LTn, kit_LTb, kit_LTi, tM1, rIxS, exists_eq', lt1p, tDNewK, rSlS, rEqNil, nox_K]
      refine ⟨nv, rfl, (tn.mono s1).mono s2, fun H3 s3 => ?_⟩
      rw [hn]
      try simp only [tSeq, tNext, tRet, tRetN, tAsg, gName, gSub, tDrop, tIfS, tOp, tUn, tCB, tCons, tNil, tC, tVar, rI, rI0, rU, tAnd, tOr, tNot, tAndV, tOrV, tNotV, tIf, tTest, tB, tCall, tChain, tLst, tTup, tYes, rIxH, rIsB, rIsBT, rMulS, kd_non, kd_bl, kd_int, kd_str, kd_ref, kdO_lst, kdO_tup, kdO_dK, nq_n, nq_b, nq_i, nq_s, nq_l, nq_t, nq_d, ne_eq, not_false_eq_true, kit_ss, kit_ns, kit_bs, kit_is, kit_ls, kit_ts, kit_ds, kit_bb, V.ty.injEq, and_assoc, rIxU, rLenH, rLenU, rLenS, rInt1, rSetL, rEq, rNe, rCat, L2.start, List.map, List.length, List.length_cons, List.length_nil, List.replicate, List.getElem?_cons_zero, List.getElem?_cons_succ, List.set_cons_zero, List.set_cons_succ, List.set_nil, List.cons_append, List.nil_append, List.append_nil, Option.some.injEq, V.int.injEq, V.ref.injEq, V.str.injEq, V.bl.injEq, HO.lst.injEq, HO.tup.injEq, exists_eq_left', exists_and_left, exists_eq_left, List.cons.injEq, and_true, true_and, and_false, false_and, and_self, reduceCtorEq, exists_false, or_false, false_or, exists_const, at0, at1, at2, at3, at4, at5, ix51, ix52, ix54, upd_same, Nat.reduceAdd, Nat.reduceSub, Nat.zero_add, Int.reduceToNat, Int.reduceLE, Int.reduceLT, decide_eq_true_eq, Bool.not_eq_true, if_true, if_false, Bool.false_eq_true, ite_true, ite_false, Bool.not_true, Bool.not_false, decide_true, decide_false, tFor_eq, tLc_eq, iList, iTup, iRng1, iRng2, iStr, tSl, tPart, tNoPart, rSlL, cxOf_K, wipe, ex_ty2, kit_LTl, kit_LTt, kit_LTd, kit_LTs, kit_LTn, kit_LTb, kit_LTi, tM1, rIxS, exists_eq', lt1p, tDNewK, rSlS, rEqNil, nox_K, tRaiseX, tMkX]
      exact fun d hd => k _ d (s1.trans (s2.trans (s3.trans (same_new hd)))) upd_same
    · refine seq_gen fun N eN => ?_
      try simp only [tSeq, tNext, tRet, tRetN, tAsg, gName, gSub, tDrop, tIfS, tOp, tUn, tCB, tCons, tNil, tC, tVar, rI, rI0, rU, tAnd, tOr, tNot, tAndV, tOrV, tNotV, tIf, tTest, tB, tCall, tChain, tLst, tTup, tYes, rIxH, rIsB, rIsBT, rMulS, kd_non, kd_bl, kd_int, kd_str, kd_ref, kdO_lst, kdO_tup, kdO_dK, nq_n, nq_b, nq_i, nq_s, nq_l, nq_t, nq_d, ne_eq, not_false_eq_true, kit_ss, kit_ns, kit_bs, kit_is, kit_ls, kit_ts, kit_ds, kit_bb, V.ty.injEq, and_assoc, rIxU, rLenH, rLenU, rLenS, rInt1, rSetL, rEq, rNe, rCat, L2.start, List.map, List.length, List.length_cons, List.length_nil, List.replicate, List.getElem?_cons_zero, List.getElem?_cons_succ, List.set_cons_zero, List.set_cons_succ, List.set_nil, List.cons_append, List.nil_append, List.append_nil, Option.some.injEq, V.int.injEq, V.ref.injEq, V.str.injEq, V.bl.injEq, HO.lst.injEq, HO.tup.injEq, exists_eq_left', exists_and_left, exists_eq_left, List.cons.injEq, and_true, true_and, and_false, false_and, and_self, reduceCtorEq, exists_false, or_false, false_or, exists_const, at0, at1, at2, at3, at4, at5, ix51, ix52, ix54, upd_same, Nat.reduceAdd, Nat.reduceSub, Nat.zero_add, Int.reduceToNat, Int.reduceLE, Int.reduceLT, decide_eq_true_eq, Bool.not_eq_true, if_true, if_false, Bool.false_eq_true, ite_true, ite_false, Bool.not_true, Bool.not_false, decide_true, decide_false, tFor_eq, tLc_eq, iList, iTup, iRng1, iRng2, iStr, tSl, tPart, tNoPart, rSlL, cxOf_K, wipe, ex_ty2, kit_LTl, kit_LTt, kit_LTd, kit_LTs, kit_LTn, kit_LTb, kit_LTi, tM1, rIxS, exists_eq', lt1p, tDNewK, rSlS, rEqNil, nox_K]
      refine ⟨g, rfl, tg.1, tg.2, fun H1 s1 => ?_⟩
      try simp only [tSeq, tNext, tRet, tRetN, tAsg, gName, gSub, tDrop, tIfS, tOp, tUn, tCB, tCons, tNil, tC, tVar, rI, rI0, rU, tAnd, tOr, tNot, tAndV, tOrV, tNotV, tIf, tTest, tB, tCall, tChain, tLst, tTup, tYes, rIxH, rIsB, rIsBT, rMulS, kd_non, kd_bl, kd_int, kd_str, kd_ref, kdO_lst, kdO_tup, kdO_dK, nq_n, nq_b, nq_i, nq_s, nq_l, nq_t, nq_d, ne_eq, not_false_eq_true, kit_ss, kit_ns, kit_bs, kit_is, kit_ls, kit_ts, kit_ds, kit_bb, V.ty.injEq, and_assoc, rIxU, rLenH, rLenU, rLenS, rInt1, rSetL, rEq, rNe, rCat, L2.start, List.map, List.length, List.length_cons, List.length_nil, List.replicate, List.getElem?_cons_zero, List.getElem?_cons_succ, List.set_cons_zero, List.set_cons_succ, List.set_nil, List.cons_append, List.nil_append, List.append_nil, Option.some.injEq, V.int.injEq, V.ref.injEq, V.str.injEq, V.bl.injEq, HO.lst.injEq, HO.tup.injEq, exists_eq_left', exists_and_left, exists_eq_left, List.cons.injEq, and_true, true_and, and_false, false_and, and_self, reduceCtorEq, exists_false, or_false, false_or, exists_const, at0, at1, at2, at3, at4, at5, ix51, ix52, ix54, upd_same, Nat.reduceAdd, Nat.reduceSub, Nat.zero_add, Int.reduceToNat, Int.reduceLE, Int.reduceLT, decide_eq_true_eq, Bool.not_eq_true, if_true, if_false, Bool.false_eq_true, ite_true, ite_false, Bool.not_true, Bool.not_false, decide_true, decide_false, tFor_eq, tLc_eq, iList, iTup, iRng1, iRng2, iStr, tSl, tPart, tNoPart, rSlL, cxOf_K, wipe, ex_ty2, kit_LTl, kit_LTt, kit_LTd, kit_LTs, kit_LTn, kit_LTb, kit_LTi, tM1, rIxS, exists_eq', lt1p, tDNewK, rSlS, rEqNil, nox_K, hg]
      rw [eN]
      clear eN N
      refine seq_gen fun N eN => ?_
      try simp only [tSeq, tNext, tRet, tRetN, tAsg, gName, gSub, tDrop, tIfS, tOp, tUn, tCB, tCons, tNil, tC, tVar, rI, rI0, rU, tAnd, tOr, tNot, tAndV, tOrV, tNotV, tIf, tTest, tB, tCall, tChain, tLst, tTup, tYes, rIxH, rIsB, rIsBT, rMulS, kd_non, kd_bl, kd_int, kd_str, kd_ref, kdO_lst, kdO_tup, kdO_dK, nq_n, nq_b, nq_i, nq_s, nq_l, nq_t, nq_d, ne_eq, not_false_eq_true, kit_ss, kit_ns, kit_bs, kit_is, kit_ls, kit_ts, kit_ds, kit_bb, V.ty.injEq, and_assoc, rIxU, rLenH, rLenU, rLenS, rInt1, rSetL, rEq, rNe, rCat, L2.start, List.map, List.length, List.length_cons, List.length_nil, List.replicate, List.getElem?_cons_zero, List.getElem?_cons_succ, List.set_cons_zero, List.set_cons_succ, List.set_nil, List.cons_append, List.nil_append, List.append_nil, Option.some.injEq, V.int.injEq, V.ref.injEq, V.str.injEq, V.bl.injEq, HO.lst.injEq, HO.tup.injEq, exists_eq_left', exists_and_left, exists_eq_left, List.cons.injEq, and_true, true_and, and_false, false_and, and_self, reduceCtorEq, exists_false, or_false, false_or, exists_const, at0, at1, at2, at3, at4, at5, ix51, ix52, ix54, upd_same, Nat.reduceAdd, Nat.reduceSub, Nat.zero_add, Int.reduceToNat, Int.reduceLE, Int.reduceLT, decide_eq_true_eq, Bool.not_eq_true, if_true, if_false, Bool.false_eq_true, ite_true, ite_false, Bool.not_true, Bool.not_false, decide_true, decide_false, tFor_eq, tLc_eq, iList, iTup, iRng1, iRng2, iStr, tSl, tPart, tNoPart, rSlL, cxOf_K, wipe, ex_ty2, kit_LTl, kit_LTt, kit_LTd, kit_LTs, kit_LTn, kit_LTb, kit_LTi, tM1, rIxS, exists_eq', lt1p, tDNewK, rSlS, rEqNil, nox_K]
      refine (hp.mono s1).call fun H2 s2 => ?_
      try simp only [tSeq, tNext, tRet, tRetN, tAsg, gName, gSub, tDrop, tIfS, tOp, tUn, tCB, tCons, tNil, tC, tVar, rI, rI0, rU, tAnd, tOr, tNot, tAndV, tOrV, tNotV, tIf, tTest, tB, tCall, tChain, tLst, tTup, tYes, rIxH, rIsB, rIsBT, rMulS, kd_non, kd_bl, kd_int, kd_str, kd_ref, kdO_lst, kdO_tup, kdO_dK, nq_n, nq_b, nq_i, nq_s, nq_l, nq_t, nq_d, ne_eq, not_false_eq_true, kit_ss, kit_ns, kit_bs, kit_is, kit_ls, kit_ts, kit_ds, kit_bb, V.ty.injEq, and_assoc, rIxU, rLenH, rLenU, rLenS, rInt1, rSetL, rEq, rNe, rCat, L2.start, List.map, List.length, List.length_cons, List.length_nil, List.replicate, List.getElem?_cons_zero, List.getElem?_cons_succ, List.set_cons_zero, List.set_cons_succ, List.set_nil, List.cons_append, List.nil_append, List.append_nil, Option.some.injEq, V.int.injEq, V.ref.injEq, V.str.injEq, V.bl.injEq, HO.lst.injEq, HO.tup.injEq, exists_eq_left', exists_and_left, exists_eq_left, List.cons.injEq, and_true, true_and, and_false, false_and, and_self, reduceCtorEq, exists_false, or_false, false_or, exists_const, at0, at1, at2, at3, at4, at5, ix51, ix52, ix54, upd_same, Nat.reduceAdd, Nat.reduceSub, Nat.zero_add, Int.reduceToNat, Int.reduceLE, Int.reduceLT, decide_eq_true_eq, Bool.not_eq_true, if_true, if_false, Bool.false_eq_true, ite_true, ite_false, Bool.not_true, Bool.not_false, decide_true, decide_false, tFor_eq, tLc_eq, iList, iTup, iRng1, iRng2, iStr, tSl, tPart, tNoPart, rSlL, cxOf_K, wipe, ex_ty2, kit_LTl, kit_LTt, kit_LTd, kit_LTs, kit_LTn, kit_LTb, kit_LTi, tM1, rIxS, exists_eq', lt1p, tDNewK, rSlS, rEqNil, nox_K]
      rw [eN]
      clear eN N
      refine seq_gen fun N eN => ?_
      try simp only [tSeq, tNext, tRet, tRetN, tAsg, gName, gSub, tDrop, tIfS, tOp, tUn, tCB, tCons, tNil, tC, tVar, rI, rI0, rU, tAnd, tOr, tNot, tAndV, tOrV, tNotV, tIf, tTest, tB, tCall, tChain, tLst, tTup, tYes, rIxH, rIsB, rIsBT, rMulS, kd_non, kd_bl, kd_int, kd_str, kd_ref, kdO_lst, kdO_tup, kdO_dK, nq_n, nq_b, nq_i, nq_s, nq_l, nq_t, nq_d, ne_eq, not_false_eq_true, kit_ss, kit_ns, kit_bs, kit_is, kit_ls, kit_ts, kit_ds, kit_bb, V.ty.injEq, and_assoc, rIxU, rLenH, rLenU, rLenS, rInt1, rSetL, rEq, rNe, rCat, L2.start, List.map, List.length, List.length_cons, List.length_nil, List.replicate, List.getElem?_cons_zero, List.getElem?_cons_succ, List.set_cons_zero, List.set_cons_succ, List.set_nil, List.cons_append, List.nil_append, List.append_nil, Option.some.injEq, V.int.injEq, V.ref.injEq, V.str.injEq, V.bl.injEq, HO.lst.injEq, HO.tup.injEq, exists_eq_left', exists_and_left, exists_eq_left, List.cons.injEq, and_true, true_and, and_false, false_and, and_self, reduceCtorEq, exists_false, or_false, false_or, exists_const, at0, at1, at2, at3, at4, at5, ix51, ix52, ix54, upd_same, Nat.reduceAdd, Nat.reduceSub, Nat.zero_add, Int.reduceToNat, Int.reduceLE, Int.reduceLT, decide_eq_true_eq, Bool.not_eq_true, if_true, if_false, Bool.false_eq_true, ite_true, ite_false, Bool.not_true, Bool.not_false, decide_true, decide_false, tFor_eq, tLc_eq, iList, iTup, iRng1, iRng2, iStr, tSl, tPart, tNoPart, rSlL, cxOf_K, wipe, ex_ty2, kit_LTl, kit_LTt, kit_LTd, kit_LTs, kit_LTn, kit_LTb, kit_LTi, tM1, rIxS, exists_eq', lt1p, tDNewK, rSlS, rEqNil, nox_K]
      refine ⟨_, rfl, .str sn, fun H3 s3 => ?_⟩
      rw [hn]
      try simp only [tSeq, tNext, tRet, tRetN, tAsg, gName, gSub, tDrop, tIfS, tOp, tUn, tCB, tCons, tNil, tC, tVar, rI, rI0, rU, tAnd, tOr, tNot, tAndV, tOrV, tNotV, tIf, tTest, tB, tCall, tChain, tLst, tTup, tYes, rIxH, rIsB, rIsBT, rMulS, kd_non, kd_bl, kd_int, kd_str, kd_ref, kdO_lst, kdO_tup, kdO_dK, nq_n, nq_b, nq_i, nq_s, nq_l, nq_t, nq_d, ne_eq, not_false_eq_true, kit_ss, kit_ns, kit_bs, kit_is, kit_ls, kit_ts, kit_ds, kit_bb, V.ty.injEq, and_assoc, rIxU, rLenH, rLenU, rLenS, rInt1, rSetL, rEq, rNe, rCat, L2.start, List.map, List.length, List.length_cons, List.length_nil, List.replicate, List.getElem?_cons_zero, List.getElem?_cons_succ, List.set_cons_zero, List.set_cons_succ, List.set_nil, List.cons_append, List.nil_append, List.append_nil, Option.some.injEq, V.int.injEq, V.ref.injEq, V.str.injEq, V.bl.injEq, HO.lst.injEq, HO.tup.injEq, exists_eq_left', exists_and_left, exists_eq_left, List.cons.injEq, and_true, true_and, and_false, false_and, and_self, reduceCtorEq, exists_false, or_false, false_or, exists_const, at0, at1, at2, at3, at4, at5, ix51, ix52, ix54, upd_same, Nat.reduceAdd, Nat.reduceSub, Nat.zero_add, Int.reduceToNat, Int.reduceLE, Int.reduceLT, decide_eq_true_eq, Bool.not_eq_true, if_true, if_false, Bool.false_eq_true, ite_true, ite_false, Bool.not_true, Bool.not_false, decide_true, decide_false, tFor_eq, tLc_eq, iList, iTup, iRng1, iRng2, iStr, tSl, tPart, tNoPart, rSlL, cxOf_K, wipe, ex_ty2, kit_LTl, kit_LTt, kit_LTd, kit_LTs, kit_LTn, kit_LTb, kit_LTi, tM1, rIxS, exists_eq', lt1p, tDNewK, rSlS, rEqNil, nox_K]
      rw [eN]
      clear eN N
      have s03 := s1.trans (s2.trans s3)
      have hx3 := s03 _ _ hx
      have hp3 := hp.mono s03
      refine seq_gen fun N eN => ?_
      have st : ∀ l H4, (∀ c o, c ≠ x → H c = some o → H4 c = some o) → H4 x = some (.ins A.k_Version dx (putF (Str.ofString "kept_lines") (.ref l) [])) → H4 l = some (.tup (ls.map V.str)) → SqI K H4 pv qs → N [some (.ref x), some g, some pv, some (.str n)] H4 := by
        intro l H4 kp h4 hl4 sq4
        rw [eN]
        clear eN N
        refine seq_gen fun N eN => ?_
        try simp only [tSeq, tNext, tRet, tRetN, tAsg, gName, gSub, tDrop, tIfS, tOp, tUn, tCB, tCons, tNil, tC, tVar, rI, rI0, rU, tAnd, tOr, tNot, tAndV, tOrV, tNotV, tIf, tTest, tB, tCall, tChain, tLst, tTup, tYes, rIxH, rIsB, rIsBT, rMulS, kd_non, kd_bl, kd_int, kd_str, kd_ref, kdO_lst, kdO_tup, kdO_dK, nq_n, nq_b, nq_i, nq_s, nq_l, nq_t, nq_d, ne_eq, not_false_eq_true, kit_ss, kit_ns, kit_bs, kit_is, kit_ls, kit_ts, kit_ds, kit_bb, V.ty.injEq, and_assoc, rIxU, rLenH, rLenU, rLenS, rInt1, rSetL, rEq, rNe, rCat, L2.start, List.map, List.length, List.length_cons, List.length_nil, List.replicate, List.getElem?_cons_zero, List.getElem?_cons_succ, List.set_cons_zero, List.set_cons_succ, List.set_nil, List.cons_append, List.nil_append, List.append_nil, Option.some.injEq, V.int.injEq, V.ref.injEq, V.str.injEq, V.bl.injEq, HO.lst.injEq, HO.tup.injEq, exists_eq_left', exists_and_left, exists_eq_left, List.cons.injEq, and_true, true_and, and_false, false_and, and_self, reduceCtorEq, exists_false, or_false, false_or, exists_const, at0, at1, at2, at3, at4, at5, ix51, ix52, ix54, upd_same, Nat.reduceAdd, Nat.reduceSub, Nat.zero_add, Int.reduceToNat, Int.reduceLE, Int.reduceLT, decide_eq_true_eq, Bool.not_eq_true, if_true, if_false, Bool.false_eq_true, ite_true, ite_false, Bool.not_true, Bool.not_false, decide_true, decide_false, tFor_eq, tLc_eq, iList, iTup, iRng1, iRng2, iStr, tSl, tPart, tNoPart, rSlL, cxOf_K, wipe, ex_ty2, kit_LTl, kit_LTt, kit_LTd, kit_LTs, kit_LTn, kit_LTb, kit_LTi, tM1, rIxS, exists_eq', lt1p, tDNewK, rSlS, rEqNil, nox_K, sFld, tSortSetI2]
        refine ⟨qs, sq4, by have := hp3.sq.2; omega, fun ms p hs hm hpn => ?_⟩
        refine ⟨ms.map V.int, .inl ⟨SqL.of upd_same, fun q hq => ?_⟩⟩
        have nx1 : x ≠ p := ne_of_none h4 hpn
        have nx2 : x ≠ q := ne_of_none (same_new hpn _ _ h4) hq
        have nl1 : l ≠ p := ne_of_none hl4 hpn
        have hlq : upd H4 p (HO.lst (ms.map V.int)) l = some (.tup (ls.map V.str)) := by rw [upd_ne nl1]; exact hl4
        have nl2 : l ≠ q := ne_of_none hlq hq
        have nlx : l ≠ x := fun z => by rw [z, h4] at hl4; cases hl4
        have npq : q ≠ p := fun z => by rw [z, upd_same] at hq; cases hq
        refine ⟨A.k_Version, dx, _, by rw [upd_ne nx2, upd_ne nx1]; exact h4, T.t_Version.cl, T.n_Version_kept_parents, by show 1 < 1000; decide, ?_⟩
        rw [eN]
        clear eN N
        try simp only [tSeq, tNext, tRet, tRetN, tAsg, gName, gSub, tDrop, tIfS, tOp, tUn, tCB, tCons, tNil, tC, tVar, rI, rI0, rU, tAnd, tOr, tNot, tAndV, tOrV, tNotV, tIf, tTest, tB, tCall, tChain, tLst, tTup, tYes, rIxH, rIsB, rIsBT, rMulS, kd_non, kd_bl, kd_int, kd_str, kd_ref, kdO_lst, kdO_tup, kdO_dK, nq_n, nq_b, nq_i, nq_s, nq_l, nq_t, nq_d, ne_eq, not_false_eq_true, kit_ss, kit_ns, kit_bs, kit_is, kit_ls, kit_ts, kit_ds, kit_bb, V.ty.injEq, and_assoc, rIxU, rLenH, rLenU, rLenS, rInt1, rSetL, rEq, rNe, rCat, L2.start, List.map, List.length, List.length_cons, List.length_nil, List.replicate, List.getElem?_cons_zero, List.getElem?_cons_succ, List.set_cons_zero, List.set_cons_succ, List.set_nil, List.cons_append, List.nil_append, List.append_nil, Option.some.injEq, V.int.injEq, V.ref.injEq, V.str.injEq, V.bl.injEq, HO.lst.injEq, HO.tup.injEq, exists_eq_left', exists_and_left, exists_eq_left, List.cons.injEq, and_true, true_and, and_false, false_and, and_self, reduceCtorEq, exists_false, or_false, false_or, exists_const, at0, at1, at2, at3, at4, at5, ix51, ix52, ix54, upd_same, Nat.reduceAdd, Nat.reduceSub, Nat.zero_add, Int.reduceToNat, Int.reduceLE, Int.reduceLT, decide_eq_true_eq, Bool.not_eq_true, if_true, if_false, Bool.false_eq_true, ite_true, ite_false, Bool.not_true, Bool.not_false, decide_true, decide_false, tFor_eq, tLc_eq, iList, iTup, iRng1, iRng2, iStr, tSl, tPart, tNoPart, rSlL, cxOf_K, wipe, ex_ty2, kit_LTl, kit_LTt, kit_LTd, kit_LTs, kit_LTn, kit_LTb, kit_LTi, tM1, rIxS, exists_eq', lt1p, tDNewK, rSlS, rEqNil, nox_K, sFld]
        refine ⟨A.k_Version, dx, _, rfl, T.t_Version.cl, T.n_Version_kept_author, Nat.lt_of_le_of_lt (putF_len _ _ _) (by show 1 + 1 < 1000; decide), ?_⟩
        rw [upd_upd]
        refine k _ l q ms (fun c o hc e => ?_) (by rw [upd_same]; exact congrArg some (congrArg (HO.ins A.k_Version dx) verF_put)) ?_ ?_ hs hm
        · have e4 := kp c o hc e
          have n1 : c ≠ p := ne_of_none e4 hpn
          have n2 : c ≠ q := ne_of_none (same_new hpn _ _ e4) hq
          rw [upd_ne hc, upd_ne n2, upd_ne n1]
          exact e4
        · rw [upd_ne nlx, upd_ne nl2]
          exact hlq
        · rw [upd_ne nx2.symm, upd_same]
      try simp only [tSeq, tNext, tRet, tRetN, tAsg, gName, gSub, tDrop, tIfS, tOp, tUn, tCB, tCons, tNil, tC, tVar, rI, rI0, rU, tAnd, tOr, tNot, tAndV, tOrV, tNotV, tIf, tTest, tB, tCall, tChain, tLst, tTup, tYes, rIxH, rIsB, rIsBT, rMulS, kd_non, kd_bl, kd_int, kd_str, kd_ref, kdO_lst, kdO_tup, kdO_dK, nq_n, nq_b, nq_i, nq_s, nq_l, nq_t, nq_d, ne_eq, not_false_eq_true, kit_ss, kit_ns, kit_bs, kit_is, kit_ls, kit_ts, kit_ds, kit_bb, V.ty.injEq, and_assoc, rIxU, rLenH, rLenU, rLenS, rInt1, rSetL, rEq, rNe, rCat, L2.start, List.map, List.length, List.length_cons, List.length_nil, List.replicate, List.getElem?_cons_zero, List.getElem?_cons_succ, List.set_cons_zero, List.set_cons_succ, List.set_nil, List.cons_append, List.nil_append, List.append_nil, Option.some.injEq, V.int.injEq, V.ref.injEq, V.str.injEq, V.bl.injEq, HO.lst.injEq, HO.tup.injEq, exists_eq_left', exists_and_left, exists_eq_left, List.cons.injEq, and_true, true_and, and_false, false_and, and_self, reduceCtorEq, exists_false, or_false, false_or, exists_const, at0, at1, at2, at3, at4, at5, ix51, ix52, ix54, upd_same, Nat.reduceAdd, Nat.reduceSub, Nat.zero_add, Int.reduceToNat, Int.reduceLE, Int.reduceLT, decide_eq_true_eq, Bool.not_eq_true, if_true, if_false, Bool.false_eq_true, ite_true, ite_false, Bool.not_true, Bool.not_false, decide_true, decide_false, tFor_eq, tLc_eq, iList, iTup, iRng1, iRng2, iStr, tSl, tPart, tNoPart, rSlL, cxOf_K, wipe, ex_ty2, kit_LTl, kit_LTt, kit_LTd, kit_LTs, kit_LTn, kit_LTb, kit_LTi, tM1, rIxS, exists_eq', lt1p, tDNewK, rSlS, rEqNil, nox_K, sFld]
      have hsq := tg.1
      have e3 : ∀ {a : Addr} {o : HO}, H a = some o → (∀ C d fs, o ≠ .ins C d fs) → H3 a = some o ∧ a ≠ x := fun {a o} e h => ⟨s03 _ _ e, fun z => by rw [z, hx] at e; exact h _ _ _ (Option.some.inj e).symm⟩
      have sqn : ∀ (H4 : Hp), (∀ c o, c ≠ x → H3 c = some o → H4 c = some o) → SqI K H4 pv qs := by
        intro H4 kp
        rcases hp with ⟨⟨h1, _⟩, h2, h3⟩ | ⟨a, rfl, h, rfl⟩
        · cases h1 with
          | lst e =>
            have h2 : seqO (H _) = _ := h2
            rw [e] at h2
            injection h2 with h2
            subst h2
            have := e3 e (fun _ _ _ z => by cases z)
            exact ⟨_, rfl, .inl (SqL.of (kp _ _ this.2 this.1))⟩
          | tup e =>
            have h2 : seqO (H _) = _ := h2
            rw [e] at h2
            injection h2 with h2
            subst h2
            have := e3 e (fun _ _ _ z => by cases z)
            exact ⟨_, rfl, .inr (SqT.of (kp _ _ this.2 this.1))⟩
          | dic e =>
            have h2 : seqO (H _) = _ := h2
            rw [e] at h2
            cases h2
          | _ => cases h2
        · exact ⟨a, rfl, .inr (h.sq _)⟩
      cases hsq with
      | lst e =>
        have hl : seqO (H _) = _ := hl
        rw [e] at hl
        injection hl with hl
        subst hl
        obtain ⟨ea, na⟩ := e3 e (fun _ _ _ z => by cases z)
        refine ⟨_, rfl, _, .inl ⟨SqL.of ea, fun l hln => ?_⟩⟩
        have nx : x ≠ l := ne_of_none hx3 hln
        refine ⟨A.k_Version, dx, [], by rw [upd_ne nx]; exact hx3, T.t_Version.cl, T.n_Version_kept_lines, by decide, ?_⟩
        have kp : ∀ c o, c ≠ x → H3 c = some o → upd (upd H3 l (HO.tup (ls.map V.str))) x (HO.ins A.k_Version dx (putF (Str.ofString "kept_lines") (V.ref l) [])) c = some o := fun c o hc e => by
          rw [upd_ne hc]
          exact same_new hln _ _ e
        exact st l _ (fun c o hc e => kp c o hc (s03 _ _ e)) upd_same (by rw [upd_ne nx.symm, upd_same]) (sqn _ kp)
      | tup e =>
        have hl : seqO (H _) = _ := hl
        rw [e] at hl
        injection hl with hl
        subst hl
        obtain ⟨ea, na⟩ := e3 e (fun _ _ _ z => by cases z)
        refine ⟨_, rfl, _, .inr ⟨SqT.of ea, ?_⟩⟩
        refine ⟨A.k_Version, dx, [], hx3, T.t_Version.cl, T.n_Version_kept_lines, by decide, ?_⟩
        have kp : ∀ (l : Addr) c o, c ≠ x → H3 c = some o → upd H3 x (HO.ins A.k_Version dx (putF (Str.ofString "kept_lines") (V.ref l) [])) c = some o := fun l c o hc e => by
          rw [upd_ne hc]
          exact e
        exact st _ _ (fun c o hc e => kp _ c o hc (s03 _ _ e)) upd_same (by rw [upd_ne na]; exact ea) (sqn _ (kp _))
      | dic e =>
        have hl : seqO (H _) = _ := hl
        rw [e] at hl
        cases hl
      | _ => cases hl
end
/-! ### making a Version -/
theorem own_sameV {H : Hp} {x dx C : Addr} (nx : H x = none) (nd : H dx = none) : Same H (upd (upd H dx (.own x)) x (.ins C dx [])) := fun c o hc => by
  have c1 : c ≠ x := fun z => by rw [z, nx] at hc; cases hc
  have c2 : c ≠ dx := fun z => by rw [z, nd] at hc; cases hc
  rw [upd_ne c1, upd_ne c2]
  exact hc
theorem ver_no {K : PySem.W.Frag} {C NT NP NN N : Addr} {gV : List V → List V → List V} {E : XK} {vs zs : List V} {H : Hp} {Q : VK} {g pv nv v : V} (h : ∀ x, gV (.ref x :: vs) zs = [.ref x, g, pv, nv]) (tg : Thq H g)
    (hc : (isTextV H g = false ∧ v = g ∧ N = NT) ∨ (isTextV H g = true ∧ Thq H pv ∧ isParV H pv = false ∧ v = pv ∧ N = NP) ∨ (isTextV H g = true ∧ (∃ qs, ParOk K H pv qs) ∧ Thg H nv ∧ isNameV nv = false ∧ v = nv ∧ N = NN))
    (k : ∀ H' d, Same H H' → H' d = some (.xd [("value", v)]) → E (.ref N) (some d) H') : mkGoK C (spVer K C NT NP NN) gV E vs zs H Q := by
  intro x dx nx nd ne
  have sm := own_sameV (C := C) nx nd
  refine ⟨x, dx, g, pv, nv, upd_same, h x, (tg.mono sm).1, ?_⟩
  rcases hc with ⟨h1, rfl, rfl⟩ | ⟨h1, h2, h3, rfl, rfl⟩ | ⟨h1, ⟨qs, h2⟩, h3, h4, rfl, rfl⟩
  · exact .inl ⟨by rw [text_mono sm tg]; exact h1, fun H' d s e => k H' d (sm.trans s) e⟩
  · exact .inr (.inl ⟨by rw [text_mono sm tg]; exact h1, (h2.mono sm).1, by rw [par_mono sm h2]; exact h3, fun H' d s e => k H' d (sm.trans s) e⟩)
  · exact .inr (.inr (.inl ⟨by rw [text_mono sm tg]; exact h1, ⟨qs, h2.mono sm⟩, h3.mono sm, h4, fun H' d s e => k H' d (sm.trans s) e⟩))
theorem ver_yes {K : PySem.W.Frag} {C NT NP NN : Addr} {gV : List V → List V → List V} {E : XK} {vs zs : List V} {H : Hp} {Q : VK} {g pv : V} {ls : List Str} {qs : List Int} {n : Str} (h : ∀ x, gV (.ref x :: vs) zs = [.ref x, g, pv, .str n]) (tg : Thq H g)
    (hl : seqV H g = some (ls.map V.str)) (ht : isTextV H g = true) (hp : ParOk K H pv qs) (sn : Sm n) (hn : isNameV (.str n) = true)
    (k : ∀ H' a ps, Same H H' → H a = none → VerAt C H' a ls ps n → ps.Pairwise (· < ·) → (∀ k : Int, k ∈ ps ↔ k ∈ qs) → Q (.ref a) H') : mkGoK C (spVer K C NT NP NN) gV E vs zs H Q := by
  intro x dx nx nd ne
  have sm := own_sameV (C := C) nx nd
  refine ⟨x, dx, g, pv, _, upd_same, h x, (tg.mono sm).1, .inr (.inr (.inr ⟨ls, qs, n, by rw [(tg.mono sm).2]; exact hl, by rw [text_mono sm tg]; exact ht, hp.mono sm, rfl, sn, hn, fun H' l p ps kp hx hl' hp' hs hm => ⟨rfl, k H' x ps (fun c o hc => ?_) nx ⟨dx, l, p, hx, hl', hp'⟩ hs hm⟩⟩))⟩
  exact kp c o (fun z => by rw [z, nx] at hc; cases hc) (sm c o hc)



/-! ### histories -/
structure VR where
  ls : List Str
  ps : List Int
  nm : Str
deriving DecidableEq
structure VOk (r : VR) : Prop where
  ll : r.ls.length ≤ 12
  pl : r.ps.length ≤ 3
  asc : ∀ z ∈ r.ls, ∀ c ∈ z.cps.toList, c < 128
/-- these are Versions of these rows -/
structure VersAt (C : Addr) (H : Hp) (vas : List Addr) (rs : List VR) : Prop where
  len : vas.length = rs.length
  ea : ∀ (i : Nat) (a : Addr) (r : VR), vas[i]? = some a → rs[i]? = some r → VerAt C H a r.ls r.ps r.nm ∧ VOk r
theorem VersAt.same {C : Addr} {H H' : Hp} {vas : List Addr} {rs : List VR} (h : VersAt C H vas rs) (s : Same H H') : VersAt C H' vas rs := ⟨h.len, fun i a r h1 h2 => ⟨(h.ea i a r h1 h2).1.same s, (h.ea i a r h1 h2).2⟩⟩
/-- each parent is smaller than the number -/
def Gr (rs : List VR) : Prop := ∀ (i : Nat) (r : VR), rs[i]? = some r → ∀ p ∈ r.ps, 0 ≤ p ∧ p < (i : Int)
def hF (k : Addr) : List (Str × V) := [("kept_versions", .ref k)]
theorem hf_k {k : Addr} : (hF k).lookup ("kept_versions" : Str) = some (V.ref k) := by
  unfold hF
  rw [List.lookup_cons_self]
structure HistAt (CH CV : Addr) (H : Hp) (h : Addr) (vas : List Addr) (rs : List VR) : Prop where
  ex : ∃ dx k, H h = some (.ins CH dx (hF k)) ∧ H k = some (.lst (vas.map V.ref))
  vs : VersAt CV H vas rs
  l10 : vas.length ≤ 10
  gr : Gr rs
theorem HistAt.same {CH CV : Addr} {H H' : Hp} {h : Addr} {vas : List Addr} {rs : List VR} (x : HistAt CH CV H h vas rs) (s : Same H H') : HistAt CH CV H' h vas rs := by
  obtain ⟨⟨dx, k, h1, h2⟩, h3, h4, h5⟩ := x
  exact ⟨⟨dx, k, s _ _ h1, s _ _ h2⟩, h3.same s, h4, h5⟩
theorem HistAt.extN {CH CV : Addr} {H H' : Hp} {h : Addr} {vas : List Addr} {rs : List VR} (e : LamX.ExtN H H') (x : HistAt CH CV H h vas rs) : HistAt CH CV H' h vas rs := by
  obtain ⟨⟨dx, k, h1, h2⟩, h3, h4, h5⟩ := x
  refine ⟨⟨dx, k, e _ _ h1 (fun ps z => by cases z), e _ _ h2 (fun ps z => by cases z)⟩, ⟨h3.len, fun i a r q1 q2 => ⟨?_, (h3.ea i a r q1 q2).2⟩⟩, h4, h5⟩
  obtain ⟨⟨dx, l, p, v1, v2, v3⟩, _⟩ := h3.ea i a r q1 q2
  exact ⟨dx, l, p, e _ _ v1 (fun ps z => by cases z), e _ _ v2 (fun ps z => by cases z), e _ _ v3 (fun ps z => by cases z)⟩
theorem okD {P : Program} {w : World} {K : PySem.W.Frag} {mg : Str → Option Value} {base : Heap} {x qual : Str} {params : Arguments} {body : List Stmt} {scope : Scope} {dvs : List V} {kws : List (Str × V)} {f : Addr} {fd : FuncData} {N ps : List Str} {k : Nat} {sp : Sp} (F : FunD K x qual params body scope dvs kws f fd) (S : FnScope N ps scope) (len : ∀ vs H Q E, sp vs H Q E → vs.length = ps.length)
    (hbody : ∀ (cdv : Value) (A : Around) (outer : List Env) (s : Shared) (H : Hp) (vs : List V) (Q : VK) (E : XK), Room k (A.deeper (PyProof.Rows.envOfC qual scope s.heap.objs.size f cdv)) → sp vs H Q E →
      ∃ t, PSs (cxOf CX0 P w K mg base N qual scope f cdv A outer s H E).nox body t ∧ t { nx := fun _ H' => Q .non H', rt := Q } (L2.start N vs) H) : FnOk P w K mg base CX0 (k + 1) f fd ps sp := by
  refine F.ok S len fun cdv A outer s H vs Q E hr hsp => ?_
  obtain ⟨t, h, q⟩ := hbody cdv A outer s H vs Q E hr hsp
  exact ⟨t, h.nox, q⟩
def spStand (C : Addr) : Sp := fun vs H Q _ => ∃ a ls ps n i, vs = [.ref a, .int i] ∧ VerAt C H a ls ps n ∧ ps.length ≤ 3 ∧ ∀ H', Same H H' → Q (.bl (ps.all fun p => decide (p < i))) H'
section
variable {w : World} {K : PySem.W.Frag} {mg : Str → Option Value} {base : Heap} {A : Adr}
theorem ok_stand (T : Txt K mg A) (gVersionParents : FnOk PW w K mg base CX0 1 A.a_VersionParents A.d_VersionParents ["self"] (spParents A.k_Version)) : FnOk PW w K mg base CX0 3 A.a_CanStand A.d_CanStand ["value", "number"] (spStand A.k_Version) := by
  refine T.f_CanStand.ok scCanStand (fun vs H Q E h => ?_) (fun cdv A' outer s H vs Q E hr h => ?_)
  · obtain ⟨a, ls, ps, n, i, rfl, _⟩ := h
    rfl
  · obtain ⟨a, ls, ps, n, i, rfl, ⟨dx, l, p, ha, hl, hp⟩, p3, k⟩ := h
    refine ⟨_, (pss_one (ps_ret (pe_and (pe_callB call_isW (by rfl) T.z_isinstance (by decide +kernel) (pa_cons (pv 0) (pa_cons (pe_glob (v := .ref A.k_Version) (by rfl) T.k_Version rfl) pa_nil))) (pe_one (pe_callB (cr_all rfl) (by rfl) T.z_all (by decide +kernel) (pa_cons (pe_lc (own := [("parent", 2)]) (g := gName 2) (tt := tYes) (by rfl) scCanStand.nd (pi_tup (pe_prop (pv 0) T.t_Version.cl T.h_VersionParents gVersionParents (hr.mono (by decide)) T.b_VersionParents .nil pass0 (by rfl))) (blkOk_by (own := [("parent", 2)]) (N := nCanStand) (sc := defScope sCanStand) (by decide +kernel)) (fun _ _ _ _ _ => pg_name (i := 2) scCanStand.nd rfl (Or.inl rfl)) (fun _ _ _ _ _ => pts_nil) (fun _ _ _ _ _ => (pe_cmpR (op_lt) (pv 2) (pv 1) (nomark _)))) pa_nil)))))), ?_⟩
    have e1 : PySem.W.kitOne K (.ref A.k_Version) (.ref A.k_Version) = some true := kit_self
    have et : tyV H (.ref a) = some (.ref A.k_Version) := by rw [tyV_ref, ha]; rfl
    try simp only [tSeq, tNext, tRet, tRetN, tAsg, gName, gSub, tDrop, tIfS, tOp, tUn, tCB, tCons, tNil, tC, tVar, rI, rI0, rU, tAnd, tOr, tNot, tAndV, tOrV, tNotV, tIf, tTest, tB, tCall, tChain, tLst, tTup, tYes, rIxH, rIsB, rIsBT, rMulS, kd_non, kd_bl, kd_int, kd_str, kd_ref, kdO_lst, kdO_tup, kdO_dK, nq_n, nq_b, nq_i, nq_s, nq_l, nq_t, nq_d, ne_eq, not_false_eq_true, kit_ss, kit_ns, kit_bs, kit_is, kit_ls, kit_ts, kit_ds, kit_bb, V.ty.injEq, and_assoc, rIxU, rLenH, rLenU, rLenS, rInt1, rSetL, rEq, rNe, rCat, L2.start, List.map, List.length, List.length_cons, List.length_nil, List.replicate, List.getElem?_cons_zero, List.getElem?_cons_succ, List.set_cons_zero, List.set_cons_succ, List.set_nil, List.cons_append, List.nil_append, List.append_nil, Option.some.injEq, V.int.injEq, V.ref.injEq, V.str.injEq, V.bl.injEq, HO.lst.injEq, HO.tup.injEq, exists_eq_left', exists_and_left, exists_eq_left, List.cons.injEq, and_true, true_and, and_false, false_and, and_self, reduceCtorEq, exists_false, or_false, false_or, exists_const, at0, at1, at2, at3, at4, at5, ix51, ix52, ix54, upd_same, Nat.reduceAdd, Nat.reduceSub, Nat.zero_add, Int.reduceToNat, Int.reduceLE, Int.reduceLT, decide_eq_true_eq, Bool.not_eq_true, if_true, if_false, Bool.false_eq_true, ite_true, ite_false, Bool.not_true, Bool.not_false, decide_true, decide_false, tFor_eq, tLc_eq, iList, iTup, iRng1, iRng2, iStr, tSl, tPart, tNoPart, rSlL, cxOf_K, wipe, ex_ty2, kit_LTl, kit_LTt, kit_LTd, kit_LTs, kit_LTn, kit_LTb, kit_LTi, tM1, rIxS, exists_eq', lt1p, tDNewK, rSlS, rEqNil, nox_K, rIsW, clsV_ty, clsV_ref, et, e1, Value.ref.injEq, forall_eq', T.t_Version, implies_true, forall_const, tProp, ha, HO.ins.injEq]
    refine ⟨a, dx, l, p, n, rfl, ha, ?_⟩
    refine ⟨_, rfl, ⟨_, SqT.of hp⟩, fun D hD => ?_⟩
    refine lc_same (walk_tup (K := K) (xs := ps.map V.int)) (fun _ => true) (fun v => .bl (decide (cntOf v < i))) hD (fun _ s2 => Same.tup s2 (SqT.of hp)) (by rw [List.length_map]; omega) (fun x hx H2 s2 R R0 h1 _ => ?_) (fun H2 s2 h2 => ?_)
    · obtain ⟨j, rfl⟩ := mem_int hx
      try simp only [tSeq, tNext, tRet, tRetN, tAsg, gName, gSub, tDrop, tIfS, tOp, tUn, tCB, tCons, tNil, tC, tVar, rI, rI0, rU, tAnd, tOr, tNot, tAndV, tOrV, tNotV, tIf, tTest, tB, tCall, tChain, tLst, tTup, tYes, rIxH, rIsB, rIsBT, rMulS, kd_non, kd_bl, kd_int, kd_str, kd_ref, kdO_lst, kdO_tup, kdO_dK, nq_n, nq_b, nq_i, nq_s, nq_l, nq_t, nq_d, ne_eq, not_false_eq_true, kit_ss, kit_ns, kit_bs, kit_is, kit_ls, kit_ts, kit_ds, kit_bb, V.ty.injEq, and_assoc, rIxU, rLenH, rLenU, rLenS, rInt1, rSetL, rEq, rNe, rCat, L2.start, List.map, List.length, List.length_cons, List.length_nil, List.replicate, List.getElem?_cons_zero, List.getElem?_cons_succ, List.set_cons_zero, List.set_cons_succ, List.set_nil, List.cons_append, List.nil_append, List.append_nil, Option.some.injEq, V.int.injEq, V.ref.injEq, V.str.injEq, V.bl.injEq, HO.lst.injEq, HO.tup.injEq, exists_eq_left', exists_and_left, exists_eq_left, List.cons.injEq, and_true, true_and, and_false, false_and, and_self, reduceCtorEq, exists_false, or_false, false_or, exists_const, at0, at1, at2, at3, at4, at5, ix51, ix52, ix54, upd_same, Nat.reduceAdd, Nat.reduceSub, Nat.zero_add, Int.reduceToNat, Int.reduceLE, Int.reduceLT, decide_eq_true_eq, Bool.not_eq_true, if_true, if_false, Bool.false_eq_true, ite_true, ite_false, Bool.not_true, Bool.not_false, decide_true, decide_false, tFor_eq, tLc_eq, iList, iTup, iRng1, iRng2, iStr, tSl, tPart, tNoPart, rSlL, cxOf_K, wipe, ex_ty2, kit_LTl, kit_LTt, kit_LTd, kit_LTs, kit_LTn, kit_LTb, kit_LTi, tM1, rIxS, exists_eq', lt1p, tDNewK, rSlS, rEqNil, nox_K]
      exact h1 H2 (Same.refl _) rfl
    · rw [filter_all, List.map_map] at h2
      refine ⟨D, ps.map (fun p => decide (p < i)), rfl, SqL.of (by rw [h2, List.map_map]; rfl), ?_⟩
      have e2 : (ps.map fun p => decide (p < i)).all id = ps.all fun p => decide (p < i) := by rw [List.all_map]; rfl
      rw [e2]
      exact k H2 s2
end
def spHist (K : PySem.W.Frag) (CH CV : Addr) : Sp := fun vs H Q _ => ∃ x dx b vas rs, H x = some (.ins CH dx []) ∧ vs = [.ref x, .ref b] ∧ (H b = some (.lst (List.map V.ref vas)) ∨ H b = some (.tup (List.map V.ref vas)) ∨ (KT0 K b ∧ vas = [])) ∧
  vas.length ≤ 10 ∧ VersAt CV H vas rs ∧ Gr rs ∧ ∀ H' k, H k = none → (∀ c o, c ≠ x → H c = some o → H' c = some o) → H' x = some (.ins CH dx (hF k)) → H' k = some (.lst (vas.map V.ref)) → Q .non H'
def LHi (x b : Addr) (H0 : Hp) (i : Nat) (σ : St) (H : Hp) : Prop := ∃ v2 v3 : Option V, σ = [some (.ref x), some (.ref b), v2, v3] ∧ Same H0 H
section
variable {w : World} {K : PySem.W.Frag} {mg : Str → Option Value} {base : Heap} {A : Adr}
theorem ok_hist (T : Txt K mg A) (gCanStand : FnOk PW w K mg base CX0 3 A.a_CanStand A.d_CanStand ["value", "number"] (spStand A.k_Version)) : FnOk PW w K mg base CX0 4 A.a_HistoryInit A.d_HistoryInit ["self", "versions"] (spHist K A.k_History A.k_Version) := by
  refine okD T.f_HistoryInit scHistoryInit (fun vs H Q E h => ?_) (fun cdv A' outer s H vs Q E hr h => ?_)
  · obtain ⟨x, dx, b, vas, rs, _, rfl, _⟩ := h
    rfl
  · obtain ⟨x, dx, b, vas, rs, hx, rfl, hb, l10, va, gr, k⟩ := h
    have fin : ∀ (D : Ends) (Pv : St → Hp → Prop) (σ : St) (H2 : Hp), True := fun _ _ _ _ => trivial
    clear fin
    have turn : ∀ (i : Nat) (a : Addr), vas[i]? = some a → ∀ H2, Same H H2 → ∀ Q : VK, (∀ H3, Same H2 H3 → Q (.bl true) H3) → spStand A.k_Version [.ref a, .int (i : Int)] H2 Q E0 := by
      intro i a ha H2 s2 Q q
      have hi : i < rs.length := by rw [← va.len]; exact (List.getElem?_eq_some_iff.mp ha).1
      obtain ⟨v, o⟩ := va.ea i a rs[i] ha (List.getElem?_eq_getElem hi)
      refine ⟨a, _, _, _, i, rfl, v.same s2, o.pl, fun H3 s3 => ?_⟩
      have e : (rs[i].ps.all fun p => decide (p < (i : Int))) = true := List.all_eq_true.mpr fun p hp => decide_eq_true (gr i rs[i] (List.getElem?_eq_getElem hi) p hp).2
      rw [e]
      exact q H3 s3
    rcases hb with hb | hb | ⟨kt, rfl⟩
    · refine ⟨_, (pss_cons (ps_if (PW.pt (pw_or (pt_not (pt_val (pe_callB call_isBT (by rfl) T.z_isinstance (by decide +kernel) (pa_cons (pv 1) (pa_cons (pe_tup (pa_cons (pe_bltn (v := .ty "list") (by rfl) T.z_list (by decide +kernel) rfl) (pa_cons (pe_bltn (v := .ty "tuple") (by rfl) T.z_tuple (by decide +kernel) rfl) pa_nil))) pa_nil))))) (pw_or1 (pt_cmpR (op_gt) (pe_callB call_lenH (by rfl) T.z_len (by decide +kernel) (pa_cons (pv 1) pa_nil)) (pe_glob (v := .int 10) (by rfl) T.c_MOST_VERSIONS.choose_spec ⟨_, rfl⟩) (nomark _))))) (pss_one ps_never) pss_nil)
      (pss_cons (ps_for PassesOwn.never rfl (pi_enum (by rfl) T.z_enumerate (pa_cons (pv 1) pa_nil)) (pg_tup rfl (pgs_cons (pg_name (i := 2) scHistoryInit.nd rfl (Or.inl rfl)) (pgs_cons (pg_name (i := 3) scHistoryInit.nd rfl (Or.inl rfl)) pgs_nil))) (pss_one (ps_if (pt_not (pt_val (pe_call gCanStand (hr.mono (by decide)) (by rfl) T.m_CanStand T.f_CanStand.kp T.b_CanStand .nil pass0 (pa_cons (pv 3) (pa_cons (pv 2) pa_nil))))) (pss_one ps_never) pss_nil)))
      (pss_one (ps_fld (pv 0) (pe_callTy call_list_of (by rfl) T.z_list (by decide +kernel) (pa_cons (pv 1) pa_nil)) rfl)))), ?_⟩
      refine seq_gen fun N eN => ?_
      try simp only [tSeq, tNext, tRet, tRetN, tAsg, gName, gSub, tDrop, tIfS, tOp, tUn, tCB, tCons, tNil, tC, tVar, rI, rI0, rU, tAnd, tOr, tNot, tAndV, tOrV, tNotV, tIf, tTest, tB, tCall, tChain, tLst, tTup, tYes, rIxH, rIsB, rIsBT, rMulS, kd_non, kd_bl, kd_int, kd_str, kd_ref, kdO_lst, kdO_tup, kdO_dK, nq_n, nq_b, nq_i, nq_s, nq_l, nq_t, nq_d, ne_eq, not_false_eq_true, kit_ss, kit_ns, kit_bs, kit_is, kit_ls, kit_ts, kit_ds, kit_bb, V.ty.injEq, and_assoc, rIxU, rLenH, rLenU, rLenS, rInt1, rSetL, rEq, rNe, rCat, L2.start, List.map, List.length, List.length_cons, List.length_nil, List.replicate, List.getElem?_cons_zero, List.getElem?_cons_succ, List.set_cons_zero, List.set_cons_succ, List.set_nil, List.cons_append, List.nil_append, List.append_nil, Option.some.injEq, V.int.injEq, V.ref.injEq, V.str.injEq, V.bl.injEq, HO.lst.injEq, HO.tup.injEq, exists_eq_left', exists_and_left, exists_eq_left, List.cons.injEq, and_true, true_and, and_false, false_and, and_self, reduceCtorEq, exists_false, or_false, false_or, exists_const, at0, at1, at2, at3, at4, at5, ix51, ix52, ix54, upd_same, Nat.reduceAdd, Nat.reduceSub, Nat.zero_add, Int.reduceToNat, Int.reduceLE, Int.reduceLT, decide_eq_true_eq, Bool.not_eq_true, if_true, if_false, Bool.false_eq_true, ite_true, ite_false, Bool.not_true, Bool.not_false, decide_true, decide_false, tFor_eq, tLc_eq, iList, iTup, iRng1, iRng2, iStr, tSl, tPart, tNoPart, rSlL, cxOf_K, wipe, ex_ty2, kit_LTl, kit_LTt, kit_LTd, kit_LTs, kit_LTn, kit_LTb, kit_LTi, tM1, rIxS, exists_eq', lt1p, tDNewK, rSlS, rEqNil, nox_K, hb]
      refine ⟨by decide, ?_⟩
      intro p n_p; generalize g_H1 : upd H p _ = H1; obtain ⟨s_H1, h_p⟩ := new_facts n_p g_H1; clear g_H1
      have hb1 := s_H1 _ _ hb
      try simp only [tSeq, tNext, tRet, tRetN, tAsg, gName, gSub, tDrop, tIfS, tOp, tUn, tCB, tCons, tNil, tC, tVar, rI, rI0, rU, tAnd, tOr, tNot, tAndV, tOrV, tNotV, tIf, tTest, tB, tCall, tChain, tLst, tTup, tYes, rIxH, rIsB, rIsBT, rMulS, kd_non, kd_bl, kd_int, kd_str, kd_ref, kdO_lst, kdO_tup, kdO_dK, nq_n, nq_b, nq_i, nq_s, nq_l, nq_t, nq_d, ne_eq, not_false_eq_true, kit_ss, kit_ns, kit_bs, kit_is, kit_ls, kit_ts, kit_ds, kit_bb, V.ty.injEq, and_assoc, rIxU, rLenH, rLenU, rLenS, rInt1, rSetL, rEq, rNe, rCat, L2.start, List.map, List.length, List.length_cons, List.length_nil, List.replicate, List.getElem?_cons_zero, List.getElem?_cons_succ, List.set_cons_zero, List.set_cons_succ, List.set_nil, List.cons_append, List.nil_append, List.append_nil, Option.some.injEq, V.int.injEq, V.ref.injEq, V.str.injEq, V.bl.injEq, HO.lst.injEq, HO.tup.injEq, exists_eq_left', exists_and_left, exists_eq_left, List.cons.injEq, and_true, true_and, and_false, false_and, and_self, reduceCtorEq, exists_false, or_false, false_or, exists_const, at0, at1, at2, at3, at4, at5, ix51, ix52, ix54, upd_same, Nat.reduceAdd, Nat.reduceSub, Nat.zero_add, Int.reduceToNat, Int.reduceLE, Int.reduceLT, decide_eq_true_eq, Bool.not_eq_true, if_true, if_false, Bool.false_eq_true, ite_true, ite_false, Bool.not_true, Bool.not_false, decide_true, decide_false, tFor_eq, tLc_eq, iList, iTup, iRng1, iRng2, iStr, tSl, tPart, tNoPart, rSlL, cxOf_K, wipe, ex_ty2, kit_LTl, kit_LTt, kit_LTd, kit_LTs, kit_LTn, kit_LTb, kit_LTi, tM1, rIxS, exists_eq', lt1p, tDNewK, rSlS, rEqNil, nox_K, hb1, List.length_map]
      rw [if_neg (by omega)]
      rw [eN]
      clear eN N
      refine seq_gen fun N eN => ?_
      try simp only [tSeq, tNext, tRet, tRetN, tAsg, gName, gSub, tDrop, tIfS, tOp, tUn, tCB, tCons, tNil, tC, tVar, rI, rI0, rU, tAnd, tOr, tNot, tAndV, tOrV, tNotV, tIf, tTest, tB, tCall, tChain, tLst, tTup, tYes, rIxH, rIsB, rIsBT, rMulS, kd_non, kd_bl, kd_int, kd_str, kd_ref, kdO_lst, kdO_tup, kdO_dK, nq_n, nq_b, nq_i, nq_s, nq_l, nq_t, nq_d, ne_eq, not_false_eq_true, kit_ss, kit_ns, kit_bs, kit_is, kit_ls, kit_ts, kit_ds, kit_bb, V.ty.injEq, and_assoc, rIxU, rLenH, rLenU, rLenS, rInt1, rSetL, rEq, rNe, rCat, L2.start, List.map, List.length, List.length_cons, List.length_nil, List.replicate, List.getElem?_cons_zero, List.getElem?_cons_succ, List.set_cons_zero, List.set_cons_succ, List.set_nil, List.cons_append, List.nil_append, List.append_nil, Option.some.injEq, V.int.injEq, V.ref.injEq, V.str.injEq, V.bl.injEq, HO.lst.injEq, HO.tup.injEq, exists_eq_left', exists_and_left, exists_eq_left, List.cons.injEq, and_true, true_and, and_false, false_and, and_self, reduceCtorEq, exists_false, or_false, false_or, exists_const, at0, at1, at2, at3, at4, at5, ix51, ix52, ix54, upd_same, Nat.reduceAdd, Nat.reduceSub, Nat.zero_add, Int.reduceToNat, Int.reduceLE, Int.reduceLT, decide_eq_true_eq, Bool.not_eq_true, if_true, if_false, Bool.false_eq_true, ite_true, ite_false, Bool.not_true, Bool.not_false, decide_true, decide_false, tFor_eq, tLc_eq, iList, iTup, iRng1, iRng2, iStr, tSl, tPart, tNoPart, rSlL, cxOf_K, wipe, ex_ty2, kit_LTl, kit_LTt, kit_LTd, kit_LTs, kit_LTn, kit_LTb, kit_LTi, tM1, rIxS, exists_eq', lt1p, tDNewK, rSlS, rEqNil, nox_K, iEnum, hb1]
      refine ⟨_, SqL.of hb1, for_it (walk_enum (K := K) (a := b) (xs := vas.map V.ref)) (LHi x b H1) ⟨_, _, rfl, Same.refl _⟩ (fun i σ H2 _ q => ?_) (fun i v σ H2 H3 hi q y => ?_) (fun σ H2 q => ?_)⟩
      · obtain ⟨_, _, _, s2⟩ := q
        exact SqL.of (s2 _ _ hb1)
      · obtain ⟨v2, v3, rfl, s2⟩ := q
        obtain ⟨t, x1, y1, rfl, nt, rfl, e1, e2⟩ := y
        cases e1
        have hi' : i < vas.length := by simpa using hi
        have e2 : (List.map V.ref vas)[i]? = some y1 := e2
        rw [List.getElem?_map, List.getElem?_eq_getElem hi'] at e2
        cases e2
        refine ⟨t, _, rfl, SqT.of upd_same, rfl, _, _, rfl, _, _, rfl, rfl, ?_⟩
        have s23 := s2.trans (same_new (o := HO.tup [V.int (i : Int), V.ref vas[i]]) nt)
        try simp only [tSeq, tNext, tRet, tRetN, tAsg, gName, gSub, tDrop, tIfS, tOp, tUn, tCB, tCons, tNil, tC, tVar, rI, rI0, rU, tAnd, tOr, tNot, tAndV, tOrV, tNotV, tIf, tTest, tB, tCall, tChain, tLst, tTup, tYes, rIxH, rIsB, rIsBT, rMulS, kd_non, kd_bl, kd_int, kd_str, kd_ref, kdO_lst, kdO_tup, kdO_dK, nq_n, nq_b, nq_i, nq_s, nq_l, nq_t, nq_d, ne_eq, not_false_eq_true, kit_ss, kit_ns, kit_bs, kit_is, kit_ls, kit_ts, kit_ds, kit_bb, V.ty.injEq, and_assoc, rIxU, rLenH, rLenU, rLenS, rInt1, rSetL, rEq, rNe, rCat, L2.start, List.map, List.length, List.length_cons, List.length_nil, List.replicate, List.getElem?_cons_zero, List.getElem?_cons_succ, List.set_cons_zero, List.set_cons_succ, List.set_nil, List.cons_append, List.nil_append, List.append_nil, Option.some.injEq, V.int.injEq, V.ref.injEq, V.str.injEq, V.bl.injEq, HO.lst.injEq, HO.tup.injEq, exists_eq_left', exists_and_left, exists_eq_left, List.cons.injEq, and_true, true_and, and_false, false_and, and_self, reduceCtorEq, exists_false, or_false, false_or, exists_const, at0, at1, at2, at3, at4, at5, ix51, ix52, ix54, upd_same, Nat.reduceAdd, Nat.reduceSub, Nat.zero_add, Int.reduceToNat, Int.reduceLE, Int.reduceLT, decide_eq_true_eq, Bool.not_eq_true, if_true, if_false, Bool.false_eq_true, ite_true, ite_false, Bool.not_true, Bool.not_false, decide_true, decide_false, tFor_eq, tLc_eq, iList, iTup, iRng1, iRng2, iStr, tSl, tPart, tNoPart, rSlL, cxOf_K, wipe, ex_ty2, kit_LTl, kit_LTt, kit_LTd, kit_LTs, kit_LTn, kit_LTb, kit_LTi, tM1, rIxS, exists_eq', lt1p, tDNewK, rSlS, rEqNil, nox_K]
        refine turn i vas[i] (List.getElem?_eq_getElem hi') _ (s_H1.trans s23) _ fun H4 s4 => ?_
        try simp only [tSeq, tNext, tRet, tRetN, tAsg, gName, gSub, tDrop, tIfS, tOp, tUn, tCB, tCons, tNil, tC, tVar, rI, rI0, rU, tAnd, tOr, tNot, tAndV, tOrV, tNotV, tIf, tTest, tB, tCall, tChain, tLst, tTup, tYes, rIxH, rIsB, rIsBT, rMulS, kd_non, kd_bl, kd_int, kd_str, kd_ref, kdO_lst, kdO_tup, kdO_dK, nq_n, nq_b, nq_i, nq_s, nq_l, nq_t, nq_d, ne_eq, not_false_eq_true, kit_ss, kit_ns, kit_bs, kit_is, kit_ls, kit_ts, kit_ds, kit_bb, V.ty.injEq, and_assoc, rIxU, rLenH, rLenU, rLenS, rInt1, rSetL, rEq, rNe, rCat, L2.start, List.map, List.length, List.length_cons, List.length_nil, List.replicate, List.getElem?_cons_zero, List.getElem?_cons_succ, List.set_cons_zero, List.set_cons_succ, List.set_nil, List.cons_append, List.nil_append, List.append_nil, Option.some.injEq, V.int.injEq, V.ref.injEq, V.str.injEq, V.bl.injEq, HO.lst.injEq, HO.tup.injEq, exists_eq_left', exists_and_left, exists_eq_left, List.cons.injEq, and_true, true_and, and_false, false_and, and_self, reduceCtorEq, exists_false, or_false, false_or, exists_const, at0, at1, at2, at3, at4, at5, ix51, ix52, ix54, upd_same, Nat.reduceAdd, Nat.reduceSub, Nat.zero_add, Int.reduceToNat, Int.reduceLE, Int.reduceLT, decide_eq_true_eq, Bool.not_eq_true, if_true, if_false, Bool.false_eq_true, ite_true, ite_false, Bool.not_true, Bool.not_false, decide_true, decide_false, tFor_eq, tLc_eq, iList, iTup, iRng1, iRng2, iStr, tSl, tPart, tNoPart, rSlL, cxOf_K, wipe, ex_ty2, kit_LTl, kit_LTt, kit_LTd, kit_LTs, kit_LTn, kit_LTb, kit_LTi, tM1, rIxS, exists_eq', lt1p, tDNewK, rSlS, rEqNil, nox_K]
        exact ⟨_, _, rfl, s23.trans s4⟩
      · obtain ⟨v2, v3, rfl, s2⟩ := q
        have s02 := s_H1.trans s2
        have hx2 := s02 _ _ hx
        dsimp only
        rw [eN]
        clear eN N
        try simp only [tSeq, tNext, tRet, tRetN, tAsg, gName, gSub, tDrop, tIfS, tOp, tUn, tCB, tCons, tNil, tC, tVar, rI, rI0, rU, tAnd, tOr, tNot, tAndV, tOrV, tNotV, tIf, tTest, tB, tCall, tChain, tLst, tTup, tYes, rIxH, rIsB, rIsBT, rMulS, kd_non, kd_bl, kd_int, kd_str, kd_ref, kdO_lst, kdO_tup, kdO_dK, nq_n, nq_b, nq_i, nq_s, nq_l, nq_t, nq_d, ne_eq, not_false_eq_true, kit_ss, kit_ns, kit_bs, kit_is, kit_ls, kit_ts, kit_ds, kit_bb, V.ty.injEq, and_assoc, rIxU, rLenH, rLenU, rLenS, rInt1, rSetL, rEq, rNe, rCat, L2.start, List.map, List.length, List.length_cons, List.length_nil, List.replicate, List.getElem?_cons_zero, List.getElem?_cons_succ, List.set_cons_zero, List.set_cons_succ, List.set_nil, List.cons_append, List.nil_append, List.append_nil, Option.some.injEq, V.int.injEq, V.ref.injEq, V.str.injEq, V.bl.injEq, HO.lst.injEq, HO.tup.injEq, exists_eq_left', exists_and_left, exists_eq_left, List.cons.injEq, and_true, true_and, and_false, false_and, and_self, reduceCtorEq, exists_false, or_false, false_or, exists_const, at0, at1, at2, at3, at4, at5, ix51, ix52, ix54, upd_same, Nat.reduceAdd, Nat.reduceSub, Nat.zero_add, Int.reduceToNat, Int.reduceLE, Int.reduceLT, decide_eq_true_eq, Bool.not_eq_true, if_true, if_false, Bool.false_eq_true, ite_true, ite_false, Bool.not_true, Bool.not_false, decide_true, decide_false, tFor_eq, tLc_eq, iList, iTup, iRng1, iRng2, iStr, tSl, tPart, tNoPart, rSlL, cxOf_K, wipe, ex_ty2, kit_LTl, kit_LTt, kit_LTd, kit_LTs, kit_LTn, kit_LTb, kit_LTi, tM1, rIxS, exists_eq', lt1p, tDNewK, rSlS, rEqNil, nox_K, sFld]
        refine ⟨vas.map V.ref, .inl (SqL.of (s2 _ _ hb1)), fun q hq => ?_⟩
        have nx : x ≠ q := ne_of_none hx2 hq
        refine ⟨A.k_History, dx, [], by rw [upd_ne nx]; exact hx2, T.t_History.cl, T.n_History_kept_versions, by decide, ?_⟩
        refine k _ q (s02.free hq) (fun c o hc e => ?_) (by rw [upd_same]; rfl) (by rw [upd_ne nx.symm, upd_same])
        rw [upd_ne hc]
        exact same_new hq _ _ (s02 _ _ e)
    · refine ⟨_, (pss_cons (ps_if (PW.pt (pw_or (pt_not (pt_val (pe_callB call_isBT (by rfl) T.z_isinstance (by decide +kernel) (pa_cons (pv 1) (pa_cons (pe_tup (pa_cons (pe_bltn (v := .ty "list") (by rfl) T.z_list (by decide +kernel) rfl) (pa_cons (pe_bltn (v := .ty "tuple") (by rfl) T.z_tuple (by decide +kernel) rfl) pa_nil))) pa_nil))))) (pw_or1 (pt_cmpR (op_gt) (pe_callB call_lenU (by rfl) T.z_len (by decide +kernel) (pa_cons (pv 1) pa_nil)) (pe_glob (v := .int 10) (by rfl) T.c_MOST_VERSIONS.choose_spec ⟨_, rfl⟩) (nomark _))))) (pss_one ps_never) pss_nil)
      (pss_cons (ps_for PassesOwn.never rfl (pi_enumT (by rfl) T.z_enumerate (pa_cons (pv 1) pa_nil)) (pg_tup rfl (pgs_cons (pg_name (i := 2) scHistoryInit.nd rfl (Or.inl rfl)) (pgs_cons (pg_name (i := 3) scHistoryInit.nd rfl (Or.inl rfl)) pgs_nil))) (pss_one (ps_if (pt_not (pt_val (pe_call gCanStand (hr.mono (by decide)) (by rfl) T.m_CanStand T.f_CanStand.kp T.b_CanStand .nil pass0 (pa_cons (pv 3) (pa_cons (pv 2) pa_nil))))) (pss_one ps_never) pss_nil)))
      (pss_one (ps_fld (pv 0) (pe_callTy call_list_of (by rfl) T.z_list (by decide +kernel) (pa_cons (pv 1) pa_nil)) rfl)))), ?_⟩
      refine seq_gen fun N eN => ?_
      try simp only [tSeq, tNext, tRet, tRetN, tAsg, gName, gSub, tDrop, tIfS, tOp, tUn, tCB, tCons, tNil, tC, tVar, rI, rI0, rU, tAnd, tOr, tNot, tAndV, tOrV, tNotV, tIf, tTest, tB, tCall, tChain, tLst, tTup, tYes, rIxH, rIsB, rIsBT, rMulS, kd_non, kd_bl, kd_int, kd_str, kd_ref, kdO_lst, kdO_tup, kdO_dK, nq_n, nq_b, nq_i, nq_s, nq_l, nq_t, nq_d, ne_eq, not_false_eq_true, kit_ss, kit_ns, kit_bs, kit_is, kit_ls, kit_ts, kit_ds, kit_bb, V.ty.injEq, and_assoc, rIxU, rLenH, rLenU, rLenS, rInt1, rSetL, rEq, rNe, rCat, L2.start, List.map, List.length, List.length_cons, List.length_nil, List.replicate, List.getElem?_cons_zero, List.getElem?_cons_succ, List.set_cons_zero, List.set_cons_succ, List.set_nil, List.cons_append, List.nil_append, List.append_nil, Option.some.injEq, V.int.injEq, V.ref.injEq, V.str.injEq, V.bl.injEq, HO.lst.injEq, HO.tup.injEq, exists_eq_left', exists_and_left, exists_eq_left, List.cons.injEq, and_true, true_and, and_false, false_and, and_self, reduceCtorEq, exists_false, or_false, false_or, exists_const, at0, at1, at2, at3, at4, at5, ix51, ix52, ix54, upd_same, Nat.reduceAdd, Nat.reduceSub, Nat.zero_add, Int.reduceToNat, Int.reduceLE, Int.reduceLT, decide_eq_true_eq, Bool.not_eq_true, if_true, if_false, Bool.false_eq_true, ite_true, ite_false, Bool.not_true, Bool.not_false, decide_true, decide_false, tFor_eq, tLc_eq, iList, iTup, iRng1, iRng2, iStr, tSl, tPart, tNoPart, rSlL, cxOf_K, wipe, ex_ty2, kit_LTl, kit_LTt, kit_LTd, kit_LTs, kit_LTn, kit_LTb, kit_LTi, tM1, rIxS, exists_eq', lt1p, tDNewK, rSlS, rEqNil, nox_K, hb]
      refine ⟨by decide, ?_⟩
      intro p n_p; generalize g_H1 : upd H p _ = H1; obtain ⟨s_H1, h_p⟩ := new_facts n_p g_H1; clear g_H1
      have hb1 := s_H1 _ _ hb
      try simp only [tSeq, tNext, tRet, tRetN, tAsg, gName, gSub, tDrop, tIfS, tOp, tUn, tCB, tCons, tNil, tC, tVar, rI, rI0, rU, tAnd, tOr, tNot, tAndV, tOrV, tNotV, tIf, tTest, tB, tCall, tChain, tLst, tTup, tYes, rIxH, rIsB, rIsBT, rMulS, kd_non, kd_bl, kd_int, kd_str, kd_ref, kdO_lst, kdO_tup, kdO_dK, nq_n, nq_b, nq_i, nq_s, nq_l, nq_t, nq_d, ne_eq, not_false_eq_true, kit_ss, kit_ns, kit_bs, kit_is, kit_ls, kit_ts, kit_ds, kit_bb, V.ty.injEq, and_assoc, rIxU, rLenH, rLenU, rLenS, rInt1, rSetL, rEq, rNe, rCat, L2.start, List.map, List.length, List.length_cons, List.length_nil, List.replicate, List.getElem?_cons_zero, List.getElem?_cons_succ, List.set_cons_zero, List.set_cons_succ, List.set_nil, List.cons_append, List.nil_append, List.append_nil, Option.some.injEq, V.int.injEq, V.ref.injEq, V.str.injEq, V.bl.injEq, HO.lst.injEq, HO.tup.injEq, exists_eq_left', exists_and_left, exists_eq_left, List.cons.injEq, and_true, true_and, and_false, false_and, and_self, reduceCtorEq, exists_false, or_false, false_or, exists_const, at0, at1, at2, at3, at4, at5, ix51, ix52, ix54, upd_same, Nat.reduceAdd, Nat.reduceSub, Nat.zero_add, Int.reduceToNat, Int.reduceLE, Int.reduceLT, decide_eq_true_eq, Bool.not_eq_true, if_true, if_false, Bool.false_eq_true, ite_true, ite_false, Bool.not_true, Bool.not_false, decide_true, decide_false, tFor_eq, tLc_eq, iList, iTup, iRng1, iRng2, iStr, tSl, tPart, tNoPart, rSlL, cxOf_K, wipe, ex_ty2, kit_LTl, kit_LTt, kit_LTd, kit_LTs, kit_LTn, kit_LTb, kit_LTi, tM1, rIxS, exists_eq', lt1p, tDNewK, rSlS, rEqNil, nox_K, hb1, List.length_map]
      rw [if_neg (by omega)]
      rw [eN]
      clear eN N
      refine seq_gen fun N eN => ?_
      try simp only [tSeq, tNext, tRet, tRetN, tAsg, gName, gSub, tDrop, tIfS, tOp, tUn, tCB, tCons, tNil, tC, tVar, rI, rI0, rU, tAnd, tOr, tNot, tAndV, tOrV, tNotV, tIf, tTest, tB, tCall, tChain, tLst, tTup, tYes, rIxH, rIsB, rIsBT, rMulS, kd_non, kd_bl, kd_int, kd_str, kd_ref, kdO_lst, kdO_tup, kdO_dK, nq_n, nq_b, nq_i, nq_s, nq_l, nq_t, nq_d, ne_eq, not_false_eq_true, kit_ss, kit_ns, kit_bs, kit_is, kit_ls, kit_ts, kit_ds, kit_bb, V.ty.injEq, and_assoc, rIxU, rLenH, rLenU, rLenS, rInt1, rSetL, rEq, rNe, rCat, L2.start, List.map, List.length, List.length_cons, List.length_nil, List.replicate, List.getElem?_cons_zero, List.getElem?_cons_succ, List.set_cons_zero, List.set_cons_succ, List.set_nil, List.cons_append, List.nil_append, List.append_nil, Option.some.injEq, V.int.injEq, V.ref.injEq, V.str.injEq, V.bl.injEq, HO.lst.injEq, HO.tup.injEq, exists_eq_left', exists_and_left, exists_eq_left, List.cons.injEq, and_true, true_and, and_false, false_and, and_self, reduceCtorEq, exists_false, or_false, false_or, exists_const, at0, at1, at2, at3, at4, at5, ix51, ix52, ix54, upd_same, Nat.reduceAdd, Nat.reduceSub, Nat.zero_add, Int.reduceToNat, Int.reduceLE, Int.reduceLT, decide_eq_true_eq, Bool.not_eq_true, if_true, if_false, Bool.false_eq_true, ite_true, ite_false, Bool.not_true, Bool.not_false, decide_true, decide_false, tFor_eq, tLc_eq, iList, iTup, iRng1, iRng2, iStr, tSl, tPart, tNoPart, rSlL, cxOf_K, wipe, ex_ty2, kit_LTl, kit_LTt, kit_LTd, kit_LTs, kit_LTn, kit_LTb, kit_LTi, tM1, rIxS, exists_eq', lt1p, tDNewK, rSlS, rEqNil, nox_K, iEnumT, hb1]
      refine ⟨_, SqT.of hb1, for_it (walk_enumT (K := K) (a := b) (xs := vas.map V.ref)) (LHi x b H1) ⟨_, _, rfl, Same.refl _⟩ (fun i σ H2 _ q => ?_) (fun i v σ H2 H3 hi q y => ?_) (fun σ H2 q => ?_)⟩
      · obtain ⟨_, _, _, s2⟩ := q
        exact SqT.of (s2 _ _ hb1)
      · obtain ⟨v2, v3, rfl, s2⟩ := q
        obtain ⟨t, x1, y1, rfl, nt, rfl, e1, e2⟩ := y
        cases e1
        have hi' : i < vas.length := by simpa using hi
        have e2 : (List.map V.ref vas)[i]? = some y1 := e2
        rw [List.getElem?_map, List.getElem?_eq_getElem hi'] at e2
        cases e2
        refine ⟨t, _, rfl, SqT.of upd_same, rfl, _, _, rfl, _, _, rfl, rfl, ?_⟩
        have s23 := s2.trans (same_new (o := HO.tup [V.int (i : Int), V.ref vas[i]]) nt)
        try simp only [tSeq, tNext, tRet, tRetN, tAsg, gName, gSub, tDrop, tIfS, tOp, tUn, tCB, tCons, tNil, tC, tVar, rI, rI0, rU, tAnd, tOr, tNot, tAndV, tOrV, tNotV, tIf, tTest, tB, tCall, tChain, tLst, tTup, tYes, rIxH, rIsB, rIsBT, rMulS, kd_non, kd_bl, kd_int, kd_str, kd_ref, kdO_lst, kdO_tup, kdO_dK, nq_n, nq_b, nq_i, nq_s, nq_l, nq_t, nq_d, ne_eq, not_false_eq_true, kit_ss, kit_ns, kit_bs, kit_is, kit_ls, kit_ts, kit_ds, kit_bb, V.ty.injEq, and_assoc, rIxU, rLenH, rLenU, rLenS, rInt1, rSetL, rEq, rNe, rCat, L2.start, List.map, List.length, List.length_cons, List.length_nil, List.replicate, List.getElem?_cons_zero, List.getElem?_cons_succ, List.set_cons_zero, List.set_cons_succ, List.set_nil, List.cons_append, List.nil_append, List.append_nil, Option.some.injEq, V.int.injEq, V.ref.injEq, V.str.injEq, V.bl.injEq, HO.lst.injEq, HO.tup.injEq, exists_eq_left', exists_and_left, exists_eq_left, List.cons.injEq, and_true, true_and, and_false, false_and, and_self, reduceCtorEq, exists_false, or_false, false_or, exists_const, at0, at1, at2, at3, at4, at5, ix51, ix52, ix54, upd_same, Nat.reduceAdd, Nat.reduceSub, Nat.zero_add, Int.reduceToNat, Int.reduceLE, Int.reduceLT, decide_eq_true_eq, Bool.not_eq_true, if_true, if_false, Bool.false_eq_true, ite_true, ite_false, Bool.not_true, Bool.not_false, decide_true, decide_false, tFor_eq, tLc_eq, iList, iTup, iRng1, iRng2, iStr, tSl, tPart, tNoPart, rSlL, cxOf_K, wipe, ex_ty2, kit_LTl, kit_LTt, kit_LTd, kit_LTs, kit_LTn, kit_LTb, kit_LTi, tM1, rIxS, exists_eq', lt1p, tDNewK, rSlS, rEqNil, nox_K]
        refine turn i vas[i] (List.getElem?_eq_getElem hi') _ (s_H1.trans s23) _ fun H4 s4 => ?_
        try simp only [tSeq, tNext, tRet, tRetN, tAsg, gName, gSub, tDrop, tIfS, tOp, tUn, tCB, tCons, tNil, tC, tVar, rI, rI0, rU, tAnd, tOr, tNot, tAndV, tOrV, tNotV, tIf, tTest, tB, tCall, tChain, tLst, tTup, tYes, rIxH, rIsB, rIsBT, rMulS, kd_non, kd_bl, kd_int, kd_str, kd_ref, kdO_lst, kdO_tup, kdO_dK, nq_n, nq_b, nq_i, nq_s, nq_l, nq_t, nq_d, ne_eq, not_false_eq_true, kit_ss, kit_ns, kit_bs, kit_is, kit_ls, kit_ts, kit_ds, kit_bb, V.ty.injEq, and_assoc, rIxU, rLenH, rLenU, rLenS, rInt1, rSetL, rEq, rNe, rCat, L2.start, List.map, List.length, List.length_cons, List.length_nil, List.replicate, List.getElem?_cons_zero, List.getElem?_cons_succ, List.set_cons_zero, List.set_cons_succ, List.set_nil, List.cons_append, List.nil_append, List.append_nil, Option.some.injEq, V.int.injEq, V.ref.injEq, V.str.injEq, V.bl.injEq, HO.lst.injEq, HO.tup.injEq, exists_eq_left', exists_and_left, exists_eq_left, List.cons.injEq, and_true, true_and, and_false, false_and, and_self, reduceCtorEq, exists_false, or_false, false_or, exists_const, at0, at1, at2, at3, at4, at5, ix51, ix52, ix54, upd_same, Nat.reduceAdd, Nat.reduceSub, Nat.zero_add, Int.reduceToNat, Int.reduceLE, Int.reduceLT, decide_eq_true_eq, Bool.not_eq_true, if_true, if_false, Bool.false_eq_true, ite_true, ite_false, Bool.not_true, Bool.not_false, decide_true, decide_false, tFor_eq, tLc_eq, iList, iTup, iRng1, iRng2, iStr, tSl, tPart, tNoPart, rSlL, cxOf_K, wipe, ex_ty2, kit_LTl, kit_LTt, kit_LTd, kit_LTs, kit_LTn, kit_LTb, kit_LTi, tM1, rIxS, exists_eq', lt1p, tDNewK, rSlS, rEqNil, nox_K]
        exact ⟨_, _, rfl, s23.trans s4⟩
      · obtain ⟨v2, v3, rfl, s2⟩ := q
        have s02 := s_H1.trans s2
        have hx2 := s02 _ _ hx
        dsimp only
        rw [eN]
        clear eN N
        try simp only [tSeq, tNext, tRet, tRetN, tAsg, gName, gSub, tDrop, tIfS, tOp, tUn, tCB, tCons, tNil, tC, tVar, rI, rI0, rU, tAnd, tOr, tNot, tAndV, tOrV, tNotV, tIf, tTest, tB, tCall, tChain, tLst, tTup, tYes, rIxH, rIsB, rIsBT, rMulS, kd_non, kd_bl, kd_int, kd_str, kd_ref, kdO_lst, kdO_tup, kdO_dK, nq_n, nq_b, nq_i, nq_s, nq_l, nq_t, nq_d, ne_eq, not_false_eq_true, kit_ss, kit_ns, kit_bs, kit_is, kit_ls, kit_ts, kit_ds, kit_bb, V.ty.injEq, and_assoc, rIxU, rLenH, rLenU, rLenS, rInt1, rSetL, rEq, rNe, rCat, L2.start, List.map, List.length, List.length_cons, List.length_nil, List.replicate, List.getElem?_cons_zero, List.getElem?_cons_succ, List.set_cons_zero, List.set_cons_succ, List.set_nil, List.cons_append, List.nil_append, List.append_nil, Option.some.injEq, V.int.injEq, V.ref.injEq, V.str.injEq, V.bl.injEq, HO.lst.injEq, HO.tup.injEq, exists_eq_left', exists_and_left, exists_eq_left, List.cons.injEq, and_true, true_and, and_false, false_and, and_self, reduceCtorEq, exists_false, or_false, false_or, exists_const, at0, at1, at2, at3, at4, at5, ix51, ix52, ix54, upd_same, Nat.reduceAdd, Nat.reduceSub, Nat.zero_add, Int.reduceToNat, Int.reduceLE, Int.reduceLT, decide_eq_true_eq, Bool.not_eq_true, if_true, if_false, Bool.false_eq_true, ite_true, ite_false, Bool.not_true, Bool.not_false, decide_true, decide_false, tFor_eq, tLc_eq, iList, iTup, iRng1, iRng2, iStr, tSl, tPart, tNoPart, rSlL, cxOf_K, wipe, ex_ty2, kit_LTl, kit_LTt, kit_LTd, kit_LTs, kit_LTn, kit_LTb, kit_LTi, tM1, rIxS, exists_eq', lt1p, tDNewK, rSlS, rEqNil, nox_K, sFld]
        refine ⟨vas.map V.ref, .inr (SqT.of (s2 _ _ hb1)), fun q hq => ?_⟩
        have nx : x ≠ q := ne_of_none hx2 hq
        refine ⟨A.k_History, dx, [], by rw [upd_ne nx]; exact hx2, T.t_History.cl, T.n_History_kept_versions, by decide, ?_⟩
        refine k _ q (s02.free hq) (fun c o hc e => ?_) (by rw [upd_same]; rfl) (by rw [upd_ne nx.symm, upd_same])
        rw [upd_ne hc]
        exact same_new hq _ _ (s02 _ _ e)
    · refine ⟨_, (pss_cons (ps_if (PW.pt (pw_or (pt_not (pt_val (pe_callB call_isKT (by rfl) T.z_isinstance (by decide +kernel) (pa_cons (pv 1) (pa_cons (pe_tup (pa_cons (pe_bltn (v := .ty "list") (by rfl) T.z_list (by decide +kernel) rfl) (pa_cons (pe_bltn (v := .ty "tuple") (by rfl) T.z_tuple (by decide +kernel) rfl) pa_nil))) pa_nil))))) (pw_or1 (pt_cmpR (op_gt) (pe_callB call_len_seq (by rfl) T.z_len (by decide +kernel) (pa_cons (pv 1) pa_nil)) (pe_glob (v := .int 10) (by rfl) T.c_MOST_VERSIONS.choose_spec ⟨_, rfl⟩) (nomark _))))) (pss_one ps_never) pss_nil)
      (pss_cons (ps_for PassesOwn.never rfl (pi_enumT (by rfl) T.z_enumerate (pa_cons (pv 1) pa_nil)) (pg_tup rfl (pgs_cons (pg_name (i := 2) scHistoryInit.nd rfl (Or.inl rfl)) (pgs_cons (pg_name (i := 3) scHistoryInit.nd rfl (Or.inl rfl)) pgs_nil))) (pss_one (ps_if (pt_not (pt_val (pe_call gCanStand (hr.mono (by decide)) (by rfl) T.m_CanStand T.f_CanStand.kp T.b_CanStand .nil pass0 (pa_cons (pv 3) (pa_cons (pv 2) pa_nil))))) (pss_one ps_never) pss_nil)))
      (pss_one (ps_fld (pv 0) (pe_callTy call_list_of (by rfl) T.z_list (by decide +kernel) (pa_cons (pv 1) pa_nil)) rfl)))), ?_⟩
      refine seq_gen fun N eN => ?_
      try simp only [tSeq, tNext, tRet, tRetN, tAsg, gName, gSub, tDrop, tIfS, tOp, tUn, tCB, tCons, tNil, tC, tVar, rI, rI0, rU, tAnd, tOr, tNot, tAndV, tOrV, tNotV, tIf, tTest, tB, tCall, tChain, tLst, tTup, tYes, rIxH, rIsB, rIsBT, rMulS, kd_non, kd_bl, kd_int, kd_str, kd_ref, kdO_lst, kdO_tup, kdO_dK, nq_n, nq_b, nq_i, nq_s, nq_l, nq_t, nq_d, ne_eq, not_false_eq_true, kit_ss, kit_ns, kit_bs, kit_is, kit_ls, kit_ts, kit_ds, kit_bb, V.ty.injEq, and_assoc, rIxU, rLenH, rLenU, rLenS, rInt1, rSetL, rEq, rNe, rCat, L2.start, List.map, List.length, List.length_cons, List.length_nil, List.replicate, List.getElem?_cons_zero, List.getElem?_cons_succ, List.set_cons_zero, List.set_cons_succ, List.set_nil, List.cons_append, List.nil_append, List.append_nil, Option.some.injEq, V.int.injEq, V.ref.injEq, V.str.injEq, V.bl.injEq, HO.lst.injEq, HO.tup.injEq, exists_eq_left', exists_and_left, exists_eq_left, List.cons.injEq, and_true, true_and, and_false, false_and, and_self, reduceCtorEq, exists_false, or_false, false_or, exists_const, at0, at1, at2, at3, at4, at5, ix51, ix52, ix54, upd_same, Nat.reduceAdd, Nat.reduceSub, Nat.zero_add, Int.reduceToNat, Int.reduceLE, Int.reduceLT, decide_eq_true_eq, Bool.not_eq_true, if_true, if_false, Bool.false_eq_true, ite_true, ite_false, Bool.not_true, Bool.not_false, decide_true, decide_false, tFor_eq, tLc_eq, iList, iTup, iRng1, iRng2, iStr, tSl, tPart, tNoPart, rSlL, cxOf_K, wipe, ex_ty2, kit_LTl, kit_LTt, kit_LTd, kit_LTs, kit_LTn, kit_LTb, kit_LTi, tM1, rIxS, exists_eq', lt1p, tDNewK, rSlS, rEqNil, nox_K, rIsKT]
      refine ⟨by decide, ?_⟩
      intro p n_p; generalize g_H1 : upd H p _ = H1; obtain ⟨s_H1, h_p⟩ := new_facts n_p g_H1; clear g_H1
      obtain ⟨sq, o, ho1, ho2⟩ := kt
      try simp only [tSeq, tNext, tRet, tRetN, tAsg, gName, gSub, tDrop, tIfS, tOp, tUn, tCB, tCons, tNil, tC, tVar, rI, rI0, rU, tAnd, tOr, tNot, tAndV, tOrV, tNotV, tIf, tTest, tB, tCall, tChain, tLst, tTup, tYes, rIxH, rIsB, rIsBT, rMulS, kd_non, kd_bl, kd_int, kd_str, kd_ref, kdO_lst, kdO_tup, kdO_dK, nq_n, nq_b, nq_i, nq_s, nq_l, nq_t, nq_d, ne_eq, not_false_eq_true, kit_ss, kit_ns, kit_bs, kit_is, kit_ls, kit_ts, kit_ds, kit_bb, V.ty.injEq, and_assoc, rIxU, rLenH, rLenU, rLenS, rInt1, rSetL, rEq, rNe, rCat, L2.start, List.map, List.length, List.length_cons, List.length_nil, List.replicate, List.getElem?_cons_zero, List.getElem?_cons_succ, List.set_cons_zero, List.set_cons_succ, List.set_nil, List.cons_append, List.nil_append, List.append_nil, Option.some.injEq, V.int.injEq, V.ref.injEq, V.str.injEq, V.bl.injEq, HO.lst.injEq, HO.tup.injEq, exists_eq_left', exists_and_left, exists_eq_left, List.cons.injEq, and_true, true_and, and_false, false_and, and_self, reduceCtorEq, exists_false, or_false, false_or, exists_const, at0, at1, at2, at3, at4, at5, ix51, ix52, ix54, upd_same, Nat.reduceAdd, Nat.reduceSub, Nat.zero_add, Int.reduceToNat, Int.reduceLE, Int.reduceLT, decide_eq_true_eq, Bool.not_eq_true, if_true, if_false, Bool.false_eq_true, ite_true, ite_false, Bool.not_true, Bool.not_false, decide_true, decide_false, tFor_eq, tLc_eq, iList, iTup, iRng1, iRng2, iStr, tSl, tPart, tNoPart, rSlL, cxOf_K, wipe, ex_ty2, kit_LTl, kit_LTt, kit_LTd, kit_LTs, kit_LTn, kit_LTb, kit_LTi, tM1, rIxS, exists_eq', lt1p, tDNewK, rSlS, rEqNil, h_p]
      refine ⟨true, o, ho1, ho2, rfl, ?_⟩
      rw [if_neg (by decide)]
      refine ⟨[], .inr (sq _), ?_⟩
      rw [if_neg (by decide)]
      rw [eN]
      clear eN N
      refine seq_gen fun N eN => ?_
      try simp only [tSeq, tNext, tRet, tRetN, tAsg, gName, gSub, tDrop, tIfS, tOp, tUn, tCB, tCons, tNil, tC, tVar, rI, rI0, rU, tAnd, tOr, tNot, tAndV, tOrV, tNotV, tIf, tTest, tB, tCall, tChain, tLst, tTup, tYes, rIxH, rIsB, rIsBT, rMulS, kd_non, kd_bl, kd_int, kd_str, kd_ref, kdO_lst, kdO_tup, kdO_dK, nq_n, nq_b, nq_i, nq_s, nq_l, nq_t, nq_d, ne_eq, not_false_eq_true, kit_ss, kit_ns, kit_bs, kit_is, kit_ls, kit_ts, kit_ds, kit_bb, V.ty.injEq, and_assoc, rIxU, rLenH, rLenU, rLenS, rInt1, rSetL, rEq, rNe, rCat, L2.start, List.map, List.length, List.length_cons, List.length_nil, List.replicate, List.getElem?_cons_zero, List.getElem?_cons_succ, List.set_cons_zero, List.set_cons_succ, List.set_nil, List.cons_append, List.nil_append, List.append_nil, Option.some.injEq, V.int.injEq, V.ref.injEq, V.str.injEq, V.bl.injEq, HO.lst.injEq, HO.tup.injEq, exists_eq_left', exists_and_left, exists_eq_left, List.cons.injEq, and_true, true_and, and_false, false_and, and_self, reduceCtorEq, exists_false, or_false, false_or, exists_const, at0, at1, at2, at3, at4, at5, ix51, ix52, ix54, upd_same, Nat.reduceAdd, Nat.reduceSub, Nat.zero_add, Int.reduceToNat, Int.reduceLE, Int.reduceLT, decide_eq_true_eq, Bool.not_eq_true, if_true, if_false, Bool.false_eq_true, ite_true, ite_false, Bool.not_true, Bool.not_false, decide_true, decide_false, tFor_eq, tLc_eq, iList, iTup, iRng1, iRng2, iStr, tSl, tPart, tNoPart, rSlL, cxOf_K, wipe, ex_ty2, kit_LTl, kit_LTt, kit_LTd, kit_LTs, kit_LTn, kit_LTb, kit_LTi, tM1, rIxS, exists_eq', lt1p, tDNewK, rSlS, rEqNil, nox_K, iEnumT]
      refine ⟨_, sq _, for_it (walk_enumT (K := K) (a := b) (xs := List.map V.ref [])) (LHi x b H1) ⟨_, _, rfl, Same.refl _⟩ (fun i σ H2 _ q => ?_) (fun i v σ H2 H3 hi q y => ?_) (fun σ H2 q => ?_)⟩
      · obtain ⟨_, _, _, s2⟩ := q
        exact sq _
      · obtain ⟨v2, v3, rfl, s2⟩ := q
        obtain ⟨t, x1, y1, rfl, nt, rfl, e1, e2⟩ := y
        cases e1
        exact absurd hi (by simp)
      · obtain ⟨v2, v3, rfl, s2⟩ := q
        have s02 := s_H1.trans s2
        have hx2 := s02 _ _ hx
        dsimp only
        rw [eN]
        clear eN N
        try simp only [tSeq, tNext, tRet, tRetN, tAsg, gName, gSub, tDrop, tIfS, tOp, tUn, tCB, tCons, tNil, tC, tVar, rI, rI0, rU, tAnd, tOr, tNot, tAndV, tOrV, tNotV, tIf, tTest, tB, tCall, tChain, tLst, tTup, tYes, rIxH, rIsB, rIsBT, rMulS, kd_non, kd_bl, kd_int, kd_str, kd_ref, kdO_lst, kdO_tup, kdO_dK, nq_n, nq_b, nq_i, nq_s, nq_l, nq_t, nq_d, ne_eq, not_false_eq_true, kit_ss, kit_ns, kit_bs, kit_is, kit_ls, kit_ts, kit_ds, kit_bb, V.ty.injEq, and_assoc, rIxU, rLenH, rLenU, rLenS, rInt1, rSetL, rEq, rNe, rCat, L2.start, List.map, List.length, List.length_cons, List.length_nil, List.replicate, List.getElem?_cons_zero, List.getElem?_cons_succ, List.set_cons_zero, List.set_cons_succ, List.set_nil, List.cons_append, List.nil_append, List.append_nil, Option.some.injEq, V.int.injEq, V.ref.injEq, V.str.injEq, V.bl.injEq, HO.lst.injEq, HO.tup.injEq, exists_eq_left', exists_and_left, exists_eq_left, List.cons.injEq, and_true, true_and, and_false, false_and, and_self, reduceCtorEq, exists_false, or_false, false_or, exists_const, at0, at1, at2, at3, at4, at5, ix51, ix52, ix54, upd_same, Nat.reduceAdd, Nat.reduceSub, Nat.zero_add, Int.reduceToNat, Int.reduceLE, Int.reduceLT, decide_eq_true_eq, Bool.not_eq_true, if_true, if_false, Bool.false_eq_true, ite_true, ite_false, Bool.not_true, Bool.not_false, decide_true, decide_false, tFor_eq, tLc_eq, iList, iTup, iRng1, iRng2, iStr, tSl, tPart, tNoPart, rSlL, cxOf_K, wipe, ex_ty2, kit_LTl, kit_LTt, kit_LTd, kit_LTs, kit_LTn, kit_LTb, kit_LTi, tM1, rIxS, exists_eq', lt1p, tDNewK, rSlS, rEqNil, nox_K, sFld]
        refine ⟨[], .inr (sq _), fun q hq => ?_⟩
        have nx : x ≠ q := ne_of_none hx2 hq
        refine ⟨A.k_History, dx, [], by rw [upd_ne nx]; exact hx2, T.t_History.cl, T.n_History_kept_versions, by decide, ?_⟩
        refine k _ q (s02.free hq) (fun c o hc e => ?_) (by rw [upd_same]; rfl) (by rw [upd_ne nx.symm, upd_same]; rfl)
        rw [upd_ne hc]
        exact same_new hq _ _ (s02 _ _ e)
end



/-! ### len, in, ==, check, version -/
def spHLen (CH : Addr) : Sp := fun vs H Q _ => ∃ h dx k xs, vs = [.ref h] ∧ H h = some (.ins CH dx (hF k)) ∧ H k = some (.lst xs) ∧ Q (.int (xs.length : Int)) H
def inHist (n : Nat) : V → Bool
  | .int i => decide (0 ≤ i) && decide (i < (n : Int))
  | _ => false
def spHIn (CH : Addr) : Sp := fun vs H Q _ => ∃ h dx k xs v, vs = [.ref h, v] ∧ H h = some (.ins CH dx (hF k)) ∧ H k = some (.lst xs) ∧ Thg H v ∧ Q (.bl (inHist xs.length v)) H
def spHCheck (CH N : Addr) : Sp := fun vs H Q E => ∃ h dx k xs v, vs = [.ref h, v] ∧ H h = some (.ins CH dx (hF k)) ∧ H k = some (.lst xs) ∧ Thg H v ∧
  ((inHist xs.length v = true ∧ Q .non H) ∨ (inHist xs.length v = false ∧ ∀ H' d, Same H H' → H' d = some (.xd [("value", v)]) → E (.ref N) (some d) H'))
section
variable {w : World} {K : PySem.W.Frag} {mg : Str → Option Value} {base : Heap} {A : Adr}
theorem ok_hlen (T : Txt K mg A) : FnOk PW w K mg base CX0 1 A.a_HistoryLen A.d_HistoryLen ["self"] (spHLen A.k_History) := by
  refine T.f_HistoryLen.ok scHistoryLen (fun vs H Q E h => ?_) (fun cdv A' outer s H vs Q E hr h => ?_)
  · obtain ⟨h, dx, k, xs, rfl, _⟩ := h
    rfl
  · obtain ⟨h, dx, k, xs, rfl, ha, hl, q⟩ := h
    refine ⟨_, (pss_one (ps_ret (pe_callB call_lenH (by rfl) T.z_len (by decide +kernel) (pa_cons (pe_fld (pv 0) rfl) pa_nil)))), ?_⟩
    try simp only [tSeq, tNext, tRet, tRetN, tAsg, gName, gSub, tDrop, tIfS, tOp, tUn, tCB, tCons, tNil, tC, tVar, rI, rI0, rU, tAnd, tOr, tNot, tAndV, tOrV, tNotV, tIf, tTest, tB, tCall, tChain, tLst, tTup, tYes, rIxH, rIsB, rIsBT, rMulS, kd_non, kd_bl, kd_int, kd_str, kd_ref, kdO_lst, kdO_tup, kdO_dK, nq_n, nq_b, nq_i, nq_s, nq_l, nq_t, nq_d, ne_eq, not_false_eq_true, kit_ss, kit_ns, kit_bs, kit_is, kit_ls, kit_ts, kit_ds, kit_bb, V.ty.injEq, and_assoc, rIxU, rLenH, rLenU, rLenS, rInt1, rSetL, rEq, rNe, rCat, L2.start, List.map, List.length, List.length_cons, List.length_nil, List.replicate, List.getElem?_cons_zero, List.getElem?_cons_succ, List.set_cons_zero, List.set_cons_succ, List.set_nil, List.cons_append, List.nil_append, List.append_nil, Option.some.injEq, V.int.injEq, V.ref.injEq, V.str.injEq, V.bl.injEq, HO.lst.injEq, HO.tup.injEq, exists_eq_left', exists_and_left, exists_eq_left, List.cons.injEq, and_true, true_and, and_false, false_and, and_self, reduceCtorEq, exists_false, or_false, false_or, exists_const, at0, at1, at2, at3, at4, at5, ix51, ix52, ix54, upd_same, Nat.reduceAdd, Nat.reduceSub, Nat.zero_add, Int.reduceToNat, Int.reduceLE, Int.reduceLT, decide_eq_true_eq, Bool.not_eq_true, if_true, if_false, Bool.false_eq_true, ite_true, ite_false, Bool.not_true, Bool.not_false, decide_true, decide_false, tFor_eq, tLc_eq, iList, iTup, iRng1, iRng2, iStr, tSl, tPart, tNoPart, rSlL, cxOf_K, wipe, ex_ty2, kit_LTl, kit_LTt, kit_LTd, kit_LTs, kit_LTn, kit_LTb, kit_LTi, tM1, rIxS, exists_eq', lt1p, tDNewK, rSlS, rEqNil, nox_K, tFld, ha, hl, HO.ins.injEq, T.t_History.cl, T.n_History_kept_versions, hf_k]
    exact q
theorem ok_hin (T : Txt K mg A) (gIsInteger : FnOk PW w K mg base CX0 1 A.a_IsInteger A.d_IsInteger ["value"] spIsIntT) : FnOk PW w K mg base CX0 2 A.a_HistoryContains A.d_HistoryContains ["self", "number"] (spHIn A.k_History) := by
  refine T.f_HistoryContains.ok scHistoryContains (fun vs H Q E h => ?_) (fun cdv A' outer s H vs Q E hr h => ?_)
  · obtain ⟨h, dx, k, xs, v, rfl, _⟩ := h
    rfl
  · obtain ⟨h, dx, k, xs, v, rfl, ha, hl, tv, q⟩ := h
    refine ⟨_, (pss_one (ps_ret (pe_and (pe_call gIsInteger (hr.mono (by decide)) (by rfl) T.m_IsInteger T.f_IsInteger.kp T.b_IsInteger .nil pass0 (pa_cons (pv 1) pa_nil)) (pe_one (pe_chain (op_le) (op_lt) pe_int (pv 1) (pe_callB call_lenH (by rfl) T.z_len (by decide +kernel) (pa_cons (pe_fld (pv 0) rfl) pa_nil))))))), ?_⟩
    try simp only [tSeq, tNext, tRet, tRetN, tAsg, gName, gSub, tDrop, tIfS, tOp, tUn, tCB, tCons, tNil, tC, tVar, rI, rI0, rU, tAnd, tOr, tNot, tAndV, tOrV, tNotV, tIf, tTest, tB, tCall, tChain, tLst, tTup, tYes, rIxH, rIsB, rIsBT, rMulS, kd_non, kd_bl, kd_int, kd_str, kd_ref, kdO_lst, kdO_tup, kdO_dK, nq_n, nq_b, nq_i, nq_s, nq_l, nq_t, nq_d, ne_eq, not_false_eq_true, kit_ss, kit_ns, kit_bs, kit_is, kit_ls, kit_ts, kit_ds, kit_bb, V.ty.injEq, and_assoc, rIxU, rLenH, rLenU, rLenS, rInt1, rSetL, rEq, rNe, rCat, L2.start, List.map, List.length, List.length_cons, List.length_nil, List.replicate, List.getElem?_cons_zero, List.getElem?_cons_succ, List.set_cons_zero, List.set_cons_succ, List.set_nil, List.cons_append, List.nil_append, List.append_nil, Option.some.injEq, V.int.injEq, V.ref.injEq, V.str.injEq, V.bl.injEq, HO.lst.injEq, HO.tup.injEq, exists_eq_left', exists_and_left, exists_eq_left, List.cons.injEq, and_true, true_and, and_false, false_and, and_self, reduceCtorEq, exists_false, or_false, false_or, exists_const, at0, at1, at2, at3, at4, at5, ix51, ix52, ix54, upd_same, Nat.reduceAdd, Nat.reduceSub, Nat.zero_add, Int.reduceToNat, Int.reduceLE, Int.reduceLT, decide_eq_true_eq, Bool.not_eq_true, if_true, if_false, Bool.false_eq_true, ite_true, ite_false, Bool.not_true, Bool.not_false, decide_true, decide_false, tFor_eq, tLc_eq, iList, iTup, iRng1, iRng2, iStr, tSl, tPart, tNoPart, rSlL, cxOf_K, wipe, ex_ty2, kit_LTl, kit_LTt, kit_LTd, kit_LTs, kit_LTn, kit_LTb, kit_LTi, tM1, rIxS, exists_eq', lt1p, tDNewK, rSlS, rEqNil, nox_K]
    refine ⟨_, rfl, tv, ?_⟩
    cases tv with
    | int i =>
      try simp only [tSeq, tNext, tRet, tRetN, tAsg, gName, gSub, tDrop, tIfS, tOp, tUn, tCB, tCons, tNil, tC, tVar, rI, rI0, rU, tAnd, tOr, tNot, tAndV, tOrV, tNotV, tIf, tTest, tB, tCall, tChain, tLst, tTup, tYes, rIxH, rIsB, rIsBT, rMulS, kd_non, kd_bl, kd_int, kd_str, kd_ref, kdO_lst, kdO_tup, kdO_dK, nq_n, nq_b, nq_i, nq_s, nq_l, nq_t, nq_d, ne_eq, not_false_eq_true, kit_ss, kit_ns, kit_bs, kit_is, kit_ls, kit_ts, kit_ds, kit_bb, V.ty.injEq, and_assoc, rIxU, rLenH, rLenU, rLenS, rInt1, rSetL, rEq, rNe, rCat, L2.start, List.map, List.length, List.length_cons, List.length_nil, List.replicate, List.getElem?_cons_zero, List.getElem?_cons_succ, List.set_cons_zero, List.set_cons_succ, List.set_nil, List.cons_append, List.nil_append, List.append_nil, Option.some.injEq, V.int.injEq, V.ref.injEq, V.str.injEq, V.bl.injEq, HO.lst.injEq, HO.tup.injEq, exists_eq_left', exists_and_left, exists_eq_left, List.cons.injEq, and_true, true_and, and_false, false_and, and_self, reduceCtorEq, exists_false, or_false, false_or, exists_const, at0, at1, at2, at3, at4, at5, ix51, ix52, ix54, upd_same, Nat.reduceAdd, Nat.reduceSub, Nat.zero_add, Int.reduceToNat, Int.reduceLE, Int.reduceLT, decide_eq_true_eq, Bool.not_eq_true, if_true, if_false, Bool.false_eq_true, ite_true, ite_false, Bool.not_true, Bool.not_false, decide_true, decide_false, tFor_eq, tLc_eq, iList, iTup, iRng1, iRng2, iStr, tSl, tPart, tNoPart, rSlL, cxOf_K, wipe, ex_ty2, kit_LTl, kit_LTt, kit_LTd, kit_LTs, kit_LTn, kit_LTb, kit_LTi, tM1, rIxS, exists_eq', lt1p, tDNewK, rSlS, rEqNil, nox_K, isIntV, tFld, ha, hl, HO.ins.injEq, T.t_History.cl, T.n_History_kept_versions, hf_k]
      by_cases h0 : 0 ≤ i
      · rw [if_pos h0]
        have e : inHist xs.length (.int i) = decide (i < (xs.length : Int)) := by show (decide (0 ≤ i) && _) = _; rw [decide_eq_true h0, Bool.true_and]
        rw [e] at q
        exact q
      · rw [if_neg h0]
        have e : inHist xs.length (.int i) = false := by show (decide (0 ≤ i) && _) = _; rw [decide_eq_false h0, Bool.false_and]
        rw [e] at q
        exact q
    | str hz => try simp only [tSeq, tNext, tRet, tRetN, tAsg, gName, gSub, tDrop, tIfS, tOp, tUn, tCB, tCons, tNil, tC, tVar, rI, rI0, rU, tAnd, tOr, tNot, tAndV, tOrV, tNotV, tIf, tTest, tB, tCall, tChain, tLst, tTup, tYes, rIxH, rIsB, rIsBT, rMulS, kd_non, kd_bl, kd_int, kd_str, kd_ref, kdO_lst, kdO_tup, kdO_dK, nq_n, nq_b, nq_i, nq_s, nq_l, nq_t, nq_d, ne_eq, not_false_eq_true, kit_ss, kit_ns, kit_bs, kit_is, kit_ls, kit_ts, kit_ds, kit_bb, V.ty.injEq, and_assoc, rIxU, rLenH, rLenU, rLenS, rInt1, rSetL, rEq, rNe, rCat, L2.start, List.map, List.length, List.length_cons, List.length_nil, List.replicate, List.getElem?_cons_zero, List.getElem?_cons_succ, List.set_cons_zero, List.set_cons_succ, List.set_nil, List.cons_append, List.nil_append, List.append_nil, Option.some.injEq, V.int.injEq, V.ref.injEq, V.str.injEq, V.bl.injEq, HO.lst.injEq, HO.tup.injEq, exists_eq_left', exists_and_left, exists_eq_left, List.cons.injEq, and_true, true_and, and_false, false_and, and_self, reduceCtorEq, exists_false, or_false, false_or, exists_const, at0, at1, at2, at3, at4, at5, ix51, ix52, ix54, upd_same, Nat.reduceAdd, Nat.reduceSub, Nat.zero_add, Int.reduceToNat, Int.reduceLE, Int.reduceLT, decide_eq_true_eq, Bool.not_eq_true, if_true, if_false, Bool.false_eq_true, ite_true, ite_false, Bool.not_true, Bool.not_false, decide_true, decide_false, tFor_eq, tLc_eq, iList, iTup, iRng1, iRng2, iStr, tSl, tPart, tNoPart, rSlL, cxOf_K, wipe, ex_ty2, kit_LTl, kit_LTt, kit_LTd, kit_LTs, kit_LTn, kit_LTb, kit_LTi, tM1, rIxS, exists_eq', lt1p, tDNewK, rSlS, rEqNil, nox_K, isIntV]; exact q
    | lst e => try simp only [tSeq, tNext, tRet, tRetN, tAsg, gName, gSub, tDrop, tIfS, tOp, tUn, tCB, tCons, tNil, tC, tVar, rI, rI0, rU, tAnd, tOr, tNot, tAndV, tOrV, tNotV, tIf, tTest, tB, tCall, tChain, tLst, tTup, tYes, rIxH, rIsB, rIsBT, rMulS, kd_non, kd_bl, kd_int, kd_str, kd_ref, kdO_lst, kdO_tup, kdO_dK, nq_n, nq_b, nq_i, nq_s, nq_l, nq_t, nq_d, ne_eq, not_false_eq_true, kit_ss, kit_ns, kit_bs, kit_is, kit_ls, kit_ts, kit_ds, kit_bb, V.ty.injEq, and_assoc, rIxU, rLenH, rLenU, rLenS, rInt1, rSetL, rEq, rNe, rCat, L2.start, List.map, List.length, List.length_cons, List.length_nil, List.replicate, List.getElem?_cons_zero, List.getElem?_cons_succ, List.set_cons_zero, List.set_cons_succ, List.set_nil, List.cons_append, List.nil_append, List.append_nil, Option.some.injEq, V.int.injEq, V.ref.injEq, V.str.injEq, V.bl.injEq, HO.lst.injEq, HO.tup.injEq, exists_eq_left', exists_and_left, exists_eq_left, List.cons.injEq, and_true, true_and, and_false, false_and, and_self, reduceCtorEq, exists_false, or_false, false_or, exists_const, at0, at1, at2, at3, at4, at5, ix51, ix52, ix54, upd_same, Nat.reduceAdd, Nat.reduceSub, Nat.zero_add, Int.reduceToNat, Int.reduceLE, Int.reduceLT, decide_eq_true_eq, Bool.not_eq_true, if_true, if_false, Bool.false_eq_true, ite_true, ite_false, Bool.not_true, Bool.not_false, decide_true, decide_false, tFor_eq, tLc_eq, iList, iTup, iRng1, iRng2, iStr, tSl, tPart, tNoPart, rSlL, cxOf_K, wipe, ex_ty2, kit_LTl, kit_LTt, kit_LTd, kit_LTs, kit_LTn, kit_LTb, kit_LTi, tM1, rIxS, exists_eq', lt1p, tDNewK, rSlS, rEqNil, nox_K, isIntV]; exact q
    | tup e => try simp only [tSeq, tNext, tRet, tRetN, tAsg, gName, gSub, tDrop, tIfS, tOp, tUn, tCB, tCons, tNil, tC, tVar, rI, rI0, rU, tAnd, tOr, tNot, tAndV, tOrV, tNotV, tIf, tTest, tB, tCall, tChain, tLst, tTup, tYes, rIxH, rIsB, rIsBT, rMulS, kd_non, kd_bl, kd_int, kd_str, kd_ref, kdO_lst, kdO_tup, kdO_dK, nq_n, nq_b, nq_i, nq_s, nq_l, nq_t, nq_d, ne_eq, not_false_eq_true, kit_ss, kit_ns, kit_bs, kit_is, kit_ls, kit_ts, kit_ds, kit_bb, V.ty.injEq, and_assoc, rIxU, rLenH, rLenU, rLenS, rInt1, rSetL, rEq, rNe, rCat, L2.start, List.map, List.length, List.length_cons, List.length_nil, List.replicate, List.getElem?_cons_zero, List.getElem?_cons_succ, List.set_cons_zero, List.set_cons_succ, List.set_nil, List.cons_append, List.nil_append, List.append_nil, Option.some.injEq, V.int.injEq, V.ref.injEq, V.str.injEq, V.bl.injEq, HO.lst.injEq, HO.tup.injEq, exists_eq_left', exists_and_left, exists_eq_left, List.cons.injEq, and_true, true_and, and_false, false_and, and_self, reduceCtorEq, exists_false, or_false, false_or, exists_const, at0, at1, at2, at3, at4, at5, ix51, ix52, ix54, upd_same, Nat.reduceAdd, Nat.reduceSub, Nat.zero_add, Int.reduceToNat, Int.reduceLE, Int.reduceLT, decide_eq_true_eq, Bool.not_eq_true, if_true, if_false, Bool.false_eq_true, ite_true, ite_false, Bool.not_true, Bool.not_false, decide_true, decide_false, tFor_eq, tLc_eq, iList, iTup, iRng1, iRng2, iStr, tSl, tPart, tNoPart, rSlL, cxOf_K, wipe, ex_ty2, kit_LTl, kit_LTt, kit_LTd, kit_LTs, kit_LTn, kit_LTb, kit_LTi, tM1, rIxS, exists_eq', lt1p, tDNewK, rSlS, rEqNil, nox_K, isIntV]; exact q
    | dic e => try simp only [tSeq, tNext, tRet, tRetN, tAsg, gName, gSub, tDrop, tIfS, tOp, tUn, tCB, tCons, tNil, tC, tVar, rI, rI0, rU, tAnd, tOr, tNot, tAndV, tOrV, tNotV, tIf, tTest, tB, tCall, tChain, tLst, tTup, tYes, rIxH, rIsB, rIsBT, rMulS, kd_non, kd_bl, kd_int, kd_str, kd_ref, kdO_lst, kdO_tup, kdO_dK, nq_n, nq_b, nq_i, nq_s, nq_l, nq_t, nq_d, ne_eq, not_false_eq_true, kit_ss, kit_ns, kit_bs, kit_is, kit_ls, kit_ts, kit_ds, kit_bb, V.ty.injEq, and_assoc, rIxU, rLenH, rLenU, rLenS, rInt1, rSetL, rEq, rNe, rCat, L2.start, List.map, List.length, List.length_cons, List.length_nil, List.replicate, List.getElem?_cons_zero, List.getElem?_cons_succ, List.set_cons_zero, List.set_cons_succ, List.set_nil, List.cons_append, List.nil_append, List.append_nil, Option.some.injEq, V.int.injEq, V.ref.injEq, V.str.injEq, V.bl.injEq, HO.lst.injEq, HO.tup.injEq, exists_eq_left', exists_and_left, exists_eq_left, List.cons.injEq, and_true, true_and, and_false, false_and, and_self, reduceCtorEq, exists_false, or_false, false_or, exists_const, at0, at1, at2, at3, at4, at5, ix51, ix52, ix54, upd_same, Nat.reduceAdd, Nat.reduceSub, Nat.zero_add, Int.reduceToNat, Int.reduceLE, Int.reduceLT, decide_eq_true_eq, Bool.not_eq_true, if_true, if_false, Bool.false_eq_true, ite_true, ite_false, Bool.not_true, Bool.not_false, decide_true, decide_false, tFor_eq, tLc_eq, iList, iTup, iRng1, iRng2, iStr, tSl, tPart, tNoPart, rSlL, cxOf_K, wipe, ex_ty2, kit_LTl, kit_LTt, kit_LTd, kit_LTs, kit_LTn, kit_LTb, kit_LTi, tM1, rIxS, exists_eq', lt1p, tDNewK, rSlS, rEqNil, nox_K, isIntV]; exact q
    | non => try simp only [tSeq, tNext, tRet, tRetN, tAsg, gName, gSub, tDrop, tIfS, tOp, tUn, tCB, tCons, tNil, tC, tVar, rI, rI0, rU, tAnd, tOr, tNot, tAndV, tOrV, tNotV, tIf, tTest, tB, tCall, tChain, tLst, tTup, tYes, rIxH, rIsB, rIsBT, rMulS, kd_non, kd_bl, kd_int, kd_str, kd_ref, kdO_lst, kdO_tup, kdO_dK, nq_n, nq_b, nq_i, nq_s, nq_l, nq_t, nq_d, ne_eq, not_false_eq_true, kit_ss, kit_ns, kit_bs, kit_is, kit_ls, kit_ts, kit_ds, kit_bb, V.ty.injEq, and_assoc, rIxU, rLenH, rLenU, rLenS, rInt1, rSetL, rEq, rNe, rCat, L2.start, List.map, List.length, List.length_cons, List.length_nil, List.replicate, List.getElem?_cons_zero, List.getElem?_cons_succ, List.set_cons_zero, List.set_cons_succ, List.set_nil, List.cons_append, List.nil_append, List.append_nil, Option.some.injEq, V.int.injEq, V.ref.injEq, V.str.injEq, V.bl.injEq, HO.lst.injEq, HO.tup.injEq, exists_eq_left', exists_and_left, exists_eq_left, List.cons.injEq, and_true, true_and, and_false, false_and, and_self, reduceCtorEq, exists_false, or_false, false_or, exists_const, at0, at1, at2, at3, at4, at5, ix51, ix52, ix54, upd_same, Nat.reduceAdd, Nat.reduceSub, Nat.zero_add, Int.reduceToNat, Int.reduceLE, Int.reduceLT, decide_eq_true_eq, Bool.not_eq_true, if_true, if_false, Bool.false_eq_true, ite_true, ite_false, Bool.not_true, Bool.not_false, decide_true, decide_false, tFor_eq, tLc_eq, iList, iTup, iRng1, iRng2, iStr, tSl, tPart, tNoPart, rSlL, cxOf_K, wipe, ex_ty2, kit_LTl, kit_LTt, kit_LTd, kit_LTs, kit_LTn, kit_LTb, kit_LTi, tM1, rIxS, exists_eq', lt1p, tDNewK, rSlS, rEqNil, nox_K, isIntV]; exact q
    | bl b => try simp only [tSeq, tNext, tRet, tRetN, tAsg, gName, gSub, tDrop, tIfS, tOp, tUn, tCB, tCons, tNil, tC, tVar, rI, rI0, rU, tAnd, tOr, tNot, tAndV, tOrV, tNotV, tIf, tTest, tB, tCall, tChain, tLst, tTup, tYes, rIxH, rIsB, rIsBT, rMulS, kd_non, kd_bl, kd_int, kd_str, kd_ref, kdO_lst, kdO_tup, kdO_dK, nq_n, nq_b, nq_i, nq_s, nq_l, nq_t, nq_d, ne_eq, not_false_eq_true, kit_ss, kit_ns, kit_bs, kit_is, kit_ls, kit_ts, kit_ds, kit_bb, V.ty.injEq, and_assoc, rIxU, rLenH, rLenU, rLenS, rInt1, rSetL, rEq, rNe, rCat, L2.start, List.map, List.length, List.length_cons, List.length_nil, List.replicate, List.getElem?_cons_zero, List.getElem?_cons_succ, List.set_cons_zero, List.set_cons_succ, List.set_nil, List.cons_append, List.nil_append, List.append_nil, Option.some.injEq, V.int.injEq, V.ref.injEq, V.str.injEq, V.bl.injEq, HO.lst.injEq, HO.tup.injEq, exists_eq_left', exists_and_left, exists_eq_left, List.cons.injEq, and_true, true_and, and_false, false_and, and_self, reduceCtorEq, exists_false, or_false, false_or, exists_const, at0, at1, at2, at3, at4, at5, ix51, ix52, ix54, upd_same, Nat.reduceAdd, Nat.reduceSub, Nat.zero_add, Int.reduceToNat, Int.reduceLE, Int.reduceLT, decide_eq_true_eq, Bool.not_eq_true, if_true, if_false, Bool.false_eq_true, ite_true, ite_false, Bool.not_true, Bool.not_false, decide_true, decide_false, tFor_eq, tLc_eq, iList, iTup, iRng1, iRng2, iStr, tSl, tPart, tNoPart, rSlL, cxOf_K, wipe, ex_ty2, kit_LTl, kit_LTt, kit_LTd, kit_LTs, kit_LTn, kit_LTb, kit_LTi, tM1, rIxS, exists_eq', lt1p, tDNewK, rSlS, rEqNil, nox_K, isIntV]; exact q
end

/-! ### check, version -/
theorem hf_no {k : Addr} {m : Str} (h : (m == ("kept_versions" : Str)) = false) : (hF k).lookup m = none := by
  unfold hF
  rw [List.lookup_cons, h]
  rfl
def spHVer (CH N : Addr) : Sp := fun vs H Q E => ∃ h dx k xs v, vs = [.ref h, v] ∧ H h = some (.ins CH dx (hF k)) ∧ H k = some (.lst xs) ∧ Thg H v ∧
  ((∃ (i : Nat) (y : V), v = .int (i : Int) ∧ xs[i]? = some y ∧ Q y H) ∨ (inHist xs.length v = false ∧ ∀ H' d, Same H H' → H' d = some (.xd [("value", v)]) → E (.ref N) (some d) H'))
section
variable {w : World} {K : PySem.W.Frag} {mg : Str → Option Value} {base : Heap} {A : Adr}
theorem ok_hcheck (T : Txt K mg A) (gIsInteger : FnOk PW w K mg base CX0 1 A.a_IsInteger A.d_IsInteger ["value"] spIsIntT) :
    FnOk PW w K mg base (L2.CX PW w) 2 A.a_HistoryCheck A.d_HistoryCheck ["self", "number"] (spHCheck A.k_History A.k_InvalidNumber) := by
  refine T.f_HistoryCheck.okX scHistoryCheck (fun vs H Q E h => ?_) (fun cdv A' outer s H vs Q E hr h => ?_)
  · obtain ⟨h, dx, k, xs, v, rfl, _⟩ := h
    rfl
  · refine ⟨_, (pss_one (ps_if (PW.pt (pw_or (pt_not (pt_val (pe_call gIsInteger (hr.mono (by decide)) (by rfl) T.m_IsInteger T.f_IsInteger.kp T.b_IsInteger .nil pass0 (pa_cons (pv 1) pa_nil)))) (pw_or1 (pt_not (pt_chain (op_le) (op_lt) pe_int (pv 1) (pe_callB call_lenH (by rfl) T.z_len (by decide +kernel) (pa_cons (pe_fld (pv 0) rfl) pa_nil))))))) (pss_one (ps_raiseX rfl T.x_InvalidNumber hr (takes_of rfl rfl rfl rfl) (pa_cons (pv 1) pa_nil) (by rfl))) pss_nil)), ?_⟩
    obtain ⟨h, dx, k, xs, v, rfl, ha, hl, tv, h⟩ := h
    try simp only [tSeq, tNext, tRet, tRetN, tAsg, gName, gSub, tDrop, tIfS, tOp, tUn, tCB, tCons, tNil, tC, tVar, rI, rI0, rU, tAnd, tOr, tNot, tAndV, tOrV, tNotV, tIf, tTest, tB, tCall, tChain, tLst, tTup, tYes, rIxH, rIsB, rIsBT, rMulS, kd_non, kd_bl, kd_int, kd_str, kd_ref, kdO_lst, kdO_tup, kdO_dK, nq_n, nq_b, nq_i, nq_s, nq_l, nq_t, nq_d, ne_eq, not_false_eq_true, kit_ss, kit_ns, kit_bs, kit_is, kit_ls, kit_ts, kit_ds, kit_bb, V.ty.injEq, and_assoc, rIxU, rLenH, rLenU, rLenS, rInt1, rSetL, rEq, rNe, rCat, L2.start, List.map, List.length, List.length_cons, List.length_nil, List.replicate, List.getElem?_cons_zero, List.getElem?_cons_succ, List.set_cons_zero, List.set_cons_succ, List.set_nil, List.cons_append, List.nil_append, List.append_nil, Option.some.injEq, V.int.injEq, V.ref.injEq, V.str.injEq, V.bl.injEq, HO.lst.injEq, HO.tup.injEq, exists_eq_left', exists_and_left, exists_eq_left, List.cons.injEq, and_true, true_and, and_false, false_and, and_self, reduceCtorEq, exists_false, or_false, false_or, exists_const, at0, at1, at2, at3, at4, at5, ix51, ix52, ix54, upd_same, Nat.reduceAdd, Nat.reduceSub, Nat.zero_add, Int.reduceToNat, Int.reduceLE, Int.reduceLT, decide_eq_true_eq, Bool.not_eq_true, if_true, if_false, Bool.false_eq_true, ite_true, ite_false, Bool.not_true, Bool.not_false, decide_true, decide_false, tFor_eq, tLc_eq, iList, iTup, iRng1, iRng2, iStr, tSl, tPart, tNoPart, rSlL, cxOf_K, wipe, ex_ty2, kit_LTl, kit_LTt, kit_LTd, kit_LTs, kit_LTn, kit_LTb, kit_LTi, tM1, rIxS, exists_eq', lt1p, tDNewK, rSlS, rEqNil, nox_K]
    refine ⟨_, rfl, tv, ?_⟩
    rcases h with ⟨hi, q⟩ | ⟨hi, q⟩
    · cases tv with
      | int i =>
        have hi : (decide (0 ≤ i) && decide (i < (xs.length : Int))) = true := hi
        rw [Bool.and_eq_true] at hi
        have h0 := of_decide_eq_true hi.1
        have h1 := of_decide_eq_true hi.2
        try simp only [tSeq, tNext, tRet, tRetN, tAsg, gName, gSub, tDrop, tIfS, tOp, tUn, tCB, tCons, tNil, tC, tVar, rI, rI0, rU, tAnd, tOr, tNot, tAndV, tOrV, tNotV, tIf, tTest, tB, tCall, tChain, tLst, tTup, tYes, rIxH, rIsB, rIsBT, rMulS, kd_non, kd_bl, kd_int, kd_str, kd_ref, kdO_lst, kdO_tup, kdO_dK, nq_n, nq_b, nq_i, nq_s, nq_l, nq_t, nq_d, ne_eq, not_false_eq_true, kit_ss, kit_ns, kit_bs, kit_is, kit_ls, kit_ts, kit_ds, kit_bb, V.ty.injEq, and_assoc, rIxU, rLenH, rLenU, rLenS, rInt1, rSetL, rEq, rNe, rCat, L2.start, List.map, List.length, List.length_cons, List.length_nil, List.replicate, List.getElem?_cons_zero, List.getElem?_cons_succ, List.set_cons_zero, List.set_cons_succ, List.set_nil, List.cons_append, List.nil_append, List.append_nil, Option.some.injEq, V.int.injEq, V.ref.injEq, V.str.injEq, V.bl.injEq, HO.lst.injEq, HO.tup.injEq, exists_eq_left', exists_and_left, exists_eq_left, List.cons.injEq, and_true, true_and, and_false, false_and, and_self, reduceCtorEq, exists_false, or_false, false_or, exists_const, at0, at1, at2, at3, at4, at5, ix51, ix52, ix54, upd_same, Nat.reduceAdd, Nat.reduceSub, Nat.zero_add, Int.reduceToNat, Int.reduceLE, Int.reduceLT, decide_eq_true_eq, Bool.not_eq_true, if_true, if_false, Bool.false_eq_true, ite_true, ite_false, Bool.not_true, Bool.not_false, decide_true, decide_false, tFor_eq, tLc_eq, iList, iTup, iRng1, iRng2, iStr, tSl, tPart, tNoPart, rSlL, cxOf_K, wipe, ex_ty2, kit_LTl, kit_LTt, kit_LTd, kit_LTs, kit_LTn, kit_LTb, kit_LTi, tM1, rIxS, exists_eq', lt1p, tDNewK, rSlS, rEqNil, nox_K, isIntV, tFld, ha, hl, HO.ins.injEq, T.t_History.cl, T.n_History_kept_versions, hf_k]
        rw [if_pos h0, if_neg (by rw [decide_eq_true h1]; decide)]
        exact q
      | str hz => cases hi
      | lst e => cases hi
      | tup e => cases hi
      | dic e => cases hi
      | non => cases hi
      | bl b => cases hi
    · cases tv with
      | int i =>
        have hi : (decide (0 ≤ i) && decide (i < (xs.length : Int))) = false := hi
        try simp only [tSeq, tNext, tRet, tRetN, tAsg, gName, gSub, tDrop, tIfS, tOp, tUn, tCB, tCons, tNil, tC, tVar, rI, rI0, rU, tAnd, tOr, tNot, tAndV, tOrV, tNotV, tIf, tTest, tB, tCall, tChain, tLst, tTup, tYes, rIxH, rIsB, rIsBT, rMulS, kd_non, kd_bl, kd_int, kd_str, kd_ref, kdO_lst, kdO_tup, kdO_dK, nq_n, nq_b, nq_i, nq_s, nq_l, nq_t, nq_d, ne_eq, not_false_eq_true, kit_ss, kit_ns, kit_bs, kit_is, kit_ls, kit_ts, kit_ds, kit_bb, V.ty.injEq, and_assoc, rIxU, rLenH, rLenU, rLenS, rInt1, rSetL, rEq, rNe, rCat, L2.start, List.map, List.length, List.length_cons, List.length_nil, List.replicate, List.getElem?_cons_zero, List.getElem?_cons_succ, List.set_cons_zero, List.set_cons_succ, List.set_nil, List.cons_append, List.nil_append, List.append_nil, Option.some.injEq, V.int.injEq, V.ref.injEq, V.str.injEq, V.bl.injEq, HO.lst.injEq, HO.tup.injEq, exists_eq_left', exists_and_left, exists_eq_left, List.cons.injEq, and_true, true_and, and_false, false_and, and_self, reduceCtorEq, exists_false, or_false, false_or, exists_const, at0, at1, at2, at3, at4, at5, ix51, ix52, ix54, upd_same, Nat.reduceAdd, Nat.reduceSub, Nat.zero_add, Int.reduceToNat, Int.reduceLE, Int.reduceLT, decide_eq_true_eq, Bool.not_eq_true, if_true, if_false, Bool.false_eq_true, ite_true, ite_false, Bool.not_true, Bool.not_false, decide_true, decide_false, tFor_eq, tLc_eq, iList, iTup, iRng1, iRng2, iStr, tSl, tPart, tNoPart, rSlL, cxOf_K, wipe, ex_ty2, kit_LTl, kit_LTt, kit_LTd, kit_LTs, kit_LTn, kit_LTb, kit_LTi, tM1, rIxS, exists_eq', lt1p, tDNewK, rSlS, rEqNil, nox_K, isIntV, tFld, ha, hl, HO.ins.injEq, T.t_History.cl, T.n_History_kept_versions, hf_k, tRaiseX, tMkX]
        have kk : ∀ (d : Addr), H d = none → E (Value.ref A.k_InvalidNumber) (some d) (upd H d (HO.xd [(Str.ofString "value", V.int i)])) := fun d hd => q _ d (same_new hd) upd_same
        by_cases h0 : 0 ≤ i
        · rw [decide_eq_true h0, Bool.true_and] at hi
          rw [if_pos h0, if_pos (by rw [hi]; rfl)]
          exact kk
        · rw [if_neg h0]
          exact kk
      | str hz => try simp only [tSeq, tNext, tRet, tRetN, tAsg, gName, gSub, tDrop, tIfS, tOp, tUn, tCB, tCons, tNil, tC, tVar, rI, rI0, rU, tAnd, tOr, tNot, tAndV, tOrV, tNotV, tIf, tTest, tB, tCall, tChain, tLst, tTup, tYes, rIxH, rIsB, rIsBT, rMulS, kd_non, kd_bl, kd_int, kd_str, kd_ref, kdO_lst, kdO_tup, kdO_dK, nq_n, nq_b, nq_i, nq_s, nq_l, nq_t, nq_d, ne_eq, not_false_eq_true, kit_ss, kit_ns, kit_bs, kit_is, kit_ls, kit_ts, kit_ds, kit_bb, V.ty.injEq, and_assoc, rIxU, rLenH, rLenU, rLenS, rInt1, rSetL, rEq, rNe, rCat, L2.start, List.map, List.length, List.length_cons, List.length_nil, List.replicate, List.getElem?_cons_zero, List.getElem?_cons_succ, List.set_cons_zero, List.set_cons_succ, List.set_nil, List.cons_append, List.nil_append, List.append_nil, Option.some.injEq, V.int.injEq, V.ref.injEq, V.str.injEq, V.bl.injEq, HO.lst.injEq, HO.tup.injEq, exists_eq_left', exists_and_left, exists_eq_left, List.cons.injEq, and_true, true_and, and_false, false_and, and_self, reduceCtorEq, exists_false, or_false, false_or, exists_const, at0, at1, at2, at3, at4, at5, ix51, ix52, ix54, upd_same, Nat.reduceAdd, Nat.reduceSub, Nat.zero_add, Int.reduceToNat, Int.reduceLE, Int.reduceLT, decide_eq_true_eq, Bool.not_eq_true, if_true, if_false, Bool.false_eq_true, ite_true, ite_false, Bool.not_true, Bool.not_false, decide_true, decide_false, tFor_eq, tLc_eq, iList, iTup, iRng1, iRng2, iStr, tSl, tPart, tNoPart, rSlL, cxOf_K, wipe, ex_ty2, kit_LTl, kit_LTt, kit_LTd, kit_LTs, kit_LTn, kit_LTb, kit_LTi, tM1, rIxS, exists_eq', lt1p, tDNewK, rSlS, rEqNil, nox_K, isIntV, tRaiseX, tMkX]; exact fun d hd => q _ d (same_new hd) upd_same
      | lst e => try simp only [tSeq, tNext, tRet, tRetN, tAsg, gName, gSub, tDrop, tIfS, tOp, tUn, tCB, tCons, tNil, tC, tVar, rI, rI0, rU, tAnd, tOr, tNot, tAndV, tOrV, tNotV, tIf, tTest, tB, tCall, tChain, tLst, tTup, tYes, rIxH, rIsB, rIsBT, rMulS, kd_non, kd_bl, kd_int, kd_str, kd_ref, kdO_lst, kdO_tup, kdO_dK, nq_n, nq_b, nq_i, nq_s, nq_l, nq_t, nq_d, ne_eq, not_false_eq_true, kit_ss, kit_ns, kit_bs, kit_is, kit_ls, kit_ts, kit_ds, kit_bb, V.ty.injEq, and_assoc, rIxU, rLenH, rLenU, rLenS, rInt1, rSetL, rEq, rNe, rCat, L2.start, List.map, List.length, List.length_cons, List.length_nil, List.replicate, List.getElem?_cons_zero, List.getElem?_cons_succ, List.set_cons_zero, List.set_cons_succ, List.set_nil, List.cons_append, List.nil_append, List.append_nil, Option.some.injEq, V.int.injEq, V.ref.injEq, V.str.injEq, V.bl.injEq, HO.lst.injEq, HO.tup.injEq, exists_eq_left', exists_and_left, exists_eq_left, List.cons.injEq, and_true, true_and, and_false, false_and, and_self, reduceCtorEq, exists_false, or_false, false_or, exists_const, at0, at1, at2, at3, at4, at5, ix51, ix52, ix54, upd_same, Nat.reduceAdd, Nat.reduceSub, Nat.zero_add, Int.reduceToNat, Int.reduceLE, Int.reduceLT, decide_eq_true_eq, Bool.not_eq_true, if_true, if_false, Bool.false_eq_true, ite_true, ite_false, Bool.not_true, Bool.not_false, decide_true, decide_false, tFor_eq, tLc_eq, iList, iTup, iRng1, iRng2, iStr, tSl, tPart, tNoPart, rSlL, cxOf_K, wipe, ex_ty2, kit_LTl, kit_LTt, kit_LTd, kit_LTs, kit_LTn, kit_LTb, kit_LTi, tM1, rIxS, exists_eq', lt1p, tDNewK, rSlS, rEqNil, nox_K, isIntV, tRaiseX, tMkX]; exact fun d hd => q _ d (same_new hd) upd_same
      | tup e => try simp only [tSeq, tNext, tRet, tRetN, tAsg, gName, gSub, tDrop, tIfS, tOp, tUn, tCB, tCons, tNil, tC, tVar, rI, rI0, rU, tAnd, tOr, tNot, tAndV, tOrV, tNotV, tIf, tTest, tB, tCall, tChain, tLst, tTup, tYes, rIxH, rIsB, rIsBT, rMulS, kd_non, kd_bl, kd_int, kd_str, kd_ref, kdO_lst, kdO_tup, kdO_dK, nq_n, nq_b, nq_i, nq_s, nq_l, nq_t, nq_d, ne_eq, not_false_eq_true, kit_ss, kit_ns, kit_bs, kit_is, kit_ls, kit_ts, kit_ds, kit_bb, V.ty.injEq, and_assoc, rIxU, rLenH, rLenU, rLenS, rInt1, rSetL, rEq, rNe, rCat, L2.start, List.map, List.length, List.length_cons, List.length_nil, List.replicate, List.getElem?_cons_zero, List.getElem?_cons_succ, List.set_cons_zero, List.set_cons_succ, List.set_nil, List.cons_append, List.nil_append, List.append_nil, Option.some.injEq, V.int.injEq, V.ref.injEq, V.str.injEq, V.bl.injEq, HO.lst.injEq, HO.tup.injEq, exists_eq_left', exists_and_left, exists_eq_left, List.cons.injEq, and_true, true_and, and_false, false_and, and_self, reduceCtorEq, exists_false, or_false, false_or, exists_const, at0, at1, at2, at3, at4, at5, ix51, ix52, ix54, upd_same, Nat.reduceAdd, Nat.reduceSub, Nat.zero_add, Int.reduceToNat, Int.reduceLE, Int.reduceLT, decide_eq_true_eq, Bool.not_eq_true, if_true, if_false, Bool.false_eq_true, ite_true, ite_false, Bool.not_true, Bool.not_false, decide_true, decide_false, tFor_eq, tLc_eq, iList, iTup, iRng1, iRng2, iStr, tSl, tPart, tNoPart, rSlL, cxOf_K, wipe, ex_ty2, kit_LTl, kit_LTt, kit_LTd, kit_LTs, kit_LTn, kit_LTb, kit_LTi, tM1, rIxS, exists_eq', lt1p, tDNewK, rSlS, rEqNil, nox_K, isIntV, tRaiseX, tMkX]; exact fun d hd => q _ d (same_new hd) upd_same
      | dic e => try simp only [tSeq, tNext, tRet, tRetN, tAsg, gName, gSub, tDrop, tIfS, tOp, tUn, tCB, tCons, tNil, tC, tVar, rI, rI0, rU, tAnd, tOr, tNot, tAndV, tOrV, tNotV, tIf, tTest, tB, tCall, tChain, tLst, tTup, tYes, rIxH, rIsB, rIsBT, rMulS, kd_non, kd_bl, kd_int, kd_str, kd_ref, kdO_lst, kdO_tup, kdO_dK, nq_n, nq_b, nq_i, nq_s, nq_l, nq_t, nq_d, ne_eq, not_false_eq_true, kit_ss, kit_ns, kit_bs, kit_is, kit_ls, kit_ts, kit_ds, kit_bb, V.ty.injEq, and_assoc, rIxU, rLenH, rLenU, rLenS, rInt1, rSetL, rEq, rNe, rCat, L2.start, List.map, List.length, List.length_cons, List.length_nil, List.replicate, List.getElem?_cons_zero, List.getElem?_cons_succ, List.set_cons_zero, List.set_cons_succ, List.set_nil, List.cons_append, List.nil_append, List.append_nil, Option.some.injEq, V.int.injEq, V.ref.injEq, V.str.injEq, V.bl.injEq, HO.lst.injEq, HO.tup.injEq, exists_eq_left', exists_and_left, exists_eq_left, List.cons.injEq, and_true, true_and, and_false, false_and, and_self, reduceCtorEq, exists_false, or_false, false_or, exists_const, at0, at1, at2, at3, at4, at5, ix51, ix52, ix54, upd_same, Nat.reduceAdd, Nat.reduceSub, Nat.zero_add, Int.reduceToNat, Int.reduceLE, Int.reduceLT, decide_eq_true_eq, Bool.not_eq_true, if_true, if_false, Bool.false_eq_true, ite_true, ite_false, Bool.not_true, Bool.not_false, decide_true, decide_false, tFor_eq, tLc_eq, iList, iTup, iRng1, iRng2, iStr, tSl, tPart, tNoPart, rSlL, cxOf_K, wipe, ex_ty2, kit_LTl, kit_LTt, kit_LTd, kit_LTs, kit_LTn, kit_LTb, kit_LTi, tM1, rIxS, exists_eq', lt1p, tDNewK, rSlS, rEqNil, nox_K, isIntV, tRaiseX, tMkX]; exact fun d hd => q _ d (same_new hd) upd_same
      | non => try simp only [tSeq, tNext, tRet, tRetN, tAsg, gName, gSub, tDrop, tIfS, tOp, tUn, tCB, tCons, tNil, tC, tVar, rI, rI0, rU, tAnd, tOr, tNot, tAndV, tOrV, tNotV, tIf, tTest, tB, tCall, tChain, tLst, tTup, tYes, rIxH, rIsB, rIsBT, rMulS, kd_non, kd_bl, kd_int, kd_str, kd_ref, kdO_lst, kdO_tup, kdO_dK, nq_n, nq_b, nq_i, nq_s, nq_l, nq_t, nq_d, ne_eq, not_false_eq_true, kit_ss, kit_ns, kit_bs, kit_is, kit_ls, kit_ts, kit_ds, kit_bb, V.ty.injEq, and_assoc, rIxU, rLenH, rLenU, rLenS, rInt1, rSetL, rEq, rNe, rCat, L2.start, List.map, List.length, List.length_cons, List.length_nil, List.replicate, List.getElem?_cons_zero, List.getElem?_cons_succ, List.set_cons_zero, List.set_cons_succ, List.set_nil, List.cons_append, List.nil_append, List.append_nil, Option.some.injEq, V.int.injEq, V.ref.injEq, V.str.injEq, V.bl.injEq, HO.lst.injEq, HO.tup.injEq, exists_eq_left', exists_and_left, exists_eq_left, List.cons.injEq, and_true, true_and, and_false, false_and, and_self, reduceCtorEq, exists_false, or_false, false_or, exists_const, at0, at1, at2, at3, at4, at5, ix51, ix52, ix54, upd_same, Nat.reduceAdd, Nat.reduceSub, Nat.zero_add, Int.reduceToNat, Int.reduceLE, Int.reduceLT, decide_eq_true_eq, Bool.not_eq_true, if_true, if_false, Bool.false_eq_true, ite_true, ite_false, Bool.not_true, Bool.not_false, decide_true, decide_false, tFor_eq, tLc_eq, iList, iTup, iRng1, iRng2, iStr, tSl, tPart, tNoPart, rSlL, cxOf_K, wipe, ex_ty2, kit_LTl, kit_LTt, kit_LTd, kit_LTs, kit_LTn, kit_LTb, kit_LTi, tM1, rIxS, exists_eq', lt1p, tDNewK, rSlS, rEqNil, nox_K, isIntV, tRaiseX, tMkX]; exact fun d hd => q _ d (same_new hd) upd_same
      | bl b => try simp only [tSeq, tNext, tRet, tRetN, tAsg, gName, gSub, tDrop, tIfS, tOp, tUn, tCB, tCons, tNil, tC, tVar, rI, rI0, rU, tAnd, tOr, tNot, tAndV, tOrV, tNotV, tIf, tTest, tB, tCall, tChain, tLst, tTup, tYes, rIxH, rIsB, rIsBT, rMulS, kd_non, kd_bl, kd_int, kd_str, kd_ref, kdO_lst, kdO_tup, kdO_dK, nq_n, nq_b, nq_i, nq_s, nq_l, nq_t, nq_d, ne_eq, not_false_eq_true, kit_ss, kit_ns, kit_bs, kit_is, kit_ls, kit_ts, kit_ds, kit_bb, V.ty.injEq, and_assoc, rIxU, rLenH, rLenU, rLenS, rInt1, rSetL, rEq, rNe, rCat, L2.start, List.map, List.length, List.length_cons, List.length_nil, List.replicate, List.getElem?_cons_zero, List.getElem?_cons_succ, List.set_cons_zero, List.set_cons_succ, List.set_nil, List.cons_append, List.nil_append, List.append_nil, Option.some.injEq, V.int.injEq, V.ref.injEq, V.str.injEq, V.bl.injEq, HO.lst.injEq, HO.tup.injEq, exists_eq_left', exists_and_left, exists_eq_left, List.cons.injEq, and_true, true_and, and_false, false_and, and_self, reduceCtorEq, exists_false, or_false, false_or, exists_const, at0, at1, at2, at3, at4, at5, ix51, ix52, ix54, upd_same, Nat.reduceAdd, Nat.reduceSub, Nat.zero_add, Int.reduceToNat, Int.reduceLE, Int.reduceLT, decide_eq_true_eq, Bool.not_eq_true, if_true, if_false, Bool.false_eq_true, ite_true, ite_false, Bool.not_true, Bool.not_false, decide_true, decide_false, tFor_eq, tLc_eq, iList, iTup, iRng1, iRng2, iStr, tSl, tPart, tNoPart, rSlL, cxOf_K, wipe, ex_ty2, kit_LTl, kit_LTt, kit_LTd, kit_LTs, kit_LTn, kit_LTb, kit_LTi, tM1, rIxS, exists_eq', lt1p, tDNewK, rSlS, rEqNil, nox_K, isIntV, tRaiseX, tMkX]; exact fun d hd => q _ d (same_new hd) upd_same
theorem ok_hver (T : Txt K mg A) (gHistoryCheck : FnOk PW w K mg base (L2.CX PW w) 2 A.a_HistoryCheck A.d_HistoryCheck ["self", "number"] (spHCheck A.k_History A.k_InvalidNumber)) :
    FnOk PW w K mg base (L2.CX PW w) 4 A.a_HistoryVersion A.d_HistoryVersion ["self", "number"] (spHVer A.k_History A.k_InvalidNumber) := by
  refine T.f_HistoryVersion.okX scHistoryVersion (fun vs H Q E h => ?_) (fun cdv A' outer s H vs Q E hr h => ?_)
  · obtain ⟨h, dx, k, xs, v, rfl, _⟩ := h
    rfl
  · refine ⟨_, (pss_cons (ps_expr (pe_meth (pv 0) T.t_History.cl T.h_HistoryCheck gHistoryCheck (hr.mono (by decide)) T.b_HistoryCheck .nil (passes_call (takes_of rfl rfl rfl rfl) (fun _ _ _ _ h => h)) (pa_cons (pv 1) pa_nil)))
      (pss_one (ps_ret (pe_ix ix_lstH (pe_fld (pv 0) rfl) (pv 1) (fun _ _ => rfl))))), ?_⟩
    obtain ⟨h, dx, k, xs, v, rfl, ha, hl, tv, h⟩ := h
    rcases h with ⟨i, y, rfl, hy, q⟩ | ⟨hi, q⟩
    · have hi : i < xs.length := (List.getElem?_eq_some_iff.mp hy).1
      try simp only [tSeq, tNext, tRet, tRetN, tAsg, gName, gSub, tDrop, tIfS, tOp, tUn, tCB, tCons, tNil, tC, tVar, rI, rI0, rU, tAnd, tOr, tNot, tAndV, tOrV, tNotV, tIf, tTest, tB, tCall, tChain, tLst, tTup, tYes, rIxH, rIsB, rIsBT, rMulS, kd_non, kd_bl, kd_int, kd_str, kd_ref, kdO_lst, kdO_tup, kdO_dK, nq_n, nq_b, nq_i, nq_s, nq_l, nq_t, nq_d, ne_eq, not_false_eq_true, kit_ss, kit_ns, kit_bs, kit_is, kit_ls, kit_ts, kit_ds, kit_bb, V.ty.injEq, and_assoc, rIxU, rLenH, rLenU, rLenS, rInt1, rSetL, rEq, rNe, rCat, L2.start, List.map, List.length, List.length_cons, List.length_nil, List.replicate, List.getElem?_cons_zero, List.getElem?_cons_succ, List.set_cons_zero, List.set_cons_succ, List.set_nil, List.cons_append, List.nil_append, List.append_nil, Option.some.injEq, V.int.injEq, V.ref.injEq, V.str.injEq, V.bl.injEq, HO.lst.injEq, HO.tup.injEq, exists_eq_left', exists_and_left, exists_eq_left, List.cons.injEq, and_true, true_and, and_false, false_and, and_self, reduceCtorEq, exists_false, or_false, false_or, exists_const, at0, at1, at2, at3, at4, at5, ix51, ix52, ix54, upd_same, Nat.reduceAdd, Nat.reduceSub, Nat.zero_add, Int.reduceToNat, Int.reduceLE, Int.reduceLT, decide_eq_true_eq, Bool.not_eq_true, if_true, if_false, Bool.false_eq_true, ite_true, ite_false, Bool.not_true, Bool.not_false, decide_true, decide_false, tFor_eq, tLc_eq, iList, iTup, iRng1, iRng2, iStr, tSl, tPart, tNoPart, rSlL, cxOf_K, wipe, ex_ty2, kit_LTl, kit_LTt, kit_LTd, kit_LTs, kit_LTn, kit_LTb, kit_LTi, tM1, rIxS, exists_eq', lt1p, tDNewK, rSlS, rEqNil, nox_K, tMeth, ha, HO.ins.injEq]
      refine ⟨hf_no (by decide +kernel), h, dx, k, xs, _, rfl, ha, hl, tv, .inl ⟨?_, ?_⟩⟩
      · show (decide (0 ≤ (i : Int)) && decide ((i : Int) < (xs.length : Int))) = true
        rw [decide_eq_true (by omega), decide_eq_true (by omega)]
        rfl
      · try simp only [tSeq, tNext, tRet, tRetN, tAsg, gName, gSub, tDrop, tIfS, tOp, tUn, tCB, tCons, tNil, tC, tVar, rI, rI0, rU, tAnd, tOr, tNot, tAndV, tOrV, tNotV, tIf, tTest, tB, tCall, tChain, tLst, tTup, tYes, rIxH, rIsB, rIsBT, rMulS, kd_non, kd_bl, kd_int, kd_str, kd_ref, kdO_lst, kdO_tup, kdO_dK, nq_n, nq_b, nq_i, nq_s, nq_l, nq_t, nq_d, ne_eq, not_false_eq_true, kit_ss, kit_ns, kit_bs, kit_is, kit_ls, kit_ts, kit_ds, kit_bb, V.ty.injEq, and_assoc, rIxU, rLenH, rLenU, rLenS, rInt1, rSetL, rEq, rNe, rCat, L2.start, List.map, List.length, List.length_cons, List.length_nil, List.replicate, List.getElem?_cons_zero, List.getElem?_cons_succ, List.set_cons_zero, List.set_cons_succ, List.set_nil, List.cons_append, List.nil_append, List.append_nil, Option.some.injEq, V.int.injEq, V.ref.injEq, V.str.injEq, V.bl.injEq, HO.lst.injEq, HO.tup.injEq, exists_eq_left', exists_and_left, exists_eq_left, List.cons.injEq, and_true, true_and, and_false, false_and, and_self, reduceCtorEq, exists_false, or_false, false_or, exists_const, at0, at1, at2, at3, at4, at5, ix51, ix52, ix54, upd_same, Nat.reduceAdd, Nat.reduceSub, Nat.zero_add, Int.reduceToNat, Int.reduceLE, Int.reduceLT, decide_eq_true_eq, Bool.not_eq_true, if_true, if_false, Bool.false_eq_true, ite_true, ite_false, Bool.not_true, Bool.not_false, decide_true, decide_false, tFor_eq, tLc_eq, iList, iTup, iRng1, iRng2, iStr, tSl, tPart, tNoPart, rSlL, cxOf_K, wipe, ex_ty2, kit_LTl, kit_LTt, kit_LTd, kit_LTs, kit_LTn, kit_LTb, kit_LTi, tM1, rIxS, exists_eq', lt1p, tDNewK, rSlS, rEqNil, nox_K, tFld, ha, hl, HO.ins.injEq, T.t_History.cl, T.n_History_kept_versions, hf_k]
        exact ⟨y, atI_nat hy, q⟩
    · try simp only [tSeq, tNext, tRet, tRetN, tAsg, gName, gSub, tDrop, tIfS, tOp, tUn, tCB, tCons, tNil, tC, tVar, rI, rI0, rU, tAnd, tOr, tNot, tAndV, tOrV, tNotV, tIf, tTest, tB, tCall, tChain, tLst, tTup, tYes, rIxH, rIsB, rIsBT, rMulS, kd_non, kd_bl, kd_int, kd_str, kd_ref, kdO_lst, kdO_tup, kdO_dK, nq_n, nq_b, nq_i, nq_s, nq_l, nq_t, nq_d, ne_eq, not_false_eq_true, kit_ss, kit_ns, kit_bs, kit_is, kit_ls, kit_ts, kit_ds, kit_bb, V.ty.injEq, and_assoc, rIxU, rLenH, rLenU, rLenS, rInt1, rSetL, rEq, rNe, rCat, L2.start, List.map, List.length, List.length_cons, List.length_nil, List.replicate, List.getElem?_cons_zero, List.getElem?_cons_succ, List.set_cons_zero, List.set_cons_succ, List.set_nil, List.cons_append, List.nil_append, List.append_nil, Option.some.injEq, V.int.injEq, V.ref.injEq, V.str.injEq, V.bl.injEq, HO.lst.injEq, HO.tup.injEq, exists_eq_left', exists_and_left, exists_eq_left, List.cons.injEq, and_true, true_and, and_false, false_and, and_self, reduceCtorEq, exists_false, or_false, false_or, exists_const, at0, at1, at2, at3, at4, at5, ix51, ix52, ix54, upd_same, Nat.reduceAdd, Nat.reduceSub, Nat.zero_add, Int.reduceToNat, Int.reduceLE, Int.reduceLT, decide_eq_true_eq, Bool.not_eq_true, if_true, if_false, Bool.false_eq_true, ite_true, ite_false, Bool.not_true, Bool.not_false, decide_true, decide_false, tFor_eq, tLc_eq, iList, iTup, iRng1, iRng2, iStr, tSl, tPart, tNoPart, rSlL, cxOf_K, wipe, ex_ty2, kit_LTl, kit_LTt, kit_LTd, kit_LTs, kit_LTn, kit_LTb, kit_LTi, tM1, rIxS, exists_eq', lt1p, tDNewK, rSlS, rEqNil, nox_K, tMeth, ha, HO.ins.injEq]
      exact ⟨hf_no (by decide +kernel), h, dx, k, xs, _, rfl, ha, hl, tv, .inr ⟨hi, q⟩⟩
end

/-! ### == of histories -/
theorem VersAt.head {C : Addr} {H : Hp} {a : Addr} {vas : List Addr} {r : VR} {rs : List VR} (h : VersAt C H (a :: vas) (r :: rs)) : VerAt C H a r.ls r.ps r.nm ∧ VOk r := h.ea 0 a r rfl rfl
theorem VersAt.tail {C : Addr} {H : Hp} {a : Addr} {vas : List Addr} {r : VR} {rs : List VR} (h : VersAt C H (a :: vas) (r :: rs)) : VersAt C H vas rs := ⟨Nat.succ.inj h.len, fun i b q h1 h2 => h.ea (i + 1) b q h1 h2⟩
theorem VersAt.cons {C : Addr} {H : Hp} {a : Addr} {vas : List Addr} {r : VR} {rs : List VR} (h1 : VerAt C H a r.ls r.ps r.nm) (h2 : VOk r) (h : VersAt C H vas rs) : VersAt C H (a :: vas) (r :: rs) := ⟨congrArg Nat.succ h.len, fun i b q e1 e2 => by
  cases i with
  | zero => cases e1; cases e2; exact ⟨h1, h2⟩
  | succ i => exact h.ea i b q e1 e2⟩
theorem VersAt.nil {C : Addr} {H : Hp} : VersAt C H [] [] := ⟨rfl, fun i b q e1 _ => nomatch e1⟩
theorem map_str_inj : ∀ {xs ys : List Str}, xs.map V.str = ys.map V.str → xs = ys
  | [], [], _ => rfl
  | [], _ :: _, h => nomatch h
  | _ :: _, [], h => nomatch h
  | x :: xs, y :: ys, h => by
    simp only [List.map_cons, List.cons.injEq, V.str.injEq] at h
    rw [h.1, map_str_inj h.2]
theorem map_int_inj : ∀ {xs ys : List Int}, xs.map V.int = ys.map V.int → xs = ys
  | [], [], _ => rfl
  | [], _ :: _, h => nomatch h
  | _ :: _, [], h => nomatch h
  | x :: xs, y :: ys, h => by
    simp only [List.map_cons, List.cons.injEq, V.int.injEq] at h
    rw [h.1, map_int_inj h.2]
theorem VerAt.inj {C : Addr} {H : Hp} {a : Addr} {r r' : VR} (h : VerAt C H a r.ls r.ps r.nm) (h' : VerAt C H a r'.ls r'.ps r'.nm) : r = r' := by
  obtain ⟨dx, l, p, h1, h2, h3⟩ := h.ex
  obtain ⟨dx', l', p', h1', h2', h3'⟩ := h'.ex
  rw [h1] at h1'
  simp only [Option.some.injEq, HO.ins.injEq, verF, List.cons.injEq, Prod.mk.injEq, V.ref.injEq, V.str.injEq, true_and, and_true] at h1'
  obtain ⟨_, rfl, rfl, hn⟩ := h1'
  rw [h2] at h2'
  rw [h3] at h3'
  cases r; cases r'
  simp only [Option.some.injEq, HO.tup.injEq] at h2' h3'
  have e1 := map_str_inj h2'
  have e2 := map_int_inj h3'
  simp only at e1 e2 hn
  subst e1 e2 hn
  rfl
theorem vr_eq {r r' : VR} : (decide (r.ls = r'.ls) && decide (r.ps = r'.ps) && decide (r.nm = r'.nm)) = decide (r = r') := by
  cases r; cases r'
  rw [Bool.eq_iff_iff]
  simp [and_assoc]
theorem eq_go {C : Addr} {E : XK} {Q : VK} : ∀ {vas vas' : List Addr} {rs rs' : List VR} {H : Hp}, VersAt C H vas rs → VersAt C H vas' rs' → vas.length = vas'.length → (∀ H', Same H H' → Q (.bl (decide (rs = rs'))) H') → eqGo C (spVEq C) E (vas.map V.ref) (vas'.map V.ref) H Q
  | [], [], rs, rs', H, h1, h2, _, k => by
    have e1 : rs = [] := List.eq_nil_of_length_eq_zero h1.len.symm
    have e2 : rs' = [] := List.eq_nil_of_length_eq_zero h2.len.symm
    subst e1 e2
    exact k H (Same.refl _)
  | [], _ :: _, _, _, _, _, _, h, _ => nomatch h
  | _ :: _, [], _, _, _, _, _, h, _ => nomatch h
  | a :: vas, a' :: vas', [], _, _, h1, _, _, _ => nomatch h1.len
  | a :: vas, a' :: vas', _ :: _, [], _, _, h2, _, _ => nomatch h2.len
  | a :: vas, a' :: vas', r :: rs, r' :: rs', H, h1, h2, hl, k => by
    show eqGo C (spVEq C) E (.ref a :: vas.map V.ref) (.ref a' :: vas'.map V.ref) H Q
    unfold eqGo
    by_cases e : a = a'
    · subst e
      have er : r = r' := h1.head.1.inj h2.head.1
      subst er
      refine .inl ⟨rfl, eq_go h1.tail h2.tail (Nat.succ.inj hl) fun H' s => ?_⟩
      have e2 : decide (r :: rs = r :: rs') = decide (rs = rs') := by simp
      rw [← e2]
      exact k H' s
    · obtain ⟨v, o⟩ := h1.head
      obtain ⟨v', o'⟩ := h2.head
      obtain ⟨dx, l, p, q1, q2, q3⟩ := v.ex
      obtain ⟨dx', l', p', q1', q2', q3'⟩ := v'.ex
      refine .inr ⟨a, a', _, _, _, _, rfl, rfl, e, q1, q1', a, r.ls, r.ps, r.nm, _, rfl, v, o.ll, o.pl, o.asc, .inl ⟨a', r'.ls, r'.ps, r'.nm, rfl, v', o'.ll, o'.pl, o'.asc, Same.refl _, _, rfl, fun hc => ?_, fun hc => ?_⟩⟩
      · rw [vr_eq] at hc
        have er := of_decide_eq_true hc
        subst er
        refine eq_go h1.tail h2.tail (Nat.succ.inj hl) fun H' s => ?_
        have e2 : decide (r :: rs = r :: rs') = decide (rs = rs') := by simp
        rw [← e2]
        exact k H' s
      · rw [vr_eq] at hc
        have er := of_decide_eq_false hc
        have e2 : decide (r :: rs = r' :: rs') = false := decide_eq_false fun z => er (List.cons.inj z).1
        rw [← e2]
        exact k H (Same.refl _)
def spHEq (CH CV : Addr) : Sp := fun vs H Q _ => ∃ h vas rs v, vs = [.ref h, v] ∧ HistAt CH CV H h vas rs ∧
  ((∃ h' vas' rs', v = .ref h' ∧ HistAt CH CV H h' vas' rs' ∧ ∀ H', Same H H' → Q (.bl (decide (rs = rs'))) H') ∨
   (∃ b xs, v = .ref b ∧ H b = some (.lst xs) ∧ Q (.bl false) H))
theorem refs_of {vas : List Addr} : ∀ v ∈ vas.map V.ref, ∃ p, v = .ref p := fun v hv => by
  obtain ⟨p, _, e⟩ := List.mem_map.mp hv
  exact ⟨p, e.symm⟩
section
variable {w : World} {K : PySem.W.Frag} {mg : Str → Option Value} {base : Heap} {A : Adr}
theorem ok_heq (T : Txt K mg A) (gVersionEq : FnOk PW w K mg base CX0 1 A.a_VersionEq A.d_VersionEq ["self", "other"] (spVEq A.k_Version)) : FnOk PW w K mg base CX0 3 A.a_HistoryEq A.d_HistoryEq ["self", "other"] (spHEq A.k_History A.k_Version) := by
  refine T.f_HistoryEq.ok scHistoryEq (fun vs H Q E h => ?_) (fun cdv A' outer s H vs Q E hr h => ?_)
  · obtain ⟨h, vas, rs, v, rfl, _⟩ := h
    rfl
  · obtain ⟨h, vas, rs, v, rfl, ⟨⟨dx, k, h1, h2⟩, hv, l10, gr⟩, h⟩ := h
    refine ⟨_, (pss_one (ps_ret (pe_and (pe_callB call_isW (by rfl) T.z_isinstance (by decide +kernel) (pa_cons (pv 1) (pa_cons (pe_glob (v := .ref A.k_History) (by rfl) T.k_History rfl) pa_nil))) (pe_one (pe_cmpR (op_eqOL T.o_VersionEq gVersionEq (hr.mono (by decide)) T.b_VersionEq pass0) (pe_fld (pv 0) rfl) (pe_fld (pv 1) rfl) (nomark _)))))), ?_⟩
    rcases h with ⟨h', vas', rs', rfl, ⟨⟨dx', k', h1', h2'⟩, hv', l10', gr'⟩, q⟩ | ⟨b, xs, rfl, hb, q⟩
    · have e1 : PySem.W.kitOne K (.ref A.k_History) (.ref A.k_History) = some true := kit_self
      have et : tyV H (.ref h') = some (.ref A.k_History) := by rw [tyV_ref, h1']; rfl
      try simp only [tSeq, tNext, tRet, tRetN, tAsg, gName, gSub, tDrop, tIfS, tOp, tUn, tCB, tCons, tNil, tC, tVar, rI, rI0, rU, tAnd, tOr, tNot, tAndV, tOrV, tNotV, tIf, tTest, tB, tCall, tChain, tLst, tTup, tYes, rIxH, rIsB, rIsBT, rMulS, kd_non, kd_bl, kd_int, kd_str, kd_ref, kdO_lst, kdO_tup, kdO_dK, nq_n, nq_b, nq_i, nq_s, nq_l, nq_t, nq_d, ne_eq, not_false_eq_true, kit_ss, kit_ns, kit_bs, kit_is, kit_ls, kit_ts, kit_ds, kit_bb, V.ty.injEq, and_assoc, rIxU, rLenH, rLenU, rLenS, rInt1, rSetL, rEq, rNe, rCat, L2.start, List.map, List.length, List.length_cons, List.length_nil, List.replicate, List.getElem?_cons_zero, List.getElem?_cons_succ, List.set_cons_zero, List.set_cons_succ, List.set_nil, List.cons_append, List.nil_append, List.append_nil, Option.some.injEq, V.int.injEq, V.ref.injEq, V.str.injEq, V.bl.injEq, HO.lst.injEq, HO.tup.injEq, exists_eq_left', exists_and_left, exists_eq_left, List.cons.injEq, and_true, true_and, and_false, false_and, and_self, reduceCtorEq, exists_false, or_false, false_or, exists_const, at0, at1, at2, at3, at4, at5, ix51, ix52, ix54, upd_same, Nat.reduceAdd, Nat.reduceSub, Nat.zero_add, Int.reduceToNat, Int.reduceLE, Int.reduceLT, decide_eq_true_eq, Bool.not_eq_true, if_true, if_false, Bool.false_eq_true, ite_true, ite_false, Bool.not_true, Bool.not_false, decide_true, decide_false, tFor_eq, tLc_eq, iList, iTup, iRng1, iRng2, iStr, tSl, tPart, tNoPart, rSlL, cxOf_K, wipe, ex_ty2, kit_LTl, kit_LTt, kit_LTd, kit_LTs, kit_LTn, kit_LTb, kit_LTi, tM1, rIxS, exists_eq', lt1p, tDNewK, rSlS, rEqNil, nox_K, rIsW, clsV_ty, clsV_ref, et, e1, Value.ref.injEq, forall_eq', T.t_History, implies_true, forall_const, tFld, h1, h1', HO.ins.injEq, T.t_History.cl, T.n_History_kept_versions, hf_k]
      refine ⟨k, k', _, _, rfl, rfl, h2, h2', refs_of, refs_of, ?_⟩
      by_cases e : vas.length = vas'.length
      · exact .inr ⟨by simpa using e, eq_go hv hv' e q⟩
      · refine .inl ⟨by simpa using e, ?_⟩
        have er : decide (rs = rs') = false := decide_eq_false fun z => e (by rw [hv.len, hv'.len, z])
        rw [← er]
        exact q H (Same.refl _)
    · have et : tyV H (.ref b) = some (.type "list") := by rw [tyV_ref, hb]; rfl
      try simp only [tSeq, tNext, tRet, tRetN, tAsg, gName, gSub, tDrop, tIfS, tOp, tUn, tCB, tCons, tNil, tC, tVar, rI, rI0, rU, tAnd, tOr, tNot, tAndV, tOrV, tNotV, tIf, tTest, tB, tCall, tChain, tLst, tTup, tYes, rIxH, rIsB, rIsBT, rMulS, kd_non, kd_bl, kd_int, kd_str, kd_ref, kdO_lst, kdO_tup, kdO_dK, nq_n, nq_b, nq_i, nq_s, nq_l, nq_t, nq_d, ne_eq, not_false_eq_true, kit_ss, kit_ns, kit_bs, kit_is, kit_ls, kit_ts, kit_ds, kit_bb, V.ty.injEq, and_assoc, rIxU, rLenH, rLenU, rLenS, rInt1, rSetL, rEq, rNe, rCat, L2.start, List.map, List.length, List.length_cons, List.length_nil, List.replicate, List.getElem?_cons_zero, List.getElem?_cons_succ, List.set_cons_zero, List.set_cons_succ, List.set_nil, List.cons_append, List.nil_append, List.append_nil, Option.some.injEq, V.int.injEq, V.ref.injEq, V.str.injEq, V.bl.injEq, HO.lst.injEq, HO.tup.injEq, exists_eq_left', exists_and_left, exists_eq_left, List.cons.injEq, and_true, true_and, and_false, false_and, and_self, reduceCtorEq, exists_false, or_false, false_or, exists_const, at0, at1, at2, at3, at4, at5, ix51, ix52, ix54, upd_same, Nat.reduceAdd, Nat.reduceSub, Nat.zero_add, Int.reduceToNat, Int.reduceLE, Int.reduceLT, decide_eq_true_eq, Bool.not_eq_true, if_true, if_false, Bool.false_eq_true, ite_true, ite_false, Bool.not_true, Bool.not_false, decide_true, decide_false, tFor_eq, tLc_eq, iList, iTup, iRng1, iRng2, iStr, tSl, tPart, tNoPart, rSlL, cxOf_K, wipe, ex_ty2, kit_LTl, kit_LTt, kit_LTd, kit_LTs, kit_LTn, kit_LTb, kit_LTi, tM1, rIxS, exists_eq', lt1p, tDNewK, rSlS, rEqNil, nox_K, rIsW, clsV_ty, clsV_ref, et, T.q_list_History]
      exact ⟨fun _ z => z.elim, q⟩
end



/-! ### histories as texts, plainly -/
def nS (i : Int) : Str := Str.ofString (toString i)
def pars (ps : List Int) : Str := if ps = [] then "-" else Txt.join "," (ps.map nS)
def headS (r : VR) : Str := "version " ++ r.nm ++ " " ++ pars r.ps
def rowsS (rs : List VR) : List Str := rs.flatMap fun r => headS r :: r.ls.map fun z => "|" ++ z
def fmtS (rs : List VR) : Str := Txt.join "\n" (rowsS rs)
def names4 : List Str := ["a", "version", "anon", "zyxwvuts"]
def words9 : List Str := ["a", "", "|", "||a", "version ann -", " b ", "; ", "-", Txt.mul "~" 40]
structure TRow (r : VR) : Prop where
  nm : r.nm ∈ names4
  ls : ∀ z ∈ r.ls, z ∈ words9
  ll : r.ls.length ≤ 12
  pl : r.ps.length ≤ 3
  po : r.ps.Pairwise (· < ·)
  pb : ∀ p ∈ r.ps, 0 ≤ p ∧ p < 10
def dig (i : Nat) : Str := ⟨#[48 + i]⟩
theorem nS_all : ((List.range 10).all fun i => decide (nS (i : Int) = dig i) && decide (PySem.intText? (dig i) = some (i : Int))) = true := by decide +kernel
theorem nS_dig {i : Int} (h0 : 0 ≤ i) (h1 : i < 10) : nS i = dig i.toNat ∧ PySem.intText? (dig i.toNat) = some i := by
  have q := List.all_eq_true.mp nS_all i.toNat (List.mem_range.mpr (by omega))
  simp only [Bool.and_eq_true, decide_eq_true_eq] at q
  rw [Int.toNat_of_nonneg h0] at q
  exact q
theorem tl_dig {i : Nat} : (dig i).cps.toList = [48 + i] := rfl
theorem names_ok : names4.all (fun z => isNameV (.str z) && decide (z.length ≤ 8) && z.cps.toList.all (fun c => decide (97 ≤ c) && decide (c < 123))) = true := by decide +kernel
theorem name4 {z : Str} (h : z ∈ names4) : isNameV (.str z) = true ∧ z.length ≤ 8 ∧ ∀ c ∈ z.cps.toList, 97 ≤ c ∧ c < 123 := by
  have q := List.all_eq_true.mp names_ok z h
  simp only [Bool.and_eq_true, decide_eq_true_eq] at q
  refine ⟨q.1.1, q.1.2, fun c hc => ?_⟩
  have := List.all_eq_true.mp q.2 c hc
  simpa using this
theorem words_ok : words9.all (fun z => isLineV (.str z) && decide (z.length ≤ 40) && z.cps.toList.all (fun c => decide (32 ≤ c) && decide (c < 127))) = true := by decide +kernel
theorem word9 {z : Str} (h : z ∈ words9) : isLineV (.str z) = true ∧ z.length ≤ 40 ∧ ∀ c ∈ z.cps.toList, 32 ≤ c ∧ c < 127 := by
  have q := List.all_eq_true.mp words_ok z h
  simp only [Bool.and_eq_true, decide_eq_true_eq] at q
  refine ⟨q.1.1, q.1.2, fun c hc => ?_⟩
  have := List.all_eq_true.mp q.2 c hc
  simpa using this
theorem log_small {i : Int} (h : i.natAbs < 1000) : i.natAbs.log2 < 1920 := by
  by_cases z : i.natAbs = 0
  · rw [z]; decide
  · exact (Nat.log2_lt z).mpr (Nat.lt_of_lt_of_le h (by decide))
theorem sum_le {α : Type} {f : α → Nat} {n : Nat} : ∀ {l : List α}, (∀ x ∈ l, f x ≤ n) → (l.map f).sum ≤ l.length * n
  | [], _ => by simp
  | a :: l, h => by
    have ih := sum_le fun x hx => h x (List.mem_cons_of_mem _ hx)
    have := h a List.mem_cons_self
    rw [List.map_cons, List.sum_cons, List.length_cons, Nat.add_mul, Nat.one_mul]
    omega
theorem tl_app {x y : Str} : (x ++ y).cps.toList = x.cps.toList ++ y.cps.toList := by
  show (x.cps ++ y.cps).toList = _
  rw [Array.toList_append]
theorem dig_sum {ps : List Int} (pb : ∀ p ∈ ps, 0 ≤ p ∧ p < 10) : ((ps.map nS).map (fun x => x.length)).sum ≤ ps.length * 1 := by
  rw [List.map_map]
  refine sum_le fun x hx => ?_
  have := pb x hx
  show (nS x).length ≤ 1
  rw [(nS_dig this.1 this.2).1]
  exact Nat.le_refl 1
theorem pars_len {ps : List Int} (pl : ps.length ≤ 3) (pb : ∀ p ∈ ps, 0 ≤ p ∧ p < 10) : (pars ps).length ≤ 6 := by
  unfold pars
  by_cases h : ps = []
  · rw [if_pos h]
    decide +kernel
  · rw [if_neg h, show Txt.join "," (ps.map nS) = Str.join "," (ps.map nS) from StrLaws.glued_eq_join _ _]
    have q := StrLaws.join_length_le (Str.ofString ",") (ps.map nS)
    have q2 := dig_sum pb
    rw [List.length_map, show (Str.ofString ",").length = 1 from by decide +kernel] at q
    omega
/-- the signs of a word of parents: digits, the comma, the minus -/
theorem pars_sg {ps : List Int} (pb : ∀ p ∈ ps, 0 ≤ p ∧ p < 10) : ∀ c ∈ (pars ps).cps.toList, 44 ≤ c ∧ c < 58 := by
  unfold pars
  by_cases h : ps = []
  · rw [if_pos h]
    decide +kernel
  · rw [if_neg h, show Txt.join "," (ps.map nS) = Str.join "," (ps.map nS) from StrLaws.glued_eq_join _ _]
    intro c hc
    rcases (PyProof.Rows.mem_join _ c (ps.map nS)).mp hc with ⟨t, ht, h⟩ | ⟨_, h⟩
    · obtain ⟨i, hi, rfl⟩ := List.mem_map.mp ht
      have := pb i hi
      rw [(nS_dig this.1 this.2).1, tl_dig] at h
      have := List.mem_singleton.mp h
      omega
    · have e : c = 44 := by simpa using (show c ∈ [44] from h)
      omega
theorem headS_len {r : VR} (h : TRow r) : (headS r).length ≤ 23 := by
  unfold headS
  have h1 := (name4 h.nm).2.1
  have h2 := pars_len h.pl h.pb
  rw [app_len, app_len, app_len, show (Str.ofString "version ").length = 8 from by decide +kernel, show (Str.ofString " ").length = 1 from by decide +kernel]
  omega
theorem rowsS_len {rs : List VR} (h : ∀ r ∈ rs, TRow r) : ∀ z ∈ rowsS rs, z.length ≤ 41 := fun z hz => by
  obtain ⟨r, hr, hz⟩ := List.mem_flatMap.mp hz
  rcases List.mem_cons.mp hz with e | e
  · rw [e]
    have := headS_len (h r hr)
    omega
  · obtain ⟨l, hl, rfl⟩ := List.mem_map.mp e
    have := (word9 ((h r hr).ls l hl)).2.1
    rw [app_len, show (Str.ofString "|").length = 1 from by decide +kernel]
    omega
theorem rowsS_cnt : ∀ {rs : List VR}, (∀ r ∈ rs, TRow r) → (rowsS rs).length ≤ 13 * rs.length
  | [], _ => by simp [rowsS]
  | r :: rs, h => by
    have ih := rowsS_cnt fun x hx => h x (List.mem_cons_of_mem _ hx)
    have := (h r List.mem_cons_self).ll
    unfold rowsS at ih ⊢
    rw [List.flatMap_cons, List.length_append, List.length_cons, List.length_map, List.length_cons]
    omega
theorem rowsS_snoc {rs : List VR} {r : VR} : rowsS (rs ++ [r]) = rowsS rs ++ (headS r :: r.ls.map fun z => "|" ++ z) := by
  unfold rowsS
  rw [List.flatMap_append]
  simp



/-! ### rules whose reading names the text's part: for comprehensions -/
section
variable {X : Cx} {K : PySem.W.Frag}
theorem op_in_seqK (e : X.K = K) : OpR X (compareOp .In) (rIn K false) := e ▸ op_in_seq
theorem op_notIn_seqK (e : X.K = K) : OpR X (compareOp .NotIn) (rIn K true) := e ▸ op_notIn_seq
def rTupOf (K : PySem.W.Frag) : List V → Hp → VK → Prop := fun xs H Q => ∃ p ys, xs = [.ref p] ∧ ((SqL K H p ys ∧ ∀ l, H l = none → Q (.ref l) (upd H l (.tup ys))) ∨ (SqT K H p ys ∧ Q (.ref p) H))
theorem call_tuple_ofK (e : X.K = K) : CallR X (.type "tuple") (rTupOf K) := e ▸ call_tuple_of
end

theorem flat_ints : ∀ ls : List Int, (ls.map V.int).all flatV = true
  | [] => rfl
  | _ :: r => by
    rw [List.map_cons, List.all_cons, flat_ints r]
    rfl
theorem in_ints {z : Int} : ∀ {ls : List Int}, inV (.int z) (ls.map V.int) = decide (z ∈ ls)
  | [] => by simp [inV]
  | x :: r => by
    have ih := in_ints (z := z) (ls := r)
    unfold inV at ih ⊢
    rw [List.map_cons, List.any_cons, ih]
    by_cases h : z = x
    · subst h
      simp [eqV]
    · have h' : ¬ x = z := fun e => h e.symm
      simp [eqV, h, h']

/-! ### format_parents, format_history -/
def spIter (CH : Addr) : Sp := fun vs H Q _ => ∃ h dx k xs b u, vs = [.ref h] ∧ H h = some (.ins CH dx (hF k)) ∧ H k = some (.lst xs) ∧ H b = some u ∧ ∀ it, H it = none → b < it → Q (.ref it) (upd H it (ItO k it 0))
def spFPar : Sp := fun vs H Q _ => ∃ p ps, vs = [.ref p] ∧ H p = some (.tup (List.map V.int ps)) ∧ ps.length ≤ 3 ∧ (∀ x ∈ ps, 0 ≤ x ∧ x < 10) ∧ ∀ H', Same H H' → Q (.str (pars ps)) H'
def spFHist (CH CV : Addr) : Sp := fun vs H Q _ => ∃ h vas rs, vs = [.ref h] ∧ HistAt CH CV H h vas rs ∧ (∀ r ∈ rs, TRow r) ∧ ∀ H', Same H H' → Q (.str (fmtS rs)) H'
theorem itlf_eq {K : PySem.W.Frag} {a : Addr} : ItX.ItlF K a 0 = Itl K a := by
  unfold ItX.ItlF
  simp only [Nat.zero_add]
def LFH (h r : Addr) (rs : List VR) (H0 : Hp) (i : Nat) (σ : St) (H : Hp) : Prop := ∃ v2 v3 : Option V, σ = [some (.ref h), some (.ref r), v2, v3] ∧ Same H0 H ∧ H r = some (.lst ((rowsS (rs.take i)).map V.str))
def LFH2 (h r v : Addr) (zs ls : List Str) (H0 : Hp) (i : Nat) (σ : St) (H : Hp) : Prop := ∃ v3 : Option V, σ = [some (.ref h), some (.ref r), some (.ref v), v3] ∧ Same H0 H ∧ H r = some (.lst ((zs ++ (ls.take i).map fun (z : Str) => Str.ofString "|" ++ z).map V.str))
section
variable {w : World} {K : PySem.W.Frag} {mg : Str → Option Value} {base : Heap} {A : Adr}
theorem ok_hiter (T : Txt K mg A) : FnOk PW w K mg base CX0 1 A.a_HistoryIter A.d_HistoryIter ["self"] (spIter A.k_History) := by
  refine T.f_HistoryIter.ok scHistoryIter (fun vs H Q E h => ?_) (fun cdv A' outer s H vs Q E hr h => ?_)
  · obtain ⟨h, dx, k, xs, b, u, rfl, _⟩ := h
    rfl
  · obtain ⟨h, dx, k, xs, b, u, rfl, h1, h2, hb, q⟩ := h
    refine ⟨_, (pss_one (ps_ret (pe_callB call_iterB (by rfl) T.z_iter (by decide +kernel) (pa_cons (pe_fld (pv 0) rfl) pa_nil)))), ?_⟩
    try simp only [tSeq, tNext, tRet, tRetN, tAsg, gName, gSub, tDrop, tIfS, tOp, tUn, tCB, tCons, tNil, tC, tVar, rI, rI0, rU, tAnd, tOr, tNot, tAndV, tOrV, tNotV, tIf, tTest, tB, tCall, tChain, tLst, tTup, tYes, rIxH, rIsB, rIsBT, rMulS, kd_non, kd_bl, kd_int, kd_str, kd_ref, kdO_lst, kdO_tup, kdO_dK, nq_n, nq_b, nq_i, nq_s, nq_l, nq_t, nq_d, ne_eq, not_false_eq_true, kit_ss, kit_ns, kit_bs, kit_is, kit_ls, kit_ts, kit_ds, kit_bb, V.ty.injEq, and_assoc, rIxU, rLenH, rLenU, rLenS, rInt1, rSetL, rEq, rNe, rCat, L2.start, List.map, List.length, List.length_cons, List.length_nil, List.replicate, List.getElem?_cons_zero, List.getElem?_cons_succ, List.set_cons_zero, List.set_cons_succ, List.set_nil, List.cons_append, List.nil_append, List.append_nil, Option.some.injEq, V.int.injEq, V.ref.injEq, V.str.injEq, V.bl.injEq, HO.lst.injEq, HO.tup.injEq, exists_eq_left', exists_and_left, exists_eq_left, List.cons.injEq, and_true, true_and, and_false, false_and, and_self, reduceCtorEq, exists_false, or_false, false_or, exists_const, at0, at1, at2, at3, at4, at5, ix51, ix52, ix54, upd_same, Nat.reduceAdd, Nat.reduceSub, Nat.zero_add, Int.reduceToNat, Int.reduceLE, Int.reduceLT, decide_eq_true_eq, Bool.not_eq_true, if_true, if_false, Bool.false_eq_true, ite_true, ite_false, Bool.not_true, Bool.not_false, decide_true, decide_false, tFor_eq, tLc_eq, iList, iTup, iRng1, iRng2, iStr, tSl, tPart, tNoPart, rSlL, cxOf_K, wipe, ex_ty2, kit_LTl, kit_LTt, kit_LTd, kit_LTs, kit_LTn, kit_LTb, kit_LTi, tM1, rIxS, exists_eq', lt1p, tDNewK, rSlS, rEqNil, nox_K, tFld, h1, HO.ins.injEq, T.t_History.cl, T.n_History_kept_versions, hf_k, rIterB]
    exact ⟨xs, SqL.of h2, b, u, hb, q⟩
theorem ok_fpar (T : Txt K mg A) : FnOk PW w K mg base CX0 1 A.a_FormatParents A.d_FormatParents ["parents"] spFPar := by
  refine T.f_FormatParents.ok scFormatParents (fun vs H Q E h => ?_) (fun cdv A' outer s H vs Q E hr h => ?_)
  · obtain ⟨p, ps, rfl, _⟩ := h
    rfl
  · obtain ⟨p, ps, rfl, hp, pl, pb, q⟩ := h
    refine ⟨_, (pss_cons (ps_if (pt_cmpR (op_eq) (pe_callB call_lenU (by rfl) T.z_len (by decide +kernel) (pa_cons (pv 0) pa_nil)) pe_int (nomark _)) (pss_one (ps_ret pe_str)) pss_nil)
      (pss_one (ps_ret (pe_join pe_str (pe_lc (own := [("parent", 1)]) (g := gName 1) (tt := tYes) (by rfl) scFormatParents.nd (pi_tup (pv 0)) (blkOk_by (own := [("parent", 1)]) (N := nFormatParents) (sc := defScope sFormatParents) (by decide +kernel)) (fun _ _ _ _ _ => pg_name (i := 1) scFormatParents.nd rfl (Or.inl rfl)) (fun _ _ _ _ _ => pts_nil) (fun _ _ _ _ _ => (pe_callTy call_str_int (by rfl) T.z_str (by decide +kernel) (pa_cons (pv 1) pa_nil)))))))), ?_⟩
    try simp only [tSeq, tNext, tRet, tRetN, tAsg, gName, gSub, tDrop, tIfS, tOp, tUn, tCB, tCons, tNil, tC, tVar, rI, rI0, rU, tAnd, tOr, tNot, tAndV, tOrV, tNotV, tIf, tTest, tB, tCall, tChain, tLst, tTup, tYes, rIxH, rIsB, rIsBT, rMulS, kd_non, kd_bl, kd_int, kd_str, kd_ref, kdO_lst, kdO_tup, kdO_dK, nq_n, nq_b, nq_i, nq_s, nq_l, nq_t, nq_d, ne_eq, not_false_eq_true, kit_ss, kit_ns, kit_bs, kit_is, kit_ls, kit_ts, kit_ds, kit_bb, V.ty.injEq, and_assoc, rIxU, rLenH, rLenU, rLenS, rInt1, rSetL, rEq, rNe, rCat, L2.start, List.map, List.length, List.length_cons, List.length_nil, List.replicate, List.getElem?_cons_zero, List.getElem?_cons_succ, List.set_cons_zero, List.set_cons_succ, List.set_nil, List.cons_append, List.nil_append, List.append_nil, Option.some.injEq, V.int.injEq, V.ref.injEq, V.str.injEq, V.bl.injEq, HO.lst.injEq, HO.tup.injEq, exists_eq_left', exists_and_left, exists_eq_left, List.cons.injEq, and_true, true_and, and_false, false_and, and_self, reduceCtorEq, exists_false, or_false, false_or, exists_const, at0, at1, at2, at3, at4, at5, ix51, ix52, ix54, upd_same, Nat.reduceAdd, Nat.reduceSub, Nat.zero_add, Int.reduceToNat, Int.reduceLE, Int.reduceLT, decide_eq_true_eq, Bool.not_eq_true, if_true, if_false, Bool.false_eq_true, ite_true, ite_false, Bool.not_true, Bool.not_false, decide_true, decide_false, tFor_eq, tLc_eq, iList, iTup, iRng1, iRng2, iStr, tSl, tPart, tNoPart, rSlL, cxOf_K, wipe, ex_ty2, kit_LTl, kit_LTt, kit_LTd, kit_LTs, kit_LTn, kit_LTb, kit_LTi, tM1, rIxS, exists_eq', lt1p, tDNewK, rSlS, rEqNil, nox_K, hp, scal_int]
    rw [List.length_map]
    by_cases h0 : ps = []
    · subst h0
      rw [if_pos (by simp)]
      exact q H (Same.refl _)
    · have hl : ps.length ≠ 0 := fun z => h0 (List.eq_nil_of_length_eq_zero z)
      rw [if_neg (by omega)]
      refine ⟨⟨_, SqT.of hp⟩, fun D hD => ?_⟩
      refine lc_same (walk_tup (K := K) (xs := ps.map V.int)) (fun _ => true) (fun v => .str (nS (cntOf v))) hD (fun _ s2 => SqT.of (s2 _ _ hp)) (by rw [List.length_map]; omega) (fun x hx H2 s2 R R0 h1 _ => ?_) (fun H2 s2 h2 => ?_)
      · obtain ⟨j, hj, rfl⟩ := List.mem_map.mp hx
        try simp only [tSeq, tNext, tRet, tRetN, tAsg, gName, gSub, tDrop, tIfS, tOp, tUn, tCB, tCons, tNil, tC, tVar, rI, rI0, rU, tAnd, tOr, tNot, tAndV, tOrV, tNotV, tIf, tTest, tB, tCall, tChain, tLst, tTup, tYes, rIxH, rIsB, rIsBT, rMulS, kd_non, kd_bl, kd_int, kd_str, kd_ref, kdO_lst, kdO_tup, kdO_dK, nq_n, nq_b, nq_i, nq_s, nq_l, nq_t, nq_d, ne_eq, not_false_eq_true, kit_ss, kit_ns, kit_bs, kit_is, kit_ls, kit_ts, kit_ds, kit_bb, V.ty.injEq, and_assoc, rIxU, rLenH, rLenU, rLenS, rInt1, rSetL, rEq, rNe, rCat, L2.start, List.map, List.length, List.length_cons, List.length_nil, List.replicate, List.getElem?_cons_zero, List.getElem?_cons_succ, List.set_cons_zero, List.set_cons_succ, List.set_nil, List.cons_append, List.nil_append, List.append_nil, Option.some.injEq, V.int.injEq, V.ref.injEq, V.str.injEq, V.bl.injEq, HO.lst.injEq, HO.tup.injEq, exists_eq_left', exists_and_left, exists_eq_left, List.cons.injEq, and_true, true_and, and_false, false_and, and_self, reduceCtorEq, exists_false, or_false, false_or, exists_const, at0, at1, at2, at3, at4, at5, ix51, ix52, ix54, upd_same, Nat.reduceAdd, Nat.reduceSub, Nat.zero_add, Int.reduceToNat, Int.reduceLE, Int.reduceLT, decide_eq_true_eq, Bool.not_eq_true, if_true, if_false, Bool.false_eq_true, ite_true, ite_false, Bool.not_true, Bool.not_false, decide_true, decide_false, tFor_eq, tLc_eq, iList, iTup, iRng1, iRng2, iStr, tSl, tPart, tNoPart, rSlL, cxOf_K, wipe, ex_ty2, kit_LTl, kit_LTt, kit_LTd, kit_LTs, kit_LTn, kit_LTb, kit_LTi, tM1, rIxS, exists_eq', lt1p, tDNewK, rSlS, rEqNil, nox_K]
        have := pb j hj
        exact ⟨log_small (by omega), h1 H2 (Same.refl _) rfl⟩
      · rw [filter_all, List.map_map] at h2
        refine ⟨D, rfl, ps.map nS, .inl (SqL.of (by rw [h2, List.map_map]; rfl)), ?_, ?_⟩
        · have e := dig_sum pb
          rw [List.length_map, show (Str.ofString ",").length = 1 from by decide +kernel]
          omega
        · have e : pars ps = Txt.join (Str.ofString ",") (ps.map nS) := by unfold pars; rw [if_neg h0]
          rw [← e]
          exact q H2 s2
theorem ok_fhist (T : Txt K mg A) (gHistoryIter : FnOk PW w K mg base CX0 1 A.a_HistoryIter A.d_HistoryIter ["self"] (spIter A.k_History)) (gFormatParents : FnOk PW w K mg base CX0 1 A.a_FormatParents A.d_FormatParents ["parents"] spFPar)
    (gVersionLines : FnOk PW w K mg base CX0 1 A.a_VersionLines A.d_VersionLines ["self"] (spLines A.k_Version)) (gVersionParents : FnOk PW w K mg base CX0 1 A.a_VersionParents A.d_VersionParents ["self"] (spParents A.k_Version)) (gVersionAuthor : FnOk PW w K mg base CX0 1 A.a_VersionAuthor A.d_VersionAuthor ["self"] (spAuthor A.k_Version)) :
    FnOk PW w K mg base CX0 3 A.a_FormatHistory A.d_FormatHistory ["history"] (spFHist A.k_History A.k_Version) := by
  refine T.f_FormatHistory.ok scFormatHistory (fun vs H Q E h => ?_) (fun cdv A' outer s H vs Q E hr h => ?_)
  · obtain ⟨h, vas, rs, rfl, _⟩ := h
    rfl
  · obtain ⟨h, vas, rs, rfl, hh, tr, q⟩ := h
    refine ⟨_, (pss_cons (ps_set (i := 1) scFormatHistory.nd rfl (Or.inl rfl) (pe_lstN pa_nil))
      (pss_cons (ps_for PassesOwn.never rfl (pi_ownIt T.o_HistoryIter gHistoryIter (hr.mono (by decide)) T.b_HistoryIter pass0 (pv 0)) (pg_name (i := 2) scFormatHistory.nd rfl (Or.inl rfl)) (pss_cons (ps_expr (pe_bm PySem.F.plainAttrs_list PySem.F.slot_list_append PySem.F.type_list_append mt_append (pv 1) (pa_cons (pe_op op_add_str (pe_op op_add_str (pe_op op_add_str pe_str (pe_prop (pv 2) T.t_Version.cl T.h_VersionAuthor gVersionAuthor (hr.mono (by decide)) T.b_VersionAuthor .nil pass0 (by rfl))) pe_str) (pe_call gFormatParents (hr.mono (by decide)) (by rfl) T.m_FormatParents T.f_FormatParents.kp T.b_FormatParents .nil pass0 (pa_cons (pe_prop (pv 2) T.t_Version.cl T.h_VersionParents gVersionParents (hr.mono (by decide)) T.b_VersionParents .nil pass0 (by rfl)) pa_nil))) pa_nil)))
      (pss_one (ps_for PassesOwn.never rfl (pi_tup (pe_prop (pv 2) T.t_Version.cl T.h_VersionLines gVersionLines (hr.mono (by decide)) T.b_VersionLines .nil pass0 (by rfl))) (pg_name (i := 3) scFormatHistory.nd rfl (Or.inl rfl)) (pss_one (ps_expr (pe_bm PySem.F.plainAttrs_list PySem.F.slot_list_append PySem.F.type_list_append mt_append (pv 1) (pa_cons (pe_op op_add_str pe_str (pv 3)) pa_nil))))))))
      (pss_one (ps_ret (pe_join pe_str (pv 1)))))), ?_⟩
    refine seq_gen fun N eN => ?_
    try simp only [tSeq, tNext, tRet, tRetN, tAsg, gName, gSub, tDrop, tIfS, tOp, tUn, tCB, tCons, tNil, tC, tVar, rI, rI0, rU, tAnd, tOr, tNot, tAndV, tOrV, tNotV, tIf, tTest, tB, tCall, tChain, tLst, tTup, tYes, rIxH, rIsB, rIsBT, rMulS, kd_non, kd_bl, kd_int, kd_str, kd_ref, kdO_lst, kdO_tup, kdO_dK, nq_n, nq_b, nq_i, nq_s, nq_l, nq_t, nq_d, ne_eq, not_false_eq_true, kit_ss, kit_ns, kit_bs, kit_is, kit_ls, kit_ts, kit_ds, kit_bb, V.ty.injEq, and_assoc, rIxU, rLenH, rLenU, rLenS, rInt1, rSetL, rEq, rNe, rCat, L2.start, List.map, List.length, List.length_cons, List.length_nil, List.replicate, List.getElem?_cons_zero, List.getElem?_cons_succ, List.set_cons_zero, List.set_cons_succ, List.set_nil, List.cons_append, List.nil_append, List.append_nil, Option.some.injEq, V.int.injEq, V.ref.injEq, V.str.injEq, V.bl.injEq, HO.lst.injEq, HO.tup.injEq, exists_eq_left', exists_and_left, exists_eq_left, List.cons.injEq, and_true, true_and, and_false, false_and, and_self, reduceCtorEq, exists_false, or_false, false_or, exists_const, at0, at1, at2, at3, at4, at5, ix51, ix52, ix54, upd_same, Nat.reduceAdd, Nat.reduceSub, Nat.zero_add, Int.reduceToNat, Int.reduceLE, Int.reduceLT, decide_eq_true_eq, Bool.not_eq_true, if_true, if_false, Bool.false_eq_true, ite_true, ite_false, Bool.not_true, Bool.not_false, decide_true, decide_false, tFor_eq, tLc_eq, iList, iTup, iRng1, iRng2, iStr, tSl, tPart, tNoPart, rSlL, cxOf_K, wipe, ex_ty2, kit_LTl, kit_LTt, kit_LTd, kit_LTs, kit_LTn, kit_LTb, kit_LTi, tM1, rIxS, exists_eq', lt1p, tDNewK, rSlS, rEqNil, nox_K, tLstN]
    refine ⟨by decide, fun r nr hn => ?_⟩
    generalize g1 : upd H r _ = H1
    obtain ⟨s1, hr1⟩ := new_facts nr g1
    clear g1
    rw [eN]
    clear eN N
    refine seq_gen fun N eN => ?_
    obtain ⟨⟨dx, k, h1H, h2H⟩, hv, l10, gr⟩ := id hh
    have h1 := s1 _ _ h1H
    have h2 := s1 _ _ h2H
    try simp only [tSeq, tNext, tRet, tRetN, tAsg, gName, gSub, tDrop, tIfS, tOp, tUn, tCB, tCons, tNil, tC, tVar, rI, rI0, rU, tAnd, tOr, tNot, tAndV, tOrV, tNotV, tIf, tTest, tB, tCall, tChain, tLst, tTup, tYes, rIxH, rIsB, rIsBT, rMulS, kd_non, kd_bl, kd_int, kd_str, kd_ref, kdO_lst, kdO_tup, kdO_dK, nq_n, nq_b, nq_i, nq_s, nq_l, nq_t, nq_d, ne_eq, not_false_eq_true, kit_ss, kit_ns, kit_bs, kit_is, kit_ls, kit_ts, kit_ds, kit_bb, V.ty.injEq, and_assoc, rIxU, rLenH, rLenU, rLenS, rInt1, rSetL, rEq, rNe, rCat, L2.start, List.map, List.length, List.length_cons, List.length_nil, List.replicate, List.getElem?_cons_zero, List.getElem?_cons_succ, List.set_cons_zero, List.set_cons_succ, List.set_nil, List.cons_append, List.nil_append, List.append_nil, Option.some.injEq, V.int.injEq, V.ref.injEq, V.str.injEq, V.bl.injEq, HO.lst.injEq, HO.tup.injEq, exists_eq_left', exists_and_left, exists_eq_left, List.cons.injEq, and_true, true_and, and_false, false_and, and_self, reduceCtorEq, exists_false, or_false, false_or, exists_const, at0, at1, at2, at3, at4, at5, ix51, ix52, ix54, upd_same, Nat.reduceAdd, Nat.reduceSub, Nat.zero_add, Int.reduceToNat, Int.reduceLE, Int.reduceLT, decide_eq_true_eq, Bool.not_eq_true, if_true, if_false, Bool.false_eq_true, ite_true, ite_false, Bool.not_true, Bool.not_false, decide_true, decide_false, tFor_eq, tLc_eq, iList, iTup, iRng1, iRng2, iStr, tSl, tPart, tNoPart, rSlL, cxOf_K, wipe, ex_ty2, kit_LTl, kit_LTt, kit_LTd, kit_LTs, kit_LTn, kit_LTb, kit_LTi, tM1, rIxS, exists_eq', lt1p, tDNewK, rSlS, rEqNil, nox_K, iOwnIt, h1, HO.ins.injEq]
    refine ⟨h, dx, k, _, r, _, rfl, h1, h2, hr1, fun it nit lt => ?_⟩
    have e0 : ItX.dropH (upd H1 it (ItO k it 0)) it = H1 := ItX.dropH_upd nit
    refine ⟨it, rfl, k, upd_same, Nat.le_trans hn (Nat.le_of_lt lt), ?_⟩
    rw [e0, itlf_eq]
    have nrH : H r = none := nr
    refine for_go (walk_list (K := K) (a := k) (xs := vas.map V.ref)) (LFH h r rs H) ⟨_, _, rfl, s1, by rw [hr1, List.take_zero]; rfl⟩ (fun i σ H' _ q' => ?_) (fun i x σ H2 hx q' => ?_) (fun σ H2 q' => ?_)
    · obtain ⟨_, _, _, s2, _⟩ := q'
      exact SqL.of (s2 _ _ h2H)
    · obtain ⟨v2, v3, rfl, s2, hr2⟩ := q'
      have hi : i < vas.length := by
        have := (List.getElem?_eq_some_iff.mp hx).1
        rwa [List.length_map] at this
      have hi' : i < rs.length := by rw [← hv.len]; exact hi
      rw [List.getElem?_map, List.getElem?_eq_getElem hi] at hx
      have hx := Option.some.inj hx
      subst hx
      obtain ⟨vv, vo⟩ := hv.ea i vas[i] rs[i] (List.getElem?_eq_getElem hi) (List.getElem?_eq_getElem hi')
      obtain ⟨dx', l', p', q1H, q2H, q3H⟩ := vv.ex
      have row := tr rs[i] (List.getElem_mem hi')
      have q1 := s2 _ _ q1H
      have q2 := s2 _ _ q2H
      have q3 := s2 _ _ q3H
      have hnm := (name4 row.nm).2.1
      have hpl := pars_len row.pl row.pb
      have hcnt := rowsS_cnt (rs := rs.take i) fun x hx => tr x (List.mem_of_mem_take hx)
      rw [List.length_take] at hcnt
      refine seq_gen fun N2 eN2 => ?_
      try simp only [tSeq, tNext, tRet, tRetN, tAsg, gName, gSub, tDrop, tIfS, tOp, tUn, tCB, tCons, tNil, tC, tVar, rI, rI0, rU, tAnd, tOr, tNot, tAndV, tOrV, tNotV, tIf, tTest, tB, tCall, tChain, tLst, tTup, tYes, rIxH, rIsB, rIsBT, rMulS, kd_non, kd_bl, kd_int, kd_str, kd_ref, kdO_lst, kdO_tup, kdO_dK, nq_n, nq_b, nq_i, nq_s, nq_l, nq_t, nq_d, ne_eq, not_false_eq_true, kit_ss, kit_ns, kit_bs, kit_is, kit_ls, kit_ts, kit_ds, kit_bb, V.ty.injEq, and_assoc, rIxU, rLenH, rLenU, rLenS, rInt1, rSetL, rEq, rNe, rCat, L2.start, List.map, List.length, List.length_cons, List.length_nil, List.replicate, List.getElem?_cons_zero, List.getElem?_cons_succ, List.set_cons_zero, List.set_cons_succ, List.set_nil, List.cons_append, List.nil_append, List.append_nil, Option.some.injEq, V.int.injEq, V.ref.injEq, V.str.injEq, V.bl.injEq, HO.lst.injEq, HO.tup.injEq, exists_eq_left', exists_and_left, exists_eq_left, List.cons.injEq, and_true, true_and, and_false, false_and, and_self, reduceCtorEq, exists_false, or_false, false_or, exists_const, at0, at1, at2, at3, at4, at5, ix51, ix52, ix54, upd_same, Nat.reduceAdd, Nat.reduceSub, Nat.zero_add, Int.reduceToNat, Int.reduceLE, Int.reduceLT, decide_eq_true_eq, Bool.not_eq_true, if_true, if_false, Bool.false_eq_true, ite_true, ite_false, Bool.not_true, Bool.not_false, decide_true, decide_false, tFor_eq, tLc_eq, iList, iTup, iRng1, iRng2, iStr, tSl, tPart, tNoPart, rSlL, cxOf_K, wipe, ex_ty2, kit_LTl, kit_LTt, kit_LTd, kit_LTs, kit_LTn, kit_LTb, kit_LTi, tM1, rIxS, exists_eq', lt1p, tDNewK, rSlS, rEqNil, nox_K, tBM, tProp, q1, HO.ins.injEq, rAppend]
      have e8 : (Str.ofString "version ").length = 8 := by decide +kernel
      have e1 : (Str.ofString " ").length = 1 := by decide +kernel
      refine ⟨.inl ⟨rfl, _, SqL.of hr2⟩, vas[i], dx', l', p', _, rfl, q1, _, rfl, size1000 (by omega), size1000 (by rw [app_len]; omega), dx', _, q1, vas[i], dx', l', p', _, rfl, q1, p', _, rfl, q3, row.pl, row.pb, fun H3 s3 => ?_⟩
      refine ⟨_, rfl, size1000 (by rw [app_len, app_len]; omega), _, s3 _ _ hr2, Nat.lt_of_le_of_lt (m := 1000) (by rw [List.length_map]; omega) (by decide), ?_⟩
      rw [eN2]
      clear eN2 N2
      have s4 : Same H (upd H3 r (.lst (List.map V.str (rowsS (rs.take i)) ++ [V.str (Str.ofString "version " ++ rs[i].nm ++ Str.ofString " " ++ pars rs[i].ps)]))) := fun b o e => by
        rw [upd_ne (ne_of_none e nrH)]
        exact s3 _ _ (s2 _ _ e)
      have hr4 : upd H3 r (.lst (List.map V.str (rowsS (rs.take i)) ++ [V.str (Str.ofString "version " ++ rs[i].nm ++ Str.ofString " " ++ pars rs[i].ps)])) r = some (.lst ((rowsS (rs.take i) ++ [headS rs[i]]).map V.str)) := by
        rw [upd_same, List.map_append]
        rfl
      generalize upd H3 r (.lst (List.map V.str (rowsS (rs.take i)) ++ [V.str (Str.ofString "version " ++ rs[i].nm ++ Str.ofString " " ++ pars rs[i].ps)])) = H4 at s4 hr4
      have q14 := s4 _ _ q1H
      have q24 := s4 _ _ q2H
      have hll := row.ll
      try simp only [tSeq, tNext, tRet, tRetN, tAsg, gName, gSub, tDrop, tIfS, tOp, tUn, tCB, tCons, tNil, tC, tVar, rI, rI0, rU, tAnd, tOr, tNot, tAndV, tOrV, tNotV, tIf, tTest, tB, tCall, tChain, tLst, tTup, tYes, rIxH, rIsB, rIsBT, rMulS, kd_non, kd_bl, kd_int, kd_str, kd_ref, kdO_lst, kdO_tup, kdO_dK, nq_n, nq_b, nq_i, nq_s, nq_l, nq_t, nq_d, ne_eq, not_false_eq_true, kit_ss, kit_ns, kit_bs, kit_is, kit_ls, kit_ts, kit_ds, kit_bb, V.ty.injEq, and_assoc, rIxU, rLenH, rLenU, rLenS, rInt1, rSetL, rEq, rNe, rCat, L2.start, List.map, List.length, List.length_cons, List.length_nil, List.replicate, List.getElem?_cons_zero, List.getElem?_cons_succ, List.set_cons_zero, List.set_cons_succ, List.set_nil, List.cons_append, List.nil_append, List.append_nil, Option.some.injEq, V.int.injEq, V.ref.injEq, V.str.injEq, V.bl.injEq, HO.lst.injEq, HO.tup.injEq, exists_eq_left', exists_and_left, exists_eq_left, List.cons.injEq, and_true, true_and, and_false, false_and, and_self, reduceCtorEq, exists_false, or_false, false_or, exists_const, at0, at1, at2, at3, at4, at5, ix51, ix52, ix54, upd_same, Nat.reduceAdd, Nat.reduceSub, Nat.zero_add, Int.reduceToNat, Int.reduceLE, Int.reduceLT, decide_eq_true_eq, Bool.not_eq_true, if_true, if_false, Bool.false_eq_true, ite_true, ite_false, Bool.not_true, Bool.not_false, decide_true, decide_false, tFor_eq, tLc_eq, iList, iTup, iRng1, iRng2, iStr, tSl, tPart, tNoPart, rSlL, cxOf_K, wipe, ex_ty2, kit_LTl, kit_LTt, kit_LTd, kit_LTs, kit_LTn, kit_LTb, kit_LTi, tM1, rIxS, exists_eq', lt1p, tDNewK, rSlS, rEqNil, nox_K, tProp, q14, HO.ins.injEq]
      refine ⟨vas[i], dx', l', p', _, rfl, q14, l', rfl, ⟨_, SqT.of q24⟩, ?_⟩
      refine for_go (walk_tup (K := K) (a := l') (xs := rs[i].ls.map V.str)) (LFH2 h r vas[i] (rowsS (rs.take i) ++ [headS rs[i]]) rs[i].ls H) ⟨_, rfl, s4, by rw [hr4, List.take_zero, List.map_nil, List.append_nil]⟩ (fun j σ H' _ q' => ?_) (fun j x σ H5 hx q' => ?_) (fun σ H5 q' => ?_)
      · obtain ⟨_, _, s5, _⟩ := q'
        exact SqT.of (s5 _ _ q2H)
      · obtain ⟨v3, rfl, s5, hr5⟩ := q'
        have hj : j < rs[i].ls.length := by
          have := (List.getElem?_eq_some_iff.mp hx).1
          rwa [List.length_map] at this
        rw [List.getElem?_map, List.getElem?_eq_getElem hj] at hx
        have hx := Option.some.inj hx
        subst hx
        have hw := (word9 (row.ls _ (List.getElem_mem hj))).2.1
        try simp only [tSeq, tNext, tRet, tRetN, tAsg, gName, gSub, tDrop, tIfS, tOp, tUn, tCB, tCons, tNil, tC, tVar, rI, rI0, rU, tAnd, tOr, tNot, tAndV, tOrV, tNotV, tIf, tTest, tB, tCall, tChain, tLst, tTup, tYes, rIxH, rIsB, rIsBT, rMulS, kd_non, kd_bl, kd_int, kd_str, kd_ref, kdO_lst, kdO_tup, kdO_dK, nq_n, nq_b, nq_i, nq_s, nq_l, nq_t, nq_d, ne_eq, not_false_eq_true, kit_ss, kit_ns, kit_bs, kit_is, kit_ls, kit_ts, kit_ds, kit_bb, V.ty.injEq, and_assoc, rIxU, rLenH, rLenU, rLenS, rInt1, rSetL, rEq, rNe, rCat, L2.start, List.map, List.length, List.length_cons, List.length_nil, List.replicate, List.getElem?_cons_zero, List.getElem?_cons_succ, List.set_cons_zero, List.set_cons_succ, List.set_nil, List.cons_append, List.nil_append, List.append_nil, Option.some.injEq, V.int.injEq, V.ref.injEq, V.str.injEq, V.bl.injEq, HO.lst.injEq, HO.tup.injEq, exists_eq_left', exists_and_left, exists_eq_left, List.cons.injEq, and_true, true_and, and_false, false_and, and_self, reduceCtorEq, exists_false, or_false, false_or, exists_const, at0, at1, at2, at3, at4, at5, ix51, ix52, ix54, upd_same, Nat.reduceAdd, Nat.reduceSub, Nat.zero_add, Int.reduceToNat, Int.reduceLE, Int.reduceLT, decide_eq_true_eq, Bool.not_eq_true, if_true, if_false, Bool.false_eq_true, ite_true, ite_false, Bool.not_true, Bool.not_false, decide_true, decide_false, tFor_eq, tLc_eq, iList, iTup, iRng1, iRng2, iStr, tSl, tPart, tNoPart, rSlL, cxOf_K, wipe, ex_ty2, kit_LTl, kit_LTt, kit_LTd, kit_LTs, kit_LTn, kit_LTb, kit_LTi, tM1, rIxS, exists_eq', lt1p, tDNewK, rSlS, rEqNil, nox_K, tBM, rAppend, hr5]
        refine ⟨.inl ⟨rfl, _, SqL.of hr5⟩, size1000 (by rw [show (Str.ofString "|").length = 1 from by decide +kernel]; omega), Nat.lt_of_le_of_lt (m := 1000) (by rw [List.length_map, List.length_append, List.length_append, List.length_map, List.length_take, List.length_singleton]; omega) (by decide), ?_⟩
        refine ⟨_, rfl, fun b o e => (by rw [upd_ne (ne_of_none e nrH)]; exact s5 _ _ e), ?_⟩
        rw [upd_same, take_get (List.getElem?_eq_getElem hj)]
        simp only [List.map_append, List.append_assoc, List.map_cons, List.map_nil]
      · obtain ⟨v3, rfl, s5, hr5⟩ := q'
        rw [List.length_map, List.take_length] at hr5
        refine ⟨_, _, rfl, s5, ?_⟩
        rw [hr5, take_get (List.getElem?_eq_getElem hi'), rowsS_snoc, List.append_assoc]
        rfl
    · obtain ⟨v2, v3, rfl, s2, hr2⟩ := q'
      rw [List.length_map, hv.len, List.take_length] at hr2
      dsimp only
      rw [eN]
      clear eN N
      try simp only [tSeq, tNext, tRet, tRetN, tAsg, gName, gSub, tDrop, tIfS, tOp, tUn, tCB, tCons, tNil, tC, tVar, rI, rI0, rU, tAnd, tOr, tNot, tAndV, tOrV, tNotV, tIf, tTest, tB, tCall, tChain, tLst, tTup, tYes, rIxH, rIsB, rIsBT, rMulS, kd_non, kd_bl, kd_int, kd_str, kd_ref, kdO_lst, kdO_tup, kdO_dK, nq_n, nq_b, nq_i, nq_s, nq_l, nq_t, nq_d, ne_eq, not_false_eq_true, kit_ss, kit_ns, kit_bs, kit_is, kit_ls, kit_ts, kit_ds, kit_bb, V.ty.injEq, and_assoc, rIxU, rLenH, rLenU, rLenS, rInt1, rSetL, rEq, rNe, rCat, L2.start, List.map, List.length, List.length_cons, List.length_nil, List.replicate, List.getElem?_cons_zero, List.getElem?_cons_succ, List.set_cons_zero, List.set_cons_succ, List.set_nil, List.cons_append, List.nil_append, List.append_nil, Option.some.injEq, V.int.injEq, V.ref.injEq, V.str.injEq, V.bl.injEq, HO.lst.injEq, HO.tup.injEq, exists_eq_left', exists_and_left, exists_eq_left, List.cons.injEq, and_true, true_and, and_false, false_and, and_self, reduceCtorEq, exists_false, or_false, false_or, exists_const, at0, at1, at2, at3, at4, at5, ix51, ix52, ix54, upd_same, Nat.reduceAdd, Nat.reduceSub, Nat.zero_add, Int.reduceToNat, Int.reduceLE, Int.reduceLT, decide_eq_true_eq, Bool.not_eq_true, if_true, if_false, Bool.false_eq_true, ite_true, ite_false, Bool.not_true, Bool.not_false, decide_true, decide_false, tFor_eq, tLc_eq, iList, iTup, iRng1, iRng2, iStr, tSl, tPart, tNoPart, rSlL, cxOf_K, wipe, ex_ty2, kit_LTl, kit_LTt, kit_LTd, kit_LTs, kit_LTn, kit_LTb, kit_LTi, tM1, rIxS, exists_eq', lt1p, tDNewK, rSlS, rEqNil, nox_K]
      have hc := rowsS_cnt tr
      have hs := sum_le (l := rowsS rs) (f := fun x => x.length) (n := 41) (rowsS_len tr)
      have hrl : rs.length ≤ 10 := by rw [← hv.len]; exact l10
      refine ⟨rowsS rs, .inl (SqL.of hr2), ?_, q H2 s2⟩
      rw [show (Str.ofString "\n").length = 1 from by decide +kernel]
      omega
end



/-! ### counts, parents, heads read -/
def spCW : Sp := fun vs H Q _ => ∃ i : Nat, vs = [.str (dig i)] ∧ i < 10 ∧ ∀ H', Same H H' → Q (.bl true) H'
def spCI : Sp := fun vs H Q _ => ∃ i : Int, vs = [.str (nS i)] ∧ 0 ≤ i ∧ i < 10 ∧ ∀ H', Same H H' → Q (.int i) H'
def spPIn : Sp := fun vs H Q _ => ∃ ps n, vs = [.str (pars ps), .int n] ∧ ps.length ≤ 3 ∧ ps.Pairwise (· < ·) ∧ (∀ x ∈ ps, 0 ≤ x ∧ x < 10 ∧ x < n) ∧ ∀ H' a, Same H H' → H a = none → H' a = some (.lst (ps.map V.int)) → Q (.ref a) H'
theorem dig_ne {i : Nat} : dig i ≠ Str.ofString "" := fun e => by
  have := congrArg (fun z : Str => z.cps.toList.length) e
  have e0 : (Str.ofString "").cps.toList.length = 0 := by decide +kernel
  exact absurd (show (1 : Nat) = 0 from (show (1 : Nat) = (Str.ofString "").cps.toList.length from this).trans e0) (by decide)
theorem digs_all : ((List.range 10).all fun i => decide (48 + i ∈ (Str.ofString "0123456789").cps.toList)) = true := by decide +kernel
theorem dig_in {i : Nat} (h : i < 10) : 48 + i ∈ (Str.ofString "0123456789").cps.toList := of_decide_eq_true (List.all_eq_true.mp digs_all i (List.mem_range.mpr h))
theorem pars_ne {ps : List Int} (h : ps ≠ []) (pb : ∀ p ∈ ps, 0 ≤ p ∧ p < 10) : pars ps ≠ Str.ofString "-" := fun e => by
  unfold pars at e
  rw [if_neg h] at e
  cases ps with
  | nil => exact h rfl
  | cons p ps =>
    have b := pb p List.mem_cons_self
    have e1 := congrArg (fun z : Str => z.cps.toList) e
    have ej : (Txt.join "," ((p :: ps).map nS)).cps.toList = (TL.joinL (TL.tl ",") (((p :: ps).map nS).map TL.tl)) := by
      rw [show Txt.join "," ((p :: ps).map nS) = Str.join "," ((p :: ps).map nS) from StrLaws.glued_eq_join _ _]
      exact TL.tl_join _ _
    replace e1 : (Txt.join "," ((p :: ps).map nS)).cps.toList = (Str.ofString "-").cps.toList := e1
    rw [ej] at e1
    have hd : (TL.joinL (TL.tl ",") (((p :: ps).map nS).map TL.tl)).head? = some (48 + p.toNat) := by
      rw [List.map_cons, List.map_cons, (nS_dig b.1 b.2).1]
      cases ps with
      | nil => rfl
      | cons q ps => rfl
    rw [e1] at hd
    have : some 45 = some (48 + p.toNat) := (show (Str.ofString "-").cps.toList.head? = some 45 from by decide +kernel).symm.trans hd
    have := Option.some.inj this
    omega
def cntOfS : V → Int
  | .str z => (PySem.intText? z).getD 0
  | _ => 0
theorem cntOfS_nS {i : Int} (h0 : 0 ≤ i) (h1 : i < 10) : cntOfS (.str (nS i)) = i := by
  obtain ⟨e1, e2⟩ := nS_dig h0 h1
  show (PySem.intText? (nS i)).getD 0 = i
  rw [e1, e2]
  rfl
def lastOf (ps : List Int) (i : Nat) : Int := match i with
  | 0 => -1
  | i + 1 => ps.getD i 0
def LPI (ps : List Int) (n : Int) (D : Addr) (H0 : Hp) (i : Nat) (σ : St) (H : Hp) : Prop := ∃ v4 : Option V, σ = [some (.str (pars ps)), some (.int n), some (.ref D), some (.int (lastOf ps i)), v4, none] ∧ H = H0 ∧ ∀ x ∈ ([] : List Int), True
section
variable {w : World} {K : PySem.W.Frag} {mg : Str → Option Value} {base : Heap} {A : Adr}
theorem ok_cw (T : Txt K mg A) : FnOk PW w K mg base CX0 1 A.a_IsCountWord A.d_IsCountWord ["word"] spCW := by
  refine T.f_IsCountWord.ok scIsCountWord (fun vs H Q E h => ?_) (fun cdv A' outer s H vs Q E hr h => ?_)
  · obtain ⟨i, rfl, _⟩ := h
    rfl
  · obtain ⟨i, rfl, hi, q⟩ := h
    refine ⟨_, (pss_cons (ps_if (PW.pt (pw_or (pt_cmpR (op_eq) (pv 0) pe_str (nomark _)) (pw_or (pt_cmpR (op_gt) (pe_callB call_lenS (by rfl) T.z_len (by decide +kernel) (pa_cons (pv 0) pa_nil)) (pe_glob (v := .int 30) (by rfl) T.c_MOST_DIGITS.choose_spec ⟨_, rfl⟩) (nomark _)) (pw_or1 (pt_not (pt_val (pe_callB (cr_all rfl) (by rfl) T.z_all (by decide +kernel) (pa_cons (pe_lc (own := [("sign", 1)]) (g := gName 1) (tt := tYes) (by rfl) scIsCountWord.nd (pi_str (pv 0)) (blkOk_by (own := [("sign", 1)]) (N := nIsCountWord) (sc := defScope sIsCountWord) (by decide +kernel)) (fun _ _ _ _ _ => pg_name (i := 1) scIsCountWord.nd rfl (Or.inl rfl)) (fun _ _ _ _ _ => pts_nil) (fun _ _ _ _ _ => (pe_cmpR (op_in_sign) (pv 1) (pe_glob (v := .str "0123456789") (by rfl) T.c_DIGITS.choose_spec ⟨_, rfl⟩) (by rfl)))) pa_nil)))))))) (pss_one (ps_ret pe_bl)) pss_nil)
      (pss_one (ps_ret (pe_or (pe_cmpR (op_eq) (pv 0) pe_str (nomark _)) (pe_one (pe_cmpR (op_ne) (pe_ix ix_str (pv 0) pe_int (fun _ _ => rfl)) pe_str (nomark _))))))), ?_⟩
    try simp only [tSeq, tNext, tRet, tRetN, tAsg, gName, gSub, tDrop, tIfS, tOp, tUn, tCB, tCons, tNil, tC, tVar, rI, rI0, rU, tAnd, tOr, tNot, tAndV, tOrV, tNotV, tIf, tTest, tB, tCall, tChain, tLst, tTup, tYes, rIxH, rIsB, rIsBT, rMulS, kd_non, kd_bl, kd_int, kd_str, kd_ref, kdO_lst, kdO_tup, kdO_dK, nq_n, nq_b, nq_i, nq_s, nq_l, nq_t, nq_d, ne_eq, not_false_eq_true, kit_ss, kit_ns, kit_bs, kit_is, kit_ls, kit_ts, kit_ds, kit_bb, V.ty.injEq, and_assoc, rIxU, rLenH, rLenU, rLenS, rInt1, rSetL, rEq, rNe, rCat, L2.start, List.map, List.length, List.length_cons, List.length_nil, List.replicate, List.getElem?_cons_zero, List.getElem?_cons_succ, List.set_cons_zero, List.set_cons_succ, List.set_nil, List.cons_append, List.nil_append, List.append_nil, Option.some.injEq, V.int.injEq, V.ref.injEq, V.str.injEq, V.bl.injEq, HO.lst.injEq, HO.tup.injEq, exists_eq_left', exists_and_left, exists_eq_left, List.cons.injEq, and_true, true_and, and_false, false_and, and_self, reduceCtorEq, exists_false, or_false, false_or, exists_const, at0, at1, at2, at3, at4, at5, ix51, ix52, ix54, upd_same, Nat.reduceAdd, Nat.reduceSub, Nat.zero_add, Int.reduceToNat, Int.reduceLE, Int.reduceLT, decide_eq_true_eq, Bool.not_eq_true, if_true, if_false, Bool.false_eq_true, ite_true, ite_false, Bool.not_true, Bool.not_false, decide_true, decide_false, tFor_eq, tLc_eq, iList, iTup, iRng1, iRng2, iStr, tSl, tPart, tNoPart, rSlL, cxOf_K, wipe, ex_ty2, kit_LTl, kit_LTt, kit_LTd, kit_LTs, kit_LTn, kit_LTb, kit_LTi, tM1, rIxS, exists_eq', lt1p, tDNewK, rSlS, rEqNil, nox_K, scal_str]
    rw [if_neg dig_ne]
    have l1 : (dig i).length = 1 := rfl
    refine ⟨size1000 (by omega), ?_⟩
    rw [if_neg (by rw [l1]; decide)]
    intro D hD
    refine lc_same (walk_strY (z := dig i)) (fun _ => true) (fun _ => .bl true) hD (fun _ _ => trivial) (by rw [List.length_map]; show 1 ≤ 100000; decide) (fun x hx H2 s2 R R0 h1 _ => ?_) (fun H2 s2 h2 => ?_)
    · obtain ⟨c, hc, rfl⟩ := List.mem_map.mp hx
      have e := List.mem_singleton.mp (show c ∈ [48 + i] from hc)
      subst e
      try simp only [tSeq, tNext, tRet, tRetN, tAsg, gName, gSub, tDrop, tIfS, tOp, tUn, tCB, tCons, tNil, tC, tVar, rI, rI0, rU, tAnd, tOr, tNot, tAndV, tOrV, tNotV, tIf, tTest, tB, tCall, tChain, tLst, tTup, tYes, rIxH, rIsB, rIsBT, rMulS, kd_non, kd_bl, kd_int, kd_str, kd_ref, kdO_lst, kdO_tup, kdO_dK, nq_n, nq_b, nq_i, nq_s, nq_l, nq_t, nq_d, ne_eq, not_false_eq_true, kit_ss, kit_ns, kit_bs, kit_is, kit_ls, kit_ts, kit_ds, kit_bb, V.ty.injEq, and_assoc, rIxU, rLenH, rLenU, rLenS, rInt1, rSetL, rEq, rNe, rCat, L2.start, List.map, List.length, List.length_cons, List.length_nil, List.replicate, List.getElem?_cons_zero, List.getElem?_cons_succ, List.set_cons_zero, List.set_cons_succ, List.set_nil, List.cons_append, List.nil_append, List.append_nil, Option.some.injEq, V.int.injEq, V.ref.injEq, V.str.injEq, V.bl.injEq, HO.lst.injEq, HO.tup.injEq, exists_eq_left', exists_and_left, exists_eq_left, List.cons.injEq, and_true, true_and, and_false, false_and, and_self, reduceCtorEq, exists_false, or_false, false_or, exists_const, at0, at1, at2, at3, at4, at5, ix51, ix52, ix54, upd_same, Nat.reduceAdd, Nat.reduceSub, Nat.zero_add, Int.reduceToNat, Int.reduceLE, Int.reduceLT, decide_eq_true_eq, Bool.not_eq_true, if_true, if_false, Bool.false_eq_true, ite_true, ite_false, Bool.not_true, Bool.not_false, decide_true, decide_false, tFor_eq, tLc_eq, iList, iTup, iRng1, iRng2, iStr, tSl, tPart, tNoPart, rSlL, cxOf_K, wipe, ex_ty2, kit_LTl, kit_LTt, kit_LTd, kit_LTs, kit_LTn, kit_LTb, kit_LTi, tM1, rIxS, exists_eq', lt1p, tDNewK, rSlS, rEqNil, nox_K, sgn]
      have h1 := h1 H2 (Same.refl _) rfl
      refine ⟨_, rfl, ?_⟩
      rw [decide_eq_true (dig_in hi)]
      exact h1
    · have hl : H2 D = some (.lst ([true].map V.bl)) := by rw [h2, filter_all]; rfl
      refine ⟨D, [true], rfl, SqL.of hl, true, rfl, ?_⟩
      rw [if_neg (by decide)]
      by_cases e0 : dig i = Str.ofString "0"
      · rw [if_pos e0]
        exact q _ s2
      · rw [if_neg e0]
        refine ⟨size1000 (by omega), 48 + i, at0, ?_⟩
        rw [decide_eq_false (show ¬ (({ cps := #[48 + i] } : Str) = Str.ofString "0") from e0)]
        exact q _ s2
theorem ok_ci (T : Txt K mg A) (gIsCountWord : FnOk PW w K mg base CX0 1 A.a_IsCountWord A.d_IsCountWord ["word"] spCW) : FnOk PW w K mg base CX0 2 A.a_CountIn A.d_CountIn ["word"] spCI := by
  refine T.f_CountIn.ok scCountIn (fun vs H Q E h => ?_) (fun cdv A' outer s H vs Q E hr h => ?_)
  · obtain ⟨i, rfl, _⟩ := h
    rfl
  · obtain ⟨i, rfl, h0, h1, q⟩ := h
    obtain ⟨e1, e2⟩ := nS_dig h0 h1
    rw [e1]
    refine ⟨_, (pss_cons (ps_if (pt_not (pt_val (pe_call gIsCountWord (hr.mono (by decide)) (by rfl) T.m_IsCountWord T.f_IsCountWord.kp T.b_IsCountWord .nil pass0 (pa_cons (pv 0) pa_nil)))) (pss_one (ps_ret pe_non)) pss_nil)
      (pss_one (ps_ret (pe_callTy call_int_str (by rfl) T.z_int (by decide +kernel) (pa_cons (pv 0) pa_nil))))), ?_⟩
    try simp only [tSeq, tNext, tRet, tRetN, tAsg, gName, gSub, tDrop, tIfS, tOp, tUn, tCB, tCons, tNil, tC, tVar, rI, rI0, rU, tAnd, tOr, tNot, tAndV, tOrV, tNotV, tIf, tTest, tB, tCall, tChain, tLst, tTup, tYes, rIxH, rIsB, rIsBT, rMulS, kd_non, kd_bl, kd_int, kd_str, kd_ref, kdO_lst, kdO_tup, kdO_dK, nq_n, nq_b, nq_i, nq_s, nq_l, nq_t, nq_d, ne_eq, not_false_eq_true, kit_ss, kit_ns, kit_bs, kit_is, kit_ls, kit_ts, kit_ds, kit_bb, V.ty.injEq, and_assoc, rIxU, rLenH, rLenU, rLenS, rInt1, rSetL, rEq, rNe, rCat, L2.start, List.map, List.length, List.length_cons, List.length_nil, List.replicate, List.getElem?_cons_zero, List.getElem?_cons_succ, List.set_cons_zero, List.set_cons_succ, List.set_nil, List.cons_append, List.nil_append, List.append_nil, Option.some.injEq, V.int.injEq, V.ref.injEq, V.str.injEq, V.bl.injEq, HO.lst.injEq, HO.tup.injEq, exists_eq_left', exists_and_left, exists_eq_left, List.cons.injEq, and_true, true_and, and_false, false_and, and_self, reduceCtorEq, exists_false, or_false, false_or, exists_const, at0, at1, at2, at3, at4, at5, ix51, ix52, ix54, upd_same, Nat.reduceAdd, Nat.reduceSub, Nat.zero_add, Int.reduceToNat, Int.reduceLE, Int.reduceLT, decide_eq_true_eq, Bool.not_eq_true, if_true, if_false, Bool.false_eq_true, ite_true, ite_false, Bool.not_true, Bool.not_false, decide_true, decide_false, tFor_eq, tLc_eq, iList, iTup, iRng1, iRng2, iStr, tSl, tPart, tNoPart, rSlL, cxOf_K, wipe, ex_ty2, kit_LTl, kit_LTt, kit_LTd, kit_LTs, kit_LTn, kit_LTb, kit_LTi, tM1, rIxS, exists_eq', lt1p, tDNewK, rSlS, rEqNil, nox_K]
    refine ⟨i.toNat, rfl, by omega, fun H1 s1 => ⟨true, rfl, ?_⟩⟩
    try simp only [tSeq, tNext, tRet, tRetN, tAsg, gName, gSub, tDrop, tIfS, tOp, tUn, tCB, tCons, tNil, tC, tVar, rI, rI0, rU, tAnd, tOr, tNot, tAndV, tOrV, tNotV, tIf, tTest, tB, tCall, tChain, tLst, tTup, tYes, rIxH, rIsB, rIsBT, rMulS, kd_non, kd_bl, kd_int, kd_str, kd_ref, kdO_lst, kdO_tup, kdO_dK, nq_n, nq_b, nq_i, nq_s, nq_l, nq_t, nq_d, ne_eq, not_false_eq_true, kit_ss, kit_ns, kit_bs, kit_is, kit_ls, kit_ts, kit_ds, kit_bb, V.ty.injEq, and_assoc, rIxU, rLenH, rLenU, rLenS, rInt1, rSetL, rEq, rNe, rCat, L2.start, List.map, List.length, List.length_cons, List.length_nil, List.replicate, List.getElem?_cons_zero, List.getElem?_cons_succ, List.set_cons_zero, List.set_cons_succ, List.set_nil, List.cons_append, List.nil_append, List.append_nil, Option.some.injEq, V.int.injEq, V.ref.injEq, V.str.injEq, V.bl.injEq, HO.lst.injEq, HO.tup.injEq, exists_eq_left', exists_and_left, exists_eq_left, List.cons.injEq, and_true, true_and, and_false, false_and, and_self, reduceCtorEq, exists_false, or_false, false_or, exists_const, at0, at1, at2, at3, at4, at5, ix51, ix52, ix54, upd_same, Nat.reduceAdd, Nat.reduceSub, Nat.zero_add, Int.reduceToNat, Int.reduceLE, Int.reduceLT, decide_eq_true_eq, Bool.not_eq_true, if_true, if_false, Bool.false_eq_true, ite_true, ite_false, Bool.not_true, Bool.not_false, decide_true, decide_false, tFor_eq, tLc_eq, iList, iTup, iRng1, iRng2, iStr, tSl, tPart, tNoPart, rSlL, cxOf_K, wipe, ex_ty2, kit_LTl, kit_LTt, kit_LTd, kit_LTs, kit_LTn, kit_LTb, kit_LTi, tM1, rIxS, exists_eq', lt1p, tDNewK, rSlS, rEqNil, nox_K]
    exact ⟨i, e2, Nat.le_trans (show 1 ≤ 640 by decide) (by decide), q _ s1⟩
theorem ok_pin (T : Txt K mg A) (gCountIn : FnOk PW w K mg base CX0 2 A.a_CountIn A.d_CountIn ["word"] spCI) : FnOk PW w K mg base CX0 3 A.a_ParentsIn A.d_ParentsIn ["word", "number"] spPIn := by
  refine T.f_ParentsIn.ok scParentsIn (fun vs H Q E h => ?_) (fun cdv A' outer s H vs Q E hr h => ?_)
  · obtain ⟨ps, n, rfl, _⟩ := h
    rfl
  · obtain ⟨ps, n, rfl, pl, po, pb, q⟩ := h
    refine ⟨_, (pss_cons (ps_if (pt_cmpR (op_eq) (pv 0) pe_str (nomark _)) (pss_one (ps_ret (pe_lst pa_nil))) pss_nil)
      (pss_cons (ps_setLc (i := 2) (own := [("part", 5)]) (g := gName 5) (tt := tYes) (by rfl) scParentsIn.nd rfl rfl (sw_true rfl rfl rfl (by decide +kernel)) (pi_list (pe_split (pv 0) pe_str)) (blkOk_by (own := [("part", 5)]) (N := nParentsIn) (sc := defScope sParentsIn) (by decide +kernel)) (fun _ _ _ _ _ => pg_name (i := 5) scParentsIn.nd rfl (Or.inl rfl)) (fun _ _ _ _ _ => pts_nil) (fun _ _ _ _ _ => (pe_call gCountIn (hr.mono (by decide)) (by rfl) T.m_CountIn T.f_CountIn.kp T.b_CountIn .nil pass0 (pa_cons (pv 5) pa_nil))))
      (pss_cons (ps_if (pt_cmpR (op_gt) (pe_callB call_lenH (by rfl) T.z_len (by decide +kernel) (pa_cons (pv 2) pa_nil)) (pe_glob (v := .int 3) (by rfl) T.c_MOST_PARENTS.choose_spec ⟨_, rfl⟩) (nomark _)) (pss_one (ps_ret pe_non)) pss_nil)
      (pss_cons (ps_set (i := 3) scParentsIn.nd rfl (Or.inl rfl) (pe_un un_neg pe_int))
      (pss_cons (ps_for PassesOwn.never rfl (pi_list (pv 2)) (pg_name (i := 4) scParentsIn.nd rfl (Or.inl rfl)) (pss_cons (ps_if (PW.pt (pw_or (pt_cmpR (op_isN) (pv 4) pe_non (nomark _)) (pw_or1 (pt_not (pt_chain (op_lt) (op_lt) (pv 3) (pv 4) (pv 1)))))) (pss_one (ps_ret pe_non)) pss_nil)
      (pss_one (ps_set (i := 3) scParentsIn.nd rfl (Or.inl rfl) (pv 4)))))
      (pss_one (ps_ret (pv 2)))))))), ?_⟩
    refine seq_gen fun N eN => ?_
    try simp only [tSeq, tNext, tRet, tRetN, tAsg, gName, gSub, tDrop, tIfS, tOp, tUn, tCB, tCons, tNil, tC, tVar, rI, rI0, rU, tAnd, tOr, tNot, tAndV, tOrV, tNotV, tIf, tTest, tB, tCall, tChain, tLst, tTup, tYes, rIxH, rIsB, rIsBT, rMulS, kd_non, kd_bl, kd_int, kd_str, kd_ref, kdO_lst, kdO_tup, kdO_dK, nq_n, nq_b, nq_i, nq_s, nq_l, nq_t, nq_d, ne_eq, not_false_eq_true, kit_ss, kit_ns, kit_bs, kit_is, kit_ls, kit_ts, kit_ds, kit_bb, V.ty.injEq, and_assoc, rIxU, rLenH, rLenU, rLenS, rInt1, rSetL, rEq, rNe, rCat, L2.start, List.map, List.length, List.length_cons, List.length_nil, List.replicate, List.getElem?_cons_zero, List.getElem?_cons_succ, List.set_cons_zero, List.set_cons_succ, List.set_nil, List.cons_append, List.nil_append, List.append_nil, Option.some.injEq, V.int.injEq, V.ref.injEq, V.str.injEq, V.bl.injEq, HO.lst.injEq, HO.tup.injEq, exists_eq_left', exists_and_left, exists_eq_left, List.cons.injEq, and_true, true_and, and_false, false_and, and_self, reduceCtorEq, exists_false, or_false, false_or, exists_const, at0, at1, at2, at3, at4, at5, ix51, ix52, ix54, upd_same, Nat.reduceAdd, Nat.reduceSub, Nat.zero_add, Int.reduceToNat, Int.reduceLE, Int.reduceLT, decide_eq_true_eq, Bool.not_eq_true, if_true, if_false, Bool.false_eq_true, ite_true, ite_false, Bool.not_true, Bool.not_false, decide_true, decide_false, tFor_eq, tLc_eq, iList, iTup, iRng1, iRng2, iStr, tSl, tPart, tNoPart, rSlL, cxOf_K, wipe, ex_ty2, kit_LTl, kit_LTt, kit_LTd, kit_LTs, kit_LTn, kit_LTb, kit_LTi, tM1, rIxS, exists_eq', lt1p, tDNewK, rSlS, rEqNil, nox_K, scal_str]
    have pb' : ∀ p ∈ ps, 0 ≤ p ∧ p < 10 := fun p hp => ⟨(pb p hp).1, (pb p hp).2.1⟩
    by_cases h0 : ps = []
    · subst h0
      rw [if_pos (by rfl)]
      exact ⟨by decide, fun p hp => q _ p (same_new hp) hp upd_same⟩
    rw [if_neg (pars_ne h0 pb')]
    rw [eN]
    clear eN N
    refine seq_gen fun N eN => ?_
    have plen := pars_len pl pb'
    try simp only [tSeq, tNext, tRet, tRetN, tAsg, gName, gSub, tDrop, tIfS, tOp, tUn, tCB, tCons, tNil, tC, tVar, rI, rI0, rU, tAnd, tOr, tNot, tAndV, tOrV, tNotV, tIf, tTest, tB, tCall, tChain, tLst, tTup, tYes, rIxH, rIsB, rIsBT, rMulS, kd_non, kd_bl, kd_int, kd_str, kd_ref, kdO_lst, kdO_tup, kdO_dK, nq_n, nq_b, nq_i, nq_s, nq_l, nq_t, nq_d, ne_eq, not_false_eq_true, kit_ss, kit_ns, kit_bs, kit_is, kit_ls, kit_ts, kit_ds, kit_bb, V.ty.injEq, and_assoc, rIxU, rLenH, rLenU, rLenS, rInt1, rSetL, rEq, rNe, rCat, L2.start, List.map, List.length, List.length_cons, List.length_nil, List.replicate, List.getElem?_cons_zero, List.getElem?_cons_succ, List.set_cons_zero, List.set_cons_succ, List.set_nil, List.cons_append, List.nil_append, List.append_nil, Option.some.injEq, V.int.injEq, V.ref.injEq, V.str.injEq, V.bl.injEq, HO.lst.injEq, HO.tup.injEq, exists_eq_left', exists_and_left, exists_eq_left, List.cons.injEq, and_true, true_and, and_false, false_and, and_self, reduceCtorEq, exists_false, or_false, false_or, exists_const, at0, at1, at2, at3, at4, at5, ix51, ix52, ix54, upd_same, Nat.reduceAdd, Nat.reduceSub, Nat.zero_add, Int.reduceToNat, Int.reduceLE, Int.reduceLT, decide_eq_true_eq, Bool.not_eq_true, if_true, if_false, Bool.false_eq_true, ite_true, ite_false, Bool.not_true, Bool.not_false, decide_true, decide_false, tFor_eq, tLc_eq, iList, iTup, iRng1, iRng2, iStr, tSl, tPart, tNoPart, rSlL, cxOf_K, wipe, ex_ty2, kit_LTl, kit_LTt, kit_LTd, kit_LTs, kit_LTn, kit_LTb, kit_LTi, tM1, rIxS, exists_eq', lt1p, tDNewK, rSlS, rEqNil, nox_K, tM1, rNewStrs]
    have esp : Txt.split (pars ps) (Str.ofString ",") = ps.map nS := by
      have e : pars ps = Txt.join (Str.ofString ",") (ps.map nS) := by unfold pars; rw [if_neg h0]
      rw [e]
      refine TL.split_join (s := 44) (S := []) (by decide +kernel) (by decide +kernel) (fun z => h0 (List.map_eq_nil_iff.mp z)) fun z hz => ?_
      obtain ⟨i, hi, rfl⟩ := List.mem_map.mp hz
      have := pb' i hi
      rw [(nS_dig this.1 this.2).1]
      intro h
      have := List.mem_singleton.mp (show 44 ∈ [48 + i.toNat] from h)
      omega
    refine ⟨by decide +kernel, size1000 (by omega), ?_⟩
    rw [esp]
    intro p n_p; generalize g_H1 : upd H p _ = H1; obtain ⟨s_H1, h_p⟩ := new_facts n_p g_H1; clear g_H1
    refine ⟨⟨_, SqL.of h_p⟩, fun D hD => ?_⟩
    refine lc_same (walk_list (K := K) (xs := (ps.map nS).map V.str)) (fun _ => true) (fun v => .int (cntOfS v)) hD (fun H2 s2 => SqL.of (s2 _ _ h_p)) (by rw [List.length_map, List.length_map]; omega) (fun x hx H2 s2 R R0 h1 _ => ?_) (fun H2 s2 h2 => ?_)
    · obtain ⟨z, hz, rfl⟩ := List.mem_map.mp hx
      obtain ⟨i, hi, rfl⟩ := List.mem_map.mp hz
      have b := pb' i hi
      try simp only [tSeq, tNext, tRet, tRetN, tAsg, gName, gSub, tDrop, tIfS, tOp, tUn, tCB, tCons, tNil, tC, tVar, rI, rI0, rU, tAnd, tOr, tNot, tAndV, tOrV, tNotV, tIf, tTest, tB, tCall, tChain, tLst, tTup, tYes, rIxH, rIsB, rIsBT, rMulS, kd_non, kd_bl, kd_int, kd_str, kd_ref, kdO_lst, kdO_tup, kdO_dK, nq_n, nq_b, nq_i, nq_s, nq_l, nq_t, nq_d, ne_eq, not_false_eq_true, kit_ss, kit_ns, kit_bs, kit_is, kit_ls, kit_ts, kit_ds, kit_bb, V.ty.injEq, and_assoc, rIxU, rLenH, rLenU, rLenS, rInt1, rSetL, rEq, rNe, rCat, L2.start, List.map, List.length, List.length_cons, List.length_nil, List.replicate, List.getElem?_cons_zero, List.getElem?_cons_succ, List.set_cons_zero, List.set_cons_succ, List.set_nil, List.cons_append, List.nil_append, List.append_nil, Option.some.injEq, V.int.injEq, V.ref.injEq, V.str.injEq, V.bl.injEq, HO.lst.injEq, HO.tup.injEq, exists_eq_left', exists_and_left, exists_eq_left, List.cons.injEq, and_true, true_and, and_false, false_and, and_self, reduceCtorEq, exists_false, or_false, false_or, exists_const, at0, at1, at2, at3, at4, at5, ix51, ix52, ix54, upd_same, Nat.reduceAdd, Nat.reduceSub, Nat.zero_add, Int.reduceToNat, Int.reduceLE, Int.reduceLT, decide_eq_true_eq, Bool.not_eq_true, if_true, if_false, Bool.false_eq_true, ite_true, ite_false, Bool.not_true, Bool.not_false, decide_true, decide_false, tFor_eq, tLc_eq, iList, iTup, iRng1, iRng2, iStr, tSl, tPart, tNoPart, rSlL, cxOf_K, wipe, ex_ty2, kit_LTl, kit_LTt, kit_LTd, kit_LTs, kit_LTn, kit_LTb, kit_LTi, tM1, rIxS, exists_eq', lt1p, tDNewK, rSlS, rEqNil, nox_K]
      refine ⟨i, rfl, b.1, b.2, fun H3 s3 => ?_⟩
      have := h1 H3 s3 rfl
      rw [cntOfS_nS b.1 b.2] at this
      exact this
    have e2 : H2 D = some (.lst (ps.map V.int)) := by
      rw [h2, filter_all, List.map_map, List.map_map]
      congr 2
      refine List.map_congr_left fun i hi => ?_
      have b := pb' i hi
      show V.int (cntOfS (.str (nS i))) = .int i
      rw [cntOfS_nS b.1 b.2]
    have s02 := s_H1.trans s2
    rw [eN]
    clear eN N
    refine seq_gen fun N eN => ?_
    try simp only [tSeq, tNext, tRet, tRetN, tAsg, gName, gSub, tDrop, tIfS, tOp, tUn, tCB, tCons, tNil, tC, tVar, rI, rI0, rU, tAnd, tOr, tNot, tAndV, tOrV, tNotV, tIf, tTest, tB, tCall, tChain, tLst, tTup, tYes, rIxH, rIsB, rIsBT, rMulS, kd_non, kd_bl, kd_int, kd_str, kd_ref, kdO_lst, kdO_tup, kdO_dK, nq_n, nq_b, nq_i, nq_s, nq_l, nq_t, nq_d, ne_eq, not_false_eq_true, kit_ss, kit_ns, kit_bs, kit_is, kit_ls, kit_ts, kit_ds, kit_bb, V.ty.injEq, and_assoc, rIxU, rLenH, rLenU, rLenS, rInt1, rSetL, rEq, rNe, rCat, L2.start, List.map, List.length, List.length_cons, List.length_nil, List.replicate, List.getElem?_cons_zero, List.getElem?_cons_succ, List.set_cons_zero, List.set_cons_succ, List.set_nil, List.cons_append, List.nil_append, List.append_nil, Option.some.injEq, V.int.injEq, V.ref.injEq, V.str.injEq, V.bl.injEq, HO.lst.injEq, HO.tup.injEq, exists_eq_left', exists_and_left, exists_eq_left, List.cons.injEq, and_true, true_and, and_false, false_and, and_self, reduceCtorEq, exists_false, or_false, false_or, exists_const, at0, at1, at2, at3, at4, at5, ix51, ix52, ix54, upd_same, Nat.reduceAdd, Nat.reduceSub, Nat.zero_add, Int.reduceToNat, Int.reduceLE, Int.reduceLT, decide_eq_true_eq, Bool.not_eq_true, if_true, if_false, Bool.false_eq_true, ite_true, ite_false, Bool.not_true, Bool.not_false, decide_true, decide_false, tFor_eq, tLc_eq, iList, iTup, iRng1, iRng2, iStr, tSl, tPart, tNoPart, rSlL, cxOf_K, wipe, ex_ty2, kit_LTl, kit_LTt, kit_LTd, kit_LTs, kit_LTn, kit_LTb, kit_LTi, tM1, rIxS, exists_eq', lt1p, tDNewK, rSlS, rEqNil, nox_K, e2, List.length_map]
    rw [if_neg (by omega)]
    rw [eN]
    clear eN N
    refine seq_gen fun N eN => ?_
    try simp only [tSeq, tNext, tRet, tRetN, tAsg, gName, gSub, tDrop, tIfS, tOp, tUn, tCB, tCons, tNil, tC, tVar, rI, rI0, rU, tAnd, tOr, tNot, tAndV, tOrV, tNotV, tIf, tTest, tB, tCall, tChain, tLst, tTup, tYes, rIxH, rIsB, rIsBT, rMulS, kd_non, kd_bl, kd_int, kd_str, kd_ref, kdO_lst, kdO_tup, kdO_dK, nq_n, nq_b, nq_i, nq_s, nq_l, nq_t, nq_d, ne_eq, not_false_eq_true, kit_ss, kit_ns, kit_bs, kit_is, kit_ls, kit_ts, kit_ds, kit_bb, V.ty.injEq, and_assoc, rIxU, rLenH, rLenU, rLenS, rInt1, rSetL, rEq, rNe, rCat, L2.start, List.map, List.length, List.length_cons, List.length_nil, List.replicate, List.getElem?_cons_zero, List.getElem?_cons_succ, List.set_cons_zero, List.set_cons_succ, List.set_nil, List.cons_append, List.nil_append, List.append_nil, Option.some.injEq, V.int.injEq, V.ref.injEq, V.str.injEq, V.bl.injEq, HO.lst.injEq, HO.tup.injEq, exists_eq_left', exists_and_left, exists_eq_left, List.cons.injEq, and_true, true_and, and_false, false_and, and_self, reduceCtorEq, exists_false, or_false, false_or, exists_const, at0, at1, at2, at3, at4, at5, ix51, ix52, ix54, upd_same, Nat.reduceAdd, Nat.reduceSub, Nat.zero_add, Int.reduceToNat, Int.reduceLE, Int.reduceLT, decide_eq_true_eq, Bool.not_eq_true, if_true, if_false, Bool.false_eq_true, ite_true, ite_false, Bool.not_true, Bool.not_false, decide_true, decide_false, tFor_eq, tLc_eq, iList, iTup, iRng1, iRng2, iStr, tSl, tPart, tNoPart, rSlL, cxOf_K, wipe, ex_ty2, kit_LTl, kit_LTt, kit_LTd, kit_LTs, kit_LTn, kit_LTb, kit_LTi, tM1, rIxS, exists_eq', lt1p, tDNewK, rSlS, rEqNil, nox_K]
    rw [eN]
    clear eN N
    refine seq_gen fun N eN => ?_
    try simp only [tSeq, tNext, tRet, tRetN, tAsg, gName, gSub, tDrop, tIfS, tOp, tUn, tCB, tCons, tNil, tC, tVar, rI, rI0, rU, tAnd, tOr, tNot, tAndV, tOrV, tNotV, tIf, tTest, tB, tCall, tChain, tLst, tTup, tYes, rIxH, rIsB, rIsBT, rMulS, kd_non, kd_bl, kd_int, kd_str, kd_ref, kdO_lst, kdO_tup, kdO_dK, nq_n, nq_b, nq_i, nq_s, nq_l, nq_t, nq_d, ne_eq, not_false_eq_true, kit_ss, kit_ns, kit_bs, kit_is, kit_ls, kit_ts, kit_ds, kit_bb, V.ty.injEq, and_assoc, rIxU, rLenH, rLenU, rLenS, rInt1, rSetL, rEq, rNe, rCat, L2.start, List.map, List.length, List.length_cons, List.length_nil, List.replicate, List.getElem?_cons_zero, List.getElem?_cons_succ, List.set_cons_zero, List.set_cons_succ, List.set_nil, List.cons_append, List.nil_append, List.append_nil, Option.some.injEq, V.int.injEq, V.ref.injEq, V.str.injEq, V.bl.injEq, HO.lst.injEq, HO.tup.injEq, exists_eq_left', exists_and_left, exists_eq_left, List.cons.injEq, and_true, true_and, and_false, false_and, and_self, reduceCtorEq, exists_false, or_false, false_or, exists_const, at0, at1, at2, at3, at4, at5, ix51, ix52, ix54, upd_same, Nat.reduceAdd, Nat.reduceSub, Nat.zero_add, Int.reduceToNat, Int.reduceLE, Int.reduceLT, decide_eq_true_eq, Bool.not_eq_true, if_true, if_false, Bool.false_eq_true, ite_true, ite_false, Bool.not_true, Bool.not_false, decide_true, decide_false, tFor_eq, tLc_eq, iList, iTup, iRng1, iRng2, iStr, tSl, tPart, tNoPart, rSlL, cxOf_K, wipe, ex_ty2, kit_LTl, kit_LTt, kit_LTd, kit_LTs, kit_LTn, kit_LTb, kit_LTi, tM1, rIxS, exists_eq', lt1p, tDNewK, rSlS, rEqNil, nox_K]
    refine ⟨⟨_, SqL.of e2⟩, ?_⟩
    refine for_go (walk_list (K := K) (a := D) (xs := ps.map V.int)) (LPI ps n D H2) ⟨_, rfl, rfl, fun j hj => (by cases hj)⟩ (fun i σ H' _ q' => ?_) (fun i x σ H3 hx q' => ?_) (fun σ H3 q' => ?_)
    · obtain ⟨_, _, rfl, _⟩ := q'
      exact SqL.of e2
    · obtain ⟨v4, rfl, rfl, hl⟩ := q'
      have hi : i < ps.length := by
        have := (List.getElem?_eq_some_iff.mp hx).1
        rwa [List.length_map] at this
      rw [List.getElem?_map, List.getElem?_eq_getElem hi] at hx
      have hx := Option.some.inj hx
      subst hx
      have b := pb ps[i] (List.getElem_mem hi)
      have la : lastOf ps i < ps[i] := by
        cases i with
        | zero => show -1 < ps[0]; omega
        | succ i =>
          show ps.getD i 0 < ps[i + 1]
          rw [List.getD_eq_getElem?_getD, List.getElem?_eq_getElem (by omega)]
          exact List.pairwise_iff_getElem.mp po i (i + 1) (by omega) hi (by omega)
      have ln : lastOf ps (i + 1) = ps[i] := by
        show ps.getD i 0 = ps[i]
        rw [List.getD_eq_getElem?_getD, List.getElem?_eq_getElem hi]
        rfl
      try simp only [tSeq, tNext, tRet, tRetN, tAsg, gName, gSub, tDrop, tIfS, tOp, tUn, tCB, tCons, tNil, tC, tVar, rI, rI0, rU, tAnd, tOr, tNot, tAndV, tOrV, tNotV, tIf, tTest, tB, tCall, tChain, tLst, tTup, tYes, rIxH, rIsB, rIsBT, rMulS, kd_non, kd_bl, kd_int, kd_str, kd_ref, kdO_lst, kdO_tup, kdO_dK, nq_n, nq_b, nq_i, nq_s, nq_l, nq_t, nq_d, ne_eq, not_false_eq_true, kit_ss, kit_ns, kit_bs, kit_is, kit_ls, kit_ts, kit_ds, kit_bb, V.ty.injEq, and_assoc, rIxU, rLenH, rLenU, rLenS, rInt1, rSetL, rEq, rNe, rCat, L2.start, List.map, List.length, List.length_cons, List.length_nil, List.replicate, List.getElem?_cons_zero, List.getElem?_cons_succ, List.set_cons_zero, List.set_cons_succ, List.set_nil, List.cons_append, List.nil_append, List.append_nil, Option.some.injEq, V.int.injEq, V.ref.injEq, V.str.injEq, V.bl.injEq, HO.lst.injEq, HO.tup.injEq, exists_eq_left', exists_and_left, exists_eq_left, List.cons.injEq, and_true, true_and, and_false, false_and, and_self, reduceCtorEq, exists_false, or_false, false_or, exists_const, at0, at1, at2, at3, at4, at5, ix51, ix52, ix54, upd_same, Nat.reduceAdd, Nat.reduceSub, Nat.zero_add, Int.reduceToNat, Int.reduceLE, Int.reduceLT, decide_eq_true_eq, Bool.not_eq_true, if_true, if_false, Bool.false_eq_true, ite_true, ite_false, Bool.not_true, Bool.not_false, decide_true, decide_false, tFor_eq, tLc_eq, iList, iTup, iRng1, iRng2, iStr, tSl, tPart, tNoPart, rSlL, cxOf_K, wipe, ex_ty2, kit_LTl, kit_LTt, kit_LTd, kit_LTs, kit_LTn, kit_LTb, kit_LTi, tM1, rIxS, exists_eq', lt1p, tDNewK, rSlS, rEqNil, nox_K, la, b.2.2]
      exact ⟨_, by rw [ln], rfl, hl⟩
    · obtain ⟨v4, rfl, rfl, hl⟩ := q'
      dsimp only
      rw [eN]
      try simp only [tSeq, tNext, tRet, tRetN, tAsg, gName, gSub, tDrop, tIfS, tOp, tUn, tCB, tCons, tNil, tC, tVar, rI, rI0, rU, tAnd, tOr, tNot, tAndV, tOrV, tNotV, tIf, tTest, tB, tCall, tChain, tLst, tTup, tYes, rIxH, rIsB, rIsBT, rMulS, kd_non, kd_bl, kd_int, kd_str, kd_ref, kdO_lst, kdO_tup, kdO_dK, nq_n, nq_b, nq_i, nq_s, nq_l, nq_t, nq_d, ne_eq, not_false_eq_true, kit_ss, kit_ns, kit_bs, kit_is, kit_ls, kit_ts, kit_ds, kit_bb, V.ty.injEq, and_assoc, rIxU, rLenH, rLenU, rLenS, rInt1, rSetL, rEq, rNe, rCat, L2.start, List.map, List.length, List.length_cons, List.length_nil, List.replicate, List.getElem?_cons_zero, List.getElem?_cons_succ, List.set_cons_zero, List.set_cons_succ, List.set_nil, List.cons_append, List.nil_append, List.append_nil, Option.some.injEq, V.int.injEq, V.ref.injEq, V.str.injEq, V.bl.injEq, HO.lst.injEq, HO.tup.injEq, exists_eq_left', exists_and_left, exists_eq_left, List.cons.injEq, and_true, true_and, and_false, false_and, and_self, reduceCtorEq, exists_false, or_false, false_or, exists_const, at0, at1, at2, at3, at4, at5, ix51, ix52, ix54, upd_same, Nat.reduceAdd, Nat.reduceSub, Nat.zero_add, Int.reduceToNat, Int.reduceLE, Int.reduceLT, decide_eq_true_eq, Bool.not_eq_true, if_true, if_false, Bool.false_eq_true, ite_true, ite_false, Bool.not_true, Bool.not_false, decide_true, decide_false, tFor_eq, tLc_eq, iList, iTup, iRng1, iRng2, iStr, tSl, tPart, tNoPart, rSlL, cxOf_K, wipe, ex_ty2, kit_LTl, kit_LTt, kit_LTd, kit_LTs, kit_LTn, kit_LTb, kit_LTi, tM1, rIxS, exists_eq', lt1p, tDNewK, rSlS, rEqNil, nox_K]
      exact q _ D s02 (s_H1.free hD) e2
end



/-! ### head_in -/
theorem headS_join (r : VR) : headS r = Txt.join (Str.ofString " ") [Str.ofString "version", r.nm, pars r.ps] := by
  rw [show Txt.join (Str.ofString " ") [Str.ofString "version", r.nm, pars r.ps] = Str.join (Str.ofString " ") [Str.ofString "version", r.nm, pars r.ps] from StrLaws.glued_eq_join _ _]
  refine TL.ext_tl ?_
  rw [TL.tl_join]
  unfold headS
  rw [TL.tl_append, TL.tl_append, TL.tl_append]
  have e1 : TL.tl (Str.ofString "version ") = TL.tl (Str.ofString "version") ++ [32] := by decide +kernel
  have e2 : TL.tl (Str.ofString " ") = [32] := by decide +kernel
  rw [e1, e2]
  simp [TL.joinL]
theorem head_split {r : VR} (h : TRow r) : Txt.split (headS r) (Str.ofString " ") = [Str.ofString "version", r.nm, pars r.ps] := by
  rw [headS_join]
  refine TL.split_join (s := 32) (S := []) (by decide +kernel) (by decide +kernel) (by simp) fun z hz => ?_
  simp only [List.mem_cons, List.not_mem_nil, or_false] at hz
  rcases hz with rfl | rfl | rfl
  · decide +kernel
  · intro hc
    have := (name4 h.nm).2.2 _ hc
    omega
  · intro hc
    have := pars_sg h.pb _ hc
    omega
def spHeadIn : Sp := fun vs H Q _ => ∃ r n, vs = [.str (headS r), .int n] ∧ TRow r ∧ (∀ p ∈ r.ps, p < n) ∧ ∀ H' a e, Same H H' → H a = none → H e = none → H' a = some (.tup [.str r.nm, .ref e]) → H' e = some (.lst (r.ps.map V.int)) → Q (.ref a) H'
section
variable {w : World} {K : PySem.W.Frag} {mg : Str → Option Value} {base : Heap} {A : Adr}
theorem ok_headin (T : Txt K mg A) (gIsName : FnOk PW w K mg base CX0 1 A.a_IsName A.d_IsName ["value"] spIsNameT) (gParentsIn : FnOk PW w K mg base CX0 3 A.a_ParentsIn A.d_ParentsIn ["word", "number"] spPIn) : FnOk PW w K mg base CX0 4 A.a_HeadIn A.d_HeadIn ["row", "number"] spHeadIn := by
  refine T.f_HeadIn.ok scHeadIn (fun vs H Q E h => ?_) (fun cdv A' outer s H vs Q E hr h => ?_)
  · obtain ⟨r, n, rfl, _⟩ := h
    rfl
  · obtain ⟨r, n, rfl, row, pn, q⟩ := h
    refine ⟨_, (pss_cons (ps_set (i := 2) scHeadIn.nd rfl (Or.inl rfl) (pe_split (pv 0) pe_str))
      (pss_cons (ps_if (PW.pt (pw_or (pt_cmpR (op_ne) (pe_callB call_lenH (by rfl) T.z_len (by decide +kernel) (pa_cons (pv 2) pa_nil)) pe_int (nomark _)) (pw_or (pt_cmpR (op_ne) (pe_ix ix_lstH (pv 2) pe_int (fun _ _ => rfl)) pe_str (nomark _)) (pw_or1 (pt_not (pt_val (pe_call gIsName (hr.mono (by decide)) (by rfl) T.m_IsName T.f_IsName.kp T.b_IsName .nil pass0 (pa_cons (pe_ix ix_lstH (pv 2) pe_int (fun _ _ => rfl)) pa_nil)))))))) (pss_one (ps_ret pe_non)) pss_nil)
      (pss_cons (ps_set (i := 3) scHeadIn.nd rfl (Or.inl rfl) (pe_call gParentsIn (hr.mono (by decide)) (by rfl) T.m_ParentsIn T.f_ParentsIn.kp T.b_ParentsIn .nil pass0 (pa_cons (pe_ix ix_lstH (pv 2) pe_int (fun _ _ => rfl)) (pa_cons (pv 1) pa_nil))))
      (pss_cons (ps_if (pt_cmpR (op_isN) (pv 3) pe_non (nomark _)) (pss_one (ps_ret pe_non)) pss_nil)
      (pss_one (ps_ret (pe_tup (pa_cons (pe_ix ix_lstH (pv 2) pe_int (fun _ _ => rfl)) (pa_cons (pv 3) pa_nil))))))))), ?_⟩
    have hl := headS_len row
    refine seq_gen fun N eN => ?_
    try simp only [tSeq, tNext, tRet, tRetN, tAsg, gName, gSub, tDrop, tIfS, tOp, tUn, tCB, tCons, tNil, tC, tVar, rI, rI0, rU, tAnd, tOr, tNot, tAndV, tOrV, tNotV, tIf, tTest, tB, tCall, tChain, tLst, tTup, tYes, rIxH, rIsB, rIsBT, rMulS, kd_non, kd_bl, kd_int, kd_str, kd_ref, kdO_lst, kdO_tup, kdO_dK, nq_n, nq_b, nq_i, nq_s, nq_l, nq_t, nq_d, ne_eq, not_false_eq_true, kit_ss, kit_ns, kit_bs, kit_is, kit_ls, kit_ts, kit_ds, kit_bb, V.ty.injEq, and_assoc, rIxU, rLenH, rLenU, rLenS, rInt1, rSetL, rEq, rNe, rCat, L2.start, List.map, List.length, List.length_cons, List.length_nil, List.replicate, List.getElem?_cons_zero, List.getElem?_cons_succ, List.set_cons_zero, List.set_cons_succ, List.set_nil, List.cons_append, List.nil_append, List.append_nil, Option.some.injEq, V.int.injEq, V.ref.injEq, V.str.injEq, V.bl.injEq, HO.lst.injEq, HO.tup.injEq, exists_eq_left', exists_and_left, exists_eq_left, List.cons.injEq, and_true, true_and, and_false, false_and, and_self, reduceCtorEq, exists_false, or_false, false_or, exists_const, at0, at1, at2, at3, at4, at5, ix51, ix52, ix54, upd_same, Nat.reduceAdd, Nat.reduceSub, Nat.zero_add, Int.reduceToNat, Int.reduceLE, Int.reduceLT, decide_eq_true_eq, Bool.not_eq_true, if_true, if_false, Bool.false_eq_true, ite_true, ite_false, Bool.not_true, Bool.not_false, decide_true, decide_false, tFor_eq, tLc_eq, iList, iTup, iRng1, iRng2, iStr, tSl, tPart, tNoPart, rSlL, cxOf_K, wipe, ex_ty2, kit_LTl, kit_LTt, kit_LTd, kit_LTs, kit_LTn, kit_LTb, kit_LTi, tM1, rIxS, exists_eq', lt1p, tDNewK, rSlS, rEqNil, nox_K, tM1, rNewStrs]
    refine ⟨by decide +kernel, size1000 (by omega), ?_⟩
    rw [head_split row]
    intro wd n_wd; generalize g_H1 : upd H wd _ = H1; obtain ⟨s_H1, h_wd⟩ := new_facts n_wd g_H1; clear g_H1
    have hw : H1 wd = some (.lst [.str (Str.ofString "version"), .str r.nm, .str (pars r.ps)]) := h_wd
    rw [eN]
    clear eN N
    refine seq_gen fun N eN => ?_
    try simp only [tSeq, tNext, tRet, tRetN, tAsg, gName, gSub, tDrop, tIfS, tOp, tUn, tCB, tCons, tNil, tC, tVar, rI, rI0, rU, tAnd, tOr, tNot, tAndV, tOrV, tNotV, tIf, tTest, tB, tCall, tChain, tLst, tTup, tYes, rIxH, rIsB, rIsBT, rMulS, kd_non, kd_bl, kd_int, kd_str, kd_ref, kdO_lst, kdO_tup, kdO_dK, nq_n, nq_b, nq_i, nq_s, nq_l, nq_t, nq_d, ne_eq, not_false_eq_true, kit_ss, kit_ns, kit_bs, kit_is, kit_ls, kit_ts, kit_ds, kit_bb, V.ty.injEq, and_assoc, rIxU, rLenH, rLenU, rLenS, rInt1, rSetL, rEq, rNe, rCat, L2.start, List.map, List.length, List.length_cons, List.length_nil, List.replicate, List.getElem?_cons_zero, List.getElem?_cons_succ, List.set_cons_zero, List.set_cons_succ, List.set_nil, List.cons_append, List.nil_append, List.append_nil, Option.some.injEq, V.int.injEq, V.ref.injEq, V.str.injEq, V.bl.injEq, HO.lst.injEq, HO.tup.injEq, exists_eq_left', exists_and_left, exists_eq_left, List.cons.injEq, and_true, true_and, and_false, false_and, and_self, reduceCtorEq, exists_false, or_false, false_or, exists_const, at0, at1, at2, at3, at4, at5, ix51, ix52, ix54, upd_same, Nat.reduceAdd, Nat.reduceSub, Nat.zero_add, Int.reduceToNat, Int.reduceLE, Int.reduceLT, decide_eq_true_eq, Bool.not_eq_true, if_true, if_false, Bool.false_eq_true, ite_true, ite_false, Bool.not_true, Bool.not_false, decide_true, decide_false, tFor_eq, tLc_eq, iList, iTup, iRng1, iRng2, iStr, tSl, tPart, tNoPart, rSlL, cxOf_K, wipe, ex_ty2, kit_LTl, kit_LTt, kit_LTd, kit_LTs, kit_LTn, kit_LTb, kit_LTi, tM1, rIxS, exists_eq', lt1p, tDNewK, rSlS, rEqNil, nox_K, hw, scal_int, scal_str]
    have hnm := name4 row.nm
    refine ⟨_, rfl, .str ⟨Nat.le_trans hnm.2.1 (by decide), fun c hc => Nat.lt_trans (hnm.2.2 c hc).2 (by decide)⟩, fun H2 s2 => ⟨_, rfl, ?_⟩⟩
    rw [hnm.1]
    try simp only [tSeq, tNext, tRet, tRetN, tAsg, gName, gSub, tDrop, tIfS, tOp, tUn, tCB, tCons, tNil, tC, tVar, rI, rI0, rU, tAnd, tOr, tNot, tAndV, tOrV, tNotV, tIf, tTest, tB, tCall, tChain, tLst, tTup, tYes, rIxH, rIsB, rIsBT, rMulS, kd_non, kd_bl, kd_int, kd_str, kd_ref, kdO_lst, kdO_tup, kdO_dK, nq_n, nq_b, nq_i, nq_s, nq_l, nq_t, nq_d, ne_eq, not_false_eq_true, kit_ss, kit_ns, kit_bs, kit_is, kit_ls, kit_ts, kit_ds, kit_bb, V.ty.injEq, and_assoc, rIxU, rLenH, rLenU, rLenS, rInt1, rSetL, rEq, rNe, rCat, L2.start, List.map, List.length, List.length_cons, List.length_nil, List.replicate, List.getElem?_cons_zero, List.getElem?_cons_succ, List.set_cons_zero, List.set_cons_succ, List.set_nil, List.cons_append, List.nil_append, List.append_nil, Option.some.injEq, V.int.injEq, V.ref.injEq, V.str.injEq, V.bl.injEq, HO.lst.injEq, HO.tup.injEq, exists_eq_left', exists_and_left, exists_eq_left, List.cons.injEq, and_true, true_and, and_false, false_and, and_self, reduceCtorEq, exists_false, or_false, false_or, exists_const, at0, at1, at2, at3, at4, at5, ix51, ix52, ix54, upd_same, Nat.reduceAdd, Nat.reduceSub, Nat.zero_add, Int.reduceToNat, Int.reduceLE, Int.reduceLT, decide_eq_true_eq, Bool.not_eq_true, if_true, if_false, Bool.false_eq_true, ite_true, ite_false, Bool.not_true, Bool.not_false, decide_true, decide_false, tFor_eq, tLc_eq, iList, iTup, iRng1, iRng2, iStr, tSl, tPart, tNoPart, rSlL, cxOf_K, wipe, ex_ty2, kit_LTl, kit_LTt, kit_LTd, kit_LTs, kit_LTn, kit_LTb, kit_LTi, tM1, rIxS, exists_eq', lt1p, tDNewK, rSlS, rEqNil, nox_K]
    rw [eN]
    clear eN N
    refine seq_gen fun N eN => ?_
    try simp only [tSeq, tNext, tRet, tRetN, tAsg, gName, gSub, tDrop, tIfS, tOp, tUn, tCB, tCons, tNil, tC, tVar, rI, rI0, rU, tAnd, tOr, tNot, tAndV, tOrV, tNotV, tIf, tTest, tB, tCall, tChain, tLst, tTup, tYes, rIxH, rIsB, rIsBT, rMulS, kd_non, kd_bl, kd_int, kd_str, kd_ref, kdO_lst, kdO_tup, kdO_dK, nq_n, nq_b, nq_i, nq_s, nq_l, nq_t, nq_d, ne_eq, not_false_eq_true, kit_ss, kit_ns, kit_bs, kit_is, kit_ls, kit_ts, kit_ds, kit_bb, V.ty.injEq, and_assoc, rIxU, rLenH, rLenU, rLenS, rInt1, rSetL, rEq, rNe, rCat, L2.start, List.map, List.length, List.length_cons, List.length_nil, List.replicate, List.getElem?_cons_zero, List.getElem?_cons_succ, List.set_cons_zero, List.set_cons_succ, List.set_nil, List.cons_append, List.nil_append, List.append_nil, Option.some.injEq, V.int.injEq, V.ref.injEq, V.str.injEq, V.bl.injEq, HO.lst.injEq, HO.tup.injEq, exists_eq_left', exists_and_left, exists_eq_left, List.cons.injEq, and_true, true_and, and_false, false_and, and_self, reduceCtorEq, exists_false, or_false, false_or, exists_const, at0, at1, at2, at3, at4, at5, ix51, ix52, ix54, upd_same, Nat.reduceAdd, Nat.reduceSub, Nat.zero_add, Int.reduceToNat, Int.reduceLE, Int.reduceLT, decide_eq_true_eq, Bool.not_eq_true, if_true, if_false, Bool.false_eq_true, ite_true, ite_false, Bool.not_true, Bool.not_false, decide_true, decide_false, tFor_eq, tLc_eq, iList, iTup, iRng1, iRng2, iStr, tSl, tPart, tNoPart, rSlL, cxOf_K, wipe, ex_ty2, kit_LTl, kit_LTt, kit_LTd, kit_LTs, kit_LTn, kit_LTb, kit_LTi, tM1, rIxS, exists_eq', lt1p, tDNewK, rSlS, rEqNil, nox_K, s2 _ _ hw]
    refine ⟨r.ps, n, rfl, row.pl, row.po, fun x hx => ⟨(row.pb x hx).1, (row.pb x hx).2, pn x hx⟩, fun H3 e s3 ne he => ?_⟩
    dsimp only
    rw [eN]
    clear eN N
    have s23 := s2.trans s3
    have s03 := s_H1.trans s23
    try simp only [tSeq, tNext, tRet, tRetN, tAsg, gName, gSub, tDrop, tIfS, tOp, tUn, tCB, tCons, tNil, tC, tVar, rI, rI0, rU, tAnd, tOr, tNot, tAndV, tOrV, tNotV, tIf, tTest, tB, tCall, tChain, tLst, tTup, tYes, rIxH, rIsB, rIsBT, rMulS, kd_non, kd_bl, kd_int, kd_str, kd_ref, kdO_lst, kdO_tup, kdO_dK, nq_n, nq_b, nq_i, nq_s, nq_l, nq_t, nq_d, ne_eq, not_false_eq_true, kit_ss, kit_ns, kit_bs, kit_is, kit_ls, kit_ts, kit_ds, kit_bb, V.ty.injEq, and_assoc, rIxU, rLenH, rLenU, rLenS, rInt1, rSetL, rEq, rNe, rCat, L2.start, List.map, List.length, List.length_cons, List.length_nil, List.replicate, List.getElem?_cons_zero, List.getElem?_cons_succ, List.set_cons_zero, List.set_cons_succ, List.set_nil, List.cons_append, List.nil_append, List.append_nil, Option.some.injEq, V.int.injEq, V.ref.injEq, V.str.injEq, V.bl.injEq, HO.lst.injEq, HO.tup.injEq, exists_eq_left', exists_and_left, exists_eq_left, List.cons.injEq, and_true, true_and, and_false, false_and, and_self, reduceCtorEq, exists_false, or_false, false_or, exists_const, at0, at1, at2, at3, at4, at5, ix51, ix52, ix54, upd_same, Nat.reduceAdd, Nat.reduceSub, Nat.zero_add, Int.reduceToNat, Int.reduceLE, Int.reduceLT, decide_eq_true_eq, Bool.not_eq_true, if_true, if_false, Bool.false_eq_true, ite_true, ite_false, Bool.not_true, Bool.not_false, decide_true, decide_false, tFor_eq, tLc_eq, iList, iTup, iRng1, iRng2, iStr, tSl, tPart, tNoPart, rSlL, cxOf_K, wipe, ex_ty2, kit_LTl, kit_LTt, kit_LTd, kit_LTs, kit_LTn, kit_LTb, kit_LTi, tM1, rIxS, exists_eq', lt1p, tDNewK, rSlS, rEqNil, nox_K, s23 _ _ hw]
    exact ⟨by decide, fun p hp => q _ p e (s03.trans (same_new hp)) (s03.free hp) ((s_H1.trans s2).free ne) upd_same (same_new hp _ _ he)⟩
end



/-! ### rows of a text, plainly -/
theorem cut1 {z : Str} {c : Nat} (hc : c < 1000) : cutS (⟨#[c]⟩ ++ z) none (some 1) = ⟨#[c]⟩ ∧ cutS (⟨#[c]⟩ ++ z) (some 1) none = z := by
  have hl : ((⟨#[c]⟩ : Str) ++ z).length = z.length + 1 := by rw [app_len]; show 1 + z.length = _; omega
  have ht : TL.tl ((⟨#[c]⟩ : Str) ++ z) = c :: TL.tl z := by rw [TL.tl_append]; rfl
  constructor
  · refine TL.ext_tl ?_
    unfold cutS
    rw [hl]
    show List.take (HT.sIx (z.length + 1) (z.length + 1) (some ((1 : Nat) : Int)) - 0) (List.drop 0 (TL.tl ((⟨#[c]⟩ : Str) ++ z))) = [c]
    rw [HT.sIx_nat, ht, List.drop_zero, Nat.sub_zero, Nat.min_eq_left (by omega)]
    rfl
  · refine TL.ext_tl ?_
    unfold cutS
    rw [hl]
    show List.take (z.length + 1 - HT.sIx (z.length + 1) 0 (some ((1 : Nat) : Int))) (List.drop (HT.sIx (z.length + 1) 0 (some ((1 : Nat) : Int))) (TL.tl ((⟨#[c]⟩ : Str) ++ z))) = TL.tl z
    rw [HT.sIx_nat, ht, Nat.min_eq_left (by omega), List.drop_succ_cons, List.drop_zero]
    have : (TL.tl z).length = z.length := rfl
    rw [List.take_of_length_le (by omega)]
theorem bar_eq : (Str.ofString "|") = (⟨#[124]⟩ : Str) := by decide +kernel
theorem headS_v (r : VR) : ∃ z : Str, headS r = (⟨#[118]⟩ : Str) ++ z := by
  refine ⟨Str.ofString "ersion " ++ r.nm ++ " " ++ pars r.ps, TL.ext_tl ?_⟩
  unfold headS
  rw [TL.tl_append, TL.tl_append, TL.tl_append, TL.tl_append, TL.tl_append, TL.tl_append, TL.tl_append]
  have e1 : TL.tl (Str.ofString "version ") = TL.tl (⟨#[118]⟩ : Str) ++ TL.tl (Str.ofString "ersion ") := by decide +kernel
  rw [e1]
  simp
theorem rows_no {rs : List VR} (h : ∀ r ∈ rs, TRow r) : ∀ z ∈ rowsS rs, 10 ∉ TL.tl z := fun z hz hc => by
  obtain ⟨r, hr, hz⟩ := List.mem_flatMap.mp hz
  rcases List.mem_cons.mp hz with e | e
  · rw [e] at hc
    unfold headS at hc
    rw [TL.tl_append, TL.tl_append, TL.tl_append] at hc
    have row := h r hr
    rcases List.mem_append.mp hc with hc | hc
    · rcases List.mem_append.mp hc with hc | hc
      · rcases List.mem_append.mp hc with hc | hc
        · exact absurd hc (by decide +kernel)
        · have := (name4 row.nm).2.2 _ hc
          omega
      · exact absurd hc (by decide +kernel)
    · have := pars_sg row.pb _ hc
      omega
  · obtain ⟨l, hl, rfl⟩ := List.mem_map.mp e
    rw [TL.tl_append] at hc
    rcases List.mem_append.mp hc with hc | hc
    · exact absurd hc (by decide +kernel)
    · have := (word9 ((h r hr).ls l hl)).2.2 _ hc
      omega
theorem fmt_split {rs : List VR} (h : ∀ r ∈ rs, TRow r) (h0 : rs ≠ []) : Txt.split (fmtS rs) (Str.ofString "\n") = rowsS rs := by
  unfold fmtS
  refine TL.split_join (s := 10) (S := []) (by decide +kernel) (by decide +kernel) ?_ (rows_no h)
  cases rs with
  | nil => exact absurd rfl h0
  | cons r rs =>
    unfold rowsS
    rw [List.flatMap_cons]
    exact fun z => by cases z
theorem fmt_ne {rs : List VR} (h0 : rs ≠ []) : fmtS rs ≠ Str.ofString "" := fun e => by
  cases rs with
  | nil => exact h0 rfl
  | cons r rs =>
    obtain ⟨z, hz⟩ := headS_v r
    have e1 : TL.tl (fmtS (r :: rs)) = [] := by rw [e]; decide +kernel
    unfold fmtS at e1
    rw [show Txt.join "\n" (rowsS (r :: rs)) = Str.join "\n" (rowsS (r :: rs)) from StrLaws.glued_eq_join _ _, TL.tl_join] at e1
    unfold rowsS at e1
    rw [List.flatMap_cons, List.cons_append, List.map_cons, hz] at e1
    rw [TL.tl_append] at e1
    generalize List.map TL.tl _ = xs at e1
    cases xs with
    | nil => cases e1
    | cons _ _ => cases e1
theorem fmt_len {rs : List VR} (h : ∀ r ∈ rs, TRow r) (hl : rs.length ≤ 10) : (fmtS rs).length ≤ 6000 := by
  unfold fmtS
  rw [show Txt.join "\n" (rowsS rs) = Str.join "\n" (rowsS rs) from StrLaws.glued_eq_join _ _]
  have q := StrLaws.join_length_le (Str.ofString "\n") (rowsS rs)
  have hc := rowsS_cnt h
  have hs := sum_le (l := rowsS rs) (f := fun x => x.length) (n := 41) (rowsS_len h)
  rw [show (Str.ofString "\n").length = 1 from by decide +kernel] at q
  have : (List.map (fun x => x.length) (rowsS rs)).sum = (List.map (·.length) (rowsS rs)).sum := rfl
  omega
/-- where a row stands: k heads read, m lines of the last -/
structure At (rs : List VR) (i k m : Nat) : Prop where
  kl : k ≤ rs.length
  z : k = 0 → i = 0 ∧ m = 0
  s : ∀ j, k = j + 1 → i = (rowsS (rs.take j)).length + 1 + m ∧ ∀ r, rs[j]? = some r → m ≤ r.ls.length
theorem take_split {rs : List VR} {j : Nat} {r : VR} (h : rs[j]? = some r) : rs = rs.take j ++ r :: rs.drop (j + 1) := by
  have hj := (List.getElem?_eq_some_iff.mp h).1
  have e : rs[j] = r := (List.getElem?_eq_some_iff.mp h).2
  rw [← e, ← List.drop_eq_getElem_cons hj, List.take_append_drop]
theorem rows_split {rs : List VR} {j : Nat} {r : VR} (h : rs[j]? = some r) : rowsS rs = rowsS (rs.take j) ++ (headS r :: r.ls.map fun (z : Str) => Str.ofString "|" ++ z) ++ rowsS (rs.drop (j + 1)) := by
  have e := take_split h
  have e2 := congrArg rowsS e
  rw [e2]
  unfold rowsS
  rw [List.flatMap_append, List.flatMap_cons, List.append_assoc]
theorem At.next {rs : List VR} {i k m : Nat} {z : Str} (h : At rs i k m) (hz : (rowsS rs)[i]? = some z) :
    (∃ r, rs[k]? = some r ∧ z = headS r ∧ At rs (i + 1) (k + 1) 0 ∧ (∀ j, k = j + 1 → ∀ r', rs[j]? = some r' → m = r'.ls.length)) ∨
    (∃ j r l, k = j + 1 ∧ rs[j]? = some r ∧ r.ls[m]? = some l ∧ z = Str.ofString "|" ++ l ∧ At rs (i + 1) k (m + 1)) := by
  cases k with
  | zero =>
    obtain ⟨rfl, rfl⟩ := h.z rfl
    cases rs with
    | nil => cases hz
    | cons r rs =>
      have e : headS r = z := by
        unfold rowsS at hz
        rw [List.flatMap_cons] at hz
        exact Option.some.inj hz
      refine .inl ⟨r, rfl, e.symm, ⟨by rw [List.length_cons]; omega, fun h => by omega, fun j hj => ?_⟩, fun j hj => by omega⟩
      have : j = 0 := by omega
      subst this
      refine ⟨?_, fun r' _ => Nat.zero_le _⟩
      rw [List.take_zero]
      rfl
  | succ j =>
    have hj : j < rs.length := h.kl
    obtain ⟨ei, hm⟩ := h.s j rfl
    have hr : rs[j]? = some rs[j] := List.getElem?_eq_getElem hj
    have hm := hm _ hr
    rw [rows_split hr] at hz
    have el : (rowsS (rs.take (j + 1))).length = (rowsS (rs.take j)).length + 1 + rs[j].ls.length := by
      rw [take_get hr, rowsS_snoc, List.length_append, List.length_cons, List.length_map]
      omega
    rcases Nat.lt_or_ge m rs[j].ls.length with hlt | hge
    · refine .inr ⟨j, rs[j], rs[j].ls[m], rfl, hr, List.getElem?_eq_getElem hlt, ?_, ⟨h.kl, fun h => by omega, fun j' hj' => ?_⟩⟩
      · rw [List.getElem?_append_left (by rw [List.length_append, List.length_cons, List.length_map]; omega), List.getElem?_append_right (by omega)] at hz
        have ex : i - (rowsS (rs.take j)).length = m + 1 := by omega
        rw [ex, List.getElem?_cons_succ, List.getElem?_map, List.getElem?_eq_getElem hlt] at hz
        exact (Option.some.inj hz).symm
      · have : j' = j := by omega
        subst this
        exact ⟨by omega, fun r' hr' => by rw [hr] at hr'; cases hr'; omega⟩
    · have em : m = rs[j].ls.length := by omega
      rw [List.getElem?_append_right (by rw [List.length_append, List.length_cons, List.length_map]; omega)] at hz
      have ex : i - (rowsS (rs.take j) ++ headS rs[j] :: List.map (fun (z : Str) => Str.ofString "|" ++ z) rs[j].ls).length = 0 := by rw [List.length_append, List.length_cons, List.length_map]; omega
      rw [ex] at hz
      have hj1 : j + 1 < rs.length := by
        rcases Nat.lt_or_ge (j + 1) rs.length with h | h
        · exact h
        · rw [List.drop_of_length_le h] at hz; cases hz
      rw [List.drop_eq_getElem_cons hj1] at hz
      have e : headS rs[j + 1] = z := by
        unfold rowsS at hz
        rw [List.flatMap_cons] at hz
        exact Option.some.inj hz
      refine .inl ⟨rs[j + 1], List.getElem?_eq_getElem hj1, e.symm, ⟨hj1, fun h => by omega, fun j' hj' => ?_⟩, fun j' hj' r' hr' => ?_⟩
      · have : j' = j + 1 := by omega
        subst this
        exact ⟨by omega, fun _ _ => Nat.zero_le _⟩
      · have : j' = j := by omega
        subst this
        rw [hr] at hr'
        cases hr'
        exact em
theorem At.done {rs : List VR} {k m : Nat} (h : At rs (rowsS rs).length k m) : k = rs.length ∧ ∀ j, k = j + 1 → ∀ r, rs[j]? = some r → m = r.ls.length := by
  cases k with
  | zero =>
    obtain ⟨e, _⟩ := h.z rfl
    cases rs with
    | nil => exact ⟨rfl, fun j hj => by omega⟩
    | cons r rs =>
      unfold rowsS at e
      rw [List.flatMap_cons] at e
      cases e
  | succ j =>
    have hj : j < rs.length := h.kl
    obtain ⟨ei, hm⟩ := h.s j rfl
    have hr : rs[j]? = some rs[j] := List.getElem?_eq_getElem hj
    have hm := hm _ hr
    rw [rows_split hr, List.length_append, List.length_append, List.length_cons, List.length_map] at ei
    have e0 : (rowsS (rs.drop (j + 1))).length = 0 := by omega
    have em : m = rs[j].ls.length := by omega
    refine ⟨?_, fun j' hj' r' hr' => ?_⟩
    · rcases Nat.lt_or_ge (j + 1) rs.length with h | h
      · rw [List.drop_eq_getElem_cons h] at e0
        unfold rowsS at e0
        rw [List.flatMap_cons] at e0
        cases e0
      · omega
    · have : j' = j := by omega
      subst this
      rw [hr] at hr'
      cases hr'
      exact em



theorem Thg.extN {H H' : Hp} {v : V} (e : LamX.ExtN H H') (h : Thg H v) : Thg H' v := by
  cases h with
  | non => exact .non
  | bl b => exact .bl b
  | int i => exact .int i
  | str h => exact .str h
  | lst h => exact .lst (e _ _ h (fun ps z => by cases z))
  | tup h => exact .tup (e _ _ h (fun ps z => by cases z))
  | dic h => exact .dic (e _ _ h (fun ps z => by cases z))
theorem VerAt.extN {C : Addr} {H H' : Hp} {a : Addr} {ls : List Str} {ps : List Int} {n : Str} (e : LamX.ExtN H H') (h : VerAt C H a ls ps n) : VerAt C H' a ls ps n := by
  obtain ⟨dx, l, p, h1, h2, h3⟩ := h
  exact ⟨dx, l, p, e _ _ h1 (fun ps z => by cases z), e _ _ h2 (fun ps z => by cases z), e _ _ h3 (fun ps z => by cases z)⟩
theorem sorted_uniq : ∀ {a b : List Int}, a.Pairwise (· < ·) → b.Pairwise (· ≤ ·) → b.Nodup → (∀ k, k ∈ a ↔ k ∈ b) → b = a
  | [], [], _, _, _, _ => rfl
  | [], y :: b, _, _, _, h => absurd ((h y).mpr List.mem_cons_self) List.not_mem_nil
  | x :: a, [], _, _, _, h => absurd ((h x).mp List.mem_cons_self) List.not_mem_nil
  | x :: a, y :: b, ha, hb, hn, h => by
    obtain ⟨a1, a2⟩ := List.pairwise_cons.mp ha
    obtain ⟨b1, b2⟩ := List.pairwise_cons.mp hb
    obtain ⟨n1, n2⟩ := List.nodup_cons.mp hn
    have e : x = y := by
      rcases List.mem_cons.mp ((h x).mp List.mem_cons_self) with e | e
      · exact e
      · rcases List.mem_cons.mp ((h y).mpr List.mem_cons_self) with e' | e'
        · exact e'.symm
        · have := b1 x e
          have := a1 y e'
          omega
    subst e
    rw [sorted_uniq a2 b2 n2 fun k => ⟨fun hk => ?_, fun hk => ?_⟩]
    · rcases List.mem_cons.mp ((h k).mp (List.mem_cons_of_mem _ hk)) with e | e
      · have := a1 k hk
        omega
      · exact e
    · rcases List.mem_cons.mp ((h k).mpr (List.mem_cons_of_mem _ hk)) with e | e
      · subst e
        exact absurd hk n1
      · exact e
theorem nodup_lt : ∀ {a : List Int}, a.Pairwise (· < ·) → a.Nodup := fun h => h.imp fun h => by omega
theorem lt1900 {z : Int} (h0 : 0 ≤ z) (h1 : z < 100000000000000000000) : z.natAbs < 2 ^ 1900 := Nat.lt_of_lt_of_le (m := 100000000000000000000) (by omega) (by decide)
theorem neL_strs {K : PySem.W.Frag} {H : Hp} {a b : Addr} {xs ys : List Str} {Q : VK} (ha : H a = some (.lst (xs.map V.str))) (hb : H b = some (.lst (ys.map V.str))) (h1 : ∀ z ∈ xs, ∀ c ∈ z.cps.toList, c < 128) (h2 : ∀ z ∈ ys, ∀ c ∈ z.cps.toList, c < 128) (k : Q (.bl (!decide (xs = ys))) H) : rNeD K (.ref a) (.ref b) H Q := by
  refine ⟨.list (xs.map PyData.str), .list (ys.map PyData.str), .lst (SqL.of ha) (dp_strs xs), .lst (SqL.of hb) (dp_strs ys), shaped_strs h1, shaped_strs h2, ?_⟩
  have e : PyData.eqv (.list (xs.map PyData.str)) (.list (ys.map PyData.str)) = decide (xs = ys) := by
    rw [← eqv_strsT]
    simp only [PyData.eqv]
  rw [e]
  exact k

theorem seqV_extN {H H' : Hp} {v : V} (e : LamX.ExtN H H') (h : Thg H v) : seqV H' v = seqV H v := by
  cases h with
  | lst h => show seqO (H' _) = seqO (H _); rw [h, e _ _ h (fun ps z => by cases z)]
  | tup h => show seqO (H' _) = seqO (H _); rw [h, e _ _ h (fun ps z => by cases z)]
  | dic h => show seqO (H' _) = seqO (H _); rw [h, e _ _ h (fun ps z => by cases z)]
  | _ => rfl
theorem Thq.extN {H H' : Hp} {v : V} (e : LamX.ExtN H H') (h : Thq H v) : Thq H' v := by
  refine ⟨h.1.extN e, fun xs hx => ?_⟩
  rw [seqV_extN e h.1] at hx
  exact ⟨(h.2 xs hx).1, fun x m => ((h.2 xs hx).2 x m).extN e⟩
theorem text_extN {H H' : Hp} {v : V} (e : LamX.ExtN H H') (h : Thq H v) : isTextV H' v = isTextV H v := by
  unfold isTextV
  rw [seqV_extN e h.1]
theorem par_extN {H H' : Hp} {v : V} (e : LamX.ExtN H H') (h : Thq H v) : isParV H' v = isParV H v := by
  unfold isParV
  rw [seqV_extN e h.1]
theorem text_ok {H : Hp} {lb : Addr} {ls : List Str} (hll : ls.length ≤ 12) (hz : ∀ z ∈ ls, isLineV (.str z) = true ∧ z.length ≤ 40 ∧ ∀ c ∈ z.cps.toList, c < 128) (hl : seqO (H lb) = some (ls.map V.str)) (ht : Thg H (.ref lb)) : Thq H (.ref lb) ∧ isTextV H (.ref lb) = true := by
  refine ⟨⟨ht, fun xs hx => ?_⟩, ?_⟩
  · have e : some (ls.map V.str) = some xs := hl.symm.trans hx
    injection e with e
    subst e
    refine ⟨by rw [List.length_map]; omega, fun x hx => ?_⟩
    obtain ⟨z, hm, rfl⟩ := List.mem_map.mp hx
    have q := hz z hm
    exact .str ⟨Nat.le_trans q.2.1 (by decide), q.2.2⟩
  · rw [text_of (show seqV H (.ref lb) = _ from hl), List.length_map, decide_eq_true hll, Bool.true_and]
    refine List.all_eq_true.mpr fun x hx => ?_
    obtain ⟨z, hm, rfl⟩ := List.mem_map.mp hx
    exact (hz z hm).1
theorem par_ints {qs : List Int} (h1 : qs.length ≤ 3) (h2 : qs.Nodup) (h3 : ∀ z ∈ qs, 0 ≤ z) : parL (qs.map V.int) = true := by
  unfold parL
  have e : (qs.map V.int).map cntOf = qs := by
    rw [List.map_map]
    exact List.map_id' qs
  rw [e, List.length_map, decide_eq_true h1, decide_eq_true (nd_nodup h2), Bool.true_and, Bool.and_true]
  refine List.all_eq_true.mpr fun x hx => ?_
  obtain ⟨z, hz, rfl⟩ := List.mem_map.mp hx
  exact decide_eq_true (h3 z hz)
theorem thq_of {H : Hp} {v : V} {xs : List V} (h : Thg H v) (e : seqV H v = some xs) (hl : xs.length ≤ 1000) (hx : ∀ x ∈ xs, Thg H x) : Thq H v := by
  refine ⟨h, fun ys hy => ?_⟩
  rw [e] at hy
  injection hy with hy
  subst hy
  exact ⟨hl, hx⟩
theorem thq_no {H : Hp} {v : V} (h : Thg H v) (e : seqV H v = none) : Thq H v := ⟨h, fun ys hy => by rw [e] at hy; cases hy⟩
theorem seq_lst {H : Hp} {a : Addr} {xs : List V} (e : H a = some (.lst xs)) : seqV H (.ref a) = some xs := by
  show seqO (H a) = _
  rw [e]
  rfl
theorem seq_tup {H : Hp} {a : Addr} {xs : List V} (e : H a = some (.tup xs)) : seqV H (.ref a) = some xs := by
  show seqO (H a) = _
  rw [e]
  rfl
theorem seq_dic {H : Hp} {a : Addr} {kvs : List (Key × V)} (e : H a = some (.dK kvs)) : seqV H (.ref a) = none := by
  show seqO (H a) = _
  rw [e]
  rfl

theorem sm_lit {z : Str} (h : (decide (z.length ≤ 1000) && z.cps.toList.all fun c => decide (c < 128)) = true) : Sm z := by
  rw [Bool.and_eq_true] at h
  exact ⟨of_decide_eq_true h.1, fun c hc => of_decide_eq_true (List.all_eq_true.mp h.2 c hc)⟩

theorem VerAt.mut {C : Addr} {H : Hp} {a g : Addr} {ls : List Str} {ps : List Int} {n : Str} {xs ys : List V} (h : VerAt C H a ls ps n) (e : H g = some (.lst xs)) : VerAt C (upd H g (.lst ys)) a ls ps n := by
  obtain ⟨dx, l, p, h1, h2, h3⟩ := h
  have ne : ∀ {b : Addr} {u : HO}, H b = some u → (∀ xs, u ≠ .lst xs) → b ≠ g := fun {b u} eb n z => by rw [z, e] at eb; exact n _ (Option.some.inj eb).symm
  exact ⟨dx, l, p, by rw [upd_ne (ne h1 (fun xs z => by cases z))]; exact h1, by rw [upd_ne (ne h2 (fun xs z => by cases z))]; exact h2, by rw [upd_ne (ne h3 (fun xs z => by cases z))]; exact h3⟩

/-! ### for the law -/
def mkGo (C : Addr) (sp : Sp) (dvs : List V) (E : XK) (vs : List V) (H1 : Hp) (Q : VK) : Prop := ∀ x dx, H1 x = none → H1 dx = none → dx ≠ x → sp (.ref x :: (vs ++ dvs)) (upd (upd H1 dx (.own x)) x (.ins C dx [])) (fun v H2 => v = .non ∧ Q (.ref x) H2) E
theorem tMake_eq {C : Addr} {sp : Sp} {dvs : List V} {E : XK} {t : TA} {σ : St} {H : Hp} {Q : VK} : tMake C sp dvs E t σ H Q = t σ H fun vs H1 => mkGo C sp dvs E vs H1 Q := rfl

theorem VersAt.mut {C : Addr} {H : Hp} {g : Addr} {vas : List Addr} {rs : List VR} {xs ys : List V} (h : VersAt C H vas rs) (e : H g = some (.lst xs)) : VersAt C (upd H g (.lst ys)) vas rs := ⟨h.len, fun i a r h1 h2 => ⟨(h.ea i a r h1 h2).1.mut e, (h.ea i a r h1 h2).2⟩⟩
theorem VersAt.extN {C : Addr} {H H' : Hp} {vas : List Addr} {rs : List VR} (h : VersAt C H vas rs) (e : LamX.ExtN H H') : VersAt C H' vas rs := ⟨h.len, fun i a r h1 h2 => ⟨(h.ea i a r h1 h2).1.extN e, (h.ea i a r h1 h2).2⟩⟩
theorem hist_yes {K : PySem.W.Frag} {CH CV : Addr} {dvs vs : List V} {E : XK} {H : Hp} {Q : VK} {b : Addr} {vas : List Addr} {rs : List VR} (hv : vs ++ dvs = [.ref b]) (hb : H b = some (.lst (vas.map V.ref)) ∨ H b = some (.tup (vas.map V.ref)) ∨ (KT0 K b ∧ vas = [])) (l10 : vas.length ≤ 10) (va : VersAt CV H vas rs) (gr : Gr rs)
    (k : ∀ H' x dx kk, Same H H' → H x = none → H kk = none → H' x = some (.ins CH dx (hF kk)) → H' kk = some (.lst (vas.map V.ref)) → Q (.ref x) H') : mkGo CH (spHist K CH CV) dvs E vs H Q := by
  intro x dx nx nd ne
  have sm := own_sameV (C := CH) nx nd
  rw [hv]
  refine ⟨x, dx, b, vas, rs, upd_same, rfl, hb.imp (sm _ _) (Or.imp_left (sm _ _)), l10, va.same sm, gr, fun H' kk nk kp hx hk => ⟨rfl, k H' x dx kk (fun c o hc => ?_) nx (sm.free nk) hx hk⟩⟩
  exact kp c o (fun z => by rw [z, nx] at hc; cases hc) (sm c o hc)
/-- a comprehension that makes an object a turn -/
theorem lc_rel {J : It} {xs : List V} {G : Hp → Prop} (w : Walk J xs.length G (YAt xs)) {g : TG} {tt : TT} {te : TE} {vs : List Nat} {σ : St} {D : Addr} {Q : VK} {H1 : Hp} (R : Nat → V → Hp → Prop)
    (mono : ∀ i y H H', Same H H' → R i y H → R i y H') (mutd : ∀ i y H zs us, R i y H → H D = some (.lst zs) → R i y (upd H D (.lst us)))
    (hD : H1 D = none) (hG : ∀ H, Same H1 H → G H) (hz : xs.length ≤ 100000)
    (turn : ∀ i x, xs[i]? = some x → ∀ H, Same H1 H → ∀ (P : VK) (R0 : Hp → Prop), (∀ y H', Same H H' → R i y H' → P y H') → g x (wipe σ vs) H fun σ2 H2 => wipe σ2 vs = wipe σ vs ∧ tt σ2 H2 fun b H3 => if b = true then te σ2 H3 P else R0 H3)
    (done : ∀ ys H, Same H1 H → ys.length = xs.length → (∀ i y, ys[i]? = some y → R i y H) → H D = some (.lst ys) → Q (.ref D) H) : lcGo J g tt te vs σ D Q H1 := by
  refine lc_it w (fun i H => Same H1 H ∧ ∃ acc, acc.length = i ∧ H D = some (.lst acc) ∧ ∀ j y, acc[j]? = some y → R j y H) ⟨fun b o e => by rw [upd_ne (ne_of_none e hD)]; exact e, [], rfl, upd_same, fun j y h => by cases h⟩ (fun i H _ p => hG H p.1) (fun i x H H' hi p y => ?_) (fun H p => ?_)
  · obtain ⟨rfl, hx⟩ := y
    obtain ⟨s1, acc, hl, hacc, hR⟩ := p
    refine turn i x hx _ s1 _ _ (fun v H2 s2 r2 => ?_)
    have hacc2 := s2 _ _ hacc
    refine ⟨acc, hacc2, Nat.lt_of_le_of_lt (m := 100000) (by omega) (by decide), fun b o e => ?_, acc ++ [v], by rw [List.length_append, hl]; rfl, upd_same, fun j y hj => ?_⟩
    · rw [upd_ne (ne_of_none e hD)]
      exact s2 _ _ (s1 _ _ e)
    · rcases Nat.lt_or_ge j acc.length with hlt | hge
      · rw [List.getElem?_append_left hlt] at hj
        exact mutd _ _ _ _ _ (mono _ _ _ _ s2 (hR j y hj)) hacc2
      · rw [List.getElem?_append_right hge] at hj
        obtain ⟨j0, rfl⟩ : ∃ j0, j = acc.length + j0 := ⟨j - acc.length, by omega⟩
        rw [Nat.add_sub_cancel_left] at hj
        cases j0 with
        | zero =>
          cases hj
          rw [Nat.add_zero, hl]
          exact mutd _ _ _ _ _ r2 hacc2
        | succ j0 => cases hj
  · obtain ⟨s1, acc, hl, hacc, hR⟩ := p
    exact done acc H s1 hl hR hacc
theorem refs_list : ∀ {ys : List V}, (∀ y ∈ ys, ∃ a, y = .ref a) → ∃ vas : List Addr, ys = vas.map V.ref
  | [], _ => ⟨[], rfl⟩
  | y :: ys, h => by
    obtain ⟨a, rfl⟩ := h y List.mem_cons_self
    obtain ⟨vas, rfl⟩ := refs_list fun z hz => h z (List.mem_cons_of_mem _ hz)
    exact ⟨a :: vas, rfl⟩
theorem VersAt.take {C : Addr} {H : Hp} {vas : List Addr} {rs : List VR} (h : VersAt C H vas rs) (n : Nat) : VersAt C H (vas.take n) (rs.take n) := ⟨by rw [List.length_take, List.length_take, h.len], fun i a r h1 h2 => by
  rw [List.getElem?_take] at h1 h2
  split at h1
  · rename_i hi
    rw [if_pos hi] at h2
    exact h.ea i a r h1 h2
  · cases h1⟩
theorem Gr.take {rs : List VR} (h : Gr rs) (n : Nat) : Gr (rs.take n) := fun i r hi p hp => by
  rw [List.getElem?_take] at hi
  split at hi
  · exact h i r hi p hp
  · cases hi
theorem VersAt.snoc {C : Addr} {H : Hp} {vas : List Addr} {rs : List VR} {v : Addr} {x : VR} (h : VersAt C H vas rs) (hv : VerAt C H v x.ls x.ps x.nm) (o : VOk x) : VersAt C H (vas ++ [v]) (rs ++ [x]) := ⟨by rw [List.length_append, List.length_append, h.len]; rfl, fun i a r h1 h2 => by
  rcases Nat.lt_or_ge i rs.length with hl | hl
  · rw [List.getElem?_append_left hl] at h2
    rw [List.getElem?_append_left (by rw [h.len]; exact hl)] at h1
    exact h.ea i a r h1 h2
  · rw [List.getElem?_append_right hl] at h2
    rw [List.getElem?_append_right (by rw [h.len]; exact hl), h.len] at h1
    obtain ⟨j0, rfl⟩ : ∃ j0, i = rs.length + j0 := ⟨i - rs.length, by omega⟩
    rw [Nat.add_sub_cancel_left] at h1 h2
    cases j0 with
    | zero => cases h1; cases h2; exact ⟨hv, o⟩
    | succ j0 => cases h2⟩
theorem Gr.snoc {rs : List VR} {x : VR} (h : Gr rs) (hx : ∀ p ∈ x.ps, 0 ≤ p ∧ p < (rs.length : Int)) : Gr (rs ++ [x]) := fun i r hi p hp => by
  rcases Nat.lt_or_ge i rs.length with hl | hl
  · rw [List.getElem?_append_left hl] at hi
    exact h i r hi p hp
  · rw [List.getElem?_append_right hl] at hi
    obtain ⟨j0, rfl⟩ : ∃ j0, i = rs.length + j0 := ⟨i - rs.length, by omega⟩
    rw [Nat.add_sub_cancel_left] at hi
    cases j0 with
    | zero => cases hi; exact hx p hp
    | succ j0 => cases hi
theorem cut_but1 {xs : List V} (h : 0 < xs.length) : cutV xs none (some (-1)) = xs.take (xs.length - 1) := by
  unfold cutV
  rw [HT.sIx_none]
  have e : HT.sIx xs.length xs.length (some (-1)) = xs.length - 1 := by
    show (if (-1 : Int) < 0 then ((-1 : Int) + (xs.length : Int)).toNat else min (-1 : Int).toNat xs.length) = xs.length - 1
    rw [if_pos (by decide)]
    omega
  rw [e, List.drop_zero, Nat.sub_zero]
theorem at_last {xs : List V} {v : V} (h : xs[xs.length - 1]? = some v) : atI xs (-1) = some v := by
  have hl := (List.getElem?_eq_some_iff.mp h).1
  unfold atI
  have e : ixN xs.length (-1) = some (xs.length - 1) := by
    unfold ixN
    rw [if_neg (by decide), if_pos (by omega)]
    congr 1
    omega
  rw [e]
  exact h

/-! ### parse_history -/
structure HeadsAt (G : Hp) (has : List Addr) (rs : List VR) : Prop where
  len : has.length = rs.length
  ea : ∀ (j : Nat) (a : Addr) (r : VR), has[j]? = some a → rs[j]? = some r → ∃ e, G a = some (.tup [.str r.nm, .ref e]) ∧ G e = some (.lst (r.ps.map V.int))
structure TextsAt (G : Hp) (tas : List Addr) (rs : List VR) : Prop where
  len : tas.length = rs.length
  ea : ∀ (j : Nat) (a : Addr) (r : VR), tas[j]? = some a → rs[j]? = some r → G a = some (.lst (r.ls.map V.str))
theorem HeadsAt.same {G G' : Hp} {has : List Addr} {rs : List VR} (h : HeadsAt G has rs) (s : Same G G') : HeadsAt G' has rs := ⟨h.len, fun j a r h1 h2 => by
  obtain ⟨e, q1, q2⟩ := h.ea j a r h1 h2
  exact ⟨e, s _ _ q1, s _ _ q2⟩⟩
theorem TextsAt.same {G G' : Hp} {tas : List Addr} {rs : List VR} (h : TextsAt G tas rs) (s : Same G G') : TextsAt G' tas rs := ⟨h.len, fun j a r h1 h2 => s _ _ (h.ea j a r h1 h2)⟩
theorem snoc_get {α : Type} {xs : List α} {x y : α} {j : Nat} (h : (xs ++ [x])[j]? = some y) : (j < xs.length ∧ xs[j]? = some y) ∨ (j = xs.length ∧ y = x) := by
  rcases Nat.lt_or_ge j xs.length with hl | hl
  · rw [List.getElem?_append_left hl] at h
    exact .inl ⟨hl, h⟩
  · rw [List.getElem?_append_right hl] at h
    obtain ⟨j0, rfl⟩ : ∃ j0, j = xs.length + j0 := ⟨j - xs.length, by omega⟩
    rw [Nat.add_sub_cancel_left] at h
    cases j0 with
    | zero => cases h; exact .inr ⟨rfl, rfl⟩
    | succ j0 => cases h
theorem HeadsAt.snoc {G : Hp} {has : List Addr} {rs : List VR} {a e : Addr} {r : VR} (h : HeadsAt G has rs) (h1 : G a = some (.tup [.str r.nm, .ref e])) (h2 : G e = some (.lst (r.ps.map V.int))) : HeadsAt G (has ++ [a]) (rs ++ [r]) := ⟨by rw [List.length_append, List.length_append, h.len]; rfl, fun j a' r' q1 q2 => by
  rcases snoc_get q1 with ⟨l1, g1⟩ | ⟨l1, g1⟩
  · rcases snoc_get q2 with ⟨l2, g2⟩ | ⟨l2, g2⟩
    · exact h.ea j a' r' g1 g2
    · rw [h.len] at l1; omega
  · rcases snoc_get q2 with ⟨l2, g2⟩ | ⟨l2, g2⟩
    · rw [h.len] at l1; omega
    · subst g1 g2
      exact ⟨e, h1, h2⟩⟩
theorem TextsAt.snoc {G : Hp} {tas : List Addr} {rs : List VR} {a : Addr} {r : VR} (h : TextsAt G tas rs) (h1 : G a = some (.lst (r.ls.map V.str))) : TextsAt G (tas ++ [a]) (rs ++ [r]) := ⟨by rw [List.length_append, List.length_append, h.len]; rfl, fun j a' r' q1 q2 => by
  rcases snoc_get q1 with ⟨l1, g1⟩ | ⟨l1, g1⟩
  · rcases snoc_get q2 with ⟨l2, g2⟩ | ⟨l2, g2⟩
    · exact h.ea j a' r' g1 g2
    · rw [h.len] at l1; omega
  · rcases snoc_get q2 with ⟨l2, g2⟩ | ⟨l2, g2⟩
    · rw [h.len] at l1; omega
    · subst g1 g2
      exact h1⟩
/-- the last text is open -/
def Open (rs : List VR) (G H : Hp) (hA tA : Addr) (tas : List Addr) (k m : Nat) : Prop := (k = 0 ∧ tas = []) ∨ ∃ j ts t r, k = j + 1 ∧ tas = ts ++ [t] ∧ TextsAt G ts (rs.take j) ∧ rs[j]? = some r ∧ G t = none ∧ H t = some (.lst ((r.ls.take m).map V.str)) ∧ t ≠ hA ∧ t ≠ tA
def LPH (rs : List VR) (text : Str) (hA tA rA : Addr) (G0 : Hp) (i : Nat) (σ : St) (H : Hp) : Prop := ∃ (v4 v5 v6 : Option V) (G : Hp) (has tas : List Addr) (k m : Nat), σ = [some (.str text), some (.ref hA), some (.ref tA), some (.ref rA), v4, v5, v6, none, none] ∧ Same G0 G ∧ Same G H ∧ G hA = none ∧ G tA = none ∧ H hA = some (.lst (has.map V.ref)) ∧ H tA = some (.lst (tas.map V.ref)) ∧ HeadsAt G has (rs.take k) ∧ At rs i k m ∧ Open rs G H hA tA tas k m
def LPV (rs : List VR) (text : Str) (C hA tA rA vA : Addr) (G2 : Hp) (i : Nat) (σ : St) (H : Hp) : Prop := ∃ (v4 v5 v6 v8 : Option V) (vas : List Addr), σ = [some (.str text), some (.ref hA), some (.ref tA), some (.ref rA), v4, v5, v6, some (.ref vA), v8] ∧ Same G2 H ∧ H vA = some (.lst (vas.map V.ref)) ∧ VersAt C H vas (rs.take i)
def spParse (CH CV : Addr) : Sp := fun vs H Q _ => ∃ rs, vs = [.str (fmtS rs)] ∧ rs.length ≤ 10 ∧ (∀ r ∈ rs, TRow r) ∧ Gr rs ∧ ∀ H' x vas, Same H H' → H x = none → HistAt CH CV H' x vas rs → Q (.ref x) H'
theorem tell1 {G H : Hp} {q : Addr} {o : HO} (g : Same G H) (h : H q = some o) (n : G q = none) : Same (upd G q o) H ∧ Same G (upd G q o) := ⟨fun b u e => by
  by_cases eb : b = q
  · subst eb
    rw [upd_same] at e
    rw [h, ← Option.some.inj e]
  · rw [upd_ne eb] at e
    exact g _ _ e, same_new n⟩
theorem Open.close {rs : List VR} {G H : Hp} {hA tA : Addr} {tas : List Addr} {k m : Nat} (op : Open rs G H hA tA tas k m) (g : Same G H) (gh : G hA = none) (gt : G tA = none) (hm : ∀ j, k = j + 1 → ∀ r', rs[j]? = some r' → m = r'.ls.length) : ∃ G1, Same G G1 ∧ Same G1 H ∧ G1 hA = none ∧ G1 tA = none ∧ TextsAt G1 tas (rs.take k) := by
  rcases op with ⟨rfl, rfl⟩ | ⟨j, ts, t, r, rfl, rfl, hts, hr, gtt, ht, n1, n2⟩
  · exact ⟨G, Same.refl _, g, gh, gt, by rw [List.take_zero]; rfl, fun j a r h => by cases h⟩
  · have em := hm j rfl r hr
    have ht' : H t = some (.lst (r.ls.map V.str)) := by rw [ht, em, List.take_length]
    obtain ⟨s1, s2⟩ := tell1 g ht' gtt
    refine ⟨_, s2, s1, by rw [upd_ne n1.symm]; exact gh, by rw [upd_ne n2.symm]; exact gt, ?_⟩
    rw [take_get hr]
    exact (hts.same s2).snoc upd_same
section
variable {w : World} {K : PySem.W.Frag} {mg : Str → Option Value} {base : Heap} {A : Adr}
theorem ok_parse (T : Txt K mg A) (gIsLine : FnOk PW w K mg base CX0 2 A.a_IsLine A.d_IsLine ["value"] spIsLine) (gHeadIn : FnOk PW w K mg base CX0 4 A.a_HeadIn A.d_HeadIn ["row", "number"] spHeadIn)
    (gVersionInit : FnOk PW w K mg base (L2.CX PW w) 4 A.a_VersionInit A.d_VersionInit ["self", "lines", "parents", "author"] (spVer K A.k_Version A.k_InvalidText A.k_InvalidParents A.k_InvalidName))
    (gHistoryInit : FnOk PW w K mg base CX0 4 A.a_HistoryInit A.d_HistoryInit ["self", "versions"] (spHist K A.k_History A.k_Version)) :
    FnOk PW w K mg base CX0 6 A.a_ParseHistory A.d_ParseHistory ["text"] (spParse A.k_History A.k_Version) := by
  refine T.f_ParseHistory.ok scParseHistory (fun vs H Q E h => ?_) (fun cdv A' outer s H vs Q E hr h => ?_)
  · obtain ⟨rs, rfl, _⟩ := h
    rfl
  · obtain ⟨rs, rfl, l10, tr, gr, q⟩ := h
    refine ⟨_, (pss_cons (ps_if (pt_not (pt_val (pe_callB call_isB (by rfl) T.z_isinstance (by decide +kernel) (pa_cons (pv 0) (pa_cons (pe_bltn (v := .ty "str") (by rfl) T.z_str (by decide +kernel) rfl) pa_nil))))) (pss_one ps_never) pss_nil)
      (pss_cons (ps_set (i := 1) scParseHistory.nd rfl (Or.inl rfl) (pe_lst pa_nil))
      (pss_cons (ps_set (i := 2) scParseHistory.nd rfl (Or.inl rfl) (pe_lst pa_nil))
      (pss_cons (ps_set (i := 3) scParseHistory.nd rfl (Or.inl rfl) (pe_ifExp (pt_cmpR (op_ne) (pv 0) pe_str (nomark _)) (pe_split (pv 0) pe_str) (pe_lst pa_nil)))
      (pss_cons (ps_for PassesOwn.never rfl (pi_enum (by rfl) T.z_enumerate (pa_cons (pv 3) pa_nil)) (pg_tup rfl (pgs_cons (pg_name (i := 4) scParseHistory.nd rfl (Or.inl rfl)) (pgs_cons (pg_name (i := 5) scParseHistory.nd rfl (Or.inl rfl)) pgs_nil))) (pss_one (ps_if (pt_cmpR (op_eq) (pe_slice sl_str (pv 5) po_none (po_some pe_int)) pe_str (nomark _)) (pss_cons (ps_if (PW.pt (pw_or (pt_cmpR (op_eqNil hr.units) (pv 2) (pe_lst pa_nil) (nomark _)) (pw_or (pt_cmpR (op_eq) (pe_callB call_lenH (by rfl) T.z_len (by decide +kernel) (pa_cons (pe_ix ix_lstH (pv 2) (pe_un un_neg pe_int) (fun _ _ => rfl)) pa_nil)) (pe_glob (v := .int 12) (by rfl) T.c_MOST_LINES.choose_spec ⟨_, rfl⟩) (nomark _)) (pw_or1 (pt_not (pt_val (pe_call gIsLine (hr.mono (by decide)) (by rfl) T.m_IsLine T.f_IsLine.kp T.b_IsLine .nil pass0 (pa_cons (pe_slice sl_str (pv 5) (po_some pe_int) po_none) pa_nil)))))))) (pss_one ps_never) pss_nil)
      (pss_one (ps_expr (pe_bm PySem.F.plainAttrs_list PySem.F.slot_list_append PySem.F.type_list_append mt_append (pe_ix ix_lstH (pv 2) (pe_un un_neg pe_int) (fun _ _ => rfl)) (pa_cons (pe_slice sl_str (pv 5) (po_some pe_int) po_none) pa_nil))))) (pss_cons (ps_set (i := 6) scParseHistory.nd rfl (Or.inl rfl) (pe_call gHeadIn (hr.mono (by decide)) (by rfl) T.m_HeadIn T.f_HeadIn.kp T.b_HeadIn .nil pass0 (pa_cons (pv 5) (pa_cons (pe_callB call_lenH (by rfl) T.z_len (by decide +kernel) (pa_cons (pv 1) pa_nil)) pa_nil))))
      (pss_cons (ps_if (PW.pt (pw_or (pt_cmpR (op_isN) (pv 6) pe_non (nomark _)) (pw_or1 (pt_cmpR (op_eq) (pe_callB call_lenH (by rfl) T.z_len (by decide +kernel) (pa_cons (pv 1) pa_nil)) (pe_glob (v := .int 10) (by rfl) T.c_MOST_VERSIONS.choose_spec ⟨_, rfl⟩) (nomark _))))) (pss_one ps_never) pss_nil)
      (pss_cons (ps_expr (pe_bm PySem.F.plainAttrs_list PySem.F.slot_list_append PySem.F.type_list_append mt_append (pv 1) (pa_cons (pv 6) pa_nil)))
      (pss_one (ps_expr (pe_bm PySem.F.plainAttrs_list PySem.F.slot_list_append PySem.F.type_list_append mt_append (pv 2) (pa_cons (pe_lst pa_nil) pa_nil))))))))))
      (pss_cons (ps_set (i := 7) scParseHistory.nd rfl (Or.inl rfl) (pe_lst pa_nil))
      (pss_cons (ps_for PassesOwn.never rfl (pi_zip (by rfl) T.z_zip (pa_cons (pv 1) (pa_cons (pv 2) pa_nil))) (pg_tup rfl (pgs_cons (pg_name (i := 6) scParseHistory.nd rfl (Or.inl rfl)) (pgs_cons (pg_name (i := 8) scParseHistory.nd rfl (Or.inl rfl)) pgs_nil))) (pss_one (ps_expr (pe_bm PySem.F.plainAttrs_list PySem.F.slot_list_append PySem.F.type_list_append mt_append (pv 7) (pa_cons (pe_makeK T.mk_Version gVersionInit (hr.mono (by decide)) (by rfl) T.k_Version T.kb0_VersionInit.choose_spec passL (pa_cons (pv 8) pa_nil) (pk_cons (pe_ix ix_tupH (pv 6) pe_int (fun _ _ => rfl)) (pk_cons (pe_ix ix_tupH (pv 6) pe_int (fun _ _ => rfl)) pk_nil))) pa_nil)))))
      (pss_one (ps_ret (pe_make T.mk_History gHistoryInit (hr.mono (by decide)) (by rfl) T.k_History T.b_HistoryInit .nil pass0 (pa_cons (pv 7) pa_nil))))))))))), ?_⟩
    have tlen := fmt_len tr l10
    refine seq_gen fun N eN => ?_
    try simp only [tSeq, tNext, tRet, tRetN, tAsg, gName, gSub, tDrop, tIfS, tOp, tUn, tCB, tCons, tNil, tC, tVar, rI, rI0, rU, tAnd, tOr, tNot, tAndV, tOrV, tNotV, tIf, tTest, tB, tCall, tChain, tLst, tTup, tYes, rIxH, rIsB, rIsBT, rMulS, kd_non, kd_bl, kd_int, kd_str, kd_ref, kdO_lst, kdO_tup, kdO_dK, nq_n, nq_b, nq_i, nq_s, nq_l, nq_t, nq_d, ne_eq, not_false_eq_true, kit_ss, kit_ns, kit_bs, kit_is, kit_ls, kit_ts, kit_ds, kit_bb, V.ty.injEq, and_assoc, rIxU, rLenH, rLenU, rLenS, rInt1, rSetL, rEq, rNe, rCat, L2.start, List.map, List.length, List.length_cons, List.length_nil, List.replicate, List.getElem?_cons_zero, List.getElem?_cons_succ, List.set_cons_zero, List.set_cons_succ, List.set_nil, List.cons_append, List.nil_append, List.append_nil, Option.some.injEq, V.int.injEq, V.ref.injEq, V.str.injEq, V.bl.injEq, HO.lst.injEq, HO.tup.injEq, exists_eq_left', exists_and_left, exists_eq_left, List.cons.injEq, and_true, true_and, and_false, false_and, and_self, reduceCtorEq, exists_false, or_false, false_or, exists_const, at0, at1, at2, at3, at4, at5, ix51, ix52, ix54, upd_same, Nat.reduceAdd, Nat.reduceSub, Nat.zero_add, Int.reduceToNat, Int.reduceLE, Int.reduceLT, decide_eq_true_eq, Bool.not_eq_true, if_true, if_false, Bool.false_eq_true, ite_true, ite_false, Bool.not_true, Bool.not_false, decide_true, decide_false, tFor_eq, tLc_eq, iList, iTup, iRng1, iRng2, iStr, tSl, tPart, tNoPart, rSlL, cxOf_K, wipe, ex_ty2, kit_LTl, kit_LTt, kit_LTd, kit_LTs, kit_LTn, kit_LTb, kit_LTi, tM1, rIxS, exists_eq', lt1p, tDNewK, rSlS, rEqNil, nox_K]
    rw [eN]
    clear eN N
    refine seq_gen fun N eN => ?_
    try simp only [tSeq, tNext, tRet, tRetN, tAsg, gName, gSub, tDrop, tIfS, tOp, tUn, tCB, tCons, tNil, tC, tVar, rI, rI0, rU, tAnd, tOr, tNot, tAndV, tOrV, tNotV, tIf, tTest, tB, tCall, tChain, tLst, tTup, tYes, rIxH, rIsB, rIsBT, rMulS, kd_non, kd_bl, kd_int, kd_str, kd_ref, kdO_lst, kdO_tup, kdO_dK, nq_n, nq_b, nq_i, nq_s, nq_l, nq_t, nq_d, ne_eq, not_false_eq_true, kit_ss, kit_ns, kit_bs, kit_is, kit_ls, kit_ts, kit_ds, kit_bb, V.ty.injEq, and_assoc, rIxU, rLenH, rLenU, rLenS, rInt1, rSetL, rEq, rNe, rCat, L2.start, List.map, List.length, List.length_cons, List.length_nil, List.replicate, List.getElem?_cons_zero, List.getElem?_cons_succ, List.set_cons_zero, List.set_cons_succ, List.set_nil, List.cons_append, List.nil_append, List.append_nil, Option.some.injEq, V.int.injEq, V.ref.injEq, V.str.injEq, V.bl.injEq, HO.lst.injEq, HO.tup.injEq, exists_eq_left', exists_and_left, exists_eq_left, List.cons.injEq, and_true, true_and, and_false, false_and, and_self, reduceCtorEq, exists_false, or_false, false_or, exists_const, at0, at1, at2, at3, at4, at5, ix51, ix52, ix54, upd_same, Nat.reduceAdd, Nat.reduceSub, Nat.zero_add, Int.reduceToNat, Int.reduceLE, Int.reduceLT, decide_eq_true_eq, Bool.not_eq_true, if_true, if_false, Bool.false_eq_true, ite_true, ite_false, Bool.not_true, Bool.not_false, decide_true, decide_false, tFor_eq, tLc_eq, iList, iTup, iRng1, iRng2, iStr, tSl, tPart, tNoPart, rSlL, cxOf_K, wipe, ex_ty2, kit_LTl, kit_LTt, kit_LTd, kit_LTs, kit_LTn, kit_LTb, kit_LTi, tM1, rIxS, exists_eq', lt1p, tDNewK, rSlS, rEqNil, nox_K]
    refine ⟨by decide, ?_⟩
    intro hA n_hA; generalize g_H1 : upd H hA _ = H1; obtain ⟨s_H1, h_hA⟩ := new_facts n_hA g_H1; clear g_H1
    rw [eN]
    clear eN N
    refine seq_gen fun N eN => ?_
    try simp only [tSeq, tNext, tRet, tRetN, tAsg, gName, gSub, tDrop, tIfS, tOp, tUn, tCB, tCons, tNil, tC, tVar, rI, rI0, rU, tAnd, tOr, tNot, tAndV, tOrV, tNotV, tIf, tTest, tB, tCall, tChain, tLst, tTup, tYes, rIxH, rIsB, rIsBT, rMulS, kd_non, kd_bl, kd_int, kd_str, kd_ref, kdO_lst, kdO_tup, kdO_dK, nq_n, nq_b, nq_i, nq_s, nq_l, nq_t, nq_d, ne_eq, not_false_eq_true, kit_ss, kit_ns, kit_bs, kit_is, kit_ls, kit_ts, kit_ds, kit_bb, V.ty.injEq, and_assoc, rIxU, rLenH, rLenU, rLenS, rInt1, rSetL, rEq, rNe, rCat, L2.start, List.map, List.length, List.length_cons, List.length_nil, List.replicate, List.getElem?_cons_zero, List.getElem?_cons_succ, List.set_cons_zero, List.set_cons_succ, List.set_nil, List.cons_append, List.nil_append, List.append_nil, Option.some.injEq, V.int.injEq, V.ref.injEq, V.str.injEq, V.bl.injEq, HO.lst.injEq, HO.tup.injEq, exists_eq_left', exists_and_left, exists_eq_left, List.cons.injEq, and_true, true_and, and_false, false_and, and_self, reduceCtorEq, exists_false, or_false, false_or, exists_const, at0, at1, at2, at3, at4, at5, ix51, ix52, ix54, upd_same, Nat.reduceAdd, Nat.reduceSub, Nat.zero_add, Int.reduceToNat, Int.reduceLE, Int.reduceLT, decide_eq_true_eq, Bool.not_eq_true, if_true, if_false, Bool.false_eq_true, ite_true, ite_false, Bool.not_true, Bool.not_false, decide_true, decide_false, tFor_eq, tLc_eq, iList, iTup, iRng1, iRng2, iStr, tSl, tPart, tNoPart, rSlL, cxOf_K, wipe, ex_ty2, kit_LTl, kit_LTt, kit_LTd, kit_LTs, kit_LTn, kit_LTb, kit_LTi, tM1, rIxS, exists_eq', lt1p, tDNewK, rSlS, rEqNil, nox_K]
    refine ⟨by decide, ?_⟩
    intro tA n_tA; generalize g_H2 : upd H1 tA _ = H2; obtain ⟨s_H2, h_tA⟩ := new_facts n_tA g_H2; clear g_H2
    rw [eN]
    clear eN N
    have nhH : H hA = none := n_hA
    have ntH : H tA = none := s_H1.free n_tA
    have hht : hA ≠ tA := ne_of_none h_hA n_tA
    have hhA2 := s_H2 _ _ h_hA
    refine join (J := fun σ H3 => ∃ rA, σ = [some (.str (fmtS rs)), some (.ref hA), some (.ref tA), some (.ref rA), none, none, none, none, none] ∧ Same H2 H3 ∧ H2 rA = none ∧ H3 rA = some (.lst ((rowsS rs).map V.str))) (fun σ H3 ⟨rA, e, s3, nr, hr3⟩ => ?_) (fun N hN => ?_)
    · subst e
      have nrH : H rA = none := (s_H1.trans s_H2).free nr
      have g0 : Same (upd H rA (.lst ((rowsS rs).map V.str))) H3 := fun b o e => by
        by_cases eb : b = rA
        · subst eb
          rw [upd_same] at e
          rw [hr3, ← Option.some.inj e]
        · rw [upd_ne eb] at e
          exact s3 _ _ (s_H2 _ _ (s_H1 _ _ e))
      have ga : Same H (upd H rA (.lst ((rowsS rs).map V.str))) := same_new nrH
      have rh : hA ≠ rA := ne_of_none hhA2 nr
      have rt : tA ≠ rA := ne_of_none h_tA nr
      have gh : upd H rA (.lst ((rowsS rs).map V.str)) hA = none := by rw [upd_ne rh]; exact nhH
      have gt : upd H rA (.lst ((rowsS rs).map V.str)) tA = none := by rw [upd_ne rt]; exact ntH
      have gr0 : upd H rA (.lst ((rowsS rs).map V.str)) rA = _ := upd_same
      generalize upd H rA (.lst ((rowsS rs).map V.str)) = G0 at g0 ga gh gt gr0
      have hrc := rowsS_cnt tr
      refine seq_gen fun N eN => ?_
      try simp only [tSeq, tNext, tRet, tRetN, tAsg, gName, gSub, tDrop, tIfS, tOp, tUn, tCB, tCons, tNil, tC, tVar, rI, rI0, rU, tAnd, tOr, tNot, tAndV, tOrV, tNotV, tIf, tTest, tB, tCall, tChain, tLst, tTup, tYes, rIxH, rIsB, rIsBT, rMulS, kd_non, kd_bl, kd_int, kd_str, kd_ref, kdO_lst, kdO_tup, kdO_dK, nq_n, nq_b, nq_i, nq_s, nq_l, nq_t, nq_d, ne_eq, not_false_eq_true, kit_ss, kit_ns, kit_bs, kit_is, kit_ls, kit_ts, kit_ds, kit_bb, V.ty.injEq, and_assoc, rIxU, rLenH, rLenU, rLenS, rInt1, rSetL, rEq, rNe, rCat, L2.start, List.map, List.length, List.length_cons, List.length_nil, List.replicate, List.getElem?_cons_zero, List.getElem?_cons_succ, List.set_cons_zero, List.set_cons_succ, List.set_nil, List.cons_append, List.nil_append, List.append_nil, Option.some.injEq, V.int.injEq, V.ref.injEq, V.str.injEq, V.bl.injEq, HO.lst.injEq, HO.tup.injEq, exists_eq_left', exists_and_left, exists_eq_left, List.cons.injEq, and_true, true_and, and_false, false_and, and_self, reduceCtorEq, exists_false, or_false, false_or, exists_const, at0, at1, at2, at3, at4, at5, ix51, ix52, ix54, upd_same, Nat.reduceAdd, Nat.reduceSub, Nat.zero_add, Int.reduceToNat, Int.reduceLE, Int.reduceLT, decide_eq_true_eq, Bool.not_eq_true, if_true, if_false, Bool.false_eq_true, ite_true, ite_false, Bool.not_true, Bool.not_false, decide_true, decide_false, tFor_eq, tLc_eq, iList, iTup, iRng1, iRng2, iStr, tSl, tPart, tNoPart, rSlL, cxOf_K, wipe, ex_ty2, kit_LTl, kit_LTt, kit_LTd, kit_LTs, kit_LTn, kit_LTb, kit_LTi, tM1, rIxS, exists_eq', lt1p, tDNewK, rSlS, rEqNil, nox_K, iEnum]
      refine ⟨_, SqL.of hr3, for_it (walk_enum (K := K) (a := rA) (xs := (rowsS rs).map V.str)) (LPH rs (fmtS rs) hA tA rA G0) ⟨_, _, _, G0, [], [], 0, 0, rfl, Same.refl _, g0, gh, gt, s3 _ _ hhA2, s3 _ _ h_tA, ⟨rfl, fun j a r h => by cases h⟩, ⟨Nat.zero_le _, fun _ => ⟨rfl, rfl⟩, fun j hj => by omega⟩, .inl ⟨rfl, rfl⟩⟩ (fun i σ H4 _ q' => ?_) (fun i v σ H4 H5 hi q' y => ?_) (fun σ H4 q' => ?_)⟩
      · obtain ⟨_, _, _, G, has, tas, k, m, _, g1, g2, _⟩ := q'
        exact SqL.of (g2 _ _ (g1 _ _ gr0))
      · obtain ⟨v4, v5, v6, G, has, tas, k, m, rfl, g1, g2, ghA, gtA, hh4, ht4, hds, at4, op⟩ := q'
        obtain ⟨t, x1, y1, rfl, nt, rfl, e1, e2⟩ := y
        cases e1
        replace e2 : ((rowsS rs).map V.str)[i]? = some y1 := e2
        refine ⟨t, _, rfl, SqT.of upd_same, rfl, _, _, rfl, _, _, rfl, rfl, ?_⟩
        have s45 : Same H4 (upd H4 t (.tup [V.int (i : Int), y1])) := same_new nt
        generalize upd H4 t (.tup [V.int (i : Int), y1]) = H5 at s45
        rw [List.getElem?_map] at e2
        obtain ⟨z, hz, rfl⟩ : ∃ z, (rowsS rs)[i]? = some z ∧ V.str z = y1 := by
          cases e : (rowsS rs)[i]? with
          | none => rw [e] at e2; cases e2
          | some z => rw [e] at e2; exact ⟨z, rfl, Option.some.inj e2⟩
        have hzl := rowsS_len tr z (List.mem_of_getElem? hz)
        have g5 := g2.trans s45
        have hh5 := s45 _ _ hh4
        have ht5 := s45 _ _ ht4
        rcases at4.next hz with ⟨r, hrk, ez, at5, hm⟩ | ⟨j, r, l, ek, hrj, hl, ez, at5⟩
        · subst ez
          obtain ⟨zz, ezz⟩ := headS_v r
          have hkl : k < rs.length := (List.getElem?_eq_some_iff.mp hrk).1
          have htk : (rs.take k).length = k := by rw [List.length_take]; omega
          have hhl : has.length = k := by rw [hds.len, htk]
          have ec : cutS (headS r) none (some 1) ≠ Str.ofString "|" := by rw [ezz, (cut1 (by decide)).1]; decide +kernel
          try simp only [tSeq, tNext, tRet, tRetN, tAsg, gName, gSub, tDrop, tIfS, tOp, tUn, tCB, tCons, tNil, tC, tVar, rI, rI0, rU, tAnd, tOr, tNot, tAndV, tOrV, tNotV, tIf, tTest, tB, tCall, tChain, tLst, tTup, tYes, rIxH, rIsB, rIsBT, rMulS, kd_non, kd_bl, kd_int, kd_str, kd_ref, kdO_lst, kdO_tup, kdO_dK, nq_n, nq_b, nq_i, nq_s, nq_l, nq_t, nq_d, ne_eq, not_false_eq_true, kit_ss, kit_ns, kit_bs, kit_is, kit_ls, kit_ts, kit_ds, kit_bb, V.ty.injEq, and_assoc, rIxU, rLenH, rLenU, rLenS, rInt1, rSetL, rEq, rNe, rCat, L2.start, List.map, List.length, List.length_cons, List.length_nil, List.replicate, List.getElem?_cons_zero, List.getElem?_cons_succ, List.set_cons_zero, List.set_cons_succ, List.set_nil, List.cons_append, List.nil_append, List.append_nil, Option.some.injEq, V.int.injEq, V.ref.injEq, V.str.injEq, V.bl.injEq, HO.lst.injEq, HO.tup.injEq, exists_eq_left', exists_and_left, exists_eq_left, List.cons.injEq, and_true, true_and, and_false, false_and, and_self, reduceCtorEq, exists_false, or_false, false_or, exists_const, at0, at1, at2, at3, at4, at5, ix51, ix52, ix54, upd_same, Nat.reduceAdd, Nat.reduceSub, Nat.zero_add, Int.reduceToNat, Int.reduceLE, Int.reduceLT, decide_eq_true_eq, Bool.not_eq_true, if_true, if_false, Bool.false_eq_true, ite_true, ite_false, Bool.not_true, Bool.not_false, decide_true, decide_false, tFor_eq, tLc_eq, iList, iTup, iRng1, iRng2, iStr, tSl, tPart, tNoPart, rSlL, cxOf_K, wipe, ex_ty2, kit_LTl, kit_LTt, kit_LTd, kit_LTs, kit_LTn, kit_LTb, kit_LTi, tM1, rIxS, exists_eq', lt1p, tDNewK, rSlS, rEqNil, nox_K, scal_str, hh5, List.length_map, hhl]
          refine ⟨size1000 (by omega), ?_⟩
          rw [if_neg ec]
          refine ⟨r, k, rfl, tr r (List.mem_of_getElem? hrk), fun p hp => (gr k r hrk p hp).2, fun H6 a e s56 na ne ha he => ?_⟩
          have op5 : Open rs G H5 hA tA tas k m := by
            rcases op with h | ⟨j, ts, t, r, q1, q2, q3, q4, q5, q6, q7, q8⟩
            · exact .inl h
            · exact .inr ⟨j, ts, t, r, q1, q2, q3, q4, q5, s45 _ _ q6, q7, q8⟩
          obtain ⟨G1, gg1, g15, g1h, g1t, txs⟩ := op5.close g5 ghA gtA hm
          have g16 := g15.trans s56
          have gna : G1 a = none := g15.free na
          have gne : G1 e = none := g15.free ne
          have hh6 := s56 _ _ hh5
          have ht6 := s56 _ _ ht5
          have nha : hA ≠ a := ne_of_none hh5 na
          have nhe : hA ≠ e := ne_of_none hh5 ne
          have nta : tA ≠ a := ne_of_none ht5 na
          have nte : tA ≠ e := ne_of_none ht5 ne
          have nae : a ≠ e := fun z => by rw [z, he] at ha; cases ha
          dsimp only
          rw [if_neg (fun z => by cases z)]
          refine ⟨_, hh6, scal_int, ?_⟩
          rw [if_neg (by rw [List.length_map, hhl]; omega)]
          try simp only [tSeq, tNext, tRet, tRetN, tAsg, gName, gSub, tDrop, tIfS, tOp, tUn, tCB, tCons, tNil, tC, tVar, rI, rI0, rU, tAnd, tOr, tNot, tAndV, tOrV, tNotV, tIf, tTest, tB, tCall, tChain, tLst, tTup, tYes, rIxH, rIsB, rIsBT, rMulS, kd_non, kd_bl, kd_int, kd_str, kd_ref, kdO_lst, kdO_tup, kdO_dK, nq_n, nq_b, nq_i, nq_s, nq_l, nq_t, nq_d, ne_eq, not_false_eq_true, kit_ss, kit_ns, kit_bs, kit_is, kit_ls, kit_ts, kit_ds, kit_bb, V.ty.injEq, and_assoc, rIxU, rLenH, rLenU, rLenS, rInt1, rSetL, rEq, rNe, rCat, L2.start, List.map, List.length, List.length_cons, List.length_nil, List.replicate, List.getElem?_cons_zero, List.getElem?_cons_succ, List.set_cons_zero, List.set_cons_succ, List.set_nil, List.cons_append, List.nil_append, List.append_nil, Option.some.injEq, V.int.injEq, V.ref.injEq, V.str.injEq, V.bl.injEq, HO.lst.injEq, HO.tup.injEq, exists_eq_left', exists_and_left, exists_eq_left, List.cons.injEq, and_true, true_and, and_false, false_and, and_self, reduceCtorEq, exists_false, or_false, false_or, exists_const, at0, at1, at2, at3, at4, at5, ix51, ix52, ix54, upd_same, Nat.reduceAdd, Nat.reduceSub, Nat.zero_add, Int.reduceToNat, Int.reduceLE, Int.reduceLT, decide_eq_true_eq, Bool.not_eq_true, if_true, if_false, Bool.false_eq_true, ite_true, ite_false, Bool.not_true, Bool.not_false, decide_true, decide_false, tFor_eq, tLc_eq, iList, iTup, iRng1, iRng2, iStr, tSl, tPart, tNoPart, rSlL, cxOf_K, wipe, ex_ty2, kit_LTl, kit_LTt, kit_LTd, kit_LTs, kit_LTn, kit_LTb, kit_LTi, tM1, rIxS, exists_eq', lt1p, tDNewK, rSlS, rEqNil, nox_K, tBM, rAppend, hh6]
          refine ⟨.inl ⟨rfl, _, SqL.of hh6⟩, Nat.lt_of_le_of_lt (m := 1000) (by rw [List.length_map, hhl]; omega) (by decide), ?_⟩
          have k7 : ∀ b, b ≠ hA → upd H6 hA (.lst (has.map V.ref ++ [V.ref a])) b = H6 b := fun b hb => upd_ne hb
          have h7h : upd H6 hA (.lst (has.map V.ref ++ [V.ref a])) hA = some (.lst ((has ++ [a]).map V.ref)) := by rw [upd_same, List.map_append]; rfl
          generalize upd H6 hA (.lst (has.map V.ref ++ [V.ref a])) = H7 at k7 h7h ⊢
          have ht7 : H7 tA = _ := (k7 tA hht.symm).trans ht6
          refine ⟨.inl ⟨rfl, _, SqL.of ht7⟩, by decide, ?_⟩
          intro nl n_nl; generalize g_H8 : upd H7 nl _ = H8; obtain ⟨s_H8, h_nl⟩ := new_facts n_nl g_H8; clear g_H8
          have ht8 := s_H8 _ _ ht7
          have tl : tas.length = k := by rw [txs.len, htk]
          refine ⟨_, ht8, Nat.lt_of_le_of_lt (m := 1000) (by rw [List.length_map]; omega) (by decide), ?_⟩
          have g17 : Same G1 H7 := fun b o e => by rw [k7 b (ne_of_none e g1h)]; exact g16 _ _ e
          have gnl : G1 nl = none := g17.free n_nl
          have k9 : ∀ b, b ≠ tA → upd H8 tA (.lst (tas.map V.ref ++ [V.ref nl])) b = H8 b := fun b hb => upd_ne hb
          have h9t : upd H8 tA (.lst (tas.map V.ref ++ [V.ref nl])) tA = some (.lst ((tas ++ [nl]).map V.ref)) := by rw [upd_same, List.map_append]; rfl
          generalize upd H8 tA (.lst (tas.map V.ref ++ [V.ref nl])) = H9 at k9 h9t ⊢
          have g19 : Same G1 H9 := fun b o e => by rw [k9 b (ne_of_none e g1t)]; exact s_H8 _ _ (g17 _ _ e)
          have a7 : H7 a = _ := (k7 a nha.symm).trans ha
          have e7 : H7 e = _ := (k7 e nhe.symm).trans he
          have a9 : H9 a = _ := (k9 a nta.symm).trans (s_H8 _ _ a7)
          have e9 : H9 e = _ := (k9 e nte.symm).trans (s_H8 _ _ e7)
          have h9h : H9 hA = _ := (k9 hA hht).trans (s_H8 _ _ h7h)
          have ntl : nl ≠ tA := fun z => by rw [z, ht7] at n_nl; cases n_nl
          have nhl : nl ≠ hA := fun z => by rw [z, h7h] at n_nl; cases n_nl
          have nla : nl ≠ a := fun z => by rw [z, a7] at n_nl; cases n_nl
          have nle : nl ≠ e := fun z => by rw [z, e7] at n_nl; cases n_nl
          have nl9 : H9 nl = some (.lst []) := (k9 nl ntl).trans h_nl
          obtain ⟨u1, u2⟩ := tell1 g19 e9 gne
          obtain ⟨u3, u4⟩ := tell1 u1 a9 (by rw [upd_ne nae]; exact gna)
          have ga : upd (upd G1 e (.lst (r.ps.map V.int))) a (.tup [.str r.nm, .ref e]) a = _ := upd_same
          have ge := u4 e _ upd_same
          have gh' : upd (upd G1 e (.lst (r.ps.map V.int))) a (.tup [.str r.nm, .ref e]) hA = none := by rw [upd_ne nha, upd_ne nhe]; exact g1h
          have gt' : upd (upd G1 e (.lst (r.ps.map V.int))) a (.tup [.str r.nm, .ref e]) tA = none := by rw [upd_ne nta, upd_ne nte]; exact g1t
          have gl' : upd (upd G1 e (.lst (r.ps.map V.int))) a (.tup [.str r.nm, .ref e]) nl = none := by rw [upd_ne nla, upd_ne nle]; exact gnl
          have u24 := u2.trans u4
          generalize upd (upd G1 e (.lst (r.ps.map V.int))) a (.tup [.str r.nm, .ref e]) = G2 at u3 u24 ga ge gh' gt' gl'
          refine ⟨_, _, _, G2, has ++ [a], tas ++ [nl], k + 1, 0, rfl, g1.trans (gg1.trans u24), u3, gh', gt', h9h, h9t, ?_, at5, .inr ⟨k, tas, nl, r, rfl, rfl, txs.same u24, hrk, gl', nl9, nhl, ntl⟩⟩
          rw [take_get hrk]
          exact (hds.same (gg1.trans u24)).snoc ga ge
        · subst ez ek
          obtain ⟨c1, c2⟩ := cut1 (z := l) (c := 124) (by decide)
          rw [bar_eq] at hzl ⊢
          try simp only [tSeq, tNext, tRet, tRetN, tAsg, gName, gSub, tDrop, tIfS, tOp, tUn, tCB, tCons, tNil, tC, tVar, rI, rI0, rU, tAnd, tOr, tNot, tAndV, tOrV, tNotV, tIf, tTest, tB, tCall, tChain, tLst, tTup, tYes, rIxH, rIsB, rIsBT, rMulS, kd_non, kd_bl, kd_int, kd_str, kd_ref, kdO_lst, kdO_tup, kdO_dK, nq_n, nq_b, nq_i, nq_s, nq_l, nq_t, nq_d, ne_eq, not_false_eq_true, kit_ss, kit_ns, kit_bs, kit_is, kit_ls, kit_ts, kit_ds, kit_bb, V.ty.injEq, and_assoc, rIxU, rLenH, rLenU, rLenS, rInt1, rSetL, rEq, rNe, rCat, L2.start, List.map, List.length, List.length_cons, List.length_nil, List.replicate, List.getElem?_cons_zero, List.getElem?_cons_succ, List.set_cons_zero, List.set_cons_succ, List.set_nil, List.cons_append, List.nil_append, List.append_nil, Option.some.injEq, V.int.injEq, V.ref.injEq, V.str.injEq, V.bl.injEq, HO.lst.injEq, HO.tup.injEq, exists_eq_left', exists_and_left, exists_eq_left, List.cons.injEq, and_true, true_and, and_false, false_and, and_self, reduceCtorEq, exists_false, or_false, false_or, exists_const, at0, at1, at2, at3, at4, at5, ix51, ix52, ix54, upd_same, Nat.reduceAdd, Nat.reduceSub, Nat.zero_add, Int.reduceToNat, Int.reduceLE, Int.reduceLT, decide_eq_true_eq, Bool.not_eq_true, if_true, if_false, Bool.false_eq_true, ite_true, ite_false, Bool.not_true, Bool.not_false, decide_true, decide_false, tFor_eq, tLc_eq, iList, iTup, iRng1, iRng2, iStr, tSl, tPart, tNoPart, rSlL, cxOf_K, wipe, ex_ty2, kit_LTl, kit_LTt, kit_LTd, kit_LTs, kit_LTn, kit_LTb, kit_LTi, tM1, rIxS, exists_eq', lt1p, tDNewK, rSlS, rEqNil, nox_K, scal_str, ht5]
          rcases op with ⟨hk, _⟩ | ⟨j', ts, t', r', ej, rfl, hts, hr', gtt, htt, n1, n2⟩
          · omega
          have ej : j' = j := by omega
          subst ej
          rw [hrj] at hr'
          cases hr'
          have hml : m < r.ls.length := (List.getElem?_eq_some_iff.mp hl).1
          have row := tr r (List.mem_of_getElem? hrj)
          have hll := row.ll
          have hw := word9 (row.ls l (List.mem_of_getElem? hl))
          have htt5 := s45 _ _ htt
          refine ⟨size1000 (by omega), ?_⟩
          rw [if_pos c1]
          refine ⟨by decide, ?_⟩
          intro p6 n_p6; generalize g_H6 : upd H5 p6 _ = H6; obtain ⟨s_H6, h_p6⟩ := new_facts n_p6 g_H6; clear g_H6
          have ht6 := s_H6 _ _ ht5
          have htt6 := s_H6 _ _ htt5
          refine ⟨_, ht6, ?_⟩
          rw [if_neg (by simp)]
          have eat : atI ((ts ++ [t']).map V.ref) (-1) = some (.ref t') := by rw [List.map_append]; exact atI_last _ _
          refine ⟨_, ht6, _, eat, t', rfl, _, htt6, scal_int, ?_⟩
          rw [if_neg (by rw [List.length_map, List.length_take]; omega)]
          refine ⟨size1000 (by omega), ?_⟩
          rw [c2]
          refine ⟨_, rfl, .str ⟨Nat.le_trans hw.2.1 (by decide), fun c hc => Nat.lt_trans (hw.2.2 c hc).2 (by decide)⟩, fun H7 s7 => ⟨_, rfl, ?_⟩⟩
          rw [hw.1, if_neg (by decide)]
          have ht7 := s7 _ _ ht6
          have htt7 := s7 _ _ htt6
          have s57 := s_H6.trans s7
          have hh7 := s57 _ _ hh5
          try simp only [tSeq, tNext, tRet, tRetN, tAsg, gName, gSub, tDrop, tIfS, tOp, tUn, tCB, tCons, tNil, tC, tVar, rI, rI0, rU, tAnd, tOr, tNot, tAndV, tOrV, tNotV, tIf, tTest, tB, tCall, tChain, tLst, tTup, tYes, rIxH, rIsB, rIsBT, rMulS, kd_non, kd_bl, kd_int, kd_str, kd_ref, kdO_lst, kdO_tup, kdO_dK, nq_n, nq_b, nq_i, nq_s, nq_l, nq_t, nq_d, ne_eq, not_false_eq_true, kit_ss, kit_ns, kit_bs, kit_is, kit_ls, kit_ts, kit_ds, kit_bb, V.ty.injEq, and_assoc, rIxU, rLenH, rLenU, rLenS, rInt1, rSetL, rEq, rNe, rCat, L2.start, List.map, List.length, List.length_cons, List.length_nil, List.replicate, List.getElem?_cons_zero, List.getElem?_cons_succ, List.set_cons_zero, List.set_cons_succ, List.set_nil, List.cons_append, List.nil_append, List.append_nil, Option.some.injEq, V.int.injEq, V.ref.injEq, V.str.injEq, V.bl.injEq, HO.lst.injEq, HO.tup.injEq, exists_eq_left', exists_and_left, exists_eq_left, List.cons.injEq, and_true, true_and, and_false, false_and, and_self, reduceCtorEq, exists_false, or_false, false_or, exists_const, at0, at1, at2, at3, at4, at5, ix51, ix52, ix54, upd_same, Nat.reduceAdd, Nat.reduceSub, Nat.zero_add, Int.reduceToNat, Int.reduceLE, Int.reduceLT, decide_eq_true_eq, Bool.not_eq_true, if_true, if_false, Bool.false_eq_true, ite_true, ite_false, Bool.not_true, Bool.not_false, decide_true, decide_false, tFor_eq, tLc_eq, iList, iTup, iRng1, iRng2, iStr, tSl, tPart, tNoPart, rSlL, cxOf_K, wipe, ex_ty2, kit_LTl, kit_LTt, kit_LTd, kit_LTs, kit_LTn, kit_LTb, kit_LTi, tM1, rIxS, exists_eq', lt1p, tDNewK, rSlS, rEqNil, nox_K, tBM, rAppend, ht7]
          refine ⟨_, eat, .inl ⟨rfl, _, SqL.of htt7⟩, size1000 (by omega), t', rfl, _, htt7, Nat.lt_of_le_of_lt (m := 1000) (by rw [List.length_map, List.length_take]; omega) (by decide), ?_⟩
          rw [c2]
          refine ⟨_, _, _, G, has, ts ++ [t'], j' + 1, m + 1, rfl, g1, fun b o e => ?_, ghA, gtA, by rw [upd_ne n1.symm]; exact hh7, by rw [upd_ne n2.symm]; exact ht7, hds, at5, .inr ⟨j', ts, t', r, rfl, rfl, hts, hrj, gtt, ?_, n1, n2⟩⟩
          · rw [upd_ne (ne_of_none e gtt)]
            exact s57 _ _ (g5 _ _ e)
          · rw [upd_same, take_get hl, List.map_append]
            rfl
      · obtain ⟨v4, v5, v6, G, has, tas, k, m, rfl, g1, g2, ghA, gtA, hh4, ht4, hds, at4, op⟩ := q'
        rw [List.length_map] at at4
        obtain ⟨ek, hm⟩ := at4.done
        subst ek
        obtain ⟨G1, gg1, g14, g1h, g1t, txs⟩ := op.close g2 ghA gtA hm
        rw [List.take_length] at txs hds
        obtain ⟨u1, u2⟩ := tell1 g14 hh4 g1h
        obtain ⟨u3, u4⟩ := tell1 u1 ht4 (by rw [upd_ne hht.symm]; exact g1t)
        have e1 := u4 hA _ upd_same
        have e2 : upd (upd G1 hA (.lst (has.map V.ref))) tA (.lst (tas.map V.ref)) tA = _ := upd_same
        have u24 := u2.trans u4
        have hds2 := hds.same (gg1.trans u24)
        have txs2 := txs.same u24
        have s02 := ga.trans (g1.trans (gg1.trans u24))
        generalize upd (upd G1 hA (.lst (has.map V.ref))) tA (.lst (tas.map V.ref)) = G2 at u3 e1 e2 hds2 txs2 s02
        clear u1 u2 u4 u24 hds txs gg1 g14 g1h g1t op hh4 ht4 g1 g2 ghA gtA at4 hm
        dsimp only
        rw [eN]
        clear eN N
        refine seq_gen fun N eN => ?_
        try simp only [tSeq, tNext, tRet, tRetN, tAsg, gName, gSub, tDrop, tIfS, tOp, tUn, tCB, tCons, tNil, tC, tVar, rI, rI0, rU, tAnd, tOr, tNot, tAndV, tOrV, tNotV, tIf, tTest, tB, tCall, tChain, tLst, tTup, tYes, rIxH, rIsB, rIsBT, rMulS, kd_non, kd_bl, kd_int, kd_str, kd_ref, kdO_lst, kdO_tup, kdO_dK, nq_n, nq_b, nq_i, nq_s, nq_l, nq_t, nq_d, ne_eq, not_false_eq_true, kit_ss, kit_ns, kit_bs, kit_is, kit_ls, kit_ts, kit_ds, kit_bb, V.ty.injEq, and_assoc, rIxU, rLenH, rLenU, rLenS, rInt1, rSetL, rEq, rNe, rCat, L2.start, List.map, List.length, List.length_cons, List.length_nil, List.replicate, List.getElem?_cons_zero, List.getElem?_cons_succ, List.set_cons_zero, List.set_cons_succ, List.set_nil, List.cons_append, List.nil_append, List.append_nil, Option.some.injEq, V.int.injEq, V.ref.injEq, V.str.injEq, V.bl.injEq, HO.lst.injEq, HO.tup.injEq, exists_eq_left', exists_and_left, exists_eq_left, List.cons.injEq, and_true, true_and, and_false, false_and, and_self, reduceCtorEq, exists_false, or_false, false_or, exists_const, at0, at1, at2, at3, at4, at5, ix51, ix52, ix54, upd_same, Nat.reduceAdd, Nat.reduceSub, Nat.zero_add, Int.reduceToNat, Int.reduceLE, Int.reduceLT, decide_eq_true_eq, Bool.not_eq_true, if_true, if_false, Bool.false_eq_true, ite_true, ite_false, Bool.not_true, Bool.not_false, decide_true, decide_false, tFor_eq, tLc_eq, iList, iTup, iRng1, iRng2, iStr, tSl, tPart, tNoPart, rSlL, cxOf_K, wipe, ex_ty2, kit_LTl, kit_LTt, kit_LTd, kit_LTs, kit_LTn, kit_LTb, kit_LTi, tM1, rIxS, exists_eq', lt1p, tDNewK, rSlS, rEqNil, nox_K]
        refine ⟨by decide, ?_⟩
        intro vA n_vA; generalize g_H5 : upd H4 vA _ = H5; obtain ⟨s_H5, h_vA⟩ := new_facts n_vA g_H5; clear g_H5
        have gv : G2 vA = none := u3.free n_vA
        have g25 := u3.trans s_H5
        rw [eN]
        clear eN N
        refine seq_gen fun N eN => ?_
        try simp only [tSeq, tNext, tRet, tRetN, tAsg, gName, gSub, tDrop, tIfS, tOp, tUn, tCB, tCons, tNil, tC, tVar, rI, rI0, rU, tAnd, tOr, tNot, tAndV, tOrV, tNotV, tIf, tTest, tB, tCall, tChain, tLst, tTup, tYes, rIxH, rIsB, rIsBT, rMulS, kd_non, kd_bl, kd_int, kd_str, kd_ref, kdO_lst, kdO_tup, kdO_dK, nq_n, nq_b, nq_i, nq_s, nq_l, nq_t, nq_d, ne_eq, not_false_eq_true, kit_ss, kit_ns, kit_bs, kit_is, kit_ls, kit_ts, kit_ds, kit_bb, V.ty.injEq, and_assoc, rIxU, rLenH, rLenU, rLenS, rInt1, rSetL, rEq, rNe, rCat, L2.start, List.map, List.length, List.length_cons, List.length_nil, List.replicate, List.getElem?_cons_zero, List.getElem?_cons_succ, List.set_cons_zero, List.set_cons_succ, List.set_nil, List.cons_append, List.nil_append, List.append_nil, Option.some.injEq, V.int.injEq, V.ref.injEq, V.str.injEq, V.bl.injEq, HO.lst.injEq, HO.tup.injEq, exists_eq_left', exists_and_left, exists_eq_left, List.cons.injEq, and_true, true_and, and_false, false_and, and_self, reduceCtorEq, exists_false, or_false, false_or, exists_const, at0, at1, at2, at3, at4, at5, ix51, ix52, ix54, upd_same, Nat.reduceAdd, Nat.reduceSub, Nat.zero_add, Int.reduceToNat, Int.reduceLE, Int.reduceLT, decide_eq_true_eq, Bool.not_eq_true, if_true, if_false, Bool.false_eq_true, ite_true, ite_false, Bool.not_true, Bool.not_false, decide_true, decide_false, tFor_eq, tLc_eq, iList, iTup, iRng1, iRng2, iStr, tSl, tPart, tNoPart, rSlL, cxOf_K, wipe, ex_ty2, kit_LTl, kit_LTt, kit_LTd, kit_LTs, kit_LTn, kit_LTb, kit_LTi, tM1, rIxS, exists_eq', lt1p, tDNewK, rSlS, rEqNil, nox_K, iZip]
        have hl1 := hds2.len
        have hl2 := txs2.len
        refine ⟨_, SqL.of (g25 _ _ e1), _, SqL.of (g25 _ _ e2), for_it (walk_zip (K := K) (a := hA) (b := tA) (xs := has.map V.ref) (ys := tas.map V.ref) (n := rs.length) (by rw [List.length_map, List.length_map]; omega)) (LPV rs (fmtS rs) A.k_Version hA tA rA vA G2) ⟨_, _, _, _, [], rfl, g25, h_vA, by rw [List.take_zero]; exact .nil⟩ (fun i σ H6 _ q' => ?_) (fun i v σ H6 H7 hi q' y => ?_) (fun σ H6 q' => ?_)⟩
        · obtain ⟨_, _, _, _, vas, _, g6, _⟩ := q'
          exact ⟨SqL.of (g6 _ _ e1), SqL.of (g6 _ _ e2)⟩
        · obtain ⟨v4, v5, v6, v8, vas, rfl, g6, hv6, va6⟩ := q'
          obtain ⟨t, x1, y1, rfl, nt, rfl, d1, d2⟩ := y
          have hi1 : i < has.length := by omega
          have hi2 : i < tas.length := by omega
          replace d1 : (has.map V.ref)[i]? = some x1 := d1
          replace d2 : (tas.map V.ref)[i]? = some y1 := d2
          rw [List.getElem?_map, List.getElem?_eq_getElem hi1] at d1
          rw [List.getElem?_map, List.getElem?_eq_getElem hi2] at d2
          cases d1
          cases d2
          have hri : rs[i]? = some rs[i] := List.getElem?_eq_getElem hi
          obtain ⟨e, a1, a2⟩ := hds2.ea i has[i] rs[i] (List.getElem?_eq_getElem hi1) hri
          have a3 := txs2.ea i tas[i] rs[i] (List.getElem?_eq_getElem hi2) hri
          refine ⟨t, _, rfl, SqT.of upd_same, rfl, _, _, rfl, _, _, rfl, rfl, ?_⟩
          have s67 : Same H6 (upd H6 t (.tup [V.ref has[i], V.ref tas[i]])) := same_new nt
          generalize upd H6 t (.tup [V.ref has[i], V.ref tas[i]]) = H7 at s67
          have g7 := g6.trans s67
          have b1 := g7 _ _ a1
          have b2 := g7 _ _ a2
          have b3 := g7 _ _ a3
          have hv7 := s67 _ _ hv6
          have row := tr rs[i] (List.getElem_mem hi)
          have hnm := name4 row.nm
          have vo : VOk rs[i] := ⟨row.ll, row.pl, fun z hz c hc => Nat.lt_trans ((word9 (row.ls z hz)).2.2 c hc).2 (by decide)⟩
          try simp only [tSeq, tNext, tRet, tRetN, tAsg, gName, gSub, tDrop, tIfS, tOp, tUn, tCB, tCons, tNil, tC, tVar, rI, rI0, rU, tAnd, tOr, tNot, tAndV, tOrV, tNotV, tIf, tTest, tB, tCall, tChain, tLst, tTup, tYes, rIxH, rIsB, rIsBT, rMulS, kd_non, kd_bl, kd_int, kd_str, kd_ref, kdO_lst, kdO_tup, kdO_dK, nq_n, nq_b, nq_i, nq_s, nq_l, nq_t, nq_d, ne_eq, not_false_eq_true, kit_ss, kit_ns, kit_bs, kit_is, kit_ls, kit_ts, kit_ds, kit_bb, V.ty.injEq, and_assoc, rIxU, rLenH, rLenU, rLenS, rInt1, rSetL, rEq, rNe, rCat, L2.start, List.map, List.length, List.length_cons, List.length_nil, List.replicate, List.getElem?_cons_zero, List.getElem?_cons_succ, List.set_cons_zero, List.set_cons_succ, List.set_nil, List.cons_append, List.nil_append, List.append_nil, Option.some.injEq, V.int.injEq, V.ref.injEq, V.str.injEq, V.bl.injEq, HO.lst.injEq, HO.tup.injEq, exists_eq_left', exists_and_left, exists_eq_left, List.cons.injEq, and_true, true_and, and_false, false_and, and_self, reduceCtorEq, exists_false, or_false, false_or, exists_const, at0, at1, at2, at3, at4, at5, ix51, ix52, ix54, upd_same, Nat.reduceAdd, Nat.reduceSub, Nat.zero_add, Int.reduceToNat, Int.reduceLE, Int.reduceLT, decide_eq_true_eq, Bool.not_eq_true, if_true, if_false, Bool.false_eq_true, ite_true, ite_false, Bool.not_true, Bool.not_false, decide_true, decide_false, tFor_eq, tLc_eq, iList, iTup, iRng1, iRng2, iStr, tSl, tPart, tNoPart, rSlL, cxOf_K, wipe, ex_ty2, kit_LTl, kit_LTt, kit_LTd, kit_LTs, kit_LTn, kit_LTb, kit_LTi, tM1, rIxS, exists_eq', lt1p, tDNewK, rSlS, rEqNil, nox_K, tBM, tMakeK_eq, b1, List.set_cons_zero, List.set_cons_succ]
          refine ⟨.inl ⟨rfl, _, SqL.of hv7⟩, ?_⟩
          have tx := text_ok (H := H7) (lb := tas[i]) (ls := rs[i].ls) vo.ll (fun z hz => ⟨(word9 (row.ls z hz)).1, (word9 (row.ls z hz)).2.1, vo.asc z hz⟩) (seq_lst b3) (.lst b3)
          have po : ParOk K H7 (.ref e) rs[i].ps := .inl ⟨thq_of (.lst b2) (seq_lst b2) (by rw [List.length_map]; have := row.pl; omega) (fun x hx => by obtain ⟨i, rfl⟩ := mem_int hx; exact .int i), seq_lst b2, par_ints row.pl (nodup_lt row.po) fun z hz => (row.pb z hz).1⟩
          refine ver_yes (ls := rs[i].ls) (qs := rs[i].ps) (n := rs[i].nm) (fun x => rfl) tx.1 (seq_lst b3) tx.2 po ⟨Nat.le_trans hnm.2.1 (by decide), fun c hc => Nat.lt_trans (hnm.2.2 c hc).2 (by decide)⟩ hnm.1 fun H8 va ps s8 nva hva ppo ppm => ?_
          have eps : ps = rs[i].ps := sorted_uniq row.po (ppo.imp fun h => Int.le_of_lt h) (nodup_lt ppo) fun k => (ppm k).symm
          subst eps
          have hv8 := s8 _ _ hv7
          refine ⟨vA, _, _, rfl, rfl, hv8, Nat.lt_of_le_of_lt (m := 1000) (by rw [List.length_map, va6.len, List.length_take]; omega) (by decide), ?_⟩
          refine ⟨_, _, _, _, vas ++ [va], rfl, fun b o e => ?_, by rw [upd_same, List.map_append]; rfl, ?_⟩
          · rw [upd_ne (ne_of_none e gv)]
            exact s8 _ _ (g7 _ _ e)
          · rw [take_get hri]
            exact ((va6.same (s67.trans s8)).mut hv8).snoc (hva.mut hv8) vo
        · obtain ⟨v4, v5, v6, v8, vas, rfl, g6, hv6, va6⟩ := q'
          rw [List.take_length] at va6
          dsimp only
          rw [eN]
          clear eN N
          try simp only [tSeq, tNext, tRet, tRetN, tAsg, gName, gSub, tDrop, tIfS, tOp, tUn, tCB, tCons, tNil, tC, tVar, rI, rI0, rU, tAnd, tOr, tNot, tAndV, tOrV, tNotV, tIf, tTest, tB, tCall, tChain, tLst, tTup, tYes, rIxH, rIsB, rIsBT, rMulS, kd_non, kd_bl, kd_int, kd_str, kd_ref, kdO_lst, kdO_tup, kdO_dK, nq_n, nq_b, nq_i, nq_s, nq_l, nq_t, nq_d, ne_eq, not_false_eq_true, kit_ss, kit_ns, kit_bs, kit_is, kit_ls, kit_ts, kit_ds, kit_bb, V.ty.injEq, and_assoc, rIxU, rLenH, rLenU, rLenS, rInt1, rSetL, rEq, rNe, rCat, L2.start, List.map, List.length, List.length_cons, List.length_nil, List.replicate, List.getElem?_cons_zero, List.getElem?_cons_succ, List.set_cons_zero, List.set_cons_succ, List.set_nil, List.cons_append, List.nil_append, List.append_nil, Option.some.injEq, V.int.injEq, V.ref.injEq, V.str.injEq, V.bl.injEq, HO.lst.injEq, HO.tup.injEq, exists_eq_left', exists_and_left, exists_eq_left, List.cons.injEq, and_true, true_and, and_false, false_and, and_self, reduceCtorEq, exists_false, or_false, false_or, exists_const, at0, at1, at2, at3, at4, at5, ix51, ix52, ix54, upd_same, Nat.reduceAdd, Nat.reduceSub, Nat.zero_add, Int.reduceToNat, Int.reduceLE, Int.reduceLT, decide_eq_true_eq, Bool.not_eq_true, if_true, if_false, Bool.false_eq_true, ite_true, ite_false, Bool.not_true, Bool.not_false, decide_true, decide_false, tFor_eq, tLc_eq, iList, iTup, iRng1, iRng2, iStr, tSl, tPart, tNoPart, rSlL, cxOf_K, wipe, ex_ty2, kit_LTl, kit_LTt, kit_LTd, kit_LTs, kit_LTn, kit_LTb, kit_LTi, tM1, rIxS, exists_eq', lt1p, tDNewK, rSlS, rEqNil, nox_K, tMake_eq]
          refine hist_yes (b := vA) (vas := vas) (rs := rs) rfl (.inl hv6) (by rw [va6.len]; exact l10) va6 gr fun H8 x dx kk s8 nx nk hx hk => ?_
          have s68 := s02.trans (g6.trans s8)
          exact q H8 x vas s68 ((s02.trans g6).free nx) ⟨⟨dx, kk, hx, hk⟩, va6.same s8, by rw [va6.len]; exact l10, gr⟩
    · try simp only [tSeq, tNext, tRet, tRetN, tAsg, gName, gSub, tDrop, tIfS, tOp, tUn, tCB, tCons, tNil, tC, tVar, rI, rI0, rU, tAnd, tOr, tNot, tAndV, tOrV, tNotV, tIf, tTest, tB, tCall, tChain, tLst, tTup, tYes, rIxH, rIsB, rIsBT, rMulS, kd_non, kd_bl, kd_int, kd_str, kd_ref, kdO_lst, kdO_tup, kdO_dK, nq_n, nq_b, nq_i, nq_s, nq_l, nq_t, nq_d, ne_eq, not_false_eq_true, kit_ss, kit_ns, kit_bs, kit_is, kit_ls, kit_ts, kit_ds, kit_bb, V.ty.injEq, and_assoc, rIxU, rLenH, rLenU, rLenS, rInt1, rSetL, rEq, rNe, rCat, L2.start, List.map, List.length, List.length_cons, List.length_nil, List.replicate, List.getElem?_cons_zero, List.getElem?_cons_succ, List.set_cons_zero, List.set_cons_succ, List.set_nil, List.cons_append, List.nil_append, List.append_nil, Option.some.injEq, V.int.injEq, V.ref.injEq, V.str.injEq, V.bl.injEq, HO.lst.injEq, HO.tup.injEq, exists_eq_left', exists_and_left, exists_eq_left, List.cons.injEq, and_true, true_and, and_false, false_and, and_self, reduceCtorEq, exists_false, or_false, false_or, exists_const, at0, at1, at2, at3, at4, at5, ix51, ix52, ix54, upd_same, Nat.reduceAdd, Nat.reduceSub, Nat.zero_add, Int.reduceToNat, Int.reduceLE, Int.reduceLT, decide_eq_true_eq, Bool.not_eq_true, if_true, if_false, Bool.false_eq_true, ite_true, ite_false, Bool.not_true, Bool.not_false, decide_true, decide_false, tFor_eq, tLc_eq, iList, iTup, iRng1, iRng2, iStr, tSl, tPart, tNoPart, rSlL, cxOf_K, wipe, ex_ty2, kit_LTl, kit_LTt, kit_LTd, kit_LTs, kit_LTn, kit_LTb, kit_LTi, tM1, rIxS, exists_eq', lt1p, tDNewK, rSlS, rEqNil, nox_K, scal_str, tM1, rNewStrs]
      by_cases h0 : rs = []
      · subst h0
        rw [if_neg (by rw [decide_eq_true (show fmtS [] = Str.ofString "" from by decide +kernel)]; decide)]
        exact ⟨by decide, fun p hp => hN _ _ ⟨p, rfl, same_new hp, hp, upd_same⟩⟩
      · rw [if_pos (by rw [decide_eq_false (fmt_ne h0)]; rfl), fmt_split tr h0]
        exact ⟨by decide +kernel, Nat.le_trans (m := 10000) (by omega) (by decide), fun p hp => hN _ _ ⟨p, rfl, same_new hp, hp, upd_same⟩⟩
end



theorem shL {ds : List PyData} (h1 : PyData.canLayAll0 ds = true) (h2 : PyData.depthAll ds ≤ 1) : SeqAt.shaped (.list ds) = true := by
  unfold SeqAt.shaped
  have h3 : PyData.canLay0 (.list ds) = true := h1
  rw [h3, Bool.true_and]
  refine decide_eq_true ?_
  simp only [PyData.depth]
  omega
theorem neL_ints {K : PySem.W.Frag} {H : Hp} {a b : Addr} {xs ys : List Int} {Q : VK} (ha : H a = some (.lst (xs.map V.int))) (hb : H b = some (.lst (ys.map V.int))) (k : Q (.bl (!decide (xs = ys))) H) : rNeD K (.ref a) (.ref b) H Q := by
  refine ⟨.list (xs.map PyData.int), .list (ys.map PyData.int), .lst (SqL.of ha) (dp_ints xs), .lst (SqL.of hb) (dp_ints ys), shL (lay_ints xs) (dep_ints xs), shL (lay_ints ys) (dep_ints ys), ?_⟩
  have e : PyData.eqv (.list (xs.map PyData.int)) (.list (ys.map PyData.int)) = decide (xs = ys) := by
    rw [← eqv_intsT]
    simp only [PyData.eqv]
  rw [e]
  exact k

/-- rows: (parents, lines, name) -/
structure RowsAt (H : Hp) (ra : List Addr) (rs : List VR) : Prop where
  len : ra.length = rs.length
  ea : ∀ (i : Nat) (a : Addr) (r : VR), ra[i]? = some a → rs[i]? = some r → ∃ e l, H a = some (.tup [.ref e, .ref l, .str r.nm]) ∧ H e = some (.lst (r.ps.map V.int)) ∧ H l = some (.lst (r.ls.map V.str))
theorem RowsAt.same {H H' : Hp} {ra : List Addr} {rs : List VR} (h : RowsAt H ra rs) (s : Same H H') : RowsAt H' ra rs := ⟨h.len, fun i a r h1 h2 => by
  obtain ⟨e, l, q1, q2, q3⟩ := h.ea i a r h1 h2
  exact ⟨e, l, s _ _ q1, s _ _ q2, s _ _ q3⟩⟩
theorem RowsAt.extN {H H' : Hp} {ra : List Addr} {rs : List VR} (h : RowsAt H ra rs) (s : LamX.ExtN H H') : RowsAt H' ra rs := ⟨h.len, fun i a r h1 h2 => by
  obtain ⟨e, l, q1, q2, q3⟩ := h.ea i a r h1 h2
  exact ⟨e, l, s _ _ q1 (fun ps z => by cases z), s _ _ q2 (fun ps z => by cases z), s _ _ q3 (fun ps z => by cases z)⟩⟩
theorem RowsAt.at' {H : Hp} {ra : List Addr} {rs : List VR} (h : RowsAt H ra rs) {n : Nat} (hn : n < rs.length) : ∃ a e l, ra[n]? = some a ∧ H a = some (.tup [.ref e, .ref l, .str rs[n].nm]) ∧ H e = some (.lst (rs[n].ps.map V.int)) ∧ H l = some (.lst (rs[n].ls.map V.str)) := by
  have hn' : n < ra.length := by rw [h.len]; exact hn
  obtain ⟨e, l, q1, q2, q3⟩ := h.ea n ra[n] rs[n] (List.getElem?_eq_getElem hn') (List.getElem?_eq_getElem hn)
  exact ⟨ra[n], e, l, List.getElem?_eq_getElem hn', q1, q2, q3⟩

/-! ### _law_made, _law_text -/
structure R13 (rs : List VR) : Prop where
  l10 : rs.length ≤ 10
  gr : Gr rs
  tr : ∀ r ∈ rs, TRow r
theorem TRow.vok {r : VR} (row : TRow r) : VOk r := ⟨row.ll, row.pl, fun z hz c hc => Nat.lt_trans ((word9 (row.ls z hz)).2.2 c hc).2 (by decide)⟩
def spMade (CH CV : Addr) : Sp := fun vs H Q _ => ∃ r ra rs, vs = [.ref r] ∧ H r = some (.lst (List.map V.ref ra)) ∧ RowsAt H ra rs ∧ R13 rs ∧ ∀ H' x dx kk vas, Same H H' → H x = none → H kk = none → H' x = some (.ins CH dx (hF kk)) → H' kk = some (.lst (vas.map V.ref)) → VersAt CV H' vas rs → Q (.ref x) H'
def spText : Sp := fun vs H Q _ => ∃ r ra rs, vs = [.ref r] ∧ H r = some (.lst (List.map V.ref ra)) ∧ RowsAt H ra rs ∧ R13 rs ∧ ∀ H', Same H H' → Q (.str (fmtS rs)) H'
def barV : V → V
  | .str z => .str (Str.ofString "|" ++ z)
  | v => v
def LTx (rs : List VR) (r : Addr) (H0 : Hp) (i : Nat) (σ : St) (H : Hp) : Prop := ∃ (v2 v3 v4 v5 v6 v7 : Option V) (f : Addr), σ = [some (.ref r), some (.ref f), v2, v3, v4, v5, v6, v7] ∧ Same H0 H ∧ H0 f = none ∧ H f = some (.lst ((rowsS (rs.take i)).map V.str))
section
variable {w : World} {K : PySem.W.Frag} {mg : Str → Option Value} {base : Heap} {A : Adr}
theorem ok_made (T : Txt K mg A)
    (gVersionInit : FnOk PW w K mg base (L2.CX PW w) 4 A.a_VersionInit A.d_VersionInit ["self", "lines", "parents", "author"] (spVer K A.k_Version A.k_InvalidText A.k_InvalidParents A.k_InvalidName))
    (gHistoryInit : FnOk PW w K mg base CX0 4 A.a_HistoryInit A.d_HistoryInit ["self", "versions"] (spHist K A.k_History A.k_Version)) :
    FnOk PW w K mg base CX0 6 A.a_LawMade A.d_LawMade ["_law_rows_here"] (spMade A.k_History A.k_Version) := by
  refine T.f_LawMade.ok scLawMade (fun vs H Q E h => ?_) (fun cdv A' outer s H vs Q E hr h => ?_)
  · obtain ⟨r, ra, rs, rfl, _⟩ := h
    rfl
  · obtain ⟨r, ra, rs, rfl, hr8, rw8, ok, q⟩ := h
    refine ⟨_, (pss_one (ps_ret (pe_make T.mk_History gHistoryInit (hr.mono (by decide)) (by rfl) T.k_History T.b_HistoryInit .nil pass0 (pa_cons (pe_lc (own := [("_law_row", 1)]) (g := gName 1) (tt := tYes) (by rfl) scLawMade.nd (pi_list (pv 0)) (blkOk_by (own := [("_law_row", 1)]) (N := nLawMade) (sc := defScope sLawMade) (by decide +kernel)) (fun _ _ _ _ _ => pg_name (i := 1) scLawMade.nd rfl (Or.inl rfl)) (fun _ _ _ _ _ => pts_nil) (fun _ _ _ _ _ => (pe_makeK T.mk_Version gVersionInit (hr.mono (by decide)) (by rfl) T.k_Version T.kb0_VersionInit.choose_spec passL (pa_cons (pe_ix ix_tupH (pv 1) pe_int (fun _ _ => rfl)) pa_nil) (pk_cons (pe_ix ix_tupH (pv 1) pe_int (fun _ _ => rfl)) (pk_cons (pe_ix ix_tupH (pv 1) pe_int (fun _ _ => rfl)) pk_nil))))) pa_nil)))), ?_⟩
    have rl10 := ok.l10
    try simp only [tSeq, tNext, tRet, tRetN, tAsg, gName, gSub, tDrop, tIfS, tOp, tUn, tCB, tCons, tNil, tC, tVar, rI, rI0, rU, tAnd, tOr, tNot, tAndV, tOrV, tNotV, tIf, tTest, tB, tCall, tChain, tLst, tTup, tYes, rIxH, rIsB, rIsBT, rMulS, kd_non, kd_bl, kd_int, kd_str, kd_ref, kdO_lst, kdO_tup, kdO_dK, nq_n, nq_b, nq_i, nq_s, nq_l, nq_t, nq_d, ne_eq, not_false_eq_true, kit_ss, kit_ns, kit_bs, kit_is, kit_ls, kit_ts, kit_ds, kit_bb, V.ty.injEq, and_assoc, rIxU, rLenH, rLenU, rLenS, rInt1, rSetL, rEq, rNe, rCat, L2.start, List.map, List.length, List.length_cons, List.length_nil, List.replicate, List.getElem?_cons_zero, List.getElem?_cons_succ, List.set_cons_zero, List.set_cons_succ, List.set_nil, List.cons_append, List.nil_append, List.append_nil, Option.some.injEq, V.int.injEq, V.ref.injEq, V.str.injEq, V.bl.injEq, HO.lst.injEq, HO.tup.injEq, exists_eq_left', exists_and_left, exists_eq_left, List.cons.injEq, and_true, true_and, and_false, false_and, and_self, reduceCtorEq, exists_false, or_false, false_or, exists_const, at0, at1, at2, at3, at4, at5, ix51, ix52, ix54, upd_same, Nat.reduceAdd, Nat.reduceSub, Nat.zero_add, Int.reduceToNat, Int.reduceLE, Int.reduceLT, decide_eq_true_eq, Bool.not_eq_true, if_true, if_false, Bool.false_eq_true, ite_true, ite_false, Bool.not_true, Bool.not_false, decide_true, decide_false, tFor_eq, tLc_eq, iList, iTup, iRng1, iRng2, iStr, tSl, tPart, tNoPart, rSlL, cxOf_K, wipe, ex_ty2, kit_LTl, kit_LTt, kit_LTd, kit_LTs, kit_LTn, kit_LTb, kit_LTi, tM1, rIxS, exists_eq', lt1p, tDNewK, rSlS, rEqNil, nox_K, tMake_eq]
    refine ⟨⟨_, SqL.of hr8⟩, fun D hD => ?_⟩
    refine lc_rel (walk_list (K := K) (xs := ra.map V.ref)) (fun j y H' => ∃ v x, y = .ref v ∧ rs[j]? = some x ∧ VerAt A.k_Version H' v x.ls x.ps x.nm) (fun j y H1 H2 s ⟨v, x, e1, e2, h⟩ => ⟨v, x, e1, e2, h.same s⟩) (fun j y H1 zs us ⟨v, x, e1, e2, h⟩ e => ⟨v, x, e1, e2, h.mut e⟩) hD (fun H9 s9 => SqL.of (s9 _ _ hr8)) (by rw [List.length_map, rw8.len]; omega) (fun j x hx H9 s9 P R0 pk => ?_) (fun ys H9 s9 yl hys hD9 => ?_)
    · have hj : j < rs.length := by
        have := (List.getElem?_eq_some_iff.mp hx).1
        rw [List.length_map, rw8.len] at this
        exact this
      obtain ⟨da, de, dl, d1, d2, d3, d4⟩ := (rw8.same s9).at' hj
      rw [List.getElem?_map, d1] at hx
      have hx := Option.some.inj hx
      subst hx
      have row := ok.tr rs[j] (List.getElem_mem hj)
      have hnm := name4 row.nm
      have vo := row.vok
      try simp only [tSeq, tNext, tRet, tRetN, tAsg, gName, gSub, tDrop, tIfS, tOp, tUn, tCB, tCons, tNil, tC, tVar, rI, rI0, rU, tAnd, tOr, tNot, tAndV, tOrV, tNotV, tIf, tTest, tB, tCall, tChain, tLst, tTup, tYes, rIxH, rIsB, rIsBT, rMulS, kd_non, kd_bl, kd_int, kd_str, kd_ref, kdO_lst, kdO_tup, kdO_dK, nq_n, nq_b, nq_i, nq_s, nq_l, nq_t, nq_d, ne_eq, not_false_eq_true, kit_ss, kit_ns, kit_bs, kit_is, kit_ls, kit_ts, kit_ds, kit_bb, V.ty.injEq, and_assoc, rIxU, rLenH, rLenU, rLenS, rInt1, rSetL, rEq, rNe, rCat, L2.start, List.map, List.length, List.length_cons, List.length_nil, List.replicate, List.getElem?_cons_zero, List.getElem?_cons_succ, List.set_cons_zero, List.set_cons_succ, List.set_nil, List.cons_append, List.nil_append, List.append_nil, Option.some.injEq, V.int.injEq, V.ref.injEq, V.str.injEq, V.bl.injEq, HO.lst.injEq, HO.tup.injEq, exists_eq_left', exists_and_left, exists_eq_left, List.cons.injEq, and_true, true_and, and_false, false_and, and_self, reduceCtorEq, exists_false, or_false, false_or, exists_const, at0, at1, at2, at3, at4, at5, ix51, ix52, ix54, upd_same, Nat.reduceAdd, Nat.reduceSub, Nat.zero_add, Int.reduceToNat, Int.reduceLE, Int.reduceLT, decide_eq_true_eq, Bool.not_eq_true, if_true, if_false, Bool.false_eq_true, ite_true, ite_false, Bool.not_true, Bool.not_false, decide_true, decide_false, tFor_eq, tLc_eq, iList, iTup, iRng1, iRng2, iStr, tSl, tPart, tNoPart, rSlL, cxOf_K, wipe, ex_ty2, kit_LTl, kit_LTt, kit_LTd, kit_LTs, kit_LTn, kit_LTb, kit_LTi, tM1, rIxS, exists_eq', lt1p, tDNewK, rSlS, rEqNil, nox_K, tMakeK_eq, d2]
      have tx := text_ok (H := H9) (lb := dl) (ls := rs[j].ls) vo.ll (fun z hz => ⟨(word9 (row.ls z hz)).1, (word9 (row.ls z hz)).2.1, vo.asc z hz⟩) (seq_lst d4) (.lst d4)
      have po : ParOk K H9 (.ref de) rs[j].ps := .inl ⟨thq_of (.lst d3) (seq_lst d3) (by rw [List.length_map]; have := row.pl; omega) (fun x hx => by obtain ⟨i, rfl⟩ := mem_int hx; exact .int i), seq_lst d3, par_ints row.pl (nodup_lt row.po) fun z hz => (row.pb z hz).1⟩
      refine ver_yes (ls := rs[j].ls) (qs := rs[j].ps) (n := rs[j].nm) (fun x => rfl) tx.1 (seq_lst d4) tx.2 po ⟨Nat.le_trans hnm.2.1 (by decide), fun c hc => Nat.lt_trans (hnm.2.2 c hc).2 (by decide)⟩ hnm.1 fun H10 va ps s10 nva hva ppo ppm => ?_
      have eps : ps = rs[j].ps := sorted_uniq row.po (ppo.imp fun h => Int.le_of_lt h) (nodup_lt ppo) fun k => (ppm k).symm
      subst eps
      exact pk _ _ s10 ⟨va, rs[j], rfl, List.getElem?_eq_getElem hj, hva⟩
    rw [List.length_map, rw8.len] at yl
    obtain ⟨vas, rfl⟩ := refs_list (ys := ys) fun y hy => by
      obtain ⟨j, hj⟩ := List.mem_iff_getElem?.mp hy
      obtain ⟨v, _, e, _⟩ := hys j y hj
      exact ⟨v, e⟩
    rw [List.length_map] at yl
    have vv9 : VersAt A.k_Version H9 vas rs := ⟨yl, fun j a r h1 h2 => by
      obtain ⟨v, x, e1, e2, h⟩ := hys j (.ref a) (by rw [List.getElem?_map, h1]; rfl)
      cases e1
      rw [h2] at e2
      cases e2
      exact ⟨h, (ok.tr r (List.mem_of_getElem? h2)).vok⟩⟩
    refine hist_yes (b := D) (vas := vas) (rs := rs) rfl (.inl hD9) (by omega) vv9 ok.gr fun H11 h dx kk s11 nh nk hh1 hh2 => ?_
    exact q H11 h dx kk vas (s9.trans s11) (s9.free nh) (s9.free nk) hh1 hh2 (vv9.same s11)
theorem ok_text (T : Txt K mg A) : FnOk PW w K mg base CX0 1 A.a_LawText A.d_LawText ["_law_rows_here"] spText := by
  refine T.f_LawText.ok scLawText (fun vs H Q E h => ?_) (fun cdv A' outer s H vs Q E hr h => ?_)
  · obtain ⟨r, ra, rs, rfl, _⟩ := h
    rfl
  · obtain ⟨r, ra, rs, rfl, hr8, rw8, ok, q⟩ := h
    refine ⟨_, (pss_cons (ps_set (i := 1) scLawText.nd rfl (Or.inl rfl) (pe_lst pa_nil))
      (pss_cons (ps_for PassesOwn.never rfl (pi_list (pv 0)) (pg_tup rfl (pgs_cons (pg_name (i := 2) scLawText.nd rfl (Or.inl rfl)) (pgs_cons (pg_name (i := 3) scLawText.nd rfl (Or.inl rfl)) (pgs_cons (pg_name (i := 4) scLawText.nd rfl (Or.inl rfl)) pgs_nil)))) (pss_cons (ps_set (i := 5) scLawText.nd rfl (Or.inl rfl) (pe_join pe_str (pe_lc (own := [("_law_parent", 6)]) (g := gName 6) (tt := tYes) (by rfl) scLawText.nd (pi_list (pv 2)) (blkOk_by (own := [("_law_parent", 6)]) (N := nLawText) (sc := defScope sLawText) (by decide +kernel)) (fun _ _ _ _ _ => pg_name (i := 6) scLawText.nd rfl (Or.inl rfl)) (fun _ _ _ _ _ => pts_nil) (fun _ _ _ _ _ => (pe_callTy call_str_int (by rfl) T.z_str (by decide +kernel) (pa_cons (pv 6) pa_nil))))))
      (pss_cons (ps_expr (pe_bm PySem.F.plainAttrs_list PySem.F.slot_list_append PySem.F.type_list_append mt_append (pv 1) (pa_cons (pe_op op_add_str (pe_op op_add_str (pe_op op_add_str pe_str (pv 4)) pe_str) (pe_ifExp (pt_cmpR (op_neD hr.units) (pv 2) (pe_lst pa_nil) (nomark _)) (pv 5) pe_str)) pa_nil)))
      (pss_one (ps_set (i := 1) scLawText.nd rfl (Or.inl rfl) (pe_op op_cat (pv 1) (pe_lc (own := [("_law_line", 7)]) (g := gName 7) (tt := tYes) (by rfl) scLawText.nd (pi_list (pv 3)) (blkOk_by (own := [("_law_line", 7)]) (N := nLawText) (sc := defScope sLawText) (by decide +kernel)) (fun _ _ _ _ _ => pg_name (i := 7) scLawText.nd rfl (Or.inl rfl)) (fun _ _ _ _ _ => pts_nil) (fun _ _ _ _ _ => (pe_op op_add_str pe_str (pv 7))))))))))
      (pss_one (ps_ret (pe_join pe_str (pv 1)))))), ?_⟩
    have rl10 := ok.l10
    refine seq_gen fun N eN => ?_
    try simp only [tSeq, tNext, tRet, tRetN, tAsg, gName, gSub, tDrop, tIfS, tOp, tUn, tCB, tCons, tNil, tC, tVar, rI, rI0, rU, tAnd, tOr, tNot, tAndV, tOrV, tNotV, tIf, tTest, tB, tCall, tChain, tLst, tTup, tYes, rIxH, rIsB, rIsBT, rMulS, kd_non, kd_bl, kd_int, kd_str, kd_ref, kdO_lst, kdO_tup, kdO_dK, nq_n, nq_b, nq_i, nq_s, nq_l, nq_t, nq_d, ne_eq, not_false_eq_true, kit_ss, kit_ns, kit_bs, kit_is, kit_ls, kit_ts, kit_ds, kit_bb, V.ty.injEq, and_assoc, rIxU, rLenH, rLenU, rLenS, rInt1, rSetL, rEq, rNe, rCat, L2.start, List.map, List.length, List.length_cons, List.length_nil, List.replicate, List.getElem?_cons_zero, List.getElem?_cons_succ, List.set_cons_zero, List.set_cons_succ, List.set_nil, List.cons_append, List.nil_append, List.append_nil, Option.some.injEq, V.int.injEq, V.ref.injEq, V.str.injEq, V.bl.injEq, HO.lst.injEq, HO.tup.injEq, exists_eq_left', exists_and_left, exists_eq_left, List.cons.injEq, and_true, true_and, and_false, false_and, and_self, reduceCtorEq, exists_false, or_false, false_or, exists_const, at0, at1, at2, at3, at4, at5, ix51, ix52, ix54, upd_same, Nat.reduceAdd, Nat.reduceSub, Nat.zero_add, Int.reduceToNat, Int.reduceLE, Int.reduceLT, decide_eq_true_eq, Bool.not_eq_true, if_true, if_false, Bool.false_eq_true, ite_true, ite_false, Bool.not_true, Bool.not_false, decide_true, decide_false, tFor_eq, tLc_eq, iList, iTup, iRng1, iRng2, iStr, tSl, tPart, tNoPart, rSlL, cxOf_K, wipe, ex_ty2, kit_LTl, kit_LTt, kit_LTd, kit_LTs, kit_LTn, kit_LTb, kit_LTi, tM1, rIxS, exists_eq', lt1p, tDNewK, rSlS, rEqNil, nox_K]
    refine ⟨by decide, ?_⟩
    intro f n_f; generalize g_H1 : upd H f _ = H1; obtain ⟨s_H1, h_f⟩ := new_facts n_f g_H1; clear g_H1
    rw [eN]
    clear eN N
    refine seq_gen fun N eN => ?_
    try simp only [tSeq, tNext, tRet, tRetN, tAsg, gName, gSub, tDrop, tIfS, tOp, tUn, tCB, tCons, tNil, tC, tVar, rI, rI0, rU, tAnd, tOr, tNot, tAndV, tOrV, tNotV, tIf, tTest, tB, tCall, tChain, tLst, tTup, tYes, rIxH, rIsB, rIsBT, rMulS, kd_non, kd_bl, kd_int, kd_str, kd_ref, kdO_lst, kdO_tup, kdO_dK, nq_n, nq_b, nq_i, nq_s, nq_l, nq_t, nq_d, ne_eq, not_false_eq_true, kit_ss, kit_ns, kit_bs, kit_is, kit_ls, kit_ts, kit_ds, kit_bb, V.ty.injEq, and_assoc, rIxU, rLenH, rLenU, rLenS, rInt1, rSetL, rEq, rNe, rCat, L2.start, List.map, List.length, List.length_cons, List.length_nil, List.replicate, List.getElem?_cons_zero, List.getElem?_cons_succ, List.set_cons_zero, List.set_cons_succ, List.set_nil, List.cons_append, List.nil_append, List.append_nil, Option.some.injEq, V.int.injEq, V.ref.injEq, V.str.injEq, V.bl.injEq, HO.lst.injEq, HO.tup.injEq, exists_eq_left', exists_and_left, exists_eq_left, List.cons.injEq, and_true, true_and, and_false, false_and, and_self, reduceCtorEq, exists_false, or_false, false_or, exists_const, at0, at1, at2, at3, at4, at5, ix51, ix52, ix54, upd_same, Nat.reduceAdd, Nat.reduceSub, Nat.zero_add, Int.reduceToNat, Int.reduceLE, Int.reduceLT, decide_eq_true_eq, Bool.not_eq_true, if_true, if_false, Bool.false_eq_true, ite_true, ite_false, Bool.not_true, Bool.not_false, decide_true, decide_false, tFor_eq, tLc_eq, iList, iTup, iRng1, iRng2, iStr, tSl, tPart, tNoPart, rSlL, cxOf_K, wipe, ex_ty2, kit_LTl, kit_LTt, kit_LTd, kit_LTs, kit_LTn, kit_LTb, kit_LTi, tM1, rIxS, exists_eq', lt1p, tDNewK, rSlS, rEqNil, nox_K]
    refine ⟨⟨_, SqL.of (s_H1 _ _ hr8)⟩, for_go (walk_list (K := K) (a := r) (xs := ra.map V.ref)) (LTx rs r H) ⟨_, _, _, _, _, _, f, rfl, s_H1, n_f, by rw [h_f, List.take_zero]; rfl⟩ (fun i σ H' _ q' => ?_) (fun i x σ H2 hx q' => ?_) (fun σ H2 q' => ?_)⟩
    · obtain ⟨_, _, _, _, _, _, f', _, s2, _⟩ := q'
      exact SqL.of (s2 _ _ hr8)
    · obtain ⟨v2, v3, v4, v5, v6, v7, f2, rfl, s2, nf2, hf2⟩ := q'
      have hi : i < rs.length := by
        have := (List.getElem?_eq_some_iff.mp hx).1
        rw [List.length_map, rw8.len] at this
        exact this
      obtain ⟨da, de, dl, d1, d2, d3, d4⟩ := (rw8.same s2).at' hi
      rw [List.getElem?_map, d1] at hx
      have hx := Option.some.inj hx
      subst hx
      have row := ok.tr rs[i] (List.getElem_mem hi)
      have pb := row.pb
      have pl := row.pl
      have hnm := (name4 row.nm).2.1
      have hpl := pars_len row.pl row.pb
      have hll := row.ll
      have hcnt := rowsS_cnt (rs := rs.take i) fun x hx => ok.tr x (List.mem_of_mem_take hx)
      rw [List.length_take] at hcnt
      refine ⟨da, _, rfl, SqT.of d2, rfl, _, _, rfl, _, _, rfl, _, _, rfl, rfl, ?_⟩
      refine seq_gen fun N2 eN2 => ?_
      try simp only [tSeq, tNext, tRet, tRetN, tAsg, gName, gSub, tDrop, tIfS, tOp, tUn, tCB, tCons, tNil, tC, tVar, rI, rI0, rU, tAnd, tOr, tNot, tAndV, tOrV, tNotV, tIf, tTest, tB, tCall, tChain, tLst, tTup, tYes, rIxH, rIsB, rIsBT, rMulS, kd_non, kd_bl, kd_int, kd_str, kd_ref, kdO_lst, kdO_tup, kdO_dK, nq_n, nq_b, nq_i, nq_s, nq_l, nq_t, nq_d, ne_eq, not_false_eq_true, kit_ss, kit_ns, kit_bs, kit_is, kit_ls, kit_ts, kit_ds, kit_bb, V.ty.injEq, and_assoc, rIxU, rLenH, rLenU, rLenS, rInt1, rSetL, rEq, rNe, rCat, L2.start, List.map, List.length, List.length_cons, List.length_nil, List.replicate, List.getElem?_cons_zero, List.getElem?_cons_succ, List.set_cons_zero, List.set_cons_succ, List.set_nil, List.cons_append, List.nil_append, List.append_nil, Option.some.injEq, V.int.injEq, V.ref.injEq, V.str.injEq, V.bl.injEq, HO.lst.injEq, HO.tup.injEq, exists_eq_left', exists_and_left, exists_eq_left, List.cons.injEq, and_true, true_and, and_false, false_and, and_self, reduceCtorEq, exists_false, or_false, false_or, exists_const, at0, at1, at2, at3, at4, at5, ix51, ix52, ix54, upd_same, Nat.reduceAdd, Nat.reduceSub, Nat.zero_add, Int.reduceToNat, Int.reduceLE, Int.reduceLT, decide_eq_true_eq, Bool.not_eq_true, if_true, if_false, Bool.false_eq_true, ite_true, ite_false, Bool.not_true, Bool.not_false, decide_true, decide_false, tFor_eq, tLc_eq, iList, iTup, iRng1, iRng2, iStr, tSl, tPart, tNoPart, rSlL, cxOf_K, wipe, ex_ty2, kit_LTl, kit_LTt, kit_LTd, kit_LTs, kit_LTn, kit_LTb, kit_LTi, tM1, rIxS, exists_eq', lt1p, tDNewK, rSlS, rEqNil, nox_K, tM1]
      refine ⟨⟨_, SqL.of d3⟩, fun D hD => ?_⟩
      refine lc_same (walk_list (K := K) (xs := rs[i].ps.map V.int)) (fun _ => true) (fun v => .str (nS (cntOf v))) hD (fun _ s3 => SqL.of (s3 _ _ d3)) (by rw [List.length_map]; omega) (fun x hx H3 s3 R R0 h1 _ => ?_) (fun H3 s3 h3 => ?_)
      · obtain ⟨j, hj, rfl⟩ := List.mem_map.mp hx
        try simp only [tSeq, tNext, tRet, tRetN, tAsg, gName, gSub, tDrop, tIfS, tOp, tUn, tCB, tCons, tNil, tC, tVar, rI, rI0, rU, tAnd, tOr, tNot, tAndV, tOrV, tNotV, tIf, tTest, tB, tCall, tChain, tLst, tTup, tYes, rIxH, rIsB, rIsBT, rMulS, kd_non, kd_bl, kd_int, kd_str, kd_ref, kdO_lst, kdO_tup, kdO_dK, nq_n, nq_b, nq_i, nq_s, nq_l, nq_t, nq_d, ne_eq, not_false_eq_true, kit_ss, kit_ns, kit_bs, kit_is, kit_ls, kit_ts, kit_ds, kit_bb, V.ty.injEq, and_assoc, rIxU, rLenH, rLenU, rLenS, rInt1, rSetL, rEq, rNe, rCat, L2.start, List.map, List.length, List.length_cons, List.length_nil, List.replicate, List.getElem?_cons_zero, List.getElem?_cons_succ, List.set_cons_zero, List.set_cons_succ, List.set_nil, List.cons_append, List.nil_append, List.append_nil, Option.some.injEq, V.int.injEq, V.ref.injEq, V.str.injEq, V.bl.injEq, HO.lst.injEq, HO.tup.injEq, exists_eq_left', exists_and_left, exists_eq_left, List.cons.injEq, and_true, true_and, and_false, false_and, and_self, reduceCtorEq, exists_false, or_false, false_or, exists_const, at0, at1, at2, at3, at4, at5, ix51, ix52, ix54, upd_same, Nat.reduceAdd, Nat.reduceSub, Nat.zero_add, Int.reduceToNat, Int.reduceLE, Int.reduceLT, decide_eq_true_eq, Bool.not_eq_true, if_true, if_false, Bool.false_eq_true, ite_true, ite_false, Bool.not_true, Bool.not_false, decide_true, decide_false, tFor_eq, tLc_eq, iList, iTup, iRng1, iRng2, iStr, tSl, tPart, tNoPart, rSlL, cxOf_K, wipe, ex_ty2, kit_LTl, kit_LTt, kit_LTd, kit_LTs, kit_LTn, kit_LTb, kit_LTi, tM1, rIxS, exists_eq', lt1p, tDNewK, rSlS, rEqNil, nox_K]
        have := pb j hj
        exact ⟨log_small (by omega), h1 H3 (Same.refl _) rfl⟩
      have s03 := s2.trans s3
      have hD3 : H3 D = some (.lst ((rs[i].ps.map nS).map V.str)) := by rw [h3, filter_all, List.map_map, List.map_map]; rfl
      refine ⟨D, rfl, rs[i].ps.map nS, .inl (SqL.of hD3), ?_, ?_⟩
      · have e := dig_sum pb
        rw [List.length_map, show (Str.ofString ",").length = 1 from by decide +kernel]
        omega
      first | rw [eN2] | (dsimp only; rw [eN2])
      clear eN2 N2
      refine seq_gen fun N2 eN2 => ?_
      have hf3 := s3 _ _ hf2
      have d33 := s3 _ _ d3
      have d43 := s3 _ _ d4
      have e8 : (Str.ofString "version ").length = 8 := by decide +kernel
      have e1 : (Str.ofString " ").length = 1 := by decide +kernel
      try simp only [tSeq, tNext, tRet, tRetN, tAsg, gName, gSub, tDrop, tIfS, tOp, tUn, tCB, tCons, tNil, tC, tVar, rI, rI0, rU, tAnd, tOr, tNot, tAndV, tOrV, tNotV, tIf, tTest, tB, tCall, tChain, tLst, tTup, tYes, rIxH, rIsB, rIsBT, rMulS, kd_non, kd_bl, kd_int, kd_str, kd_ref, kdO_lst, kdO_tup, kdO_dK, nq_n, nq_b, nq_i, nq_s, nq_l, nq_t, nq_d, ne_eq, not_false_eq_true, kit_ss, kit_ns, kit_bs, kit_is, kit_ls, kit_ts, kit_ds, kit_bb, V.ty.injEq, and_assoc, rIxU, rLenH, rLenU, rLenS, rInt1, rSetL, rEq, rNe, rCat, L2.start, List.map, List.length, List.length_cons, List.length_nil, List.replicate, List.getElem?_cons_zero, List.getElem?_cons_succ, List.set_cons_zero, List.set_cons_succ, List.set_nil, List.cons_append, List.nil_append, List.append_nil, Option.some.injEq, V.int.injEq, V.ref.injEq, V.str.injEq, V.bl.injEq, HO.lst.injEq, HO.tup.injEq, exists_eq_left', exists_and_left, exists_eq_left, List.cons.injEq, and_true, true_and, and_false, false_and, and_self, reduceCtorEq, exists_false, or_false, false_or, exists_const, at0, at1, at2, at3, at4, at5, ix51, ix52, ix54, upd_same, Nat.reduceAdd, Nat.reduceSub, Nat.zero_add, Int.reduceToNat, Int.reduceLE, Int.reduceLT, decide_eq_true_eq, Bool.not_eq_true, if_true, if_false, Bool.false_eq_true, ite_true, ite_false, Bool.not_true, Bool.not_false, decide_true, decide_false, tFor_eq, tLc_eq, iList, iTup, iRng1, iRng2, iStr, tSl, tPart, tNoPart, rSlL, cxOf_K, wipe, ex_ty2, kit_LTl, kit_LTt, kit_LTd, kit_LTs, kit_LTn, kit_LTb, kit_LTi, tM1, rIxS, exists_eq', lt1p, tDNewK, rSlS, rEqNil, nox_K, tBM, rAppend]
      refine ⟨.inl ⟨rfl, _, SqL.of hf3⟩, size1000 (by omega), size1000 (by rw [app_len]; omega), by decide, ?_⟩
      intro zl n_zl; generalize g_H4 : upd H3 zl _ = H4; obtain ⟨s_H4, h_zl⟩ := new_facts n_zl g_H4; clear g_H4
      have s04 := s03.trans s_H4
      have hf4 := s_H4 _ _ hf3
      have d44 := s_H4 _ _ d43
      refine neL_ints (xs := rs[i].ps) (ys := []) (s_H4 _ _ d33) h_zl ?_
      have fin : N2 [some (V.ref r), some (V.ref f2), some (V.ref de), some (V.ref dl), some (V.str rs[i].nm), some (V.str (Txt.join (Str.ofString ",") (List.map nS rs[i].ps))), v6, v7] (upd H4 f2 (.lst (List.map V.str (rowsS (rs.take i)) ++ [V.str (headS rs[i])]))) := by
        rw [eN2]
        clear eN2 N2
        have s5 : Same H (upd H4 f2 (.lst (List.map V.str (rowsS (rs.take i)) ++ [V.str (headS rs[i])]))) := fun b o e => by rw [upd_ne (ne_of_none e nf2)]; exact s04 _ _ e
        have hf5 : upd H4 f2 (.lst (List.map V.str (rowsS (rs.take i)) ++ [V.str (headS rs[i])])) f2 = some (.lst ((rowsS (rs.take i) ++ [headS rs[i]]).map V.str)) := by rw [upd_same, List.map_append]; rfl
        have nlf : dl ≠ f2 := fun z => by
          obtain ⟨da', de', dl', c1, c2, c3, c4⟩ := rw8.at' hi
          have g2 := s2 _ _ c2
          rw [d1] at c1
          cases c1
          rw [d2] at g2
          cases g2
          rw [z, nf2] at c4
          cases c4
        have d45 : upd H4 f2 (.lst (List.map V.str (rowsS (rs.take i)) ++ [V.str (headS rs[i])])) dl = _ := (upd_ne nlf).trans d44
        generalize upd H4 f2 (.lst (List.map V.str (rowsS (rs.take i)) ++ [V.str (headS rs[i])])) = H5 at s5 hf5 d45
        try simp only [tSeq, tNext, tRet, tRetN, tAsg, gName, gSub, tDrop, tIfS, tOp, tUn, tCB, tCons, tNil, tC, tVar, rI, rI0, rU, tAnd, tOr, tNot, tAndV, tOrV, tNotV, tIf, tTest, tB, tCall, tChain, tLst, tTup, tYes, rIxH, rIsB, rIsBT, rMulS, kd_non, kd_bl, kd_int, kd_str, kd_ref, kdO_lst, kdO_tup, kdO_dK, nq_n, nq_b, nq_i, nq_s, nq_l, nq_t, nq_d, ne_eq, not_false_eq_true, kit_ss, kit_ns, kit_bs, kit_is, kit_ls, kit_ts, kit_ds, kit_bb, V.ty.injEq, and_assoc, rIxU, rLenH, rLenU, rLenS, rInt1, rSetL, rEq, rNe, rCat, L2.start, List.map, List.length, List.length_cons, List.length_nil, List.replicate, List.getElem?_cons_zero, List.getElem?_cons_succ, List.set_cons_zero, List.set_cons_succ, List.set_nil, List.cons_append, List.nil_append, List.append_nil, Option.some.injEq, V.int.injEq, V.ref.injEq, V.str.injEq, V.bl.injEq, HO.lst.injEq, HO.tup.injEq, exists_eq_left', exists_and_left, exists_eq_left, List.cons.injEq, and_true, true_and, and_false, false_and, and_self, reduceCtorEq, exists_false, or_false, false_or, exists_const, at0, at1, at2, at3, at4, at5, ix51, ix52, ix54, upd_same, Nat.reduceAdd, Nat.reduceSub, Nat.zero_add, Int.reduceToNat, Int.reduceLE, Int.reduceLT, decide_eq_true_eq, Bool.not_eq_true, if_true, if_false, Bool.false_eq_true, ite_true, ite_false, Bool.not_true, Bool.not_false, decide_true, decide_false, tFor_eq, tLc_eq, iList, iTup, iRng1, iRng2, iStr, tSl, tPart, tNoPart, rSlL, cxOf_K, wipe, ex_ty2, kit_LTl, kit_LTt, kit_LTd, kit_LTs, kit_LTn, kit_LTb, kit_LTi, tM1, rIxS, exists_eq', lt1p, tDNewK, rSlS, rEqNil, nox_K]
        refine ⟨⟨_, SqL.of d45⟩, fun D2 hD2 => ?_⟩
        refine lc_same (walk_list (K := K) (xs := rs[i].ls.map V.str)) (fun _ => true) barV hD2 (fun _ s6 => SqL.of (s6 _ _ d45)) (by rw [List.length_map]; omega) (fun x hx H6 s6 R R0 h1 _ => ?_) (fun H6 s6 h6 => ?_)
        · obtain ⟨z, hz, rfl⟩ := List.mem_map.mp hx
          have hw := (word9 (row.ls z hz)).2.1
          try simp only [tSeq, tNext, tRet, tRetN, tAsg, gName, gSub, tDrop, tIfS, tOp, tUn, tCB, tCons, tNil, tC, tVar, rI, rI0, rU, tAnd, tOr, tNot, tAndV, tOrV, tNotV, tIf, tTest, tB, tCall, tChain, tLst, tTup, tYes, rIxH, rIsB, rIsBT, rMulS, kd_non, kd_bl, kd_int, kd_str, kd_ref, kdO_lst, kdO_tup, kdO_dK, nq_n, nq_b, nq_i, nq_s, nq_l, nq_t, nq_d, ne_eq, not_false_eq_true, kit_ss, kit_ns, kit_bs, kit_is, kit_ls, kit_ts, kit_ds, kit_bb, V.ty.injEq, and_assoc, rIxU, rLenH, rLenU, rLenS, rInt1, rSetL, rEq, rNe, rCat, L2.start, List.map, List.length, List.length_cons, List.length_nil, List.replicate, List.getElem?_cons_zero, List.getElem?_cons_succ, List.set_cons_zero, List.set_cons_succ, List.set_nil, List.cons_append, List.nil_append, List.append_nil, Option.some.injEq, V.int.injEq, V.ref.injEq, V.str.injEq, V.bl.injEq, HO.lst.injEq, HO.tup.injEq, exists_eq_left', exists_and_left, exists_eq_left, List.cons.injEq, and_true, true_and, and_false, false_and, and_self, reduceCtorEq, exists_false, or_false, false_or, exists_const, at0, at1, at2, at3, at4, at5, ix51, ix52, ix54, upd_same, Nat.reduceAdd, Nat.reduceSub, Nat.zero_add, Int.reduceToNat, Int.reduceLE, Int.reduceLT, decide_eq_true_eq, Bool.not_eq_true, if_true, if_false, Bool.false_eq_true, ite_true, ite_false, Bool.not_true, Bool.not_false, decide_true, decide_false, tFor_eq, tLc_eq, iList, iTup, iRng1, iRng2, iStr, tSl, tPart, tNoPart, rSlL, cxOf_K, wipe, ex_ty2, kit_LTl, kit_LTt, kit_LTd, kit_LTs, kit_LTn, kit_LTb, kit_LTi, tM1, rIxS, exists_eq', lt1p, tDNewK, rSlS, rEqNil, nox_K]
          exact ⟨size1000 (by rw [show (Str.ofString "|").length = 1 from by decide +kernel]; omega), h1 H6 (Same.refl _) rfl⟩
        have h6' : H6 D2 = some (.lst ((rs[i].ls.map fun (z : Str) => Str.ofString "|" ++ z).map V.str)) := by rw [h6, filter_all, List.map_map, List.map_map]; rfl
        refine ⟨D2, rfl, _, s6 _ _ hf5, _, h6', Nat.le_trans (m := 1000) (by rw [List.length_map, List.length_map, List.length_map, List.length_append, List.length_singleton]; omega) (by decide), fun p hp => ?_⟩
        have s06 := s5.trans s6
        refine ⟨_, _, _, _, _, _, p, rfl, s06.trans (same_new hp), s06.free hp, ?_⟩
        rw [upd_same, take_get (List.getElem?_eq_getElem hi), rowsS_snoc, ← List.map_append, List.append_assoc]
        rfl
      refine ⟨_, rfl, ?_⟩
      have hh : headS rs[i] = Str.ofString "version " ++ rs[i].nm ++ Str.ofString " " ++ pars rs[i].ps := rfl
      by_cases h0 : rs[i].ps = []
      · rw [if_neg (by rw [decide_eq_true h0]; decide)]
        have ep : pars rs[i].ps = Str.ofString "-" := by unfold pars; rw [if_pos h0]
        rw [ep] at hh
        rw [← hh]
        exact ⟨size1000 (by rw [app_len, app_len, show (Str.ofString "-").length = 1 from by decide +kernel]; omega), _, hf4, Nat.lt_of_le_of_lt (m := 1000) (by rw [List.length_map]; omega) (by decide), fin⟩
      · rw [if_pos (by rw [decide_eq_false h0]; rfl)]
        have ep : pars rs[i].ps = Txt.join (Str.ofString ",") (rs[i].ps.map nS) := by unfold pars; rw [if_neg h0]
        rw [ep] at hh hpl
        rw [← hh]
        exact ⟨size1000 (by rw [app_len, app_len]; omega), _, hf4, Nat.lt_of_le_of_lt (m := 1000) (by rw [List.length_map]; omega) (by decide), fin⟩
    · obtain ⟨v2, v3, v4, v5, v6, v7, f2, rfl, s2, nf2, hf2⟩ := q'
      rw [List.length_map, rw8.len, List.take_length] at hf2
      dsimp only
      rw [eN]
      clear eN N
      try simp only [tSeq, tNext, tRet, tRetN, tAsg, gName, gSub, tDrop, tIfS, tOp, tUn, tCB, tCons, tNil, tC, tVar, rI, rI0, rU, tAnd, tOr, tNot, tAndV, tOrV, tNotV, tIf, tTest, tB, tCall, tChain, tLst, tTup, tYes, rIxH, rIsB, rIsBT, rMulS, kd_non, kd_bl, kd_int, kd_str, kd_ref, kdO_lst, kdO_tup, kdO_dK, nq_n, nq_b, nq_i, nq_s, nq_l, nq_t, nq_d, ne_eq, not_false_eq_true, kit_ss, kit_ns, kit_bs, kit_is, kit_ls, kit_ts, kit_ds, kit_bb, V.ty.injEq, and_assoc, rIxU, rLenH, rLenU, rLenS, rInt1, rSetL, rEq, rNe, rCat, L2.start, List.map, List.length, List.length_cons, List.length_nil, List.replicate, List.getElem?_cons_zero, List.getElem?_cons_succ, List.set_cons_zero, List.set_cons_succ, List.set_nil, List.cons_append, List.nil_append, List.append_nil, Option.some.injEq, V.int.injEq, V.ref.injEq, V.str.injEq, V.bl.injEq, HO.lst.injEq, HO.tup.injEq, exists_eq_left', exists_and_left, exists_eq_left, List.cons.injEq, and_true, true_and, and_false, false_and, and_self, reduceCtorEq, exists_false, or_false, false_or, exists_const, at0, at1, at2, at3, at4, at5, ix51, ix52, ix54, upd_same, Nat.reduceAdd, Nat.reduceSub, Nat.zero_add, Int.reduceToNat, Int.reduceLE, Int.reduceLT, decide_eq_true_eq, Bool.not_eq_true, if_true, if_false, Bool.false_eq_true, ite_true, ite_false, Bool.not_true, Bool.not_false, decide_true, decide_false, tFor_eq, tLc_eq, iList, iTup, iRng1, iRng2, iStr, tSl, tPart, tNoPart, rSlL, cxOf_K, wipe, ex_ty2, kit_LTl, kit_LTt, kit_LTd, kit_LTs, kit_LTn, kit_LTb, kit_LTi, tM1, rIxS, exists_eq', lt1p, tDNewK, rSlS, rEqNil, nox_K]
      have hc := rowsS_cnt ok.tr
      have hs := sum_le (l := rowsS rs) (f := fun x => x.length) (n := 41) (rowsS_len ok.tr)
      refine ⟨rowsS rs, .inl (SqL.of hf2), ?_, q H2 s2⟩
      rw [show (Str.ofString "\n").length = 1 from by decide +kernel]
      omega
end



theorem Wd.tell {p l : Addr} {c : Nat} {G H : Hp} {q : Addr} {o : HO} (h : Wd p l c G H) (hq : H q = some o) (gq : G q = none) (np : q ≠ p) (nl : q ≠ l) : Wd p l c (upd G q o) H := by
  refine ⟨h.pool, fun x u e => ?_, by rw [upd_ne np.symm]; exact h.gp, by rw [upd_ne nl.symm]; exact h.gl⟩
  by_cases ex : x = q
  · subst ex
    rw [upd_same] at e
    rw [← Option.some.inj e]
    exact hq
  · rw [upd_ne ex] at e
    exact h.kn x u e
theorem Wd.alloc' {p l : Addr} {c : Nat} {G H H' : Hp} {q : Addr} {o : HO} (h : Wd p l c G H) (hq : H q = none) (s : Same H H') (e : H' q = some o) : Wd p l c (upd G q o) H' ∧ G q = none := by
  have np := h.pool.np hq
  have g := h.free hq
  exact ⟨(h.same s).tell e g np.1 np.2, g⟩
theorem Wd.mut {p l : Addr} {c : Nat} {G H : Hp} {g : Addr} {ys : List V} (h : Wd p l c G H) (hg : G g = none) (np : g ≠ p) (nl : g ≠ l) : Wd p l c G (upd H g (.lst ys)) := by
  refine ⟨?_, fun b o hb => ?_, h.gp, h.gl⟩
  · obtain ⟨ns, t, n, z, y, h1, h2, h3⟩ := h.pool
    exact ⟨ns, t, n, z, y, by rw [upd_ne np.symm]; exact h1, by rw [upd_ne nl.symm]; exact h2, h3⟩
  · rw [upd_ne (ne_of_none hb hg)]
    exact h.kn b o hb
theorem pair_lt {ns : List Int} (h : ns.Pairwise (· ≤ ·)) (n : ns.Nodup) : ns.Pairwise (· < ·) := by
  have q := h.and n
  exact q.imp fun ⟨a, b⟩ => by omega

/-! ### _law_rows -/
def spRows : Sp := fun vs H Q _ => ∃ p l c G, vs = [.ref p] ∧ Wd p l c G H ∧ c ≤ 80000000 ∧ ∀ H' G' a ra rs, Wd p l (c + 201) G' H' → Same G G' → G' a = some (.lst (List.map V.ref ra)) → RowsAt G' ra rs → R13 rs → Q (.ref a) H'
def LG (p l wA f : Addr) (G0 : Hp) (c0 : Nat) (i : Nat) (σ : St) (H : Hp) : Prop := ∃ (v3 v4 v5 v6 v7 v8 : Option V) (c : Nat) (G : Hp) (ra : List Addr) (rs : List VR), σ = [some (.ref p), some (.ref wA), some (.ref f), v3, v4, v5, v6, v7, v8] ∧ Wd p l c G H ∧ c ≤ c0 + 20 * i ∧ Same G0 G ∧ G f = none ∧ H f = some (.lst (ra.map V.ref)) ∧ RowsAt G ra rs ∧ rs.length = i ∧ Gr rs ∧ ∀ r ∈ rs, TRow r
def LG2 (p l wA f e : Addr) (v7 v8 : Option V) (G : Hp) (ra : List Addr) (c0 n : Nat) (i : Nat) (σ : St) (H : Hp) : Prop := ∃ (v5 v6 : Option V) (c : Nat) (qs : List Int), σ = [some (.ref p), some (.ref wA), some (.ref f), some (.int (n : Int)), some (.ref e), v5, v6, v7, v8] ∧ Wd p l c G H ∧ c ≤ c0 + i ∧ H f = some (.lst (ra.map V.ref)) ∧ H e = some (.lst (qs.map V.int)) ∧ qs.length ≤ i ∧ qs.Nodup ∧ ∀ z ∈ qs, 0 ≤ z ∧ z < (n : Int)
section
variable {w : World} {K : PySem.W.Frag} {mg : Str → Option Value} {base : Heap} {A : Adr}
theorem ok_rows (T : Txt K mg A) (gLawDraw : FnOk PW w K mg base CX0 2 A.a_LawDraw A.d_LawDraw ["_law_pool_here", "_law_many"] spLawDraw) : FnOk PW w K mg base CX0 3 A.a_LawRows A.d_LawRows ["_law_pool_here"] spRows := by
  refine T.f_LawRows.ok scLawRows (fun vs H Q E h => ?_) (fun cdv A' outer s H vs Q E hr h => ?_)
  · obtain ⟨p, l, c, G, rfl, _⟩ := h
    rfl
  · obtain ⟨p, l, c, G, rfl, w0, hc, k⟩ := h
    refine ⟨_, (pss_cons (ps_set (i := 1) scLawRows.nd rfl (Or.inr rfl) (pe_lst (pa_cons pe_str (pa_cons pe_str (pa_cons pe_str (pa_cons pe_str (pa_cons pe_str (pa_cons pe_str (pa_cons pe_str (pa_cons pe_str (pa_cons (pe_op op_mul_str pe_str pe_int) pa_nil)))))))))))
      (pss_cons (ps_set (i := 2) scLawRows.nd rfl (Or.inl rfl) (pe_lst pa_nil))
      (pss_cons (ps_for PassesOwn.never rfl (pi_range1 (by rfl) T.z_range (pa_cons (pe_call gLawDraw (hr.mono (by decide)) (by rfl) T.m_LawDraw T.f_LawDraw.kp T.b_LawDraw .nil pass0 (pa_cons (pv 0) (pa_cons pe_int pa_nil))) pa_nil)) (pg_name (i := 3) scLawRows.nd rfl (Or.inl rfl)) (pss_cons (ps_set (i := 4) scLawRows.nd rfl (Or.inl rfl) (pe_lst pa_nil))
      (pss_cons (ps_for PassesOwn.never rfl (pi_range1 (by rfl) T.z_range (pa_cons (pe_op op_mulW (pe_call gLawDraw (hr.mono (by decide)) (by rfl) T.m_LawDraw T.f_LawDraw.kp T.b_LawDraw .nil pass0 (pa_cons (pv 0) (pa_cons pe_int pa_nil))) (pe_callTy call_intB (by rfl) T.z_int (by decide +kernel) (pa_cons (pe_cmpR (op_gt) (pv 3) pe_int (nomark _)) pa_nil))) pa_nil)) (pg_name (i := 5) scLawRows.nd rfl (Or.inl rfl)) (pss_cons (ps_set (i := 6) scLawRows.nd rfl (Or.inl rfl) (pe_call gLawDraw (hr.mono (by decide)) (by rfl) T.m_LawDraw T.f_LawDraw.kp T.b_LawDraw .nil pass0 (pa_cons (pv 0) (pa_cons (pe_callB (call_max2 rfl) (by rfl) T.z_max (by decide +kernel) (pa_cons pe_int (pa_cons (pv 3) pa_nil))) pa_nil))))
      (pss_one (ps_if (pt_cmpR (op_notIn_seq) (pv 6) (pv 4) (by rfl)) (pss_one (ps_expr (pe_bm PySem.F.plainAttrs_list PySem.F.slot_list_append PySem.F.type_list_append mt_append (pv 4) (pa_cons (pv 6) pa_nil)))) pss_nil))))
      (pss_cons (ps_setLc (i := 7) (own := [("_law_k", 5)]) (g := gName 5) (tt := tYes) (by rfl) scLawRows.nd rfl rfl (sw_true rfl rfl rfl (by decide +kernel)) (pi_range1 (by rfl) T.z_range (pa_cons (pe_call gLawDraw (hr.mono (by decide)) (by rfl) T.m_LawDraw T.f_LawDraw.kp T.b_LawDraw .nil pass0 (pa_cons (pv 0) (pa_cons (pe_ix ix_lstH (pe_lst (pa_cons pe_int (pa_cons pe_int pa_nil))) (pe_call gLawDraw (hr.mono (by decide)) (by rfl) T.m_LawDraw T.f_LawDraw.kp T.b_LawDraw .nil pass0 (pa_cons (pv 0) (pa_cons pe_int pa_nil))) (fun _ _ => rfl)) pa_nil))) pa_nil)) (blkOk_by (own := [("_law_k", 5)]) (N := nLawRows) (sc := defScope sLawRows) (by decide +kernel)) (fun _ _ _ _ _ => pg_name (i := 5) scLawRows.nd rfl (Or.inl rfl)) (fun _ _ _ _ _ => pts_nil) (fun _ _ _ _ _ => (pe_ix ix_lstH (pv 1) (pe_call gLawDraw (hr.mono (by decide)) (by rfl) T.m_LawDraw T.f_LawDraw.kp T.b_LawDraw .nil pass0 (pa_cons (pv 0) (pa_cons pe_int pa_nil))) (fun _ _ => rfl))))
      (pss_cons (ps_set (i := 8) scLawRows.nd rfl (Or.inl rfl) (pe_ix ix_lstH (pe_lst (pa_cons pe_str (pa_cons pe_str (pa_cons pe_str (pa_cons pe_str pa_nil))))) (pe_call gLawDraw (hr.mono (by decide)) (by rfl) T.m_LawDraw T.f_LawDraw.kp T.b_LawDraw .nil pass0 (pa_cons (pv 0) (pa_cons pe_int pa_nil))) (fun _ _ => rfl)))
      (pss_one (ps_expr (pe_bm PySem.F.plainAttrs_list PySem.F.slot_list_append PySem.F.type_list_append mt_append (pv 2) (pa_cons (pe_tup (pa_cons (pe_callB cr_sorted (by rfl) T.z_sorted (by decide +kernel) (pa_cons (pe_lc (own := [("_law_parent", 6)]) (g := gName 6) (tt := tYes) (by rfl) scLawRows.nd (pi_list (pv 4)) (blkOk_by (own := [("_law_parent", 6)]) (N := nLawRows) (sc := defScope sLawRows) (by decide +kernel)) (fun _ _ _ _ _ => pg_name (i := 6) scLawRows.nd rfl (Or.inl rfl)) (fun _ _ _ _ _ => pts_nil) (fun _ _ _ _ _ => (pe_callTy call_intI (by rfl) T.z_int (by decide +kernel) (pa_cons (pv 6) pa_nil)))) pa_nil)) (pa_cons (pv 7) (pa_cons (pv 8) pa_nil)))) pa_nil)))))))))
      (pss_one (ps_ret (pv 2)))))), ?_⟩
    refine seq_gen fun N eN => ?_
    try simp only [tSeq, tNext, tRet, tRetN, tAsg, gName, gSub, tDrop, tIfS, tOp, tUn, tCB, tCons, tNil, tC, tVar, rI, rI0, rU, tAnd, tOr, tNot, tAndV, tOrV, tNotV, tIf, tTest, tB, tCall, tChain, tLst, tTup, tYes, rIxH, rIsB, rIsBT, rMulS, kd_non, kd_bl, kd_int, kd_str, kd_ref, kdO_lst, kdO_tup, kdO_dK, nq_n, nq_b, nq_i, nq_s, nq_l, nq_t, nq_d, ne_eq, not_false_eq_true, kit_ss, kit_ns, kit_bs, kit_is, kit_ls, kit_ts, kit_ds, kit_bb, V.ty.injEq, and_assoc, rIxU, rLenH, rLenU, rLenS, rInt1, rSetL, rEq, rNe, rCat, L2.start, List.map, List.length, List.length_cons, List.length_nil, List.replicate, List.getElem?_cons_zero, List.getElem?_cons_succ, List.set_cons_zero, List.set_cons_succ, List.set_nil, List.cons_append, List.nil_append, List.append_nil, Option.some.injEq, V.int.injEq, V.ref.injEq, V.str.injEq, V.bl.injEq, HO.lst.injEq, HO.tup.injEq, exists_eq_left', exists_and_left, exists_eq_left, List.cons.injEq, and_true, true_and, and_false, false_and, and_self, reduceCtorEq, exists_false, or_false, false_or, exists_const, at0, at1, at2, at3, at4, at5, ix51, ix52, ix54, upd_same, Nat.reduceAdd, Nat.reduceSub, Nat.zero_add, Int.reduceToNat, Int.reduceLE, Int.reduceLT, decide_eq_true_eq, Bool.not_eq_true, if_true, if_false, Bool.false_eq_true, ite_true, ite_false, Bool.not_true, Bool.not_false, decide_true, decide_false, tFor_eq, tLc_eq, iList, iTup, iRng1, iRng2, iStr, tSl, tPart, tNoPart, rSlL, cxOf_K, wipe, ex_ty2, kit_LTl, kit_LTt, kit_LTd, kit_LTs, kit_LTn, kit_LTb, kit_LTi, tM1, rIxS, exists_eq', lt1p, tDNewK, rSlS, rEqNil, nox_K]
    refine ⟨PyProof.Rows.mulOk_of 16 1048576 (by decide +kernel) (by decide) (by decide) (by decide) (by decide), by decide, ?_⟩
    intro wA n_wA; generalize g_H1 : upd H wA _ = H1; obtain ⟨s_H1, h_wA⟩ := new_facts n_wA g_H1; clear g_H1; obtain ⟨G1, w_G1, k_G1, f_wA⟩ := w0.alloc n_wA s_H1 h_wA
    have fw : G1 wA = some (.lst (words9.map V.str)) := f_wA
    rw [eN]
    clear eN N
    refine seq_gen fun N eN => ?_
    try simp only [tSeq, tNext, tRet, tRetN, tAsg, gName, gSub, tDrop, tIfS, tOp, tUn, tCB, tCons, tNil, tC, tVar, rI, rI0, rU, tAnd, tOr, tNot, tAndV, tOrV, tNotV, tIf, tTest, tB, tCall, tChain, tLst, tTup, tYes, rIxH, rIsB, rIsBT, rMulS, kd_non, kd_bl, kd_int, kd_str, kd_ref, kdO_lst, kdO_tup, kdO_dK, nq_n, nq_b, nq_i, nq_s, nq_l, nq_t, nq_d, ne_eq, not_false_eq_true, kit_ss, kit_ns, kit_bs, kit_is, kit_ls, kit_ts, kit_ds, kit_bb, V.ty.injEq, and_assoc, rIxU, rLenH, rLenU, rLenS, rInt1, rSetL, rEq, rNe, rCat, L2.start, List.map, List.length, List.length_cons, List.length_nil, List.replicate, List.getElem?_cons_zero, List.getElem?_cons_succ, List.set_cons_zero, List.set_cons_succ, List.set_nil, List.cons_append, List.nil_append, List.append_nil, Option.some.injEq, V.int.injEq, V.ref.injEq, V.str.injEq, V.bl.injEq, HO.lst.injEq, HO.tup.injEq, exists_eq_left', exists_and_left, exists_eq_left, List.cons.injEq, and_true, true_and, and_false, false_and, and_self, reduceCtorEq, exists_false, or_false, false_or, exists_const, at0, at1, at2, at3, at4, at5, ix51, ix52, ix54, upd_same, Nat.reduceAdd, Nat.reduceSub, Nat.zero_add, Int.reduceToNat, Int.reduceLE, Int.reduceLT, decide_eq_true_eq, Bool.not_eq_true, if_true, if_false, Bool.false_eq_true, ite_true, ite_false, Bool.not_true, Bool.not_false, decide_true, decide_false, tFor_eq, tLc_eq, iList, iTup, iRng1, iRng2, iStr, tSl, tPart, tNoPart, rSlL, cxOf_K, wipe, ex_ty2, kit_LTl, kit_LTt, kit_LTd, kit_LTs, kit_LTn, kit_LTb, kit_LTi, tM1, rIxS, exists_eq', lt1p, tDNewK, rSlS, rEqNil, nox_K]
    refine ⟨by decide, ?_⟩
    intro f n_f; generalize g_H2 : upd H1 f _ = H2; obtain ⟨s_H2, h_f⟩ := new_facts n_f g_H2; clear g_H2
    have gf := w_G1.free n_f
    have npf := w_G1.pool.np n_f
    have w1 := w_G1.same s_H2
    rw [eN]
    clear eN N
    refine seq_gen fun N eN => ?_
    try simp only [tSeq, tNext, tRet, tRetN, tAsg, gName, gSub, tDrop, tIfS, tOp, tUn, tCB, tCons, tNil, tC, tVar, rI, rI0, rU, tAnd, tOr, tNot, tAndV, tOrV, tNotV, tIf, tTest, tB, tCall, tChain, tLst, tTup, tYes, rIxH, rIsB, rIsBT, rMulS, kd_non, kd_bl, kd_int, kd_str, kd_ref, kdO_lst, kdO_tup, kdO_dK, nq_n, nq_b, nq_i, nq_s, nq_l, nq_t, nq_d, ne_eq, not_false_eq_true, kit_ss, kit_ns, kit_bs, kit_is, kit_ls, kit_ts, kit_ds, kit_bb, V.ty.injEq, and_assoc, rIxU, rLenH, rLenU, rLenS, rInt1, rSetL, rEq, rNe, rCat, L2.start, List.map, List.length, List.length_cons, List.length_nil, List.replicate, List.getElem?_cons_zero, List.getElem?_cons_succ, List.set_cons_zero, List.set_cons_succ, List.set_nil, List.cons_append, List.nil_append, List.append_nil, Option.some.injEq, V.int.injEq, V.ref.injEq, V.str.injEq, V.bl.injEq, HO.lst.injEq, HO.tup.injEq, exists_eq_left', exists_and_left, exists_eq_left, List.cons.injEq, and_true, true_and, and_false, false_and, and_self, reduceCtorEq, exists_false, or_false, false_or, exists_const, at0, at1, at2, at3, at4, at5, ix51, ix52, ix54, upd_same, Nat.reduceAdd, Nat.reduceSub, Nat.zero_add, Int.reduceToNat, Int.reduceLE, Int.reduceLT, decide_eq_true_eq, Bool.not_eq_true, if_true, if_false, Bool.false_eq_true, ite_true, ite_false, Bool.not_true, Bool.not_false, decide_true, decide_false, tFor_eq, tLc_eq, iList, iTup, iRng1, iRng2, iStr, tSl, tPart, tNoPart, rSlL, cxOf_K, wipe, ex_ty2, kit_LTl, kit_LTt, kit_LTd, kit_LTs, kit_LTn, kit_LTb, kit_LTi, tM1, rIxS, exists_eq', lt1p, tDNewK, rSlS, rEqNil, nox_K]
    refine ⟨p, l, 11, _, rfl, by decide, by decide, w1.pool, by omega, fun m H3 m0 m1 hp2 off2 => ?_⟩
    obtain ⟨m, rfl⟩ : ∃ n : Nat, m = (n : Int) := ⟨m.toNat, (Int.toNat_of_nonneg m0).symm⟩
    have hm := int62 (m := (m : Int)) (by omega) (by omega)
    have w2 := w1.turn hp2 (Off.s off2)
    have hf2 : H3 f = some (.lst []) := by rw [off2 f npf.1 npf.2]; exact h_f
    refine ⟨_, rfl, hm.1, hm.2, ?_⟩
    rw [Int.toNat_natCast]
    refine for_go (walk_rangeY (lo := 0) (n := m)) (LG p l wA f G1 (c + 1)) ⟨_, _, _, _, _, _, _, G1, [], [], rfl, w2, by omega, Same.refl _, gf, hf2, ⟨rfl, fun i a r h => by cases h⟩, rfl, fun i r h => (by cases h), fun r h => by cases h⟩ (fun _ _ _ _ _ => trivial) (fun i x σ H3 hx q => ?_) (fun σ H3 q => ?_)
    · obtain ⟨v3, v4, v5, v6, v7, v8, c3, G3, ra, rs, rfl, w3, hc3, g3, gf3, hf3, rw3, rl3, gr3, go3⟩ := q
      obtain ⟨rfl, hi⟩ := rng_item hx
      rw [Int.zero_add]
      refine seq_gen fun N2 eN2 => ?_
      try simp only [tSeq, tNext, tRet, tRetN, tAsg, gName, gSub, tDrop, tIfS, tOp, tUn, tCB, tCons, tNil, tC, tVar, rI, rI0, rU, tAnd, tOr, tNot, tAndV, tOrV, tNotV, tIf, tTest, tB, tCall, tChain, tLst, tTup, tYes, rIxH, rIsB, rIsBT, rMulS, kd_non, kd_bl, kd_int, kd_str, kd_ref, kdO_lst, kdO_tup, kdO_dK, nq_n, nq_b, nq_i, nq_s, nq_l, nq_t, nq_d, ne_eq, not_false_eq_true, kit_ss, kit_ns, kit_bs, kit_is, kit_ls, kit_ts, kit_ds, kit_bb, V.ty.injEq, and_assoc, rIxU, rLenH, rLenU, rLenS, rInt1, rSetL, rEq, rNe, rCat, L2.start, List.map, List.length, List.length_cons, List.length_nil, List.replicate, List.getElem?_cons_zero, List.getElem?_cons_succ, List.set_cons_zero, List.set_cons_succ, List.set_nil, List.cons_append, List.nil_append, List.append_nil, Option.some.injEq, V.int.injEq, V.ref.injEq, V.str.injEq, V.bl.injEq, HO.lst.injEq, HO.tup.injEq, exists_eq_left', exists_and_left, exists_eq_left, List.cons.injEq, and_true, true_and, and_false, false_and, and_self, reduceCtorEq, exists_false, or_false, false_or, exists_const, at0, at1, at2, at3, at4, at5, ix51, ix52, ix54, upd_same, Nat.reduceAdd, Nat.reduceSub, Nat.zero_add, Int.reduceToNat, Int.reduceLE, Int.reduceLT, decide_eq_true_eq, Bool.not_eq_true, if_true, if_false, Bool.false_eq_true, ite_true, ite_false, Bool.not_true, Bool.not_false, decide_true, decide_false, tFor_eq, tLc_eq, iList, iTup, iRng1, iRng2, iStr, tSl, tPart, tNoPart, rSlL, cxOf_K, wipe, ex_ty2, kit_LTl, kit_LTt, kit_LTd, kit_LTs, kit_LTn, kit_LTb, kit_LTi, tM1, rIxS, exists_eq', lt1p, tDNewK, rSlS, rEqNil, nox_K]
      refine ⟨by decide, ?_⟩
      intro e n_e; generalize g_H4 : upd H3 e _ = H4; obtain ⟨s_H4, h_e⟩ := new_facts n_e g_H4; clear g_H4
      have ge := w3.free n_e
      have npe := w3.pool.np n_e
      have w4 := w3.same s_H4
      have hf4 := s_H4 _ _ hf3
      have nfe : f ≠ e := ne_of_none hf3 n_e
      rw [eN2]
      clear eN2 N2
      refine seq_gen fun N2 eN2 => ?_
      try simp only [tSeq, tNext, tRet, tRetN, tAsg, gName, gSub, tDrop, tIfS, tOp, tUn, tCB, tCons, tNil, tC, tVar, rI, rI0, rU, tAnd, tOr, tNot, tAndV, tOrV, tNotV, tIf, tTest, tB, tCall, tChain, tLst, tTup, tYes, rIxH, rIsB, rIsBT, rMulS, kd_non, kd_bl, kd_int, kd_str, kd_ref, kdO_lst, kdO_tup, kdO_dK, nq_n, nq_b, nq_i, nq_s, nq_l, nq_t, nq_d, ne_eq, not_false_eq_true, kit_ss, kit_ns, kit_bs, kit_is, kit_ls, kit_ts, kit_ds, kit_bb, V.ty.injEq, and_assoc, rIxU, rLenH, rLenU, rLenS, rInt1, rSetL, rEq, rNe, rCat, L2.start, List.map, List.length, List.length_cons, List.length_nil, List.replicate, List.getElem?_cons_zero, List.getElem?_cons_succ, List.set_cons_zero, List.set_cons_succ, List.set_nil, List.cons_append, List.nil_append, List.append_nil, Option.some.injEq, V.int.injEq, V.ref.injEq, V.str.injEq, V.bl.injEq, HO.lst.injEq, HO.tup.injEq, exists_eq_left', exists_and_left, exists_eq_left, List.cons.injEq, and_true, true_and, and_false, false_and, and_self, reduceCtorEq, exists_false, or_false, false_or, exists_const, at0, at1, at2, at3, at4, at5, ix51, ix52, ix54, upd_same, Nat.reduceAdd, Nat.reduceSub, Nat.zero_add, Int.reduceToNat, Int.reduceLE, Int.reduceLT, decide_eq_true_eq, Bool.not_eq_true, if_true, if_false, Bool.false_eq_true, ite_true, ite_false, Bool.not_true, Bool.not_false, decide_true, decide_false, tFor_eq, tLc_eq, iList, iTup, iRng1, iRng2, iStr, tSl, tPart, tNoPart, rSlL, cxOf_K, wipe, ex_ty2, kit_LTl, kit_LTt, kit_LTd, kit_LTs, kit_LTn, kit_LTb, kit_LTi, tM1, rIxS, exists_eq', lt1p, tDNewK, rSlS, rEqNil, nox_K]
      refine ⟨p, l, 4, c3, rfl, by decide, by decide, w4.pool, by omega, fun u H6 u0 u1 hp6 off6 => ?_⟩
      obtain ⟨d, rfl⟩ : ∃ n : Nat, u = (n : Int) := ⟨u.toNat, (Int.toNat_of_nonneg u0).symm⟩
      have w6 := w4.turn hp6 (Off.s off6)
      have hf6 : H6 f = _ := (off6 f npf.1 npf.2).trans hf4
      have he6 : H6 e = _ := (off6 e npe.1 npe.2).trans h_e
      refine ⟨_, rfl, _, rfl, _, rfl, ?_⟩
      obtain ⟨t, et, ht3, hti⟩ : ∃ t : Nat, (d : Int) * (if decide (0 < (i : Int)) = true then 1 else 0) = (t : Int) ∧ t ≤ 3 ∧ (0 < t → 0 < i) := by
        by_cases h0 : 0 < i
        · rw [if_pos (by rw [decide_eq_true (by omega)])]
          exact ⟨d, by omega, by omega, fun _ => h0⟩
        · rw [if_neg (by rw [decide_eq_false (by omega)]; decide)]
          exact ⟨0, by omega, by omega, fun h => by omega⟩
      refine ⟨?_, ?_⟩
      · refine wide_mul (a := 4) (b := 4) ?_ ?_ (by decide) (by decide) (by decide)
        · exact Nat.lt_of_le_of_lt (m := 3) (by omega) (by decide)
        · split <;> decide
      rw [et]
      have hm2 := int62 (m := (t : Int)) (by omega) (by omega)
      refine ⟨hm2.1, hm2.2, ?_⟩
      rw [Int.toNat_natCast]
      refine for_go (walk_rangeY (lo := 0) (n := t)) (LG2 p l wA f e v7 v8 G3 ra (c3 + 1) i) ⟨_, _, _, [], rfl, w6, by omega, hf6, he6, by decide, List.nodup_nil, fun _ h => by cases h⟩ (fun _ _ _ _ _ => trivial) (fun i2 x2 σ2 H7 hx2 q2 => ?_) (fun σ2 H7 q2 => ?_)
      · obtain ⟨v5, v6, c7, qs, rfl, w7, hc7, hf7, he7, ql, qn, qb⟩ := q2
        obtain ⟨rfl, hi2⟩ := rng_item hx2
        have hi0 := hti (by omega)
        refine seq_gen fun N3 eN3 => ?_
        try simp only [tSeq, tNext, tRet, tRetN, tAsg, gName, gSub, tDrop, tIfS, tOp, tUn, tCB, tCons, tNil, tC, tVar, rI, rI0, rU, tAnd, tOr, tNot, tAndV, tOrV, tNotV, tIf, tTest, tB, tCall, tChain, tLst, tTup, tYes, rIxH, rIsB, rIsBT, rMulS, kd_non, kd_bl, kd_int, kd_str, kd_ref, kdO_lst, kdO_tup, kdO_dK, nq_n, nq_b, nq_i, nq_s, nq_l, nq_t, nq_d, ne_eq, not_false_eq_true, kit_ss, kit_ns, kit_bs, kit_is, kit_ls, kit_ts, kit_ds, kit_bb, V.ty.injEq, and_assoc, rIxU, rLenH, rLenU, rLenS, rInt1, rSetL, rEq, rNe, rCat, L2.start, List.map, List.length, List.length_cons, List.length_nil, List.replicate, List.getElem?_cons_zero, List.getElem?_cons_succ, List.set_cons_zero, List.set_cons_succ, List.set_nil, List.cons_append, List.nil_append, List.append_nil, Option.some.injEq, V.int.injEq, V.ref.injEq, V.str.injEq, V.bl.injEq, HO.lst.injEq, HO.tup.injEq, exists_eq_left', exists_and_left, exists_eq_left, List.cons.injEq, and_true, true_and, and_false, false_and, and_self, reduceCtorEq, exists_false, or_false, false_or, exists_const, at0, at1, at2, at3, at4, at5, ix51, ix52, ix54, upd_same, Nat.reduceAdd, Nat.reduceSub, Nat.zero_add, Int.reduceToNat, Int.reduceLE, Int.reduceLT, decide_eq_true_eq, Bool.not_eq_true, if_true, if_false, Bool.false_eq_true, ite_true, ite_false, Bool.not_true, Bool.not_false, decide_true, decide_false, tFor_eq, tLc_eq, iList, iTup, iRng1, iRng2, iStr, tSl, tPart, tNoPart, rSlL, cxOf_K, wipe, ex_ty2, kit_LTl, kit_LTt, kit_LTd, kit_LTs, kit_LTn, kit_LTb, kit_LTi, tM1, rIxS, exists_eq', lt1p, tDNewK, rSlS, rEqNil, nox_K]
        have emx : (if (i : Int) > 1 then (i : Int) else 1) = (i : Int) := by
          by_cases h1 : (i : Int) > 1
          · rw [if_pos h1]
          · rw [if_neg h1]; omega
        rw [emx]
        refine ⟨p, l, (i : Int), c7, rfl, by omega, Int.lt_of_le_of_lt (b := 10) (by omega) (by decide), w7.pool, by omega, fun z H8 z0 z1 hp8 off8 => ?_⟩
        have w10 := w7.turn hp8 (Off.s off8)
        have hf10 : H8 f = _ := (off8 f npf.1 npf.2).trans hf7
        have he10 : H8 e = _ := (off8 e npe.1 npe.2).trans he7
        first | rw [eN3] | (dsimp only; rw [eN3])
        clear eN3 N3
        try simp only [tSeq, tNext, tRet, tRetN, tAsg, gName, gSub, tDrop, tIfS, tOp, tUn, tCB, tCons, tNil, tC, tVar, rI, rI0, rU, tAnd, tOr, tNot, tAndV, tOrV, tNotV, tIf, tTest, tB, tCall, tChain, tLst, tTup, tYes, rIxH, rIsB, rIsBT, rMulS, kd_non, kd_bl, kd_int, kd_str, kd_ref, kdO_lst, kdO_tup, kdO_dK, nq_n, nq_b, nq_i, nq_s, nq_l, nq_t, nq_d, ne_eq, not_false_eq_true, kit_ss, kit_ns, kit_bs, kit_is, kit_ls, kit_ts, kit_ds, kit_bb, V.ty.injEq, and_assoc, rIxU, rLenH, rLenU, rLenS, rInt1, rSetL, rEq, rNe, rCat, L2.start, List.map, List.length, List.length_cons, List.length_nil, List.replicate, List.getElem?_cons_zero, List.getElem?_cons_succ, List.set_cons_zero, List.set_cons_succ, List.set_nil, List.cons_append, List.nil_append, List.append_nil, Option.some.injEq, V.int.injEq, V.ref.injEq, V.str.injEq, V.bl.injEq, HO.lst.injEq, HO.tup.injEq, exists_eq_left', exists_and_left, exists_eq_left, List.cons.injEq, and_true, true_and, and_false, false_and, and_self, reduceCtorEq, exists_false, or_false, false_or, exists_const, at0, at1, at2, at3, at4, at5, ix51, ix52, ix54, upd_same, Nat.reduceAdd, Nat.reduceSub, Nat.zero_add, Int.reduceToNat, Int.reduceLE, Int.reduceLT, decide_eq_true_eq, Bool.not_eq_true, if_true, if_false, Bool.false_eq_true, ite_true, ite_false, Bool.not_true, Bool.not_false, decide_true, decide_false, tFor_eq, tLc_eq, iList, iTup, iRng1, iRng2, iStr, tSl, tPart, tNoPart, rSlL, cxOf_K, wipe, ex_ty2, kit_LTl, kit_LTt, kit_LTd, kit_LTs, kit_LTn, kit_LTb, kit_LTi, tM1, rIxS, exists_eq', lt1p, tDNewK, rSlS, rEqNil, nox_K]
        refine ⟨e, _, rfl, .inl (SqL.of he10), rfl, flat_ints qs, ?_⟩
        rw [in_ints]
        refine ⟨_, rfl, ?_⟩
        by_cases hin : z ∈ qs
        · rw [decide_eq_true hin]
          try simp only [tSeq, tNext, tRet, tRetN, tAsg, gName, gSub, tDrop, tIfS, tOp, tUn, tCB, tCons, tNil, tC, tVar, rI, rI0, rU, tAnd, tOr, tNot, tAndV, tOrV, tNotV, tIf, tTest, tB, tCall, tChain, tLst, tTup, tYes, rIxH, rIsB, rIsBT, rMulS, kd_non, kd_bl, kd_int, kd_str, kd_ref, kdO_lst, kdO_tup, kdO_dK, nq_n, nq_b, nq_i, nq_s, nq_l, nq_t, nq_d, ne_eq, not_false_eq_true, kit_ss, kit_ns, kit_bs, kit_is, kit_ls, kit_ts, kit_ds, kit_bb, V.ty.injEq, and_assoc, rIxU, rLenH, rLenU, rLenS, rInt1, rSetL, rEq, rNe, rCat, L2.start, List.map, List.length, List.length_cons, List.length_nil, List.replicate, List.getElem?_cons_zero, List.getElem?_cons_succ, List.set_cons_zero, List.set_cons_succ, List.set_nil, List.cons_append, List.nil_append, List.append_nil, Option.some.injEq, V.int.injEq, V.ref.injEq, V.str.injEq, V.bl.injEq, HO.lst.injEq, HO.tup.injEq, exists_eq_left', exists_and_left, exists_eq_left, List.cons.injEq, and_true, true_and, and_false, false_and, and_self, reduceCtorEq, exists_false, or_false, false_or, exists_const, at0, at1, at2, at3, at4, at5, ix51, ix52, ix54, upd_same, Nat.reduceAdd, Nat.reduceSub, Nat.zero_add, Int.reduceToNat, Int.reduceLE, Int.reduceLT, decide_eq_true_eq, Bool.not_eq_true, if_true, if_false, Bool.false_eq_true, ite_true, ite_false, Bool.not_true, Bool.not_false, decide_true, decide_false, tFor_eq, tLc_eq, iList, iTup, iRng1, iRng2, iStr, tSl, tPart, tNoPart, rSlL, cxOf_K, wipe, ex_ty2, kit_LTl, kit_LTt, kit_LTd, kit_LTs, kit_LTn, kit_LTb, kit_LTi, tM1, rIxS, exists_eq', lt1p, tDNewK, rSlS, rEqNil, nox_K]
          exact ⟨_, _, _, qs, rfl, w10, by omega, hf10, he10, by omega, qn, qb⟩
        · rw [decide_eq_false hin]
          try simp only [tSeq, tNext, tRet, tRetN, tAsg, gName, gSub, tDrop, tIfS, tOp, tUn, tCB, tCons, tNil, tC, tVar, rI, rI0, rU, tAnd, tOr, tNot, tAndV, tOrV, tNotV, tIf, tTest, tB, tCall, tChain, tLst, tTup, tYes, rIxH, rIsB, rIsBT, rMulS, kd_non, kd_bl, kd_int, kd_str, kd_ref, kdO_lst, kdO_tup, kdO_dK, nq_n, nq_b, nq_i, nq_s, nq_l, nq_t, nq_d, ne_eq, not_false_eq_true, kit_ss, kit_ns, kit_bs, kit_is, kit_ls, kit_ts, kit_ds, kit_bb, V.ty.injEq, and_assoc, rIxU, rLenH, rLenU, rLenS, rInt1, rSetL, rEq, rNe, rCat, L2.start, List.map, List.length, List.length_cons, List.length_nil, List.replicate, List.getElem?_cons_zero, List.getElem?_cons_succ, List.set_cons_zero, List.set_cons_succ, List.set_nil, List.cons_append, List.nil_append, List.append_nil, Option.some.injEq, V.int.injEq, V.ref.injEq, V.str.injEq, V.bl.injEq, HO.lst.injEq, HO.tup.injEq, exists_eq_left', exists_and_left, exists_eq_left, List.cons.injEq, and_true, true_and, and_false, false_and, and_self, reduceCtorEq, exists_false, or_false, false_or, exists_const, at0, at1, at2, at3, at4, at5, ix51, ix52, ix54, upd_same, Nat.reduceAdd, Nat.reduceSub, Nat.zero_add, Int.reduceToNat, Int.reduceLE, Int.reduceLT, decide_eq_true_eq, Bool.not_eq_true, if_true, if_false, Bool.false_eq_true, ite_true, ite_false, Bool.not_true, Bool.not_false, decide_true, decide_false, tFor_eq, tLc_eq, iList, iTup, iRng1, iRng2, iStr, tSl, tPart, tNoPart, rSlL, cxOf_K, wipe, ex_ty2, kit_LTl, kit_LTt, kit_LTd, kit_LTs, kit_LTn, kit_LTb, kit_LTi, tM1, rIxS, exists_eq', lt1p, tDNewK, rSlS, rEqNil, nox_K, tBM, rAppend, he10]
          refine ⟨.inl ⟨rfl, _, SqL.of he10⟩, Nat.lt_of_le_of_lt (m := 1000) (by rw [List.length_map]; omega) (by decide), ?_⟩
          refine ⟨_, _, _, qs ++ [z], rfl, w10.mut ge npe.1 npe.2, by omega, by rw [upd_ne nfe]; exact hf10, by rw [upd_same, List.map_append]; rfl, by rw [List.length_append, List.length_singleton]; omega, ?_, ?_⟩
          · exact List.nodup_append.mpr ⟨qn, List.nodup_cons.mpr ⟨List.not_mem_nil, List.nodup_nil⟩, fun a ha b hb e => hin (by rw [List.mem_singleton.mp hb] at e; exact e ▸ ha)⟩
          · intro y hy
            rcases List.mem_append.mp hy with h | h
            · exact qb y h
            · rw [List.mem_singleton.mp h]
              exact ⟨z0, z1⟩
      · obtain ⟨v5, v6, c7, qs, rfl, w7, hc7, hf7, he7, ql, qn, qb⟩ := q2
        rw [rngV_len] at hc7 ql
        dsimp only
        rw [eN2]
        clear eN2 N2
        refine seq_gen fun N2 eN2 => ?_
        try simp only [tSeq, tNext, tRet, tRetN, tAsg, gName, gSub, tDrop, tIfS, tOp, tUn, tCB, tCons, tNil, tC, tVar, rI, rI0, rU, tAnd, tOr, tNot, tAndV, tOrV, tNotV, tIf, tTest, tB, tCall, tChain, tLst, tTup, tYes, rIxH, rIsB, rIsBT, rMulS, kd_non, kd_bl, kd_int, kd_str, kd_ref, kdO_lst, kdO_tup, kdO_dK, nq_n, nq_b, nq_i, nq_s, nq_l, nq_t, nq_d, ne_eq, not_false_eq_true, kit_ss, kit_ns, kit_bs, kit_is, kit_ls, kit_ts, kit_ds, kit_bb, V.ty.injEq, and_assoc, rIxU, rLenH, rLenU, rLenS, rInt1, rSetL, rEq, rNe, rCat, L2.start, List.map, List.length, List.length_cons, List.length_nil, List.replicate, List.getElem?_cons_zero, List.getElem?_cons_succ, List.set_cons_zero, List.set_cons_succ, List.set_nil, List.cons_append, List.nil_append, List.append_nil, Option.some.injEq, V.int.injEq, V.ref.injEq, V.str.injEq, V.bl.injEq, HO.lst.injEq, HO.tup.injEq, exists_eq_left', exists_and_left, exists_eq_left, List.cons.injEq, and_true, true_and, and_false, false_and, and_self, reduceCtorEq, exists_false, or_false, false_or, exists_const, at0, at1, at2, at3, at4, at5, ix51, ix52, ix54, upd_same, Nat.reduceAdd, Nat.reduceSub, Nat.zero_add, Int.reduceToNat, Int.reduceLE, Int.reduceLT, decide_eq_true_eq, Bool.not_eq_true, if_true, if_false, Bool.false_eq_true, ite_true, ite_false, Bool.not_true, Bool.not_false, decide_true, decide_false, tFor_eq, tLc_eq, iList, iTup, iRng1, iRng2, iStr, tSl, tPart, tNoPart, rSlL, cxOf_K, wipe, ex_ty2, kit_LTl, kit_LTt, kit_LTd, kit_LTs, kit_LTn, kit_LTb, kit_LTi, tM1, rIxS, exists_eq', lt1p, tDNewK, rSlS, rEqNil, nox_K]
        refine ⟨by decide, ?_⟩
        intro p3 n_p3; generalize g_H8 : upd H7 p3 _ = H8; obtain ⟨s_H8, h_p3⟩ := new_facts n_p3 g_H8; clear g_H8
        have w8 := w7.same s_H8
        refine ⟨p, l, 2, c7, rfl, by decide, by decide, w8.pool, by omega, fun b H9 b0 b1 hp9 off9 => ?_⟩
        have w9 := w8.turn hp9 (Off.s off9)
        have np3 := w7.pool.np n_p3
        have e9 : H9 p3 = _ := (off9 p3 np3.1 np3.2).trans h_p3
        obtain ⟨vv, hv, hvm, _⟩ := atI_ex (xs := [V.int 4, V.int 13]) (i := b) b0 (by show _ < (2 : Int); exact b1)
        obtain ⟨mm, rfl, hm0, hm1⟩ : ∃ n : Int, vv = .int n ∧ 0 < n ∧ n ≤ 13 := by
          simp only [List.mem_cons, List.not_mem_nil, or_false] at hvm
          rcases hvm with rfl | rfl
          · exact ⟨_, rfl, by decide, by decide⟩
          · exact ⟨_, rfl, by decide, by decide⟩
        refine ⟨_, b, rfl, e9, _, hv, ?_⟩
        refine ⟨p, l, mm, _, rfl, hm0, Int.lt_of_le_of_lt (b := 13) (by omega) (by decide), w9.pool, by omega, fun u2 H10 u20 u21 hp10 off10 => ?_⟩
        have w10 := w9.turn hp10 (Off.s off10)
        obtain ⟨n, rfl⟩ : ∃ n : Nat, u2 = (n : Int) := ⟨u2.toNat, (Int.toNat_of_nonneg u20).symm⟩
        have hn12 : n ≤ 12 := by omega
        have hmn := int62 (m := (n : Int)) (by omega) (by omega)
        refine ⟨_, rfl, hmn.1, hmn.2, fun D hD => ?_⟩
        rw [Int.toNat_natCast]
        have o710 : OffS p l H7 H10 := (same_off s_H8).trans ((Off.s off9).trans (Off.s off10))
        have hf10 := o710 _ _ npf.1 npf.2 hf7
        have he10 := o710 _ _ npe.1 npe.2 he7
        refine lc_pool (walk_rangeY (lo := 0) (n := n)) (k := 1) (fun v _ => ∃ z, v = V.str z ∧ z ∈ words9) (fun _ _ _ _ h => h) w10 hD (fun _ _ => trivial) (by rw [rngV_len]; omega) (fun x hx G2' H2' c2 gw hw hc2 R R0 h1 => ?_) (fun acc G11 H11 ha hP gw hw hD' => ?_)
        · rw [rngV_len] at hc2
          try simp only [tSeq, tNext, tRet, tRetN, tAsg, gName, gSub, tDrop, tIfS, tOp, tUn, tCB, tCons, tNil, tC, tVar, rI, rI0, rU, tAnd, tOr, tNot, tAndV, tOrV, tNotV, tIf, tTest, tB, tCall, tChain, tLst, tTup, tYes, rIxH, rIsB, rIsBT, rMulS, kd_non, kd_bl, kd_int, kd_str, kd_ref, kdO_lst, kdO_tup, kdO_dK, nq_n, nq_b, nq_i, nq_s, nq_l, nq_t, nq_d, ne_eq, not_false_eq_true, kit_ss, kit_ns, kit_bs, kit_is, kit_ls, kit_ts, kit_ds, kit_bb, V.ty.injEq, and_assoc, rIxU, rLenH, rLenU, rLenS, rInt1, rSetL, rEq, rNe, rCat, L2.start, List.map, List.length, List.length_cons, List.length_nil, List.replicate, List.getElem?_cons_zero, List.getElem?_cons_succ, List.set_cons_zero, List.set_cons_succ, List.set_nil, List.cons_append, List.nil_append, List.append_nil, Option.some.injEq, V.int.injEq, V.ref.injEq, V.str.injEq, V.bl.injEq, HO.lst.injEq, HO.tup.injEq, exists_eq_left', exists_and_left, exists_eq_left, List.cons.injEq, and_true, true_and, and_false, false_and, and_self, reduceCtorEq, exists_false, or_false, false_or, exists_const, at0, at1, at2, at3, at4, at5, ix51, ix52, ix54, upd_same, Nat.reduceAdd, Nat.reduceSub, Nat.zero_add, Int.reduceToNat, Int.reduceLE, Int.reduceLT, decide_eq_true_eq, Bool.not_eq_true, if_true, if_false, Bool.false_eq_true, ite_true, ite_false, Bool.not_true, Bool.not_false, decide_true, decide_false, tFor_eq, tLc_eq, iList, iTup, iRng1, iRng2, iStr, tSl, tPart, tNoPart, rSlL, cxOf_K, wipe, ex_ty2, kit_LTl, kit_LTt, kit_LTd, kit_LTs, kit_LTn, kit_LTb, kit_LTi, tM1, rIxS, exists_eq', lt1p, tDNewK, rSlS, rEqNil, nox_K]
          refine ⟨p, l, _, c2, rfl, by decide, by decide, hw.pool, by omega, fun u H3' y0 y1 hp3' off3' => ?_⟩
          have w3' := hw.turn hp3' (Off.s off3')
          have el := w3'.kn _ _ (gw.gg _ _ (g3 _ _ fw))
          obtain ⟨d, hd, hm, _⟩ := atI_ex (xs := words9.map V.str) (i := u) y0 (by show _ < (9 : Int); exact y1)
          obtain ⟨z, hz, rfl⟩ := List.mem_map.mp hm
          exact ⟨_, u, rfl, el, _, hd, h1 _ G2' H3' ⟨z, rfl, hz⟩ w3' (Gw.of (Off.s off3'))⟩
        rw [rngV_len] at ha hw
        obtain ⟨zs, rfl⟩ := strs_of (xs := acc) fun v hv => ⟨_, (hP v hv).choose_spec.1⟩
        rw [List.length_map] at ha
        have zw : ∀ z ∈ zs, z ∈ words9 := fun z hz => by
          obtain ⟨z', e, h⟩ := hP (.str z) (List.mem_map_of_mem hz)
          injection e with e
          subst e
          exact h
        have hf11 := gw.off _ _ npf.1 npf.2 hf10
        have he11 := gw.off _ _ npe.1 npe.2 he10
        have gf11 : G11 f = none := by
          cases e : G11 f with
          | none => rfl
          | some o =>
            rcases gw.fr f o e with h | h
            · rw [gf3] at h; cases h
            · rw [hf10] at h; cases h
        have g311 : Same G3 G11 := gw.gg
        have rw11 := rw3.same g311
        clear hP gw h_p3 e9 off9 off10 hp9 hp10 w8 w9 w10
        first | rw [eN2] | (dsimp only; rw [eN2])
        clear eN2 N2
        refine seq_gen fun N2 eN2 => ?_
        try simp only [tSeq, tNext, tRet, tRetN, tAsg, gName, gSub, tDrop, tIfS, tOp, tUn, tCB, tCons, tNil, tC, tVar, rI, rI0, rU, tAnd, tOr, tNot, tAndV, tOrV, tNotV, tIf, tTest, tB, tCall, tChain, tLst, tTup, tYes, rIxH, rIsB, rIsBT, rMulS, kd_non, kd_bl, kd_int, kd_str, kd_ref, kdO_lst, kdO_tup, kdO_dK, nq_n, nq_b, nq_i, nq_s, nq_l, nq_t, nq_d, ne_eq, not_false_eq_true, kit_ss, kit_ns, kit_bs, kit_is, kit_ls, kit_ts, kit_ds, kit_bb, V.ty.injEq, and_assoc, rIxU, rLenH, rLenU, rLenS, rInt1, rSetL, rEq, rNe, rCat, L2.start, List.map, List.length, List.length_cons, List.length_nil, List.replicate, List.getElem?_cons_zero, List.getElem?_cons_succ, List.set_cons_zero, List.set_cons_succ, List.set_nil, List.cons_append, List.nil_append, List.append_nil, Option.some.injEq, V.int.injEq, V.ref.injEq, V.str.injEq, V.bl.injEq, HO.lst.injEq, HO.tup.injEq, exists_eq_left', exists_and_left, exists_eq_left, List.cons.injEq, and_true, true_and, and_false, false_and, and_self, reduceCtorEq, exists_false, or_false, false_or, exists_const, at0, at1, at2, at3, at4, at5, ix51, ix52, ix54, upd_same, Nat.reduceAdd, Nat.reduceSub, Nat.zero_add, Int.reduceToNat, Int.reduceLE, Int.reduceLT, decide_eq_true_eq, Bool.not_eq_true, if_true, if_false, Bool.false_eq_true, ite_true, ite_false, Bool.not_true, Bool.not_false, decide_true, decide_false, tFor_eq, tLc_eq, iList, iTup, iRng1, iRng2, iStr, tSl, tPart, tNoPart, rSlL, cxOf_K, wipe, ex_ty2, kit_LTl, kit_LTt, kit_LTd, kit_LTs, kit_LTn, kit_LTb, kit_LTi, tM1, rIxS, exists_eq', lt1p, tDNewK, rSlS, rEqNil, nox_K]
        refine ⟨by decide, ?_⟩
        intro p5 n_p5; generalize g_H12 : upd H11 p5 _ = H12; obtain ⟨s_H12, h_p5⟩ := new_facts n_p5 g_H12; clear g_H12
        have w12 := hw.same s_H12
        refine ⟨p, l, 4, _, rfl, by decide, by decide, w12.pool, by omega, fun y H13 y0 y1 hp13 off13 => ?_⟩
        have w13 := w12.turn hp13 (Off.s off13)
        have np5 := hw.pool.np n_p5
        have e13 : H13 p5 = _ := (off13 p5 np5.1 np5.2).trans h_p5
        obtain ⟨vn, hvn, hnm, _⟩ := atI_ex (xs := names4.map V.str) (i := y) y0 (by show _ < (4 : Int); exact y1)
        obtain ⟨nn, hnn, rfl⟩ := List.mem_map.mp hnm
        refine ⟨_, y, rfl, e13, _, hvn, ?_⟩
        have hf13 : H13 f = _ := (off13 f npf.1 npf.2).trans (s_H12 _ _ hf11)
        have he13 : H13 e = _ := (off13 e npe.1 npe.2).trans (s_H12 _ _ he11)
        first | rw [eN2] | (dsimp only; rw [eN2])
        clear eN2 N2
        try simp only [tSeq, tNext, tRet, tRetN, tAsg, gName, gSub, tDrop, tIfS, tOp, tUn, tCB, tCons, tNil, tC, tVar, rI, rI0, rU, tAnd, tOr, tNot, tAndV, tOrV, tNotV, tIf, tTest, tB, tCall, tChain, tLst, tTup, tYes, rIxH, rIsB, rIsBT, rMulS, kd_non, kd_bl, kd_int, kd_str, kd_ref, kdO_lst, kdO_tup, kdO_dK, nq_n, nq_b, nq_i, nq_s, nq_l, nq_t, nq_d, ne_eq, not_false_eq_true, kit_ss, kit_ns, kit_bs, kit_is, kit_ls, kit_ts, kit_ds, kit_bb, V.ty.injEq, and_assoc, rIxU, rLenH, rLenU, rLenS, rInt1, rSetL, rEq, rNe, rCat, L2.start, List.map, List.length, List.length_cons, List.length_nil, List.replicate, List.getElem?_cons_zero, List.getElem?_cons_succ, List.set_cons_zero, List.set_cons_succ, List.set_nil, List.cons_append, List.nil_append, List.append_nil, Option.some.injEq, V.int.injEq, V.ref.injEq, V.str.injEq, V.bl.injEq, HO.lst.injEq, HO.tup.injEq, exists_eq_left', exists_and_left, exists_eq_left, List.cons.injEq, and_true, true_and, and_false, false_and, and_self, reduceCtorEq, exists_false, or_false, false_or, exists_const, at0, at1, at2, at3, at4, at5, ix51, ix52, ix54, upd_same, Nat.reduceAdd, Nat.reduceSub, Nat.zero_add, Int.reduceToNat, Int.reduceLE, Int.reduceLT, decide_eq_true_eq, Bool.not_eq_true, if_true, if_false, Bool.false_eq_true, ite_true, ite_false, Bool.not_true, Bool.not_false, decide_true, decide_false, tFor_eq, tLc_eq, iList, iTup, iRng1, iRng2, iStr, tSl, tPart, tNoPart, rSlL, cxOf_K, wipe, ex_ty2, kit_LTl, kit_LTt, kit_LTd, kit_LTs, kit_LTn, kit_LTb, kit_LTi, tM1, rIxS, exists_eq', lt1p, tDNewK, rSlS, rEqNil, nox_K, tBM]
        refine ⟨.inl ⟨rfl, _, SqL.of hf13⟩, ⟨_, SqL.of he13⟩, fun D3 hD3 => ?_⟩
        refine lc_same (walk_list (K := K) (xs := qs.map V.int)) (fun _ => true) (fun v => v) hD3 (fun _ s2 => s2.seq (SqL.of he13)) (by rw [List.length_map]; omega) (fun x hx H14 s14 R R0 h1 _ => ?_) (fun H14 s14 h14 => ?_)
        · obtain ⟨j, rfl⟩ := mem_int hx
          try simp only [tSeq, tNext, tRet, tRetN, tAsg, gName, gSub, tDrop, tIfS, tOp, tUn, tCB, tCons, tNil, tC, tVar, rI, rI0, rU, tAnd, tOr, tNot, tAndV, tOrV, tNotV, tIf, tTest, tB, tCall, tChain, tLst, tTup, tYes, rIxH, rIsB, rIsBT, rMulS, kd_non, kd_bl, kd_int, kd_str, kd_ref, kdO_lst, kdO_tup, kdO_dK, nq_n, nq_b, nq_i, nq_s, nq_l, nq_t, nq_d, ne_eq, not_false_eq_true, kit_ss, kit_ns, kit_bs, kit_is, kit_ls, kit_ts, kit_ds, kit_bb, V.ty.injEq, and_assoc, rIxU, rLenH, rLenU, rLenS, rInt1, rSetL, rEq, rNe, rCat, L2.start, List.map, List.length, List.length_cons, List.length_nil, List.replicate, List.getElem?_cons_zero, List.getElem?_cons_succ, List.set_cons_zero, List.set_cons_succ, List.set_nil, List.cons_append, List.nil_append, List.append_nil, Option.some.injEq, V.int.injEq, V.ref.injEq, V.str.injEq, V.bl.injEq, HO.lst.injEq, HO.tup.injEq, exists_eq_left', exists_and_left, exists_eq_left, List.cons.injEq, and_true, true_and, and_false, false_and, and_self, reduceCtorEq, exists_false, or_false, false_or, exists_const, at0, at1, at2, at3, at4, at5, ix51, ix52, ix54, upd_same, Nat.reduceAdd, Nat.reduceSub, Nat.zero_add, Int.reduceToNat, Int.reduceLE, Int.reduceLT, decide_eq_true_eq, Bool.not_eq_true, if_true, if_false, Bool.false_eq_true, ite_true, ite_false, Bool.not_true, Bool.not_false, decide_true, decide_false, tFor_eq, tLc_eq, iList, iTup, iRng1, iRng2, iStr, tSl, tPart, tNoPart, rSlL, cxOf_K, wipe, ex_ty2, kit_LTl, kit_LTt, kit_LTd, kit_LTs, kit_LTn, kit_LTb, kit_LTi, tM1, rIxS, exists_eq', lt1p, tDNewK, rSlS, rEqNil, nox_K]
          exact h1 H14 (Same.refl _) rfl
        rw [filter_all, List.map_id'] at h14
        have w14 := w13.same s14
        have hf14 := s14 _ _ hf13
        refine ⟨D3, qs, rfl, SqL.of h14, by omega, fun ns' sA pm po nA => ?_⟩
        generalize gA : upd H14 sA _ = H15
        obtain ⟨s15, hA⟩ := new_facts nA gA
        clear gA
        obtain ⟨w15, gA15⟩ := w14.alloc' nA s15 hA
        refine ⟨by decide, fun tC nC => ?_⟩
        generalize gC : upd H15 tC _ = H16
        obtain ⟨s16, hC⟩ := new_facts nC gC
        clear gC
        obtain ⟨w16, gC16⟩ := w15.alloc' nC s16 hC
        have hf15 := s15 _ _ hf14
        have hf16 := s16 _ _ hf15
        have fA : f ≠ sA := ne_of_none hf14 nA
        have fC : f ≠ tC := ne_of_none hf15 nC
        refine ⟨f, _, _, rfl, rfl, hf16, Nat.lt_of_le_of_lt (m := 1000) (by rw [List.length_map, rw3.len]; omega) (by decide), ?_⟩
        have gf16 : upd (upd G11 sA (.lst (ns'.map V.int))) tC (.tup [V.ref sA, V.ref D, V.str nn]) f = none := by rw [upd_ne fC, upd_ne fA]; exact gf11
        have nsn : ns'.Nodup := pm.nodup_iff.mpr qn
        have nsp := pair_lt po nsn
        have gs1 : Same G11 (upd G11 sA (.lst (ns'.map V.int))) := same_new gA15
        have gs3 := same_new (o := .tup [V.ref sA, V.ref D, V.str nn]) gC16
        have r1 := gs3 sA _ upd_same
        have r2 := gs3 _ _ (gs1 _ _ hD')
        have r3 : upd (upd G11 sA (.lst (ns'.map V.int))) tC (.tup [V.ref sA, V.ref D, V.str nn]) tC = _ := upd_same
        have gs := (g311.trans gs1).trans gs3
        generalize upd (upd G11 sA (.lst (ns'.map V.int))) tC (.tup [V.ref sA, V.ref D, V.str nn]) = G4 at gf16 gs r1 r2 r3 w16
        have psb : ∀ z ∈ ns', 0 ≤ z ∧ z < (i : Int) := fun z hz => qb z (pm.mem_iff.mp hz)
        have row : TRow ⟨zs, ns', nn⟩ := ⟨hnn, zw, show zs.length ≤ 12 by omega, by show ns'.length ≤ 3; rw [pm.length_eq]; omega, nsp, fun z hz => ⟨(psb z hz).1, by have := (psb z hz).2; omega⟩⟩
        refine ⟨_, _, _, _, _, _, _, G4, ra ++ [tC], rs ++ [⟨zs, ns', nn⟩], rfl, w16.mut gf16 npf.1 npf.2, by omega, g3.trans gs, gf16, by rw [upd_same, List.map_append]; rfl, ?_, by rw [List.length_append, List.length_singleton]; omega, gr3.snoc (x := ⟨zs, ns', nn⟩) (fun z hz => by rw [rl3]; exact psb z hz), fun r hr => ?_⟩
        · refine ⟨by rw [List.length_append, List.length_append, rw3.len]; rfl, fun j a r ha hr => ?_⟩
          rcases snoc_get ha with ⟨l1, g1⟩ | ⟨l1, g1⟩
          · rcases snoc_get hr with ⟨l2, g2⟩ | ⟨l2, g2⟩
            · exact (rw3.same gs).ea j a r g1 g2
            · rw [rw3.len] at l1; omega
          · rcases snoc_get hr with ⟨l2, g2⟩ | ⟨l2, g2⟩
            · rw [rw3.len] at l1; omega
            · subst g1 g2
              exact ⟨sA, D, r3, r1, r2⟩
        · rcases List.mem_append.mp hr with h | h
          · exact go3 r h
          · rw [List.mem_singleton.mp h]
            exact row
    · obtain ⟨v3, v4, v5, v6, v7, v8, c3, G3, ra, rs, rfl, w3, hc3, g3, gf3, hf3, rw3, rl3, gr3, go3⟩ := q
      rw [rngV_len] at hc3 rl3
      dsimp only
      rw [eN]
      clear eN N
      try simp only [tSeq, tNext, tRet, tRetN, tAsg, gName, gSub, tDrop, tIfS, tOp, tUn, tCB, tCons, tNil, tC, tVar, rI, rI0, rU, tAnd, tOr, tNot, tAndV, tOrV, tNotV, tIf, tTest, tB, tCall, tChain, tLst, tTup, tYes, rIxH, rIsB, rIsBT, rMulS, kd_non, kd_bl, kd_int, kd_str, kd_ref, kdO_lst, kdO_tup, kdO_dK, nq_n, nq_b, nq_i, nq_s, nq_l, nq_t, nq_d, ne_eq, not_false_eq_true, kit_ss, kit_ns, kit_bs, kit_is, kit_ls, kit_ts, kit_ds, kit_bb, V.ty.injEq, and_assoc, rIxU, rLenH, rLenU, rLenS, rInt1, rSetL, rEq, rNe, rCat, L2.start, List.map, List.length, List.length_cons, List.length_nil, List.replicate, List.getElem?_cons_zero, List.getElem?_cons_succ, List.set_cons_zero, List.set_cons_succ, List.set_nil, List.cons_append, List.nil_append, List.append_nil, Option.some.injEq, V.int.injEq, V.ref.injEq, V.str.injEq, V.bl.injEq, HO.lst.injEq, HO.tup.injEq, exists_eq_left', exists_and_left, exists_eq_left, List.cons.injEq, and_true, true_and, and_false, false_and, and_self, reduceCtorEq, exists_false, or_false, false_or, exists_const, at0, at1, at2, at3, at4, at5, ix51, ix52, ix54, upd_same, Nat.reduceAdd, Nat.reduceSub, Nat.zero_add, Int.reduceToNat, Int.reduceLE, Int.reduceLT, decide_eq_true_eq, Bool.not_eq_true, if_true, if_false, Bool.false_eq_true, ite_true, ite_false, Bool.not_true, Bool.not_false, decide_true, decide_false, tFor_eq, tLc_eq, iList, iTup, iRng1, iRng2, iStr, tSl, tPart, tNoPart, rSlL, cxOf_K, wipe, ex_ty2, kit_LTl, kit_LTt, kit_LTd, kit_LTs, kit_LTn, kit_LTb, kit_LTi, tM1, rIxS, exists_eq', lt1p, tDNewK, rSlS, rEqNil, nox_K]
      have w4 := w3.tell hf3 gf3 npf.1 npf.2
      have s4 : Same G3 (upd G3 f (.lst (ra.map V.ref))) := same_new gf3
      exact k H3 _ f ra rs (w4.mono (by omega)) ((k_G1.trans g3).trans s4) upd_same (rw3.same s4) ⟨by omega, gr3, go3⟩
end



/-! ### unlike rows have unlike texts -/
theorem nS_inj : ∀ {ps ps' : List Int}, (∀ p ∈ ps, 0 ≤ p ∧ p < 10) → (∀ p ∈ ps', 0 ≤ p ∧ p < 10) → ps.map nS = ps'.map nS → ps = ps'
  | [], [], _, _, _ => rfl
  | [], _ :: _, _, _, h => by cases h
  | _ :: _, [], _, _, h => by cases h
  | p :: ps, q :: qs, h1, h2, h => by
    rw [List.map_cons, List.map_cons] at h
    obtain ⟨e1, e2⟩ := List.cons.inj h
    have b1 := h1 p List.mem_cons_self
    have b2 := h2 q List.mem_cons_self
    have c1 := cntOfS_nS b1.1 b1.2
    rw [e1, cntOfS_nS b2.1 b2.2] at c1
    rw [nS_inj (fun x hx => h1 x (List.mem_cons_of_mem _ hx)) (fun x hx => h2 x (List.mem_cons_of_mem _ hx)) e2, c1]
theorem pars_split {ps : List Int} (h0 : ps ≠ []) (pb : ∀ p ∈ ps, 0 ≤ p ∧ p < 10) : Txt.split (pars ps) (Str.ofString ",") = ps.map nS := by
  have e : pars ps = Txt.join (Str.ofString ",") (ps.map nS) := by unfold pars; rw [if_neg h0]
  rw [e]
  refine TL.split_join (s := 44) (S := []) (by decide +kernel) (by decide +kernel) (fun z => h0 (List.map_eq_nil_iff.mp z)) fun z hz => ?_
  obtain ⟨i, hi, rfl⟩ := List.mem_map.mp hz
  have := pb i hi
  rw [(nS_dig this.1 this.2).1]
  intro h
  have := List.mem_singleton.mp (show 44 ∈ [48 + i.toNat] from h)
  omega
theorem pars_inj {ps ps' : List Int} (h1 : ∀ p ∈ ps, 0 ≤ p ∧ p < 10) (h2 : ∀ p ∈ ps', 0 ≤ p ∧ p < 10) (h : pars ps = pars ps') : ps = ps' := by
  have e0 : pars [] = Str.ofString "-" := rfl
  by_cases a : ps = []
  · subst a
    by_cases b : ps' = []
    · exact b.symm
    · rw [e0] at h
      exact absurd h.symm (pars_ne b h2)
  · by_cases b : ps' = []
    · subst b
      rw [e0] at h
      exact absurd h (pars_ne a h1)
    · have := pars_split a h1
      rw [h, pars_split b h2] at this
      exact nS_inj h1 h2 this.symm
theorem headS_inj {r r' : VR} (h1 : TRow r) (h2 : TRow r') (h : headS r = headS r') : r.nm = r'.nm ∧ r.ps = r'.ps := by
  have e := head_split h1
  rw [h, head_split h2] at e
  simp only [List.cons.injEq, true_and, and_true] at e
  exact ⟨e.1.symm, (pars_inj h2.pb h1.pb e.2).symm⟩
theorem bar_inj {z z' : Str} (h : Str.ofString "|" ++ z = Str.ofString "|" ++ z') : z = z' := by
  rw [bar_eq] at h
  have := (cut1 (z := z) (c := 124) (by decide)).2
  rw [h, (cut1 (z := z') (c := 124) (by decide)).2] at this
  exact this.symm
theorem bar_head {r : VR} {z : Str} : headS r ≠ Str.ofString "|" ++ z := fun h => by
  obtain ⟨y, hy⟩ := headS_v r
  rw [hy, bar_eq] at h
  have := congrArg TL.tl h
  rw [TL.tl_append, TL.tl_append] at this
  cases this
theorem rows_hd {rs : List VR} : rowsS rs = [] ∨ ∃ r t, rowsS rs = headS r :: t := by
  cases rs with
  | nil => exact .inl rfl
  | cons r rs => exact .inr ⟨r, _, by unfold rowsS; rw [List.flatMap_cons]; rfl⟩
theorem bars_inj : ∀ {ls ls' : List Str} {rs rs' : List VR}, (ls.map fun (z : Str) => Str.ofString "|" ++ z) ++ rowsS rs = (ls'.map fun (z : Str) => Str.ofString "|" ++ z) ++ rowsS rs' → ls = ls' ∧ rowsS rs = rowsS rs'
  | [], [], _, _, h => ⟨rfl, h⟩
  | [], z :: ls', rs, rs', h => by
    rcases rows_hd (rs := rs) with e | ⟨r, t, e⟩
    · rw [e] at h; cases h
    · rw [e] at h
      exact absurd (List.cons.inj h).1 bar_head
  | z :: ls, [], rs, rs', h => by
    rcases rows_hd (rs := rs') with e | ⟨r, t, e⟩
    · rw [e] at h; cases h
    · rw [e] at h
      exact absurd (List.cons.inj h).1.symm bar_head
  | z :: ls, z' :: ls', rs, rs', h => by
    obtain ⟨e1, e2⟩ := List.cons.inj h
    obtain ⟨i1, i2⟩ := bars_inj e2
    exact ⟨by rw [bar_inj e1, i1], i2⟩
theorem rows_inj : ∀ {rs rs' : List VR}, (∀ r ∈ rs, TRow r) → (∀ r ∈ rs', TRow r) → rowsS rs = rowsS rs' → rs = rs'
  | [], [], _, _, _ => rfl
  | [], r :: rs', _, _, h => by unfold rowsS at h; rw [List.flatMap_cons] at h; cases h
  | r :: rs, [], _, _, h => by unfold rowsS at h; rw [List.flatMap_cons] at h; cases h
  | r :: rs, r' :: rs', h1, h2, h => by
    have e : headS r :: ((r.ls.map fun (z : Str) => Str.ofString "|" ++ z) ++ rowsS rs) = headS r' :: ((r'.ls.map fun (z : Str) => Str.ofString "|" ++ z) ++ rowsS rs') := by
      unfold rowsS at h ⊢
      rw [List.flatMap_cons, List.flatMap_cons] at h
      exact h
    obtain ⟨e1, e2⟩ := List.cons.inj e
    obtain ⟨i1, i2⟩ := bars_inj e2
    obtain ⟨n1, n2⟩ := headS_inj (h1 r List.mem_cons_self) (h2 r' List.mem_cons_self) e1
    rw [rows_inj (fun x hx => h1 x (List.mem_cons_of_mem _ hx)) (fun x hx => h2 x (List.mem_cons_of_mem _ hx)) i2]
    cases r; cases r'
    simp only at i1 n1 n2
    subst i1 n1 n2
    rfl
theorem fmt_inj {rs rs' : List VR} (h1 : ∀ r ∈ rs, TRow r) (h2 : ∀ r ∈ rs', TRow r) : fmtS rs = fmtS rs' ↔ rs = rs' := by
  constructor
  · intro h
    have e0 : fmtS [] = Str.ofString "" := by decide +kernel
    by_cases a : rs = []
    · subst a
      by_cases b : rs' = []
      · exact b.symm
      · rw [e0] at h
        exact absurd h.symm (fmt_ne b)
    · by_cases b : rs' = []
      · subst b
        rw [e0] at h
        exact absurd h (fmt_ne a)
      · have := fmt_split h1 a
        rw [h, fmt_split h2 b] at this
        exact rows_inj h1 h2 this.symm
  · intro h
    rw [h]



/-! ### lists of tuples of texts -/
/-- ys are tuples of these texts -/
structure TupsAt (H : Hp) (ys : List V) (tss : List (List Str)) : Prop where
  len : ys.length = tss.length
  ea : ∀ (i : Nat) (y : V) (ts : List Str), ys[i]? = some y → tss[i]? = some ts → ∃ t, y = .ref t ∧ H t = some (.tup (ts.map V.str))
theorem TupsAt.dp {K : PySem.W.Frag} {H : Hp} : ∀ {ys : List V} {tss : List (List Str)}, TupsAt H ys tss → DpAll K H ys (tss.map fun ts => PyData.tuple (ts.map PyData.str))
  | [], [], _ => .nil
  | [], _ :: _, h => by have := h.len; cases this
  | _ :: _, [], h => by have := h.len; cases this
  | y :: ys, ts :: tss, h => by
    obtain ⟨t, rfl, ht⟩ := h.ea 0 y ts rfl rfl
    exact .cons (.tup (SqT.of ht) (dp_strs ts)) (TupsAt.dp ⟨Nat.succ.inj h.len, fun i y' ts' h1 h2 => h.ea (i + 1) y' ts' h1 h2⟩)
theorem lay_tts : ∀ {tss : List (List Str)}, (∀ ts ∈ tss, ∀ z ∈ ts, ∀ c ∈ z.cps.toList, c < 128) → PyData.canLayAll0 (tss.map fun ts => PyData.tuple (ts.map PyData.str)) = true
  | [], _ => rfl
  | ts :: tss, h => by
    show (PyData.canLay0 (.tuple (ts.map PyData.str)) && PyData.canLayAll0 (tss.map fun ts => PyData.tuple (ts.map PyData.str))) = true
    rw [lay_tts fun x hx => h x (List.mem_cons_of_mem _ hx), Bool.and_true]
    exact lay_strs ts (h ts List.mem_cons_self)
theorem dep_tts : ∀ (tss : List (List Str)), PyData.depthAll (tss.map fun ts => PyData.tuple (ts.map PyData.str)) ≤ 2
  | [] => by simp [PyData.depthAll]
  | ts :: tss => by
    have := dep_tts tss
    have := dep_strs ts
    simp only [List.map_cons, PyData.depthAll, PyData.depth]
    omega
theorem eqv_tts : ∀ (tss : List (List Str)), PyData.eqvAll (tss.map fun ts => PyData.tuple (ts.map PyData.str)) (tss.map fun ts => PyData.tuple (ts.map PyData.str)) = true
  | [] => by simp [PyData.eqvAll]
  | ts :: tss => by
    have ih := eqv_tts tss
    simp only [List.map_cons, PyData.eqvAll, ih, PyData.eqv, eqv_strsT, Bool.and_true]
    simp
theorem neTT {K : PySem.W.Frag} {H : Hp} {a b : Addr} {xs ys : List V} {tss : List (List Str)} {Q : VK} (ha : H a = some (.lst xs)) (hb : H b = some (.lst ys)) (h1 : TupsAt H xs tss) (h2 : TupsAt H ys tss) (h : ∀ ts ∈ tss, ∀ z ∈ ts, ∀ c ∈ z.cps.toList, c < 128) (k : Q (.bl false) H) : rNeD K (.ref a) (.ref b) H Q := by
  have sh : SeqAt.shaped (.list (tss.map fun ts => PyData.tuple (ts.map PyData.str))) = true := by
    unfold SeqAt.shaped
    have h3 : PyData.canLay0 (.list (tss.map fun ts => PyData.tuple (ts.map PyData.str))) = true := lay_tts h
    rw [h3, Bool.true_and]
    refine decide_eq_true ?_
    have := dep_tts tss
    simp only [PyData.depth]
    omega
  refine ⟨_, _, .lst (SqL.of ha) h1.dp, .lst (SqL.of hb) h2.dp, sh, sh, ?_⟩
  have e : PyData.eqv (.list (tss.map fun ts => PyData.tuple (ts.map PyData.str))) (.list (tss.map fun ts => PyData.tuple (ts.map PyData.str))) = true := by
    simp only [PyData.eqv]
    exact eqv_tts tss
  rw [e]
  exact k

/-! ### the law -/
/-- all that stands, but the pool's two lists and one more -/
def cutG (p l k : Addr) (H : Hp) : Hp := fun b => if b = p ∨ b = l ∨ b = k then none else H b
theorem cutG_at {p l k b : Addr} {H : Hp} {o : HO} (h : H b = some o) (n1 : b ≠ p) (n2 : b ≠ l) (n3 : b ≠ k) : cutG p l k H b = some o := by
  unfold cutG
  rw [if_neg (by intro z; rcases z with z | z | z <;> contradiction)]
  exact h
theorem cutG_sub {p l k : Addr} {H : Hp} : Same (cutG p l k H) H := fun b o e => by
  unfold cutG at e
  split at e
  · cases e
  · exact e
theorem cutG_none {p l k : Addr} {H : Hp} : cutG p l k H p = none ∧ cutG p l k H l = none ∧ cutG p l k H k = none := by
  unfold cutG
  exact ⟨if_pos (.inl rfl), if_pos (.inr (.inl rfl)), if_pos (.inr (.inr rfl))⟩
theorem cutG_ge {p l k : Addr} {G H : Hp} (g : Same G H) (h1 : G p = none) (h2 : G l = none) (h3 : G k = none) : Same G (cutG p l k H) := fun b o e => cutG_at (g b o e) (ne_of_none e h1) (ne_of_none e h2) (ne_of_none e h3)
theorem cutG_wd {p l k : Addr} {c : Nat} {G H : Hp} (h : Wd p l c G H) : Wd p l c (cutG p l k H) H := ⟨h.pool, cutG_sub, cutG_none.1, cutG_none.2.1⟩
theorem VersAt.cut {C p l k : Addr} {H : Hp} {vas : List Addr} {rs : List VR} {x1 x2 x3 : List V} (h : VersAt C H vas rs) (hp : H p = some (.lst x1)) (hl : H l = some (.lst x2)) (hk : H k = some (.lst x3)) : VersAt C (cutG p l k H) vas rs := by
  have ne : ∀ {b : Addr} {u : HO}, H b = some u → (∀ xs, u ≠ .lst xs) → b ≠ p ∧ b ≠ l ∧ b ≠ k := fun {b u} e n => ⟨fun z => by rw [z, hp] at e; exact n _ (Option.some.inj e).symm, fun z => by rw [z, hl] at e; exact n _ (Option.some.inj e).symm, fun z => by rw [z, hk] at e; exact n _ (Option.some.inj e).symm⟩
  refine ⟨h.len, fun i a r h1 h2 => ?_⟩
  obtain ⟨⟨dx, l', p', q1, q2, q3⟩, o⟩ := h.ea i a r h1 h2
  have n1 := ne q1 (fun xs z => by cases z)
  have n2 := ne q2 (fun xs z => by cases z)
  have n3 := ne q3 (fun xs z => by cases z)
  exact ⟨⟨dx, l', p', cutG_at q1 n1.1 n1.2.1 n1.2.2, cutG_at q2 n2.1 n2.2.1 n2.2.2, cutG_at q3 n3.1 n3.2.1 n3.2.2⟩, o⟩
def spLaw (K : PySem.W.Frag) : Sp := fun vs H Q _ => ∃ (a : Addr) (ns : List Int), vs = [.ref a] ∧ SqL K H a (ns.map V.int) ∧ ns.length ≤ 63 ∧ ∀ H', Q (.bl true) H'
structure KnownAt (CH CV : Addr) (G : Hp) (ks : List Addr) : Prop where
  ea : ∀ t ∈ ks, ∃ h vas rs, G t = some (.tup [.str (fmtS rs), .ref h]) ∧ HistAt CH CV G h vas rs ∧ R13 rs
theorem KnownAt.same {CH CV : Addr} {G G' : Hp} {ks : List Addr} (k : KnownAt CH CV G ks) (s : Same G G') : KnownAt CH CV G' ks := ⟨fun t ht => by
  obtain ⟨h, vas, rs, q1, q2, q3⟩ := k.ea t ht
  exact ⟨h, vas, rs, s _ _ q1, q2.same s, q3⟩⟩
def LO13 (CH CV a p l kA : Addr) (i : Nat) (σ : St) (H : Hp) : Prop := ∃ (v3 v4 v5 v6 v7 v8 v9 v10 v11 : Option V) (c : Nat) (G : Hp) (ks : List Addr), σ = [some (.ref a), some (.ref p), some (.ref kA), v3, v4, v5, v6, v7, v8, v9, v10, v11] ∧ Wd p l c G H ∧ c ≤ 201 * i ∧ G kA = none ∧ H kA = some (.lst (ks.map V.ref)) ∧ ks.length = i ∧ KnownAt CH CV G ks



section
variable {w : World} {K : PySem.W.Frag} {mg : Str → Option Value} {base : Heap} {A : Adr}
theorem ok_law_of (T : Txt K mg A) (gLawPool : FnOk PW w K mg base CX0 1 A.a_LawPool A.d_LawPool ["_law_script"] (spLawPool K)) (gLawRows : FnOk PW w K mg base CX0 3 A.a_LawRows A.d_LawRows ["_law_pool_here"] spRows)
    (gLawMade : FnOk PW w K mg base CX0 6 A.a_LawMade A.d_LawMade ["_law_rows_here"] (spMade A.k_History A.k_Version))
    (gLawText : FnOk PW w K mg base CX0 1 A.a_LawText A.d_LawText ["_law_rows_here"] spText)
    (gFormatHistory : FnOk PW w K mg base CX0 3 A.a_FormatHistory A.d_FormatHistory ["history"] (spFHist A.k_History A.k_Version))
    (gParseHistory : FnOk PW w K mg base CX0 6 A.a_ParseHistory A.d_ParseHistory ["text"] (spParse A.k_History A.k_Version))
    (gHistoryInit : FnOk PW w K mg base CX0 4 A.a_HistoryInit A.d_HistoryInit ["self", "versions"] (spHist K A.k_History A.k_Version))
    (gHistoryLen : FnOk PW w K mg base CX0 1 A.a_HistoryLen A.d_HistoryLen ["self"] (spHLen A.k_History))
    (gHistoryVersion : FnOk PW w K mg base (L2.CX PW w) 4 A.a_HistoryVersion A.d_HistoryVersion ["self", "number"] (spHVer A.k_History A.k_InvalidNumber))
    (gHistoryEq : FnOk PW w K mg base CX0 3 A.a_HistoryEq A.d_HistoryEq ["self", "other"] (spHEq A.k_History A.k_Version))
    (gVersionLines : FnOk PW w K mg base CX0 1 A.a_VersionLines A.d_VersionLines ["self"] (spLines A.k_Version)) :
    FnOk PW w K mg base CX0 8 A.a_Law A.d_Law ["_law_script"] (spLaw K) := by
  refine T.f_Law.ok scLaw (fun vs H Q E h => ?_) (fun cdv A' outer s H vs Q E hr h => ?_)
  · obtain ⟨a, ns, rfl, _⟩ := h
    rfl
  · obtain ⟨a, ns, rfl, hS, hlen, k⟩ := h
    refine ⟨_, (pss_cons (ps_set (i := 1) scLaw.nd rfl (Or.inl rfl) (pe_call gLawPool (hr.mono (by decide)) (by rfl) T.m_LawPool T.f_LawPool.kp T.b_LawPool .nil pass0 (pa_cons (pv 0) pa_nil)))
      (pss_cons (ps_set (i := 2) scLaw.nd rfl (Or.inl rfl) (pe_lst pa_nil))
      (pss_cons (ps_for PassesOwn.never rfl (pi_range1 (by rfl) T.z_range (pa_cons pe_int pa_nil)) (pg_name (i := 3) scLaw.nd rfl (Or.inl rfl)) (pss_cons (ps_set (i := 4) scLaw.nd rfl (Or.inl rfl) (pe_call gLawRows (hr.mono (by decide)) (by rfl) T.m_LawRows T.f_LawRows.kp T.b_LawRows .nil pass0 (pa_cons (pv 1) pa_nil)))
      (pss_cons (ps_set (i := 5) scLaw.nd rfl (Or.inr rfl) (pe_call gLawMade (hr.mono (by decide)) (by rfl) T.m_LawMade T.f_LawMade.kp T.b_LawMade .nil pass0 (pa_cons (pv 4) pa_nil)))
      (pss_cons (ps_set (i := 6) scLaw.nd rfl (Or.inr rfl) (pe_call gFormatHistory (hr.mono (by decide)) (by rfl) T.m_FormatHistory T.f_FormatHistory.kp T.b_FormatHistory .nil pass0 (pa_cons (pv 5) pa_nil)))
      (pss_cons (ps_if (pt_not (pt_val (pe_callB call_isB (by rfl) T.z_isinstance (by decide +kernel) (pa_cons (pv 6) (pa_cons (pe_bltn (v := .ty "str") (by rfl) T.z_str (by decide +kernel) rfl) pa_nil))))) (pss_one (ps_ret pe_bl)) pss_nil)
      (pss_cons (ps_if (pt_cmpR (op_ne) (pv 6) (pe_call gLawText (hr.mono (by decide)) (by rfl) T.m_LawText T.f_LawText.kp T.b_LawText .nil pass0 (pa_cons (pv 4) pa_nil)) (nomark _)) (pss_one (ps_ret pe_bl)) pss_nil)
      (pss_cons (ps_if (pt_cmpR (op_ne) (pe_call gFormatHistory (hr.mono (by decide)) (by rfl) T.m_FormatHistory T.f_FormatHistory.kp T.b_FormatHistory .nil pass0 (pa_cons (pv 5) pa_nil)) (pv 6) (nomark _)) (pss_one (ps_ret pe_bl)) pss_nil)
      (pss_cons (ps_set (i := 7) scLaw.nd rfl (Or.inr rfl) (pe_call gParseHistory (hr.mono (by decide)) (by rfl) T.m_ParseHistory T.f_ParseHistory.kp T.b_ParseHistory .nil pass0 (pa_cons (pv 6) pa_nil)))
      (pss_cons (ps_if (pt_cmpR (op_ownNe T.w_HistoryEq gHistoryEq (hr.mono (by decide)) T.b_HistoryEq pass0) (pv 7) (pv 5) (nomark _)) (pss_one (ps_ret pe_bl)) pss_nil)
      (pss_cons (ps_if (pt_cmpR (op_neD hr.units) (pe_lc (own := [("_law_number", 8)]) (g := gName 8) (tt := tYes) (by rfl) scLaw.nd (pi_range1 (by rfl) T.z_range (pa_cons (pe_callB (call_lenO T.o_HistoryLen gHistoryLen (hr.mono (by decide)) T.b_HistoryLen pass0) (by rfl) T.z_len (by decide +kernel) (pa_cons (pv 7) pa_nil)) pa_nil)) (blkOk_by (own := [("_law_number", 8)]) (N := nLaw) (sc := defScope sLaw) (by decide +kernel)) (fun _ _ _ _ _ => pg_name (i := 8) scLaw.nd rfl (Or.inl rfl)) (fun _ _ _ _ _ => pts_nil) (fun _ _ _ _ _ => (pe_prop (pe_meth (pv 7) T.t_History.cl T.h_HistoryVersion gHistoryVersion (hr.mono (by decide)) T.b_HistoryVersion .nil passL (pa_cons (pv 8) pa_nil)) T.t_Version.cl T.h_VersionLines gVersionLines (hr.mono (by decide)) T.b_VersionLines .nil pass0 (by rfl)))) (pe_lc (own := [("_law_row", 9)]) (g := gName 9) (tt := tYes) (by rfl) scLaw.nd (pi_list (pv 4)) (blkOk_by (own := [("_law_row", 9)]) (N := nLaw) (sc := defScope sLaw) (by decide +kernel)) (fun _ _ _ _ _ => pg_name (i := 9) scLaw.nd rfl (Or.inl rfl)) (fun _ _ _ _ _ => pts_nil) (fun _ _ _ _ _ => (pe_callTy (call_tuple_ofK (K := K) rfl) (by rfl) T.z_tuple (by decide +kernel) (pa_cons (pe_ix ix_tupH (pv 9) pe_int (fun _ _ => rfl)) pa_nil)))) (nomark _)) (pss_one (ps_ret pe_bl)) pss_nil)
      (pss_cons (ps_if (pt_cmpR (op_neD hr.units) (pe_lc (own := [("_law_other", 10), ("_law_same", 11)]) (g := gTup K 2 (gCons (gName 10) (gCons (gName 11) gNil)))  (by rfl) scLaw.nd (pi_list (pv 2)) (blkOk_by (own := [("_law_other", 10), ("_law_same", 11)]) (N := nLaw) (sc := defScope sLaw) (by decide +kernel)) (fun _ _ _ _ _ => pg_tup rfl (pgs_cons (pg_name (i := 10) scLaw.nd rfl (Or.inl rfl)) (pgs_cons (pg_name (i := 11) scLaw.nd rfl (Or.inl rfl)) pgs_nil))) (fun _ _ _ _ _ => (pts_one (pt_cmpR (op_ne) (pe_cmpR (op_eq) (pv 10) (pv 6) (nomark _)) (pe_cmpR (op_ownC (fun _ _ => rfl) T.o_HistoryEq gHistoryEq (hr.mono (by decide)) T.b_HistoryEq pass0) (pv 11) (pv 5) (nomark _)) (nomark _)))) (fun _ _ _ _ _ => (pv 10))) (pe_lst pa_nil) (nomark _)) (pss_one (ps_ret pe_bl)) pss_nil)
      (pss_one (ps_expr (pe_bm PySem.F.plainAttrs_list PySem.F.slot_list_append PySem.F.type_list_append mt_append (pv 2) (pa_cons (pe_tup (pa_cons (pv 6) (pa_cons (pv 5) pa_nil))) pa_nil)))))))))))))))
      (pss_one (ps_ret (pe_and (pe_cmpR (op_eq) (pe_call gFormatHistory (hr.mono (by decide)) (by rfl) T.m_FormatHistory T.f_FormatHistory.kp T.b_FormatHistory .nil pass0 (pa_cons (pe_make0 T.mk_History gHistoryInit (hr.mono (by decide)) (by rfl) T.k_History T.e1_HistoryInit.choose_spec.2 T.e1_HistoryInit.choose_spec.1 pass0) pa_nil)) pe_str (nomark _)) (pe_one (pe_cmpR (op_ownC (fun _ _ => rfl) T.o_HistoryEq gHistoryEq (hr.mono (by decide)) T.b_HistoryEq pass0) (pe_call gParseHistory (hr.mono (by decide)) (by rfl) T.m_ParseHistory T.f_ParseHistory.kp T.b_ParseHistory .nil pass0 (pa_cons pe_str pa_nil)) (pe_make0 T.mk_History gHistoryInit (hr.mono (by decide)) (by rfl) T.k_History T.e1_HistoryInit.choose_spec.2 T.e1_HistoryInit.choose_spec.1 pass0) (nomark _))))))))), ?_⟩
    refine ⟨_, rfl, a, ns, rfl, hS, hlen, fun p l H1 hp np nl s1 => ?_⟩
    have w1 := wd0 hp
    refine seq_gen fun N eN => ?_
    try simp only [tSeq, tNext, tRet, tRetN, tAsg, gName, gSub, tDrop, tIfS, tOp, tUn, tCB, tCons, tNil, tC, tVar, rI, rI0, rU, tAnd, tOr, tNot, tAndV, tOrV, tNotV, tIf, tTest, tB, tCall, tChain, tLst, tTup, tYes, rIxH, rIsB, rIsBT, rMulS, kd_non, kd_bl, kd_int, kd_str, kd_ref, kdO_lst, kdO_tup, kdO_dK, nq_n, nq_b, nq_i, nq_s, nq_l, nq_t, nq_d, ne_eq, not_false_eq_true, kit_ss, kit_ns, kit_bs, kit_is, kit_ls, kit_ts, kit_ds, kit_bb, V.ty.injEq, and_assoc, rIxU, rLenH, rLenU, rLenS, rInt1, rSetL, rEq, rNe, rCat, L2.start, List.map, List.length, List.length_cons, List.length_nil, List.replicate, List.getElem?_cons_zero, List.getElem?_cons_succ, List.set_cons_zero, List.set_cons_succ, List.set_nil, List.cons_append, List.nil_append, List.append_nil, Option.some.injEq, V.int.injEq, V.ref.injEq, V.str.injEq, V.bl.injEq, HO.lst.injEq, HO.tup.injEq, exists_eq_left', exists_and_left, exists_eq_left, List.cons.injEq, and_true, true_and, and_false, false_and, and_self, reduceCtorEq, exists_false, or_false, false_or, exists_const, at0, at1, at2, at3, at4, at5, ix51, ix52, ix54, upd_same, Nat.reduceAdd, Nat.reduceSub, Nat.zero_add, Int.reduceToNat, Int.reduceLE, Int.reduceLT, decide_eq_true_eq, Bool.not_eq_true, if_true, if_false, Bool.false_eq_true, ite_true, ite_false, Bool.not_true, Bool.not_false, decide_true, decide_false, tFor_eq, tLc_eq, iList, iTup, iRng1, iRng2, iStr, tSl, tPart, tNoPart, rSlL, cxOf_K, wipe, ex_ty2, kit_LTl, kit_LTt, kit_LTd, kit_LTs, kit_LTn, kit_LTb, kit_LTi, tM1, rIxS, exists_eq', lt1p, tDNewK, rSlS, rEqNil, nox_K]
    rw [eN]
    clear eN N
    refine seq_gen fun N eN => ?_
    try simp only [tSeq, tNext, tRet, tRetN, tAsg, gName, gSub, tDrop, tIfS, tOp, tUn, tCB, tCons, tNil, tC, tVar, rI, rI0, rU, tAnd, tOr, tNot, tAndV, tOrV, tNotV, tIf, tTest, tB, tCall, tChain, tLst, tTup, tYes, rIxH, rIsB, rIsBT, rMulS, kd_non, kd_bl, kd_int, kd_str, kd_ref, kdO_lst, kdO_tup, kdO_dK, nq_n, nq_b, nq_i, nq_s, nq_l, nq_t, nq_d, ne_eq, not_false_eq_true, kit_ss, kit_ns, kit_bs, kit_is, kit_ls, kit_ts, kit_ds, kit_bb, V.ty.injEq, and_assoc, rIxU, rLenH, rLenU, rLenS, rInt1, rSetL, rEq, rNe, rCat, L2.start, List.map, List.length, List.length_cons, List.length_nil, List.replicate, List.getElem?_cons_zero, List.getElem?_cons_succ, List.set_cons_zero, List.set_cons_succ, List.set_nil, List.cons_append, List.nil_append, List.append_nil, Option.some.injEq, V.int.injEq, V.ref.injEq, V.str.injEq, V.bl.injEq, HO.lst.injEq, HO.tup.injEq, exists_eq_left', exists_and_left, exists_eq_left, List.cons.injEq, and_true, true_and, and_false, false_and, and_self, reduceCtorEq, exists_false, or_false, false_or, exists_const, at0, at1, at2, at3, at4, at5, ix51, ix52, ix54, upd_same, Nat.reduceAdd, Nat.reduceSub, Nat.zero_add, Int.reduceToNat, Int.reduceLE, Int.reduceLT, decide_eq_true_eq, Bool.not_eq_true, if_true, if_false, Bool.false_eq_true, ite_true, ite_false, Bool.not_true, Bool.not_false, decide_true, decide_false, tFor_eq, tLc_eq, iList, iTup, iRng1, iRng2, iStr, tSl, tPart, tNoPart, rSlL, cxOf_K, wipe, ex_ty2, kit_LTl, kit_LTt, kit_LTd, kit_LTs, kit_LTn, kit_LTb, kit_LTi, tM1, rIxS, exists_eq', lt1p, tDNewK, rSlS, rEqNil, nox_K]
    refine ⟨by decide, ?_⟩
    intro kA n_kA; generalize g_H2 : upd H1 kA _ = H2; obtain ⟨s_H2, h_kA⟩ := new_facts n_kA g_H2; clear g_H2
    have w2 := w1.same s_H2
    have npk := w1.pool.np n_kA
    rw [eN]
    clear eN N
    refine seq_gen fun N eN => ?_
    try simp only [tSeq, tNext, tRet, tRetN, tAsg, gName, gSub, tDrop, tIfS, tOp, tUn, tCB, tCons, tNil, tC, tVar, rI, rI0, rU, tAnd, tOr, tNot, tAndV, tOrV, tNotV, tIf, tTest, tB, tCall, tChain, tLst, tTup, tYes, rIxH, rIsB, rIsBT, rMulS, kd_non, kd_bl, kd_int, kd_str, kd_ref, kdO_lst, kdO_tup, kdO_dK, nq_n, nq_b, nq_i, nq_s, nq_l, nq_t, nq_d, ne_eq, not_false_eq_true, kit_ss, kit_ns, kit_bs, kit_is, kit_ls, kit_ts, kit_ds, kit_bb, V.ty.injEq, and_assoc, rIxU, rLenH, rLenU, rLenS, rInt1, rSetL, rEq, rNe, rCat, L2.start, List.map, List.length, List.length_cons, List.length_nil, List.replicate, List.getElem?_cons_zero, List.getElem?_cons_succ, List.set_cons_zero, List.set_cons_succ, List.set_nil, List.cons_append, List.nil_append, List.append_nil, Option.some.injEq, V.int.injEq, V.ref.injEq, V.str.injEq, V.bl.injEq, HO.lst.injEq, HO.tup.injEq, exists_eq_left', exists_and_left, exists_eq_left, List.cons.injEq, and_true, true_and, and_false, false_and, and_self, reduceCtorEq, exists_false, or_false, false_or, exists_const, at0, at1, at2, at3, at4, at5, ix51, ix52, ix54, upd_same, Nat.reduceAdd, Nat.reduceSub, Nat.zero_add, Int.reduceToNat, Int.reduceLE, Int.reduceLT, decide_eq_true_eq, Bool.not_eq_true, if_true, if_false, Bool.false_eq_true, ite_true, ite_false, Bool.not_true, Bool.not_false, decide_true, decide_false, tFor_eq, tLc_eq, iList, iTup, iRng1, iRng2, iStr, tSl, tPart, tNoPart, rSlL, cxOf_K, wipe, ex_ty2, kit_LTl, kit_LTt, kit_LTd, kit_LTs, kit_LTn, kit_LTb, kit_LTi, tM1, rIxS, exists_eq', lt1p, tDNewK, rSlS, rEqNil, nox_K]
    refine ⟨by decide, by decide, ?_⟩
    refine for_go (walk_rangeY (lo := 0) (n := 4)) (LO13 A.k_History A.k_Version a p l kA) ⟨_, _, _, _, _, _, _, _, _, 0, _, [], rfl, w2, by omega, rfl, h_kA, rfl, ⟨fun t ht => by cases ht⟩⟩ (fun _ _ _ _ _ => trivial) (fun i x σ H7 hx q => ?_) (fun σ H7 q => ?_)
    · obtain ⟨v3, v4, v5, v6, v7, v8, v9, v10, v11, c, G, ks, rfl, w7, hc, gk, hk7, kl, kn⟩ := q
      obtain ⟨rfl, hi⟩ := rng_item hx
      refine seq_gen fun N2 eN2 => ?_
      try simp only [tSeq, tNext, tRet, tRetN, tAsg, gName, gSub, tDrop, tIfS, tOp, tUn, tCB, tCons, tNil, tC, tVar, rI, rI0, rU, tAnd, tOr, tNot, tAndV, tOrV, tNotV, tIf, tTest, tB, tCall, tChain, tLst, tTup, tYes, rIxH, rIsB, rIsBT, rMulS, kd_non, kd_bl, kd_int, kd_str, kd_ref, kdO_lst, kdO_tup, kdO_dK, nq_n, nq_b, nq_i, nq_s, nq_l, nq_t, nq_d, ne_eq, not_false_eq_true, kit_ss, kit_ns, kit_bs, kit_is, kit_ls, kit_ts, kit_ds, kit_bb, V.ty.injEq, and_assoc, rIxU, rLenH, rLenU, rLenS, rInt1, rSetL, rEq, rNe, rCat, L2.start, List.map, List.length, List.length_cons, List.length_nil, List.replicate, List.getElem?_cons_zero, List.getElem?_cons_succ, List.set_cons_zero, List.set_cons_succ, List.set_nil, List.cons_append, List.nil_append, List.append_nil, Option.some.injEq, V.int.injEq, V.ref.injEq, V.str.injEq, V.bl.injEq, HO.lst.injEq, HO.tup.injEq, exists_eq_left', exists_and_left, exists_eq_left, List.cons.injEq, and_true, true_and, and_false, false_and, and_self, reduceCtorEq, exists_false, or_false, false_or, exists_const, at0, at1, at2, at3, at4, at5, ix51, ix52, ix54, upd_same, Nat.reduceAdd, Nat.reduceSub, Nat.zero_add, Int.reduceToNat, Int.reduceLE, Int.reduceLT, decide_eq_true_eq, Bool.not_eq_true, if_true, if_false, Bool.false_eq_true, ite_true, ite_false, Bool.not_true, Bool.not_false, decide_true, decide_false, tFor_eq, tLc_eq, iList, iTup, iRng1, iRng2, iStr, tSl, tPart, tNoPart, rSlL, cxOf_K, wipe, ex_ty2, kit_LTl, kit_LTt, kit_LTd, kit_LTs, kit_LTn, kit_LTb, kit_LTi, tM1, rIxS, exists_eq', lt1p, tDNewK, rSlS, rEqNil, nox_K]
      have w7' := w7.tell hk7 gk npk.1 npk.2
      have gp7 : Same G (upd G kA (.lst (ks.map V.ref))) := same_new gk
      refine ⟨p, l, c, _, rfl, w7', by omega, fun H8 G8 r ra rs w8 g8 hr8 rw8 ok => ?_⟩
      have hk8 := w8.kn _ _ (g8 kA _ upd_same)
      have gG8 : Same G H8 := (gp7.trans g8).trans w8.kn
      have hr8' := w8.kn _ _ hr8
      have rw8' := rw8.same w8.kn
      first | rw [eN2] | (dsimp only; rw [eN2])
      clear eN2 N2
      refine seq_gen fun N2 eN2 => ?_
      try simp only [tSeq, tNext, tRet, tRetN, tAsg, gName, gSub, tDrop, tIfS, tOp, tUn, tCB, tCons, tNil, tC, tVar, rI, rI0, rU, tAnd, tOr, tNot, tAndV, tOrV, tNotV, tIf, tTest, tB, tCall, tChain, tLst, tTup, tYes, rIxH, rIsB, rIsBT, rMulS, kd_non, kd_bl, kd_int, kd_str, kd_ref, kdO_lst, kdO_tup, kdO_dK, nq_n, nq_b, nq_i, nq_s, nq_l, nq_t, nq_d, ne_eq, not_false_eq_true, kit_ss, kit_ns, kit_bs, kit_is, kit_ls, kit_ts, kit_ds, kit_bb, V.ty.injEq, and_assoc, rIxU, rLenH, rLenU, rLenS, rInt1, rSetL, rEq, rNe, rCat, L2.start, List.map, List.length, List.length_cons, List.length_nil, List.replicate, List.getElem?_cons_zero, List.getElem?_cons_succ, List.set_cons_zero, List.set_cons_succ, List.set_nil, List.cons_append, List.nil_append, List.append_nil, Option.some.injEq, V.int.injEq, V.ref.injEq, V.str.injEq, V.bl.injEq, HO.lst.injEq, HO.tup.injEq, exists_eq_left', exists_and_left, exists_eq_left, List.cons.injEq, and_true, true_and, and_false, false_and, and_self, reduceCtorEq, exists_false, or_false, false_or, exists_const, at0, at1, at2, at3, at4, at5, ix51, ix52, ix54, upd_same, Nat.reduceAdd, Nat.reduceSub, Nat.zero_add, Int.reduceToNat, Int.reduceLE, Int.reduceLT, decide_eq_true_eq, Bool.not_eq_true, if_true, if_false, Bool.false_eq_true, ite_true, ite_false, Bool.not_true, Bool.not_false, decide_true, decide_false, tFor_eq, tLc_eq, iList, iTup, iRng1, iRng2, iStr, tSl, tPart, tNoPart, rSlL, cxOf_K, wipe, ex_ty2, kit_LTl, kit_LTt, kit_LTd, kit_LTs, kit_LTn, kit_LTb, kit_LTi, tM1, rIxS, exists_eq', lt1p, tDNewK, rSlS, rEqNil, nox_K]
      refine ⟨r, ra, rs, rfl, hr8', rw8', ok, fun H9 h dx kk vas s9 nh nkk hh1 hh2 vv9 => ?_⟩
      have hh9 : HistAt A.k_History A.k_Version H9 h vas rs := ⟨⟨dx, kk, hh1, hh2⟩, vv9, by rw [vv9.len]; exact ok.l10, ok.gr⟩
      first | rw [eN2] | (dsimp only; rw [eN2])
      clear eN2 N2
      refine seq_gen fun N2 eN2 => ?_
      try simp only [tSeq, tNext, tRet, tRetN, tAsg, gName, gSub, tDrop, tIfS, tOp, tUn, tCB, tCons, tNil, tC, tVar, rI, rI0, rU, tAnd, tOr, tNot, tAndV, tOrV, tNotV, tIf, tTest, tB, tCall, tChain, tLst, tTup, tYes, rIxH, rIsB, rIsBT, rMulS, kd_non, kd_bl, kd_int, kd_str, kd_ref, kdO_lst, kdO_tup, kdO_dK, nq_n, nq_b, nq_i, nq_s, nq_l, nq_t, nq_d, ne_eq, not_false_eq_true, kit_ss, kit_ns, kit_bs, kit_is, kit_ls, kit_ts, kit_ds, kit_bb, V.ty.injEq, and_assoc, rIxU, rLenH, rLenU, rLenS, rInt1, rSetL, rEq, rNe, rCat, L2.start, List.map, List.length, List.length_cons, List.length_nil, List.replicate, List.getElem?_cons_zero, List.getElem?_cons_succ, List.set_cons_zero, List.set_cons_succ, List.set_nil, List.cons_append, List.nil_append, List.append_nil, Option.some.injEq, V.int.injEq, V.ref.injEq, V.str.injEq, V.bl.injEq, HO.lst.injEq, HO.tup.injEq, exists_eq_left', exists_and_left, exists_eq_left, List.cons.injEq, and_true, true_and, and_false, false_and, and_self, reduceCtorEq, exists_false, or_false, false_or, exists_const, at0, at1, at2, at3, at4, at5, ix51, ix52, ix54, upd_same, Nat.reduceAdd, Nat.reduceSub, Nat.zero_add, Int.reduceToNat, Int.reduceLE, Int.reduceLT, decide_eq_true_eq, Bool.not_eq_true, if_true, if_false, Bool.false_eq_true, ite_true, ite_false, Bool.not_true, Bool.not_false, decide_true, decide_false, tFor_eq, tLc_eq, iList, iTup, iRng1, iRng2, iStr, tSl, tPart, tNoPart, rSlL, cxOf_K, wipe, ex_ty2, kit_LTl, kit_LTt, kit_LTd, kit_LTs, kit_LTn, kit_LTb, kit_LTi, tM1, rIxS, exists_eq', lt1p, tDNewK, rSlS, rEqNil, nox_K]
      refine ⟨h, vas, rs, rfl, hh9, ok.tr, fun H10 s10 => ?_⟩
      first | rw [eN2] | (dsimp only; rw [eN2])
      clear eN2 N2
      refine seq_gen fun N2 eN2 => ?_
      try simp only [tSeq, tNext, tRet, tRetN, tAsg, gName, gSub, tDrop, tIfS, tOp, tUn, tCB, tCons, tNil, tC, tVar, rI, rI0, rU, tAnd, tOr, tNot, tAndV, tOrV, tNotV, tIf, tTest, tB, tCall, tChain, tLst, tTup, tYes, rIxH, rIsB, rIsBT, rMulS, kd_non, kd_bl, kd_int, kd_str, kd_ref, kdO_lst, kdO_tup, kdO_dK, nq_n, nq_b, nq_i, nq_s, nq_l, nq_t, nq_d, ne_eq, not_false_eq_true, kit_ss, kit_ns, kit_bs, kit_is, kit_ls, kit_ts, kit_ds, kit_bb, V.ty.injEq, and_assoc, rIxU, rLenH, rLenU, rLenS, rInt1, rSetL, rEq, rNe, rCat, L2.start, List.map, List.length, List.length_cons, List.length_nil, List.replicate, List.getElem?_cons_zero, List.getElem?_cons_succ, List.set_cons_zero, List.set_cons_succ, List.set_nil, List.cons_append, List.nil_append, List.append_nil, Option.some.injEq, V.int.injEq, V.ref.injEq, V.str.injEq, V.bl.injEq, HO.lst.injEq, HO.tup.injEq, exists_eq_left', exists_and_left, exists_eq_left, List.cons.injEq, and_true, true_and, and_false, false_and, and_self, reduceCtorEq, exists_false, or_false, false_or, exists_const, at0, at1, at2, at3, at4, at5, ix51, ix52, ix54, upd_same, Nat.reduceAdd, Nat.reduceSub, Nat.zero_add, Int.reduceToNat, Int.reduceLE, Int.reduceLT, decide_eq_true_eq, Bool.not_eq_true, if_true, if_false, Bool.false_eq_true, ite_true, ite_false, Bool.not_true, Bool.not_false, decide_true, decide_false, tFor_eq, tLc_eq, iList, iTup, iRng1, iRng2, iStr, tSl, tPart, tNoPart, rSlL, cxOf_K, wipe, ex_ty2, kit_LTl, kit_LTt, kit_LTd, kit_LTs, kit_LTn, kit_LTb, kit_LTi, tM1, rIxS, exists_eq', lt1p, tDNewK, rSlS, rEqNil, nox_K]
      first | rw [eN2] | (dsimp only; rw [eN2])
      clear eN2 N2
      refine seq_gen fun N2 eN2 => ?_
      have s810 := s9.trans s10
      have hr10 := s810 _ _ hr8'
      have rw10 := rw8'.same s810
      have hh10 := hh9.same s10
      try simp only [tSeq, tNext, tRet, tRetN, tAsg, gName, gSub, tDrop, tIfS, tOp, tUn, tCB, tCons, tNil, tC, tVar, rI, rI0, rU, tAnd, tOr, tNot, tAndV, tOrV, tNotV, tIf, tTest, tB, tCall, tChain, tLst, tTup, tYes, rIxH, rIsB, rIsBT, rMulS, kd_non, kd_bl, kd_int, kd_str, kd_ref, kdO_lst, kdO_tup, kdO_dK, nq_n, nq_b, nq_i, nq_s, nq_l, nq_t, nq_d, ne_eq, not_false_eq_true, kit_ss, kit_ns, kit_bs, kit_is, kit_ls, kit_ts, kit_ds, kit_bb, V.ty.injEq, and_assoc, rIxU, rLenH, rLenU, rLenS, rInt1, rSetL, rEq, rNe, rCat, L2.start, List.map, List.length, List.length_cons, List.length_nil, List.replicate, List.getElem?_cons_zero, List.getElem?_cons_succ, List.set_cons_zero, List.set_cons_succ, List.set_nil, List.cons_append, List.nil_append, List.append_nil, Option.some.injEq, V.int.injEq, V.ref.injEq, V.str.injEq, V.bl.injEq, HO.lst.injEq, HO.tup.injEq, exists_eq_left', exists_and_left, exists_eq_left, List.cons.injEq, and_true, true_and, and_false, false_and, and_self, reduceCtorEq, exists_false, or_false, false_or, exists_const, at0, at1, at2, at3, at4, at5, ix51, ix52, ix54, upd_same, Nat.reduceAdd, Nat.reduceSub, Nat.zero_add, Int.reduceToNat, Int.reduceLE, Int.reduceLT, decide_eq_true_eq, Bool.not_eq_true, if_true, if_false, Bool.false_eq_true, ite_true, ite_false, Bool.not_true, Bool.not_false, decide_true, decide_false, tFor_eq, tLc_eq, iList, iTup, iRng1, iRng2, iStr, tSl, tPart, tNoPart, rSlL, cxOf_K, wipe, ex_ty2, kit_LTl, kit_LTt, kit_LTd, kit_LTs, kit_LTn, kit_LTb, kit_LTi, tM1, rIxS, exists_eq', lt1p, tDNewK, rSlS, rEqNil, nox_K]
      refine ⟨r, ra, rs, rfl, hr10, rw10, ok, fun H11 s11 => ?_⟩
      refine ⟨scal_str, ?_⟩
      rw [if_neg (by simp)]
      first | rw [eN2] | (dsimp only; rw [eN2])
      clear eN2 N2
      refine seq_gen fun N2 eN2 => ?_
      have hh11 := hh10.same s11
      try simp only [tSeq, tNext, tRet, tRetN, tAsg, gName, gSub, tDrop, tIfS, tOp, tUn, tCB, tCons, tNil, tC, tVar, rI, rI0, rU, tAnd, tOr, tNot, tAndV, tOrV, tNotV, tIf, tTest, tB, tCall, tChain, tLst, tTup, tYes, rIxH, rIsB, rIsBT, rMulS, kd_non, kd_bl, kd_int, kd_str, kd_ref, kdO_lst, kdO_tup, kdO_dK, nq_n, nq_b, nq_i, nq_s, nq_l, nq_t, nq_d, ne_eq, not_false_eq_true, kit_ss, kit_ns, kit_bs, kit_is, kit_ls, kit_ts, kit_ds, kit_bb, V.ty.injEq, and_assoc, rIxU, rLenH, rLenU, rLenS, rInt1, rSetL, rEq, rNe, rCat, L2.start, List.map, List.length, List.length_cons, List.length_nil, List.replicate, List.getElem?_cons_zero, List.getElem?_cons_succ, List.set_cons_zero, List.set_cons_succ, List.set_nil, List.cons_append, List.nil_append, List.append_nil, Option.some.injEq, V.int.injEq, V.ref.injEq, V.str.injEq, V.bl.injEq, HO.lst.injEq, HO.tup.injEq, exists_eq_left', exists_and_left, exists_eq_left, List.cons.injEq, and_true, true_and, and_false, false_and, and_self, reduceCtorEq, exists_false, or_false, false_or, exists_const, at0, at1, at2, at3, at4, at5, ix51, ix52, ix54, upd_same, Nat.reduceAdd, Nat.reduceSub, Nat.zero_add, Int.reduceToNat, Int.reduceLE, Int.reduceLT, decide_eq_true_eq, Bool.not_eq_true, if_true, if_false, Bool.false_eq_true, ite_true, ite_false, Bool.not_true, Bool.not_false, decide_true, decide_false, tFor_eq, tLc_eq, iList, iTup, iRng1, iRng2, iStr, tSl, tPart, tNoPart, rSlL, cxOf_K, wipe, ex_ty2, kit_LTl, kit_LTt, kit_LTd, kit_LTs, kit_LTn, kit_LTb, kit_LTi, tM1, rIxS, exists_eq', lt1p, tDNewK, rSlS, rEqNil, nox_K]
      refine ⟨h, vas, rs, rfl, hh11, ok.tr, fun H12 s12 => ?_⟩
      refine ⟨scal_str, ?_⟩
      rw [if_neg (by simp)]
      first | rw [eN2] | (dsimp only; rw [eN2])
      clear eN2 N2
      refine seq_gen fun N2 eN2 => ?_
      have hh12 := hh11.same s12
      try simp only [tSeq, tNext, tRet, tRetN, tAsg, gName, gSub, tDrop, tIfS, tOp, tUn, tCB, tCons, tNil, tC, tVar, rI, rI0, rU, tAnd, tOr, tNot, tAndV, tOrV, tNotV, tIf, tTest, tB, tCall, tChain, tLst, tTup, tYes, rIxH, rIsB, rIsBT, rMulS, kd_non, kd_bl, kd_int, kd_str, kd_ref, kdO_lst, kdO_tup, kdO_dK, nq_n, nq_b, nq_i, nq_s, nq_l, nq_t, nq_d, ne_eq, not_false_eq_true, kit_ss, kit_ns, kit_bs, kit_is, kit_ls, kit_ts, kit_ds, kit_bb, V.ty.injEq, and_assoc, rIxU, rLenH, rLenU, rLenS, rInt1, rSetL, rEq, rNe, rCat, L2.start, List.map, List.length, List.length_cons, List.length_nil, List.replicate, List.getElem?_cons_zero, List.getElem?_cons_succ, List.set_cons_zero, List.set_cons_succ, List.set_nil, List.cons_append, List.nil_append, List.append_nil, Option.some.injEq, V.int.injEq, V.ref.injEq, V.str.injEq, V.bl.injEq, HO.lst.injEq, HO.tup.injEq, exists_eq_left', exists_and_left, exists_eq_left, List.cons.injEq, and_true, true_and, and_false, false_and, and_self, reduceCtorEq, exists_false, or_false, false_or, exists_const, at0, at1, at2, at3, at4, at5, ix51, ix52, ix54, upd_same, Nat.reduceAdd, Nat.reduceSub, Nat.zero_add, Int.reduceToNat, Int.reduceLE, Int.reduceLT, decide_eq_true_eq, Bool.not_eq_true, if_true, if_false, Bool.false_eq_true, ite_true, ite_false, Bool.not_true, Bool.not_false, decide_true, decide_false, tFor_eq, tLc_eq, iList, iTup, iRng1, iRng2, iStr, tSl, tPart, tNoPart, rSlL, cxOf_K, wipe, ex_ty2, kit_LTl, kit_LTt, kit_LTd, kit_LTs, kit_LTn, kit_LTb, kit_LTi, tM1, rIxS, exists_eq', lt1p, tDNewK, rSlS, rEqNil, nox_K]
      refine ⟨rs, rfl, ok.l10, ok.tr, ok.gr, fun H13 x vas2 s13 nx hx13 => ?_⟩
      first | rw [eN2] | (dsimp only; rw [eN2])
      clear eN2 N2
      refine seq_gen fun N2 eN2 => ?_
      have hh13 := hh12.same s13
      try simp only [tSeq, tNext, tRet, tRetN, tAsg, gName, gSub, tDrop, tIfS, tOp, tUn, tCB, tCons, tNil, tC, tVar, rI, rI0, rU, tAnd, tOr, tNot, tAndV, tOrV, tNotV, tIf, tTest, tB, tCall, tChain, tLst, tTup, tYes, rIxH, rIsB, rIsBT, rMulS, kd_non, kd_bl, kd_int, kd_str, kd_ref, kdO_lst, kdO_tup, kdO_dK, nq_n, nq_b, nq_i, nq_s, nq_l, nq_t, nq_d, ne_eq, not_false_eq_true, kit_ss, kit_ns, kit_bs, kit_is, kit_ls, kit_ts, kit_ds, kit_bb, V.ty.injEq, and_assoc, rIxU, rLenH, rLenU, rLenS, rInt1, rSetL, rEq, rNe, rCat, L2.start, List.map, List.length, List.length_cons, List.length_nil, List.replicate, List.getElem?_cons_zero, List.getElem?_cons_succ, List.set_cons_zero, List.set_cons_succ, List.set_nil, List.cons_append, List.nil_append, List.append_nil, Option.some.injEq, V.int.injEq, V.ref.injEq, V.str.injEq, V.bl.injEq, HO.lst.injEq, HO.tup.injEq, exists_eq_left', exists_and_left, exists_eq_left, List.cons.injEq, and_true, true_and, and_false, false_and, and_self, reduceCtorEq, exists_false, or_false, false_or, exists_const, at0, at1, at2, at3, at4, at5, ix51, ix52, ix54, upd_same, Nat.reduceAdd, Nat.reduceSub, Nat.zero_add, Int.reduceToNat, Int.reduceLE, Int.reduceLT, decide_eq_true_eq, Bool.not_eq_true, if_true, if_false, Bool.false_eq_true, ite_true, ite_false, Bool.not_true, Bool.not_false, decide_true, decide_false, tFor_eq, tLc_eq, iList, iTup, iRng1, iRng2, iStr, tSl, tPart, tNoPart, rSlL, cxOf_K, wipe, ex_ty2, kit_LTl, kit_LTt, kit_LTd, kit_LTs, kit_LTn, kit_LTb, kit_LTi, tM1, rIxS, exists_eq', lt1p, tDNewK, rSlS, rEqNil, nox_K]
      obtain ⟨⟨dxa, kka, ha1, ha2⟩, _, _, _⟩ := id hx13
      obtain ⟨⟨dxb, kkb, hb1, hb2⟩, _, _, _⟩ := id hh13
      refine ⟨x, dxa, _, h, dxb, _, rfl, rfl, ha1, hb1, ?_⟩
      refine ⟨x, vas2, rs, _, rfl, hx13, .inl ⟨h, vas, rs, rfl, hh13, fun H14 s14 => ?_⟩⟩
      rw [decide_eq_true rfl]
      refine ⟨_, rfl, _, rfl, ?_⟩
      rw [if_neg (by decide)]
      first | rw [eN2] | (dsimp only; rw [eN2])
      clear eN2 N2
      refine seq_gen fun N2 eN2 => ?_
      try simp only [tSeq, tNext, tRet, tRetN, tAsg, gName, gSub, tDrop, tIfS, tOp, tUn, tCB, tCons, tNil, tC, tVar, rI, rI0, rU, tAnd, tOr, tNot, tAndV, tOrV, tNotV, tIf, tTest, tB, tCall, tChain, tLst, tTup, tYes, rIxH, rIsB, rIsBT, rMulS, kd_non, kd_bl, kd_int, kd_str, kd_ref, kdO_lst, kdO_tup, kdO_dK, nq_n, nq_b, nq_i, nq_s, nq_l, nq_t, nq_d, ne_eq, not_false_eq_true, kit_ss, kit_ns, kit_bs, kit_is, kit_ls, kit_ts, kit_ds, kit_bb, V.ty.injEq, and_assoc, rIxU, rLenH, rLenU, rLenS, rInt1, rSetL, rEq, rNe, rCat, L2.start, List.map, List.length, List.length_cons, List.length_nil, List.replicate, List.getElem?_cons_zero, List.getElem?_cons_succ, List.set_cons_zero, List.set_cons_succ, List.set_nil, List.cons_append, List.nil_append, List.append_nil, Option.some.injEq, V.int.injEq, V.ref.injEq, V.str.injEq, V.bl.injEq, HO.lst.injEq, HO.tup.injEq, exists_eq_left', exists_and_left, exists_eq_left, List.cons.injEq, and_true, true_and, and_false, false_and, and_self, reduceCtorEq, exists_false, or_false, false_or, exists_const, at0, at1, at2, at3, at4, at5, ix51, ix52, ix54, upd_same, Nat.reduceAdd, Nat.reduceSub, Nat.zero_add, Int.reduceToNat, Int.reduceLE, Int.reduceLT, decide_eq_true_eq, Bool.not_eq_true, if_true, if_false, Bool.false_eq_true, ite_true, ite_false, Bool.not_true, Bool.not_false, decide_true, decide_false, tFor_eq, tLc_eq, iList, iTup, iRng1, iRng2, iStr, tSl, tPart, tNoPart, rSlL, cxOf_K, wipe, ex_ty2, kit_LTl, kit_LTt, kit_LTd, kit_LTs, kit_LTn, kit_LTb, kit_LTi, tM1, rIxS, exists_eq', lt1p, tDNewK, rSlS, rEqNil, nox_K]
      have hx14 := hx13.same s14
      obtain ⟨⟨dxc, kkc, hc1, hc2⟩, vvc, lc10, _⟩ := id hx14
      have ll2 := vvc.len
      have l62 := int62 (m := ((List.map V.ref vas2).length : Int)) (by omega) (by rw [List.length_map]; omega)
      refine ⟨x, dxc, _, rfl, hc1, x, dxc, kkc, _, rfl, hc1, hc2, _, rfl, by rw [List.length_map]; omega, _, rfl, l62.1, l62.2, fun D1 nD1 => ?_⟩
      rw [Int.toNat_natCast, List.length_map]
      refine lc_rel (walk_rangeY (lo := 0) (n := vas2.length)) (fun j y H' => ∃ t r, y = .ref t ∧ rs[j]? = some r ∧ H' t = some (.tup (r.ls.map V.str))) (fun j y H1 H2 s ⟨t, r, e1, e2, h⟩ => ⟨t, r, e1, e2, s _ _ h⟩) (fun j y H1 zs us ⟨t, r, e1, e2, h⟩ e => ⟨t, r, e1, e2, by rw [upd_ne (fun z => by rw [z, e] at h; cases h)]; exact h⟩) nD1 (fun _ _ => trivial) (by rw [rngV_len]; omega) (fun j xv hxv H15 s15 P R0 pk => ?_) (fun ys H15 s15 yl hys hD1 => ?_)
      · obtain ⟨rfl, hj⟩ := rng_item hxv
        rw [Int.zero_add]
        have hj' : j < rs.length := by omega
        have hx15 := hx14.same s15
        have hc15 := s15 _ _ hc1
        have hk15 := s15 _ _ hc2
        obtain ⟨⟨dv, ll, pp, e1, e2, e3⟩, _⟩ := (vvc.same s15).ea j vas2[j] rs[j] (List.getElem?_eq_getElem hj) (List.getElem?_eq_getElem hj')
        try simp only [tSeq, tNext, tRet, tRetN, tAsg, gName, gSub, tDrop, tIfS, tOp, tUn, tCB, tCons, tNil, tC, tVar, rI, rI0, rU, tAnd, tOr, tNot, tAndV, tOrV, tNotV, tIf, tTest, tB, tCall, tChain, tLst, tTup, tYes, rIxH, rIsB, rIsBT, rMulS, kd_non, kd_bl, kd_int, kd_str, kd_ref, kdO_lst, kdO_tup, kdO_dK, nq_n, nq_b, nq_i, nq_s, nq_l, nq_t, nq_d, ne_eq, not_false_eq_true, kit_ss, kit_ns, kit_bs, kit_is, kit_ls, kit_ts, kit_ds, kit_bb, V.ty.injEq, and_assoc, rIxU, rLenH, rLenU, rLenS, rInt1, rSetL, rEq, rNe, rCat, L2.start, List.map, List.length, List.length_cons, List.length_nil, List.replicate, List.getElem?_cons_zero, List.getElem?_cons_succ, List.set_cons_zero, List.set_cons_succ, List.set_nil, List.cons_append, List.nil_append, List.append_nil, Option.some.injEq, V.int.injEq, V.ref.injEq, V.str.injEq, V.bl.injEq, HO.lst.injEq, HO.tup.injEq, exists_eq_left', exists_and_left, exists_eq_left, List.cons.injEq, and_true, true_and, and_false, false_and, and_self, reduceCtorEq, exists_false, or_false, false_or, exists_const, at0, at1, at2, at3, at4, at5, ix51, ix52, ix54, upd_same, Nat.reduceAdd, Nat.reduceSub, Nat.zero_add, Int.reduceToNat, Int.reduceLE, Int.reduceLT, decide_eq_true_eq, Bool.not_eq_true, if_true, if_false, Bool.false_eq_true, ite_true, ite_false, Bool.not_true, Bool.not_false, decide_true, decide_false, tFor_eq, tLc_eq, iList, iTup, iRng1, iRng2, iStr, tSl, tPart, tNoPart, rSlL, cxOf_K, wipe, ex_ty2, kit_LTl, kit_LTt, kit_LTd, kit_LTs, kit_LTn, kit_LTb, kit_LTi, tM1, rIxS, exists_eq', lt1p, tDNewK, rSlS, rEqNil, nox_K, tMeth, tProp, hc15, HO.ins.injEq]
        exact ⟨hf_no (by decide +kernel), x, dxc, kkc, _, _, rfl, hc15, hk15, .int _, .inl ⟨j, .ref vas2[j], rfl, by rw [List.getElem?_map, List.getElem?_eq_getElem hj]; rfl, _, rfl, dv, _, e1, vas2[j], dv, ll, pp, _, rfl, e1, pk _ _ (Same.refl _) ⟨ll, rs[j], rfl, List.getElem?_eq_getElem hj', e2⟩⟩⟩
      rw [rngV_len] at yl
      have s1015 := (((s11.trans s12).trans s13).trans s14).trans s15
      have hr15 := s1015 _ _ hr10
      have rw15 := rw10.same s1015
      refine ⟨⟨_, SqL.of hr15⟩, fun D2 nD2 => ?_⟩
      refine lc_rel (walk_list (K := K) (xs := ra.map V.ref)) (fun j y H' => ∃ t r, y = .ref t ∧ rs[j]? = some r ∧ H' t = some (.tup (r.ls.map V.str))) (fun j y H1 H2 s ⟨t, r, e1, e2, h⟩ => ⟨t, r, e1, e2, s _ _ h⟩) (fun j y H1 zs us ⟨t, r, e1, e2, h⟩ e => ⟨t, r, e1, e2, by rw [upd_ne (fun z => by rw [z, e] at h; cases h)]; exact h⟩) nD2 (fun H16 s16 => SqL.of (s16 _ _ hr15)) (by rw [List.length_map, rw15.len]; have := ok.l10; omega) (fun j xv hxv H16 s16 P R0 pk => ?_) (fun ys2 H16 s16 yl2 hys2 hD2 => ?_)
      · have hj : j < rs.length := by
          have := (List.getElem?_eq_some_iff.mp hxv).1
          rw [List.length_map, rw15.len] at this
          exact this
        obtain ⟨da, de, dl, d1, d2, d3, d4⟩ := (rw15.same s16).at' hj
        rw [List.getElem?_map, d1] at hxv
        have hxv := Option.some.inj hxv
        subst hxv
        try simp only [tSeq, tNext, tRet, tRetN, tAsg, gName, gSub, tDrop, tIfS, tOp, tUn, tCB, tCons, tNil, tC, tVar, rI, rI0, rU, tAnd, tOr, tNot, tAndV, tOrV, tNotV, tIf, tTest, tB, tCall, tChain, tLst, tTup, tYes, rIxH, rIsB, rIsBT, rMulS, kd_non, kd_bl, kd_int, kd_str, kd_ref, kdO_lst, kdO_tup, kdO_dK, nq_n, nq_b, nq_i, nq_s, nq_l, nq_t, nq_d, ne_eq, not_false_eq_true, kit_ss, kit_ns, kit_bs, kit_is, kit_ls, kit_ts, kit_ds, kit_bb, V.ty.injEq, and_assoc, rIxU, rLenH, rLenU, rLenS, rInt1, rSetL, rEq, rNe, rCat, L2.start, List.map, List.length, List.length_cons, List.length_nil, List.replicate, List.getElem?_cons_zero, List.getElem?_cons_succ, List.set_cons_zero, List.set_cons_succ, List.set_nil, List.cons_append, List.nil_append, List.append_nil, Option.some.injEq, V.int.injEq, V.ref.injEq, V.str.injEq, V.bl.injEq, HO.lst.injEq, HO.tup.injEq, exists_eq_left', exists_and_left, exists_eq_left, List.cons.injEq, and_true, true_and, and_false, false_and, and_self, reduceCtorEq, exists_false, or_false, false_or, exists_const, at0, at1, at2, at3, at4, at5, ix51, ix52, ix54, upd_same, Nat.reduceAdd, Nat.reduceSub, Nat.zero_add, Int.reduceToNat, Int.reduceLE, Int.reduceLT, decide_eq_true_eq, Bool.not_eq_true, if_true, if_false, Bool.false_eq_true, ite_true, ite_false, Bool.not_true, Bool.not_false, decide_true, decide_false, tFor_eq, tLc_eq, iList, iTup, iRng1, iRng2, iStr, tSl, tPart, tNoPart, rSlL, cxOf_K, wipe, ex_ty2, kit_LTl, kit_LTt, kit_LTd, kit_LTs, kit_LTn, kit_LTb, kit_LTi, tM1, rIxS, exists_eq', lt1p, tDNewK, rSlS, rEqNil, nox_K, d2]
        exact ⟨_, _, rfl, .inl ⟨SqL.of d4, fun l nl => pk _ _ (same_new nl) ⟨l, rs[j], rfl, List.getElem?_eq_getElem hj, upd_same⟩⟩⟩
      rw [List.length_map, rw15.len] at yl2
      have tu : ∀ {zs : List V} {H' : Hp}, zs.length = rs.length → (∀ (j : Nat) (y : V), zs[j]? = some y → ∃ t r, y = .ref t ∧ rs[j]? = some r ∧ H' t = some (.tup (r.ls.map V.str))) → TupsAt H' zs (rs.map VR.ls) := fun {zs H'} e h => ⟨by rw [e, List.length_map], fun j y ts h1 h2 => by
        obtain ⟨t, r, e1, e2, h3⟩ := h j y h1
        rw [List.getElem?_map, e2] at h2
        cases h2
        exact ⟨t, e1, h3⟩⟩
      refine neTT (tss := rs.map VR.ls) (s16 _ _ hD1) hD2 (tu (by omega) fun j y h => by obtain ⟨t, r, e1, e2, h3⟩ := hys j y h; exact ⟨t, r, e1, e2, s16 _ _ h3⟩) (tu yl2 hys2) (fun ts hts z hz c hc => by obtain ⟨r, hr, rfl⟩ := List.mem_map.mp hts; exact (ok.tr r hr).vok.asc z hz c hc) ?_
      refine ⟨_, rfl, ?_⟩
      rw [if_neg (by decide)]
      first | rw [eN2] | (dsimp only; rw [eN2])
      clear eN2 N2
      refine seq_gen fun N2 eN2 => ?_
      try simp only [tSeq, tNext, tRet, tRetN, tAsg, gName, gSub, tDrop, tIfS, tOp, tUn, tCB, tCons, tNil, tC, tVar, rI, rI0, rU, tAnd, tOr, tNot, tAndV, tOrV, tNotV, tIf, tTest, tB, tCall, tChain, tLst, tTup, tYes, rIxH, rIsB, rIsBT, rMulS, kd_non, kd_bl, kd_int, kd_str, kd_ref, kdO_lst, kdO_tup, kdO_dK, nq_n, nq_b, nq_i, nq_s, nq_l, nq_t, nq_d, ne_eq, not_false_eq_true, kit_ss, kit_ns, kit_bs, kit_is, kit_ls, kit_ts, kit_ds, kit_bb, V.ty.injEq, and_assoc, rIxU, rLenH, rLenU, rLenS, rInt1, rSetL, rEq, rNe, rCat, L2.start, List.map, List.length, List.length_cons, List.length_nil, List.replicate, List.getElem?_cons_zero, List.getElem?_cons_succ, List.set_cons_zero, List.set_cons_succ, List.set_nil, List.cons_append, List.nil_append, List.append_nil, Option.some.injEq, V.int.injEq, V.ref.injEq, V.str.injEq, V.bl.injEq, HO.lst.injEq, HO.tup.injEq, exists_eq_left', exists_and_left, exists_eq_left, List.cons.injEq, and_true, true_and, and_false, false_and, and_self, reduceCtorEq, exists_false, or_false, false_or, exists_const, at0, at1, at2, at3, at4, at5, ix51, ix52, ix54, upd_same, Nat.reduceAdd, Nat.reduceSub, Nat.zero_add, Int.reduceToNat, Int.reduceLE, Int.reduceLT, decide_eq_true_eq, Bool.not_eq_true, if_true, if_false, Bool.false_eq_true, ite_true, ite_false, Bool.not_true, Bool.not_false, decide_true, decide_false, tFor_eq, tLc_eq, iList, iTup, iRng1, iRng2, iStr, tSl, tPart, tNoPart, rSlL, cxOf_K, wipe, ex_ty2, kit_LTl, kit_LTt, kit_LTd, kit_LTs, kit_LTn, kit_LTb, kit_LTi, tM1, rIxS, exists_eq', lt1p, tDNewK, rSlS, rEqNil, nox_K]
      have s816 := ((s810.trans s1015)).trans s16
      have hk16 := s816 _ _ hk8
      have kn16 := (kn.same gG8).same s816
      have hh16 := hh13.same ((s14.trans s15).trans s16)
      refine ⟨⟨_, SqL.of hk16⟩, fun D3 nD3 => ?_⟩
      refine lc_same (walk_list (K := K) (xs := ks.map V.ref)) (fun _ => false) id nD3 (fun H17 s17 => SqL.of (s17 _ _ hk16)) (by rw [List.length_map]; omega) (fun xv hxv H17 s17 R R0 h1 h2 => ?_) (fun H17 s17 hD3 => ?_)
      · obtain ⟨t, ht, rfl⟩ := List.mem_map.mp hxv
        obtain ⟨h', vas', rs', q1, q2, q3⟩ := (kn16.same s17).ea t ht
        have hh17 := hh16.same s17
        obtain ⟨⟨dxa, kka, ha1, ha2⟩, _, _, _⟩ := id q2
        obtain ⟨⟨dxb, kkb, hb1, hb2⟩, _, _, _⟩ := id hh17
        refine ⟨t, _, rfl, SqT.of q1, rfl, _, _, rfl, _, _, rfl, rfl, rfl, ?_⟩
        try simp only [tSeq, tNext, tRet, tRetN, tAsg, gName, gSub, tDrop, tIfS, tOp, tUn, tCB, tCons, tNil, tC, tVar, rI, rI0, rU, tAnd, tOr, tNot, tAndV, tOrV, tNotV, tIf, tTest, tB, tCall, tChain, tLst, tTup, tYes, rIxH, rIsB, rIsBT, rMulS, kd_non, kd_bl, kd_int, kd_str, kd_ref, kdO_lst, kdO_tup, kdO_dK, nq_n, nq_b, nq_i, nq_s, nq_l, nq_t, nq_d, ne_eq, not_false_eq_true, kit_ss, kit_ns, kit_bs, kit_is, kit_ls, kit_ts, kit_ds, kit_bb, V.ty.injEq, and_assoc, rIxU, rLenH, rLenU, rLenS, rInt1, rSetL, rEq, rNe, rCat, L2.start, List.map, List.length, List.length_cons, List.length_nil, List.replicate, List.getElem?_cons_zero, List.getElem?_cons_succ, List.set_cons_zero, List.set_cons_succ, List.set_nil, List.cons_append, List.nil_append, List.append_nil, Option.some.injEq, V.int.injEq, V.ref.injEq, V.str.injEq, V.bl.injEq, HO.lst.injEq, HO.tup.injEq, exists_eq_left', exists_and_left, exists_eq_left, List.cons.injEq, and_true, true_and, and_false, false_and, and_self, reduceCtorEq, exists_false, or_false, false_or, exists_const, at0, at1, at2, at3, at4, at5, ix51, ix52, ix54, upd_same, Nat.reduceAdd, Nat.reduceSub, Nat.zero_add, Int.reduceToNat, Int.reduceLE, Int.reduceLT, decide_eq_true_eq, Bool.not_eq_true, if_true, if_false, Bool.false_eq_true, ite_true, ite_false, Bool.not_true, Bool.not_false, decide_true, decide_false, tFor_eq, tLc_eq, iList, iTup, iRng1, iRng2, iStr, tSl, tPart, tNoPart, rSlL, cxOf_K, wipe, ex_ty2, kit_LTl, kit_LTt, kit_LTd, kit_LTs, kit_LTn, kit_LTb, kit_LTi, tM1, rIxS, exists_eq', lt1p, tDNewK, rSlS, rEqNil, nox_K]
        refine ⟨scal_str, h', dxa, _, rfl, ha1, .inr ⟨h, dxb, _, rfl, hb1⟩, h', vas', rs', _, rfl, q2, .inl ⟨h, vas, rs, rfl, hh17, fun H18 s18 => ?_⟩⟩
        refine ⟨scal_bl, ?_⟩
        have e : decide (fmtS rs' = fmtS rs) = decide (rs' = rs) := decide_eq_decide.mpr (fmt_inj q3.tr ok.tr)
        rw [e, decide_eq_true rfl, if_neg (by decide)]
        exact h2 _ s18 rfl
      rw [show List.filter (fun _ => false) (List.map V.ref ks) = [] from List.filter_eq_nil_iff.mpr fun _ _ z => by cases z] at hD3
      refine ⟨by decide, ?_⟩
      intro e3 n_e3; generalize g_H18 : upd H17 e3 _ = H18; obtain ⟨s_H18, h_e3⟩ := new_facts n_e3 g_H18; clear g_H18
      refine neD_nn (s_H18 _ _ hD3) h_e3 ?_
      refine ⟨_, rfl, ?_⟩
      rw [if_neg (by decide)]
      first | rw [eN2] | (dsimp only; rw [eN2])
      clear eN2 N2
      try simp only [tSeq, tNext, tRet, tRetN, tAsg, gName, gSub, tDrop, tIfS, tOp, tUn, tCB, tCons, tNil, tC, tVar, rI, rI0, rU, tAnd, tOr, tNot, tAndV, tOrV, tNotV, tIf, tTest, tB, tCall, tChain, tLst, tTup, tYes, rIxH, rIsB, rIsBT, rMulS, kd_non, kd_bl, kd_int, kd_str, kd_ref, kdO_lst, kdO_tup, kdO_dK, nq_n, nq_b, nq_i, nq_s, nq_l, nq_t, nq_d, ne_eq, not_false_eq_true, kit_ss, kit_ns, kit_bs, kit_is, kit_ls, kit_ts, kit_ds, kit_bb, V.ty.injEq, and_assoc, rIxU, rLenH, rLenU, rLenS, rInt1, rSetL, rEq, rNe, rCat, L2.start, List.map, List.length, List.length_cons, List.length_nil, List.replicate, List.getElem?_cons_zero, List.getElem?_cons_succ, List.set_cons_zero, List.set_cons_succ, List.set_nil, List.cons_append, List.nil_append, List.append_nil, Option.some.injEq, V.int.injEq, V.ref.injEq, V.str.injEq, V.bl.injEq, HO.lst.injEq, HO.tup.injEq, exists_eq_left', exists_and_left, exists_eq_left, List.cons.injEq, and_true, true_and, and_false, false_and, and_self, reduceCtorEq, exists_false, or_false, false_or, exists_const, at0, at1, at2, at3, at4, at5, ix51, ix52, ix54, upd_same, Nat.reduceAdd, Nat.reduceSub, Nat.zero_add, Int.reduceToNat, Int.reduceLE, Int.reduceLT, decide_eq_true_eq, Bool.not_eq_true, if_true, if_false, Bool.false_eq_true, ite_true, ite_false, Bool.not_true, Bool.not_false, decide_true, decide_false, tFor_eq, tLc_eq, iList, iTup, iRng1, iRng2, iStr, tSl, tPart, tNoPart, rSlL, cxOf_K, wipe, ex_ty2, kit_LTl, kit_LTt, kit_LTd, kit_LTs, kit_LTn, kit_LTb, kit_LTi, tM1, rIxS, exists_eq', lt1p, tDNewK, rSlS, rEqNil, nox_K, tBM]
      have s1618 := s17.trans s_H18
      have hk18 := s1618 _ _ hk16
      refine ⟨.inl ⟨rfl, _, SqL.of hk18⟩, by decide, ?_⟩
      intro tC n_tC; generalize g_H19 : upd H18 tC _ = H19; obtain ⟨s_H19, h_tC⟩ := new_facts n_tC g_H19; clear g_H19
      have s919 : Same H9 H19 := (((s10.trans s1015).trans s16).trans s1618).trans s_H19
      have s819 := s9.trans s919
      have hk19 := s_H19 _ _ hk18
      refine ⟨kA, _, _, rfl, rfl, hk19, Nat.lt_of_le_of_lt (m := 1000) (by rw [List.length_map]; omega) (by decide), ?_⟩
      have w19 := w8.same s819
      have w20 := cutG_wd (k := kA) w19
      have gc := cutG_none (p := p) (l := l) (k := kA) (H := H19)
      obtain ⟨xns, xt, xn, xz, xy, pp1, pp2, _⟩ := w19.pool
      have nkp := w8.pool.np nkk
      have nka := (ne_of_none hk8 nkk).symm
      have lne : ∀ {b : Addr} {o : HO}, H19 b = some o → (∀ xs, o ≠ .lst xs) → b ≠ p ∧ b ≠ l ∧ b ≠ kA := fun {b o} e n => ⟨fun z => by rw [z, pp1] at e; exact n _ (Option.some.inj e).symm, fun z => by rw [z, pp2] at e; exact n _ (Option.some.inj e).symm, fun z => by rw [z, hk19] at e; exact n _ (Option.some.inj e).symm⟩
      have hh19a := s919 _ _ hh1
      have hh19b := s919 _ _ hh2
      have n1 := lne hh19a (fun xs z => by cases z)
      have n2 := lne h_tC (fun xs z => by cases z)
      have hG : HistAt A.k_History A.k_Version (cutG p l kA H19) h vas rs := ⟨⟨dx, kk, cutG_at hh19a n1.1 n1.2.1 n1.2.2, cutG_at hh19b nkp.1 nkp.2 nka⟩, (vv9.same s919).cut pp1 pp2 hk19, by rw [vv9.len]; exact ok.l10, ok.gr⟩
      refine ⟨_, _, _, _, _, _, _, _, _, c + 201, cutG p l kA H19, ks ++ [tC], rfl, w20.mut gc.2.2 npk.1 npk.2, by omega, gc.2.2, by rw [upd_same, List.map_append]; rfl, by rw [List.length_append, kl]; rfl, ⟨fun t ht => ?_⟩⟩
      rcases List.mem_append.mp ht with ht | ht
      · exact (kn.same (cutG_ge (gG8.trans s819) w7.gp w7.gl gk)).ea t ht
      · rw [List.mem_singleton.mp ht]
        exact ⟨h, vas, rs, cutG_at h_tC n2.1 n2.2.1 n2.2.2, hG, ok⟩
    · obtain ⟨v3, v4, v5, v6, v7, v8, v9, v10, v11, c, G, ks, rfl, w7, hc, gk, hk7, kl, kn⟩ := q
      dsimp only
      rw [eN]
      clear eN N
      try simp only [tSeq, tNext, tRet, tRetN, tAsg, gName, gSub, tDrop, tIfS, tOp, tUn, tCB, tCons, tNil, tC, tVar, rI, rI0, rU, tAnd, tOr, tNot, tAndV, tOrV, tNotV, tIf, tTest, tB, tCall, tChain, tLst, tTup, tYes, rIxH, rIsB, rIsBT, rMulS, kd_non, kd_bl, kd_int, kd_str, kd_ref, kdO_lst, kdO_tup, kdO_dK, nq_n, nq_b, nq_i, nq_s, nq_l, nq_t, nq_d, ne_eq, not_false_eq_true, kit_ss, kit_ns, kit_bs, kit_is, kit_ls, kit_ts, kit_ds, kit_bb, V.ty.injEq, and_assoc, rIxU, rLenH, rLenU, rLenS, rInt1, rSetL, rEq, rNe, rCat, L2.start, List.map, List.length, List.length_cons, List.length_nil, List.replicate, List.getElem?_cons_zero, List.getElem?_cons_succ, List.set_cons_zero, List.set_cons_succ, List.set_nil, List.cons_append, List.nil_append, List.append_nil, Option.some.injEq, V.int.injEq, V.ref.injEq, V.str.injEq, V.bl.injEq, HO.lst.injEq, HO.tup.injEq, exists_eq_left', exists_and_left, exists_eq_left, List.cons.injEq, and_true, true_and, and_false, false_and, and_self, reduceCtorEq, exists_false, or_false, false_or, exists_const, at0, at1, at2, at3, at4, at5, ix51, ix52, ix54, upd_same, Nat.reduceAdd, Nat.reduceSub, Nat.zero_add, Int.reduceToNat, Int.reduceLE, Int.reduceLT, decide_eq_true_eq, Bool.not_eq_true, if_true, if_false, Bool.false_eq_true, ite_true, ite_false, Bool.not_true, Bool.not_false, decide_true, decide_false, tFor_eq, tLc_eq, iList, iTup, iRng1, iRng2, iStr, tSl, tPart, tNoPart, rSlL, cxOf_K, wipe, ex_ty2, kit_LTl, kit_LTt, kit_LTd, kit_LTs, kit_LTn, kit_LTb, kit_LTi, tM1, rIxS, exists_eq', lt1p, tDNewK, rSlS, rEqNil, nox_K, tMake_eq]
      have kt : KT0 K A.u0_HistoryInit := ⟨T.ut0_HistoryInit, T.uk0_HistoryInit⟩
      have gr0 : Gr [] := fun i r h => by cases h
      refine hist_yes (b := A.u0_HistoryInit) (vas := []) (rs := []) rfl (.inr (.inr ⟨kt, rfl⟩)) (by decide) .nil gr0 fun H8 h dx kk s8 nh nk hh1 hh2 => ?_
      have hA : HistAt A.k_History A.k_Version H8 h [] [] := ⟨⟨dx, kk, hh1, hh2⟩, .nil, by decide, gr0⟩
      refine ⟨h, [], [], rfl, hA, fun r hr => (by cases hr), fun H9 s9 => ?_⟩
      have e0 : fmtS [] = Str.ofString "" := by decide +kernel
      refine ⟨scal_str, ?_⟩
      rw [if_pos (by rw [e0])]
      refine ⟨[], by rw [e0], by decide, fun r hr => (by cases hr), gr0, fun H10 x vas s10 nx hx => ?_⟩
      refine hist_yes (b := A.u0_HistoryInit) (vas := []) (rs := []) rfl (.inr (.inr ⟨kt, rfl⟩)) (by decide) .nil gr0 fun H11 h2 dx2 kk2 s11 nh2 nk2 hh3 hh4 => ?_
      have hB : HistAt A.k_History A.k_Version H11 h2 [] [] := ⟨⟨dx2, kk2, hh3, hh4⟩, .nil, by decide, gr0⟩
      have hx11 := hx.same s11
      obtain ⟨⟨dxa, kka, ha1, ha2⟩, _, _, _⟩ := id hx11
      refine ⟨x, dxa, _, rfl, ha1, .inr ⟨h2, dx2, _, rfl, hh3⟩, ?_⟩
      exact ⟨x, vas, [], _, rfl, hx11, .inl ⟨h2, [], [], rfl, hB, fun H' _ => k H'⟩⟩
end


section
variable {w : World} {K : PySem.W.Frag} {mg : Str → Option Value} {base : Heap} {A : Adr}
theorem ok_law (T : Txt K mg A) : FnOk PW w K mg base CX0 8 A.a_Law A.d_Law ["_law_script"] (spLaw K) :=
  have ii := ok_isintT T
  have dr := ok_draw T (ok_mixed T)
  have ln := ok_is_line T (ok_is_sign T)
  have nm := ok_isnameT T
  have iv := ok_ver T (ok_is_text T ln) (ok_par T (ok_iscntT T ii)) nm
  have vp := ok_parents T
  have vl := ok_lines T
  have hi := ok_hist T (ok_stand T vp)
  have ci := ok_ci T (ok_cw T)
  ok_law_of T (ok_pool T) (ok_rows T dr) (ok_made T iv hi) (ok_text T) (ok_fhist T (ok_hiter T) (ok_fpar T) vl vp (ok_author T))
    (ok_parse T ln (ok_headin T nm (ok_pin T ci)) iv hi) hi (ok_hlen T) (ok_hver T (ok_hcheck T ii)) (ok_heq T (ok_veq T)) vl
end
theorem all_mk {w : World} {K : PySem.W.Frag} {h : Heap} {mg : Str → Option Value} {fa : Addr} {C_Version : Addr} {C_History : Addr} {C_LineError : Addr} {C_InvalidNumber : Addr} {C_InvalidText : Addr} {C_InvalidName : Addr} {C_InvalidParents : Addr} {i_InvalidNumber : Addr} {nm_InvalidNumber : Str} {qn_InvalidNumber : Str} {xN_InvalidNumber : Addr} {bs_InvalidNumber : List Value} {sn_InvalidNumber : List Str} {sb_InvalidNumber : List Value} {ab_InvalidNumber : Bool} {col_InvalidNumber : Option Bool} {dd_InvalidNumber : Option Addr} {m0_InvalidNumber : Option Value} {m1_InvalidNumber : Option Value} {m2_InvalidNumber : Option Value} {m3_InvalidNumber : Option Value} {m5_InvalidNumber : Option Value} {oc_InvalidNumber : Value} {od_InvalidNumber : Option Addr} {doc_InvalidNumber : Value} {pm_InvalidNumber : Value} {an_InvalidNumber : Option Addr} {cda_InvalidNumber : Addr} {cc_InvalidNumber : Addr} {ct_InvalidNumber : Value} {osl_InvalidNumber : Array (Option Value)} {qual_InvalidNumber : Str} {ms_InvalidNumber : Str} {j_InvalidNumber : Nat} {p1_InvalidNumber : Pos} {p2_InvalidNumber : Pos} {q0_InvalidNumber : Pos} {q1_InvalidNumber : Pos} {q2_InvalidNumber : Pos} {q3_InvalidNumber : Pos} {q4_InvalidNumber : Pos} {q5_InvalidNumber : Pos} {q6_InvalidNumber : Pos} {q7_InvalidNumber : Pos} {q8_InvalidNumber : Pos} {q9_InvalidNumber : Pos} {ccl_InvalidNumber : Value} {cdd_InvalidNumber : Option Addr} {vs_InvalidNumber : Array Value} {ccs_InvalidNumber : Array (Option Value)} {cl_InvalidNumber : Value} {cld_InvalidNumber : Option Addr} {csl_InvalidNumber : Array (Option Value)} {file_InvalidNumber : Str} {tf_InvalidNumber : Tok} {i_InvalidText : Addr} {nm_InvalidText : Str} {qn_InvalidText : Str} {xN_InvalidText : Addr} {bs_InvalidText : List Value} {sn_InvalidText : List Str} {sb_InvalidText : List Value} {ab_InvalidText : Bool} {col_InvalidText : Option Bool} {dd_InvalidText : Option Addr} {m0_InvalidText : Option Value} {m1_InvalidText : Option Value} {m2_InvalidText : Option Value} {m3_InvalidText : Option Value} {m5_InvalidText : Option Value} {oc_InvalidText : Value} {od_InvalidText : Option Addr} {doc_InvalidText : Value} {pm_InvalidText : Value} {an_InvalidText : Option Addr} {cda_InvalidText : Addr} {cc_InvalidText : Addr} {ct_InvalidText : Value} {osl_InvalidText : Array (Option Value)} {qual_InvalidText : Str} {ms_InvalidText : Str} {j_InvalidText : Nat} {p1_InvalidText : Pos} {p2_InvalidText : Pos} {q0_InvalidText : Pos} {q1_InvalidText : Pos} {q2_InvalidText : Pos} {q3_InvalidText : Pos} {q4_InvalidText : Pos} {q5_InvalidText : Pos} {q6_InvalidText : Pos} {q7_InvalidText : Pos} {q8_InvalidText : Pos} {q9_InvalidText : Pos} {ccl_InvalidText : Value} {cdd_InvalidText : Option Addr} {vs_InvalidText : Array Value} {ccs_InvalidText : Array (Option Value)} {cl_InvalidText : Value} {cld_InvalidText : Option Addr} {csl_InvalidText : Array (Option Value)} {file_InvalidText : Str} {tf_InvalidText : Tok} {i_InvalidName : Addr} {nm_InvalidName : Str} {qn_InvalidName : Str} {xN_InvalidName : Addr} {bs_InvalidName : List Value} {sn_InvalidName : List Str} {sb_InvalidName : List Value} {ab_InvalidName : Bool} {col_InvalidName : Option Bool} {dd_InvalidName : Option Addr} {m0_InvalidName : Option Value} {m1_InvalidName : Option Value} {m2_InvalidName : Option Value} {m3_InvalidName : Option Value} {m5_InvalidName : Option Value} {oc_InvalidName : Value} {od_InvalidName : Option Addr} {doc_InvalidName : Value} {pm_InvalidName : Value} {an_InvalidName : Option Addr} {cda_InvalidName : Addr} {cc_InvalidName : Addr} {ct_InvalidName : Value} {osl_InvalidName : Array (Option Value)} {qual_InvalidName : Str} {ms_InvalidName : Str} {j_InvalidName : Nat} {p1_InvalidName : Pos} {p2_InvalidName : Pos} {q0_InvalidName : Pos} {q1_InvalidName : Pos} {q2_InvalidName : Pos} {q3_InvalidName : Pos} {q4_InvalidName : Pos} {q5_InvalidName : Pos} {q6_InvalidName : Pos} {q7_InvalidName : Pos} {q8_InvalidName : Pos} {q9_InvalidName : Pos} {ccl_InvalidName : Value} {cdd_InvalidName : Option Addr} {vs_InvalidName : Array Value} {ccs_InvalidName : Array (Option Value)} {cl_InvalidName : Value} {cld_InvalidName : Option Addr} {csl_InvalidName : Array (Option Value)} {file_InvalidName : Str} {tf_InvalidName : Tok} {i_InvalidParents : Addr} {nm_InvalidParents : Str} {qn_InvalidParents : Str} {xN_InvalidParents : Addr} {bs_InvalidParents : List Value} {sn_InvalidParents : List Str} {sb_InvalidParents : List Value} {ab_InvalidParents : Bool} {col_InvalidParents : Option Bool} {dd_InvalidParents : Option Addr} {m0_InvalidParents : Option Value} {m1_InvalidParents : Option Value} {m2_InvalidParents : Option Value} {m3_InvalidParents : Option Value} {m5_InvalidParents : Option Value} {oc_InvalidParents : Value} {od_InvalidParents : Option Addr} {doc_InvalidParents : Value} {pm_InvalidParents : Value} {an_InvalidParents : Option Addr} {cda_InvalidParents : Addr} {cc_InvalidParents : Addr} {ct_InvalidParents : Value} {osl_InvalidParents : Array (Option Value)} {qual_InvalidParents : Str} {ms_InvalidParents : Str} {j_InvalidParents : Nat} {p1_InvalidParents : Pos} {p2_InvalidParents : Pos} {q0_InvalidParents : Pos} {q1_InvalidParents : Pos} {q2_InvalidParents : Pos} {q3_InvalidParents : Pos} {q4_InvalidParents : Pos} {q5_InvalidParents : Pos} {q6_InvalidParents : Pos} {q7_InvalidParents : Pos} {q8_InvalidParents : Pos} {q9_InvalidParents : Pos} {ccl_InvalidParents : Value} {cdd_InvalidParents : Option Addr} {vs_InvalidParents : Array Value} {ccs_InvalidParents : Array (Option Value)} {cl_InvalidParents : Value} {cld_InvalidParents : Option Addr} {csl_InvalidParents : Array (Option Value)} {file_InvalidParents : Str} {tf_InvalidParents : Tok} {f1 : Addr} {od1 an1 : Option Addr} {sl1 : Array (Option Value)} {oc1 dc1 pm1 ct1 : Value} {cd1 : Value} {kV1 : Value} {f2 : Addr} {od2 an2 : Option Addr} {sl2 : Array (Option Value)} {oc2 dc2 pm2 ct2 : Value} {cd2 : Value} {kV2 : Value} {f3 : Addr} {od3 an3 : Option Addr} {sl3 : Array (Option Value)} {oc3 dc3 pm3 ct3 : Value} {cd3 : Value} {kV3 : Value} {f4 : Addr} {od4 an4 : Option Addr} {sl4 : Array (Option Value)} {oc4 dc4 pm4 ct4 : Value} {cd4 : Value} {kV4 : Value} {f5 : Addr} {od5 an5 : Option Addr} {sl5 : Array (Option Value)} {oc5 dc5 pm5 ct5 : Value} {cd5 : Value} {kV5 : Value} {f6 : Addr} {od6 an6 : Option Addr} {sl6 : Array (Option Value)} {oc6 dc6 pm6 ct6 : Value} {cd6 : Value} {kV6 : Value} {f7 : Addr} {od7 an7 : Option Addr} {sl7 : Array (Option Value)} {oc7 dc7 pm7 ct7 : Value} {cd7 : Value} {kV7 : Value} {f8 : Addr} {od8 an8 : Option Addr} {sl8 : Array (Option Value)} {oc8 dc8 pm8 ct8 : Value} {cd8 : Value} {D8 : Addr} {kt8_1 : Tok} {u8_0 : Addr} {ud8_0 : Option Addr} {un8_0 : Nat} {us8_0 : Array (Option Value)} {f9 : Addr} {od9 an9 : Option Addr} {sl9 : Array (Option Value)} {oc9 dc9 pm9 ct9 : Value} {cd9 : Value} {kV9 : Value} {p9 : Addr} {rs9 : List Value} {f10 : Addr} {od10 an10 : Option Addr} {sl10 : Array (Option Value)} {oc10 dc10 pm10 ct10 : Value} {cd10 : Value} {kV10 : Value} {p10 : Addr} {rs10 : List Value} {f11 : Addr} {od11 an11 : Option Addr} {sl11 : Array (Option Value)} {oc11 dc11 pm11 ct11 : Value} {cd11 : Value} {kV11 : Value} {p11 : Addr} {rs11 : List Value} {f12 : Addr} {od12 an12 : Option Addr} {sl12 : Array (Option Value)} {oc12 dc12 pm12 ct12 : Value} {cd12 : Value} {kV12 : Value} {f13 : Addr} {od13 an13 : Option Addr} {sl13 : Array (Option Value)} {oc13 dc13 pm13 ct13 : Value} {cd13 : Value} {kV13 : Value} {f14 : Addr} {od14 an14 : Option Addr} {sl14 : Array (Option Value)} {oc14 dc14 pm14 ct14 : Value} {cd14 : Value} {kV14 : Value} {f15 : Addr} {od15 an15 : Option Addr} {sl15 : Array (Option Value)} {oc15 dc15 pm15 ct15 : Value} {cd15 : Value} {kV15 : Value} {f16 : Addr} {od16 an16 : Option Addr} {sl16 : Array (Option Value)} {oc16 dc16 pm16 ct16 : Value} {cd16 : Value} {kV16 : Value} {f17 : Addr} {od17 an17 : Option Addr} {sl17 : Array (Option Value)} {oc17 dc17 pm17 ct17 : Value} {cd17 : Value} {kV17 : Value} {T17 : Addr} {tc17 : Value} {tD17 : Option Addr} {ts17 : Array (Option Value)} {nn17 : Nat} {u17_0 : Addr} {ud17_0 : Option Addr} {un17_0 : Nat} {us17_0 : Array (Option Value)} {f18 : Addr} {od18 an18 : Option Addr} {sl18 : Array (Option Value)} {oc18 dc18 pm18 ct18 : Value} {cd18 : Value} {kV18 : Value} {f19 : Addr} {od19 an19 : Option Addr} {sl19 : Array (Option Value)} {oc19 dc19 pm19 ct19 : Value} {cd19 : Value} {kV19 : Value} {f20 : Addr} {od20 an20 : Option Addr} {sl20 : Array (Option Value)} {oc20 dc20 pm20 ct20 : Value} {cd20 : Value} {kV20 : Value} {f21 : Addr} {od21 an21 : Option Addr} {sl21 : Array (Option Value)} {oc21 dc21 pm21 ct21 : Value} {cd21 : Value} {kV21 : Value} {f22 : Addr} {od22 an22 : Option Addr} {sl22 : Array (Option Value)} {oc22 dc22 pm22 ct22 : Value} {cd22 : Value} {kV22 : Value} {f23 : Addr} {od23 an23 : Option Addr} {sl23 : Array (Option Value)} {oc23 dc23 pm23 ct23 : Value} {cd23 : Value} {kV23 : Value} {f24 : Addr} {od24 an24 : Option Addr} {sl24 : Array (Option Value)} {oc24 dc24 pm24 ct24 : Value} {cd24 : Value} {kV24 : Value} {f25 : Addr} {od25 an25 : Option Addr} {sl25 : Array (Option Value)} {oc25 dc25 pm25 ct25 : Value} {cd25 : Value} {kV25 : Value} {f26 : Addr} {od26 an26 : Option Addr} {sl26 : Array (Option Value)} {oc26 dc26 pm26 ct26 : Value} {cd26 : Value} {kV26 : Value} {f27 : Addr} {od27 an27 : Option Addr} {sl27 : Array (Option Value)} {oc27 dc27 pm27 ct27 : Value} {cd27 : Value} {kV27 : Value} {f28 : Addr} {od28 an28 : Option Addr} {sl28 : Array (Option Value)} {oc28 dc28 pm28 ct28 : Value} {cd28 : Value} {kV28 : Value} {f29 : Addr} {od29 an29 : Option Addr} {sl29 : Array (Option Value)} {oc29 dc29 pm29 ct29 : Value} {cd29 : Value} {kV29 : Value} {f30 : Addr} {od30 an30 : Option Addr} {sl30 : Array (Option Value)} {oc30 dc30 pm30 ct30 : Value} {cd30 : Value} {kV30 : Value} {f31 : Addr} {od31 an31 : Option Addr} {sl31 : Array (Option Value)} {oc31 dc31 pm31 ct31 : Value} {cd31 : Value} {kV31 : Value} {f32 : Addr} {od32 an32 : Option Addr} {sl32 : Array (Option Value)} {oc32 dc32 pm32 ct32 : Value} {cd32 : Value} {kV32 : Value} {f33 : Addr} {od33 an33 : Option Addr} {sl33 : Array (Option Value)} {oc33 dc33 pm33 ct33 : Value} {cd33 : Value} {kV33 : Value} {f34 : Addr} {od34 an34 : Option Addr} {sl34 : Array (Option Value)} {oc34 dc34 pm34 ct34 : Value} {cd34 : Value} {kV34 : Value} {f35 : Addr} {od35 an35 : Option Addr} {sl35 : Array (Option Value)} {oc35 dc35 pm35 ct35 : Value} {cd35 : Value} {kV35 : Value} {f36 : Addr} {od36 an36 : Option Addr} {sl36 : Array (Option Value)} {oc36 dc36 pm36 ct36 : Value} {cd36 : Value} {kV36 : Value} {f37 : Addr} {od37 an37 : Option Addr} {sl37 : Array (Option Value)} {oc37 dc37 pm37 ct37 : Value} {cd37 : Value} {kV37 : Value} {t2 : Tok} {t6 : Tok} {t13 : Tok} {t14 : Tok} {t15 : Tok} {t29 : Tok} {t35 : Tok} {t36 : Tok} (X : K.In h) (G : h.Ns mainGlobals mg) (hfa : mg "law" = some (.ref fa))
    (aCVersion : PySem.W.nsIn K mainGlobals "Version" = some (some (.ref C_Version)))
    (pgVersion : PySem.W.plainGet K C_Version Str.empty = true)
    (hdVersion : PySem.W.hasDictIn K C_Version = true)
    (poVersion : PySem.W.plainOver K C_Version = true)
    (saVersion : PySem.W.findIn K (.ref C_Version) "__setattr__" = some (some (.builtin "object.__setattr__")))
    (haVersion : PySem.W.findIn K (.ref C_Version) "__class__" = some (some (.builtin "object.__class__")))
    (hnVersion : PySem.W.specialIn K (.builtin "object.__class__") "__get__" = some (some (.builtin "getset_descriptor.__get__")))
    (tkVersion : PySem.W.takesIn K (.builtin "object.__class__") = some true)
    (hmVersion : PySem.W.mroIn K C_Version (.type "object") = some true)
    (mkVersion : PySem.W.makesIn K C_Version = true)
    (kcVersion : PySem.W.keepIn K (.ref C_Version) = true)
    (nVersionkept_lines : PySem.W.findIn K (.ref C_Version) "kept_lines" = some none)
    (nVersionkept_parents : PySem.W.findIn K (.ref C_Version) "kept_parents" = some none)
    (nVersionkept_author : PySem.W.findIn K (.ref C_Version) "kept_author" = some none)
    (icVersion : PySem.W.isClsIn K C_Version = true)
    (tyVersion : PySem.W.typeIn K (.ref C_Version) = some (.type "type"))
    (qoVersionint : PySem.W.subIn K (.ref C_Version) (.type "int") = some false)
    (qoVersionbool : PySem.W.subIn K (.ref C_Version) (.type "bool") = some false)
    (qiVersionint : PySem.W.subIn K (.type "int") (.ref C_Version) = some false)
    (qiVersionbool : PySem.W.subIn K (.type "bool") (.ref C_Version) = some false)
    (qiVersionstr : PySem.W.subIn K (.type "str") (.ref C_Version) = some false)
    (qiVersionlist : PySem.W.subIn K (.type "list") (.ref C_Version) = some false)
    (qiVersiontuple : PySem.W.subIn K (.type "tuple") (.ref C_Version) = some false)
    (qiVersiondict : PySem.W.subIn K (.type "dict") (.ref C_Version) = some false)
    (qiVersionNoneType : PySem.W.subIn K (.type "NoneType") (.ref C_Version) = some false)
    (rdVersion : PySem.W.readsIn K C_Version (.type "type") = true)
    (rgVersion : PySem.W.specialIn K (.ref C_Version) "__getattribute__" = some (some (.builtin "type.__getattribute__")))
    (wVersionint : PySem.W.notFirst K C_Version (.type "int") = true)
    (wVersionbool : PySem.W.notFirst K C_Version (.type "bool") = true)
    (wVersionstr : PySem.W.notFirst K C_Version (.type "str") = true)
    (wVersionlist : PySem.W.notFirst K C_Version (.type "list") = true)
    (wVersiontuple : PySem.W.notFirst K C_Version (.type "tuple") = true)
    (wVersiondict : PySem.W.notFirst K C_Version (.type "dict") = true)
    (wVersionNoneType : PySem.W.notFirst K C_Version (.type "NoneType") = true)
    (sfVersion : PySem.W.selfFirst K C_Version = true)
    (nfVersion : PySem.W.notFirst K C_Version (.type "int") = true)
    (siVersion : PySem.W.subIn K (.ref C_Version) (.type "int") = some false)
    (isVersion : PySem.W.subIn K (.type "int") (.ref C_Version) = some false)
    (aCHistory : PySem.W.nsIn K mainGlobals "History" = some (some (.ref C_History)))
    (pgHistory : PySem.W.plainGet K C_History Str.empty = true)
    (hdHistory : PySem.W.hasDictIn K C_History = true)
    (poHistory : PySem.W.plainOver K C_History = true)
    (saHistory : PySem.W.findIn K (.ref C_History) "__setattr__" = some (some (.builtin "object.__setattr__")))
    (haHistory : PySem.W.findIn K (.ref C_History) "__class__" = some (some (.builtin "object.__class__")))
    (hnHistory : PySem.W.specialIn K (.builtin "object.__class__") "__get__" = some (some (.builtin "getset_descriptor.__get__")))
    (tkHistory : PySem.W.takesIn K (.builtin "object.__class__") = some true)
    (hmHistory : PySem.W.mroIn K C_History (.type "object") = some true)
    (mkHistory : PySem.W.makesIn K C_History = true)
    (kcHistory : PySem.W.keepIn K (.ref C_History) = true)
    (nHistorykept_versions : PySem.W.findIn K (.ref C_History) "kept_versions" = some none)
    (icHistory : PySem.W.isClsIn K C_History = true)
    (tyHistory : PySem.W.typeIn K (.ref C_History) = some (.type "type"))
    (qoHistoryint : PySem.W.subIn K (.ref C_History) (.type "int") = some false)
    (qoHistorybool : PySem.W.subIn K (.ref C_History) (.type "bool") = some false)
    (qiHistoryint : PySem.W.subIn K (.type "int") (.ref C_History) = some false)
    (qiHistorybool : PySem.W.subIn K (.type "bool") (.ref C_History) = some false)
    (qiHistorystr : PySem.W.subIn K (.type "str") (.ref C_History) = some false)
    (qiHistorylist : PySem.W.subIn K (.type "list") (.ref C_History) = some false)
    (qiHistorytuple : PySem.W.subIn K (.type "tuple") (.ref C_History) = some false)
    (qiHistorydict : PySem.W.subIn K (.type "dict") (.ref C_History) = some false)
    (qiHistoryNoneType : PySem.W.subIn K (.type "NoneType") (.ref C_History) = some false)
    (rdHistory : PySem.W.readsIn K C_History (.type "type") = true)
    (rgHistory : PySem.W.specialIn K (.ref C_History) "__getattribute__" = some (some (.builtin "type.__getattribute__")))
    (wHistoryint : PySem.W.notFirst K C_History (.type "int") = true)
    (wHistorybool : PySem.W.notFirst K C_History (.type "bool") = true)
    (wHistorystr : PySem.W.notFirst K C_History (.type "str") = true)
    (wHistorylist : PySem.W.notFirst K C_History (.type "list") = true)
    (wHistorytuple : PySem.W.notFirst K C_History (.type "tuple") = true)
    (wHistorydict : PySem.W.notFirst K C_History (.type "dict") = true)
    (wHistoryNoneType : PySem.W.notFirst K C_History (.type "NoneType") = true)
    (sfHistory : PySem.W.selfFirst K C_History = true)
    (nfHistory : PySem.W.notFirst K C_History (.type "int") = true)
    (siHistory : PySem.W.subIn K (.ref C_History) (.type "int") = some false)
    (isHistory : PySem.W.subIn K (.type "int") (.ref C_History) = some false)
    (aCLineError : PySem.W.nsIn K mainGlobals "LineError" = some (some (.ref C_LineError)))
    (ebLineError : PySem.W.subIn K (.ref C_LineError) (.type "BaseException") = some true)
    (edLineError : PySem.W.hasDictIn K C_LineError = true)
    (etLineError : PySem.W.typeIn K (.ref C_LineError) = some (.type "type"))
    (eiLineError : PySem.W.isClsIn K C_LineError = true)
    (aCInvalidNumber : PySem.W.nsIn K mainGlobals "InvalidNumber" = some (some (.ref C_InvalidNumber)))
    (ebInvalidNumber : PySem.W.subIn K (.ref C_InvalidNumber) (.type "BaseException") = some true)
    (edInvalidNumber : PySem.W.hasDictIn K C_InvalidNumber = true)
    (etInvalidNumber : PySem.W.typeIn K (.ref C_InvalidNumber) = some (.type "type"))
    (eiInvalidNumber : PySem.W.isClsIn K C_InvalidNumber = true)
    (aCInvalidText : PySem.W.nsIn K mainGlobals "InvalidText" = some (some (.ref C_InvalidText)))
    (ebInvalidText : PySem.W.subIn K (.ref C_InvalidText) (.type "BaseException") = some true)
    (edInvalidText : PySem.W.hasDictIn K C_InvalidText = true)
    (etInvalidText : PySem.W.typeIn K (.ref C_InvalidText) = some (.type "type"))
    (eiInvalidText : PySem.W.isClsIn K C_InvalidText = true)
    (aCInvalidName : PySem.W.nsIn K mainGlobals "InvalidName" = some (some (.ref C_InvalidName)))
    (ebInvalidName : PySem.W.subIn K (.ref C_InvalidName) (.type "BaseException") = some true)
    (edInvalidName : PySem.W.hasDictIn K C_InvalidName = true)
    (etInvalidName : PySem.W.typeIn K (.ref C_InvalidName) = some (.type "type"))
    (eiInvalidName : PySem.W.isClsIn K C_InvalidName = true)
    (aCInvalidParents : PySem.W.nsIn K mainGlobals "InvalidParents" = some (some (.ref C_InvalidParents)))
    (ebInvalidParents : PySem.W.subIn K (.ref C_InvalidParents) (.type "BaseException") = some true)
    (edInvalidParents : PySem.W.hasDictIn K C_InvalidParents = true)
    (etInvalidParents : PySem.W.typeIn K (.ref C_InvalidParents) = some (.type "type"))
    (eiInvalidParents : PySem.W.isClsIn K C_InvalidParents = true)
    (eSu : PySem.W.nsIn K mainGlobals "super" = some none)
    (eOp : PySem.W.nsIn K cStatics "thirdparty.any" = some none)
    (xlInvalidNumber : K.lookup C_InvalidNumber = some (excClassObj nm_InvalidNumber qn_InvalidNumber C_InvalidNumber xN_InvalidNumber bs_InvalidNumber [.ref C_LineError, .type "ValueError", .type "Exception", .type "BaseException", .type "object"] true sn_InvalidNumber sb_InvalidNumber ab_InvalidNumber col_InvalidNumber dd_InvalidNumber m0_InvalidNumber m1_InvalidNumber m2_InvalidNumber m3_InvalidNumber m5_InvalidNumber "ValueError.__new__"))
    (xsaInvalidNumber : PySem.W.findIn K (.ref C_InvalidNumber) "__setattr__" = some (some (.builtin "object.__setattr__")))
    (xgaInvalidNumber : PySem.W.findIn K (.ref C_InvalidNumber) "__getattribute__" = some (some (.builtin "BaseException.__getattribute__")))
    (xggInvalidNumber : PySem.W.findIn K (.ref C_InvalidNumber) "__getattr__" = some none)
    (xnoInvalidNumber : PySem.W.findIn K (.ref C_InvalidNumber) "value" = some none)
    (xicInvalidNumber : PySem.W.findIn K (.ref C_InvalidNumber) "__init__" = some (some (.ref i_InvalidNumber)))
    (xtiInvalidNumber : PySem.W.typeIn K (.ref i_InvalidNumber) = some (.type "function"))
    (xkcInvalidNumber : PySem.W.keepIn K (.ref C_InvalidNumber) = true)
    (xveInvalidNumber : PySem.W.subIn K (.ref C_InvalidNumber) (.type "ValueError") = some true)
    (xmcInvalidNumber : PySem.W.mroIn K C_InvalidNumber (.ref C_InvalidNumber) = some true)
    (xmoInvalidNumber : PySem.W.mroIn K C_InvalidNumber (.type "object") = some true)
    (xhcInvalidNumber : PySem.W.findIn K (.ref C_InvalidNumber) "__class__" = some (some (.builtin "object.__class__")))
    (xliInvalidNumber : K.lookup i_InvalidNumber = some ⟨oc_InvalidNumber, od_InvalidNumber, .func (PySem.W.ksFn "__init__" qual_InvalidNumber (xA p1_InvalidNumber p2_InvalidNumber) (xB ms_InvalidNumber j_InvalidNumber q0_InvalidNumber q1_InvalidNumber q2_InvalidNumber q3_InvalidNumber q4_InvalidNumber q5_InvalidNumber q6_InvalidNumber q7_InvalidNumber q8_InvalidNumber q9_InvalidNumber) xS .none .none doc_InvalidNumber pm_InvalidNumber an_InvalidNumber (.ref cda_InvalidNumber) ct_InvalidNumber cc_InvalidNumber), osl_InvalidNumber⟩)
    (xcdInvalidNumber : PySem.W.codeIn K (.ref cda_InvalidNumber) qual_InvalidNumber = true)
    (xlcInvalidNumber : K.lookup cda_InvalidNumber = some ⟨ccl_InvalidNumber, cdd_InvalidNumber, .fields vs_InvalidNumber, ccs_InvalidNumber⟩)
    (xlxInvalidNumber : K.lookup cc_InvalidNumber = some ⟨cl_InvalidNumber, cld_InvalidNumber, .cell (some (.ref C_InvalidNumber)), csl_InvalidNumber⟩)
    (ksIInvalidNumber : PySem.W.ks_superIn K C_InvalidNumber C_InvalidNumber "__init__" = some (some (.builtin "ValueError.__init__")))
    (rfVInvalidNumber : vs_InvalidNumber[2]? = some (.str file_InvalidNumber tf_InvalidNumber))
    (rfFInvalidNumber : ((PW.main.file : Str) == file_InvalidNumber) = true)
    (rfLInvalidNumber : (q2_InvalidNumber.endLine == q4_InvalidNumber.line) = true)
    (rfTInvalidNumber : (PW.main.scope.names.lookup ("super" : Str)).isSome = false)
    (xlInvalidText : K.lookup C_InvalidText = some (excClassObj nm_InvalidText qn_InvalidText C_InvalidText xN_InvalidText bs_InvalidText [.ref C_LineError, .type "ValueError", .type "Exception", .type "BaseException", .type "object"] true sn_InvalidText sb_InvalidText ab_InvalidText col_InvalidText dd_InvalidText m0_InvalidText m1_InvalidText m2_InvalidText m3_InvalidText m5_InvalidText "ValueError.__new__"))
    (xsaInvalidText : PySem.W.findIn K (.ref C_InvalidText) "__setattr__" = some (some (.builtin "object.__setattr__")))
    (xgaInvalidText : PySem.W.findIn K (.ref C_InvalidText) "__getattribute__" = some (some (.builtin "BaseException.__getattribute__")))
    (xggInvalidText : PySem.W.findIn K (.ref C_InvalidText) "__getattr__" = some none)
    (xnoInvalidText : PySem.W.findIn K (.ref C_InvalidText) "value" = some none)
    (xicInvalidText : PySem.W.findIn K (.ref C_InvalidText) "__init__" = some (some (.ref i_InvalidText)))
    (xtiInvalidText : PySem.W.typeIn K (.ref i_InvalidText) = some (.type "function"))
    (xkcInvalidText : PySem.W.keepIn K (.ref C_InvalidText) = true)
    (xveInvalidText : PySem.W.subIn K (.ref C_InvalidText) (.type "ValueError") = some true)
    (xmcInvalidText : PySem.W.mroIn K C_InvalidText (.ref C_InvalidText) = some true)
    (xmoInvalidText : PySem.W.mroIn K C_InvalidText (.type "object") = some true)
    (xhcInvalidText : PySem.W.findIn K (.ref C_InvalidText) "__class__" = some (some (.builtin "object.__class__")))
    (xliInvalidText : K.lookup i_InvalidText = some ⟨oc_InvalidText, od_InvalidText, .func (PySem.W.ksFn "__init__" qual_InvalidText (xA p1_InvalidText p2_InvalidText) (xB ms_InvalidText j_InvalidText q0_InvalidText q1_InvalidText q2_InvalidText q3_InvalidText q4_InvalidText q5_InvalidText q6_InvalidText q7_InvalidText q8_InvalidText q9_InvalidText) xS .none .none doc_InvalidText pm_InvalidText an_InvalidText (.ref cda_InvalidText) ct_InvalidText cc_InvalidText), osl_InvalidText⟩)
    (xcdInvalidText : PySem.W.codeIn K (.ref cda_InvalidText) qual_InvalidText = true)
    (xlcInvalidText : K.lookup cda_InvalidText = some ⟨ccl_InvalidText, cdd_InvalidText, .fields vs_InvalidText, ccs_InvalidText⟩)
    (xlxInvalidText : K.lookup cc_InvalidText = some ⟨cl_InvalidText, cld_InvalidText, .cell (some (.ref C_InvalidText)), csl_InvalidText⟩)
    (ksIInvalidText : PySem.W.ks_superIn K C_InvalidText C_InvalidText "__init__" = some (some (.builtin "ValueError.__init__")))
    (rfVInvalidText : vs_InvalidText[2]? = some (.str file_InvalidText tf_InvalidText))
    (rfFInvalidText : ((PW.main.file : Str) == file_InvalidText) = true)
    (rfLInvalidText : (q2_InvalidText.endLine == q4_InvalidText.line) = true)
    (rfTInvalidText : (PW.main.scope.names.lookup ("super" : Str)).isSome = false)
    (xlInvalidName : K.lookup C_InvalidName = some (excClassObj nm_InvalidName qn_InvalidName C_InvalidName xN_InvalidName bs_InvalidName [.ref C_LineError, .type "ValueError", .type "Exception", .type "BaseException", .type "object"] true sn_InvalidName sb_InvalidName ab_InvalidName col_InvalidName dd_InvalidName m0_InvalidName m1_InvalidName m2_InvalidName m3_InvalidName m5_InvalidName "ValueError.__new__"))
    (xsaInvalidName : PySem.W.findIn K (.ref C_InvalidName) "__setattr__" = some (some (.builtin "object.__setattr__")))
    (xgaInvalidName : PySem.W.findIn K (.ref C_InvalidName) "__getattribute__" = some (some (.builtin "BaseException.__getattribute__")))
    (xggInvalidName : PySem.W.findIn K (.ref C_InvalidName) "__getattr__" = some none)
    (xnoInvalidName : PySem.W.findIn K (.ref C_InvalidName) "value" = some none)
    (xicInvalidName : PySem.W.findIn K (.ref C_InvalidName) "__init__" = some (some (.ref i_InvalidName)))
    (xtiInvalidName : PySem.W.typeIn K (.ref i_InvalidName) = some (.type "function"))
    (xkcInvalidName : PySem.W.keepIn K (.ref C_InvalidName) = true)
    (xveInvalidName : PySem.W.subIn K (.ref C_InvalidName) (.type "ValueError") = some true)
    (xmcInvalidName : PySem.W.mroIn K C_InvalidName (.ref C_InvalidName) = some true)
    (xmoInvalidName : PySem.W.mroIn K C_InvalidName (.type "object") = some true)
    (xhcInvalidName : PySem.W.findIn K (.ref C_InvalidName) "__class__" = some (some (.builtin "object.__class__")))
    (xliInvalidName : K.lookup i_InvalidName = some ⟨oc_InvalidName, od_InvalidName, .func (PySem.W.ksFn "__init__" qual_InvalidName (xA p1_InvalidName p2_InvalidName) (xB ms_InvalidName j_InvalidName q0_InvalidName q1_InvalidName q2_InvalidName q3_InvalidName q4_InvalidName q5_InvalidName q6_InvalidName q7_InvalidName q8_InvalidName q9_InvalidName) xS .none .none doc_InvalidName pm_InvalidName an_InvalidName (.ref cda_InvalidName) ct_InvalidName cc_InvalidName), osl_InvalidName⟩)
    (xcdInvalidName : PySem.W.codeIn K (.ref cda_InvalidName) qual_InvalidName = true)
    (xlcInvalidName : K.lookup cda_InvalidName = some ⟨ccl_InvalidName, cdd_InvalidName, .fields vs_InvalidName, ccs_InvalidName⟩)
    (xlxInvalidName : K.lookup cc_InvalidName = some ⟨cl_InvalidName, cld_InvalidName, .cell (some (.ref C_InvalidName)), csl_InvalidName⟩)
    (ksIInvalidName : PySem.W.ks_superIn K C_InvalidName C_InvalidName "__init__" = some (some (.builtin "ValueError.__init__")))
    (rfVInvalidName : vs_InvalidName[2]? = some (.str file_InvalidName tf_InvalidName))
    (rfFInvalidName : ((PW.main.file : Str) == file_InvalidName) = true)
    (rfLInvalidName : (q2_InvalidName.endLine == q4_InvalidName.line) = true)
    (rfTInvalidName : (PW.main.scope.names.lookup ("super" : Str)).isSome = false)
    (xlInvalidParents : K.lookup C_InvalidParents = some (excClassObj nm_InvalidParents qn_InvalidParents C_InvalidParents xN_InvalidParents bs_InvalidParents [.ref C_LineError, .type "ValueError", .type "Exception", .type "BaseException", .type "object"] true sn_InvalidParents sb_InvalidParents ab_InvalidParents col_InvalidParents dd_InvalidParents m0_InvalidParents m1_InvalidParents m2_InvalidParents m3_InvalidParents m5_InvalidParents "ValueError.__new__"))
    (xsaInvalidParents : PySem.W.findIn K (.ref C_InvalidParents) "__setattr__" = some (some (.builtin "object.__setattr__")))
    (xgaInvalidParents : PySem.W.findIn K (.ref C_InvalidParents) "__getattribute__" = some (some (.builtin "BaseException.__getattribute__")))
    (xggInvalidParents : PySem.W.findIn K (.ref C_InvalidParents) "__getattr__" = some none)
    (xnoInvalidParents : PySem.W.findIn K (.ref C_InvalidParents) "value" = some none)
    (xicInvalidParents : PySem.W.findIn K (.ref C_InvalidParents) "__init__" = some (some (.ref i_InvalidParents)))
    (xtiInvalidParents : PySem.W.typeIn K (.ref i_InvalidParents) = some (.type "function"))
    (xkcInvalidParents : PySem.W.keepIn K (.ref C_InvalidParents) = true)
    (xveInvalidParents : PySem.W.subIn K (.ref C_InvalidParents) (.type "ValueError") = some true)
    (xmcInvalidParents : PySem.W.mroIn K C_InvalidParents (.ref C_InvalidParents) = some true)
    (xmoInvalidParents : PySem.W.mroIn K C_InvalidParents (.type "object") = some true)
    (xhcInvalidParents : PySem.W.findIn K (.ref C_InvalidParents) "__class__" = some (some (.builtin "object.__class__")))
    (xliInvalidParents : K.lookup i_InvalidParents = some ⟨oc_InvalidParents, od_InvalidParents, .func (PySem.W.ksFn "__init__" qual_InvalidParents (xA p1_InvalidParents p2_InvalidParents) (xB ms_InvalidParents j_InvalidParents q0_InvalidParents q1_InvalidParents q2_InvalidParents q3_InvalidParents q4_InvalidParents q5_InvalidParents q6_InvalidParents q7_InvalidParents q8_InvalidParents q9_InvalidParents) xS .none .none doc_InvalidParents pm_InvalidParents an_InvalidParents (.ref cda_InvalidParents) ct_InvalidParents cc_InvalidParents), osl_InvalidParents⟩)
    (xcdInvalidParents : PySem.W.codeIn K (.ref cda_InvalidParents) qual_InvalidParents = true)
    (xlcInvalidParents : K.lookup cda_InvalidParents = some ⟨ccl_InvalidParents, cdd_InvalidParents, .fields vs_InvalidParents, ccs_InvalidParents⟩)
    (xlxInvalidParents : K.lookup cc_InvalidParents = some ⟨cl_InvalidParents, cld_InvalidParents, .cell (some (.ref C_InvalidParents)), csl_InvalidParents⟩)
    (ksIInvalidParents : PySem.W.ks_superIn K C_InvalidParents C_InvalidParents "__init__" = some (some (.builtin "ValueError.__init__")))
    (rfVInvalidParents : vs_InvalidParents[2]? = some (.str file_InvalidParents tf_InvalidParents))
    (rfFInvalidParents : ((PW.main.file : Str) == file_InvalidParents) = true)
    (rfLInvalidParents : (q2_InvalidParents.endLine == q4_InvalidParents.line) = true)
    (rfTInvalidParents : (PW.main.scope.names.lookup ("super" : Str)).isSome = false)
    (a1 : PySem.W.nsIn K mainGlobals "is_sign" = some (some (.ref f1)))
    (l1 : K.lookup f1 = some ⟨oc1, od1, .func (PySem.W.fnOf "is_sign" "is_sign" (defArgs sIsSign) (defBody sIsSign) (defScope sIsSign) .none kV1 dc1 pm1 an1 cd1 ct1), sl1⟩)
    (c1 : PySem.W.codeIn K cd1 "is_sign" = true)
    (k1 : PySem.W.keepIn K (.ref f1) = true)
    (a2 : PySem.W.nsIn K mainGlobals "is_line" = some (some (.ref f2)))
    (l2 : K.lookup f2 = some ⟨oc2, od2, .func (PySem.W.fnOf "is_line" "is_line" (defArgs sIsLine) (defBody sIsLine) (defScope sIsLine) .none kV2 dc2 pm2 an2 cd2 ct2), sl2⟩)
    (c2 : PySem.W.codeIn K cd2 "is_line" = true)
    (k2 : PySem.W.keepIn K (.ref f2) = true)
    (a3 : PySem.W.nsIn K mainGlobals "is_text" = some (some (.ref f3)))
    (l3 : K.lookup f3 = some ⟨oc3, od3, .func (PySem.W.fnOf "is_text" "is_text" (defArgs sIsText) (defBody sIsText) (defScope sIsText) .none kV3 dc3 pm3 an3 cd3 ct3), sl3⟩)
    (c3 : PySem.W.codeIn K cd3 "is_text" = true)
    (k3 : PySem.W.keepIn K (.ref f3) = true)
    (a4 : PySem.W.nsIn K mainGlobals "is_integer" = some (some (.ref f4)))
    (l4 : K.lookup f4 = some ⟨oc4, od4, .func (PySem.W.fnOf "is_integer" "is_integer" (defArgs sIsInteger) (defBody sIsInteger) (defScope sIsInteger) .none kV4 dc4 pm4 an4 cd4 ct4), sl4⟩)
    (c4 : PySem.W.codeIn K cd4 "is_integer" = true)
    (k4 : PySem.W.keepIn K (.ref f4) = true)
    (a5 : PySem.W.nsIn K mainGlobals "is_count" = some (some (.ref f5)))
    (l5 : K.lookup f5 = some ⟨oc5, od5, .func (PySem.W.fnOf "is_count" "is_count" (defArgs sIsCount) (defBody sIsCount) (defScope sIsCount) .none kV5 dc5 pm5 an5 cd5 ct5), sl5⟩)
    (c5 : PySem.W.codeIn K cd5 "is_count" = true)
    (k5 : PySem.W.keepIn K (.ref f5) = true)
    (a6 : PySem.W.nsIn K mainGlobals "is_name" = some (some (.ref f6)))
    (l6 : K.lookup f6 = some ⟨oc6, od6, .func (PySem.W.fnOf "is_name" "is_name" (defArgs sIsName) (defBody sIsName) (defScope sIsName) .none kV6 dc6 pm6 an6 cd6 ct6), sl6⟩)
    (c6 : PySem.W.codeIn K cd6 "is_name" = true)
    (k6 : PySem.W.keepIn K (.ref f6) = true)
    (a7 : PySem.W.nsIn K mainGlobals "are_parents" = some (some (.ref f7)))
    (l7 : K.lookup f7 = some ⟨oc7, od7, .func (PySem.W.fnOf "are_parents" "are_parents" (defArgs sAreParents) (defBody sAreParents) (defScope sAreParents) .none kV7 dc7 pm7 an7 cd7 ct7), sl7⟩)
    (c7 : PySem.W.codeIn K cd7 "are_parents" = true)
    (k7 : PySem.W.keepIn K (.ref f7) = true)
    (a8 : PySem.W.findIn K (.ref C_Version) "__init__" = some (some (.ref f8)))
    (i8 : PySem.W.isFn K (.ref f8) = true)
    (l8 : K.lookup f8 = some ⟨oc8, od8, .func (PySem.W.fnOf "__init__" "Version.__init__" (defArgs sVersionInit) (defBody sVersionInit) (defScope sVersionInit) .none (.ref D8) dc8 pm8 an8 cd8 ct8), sl8⟩)
    (c8 : PySem.W.codeIn K cd8 "Version.__init__" = true)
    (k8 : PySem.W.keepIn K (.ref f8) = true)
    (kd8_0 : PySem.W.nsIn K D8 "parents" = some (some (.ref u8_0)))
    (ul8_0 : K.lookup u8_0 = some ⟨.type "tuple", ud8_0, .seq #[] un8_0, us8_0⟩)
    (kd8_1 : PySem.W.nsIn K D8 "author" = some (some (.str "anon" kt8_1)))
    (a9 : PySem.W.findIn K (.ref C_Version) "lines" = some (some (.ref p9)))
    (g9 : PySem.W.specialIn K (.ref p9) "__get__" = some (some (.builtin "property.__get__")))
    (tp9 : PySem.W.takesIn K (.ref p9) = some true)
    (r9 : PySem.W.recIn K p9 "property" = some (.ref f9 :: rs9))
    (l9 : K.lookup f9 = some ⟨oc9, od9, .func (PySem.W.fnOf "lines" "Version.lines" (defArgs sVersionLines) (defBody sVersionLines) (defScope sVersionLines) .none kV9 dc9 pm9 an9 cd9 ct9), sl9⟩)
    (c9 : PySem.W.codeIn K cd9 "Version.lines" = true)
    (k9 : PySem.W.keepIn K (.ref f9) = true)
    (a10 : PySem.W.findIn K (.ref C_Version) "parents" = some (some (.ref p10)))
    (g10 : PySem.W.specialIn K (.ref p10) "__get__" = some (some (.builtin "property.__get__")))
    (tp10 : PySem.W.takesIn K (.ref p10) = some true)
    (r10 : PySem.W.recIn K p10 "property" = some (.ref f10 :: rs10))
    (l10 : K.lookup f10 = some ⟨oc10, od10, .func (PySem.W.fnOf "parents" "Version.parents" (defArgs sVersionParents) (defBody sVersionParents) (defScope sVersionParents) .none kV10 dc10 pm10 an10 cd10 ct10), sl10⟩)
    (c10 : PySem.W.codeIn K cd10 "Version.parents" = true)
    (k10 : PySem.W.keepIn K (.ref f10) = true)
    (a11 : PySem.W.findIn K (.ref C_Version) "author" = some (some (.ref p11)))
    (g11 : PySem.W.specialIn K (.ref p11) "__get__" = some (some (.builtin "property.__get__")))
    (tp11 : PySem.W.takesIn K (.ref p11) = some true)
    (r11 : PySem.W.recIn K p11 "property" = some (.ref f11 :: rs11))
    (l11 : K.lookup f11 = some ⟨oc11, od11, .func (PySem.W.fnOf "author" "Version.author" (defArgs sVersionAuthor) (defBody sVersionAuthor) (defScope sVersionAuthor) .none kV11 dc11 pm11 an11 cd11 ct11), sl11⟩)
    (c11 : PySem.W.codeIn K cd11 "Version.author" = true)
    (k11 : PySem.W.keepIn K (.ref f11) = true)
    (a12 : PySem.W.findIn K (.ref C_Version) "__len__" = some (some (.ref f12)))
    (i12 : PySem.W.isFn K (.ref f12) = true)
    (l12 : K.lookup f12 = some ⟨oc12, od12, .func (PySem.W.fnOf "__len__" "Version.__len__" (defArgs sVersionLen) (defBody sVersionLen) (defScope sVersionLen) .none kV12 dc12 pm12 an12 cd12 ct12), sl12⟩)
    (c12 : PySem.W.codeIn K cd12 "Version.__len__" = true)
    (k12 : PySem.W.keepIn K (.ref f12) = true)
    (a13 : PySem.W.findIn K (.ref C_Version) "__contains__" = some (some (.ref f13)))
    (i13 : PySem.W.isFn K (.ref f13) = true)
    (l13 : K.lookup f13 = some ⟨oc13, od13, .func (PySem.W.fnOf "__contains__" "Version.__contains__" (defArgs sVersionContains) (defBody sVersionContains) (defScope sVersionContains) .none kV13 dc13 pm13 an13 cd13 ct13), sl13⟩)
    (c13 : PySem.W.codeIn K cd13 "Version.__contains__" = true)
    (k13 : PySem.W.keepIn K (.ref f13) = true)
    (a14 : PySem.W.findIn K (.ref C_Version) "__getitem__" = some (some (.ref f14)))
    (i14 : PySem.W.isFn K (.ref f14) = true)
    (l14 : K.lookup f14 = some ⟨oc14, od14, .func (PySem.W.fnOf "__getitem__" "Version.__getitem__" (defArgs sVersionGetitem) (defBody sVersionGetitem) (defScope sVersionGetitem) .none kV14 dc14 pm14 an14 cd14 ct14), sl14⟩)
    (c14 : PySem.W.codeIn K cd14 "Version.__getitem__" = true)
    (k14 : PySem.W.keepIn K (.ref f14) = true)
    (a15 : PySem.W.findIn K (.ref C_Version) "__eq__" = some (some (.ref f15)))
    (i15 : PySem.W.isFn K (.ref f15) = true)
    (l15 : K.lookup f15 = some ⟨oc15, od15, .func (PySem.W.fnOf "__eq__" "Version.__eq__" (defArgs sVersionEq) (defBody sVersionEq) (defScope sVersionEq) .none kV15 dc15 pm15 an15 cd15 ct15), sl15⟩)
    (c15 : PySem.W.codeIn K cd15 "Version.__eq__" = true)
    (k15 : PySem.W.keepIn K (.ref f15) = true)
    (ne15 : PySem.W.findIn K (.ref C_Version) "__ne__" = some (some (.builtin "object.__ne__")))
    (a16 : PySem.W.nsIn K mainGlobals "can_stand" = some (some (.ref f16)))
    (l16 : K.lookup f16 = some ⟨oc16, od16, .func (PySem.W.fnOf "can_stand" "can_stand" (defArgs sCanStand) (defBody sCanStand) (defScope sCanStand) .none kV16 dc16 pm16 an16 cd16 ct16), sl16⟩)
    (c16 : PySem.W.codeIn K cd16 "can_stand" = true)
    (k16 : PySem.W.keepIn K (.ref f16) = true)
    (a17 : PySem.W.findIn K (.ref C_History) "__init__" = some (some (.ref f17)))
    (i17 : PySem.W.isFn K (.ref f17) = true)
    (l17 : K.lookup f17 = some ⟨oc17, od17, .func (PySem.W.fnOf "__init__" "History.__init__" (defArgs sHistoryInit) (defBody sHistoryInit) (defScope sHistoryInit) (.ref T17) kV17 dc17 pm17 an17 cd17 ct17), sl17⟩)
    (c17 : PySem.W.codeIn K cd17 "History.__init__" = true)
    (k17 : PySem.W.keepIn K (.ref f17) = true)
    (lt17 : K.lookup T17 = some ⟨tc17, tD17, .seq #[.ref u17_0] nn17, ts17⟩)
    (ul17_0 : K.lookup u17_0 = some ⟨.type "tuple", ud17_0, .seq #[] un17_0, us17_0⟩)
    (a18 : PySem.W.findIn K (.ref C_History) "__iter__" = some (some (.ref f18)))
    (i18 : PySem.W.isFn K (.ref f18) = true)
    (l18 : K.lookup f18 = some ⟨oc18, od18, .func (PySem.W.fnOf "__iter__" "History.__iter__" (defArgs sHistoryIter) (defBody sHistoryIter) (defScope sHistoryIter) .none kV18 dc18 pm18 an18 cd18 ct18), sl18⟩)
    (c18 : PySem.W.codeIn K cd18 "History.__iter__" = true)
    (k18 : PySem.W.keepIn K (.ref f18) = true)
    (a19 : PySem.W.findIn K (.ref C_History) "__len__" = some (some (.ref f19)))
    (i19 : PySem.W.isFn K (.ref f19) = true)
    (l19 : K.lookup f19 = some ⟨oc19, od19, .func (PySem.W.fnOf "__len__" "History.__len__" (defArgs sHistoryLen) (defBody sHistoryLen) (defScope sHistoryLen) .none kV19 dc19 pm19 an19 cd19 ct19), sl19⟩)
    (c19 : PySem.W.codeIn K cd19 "History.__len__" = true)
    (k19 : PySem.W.keepIn K (.ref f19) = true)
    (a20 : PySem.W.findIn K (.ref C_History) "__contains__" = some (some (.ref f20)))
    (i20 : PySem.W.isFn K (.ref f20) = true)
    (l20 : K.lookup f20 = some ⟨oc20, od20, .func (PySem.W.fnOf "__contains__" "History.__contains__" (defArgs sHistoryContains) (defBody sHistoryContains) (defScope sHistoryContains) .none kV20 dc20 pm20 an20 cd20 ct20), sl20⟩)
    (c20 : PySem.W.codeIn K cd20 "History.__contains__" = true)
    (k20 : PySem.W.keepIn K (.ref f20) = true)
    (a21 : PySem.W.findIn K (.ref C_History) "__eq__" = some (some (.ref f21)))
    (i21 : PySem.W.isFn K (.ref f21) = true)
    (l21 : K.lookup f21 = some ⟨oc21, od21, .func (PySem.W.fnOf "__eq__" "History.__eq__" (defArgs sHistoryEq) (defBody sHistoryEq) (defScope sHistoryEq) .none kV21 dc21 pm21 an21 cd21 ct21), sl21⟩)
    (c21 : PySem.W.codeIn K cd21 "History.__eq__" = true)
    (k21 : PySem.W.keepIn K (.ref f21) = true)
    (ne21 : PySem.W.findIn K (.ref C_History) "__ne__" = some (some (.builtin "object.__ne__")))
    (a22 : PySem.W.findIn K (.ref C_History) "check" = some (some (.ref f22)))
    (i22 : PySem.W.isFn K (.ref f22) = true)
    (l22 : K.lookup f22 = some ⟨oc22, od22, .func (PySem.W.fnOf "check" "History.check" (defArgs sHistoryCheck) (defBody sHistoryCheck) (defScope sHistoryCheck) .none kV22 dc22 pm22 an22 cd22 ct22), sl22⟩)
    (c22 : PySem.W.codeIn K cd22 "History.check" = true)
    (k22 : PySem.W.keepIn K (.ref f22) = true)
    (a23 : PySem.W.findIn K (.ref C_History) "version" = some (some (.ref f23)))
    (i23 : PySem.W.isFn K (.ref f23) = true)
    (l23 : K.lookup f23 = some ⟨oc23, od23, .func (PySem.W.fnOf "version" "History.version" (defArgs sHistoryVersion) (defBody sHistoryVersion) (defScope sHistoryVersion) .none kV23 dc23 pm23 an23 cd23 ct23), sl23⟩)
    (c23 : PySem.W.codeIn K cd23 "History.version" = true)
    (k23 : PySem.W.keepIn K (.ref f23) = true)
    (a24 : PySem.W.nsIn K mainGlobals "is_count_word" = some (some (.ref f24)))
    (l24 : K.lookup f24 = some ⟨oc24, od24, .func (PySem.W.fnOf "is_count_word" "is_count_word" (defArgs sIsCountWord) (defBody sIsCountWord) (defScope sIsCountWord) .none kV24 dc24 pm24 an24 cd24 ct24), sl24⟩)
    (c24 : PySem.W.codeIn K cd24 "is_count_word" = true)
    (k24 : PySem.W.keepIn K (.ref f24) = true)
    (a25 : PySem.W.nsIn K mainGlobals "count_in" = some (some (.ref f25)))
    (l25 : K.lookup f25 = some ⟨oc25, od25, .func (PySem.W.fnOf "count_in" "count_in" (defArgs sCountIn) (defBody sCountIn) (defScope sCountIn) .none kV25 dc25 pm25 an25 cd25 ct25), sl25⟩)
    (c25 : PySem.W.codeIn K cd25 "count_in" = true)
    (k25 : PySem.W.keepIn K (.ref f25) = true)
    (a26 : PySem.W.nsIn K mainGlobals "format_parents" = some (some (.ref f26)))
    (l26 : K.lookup f26 = some ⟨oc26, od26, .func (PySem.W.fnOf "format_parents" "format_parents" (defArgs sFormatParents) (defBody sFormatParents) (defScope sFormatParents) .none kV26 dc26 pm26 an26 cd26 ct26), sl26⟩)
    (c26 : PySem.W.codeIn K cd26 "format_parents" = true)
    (k26 : PySem.W.keepIn K (.ref f26) = true)
    (a27 : PySem.W.nsIn K mainGlobals "format_history" = some (some (.ref f27)))
    (l27 : K.lookup f27 = some ⟨oc27, od27, .func (PySem.W.fnOf "format_history" "format_history" (defArgs sFormatHistory) (defBody sFormatHistory) (defScope sFormatHistory) .none kV27 dc27 pm27 an27 cd27 ct27), sl27⟩)
    (c27 : PySem.W.codeIn K cd27 "format_history" = true)
    (k27 : PySem.W.keepIn K (.ref f27) = true)
    (a28 : PySem.W.nsIn K mainGlobals "parents_in" = some (some (.ref f28)))
    (l28 : K.lookup f28 = some ⟨oc28, od28, .func (PySem.W.fnOf "parents_in" "parents_in" (defArgs sParentsIn) (defBody sParentsIn) (defScope sParentsIn) .none kV28 dc28 pm28 an28 cd28 ct28), sl28⟩)
    (c28 : PySem.W.codeIn K cd28 "parents_in" = true)
    (k28 : PySem.W.keepIn K (.ref f28) = true)
    (a29 : PySem.W.nsIn K mainGlobals "head_in" = some (some (.ref f29)))
    (l29 : K.lookup f29 = some ⟨oc29, od29, .func (PySem.W.fnOf "head_in" "head_in" (defArgs sHeadIn) (defBody sHeadIn) (defScope sHeadIn) .none kV29 dc29 pm29 an29 cd29 ct29), sl29⟩)
    (c29 : PySem.W.codeIn K cd29 "head_in" = true)
    (k29 : PySem.W.keepIn K (.ref f29) = true)
    (a30 : PySem.W.nsIn K mainGlobals "parse_history" = some (some (.ref f30)))
    (l30 : K.lookup f30 = some ⟨oc30, od30, .func (PySem.W.fnOf "parse_history" "parse_history" (defArgs sParseHistory) (defBody sParseHistory) (defScope sParseHistory) .none kV30 dc30 pm30 an30 cd30 ct30), sl30⟩)
    (c30 : PySem.W.codeIn K cd30 "parse_history" = true)
    (k30 : PySem.W.keepIn K (.ref f30) = true)
    (a31 : PySem.W.nsIn K mainGlobals "_law_pool" = some (some (.ref f31)))
    (l31 : K.lookup f31 = some ⟨oc31, od31, .func (PySem.W.fnOf "_law_pool" "_law_pool" (defArgs sLawPool) (defBody sLawPool) (defScope sLawPool) .none kV31 dc31 pm31 an31 cd31 ct31), sl31⟩)
    (c31 : PySem.W.codeIn K cd31 "_law_pool" = true)
    (k31 : PySem.W.keepIn K (.ref f31) = true)
    (a32 : PySem.W.nsIn K mainGlobals "_law_mixed" = some (some (.ref f32)))
    (l32 : K.lookup f32 = some ⟨oc32, od32, .func (PySem.W.fnOf "_law_mixed" "_law_mixed" (defArgs sLawMixed) (defBody sLawMixed) (defScope sLawMixed) .none kV32 dc32 pm32 an32 cd32 ct32), sl32⟩)
    (c32 : PySem.W.codeIn K cd32 "_law_mixed" = true)
    (k32 : PySem.W.keepIn K (.ref f32) = true)
    (a33 : PySem.W.nsIn K mainGlobals "_law_draw" = some (some (.ref f33)))
    (l33 : K.lookup f33 = some ⟨oc33, od33, .func (PySem.W.fnOf "_law_draw" "_law_draw" (defArgs sLawDraw) (defBody sLawDraw) (defScope sLawDraw) .none kV33 dc33 pm33 an33 cd33 ct33), sl33⟩)
    (c33 : PySem.W.codeIn K cd33 "_law_draw" = true)
    (k33 : PySem.W.keepIn K (.ref f33) = true)
    (a34 : PySem.W.nsIn K mainGlobals "_law_made" = some (some (.ref f34)))
    (l34 : K.lookup f34 = some ⟨oc34, od34, .func (PySem.W.fnOf "_law_made" "_law_made" (defArgs sLawMade) (defBody sLawMade) (defScope sLawMade) .none kV34 dc34 pm34 an34 cd34 ct34), sl34⟩)
    (c34 : PySem.W.codeIn K cd34 "_law_made" = true)
    (k34 : PySem.W.keepIn K (.ref f34) = true)
    (a35 : PySem.W.nsIn K mainGlobals "_law_text" = some (some (.ref f35)))
    (l35 : K.lookup f35 = some ⟨oc35, od35, .func (PySem.W.fnOf "_law_text" "_law_text" (defArgs sLawText) (defBody sLawText) (defScope sLawText) .none kV35 dc35 pm35 an35 cd35 ct35), sl35⟩)
    (c35 : PySem.W.codeIn K cd35 "_law_text" = true)
    (k35 : PySem.W.keepIn K (.ref f35) = true)
    (a36 : PySem.W.nsIn K mainGlobals "_law_rows" = some (some (.ref f36)))
    (l36 : K.lookup f36 = some ⟨oc36, od36, .func (PySem.W.fnOf "_law_rows" "_law_rows" (defArgs sLawRows) (defBody sLawRows) (defScope sLawRows) .none kV36 dc36 pm36 an36 cd36 ct36), sl36⟩)
    (c36 : PySem.W.codeIn K cd36 "_law_rows" = true)
    (k36 : PySem.W.keepIn K (.ref f36) = true)
    (a37 : PySem.W.nsIn K mainGlobals "law" = some (some (.ref f37)))
    (l37 : K.lookup f37 = some ⟨oc37, od37, .func (PySem.W.fnOf "law" "law" (defArgs sLaw) (defBody sLaw) (defScope sLaw) .none kV37 dc37 pm37 an37 cd37 ct37), sl37⟩)
    (c37 : PySem.W.codeIn K cd37 "law" = true)
    (k37 : PySem.W.keepIn K (.ref f37) = true)
    (z0 : PySem.W.nsIn K mainGlobals "isinstance" = some none)
    (z1 : PySem.W.nsIn K mainGlobals "str" = some none)
    (z2 : PySem.W.nsIn K mainGlobals "MOST_SIGNS" = some (some (.int 40 t2)))
    (z3 : PySem.W.nsIn K mainGlobals "all" = some none)
    (z4 : PySem.W.nsIn K mainGlobals "len" = some none)
    (z6 : PySem.W.nsIn K mainGlobals "MOST_LINES" = some (some (.int 12 t6)))
    (z7 : PySem.W.nsIn K mainGlobals "list" = some none)
    (z8 : PySem.W.nsIn K mainGlobals "tuple" = some none)
    (z10 : PySem.W.nsIn K mainGlobals "int" = some none)
    (z11 : PySem.W.nsIn K mainGlobals "bool" = some none)
    (z13 : PySem.W.nsIn K mainGlobals "LONGEST_NAME" = some (some (.int 8 t13)))
    (z14 : PySem.W.nsIn K mainGlobals "SMALL" = some (some (.str "abcdefghijklmnopqrstuvwxyz" t14)))
    (z15 : PySem.W.nsIn K mainGlobals "MOST_PARENTS" = some (some (.int 3 t15)))
    (z17 : PySem.W.nsIn K mainGlobals "set" = some none)
    (z24 : PySem.W.nsIn K mainGlobals "sorted" = some none)
    (z25 : PySem.W.nsIn K mainGlobals "property" = some none)
    (z28 : PySem.W.nsIn K mainGlobals "enumerate" = some none)
    (z29 : PySem.W.nsIn K mainGlobals "MOST_VERSIONS" = some (some (.int 10 t29)))
    (z33 : PySem.W.nsIn K mainGlobals "iter" = some none)
    (z35 : PySem.W.nsIn K mainGlobals "MOST_DIGITS" = some (some (.int 30 t35)))
    (z36 : PySem.W.nsIn K mainGlobals "DIGITS" = some (some (.str "0123456789" t36)))
    (z41 : PySem.W.nsIn K mainGlobals "zip" = some none)
    (z45 : PySem.W.nsIn K mainGlobals "range" = some none)
    (z47 : PySem.W.nsIn K mainGlobals "max" = some none) :
    ∃ fd : FuncData, (∀ (s : Shared) (v : Value), BindsTo s fd ⟨[v], []⟩ [("_law_script", v)]) ∧ ∀ base : Heap, K.In base → base.Ns mainGlobals mg → FnOk PW w K mg base CX0 8 fa fd ["_law_script"] (spLaw K) := by
  have e := hfa.symm.trans (PySem.W.mg_of X G a37)
  cases e
  have F1 := fun_mk (st := sIsSign) l1 c1 k1
  have b1 := F1.binds (ps := ["sign"]) fun _ _ _ _ _ _ us hl => match us, hl with | [_], _ => rfl
  have F2 := fun_mk (st := sIsLine) l2 c2 k2
  have b2 := F2.binds (ps := ["value"]) fun _ _ _ _ _ _ us hl => match us, hl with | [_], _ => rfl
  have F3 := fun_mk (st := sIsText) l3 c3 k3
  have b3 := F3.binds (ps := ["value"]) fun _ _ _ _ _ _ us hl => match us, hl with | [_], _ => rfl
  have F4 := fun_mk (st := sIsInteger) l4 c4 k4
  have b4 := F4.binds (ps := ["value"]) fun _ _ _ _ _ _ us hl => match us, hl with | [_], _ => rfl
  have F5 := fun_mk (st := sIsCount) l5 c5 k5
  have b5 := F5.binds (ps := ["value"]) fun _ _ _ _ _ _ us hl => match us, hl with | [_], _ => rfl
  have F6 := fun_mk (st := sIsName) l6 c6 k6
  have b6 := F6.binds (ps := ["value"]) fun _ _ _ _ _ _ us hl => match us, hl with | [_], _ => rfl
  have F7 := fun_mk (st := sAreParents) l7 c7 k7
  have b7 := F7.binds (ps := ["value"]) fun _ _ _ _ _ _ us hl => match us, hl with | [_], _ => rfl
  have F8 : FunD K "__init__" "Version.__init__" (defArgs sVersionInit) (defBody sVersionInit) (defScope sVersionInit) [] [("parents", .ref u8_0), ("author", .str "anon")] f8 (PySem.W.fnOf "__init__" "Version.__init__" (defArgs sVersionInit) (defBody sVersionInit) (defScope sVersionInit) .none (.ref D8) dc8 pm8 an8 cd8 ct8) := ⟨⟨_, _, _, _, _, _, _, _, _, _, rfl, l8, c8, Or.inl ⟨rfl, rfl⟩, Or.inr ⟨_, rfl, by intro q hq; simp only [List.mem_cons, List.not_mem_nil, or_false] at hq; rcases hq with rfl | rfl; exact ⟨_, kd8_0, rfl⟩; exact ⟨_, kd8_1, ⟨_, rfl⟩⟩⟩⟩, k8⟩
  have kb0_8 := F8.kbinds0 (ps := ["self", "lines", "parents", "author"]) 2 ["parents", "author"] [] (fun us mv ws => pick [0, 1, 2, 3] (us ++ mv ++ ws)) (by simp) (by simp) (fun r1 r2 r3 => pick_rel _ ((r1.append r2).append r3)) fun _ _ _ _ _ _ us mv ws h1 h2 h3 => match us, mv, ws, h1, h2, h3 with | [_, _], [], [_, _], _, _, _ => rfl
  have F9 := fun_mk (st := sVersionLines) l9 c9 k9
  have b9 := F9.binds (ps := ["self"]) fun _ _ _ _ _ _ us hl => match us, hl with | [_], _ => rfl
  have F10 := fun_mk (st := sVersionParents) l10 c10 k10
  have b10 := F10.binds (ps := ["self"]) fun _ _ _ _ _ _ us hl => match us, hl with | [_], _ => rfl
  have F11 := fun_mk (st := sVersionAuthor) l11 c11 k11
  have b11 := F11.binds (ps := ["self"]) fun _ _ _ _ _ _ us hl => match us, hl with | [_], _ => rfl
  have F12 := fun_mk (st := sVersionLen) l12 c12 k12
  have b12 := F12.binds (ps := ["self"]) fun _ _ _ _ _ _ us hl => match us, hl with | [_], _ => rfl
  have F13 := fun_mk (st := sVersionContains) l13 c13 k13
  have b13 := F13.binds (ps := ["self", "line"]) fun _ _ _ _ _ _ us hl => match us, hl with | [_, _], _ => rfl
  have F14 := fun_mk (st := sVersionGetitem) l14 c14 k14
  have b14 := F14.binds (ps := ["self", "index"]) fun _ _ _ _ _ _ us hl => match us, hl with | [_, _], _ => rfl
  have F15 := fun_mk (st := sVersionEq) l15 c15 k15
  have b15 := F15.binds (ps := ["self", "other"]) fun _ _ _ _ _ _ us hl => match us, hl with | [_, _], _ => rfl
  have F16 := fun_mk (st := sCanStand) l16 c16 k16
  have b16 := F16.binds (ps := ["value", "number"]) fun _ _ _ _ _ _ us hl => match us, hl with | [_, _], _ => rfl
  have F17 : FunD K "__init__" "History.__init__" (defArgs sHistoryInit) (defBody sHistoryInit) (defScope sHistoryInit) [.ref u17_0] [] f17 (PySem.W.fnOf "__init__" "History.__init__" (defArgs sHistoryInit) (defBody sHistoryInit) (defScope sHistoryInit) (.ref T17) kV17 dc17 pm17 an17 cd17 ct17) := ⟨⟨_, _, _, _, _, _, _, _, _, _, rfl, l17, c17, Or.inr ⟨by simp, _, _, _, _, rfl, lt17, rfl, (.cons rfl .nil)⟩, Or.inl rfl⟩, k17⟩
  have b17 : Binds K (PySem.W.fnOf "__init__" "History.__init__" (defArgs sHistoryInit) (defBody sHistoryInit) (defScope sHistoryInit) (.ref T17) kV17 dc17 pm17 an17 cd17 ct17) ["self", "versions"] [] := by
    obtain ⟨ds, v, b⟩ := F17.binds1 (ps := ["self", "versions"]) 2 1 (by simp) (by first | decide | rfl) fun _ _ _ _ _ _ _ us its h1 h2 => match us, its, h1, h2 with | [_, _], [_], _, _ => ⟨_, rfl, rfl⟩
    cases v
    exact b
  have e1_17 := F17.binds1 (ps := ["self", "versions"]) 1 0 (by simp) (by first | decide | rfl) fun _ _ _ _ _ _ _ us its h1 h2 => match us, its, h1, h2 with | [_], [_], _, _ => ⟨_, rfl, rfl⟩
  have F18 := fun_mk (st := sHistoryIter) l18 c18 k18
  have b18 := F18.binds (ps := ["self"]) fun _ _ _ _ _ _ us hl => match us, hl with | [_], _ => rfl
  have F19 := fun_mk (st := sHistoryLen) l19 c19 k19
  have b19 := F19.binds (ps := ["self"]) fun _ _ _ _ _ _ us hl => match us, hl with | [_], _ => rfl
  have F20 := fun_mk (st := sHistoryContains) l20 c20 k20
  have b20 := F20.binds (ps := ["self", "number"]) fun _ _ _ _ _ _ us hl => match us, hl with | [_, _], _ => rfl
  have F21 := fun_mk (st := sHistoryEq) l21 c21 k21
  have b21 := F21.binds (ps := ["self", "other"]) fun _ _ _ _ _ _ us hl => match us, hl with | [_, _], _ => rfl
  have F22 := fun_mk (st := sHistoryCheck) l22 c22 k22
  have b22 := F22.binds (ps := ["self", "number"]) fun _ _ _ _ _ _ us hl => match us, hl with | [_, _], _ => rfl
  have F23 := fun_mk (st := sHistoryVersion) l23 c23 k23
  have b23 := F23.binds (ps := ["self", "number"]) fun _ _ _ _ _ _ us hl => match us, hl with | [_, _], _ => rfl
  have F24 := fun_mk (st := sIsCountWord) l24 c24 k24
  have b24 := F24.binds (ps := ["word"]) fun _ _ _ _ _ _ us hl => match us, hl with | [_], _ => rfl
  have F25 := fun_mk (st := sCountIn) l25 c25 k25
  have b25 := F25.binds (ps := ["word"]) fun _ _ _ _ _ _ us hl => match us, hl with | [_], _ => rfl
  have F26 := fun_mk (st := sFormatParents) l26 c26 k26
  have b26 := F26.binds (ps := ["parents"]) fun _ _ _ _ _ _ us hl => match us, hl with | [_], _ => rfl
  have F27 := fun_mk (st := sFormatHistory) l27 c27 k27
  have b27 := F27.binds (ps := ["history"]) fun _ _ _ _ _ _ us hl => match us, hl with | [_], _ => rfl
  have F28 := fun_mk (st := sParentsIn) l28 c28 k28
  have b28 := F28.binds (ps := ["word", "number"]) fun _ _ _ _ _ _ us hl => match us, hl with | [_, _], _ => rfl
  have F29 := fun_mk (st := sHeadIn) l29 c29 k29
  have b29 := F29.binds (ps := ["row", "number"]) fun _ _ _ _ _ _ us hl => match us, hl with | [_, _], _ => rfl
  have F30 := fun_mk (st := sParseHistory) l30 c30 k30
  have b30 := F30.binds (ps := ["text"]) fun _ _ _ _ _ _ us hl => match us, hl with | [_], _ => rfl
  have F31 := fun_mk (st := sLawPool) l31 c31 k31
  have b31 := F31.binds (ps := ["_law_script"]) fun _ _ _ _ _ _ us hl => match us, hl with | [_], _ => rfl
  have F32 := fun_mk (st := sLawMixed) l32 c32 k32
  have b32 := F32.binds (ps := ["_law_number", "_law_count", "_law_many"]) fun _ _ _ _ _ _ us hl => match us, hl with | [_, _, _], _ => rfl
  have F33 := fun_mk (st := sLawDraw) l33 c33 k33
  have b33 := F33.binds (ps := ["_law_pool_here", "_law_many"]) fun _ _ _ _ _ _ us hl => match us, hl with | [_, _], _ => rfl
  have F34 := fun_mk (st := sLawMade) l34 c34 k34
  have b34 := F34.binds (ps := ["_law_rows_here"]) fun _ _ _ _ _ _ us hl => match us, hl with | [_], _ => rfl
  have F35 := fun_mk (st := sLawText) l35 c35 k35
  have b35 := F35.binds (ps := ["_law_rows_here"]) fun _ _ _ _ _ _ us hl => match us, hl with | [_], _ => rfl
  have F36 := fun_mk (st := sLawRows) l36 c36 k36
  have b36 := F36.binds (ps := ["_law_pool_here"]) fun _ _ _ _ _ _ us hl => match us, hl with | [_], _ => rfl
  have F37 := fun_mk (st := sLaw) l37 c37 k37
  have b37 := F37.binds (ps := ["_law_script"]) fun _ _ _ _ _ _ us hl => match us, hl with | [_], _ => rfl
  have T : Txt K mg ⟨C_Version, C_History, C_LineError, C_InvalidNumber, C_InvalidText, C_InvalidName, C_InvalidParents, i_InvalidNumber, i_InvalidText, i_InvalidName, i_InvalidParents, f1, PySem.W.fnOf "is_sign" "is_sign" (defArgs sIsSign) (defBody sIsSign) (defScope sIsSign) .none kV1 dc1 pm1 an1 cd1 ct1, f2, PySem.W.fnOf "is_line" "is_line" (defArgs sIsLine) (defBody sIsLine) (defScope sIsLine) .none kV2 dc2 pm2 an2 cd2 ct2, f3, PySem.W.fnOf "is_text" "is_text" (defArgs sIsText) (defBody sIsText) (defScope sIsText) .none kV3 dc3 pm3 an3 cd3 ct3, f4, PySem.W.fnOf "is_integer" "is_integer" (defArgs sIsInteger) (defBody sIsInteger) (defScope sIsInteger) .none kV4 dc4 pm4 an4 cd4 ct4, f5, PySem.W.fnOf "is_count" "is_count" (defArgs sIsCount) (defBody sIsCount) (defScope sIsCount) .none kV5 dc5 pm5 an5 cd5 ct5, f6, PySem.W.fnOf "is_name" "is_name" (defArgs sIsName) (defBody sIsName) (defScope sIsName) .none kV6 dc6 pm6 an6 cd6 ct6, f7, PySem.W.fnOf "are_parents" "are_parents" (defArgs sAreParents) (defBody sAreParents) (defScope sAreParents) .none kV7 dc7 pm7 an7 cd7 ct7, f8, PySem.W.fnOf "__init__" "Version.__init__" (defArgs sVersionInit) (defBody sVersionInit) (defScope sVersionInit) .none (.ref D8) dc8 pm8 an8 cd8 ct8, u8_0, f9, PySem.W.fnOf "lines" "Version.lines" (defArgs sVersionLines) (defBody sVersionLines) (defScope sVersionLines) .none kV9 dc9 pm9 an9 cd9 ct9, p9, f10, PySem.W.fnOf "parents" "Version.parents" (defArgs sVersionParents) (defBody sVersionParents) (defScope sVersionParents) .none kV10 dc10 pm10 an10 cd10 ct10, p10, f11, PySem.W.fnOf "author" "Version.author" (defArgs sVersionAuthor) (defBody sVersionAuthor) (defScope sVersionAuthor) .none kV11 dc11 pm11 an11 cd11 ct11, p11, f12, PySem.W.fnOf "__len__" "Version.__len__" (defArgs sVersionLen) (defBody sVersionLen) (defScope sVersionLen) .none kV12 dc12 pm12 an12 cd12 ct12, f13, PySem.W.fnOf "__contains__" "Version.__contains__" (defArgs sVersionContains) (defBody sVersionContains) (defScope sVersionContains) .none kV13 dc13 pm13 an13 cd13 ct13, f14, PySem.W.fnOf "__getitem__" "Version.__getitem__" (defArgs sVersionGetitem) (defBody sVersionGetitem) (defScope sVersionGetitem) .none kV14 dc14 pm14 an14 cd14 ct14, f15, PySem.W.fnOf "__eq__" "Version.__eq__" (defArgs sVersionEq) (defBody sVersionEq) (defScope sVersionEq) .none kV15 dc15 pm15 an15 cd15 ct15, f16, PySem.W.fnOf "can_stand" "can_stand" (defArgs sCanStand) (defBody sCanStand) (defScope sCanStand) .none kV16 dc16 pm16 an16 cd16 ct16, f17, PySem.W.fnOf "__init__" "History.__init__" (defArgs sHistoryInit) (defBody sHistoryInit) (defScope sHistoryInit) (.ref T17) kV17 dc17 pm17 an17 cd17 ct17, u17_0, f18, PySem.W.fnOf "__iter__" "History.__iter__" (defArgs sHistoryIter) (defBody sHistoryIter) (defScope sHistoryIter) .none kV18 dc18 pm18 an18 cd18 ct18, f19, PySem.W.fnOf "__len__" "History.__len__" (defArgs sHistoryLen) (defBody sHistoryLen) (defScope sHistoryLen) .none kV19 dc19 pm19 an19 cd19 ct19, f20, PySem.W.fnOf "__contains__" "History.__contains__" (defArgs sHistoryContains) (defBody sHistoryContains) (defScope sHistoryContains) .none kV20 dc20 pm20 an20 cd20 ct20, f21, PySem.W.fnOf "__eq__" "History.__eq__" (defArgs sHistoryEq) (defBody sHistoryEq) (defScope sHistoryEq) .none kV21 dc21 pm21 an21 cd21 ct21, f22, PySem.W.fnOf "check" "History.check" (defArgs sHistoryCheck) (defBody sHistoryCheck) (defScope sHistoryCheck) .none kV22 dc22 pm22 an22 cd22 ct22, f23, PySem.W.fnOf "version" "History.version" (defArgs sHistoryVersion) (defBody sHistoryVersion) (defScope sHistoryVersion) .none kV23 dc23 pm23 an23 cd23 ct23, f24, PySem.W.fnOf "is_count_word" "is_count_word" (defArgs sIsCountWord) (defBody sIsCountWord) (defScope sIsCountWord) .none kV24 dc24 pm24 an24 cd24 ct24, f25, PySem.W.fnOf "count_in" "count_in" (defArgs sCountIn) (defBody sCountIn) (defScope sCountIn) .none kV25 dc25 pm25 an25 cd25 ct25, f26, PySem.W.fnOf "format_parents" "format_parents" (defArgs sFormatParents) (defBody sFormatParents) (defScope sFormatParents) .none kV26 dc26 pm26 an26 cd26 ct26, f27, PySem.W.fnOf "format_history" "format_history" (defArgs sFormatHistory) (defBody sFormatHistory) (defScope sFormatHistory) .none kV27 dc27 pm27 an27 cd27 ct27, f28, PySem.W.fnOf "parents_in" "parents_in" (defArgs sParentsIn) (defBody sParentsIn) (defScope sParentsIn) .none kV28 dc28 pm28 an28 cd28 ct28, f29, PySem.W.fnOf "head_in" "head_in" (defArgs sHeadIn) (defBody sHeadIn) (defScope sHeadIn) .none kV29 dc29 pm29 an29 cd29 ct29, f30, PySem.W.fnOf "parse_history" "parse_history" (defArgs sParseHistory) (defBody sParseHistory) (defScope sParseHistory) .none kV30 dc30 pm30 an30 cd30 ct30, f31, PySem.W.fnOf "_law_pool" "_law_pool" (defArgs sLawPool) (defBody sLawPool) (defScope sLawPool) .none kV31 dc31 pm31 an31 cd31 ct31, f32, PySem.W.fnOf "_law_mixed" "_law_mixed" (defArgs sLawMixed) (defBody sLawMixed) (defScope sLawMixed) .none kV32 dc32 pm32 an32 cd32 ct32, f33, PySem.W.fnOf "_law_draw" "_law_draw" (defArgs sLawDraw) (defBody sLawDraw) (defScope sLawDraw) .none kV33 dc33 pm33 an33 cd33 ct33, f34, PySem.W.fnOf "_law_made" "_law_made" (defArgs sLawMade) (defBody sLawMade) (defScope sLawMade) .none kV34 dc34 pm34 an34 cd34 ct34, f35, PySem.W.fnOf "_law_text" "_law_text" (defArgs sLawText) (defBody sLawText) (defScope sLawText) .none kV35 dc35 pm35 an35 cd35 ct35, f36, PySem.W.fnOf "_law_rows" "_law_rows" (defArgs sLawRows) (defBody sLawRows) (defScope sLawRows) .none kV36 dc36 pm36 an36 cd36 ct36, _, PySem.W.fnOf "law" "law" (defArgs sLaw) (defBody sLaw) (defScope sLaw) .none kV37 dc37 pm37 an37 cd37 ct37⟩ := ⟨PySem.W.mg_of X G aCVersion, ⟨⟨pgVersion, hdVersion, poVersion, saVersion⟩, haVersion, hnVersion, tkVersion, hmVersion⟩, ⟨mkVersion, a8, i8, kcVersion⟩, nVersionkept_lines, nVersionkept_parents, nVersionkept_author, kit_out qoVersionint, kit_out qoVersionbool, kit_in icVersion tyVersion qiVersionint (by intro z; cases z), kit_in icVersion tyVersion qiVersionbool (by intro z; cases z), kit_in icVersion tyVersion qiVersionstr (by intro z; cases z), kit_in icVersion tyVersion qiVersionlist (by intro z; cases z), kit_in icVersion tyVersion qiVersiontuple (by intro z; cases z), kit_in icVersion tyVersion qiVersiondict (by intro z; cases z), kit_in icVersion tyVersion qiVersionNoneType (by intro z; cases z), ⟨rdVersion, rgVersion⟩, wVersionint, wVersionbool, wVersionstr, wVersionlist, wVersiontuple, wVersiondict, wVersionNoneType, PySem.W.mg_of X G aCHistory, ⟨⟨pgHistory, hdHistory, poHistory, saHistory⟩, haHistory, hnHistory, tkHistory, hmHistory⟩, ⟨mkHistory, a17, i17, kcHistory⟩, nHistorykept_versions, kit_out qoHistoryint, kit_out qoHistorybool, kit_in icHistory tyHistory qiHistoryint (by intro z; cases z), kit_in icHistory tyHistory qiHistorybool (by intro z; cases z), kit_in icHistory tyHistory qiHistorystr (by intro z; cases z), kit_in icHistory tyHistory qiHistorylist (by intro z; cases z), kit_in icHistory tyHistory qiHistorytuple (by intro z; cases z), kit_in icHistory tyHistory qiHistorydict (by intro z; cases z), kit_in icHistory tyHistory qiHistoryNoneType (by intro z; cases z), ⟨rdHistory, rgHistory⟩, wHistoryint, wHistorybool, wHistorystr, wHistorylist, wHistorytuple, wHistorydict, wHistoryNoneType, PySem.W.mg_of X G aCLineError, PySem.W.mg_of X G aCInvalidNumber, PySem.W.mg_of X G aCInvalidText, PySem.W.mg_of X G aCInvalidName, PySem.W.mg_of X G aCInvalidParents, ⟨PySem.W.mg_of X G aCInvalidNumber, PySem.W.mg_none_of X G eSu, ⟨_, _, _, _, _, _, _, _, _, _, _, _, _, _, _, xlInvalidNumber, by rfl⟩, xsaInvalidNumber, xgaInvalidNumber, xggInvalidNumber, xnoInvalidNumber, xicInvalidNumber, xtiInvalidNumber, xkcInvalidNumber, ebInvalidNumber, xveInvalidNumber, etInvalidNumber, edInvalidNumber, xmcInvalidNumber, eOp, ksIInvalidNumber, rfTInvalidNumber, _, _, _, _, _, _, _, _, _, _, _, _, _, _, _, _, _, _, _, _, _, _, _, _, _, _, _, _, _, _, _, _, _, xliInvalidNumber, xcdInvalidNumber, xlcInvalidNumber, rfVInvalidNumber, rfFInvalidNumber, xlxInvalidNumber, rfLInvalidNumber⟩, ⟨PySem.W.mg_of X G aCInvalidText, PySem.W.mg_none_of X G eSu, ⟨_, _, _, _, _, _, _, _, _, _, _, _, _, _, _, xlInvalidText, by rfl⟩, xsaInvalidText, xgaInvalidText, xggInvalidText, xnoInvalidText, xicInvalidText, xtiInvalidText, xkcInvalidText, ebInvalidText, xveInvalidText, etInvalidText, edInvalidText, xmcInvalidText, eOp, ksIInvalidText, rfTInvalidText, _, _, _, _, _, _, _, _, _, _, _, _, _, _, _, _, _, _, _, _, _, _, _, _, _, _, _, _, _, _, _, _, _, xliInvalidText, xcdInvalidText, xlcInvalidText, rfVInvalidText, rfFInvalidText, xlxInvalidText, rfLInvalidText⟩, ⟨PySem.W.mg_of X G aCInvalidName, PySem.W.mg_none_of X G eSu, ⟨_, _, _, _, _, _, _, _, _, _, _, _, _, _, _, xlInvalidName, by rfl⟩, xsaInvalidName, xgaInvalidName, xggInvalidName, xnoInvalidName, xicInvalidName, xtiInvalidName, xkcInvalidName, ebInvalidName, xveInvalidName, etInvalidName, edInvalidName, xmcInvalidName, eOp, ksIInvalidName, rfTInvalidName, _, _, _, _, _, _, _, _, _, _, _, _, _, _, _, _, _, _, _, _, _, _, _, _, _, _, _, _, _, _, _, _, _, xliInvalidName, xcdInvalidName, xlcInvalidName, rfVInvalidName, rfFInvalidName, xlxInvalidName, rfLInvalidName⟩, ⟨PySem.W.mg_of X G aCInvalidParents, PySem.W.mg_none_of X G eSu, ⟨_, _, _, _, _, _, _, _, _, _, _, _, _, _, _, xlInvalidParents, by rfl⟩, xsaInvalidParents, xgaInvalidParents, xggInvalidParents, xnoInvalidParents, xicInvalidParents, xtiInvalidParents, xkcInvalidParents, ebInvalidParents, xveInvalidParents, etInvalidParents, edInvalidParents, xmcInvalidParents, eOp, ksIInvalidParents, rfTInvalidParents, _, _, _, _, _, _, _, _, _, _, _, _, _, _, _, _, _, _, _, _, _, _, _, _, _, _, _, _, _, _, _, _, _, xliInvalidParents, xcdInvalidParents, xlcInvalidParents, rfVInvalidParents, rfFInvalidParents, xlxInvalidParents, rfLInvalidParents⟩, F1, PySem.W.mg_of X G a1, b1, F2, PySem.W.mg_of X G a2, b2, F3, PySem.W.mg_of X G a3, b3, F4, PySem.W.mg_of X G a4, b4, F5, PySem.W.mg_of X G a5, b5, F6, PySem.W.mg_of X G a6, b6, F7, PySem.W.mg_of X G a7, b7, F8, fun H => Or.inr ⟨_, #[], _, ul8_0, rfl, rfl, by decide, .nil⟩, ⟨_, ul8_0, rfl⟩, ⟨a8, i8, k8⟩, kb0_8.elim fun mv h => ⟨_, h⟩, F9, ⟨a9, g9, tp9, ⟨_, r9⟩⟩, b9, F10, ⟨a10, g10, tp10, ⟨_, r10⟩⟩, b10, F11, ⟨a11, g11, tp11, ⟨_, r11⟩⟩, b11, F12, ⟨a12, i12, k12⟩, ⟨a12, i12⟩, b12, F13, ⟨a13, i13, k13⟩, ⟨a13, i13⟩, b13, F14, ⟨a14, i14, k14⟩, ⟨a14, i14⟩, by unfold PySem.W.fnIn; rw [l14], b14, F15, ⟨a15, i15, k15⟩, ⟨a15, i15, ne15, hmVersion⟩, ⟨a15, i15, nfVersion⟩, ⟨a15, i15, siVersion⟩, b15, F16, PySem.W.mg_of X G a16, b16, F17, fun H => Or.inr ⟨_, #[], _, ul17_0, rfl, rfl, by decide, .nil⟩, ⟨_, ul17_0, rfl⟩, e1_17, ⟨a17, i17, k17⟩, b17, F18, ⟨a18, i18, k18⟩, ⟨a18, i18⟩, b18, F19, ⟨a19, i19, k19⟩, ⟨a19, i19⟩, b19, F20, ⟨a20, i20, k20⟩, ⟨a20, i20⟩, b20, F21, ⟨a21, i21, k21⟩, ⟨a21, i21, ne21, hmHistory⟩, ⟨a21, i21, nfHistory⟩, ⟨a21, i21, siHistory⟩, b21, F22, ⟨a22, i22, k22⟩, b22, F23, ⟨a23, i23, k23⟩, b23, F24, PySem.W.mg_of X G a24, b24, F25, PySem.W.mg_of X G a25, b25, F26, PySem.W.mg_of X G a26, b26, F27, PySem.W.mg_of X G a27, b27, F28, PySem.W.mg_of X G a28, b28, F29, PySem.W.mg_of X G a29, b29, F30, PySem.W.mg_of X G a30, b30, F31, PySem.W.mg_of X G a31, b31, F32, PySem.W.mg_of X G a32, b32, F33, PySem.W.mg_of X G a33, b33, F34, PySem.W.mg_of X G a34, b34, F35, PySem.W.mg_of X G a35, b35, F36, PySem.W.mg_of X G a36, b36, F37, PySem.W.mg_of X G a37, b37, PySem.W.mg_none_of X G z0, PySem.W.mg_none_of X G z1, ⟨_, PySem.W.mg_of X G z2⟩, PySem.W.mg_none_of X G z3, PySem.W.mg_none_of X G z4, ⟨_, PySem.W.mg_of X G z6⟩, PySem.W.mg_none_of X G z7, PySem.W.mg_none_of X G z8, PySem.W.mg_none_of X G z10, PySem.W.mg_none_of X G z11, ⟨_, PySem.W.mg_of X G z13⟩, ⟨_, PySem.W.mg_of X G z14⟩, ⟨_, PySem.W.mg_of X G z15⟩, PySem.W.mg_none_of X G z17, PySem.W.mg_none_of X G z24, PySem.W.mg_none_of X G z25, PySem.W.mg_none_of X G z28, ⟨_, PySem.W.mg_of X G z29⟩, PySem.W.mg_none_of X G z33, ⟨_, PySem.W.mg_of X G z35⟩, ⟨_, PySem.W.mg_of X G z36⟩, PySem.W.mg_none_of X G z41, PySem.W.mg_none_of X G z45, PySem.W.mg_none_of X G z47⟩
  exact ⟨_, fun s v => .of_eq rfl, fun base _ _ => ok_law T⟩

end My
open PySem PySem.W PyProof.Rows in
set_option maxRecDepth 100000 in
set_option maxHeartbeats 0 in
theorem PySem.Challenge.cw_lineorigins_k13_histories_written_holds : PySem.Challenge.rw_lineorigins_k13_histories_written.Holds := by
  w_on; o_law; k_head; (case hw => w_witness2)
  k_fill
  refine L2.walk_of (l := PySem.Challenge.rw_lineorigins_k13_histories_written) (n := 63) (k := 8) (x := "_law_script") (CX := fun _ => L2.CX0) (sp := fun w => My.spLaw _) rfl (by decide) rfl ⟨rfl, by decide, by decide⟩ (fun w h Y => PySem.W.kIn_of Y) ?F (fun _ _ a ns hl _ hS => ⟨a, ns, rfl, hS, hl, fun _ => rfl⟩) (fun _ _ _ _ _ h => h)
  case F =>
    intro w mg fa h KX G hmg
    refine' My.all_mk KX G hmg ?aCVersion ?pgVersion ?hdVersion ?poVersion ?saVersion ?haVersion ?hnVersion ?tkVersion ?hmVersion ?mkVersion ?kcVersion ?nVersionkept_lines ?nVersionkept_parents ?nVersionkept_author ?icVersion ?tyVersion ?qoVersionint ?qoVersionbool ?qiVersionint ?qiVersionbool ?qiVersionstr ?qiVersionlist ?qiVersiontuple ?qiVersiondict ?qiVersionNoneType ?rdVersion ?rgVersion ?wVersionint ?wVersionbool ?wVersionstr ?wVersionlist ?wVersiontuple ?wVersiondict ?wVersionNoneType ?sfVersion ?nfVersion ?siVersion ?isVersion ?aCHistory ?pgHistory ?hdHistory ?poHistory ?saHistory ?haHistory ?hnHistory ?tkHistory ?hmHistory ?mkHistory ?kcHistory ?nHistorykept_versions ?icHistory ?tyHistory ?qoHistoryint ?qoHistorybool ?qiHistoryint ?qiHistorybool ?qiHistorystr ?qiHistorylist ?qiHistorytuple ?qiHistorydict ?qiHistoryNoneType ?rdHistory ?rgHistory ?wHistoryint ?wHistorybool ?wHistorystr ?wHistorylist ?wHistorytuple ?wHistorydict ?wHistoryNoneType ?sfHistory ?nfHistory ?siHistory ?isHistory ?aCLineError ?ebLineError ?edLineError ?etLineError ?eiLineError ?aCInvalidNumber ?ebInvalidNumber ?edInvalidNumber ?etInvalidNumber ?eiInvalidNumber ?aCInvalidText ?ebInvalidText ?edInvalidText ?etInvalidText ?eiInvalidText ?aCInvalidName ?ebInvalidName ?edInvalidName ?etInvalidName ?eiInvalidName ?aCInvalidParents ?ebInvalidParents ?edInvalidParents ?etInvalidParents ?eiInvalidParents ?eSu ?eOp ?xlInvalidNumber ?xsaInvalidNumber ?xgaInvalidNumber ?xggInvalidNumber ?xnoInvalidNumber ?xicInvalidNumber ?xtiInvalidNumber ?xkcInvalidNumber ?xveInvalidNumber ?xmcInvalidNumber ?xmoInvalidNumber ?xhcInvalidNumber ?xliInvalidNumber ?xcdInvalidNumber ?xlcInvalidNumber ?xlxInvalidNumber ?ksIInvalidNumber ?rfVInvalidNumber ?rfFInvalidNumber ?rfLInvalidNumber ?rfTInvalidNumber ?xlInvalidText ?xsaInvalidText ?xgaInvalidText ?xggInvalidText ?xnoInvalidText ?xicInvalidText ?xtiInvalidText ?xkcInvalidText ?xveInvalidText ?xmcInvalidText ?xmoInvalidText ?xhcInvalidText ?xliInvalidText ?xcdInvalidText ?xlcInvalidText ?xlxInvalidText ?ksIInvalidText ?rfVInvalidText ?rfFInvalidText ?rfLInvalidText ?rfTInvalidText ?xlInvalidName ?xsaInvalidName ?xgaInvalidName ?xggInvalidName ?xnoInvalidName ?xicInvalidName ?xtiInvalidName ?xkcInvalidName ?xveInvalidName ?xmcInvalidName ?xmoInvalidName ?xhcInvalidName ?xliInvalidName ?xcdInvalidName ?xlcInvalidName ?xlxInvalidName ?ksIInvalidName ?rfVInvalidName ?rfFInvalidName ?rfLInvalidName ?rfTInvalidName ?xlInvalidParents ?xsaInvalidParents ?xgaInvalidParents ?xggInvalidParents ?xnoInvalidParents ?xicInvalidParents ?xtiInvalidParents ?xkcInvalidParents ?xveInvalidParents ?xmcInvalidParents ?xmoInvalidParents ?xhcInvalidParents ?xliInvalidParents ?xcdInvalidParents ?xlcInvalidParents ?xlxInvalidParents ?ksIInvalidParents ?rfVInvalidParents ?rfFInvalidParents ?rfLInvalidParents ?rfTInvalidParents ?a1 ?l1 ?c1 ?k1 ?a2 ?l2 ?c2 ?k2 ?a3 ?l3 ?c3 ?k3 ?a4 ?l4 ?c4 ?k4 ?a5 ?l5 ?c5 ?k5 ?a6 ?l6 ?c6 ?k6 ?a7 ?l7 ?c7 ?k7 ?a8 ?i8 ?l8 ?c8 ?k8 ?kd8_0 ?ul8_0 ?kd8_1 ?a9 ?g9 ?tp9 ?r9 ?l9 ?c9 ?k9 ?a10 ?g10 ?tp10 ?r10 ?l10 ?c10 ?k10 ?a11 ?g11 ?tp11 ?r11 ?l11 ?c11 ?k11 ?a12 ?i12 ?l12 ?c12 ?k12 ?a13 ?i13 ?l13 ?c13 ?k13 ?a14 ?i14 ?l14 ?c14 ?k14 ?a15 ?i15 ?l15 ?c15 ?k15 ?ne15 ?a16 ?l16 ?c16 ?k16 ?a17 ?i17 ?l17 ?c17 ?k17 ?lt17 ?ul17_0 ?a18 ?i18 ?l18 ?c18 ?k18 ?a19 ?i19 ?l19 ?c19 ?k19 ?a20 ?i20 ?l20 ?c20 ?k20 ?a21 ?i21 ?l21 ?c21 ?k21 ?ne21 ?a22 ?i22 ?l22 ?c22 ?k22 ?a23 ?i23 ?l23 ?c23 ?k23 ?a24 ?l24 ?c24 ?k24 ?a25 ?l25 ?c25 ?k25 ?a26 ?l26 ?c26 ?k26 ?a27 ?l27 ?c27 ?k27 ?a28 ?l28 ?c28 ?k28 ?a29 ?l29 ?c29 ?k29 ?a30 ?l30 ?c30 ?k30 ?a31 ?l31 ?c31 ?k31 ?a32 ?l32 ?c32 ?k32 ?a33 ?l33 ?c33 ?k33 ?a34 ?l34 ?c34 ?k34 ?a35 ?l35 ?c35 ?k35 ?a36 ?l36 ?c36 ?k36 ?a37 ?l37 ?c37 ?k37 ?z0 ?z1 ?z2 ?z3 ?z4 ?z6 ?z7 ?z8 ?z10 ?z11 ?z13 ?z14 ?z15 ?z17 ?z24 ?z25 ?z28 ?z29 ?z33 ?z35 ?z36 ?z41 ?z45 ?z47
    (case aCVersion => k_is); (case pgVersion => k_is); (case hdVersion => k_is); (case poVersion => k_is); (case saVersion => k_is); (case haVersion => k_is); (case hnVersion => k_is); (case tkVersion => k_is); (case hmVersion => k_is); (case mkVersion => k_is); (case kcVersion => k_is); (case nVersionkept_lines => k_is); (case nVersionkept_parents => k_is); (case nVersionkept_author => k_is); (case icVersion => k_is); (case tyVersion => k_is); (case qoVersionint => k_is); (case qoVersionbool => k_is); (case qiVersionint => k_is); (case qiVersionbool => k_is); (case qiVersionstr => k_is); (case qiVersionlist => k_is); (case qiVersiontuple => k_is); (case qiVersiondict => k_is); (case qiVersionNoneType => k_is); (case rdVersion => k_is); (case rgVersion => k_is); (case wVersionint => k_is); (case wVersionbool => k_is); (case wVersionstr => k_is); (case wVersionlist => k_is); (case wVersiontuple => k_is); (case wVersiondict => k_is); (case wVersionNoneType => k_is); (case sfVersion => k_is); (case nfVersion => k_is); (case siVersion => k_is); (case isVersion => k_is); (case aCHistory => k_is); (case pgHistory => k_is); (case hdHistory => k_is); (case poHistory => k_is); (case saHistory => k_is); (case haHistory => k_is); (case hnHistory => k_is); (case tkHistory => k_is); (case hmHistory => k_is); (case mkHistory => k_is); (case kcHistory => k_is); (case nHistorykept_versions => k_is); (case icHistory => k_is); (case tyHistory => k_is); (case qoHistoryint => k_is); (case qoHistorybool => k_is); (case qiHistoryint => k_is); (case qiHistorybool => k_is); (case qiHistorystr => k_is); (case qiHistorylist => k_is); (case qiHistorytuple => k_is); (case qiHistorydict => k_is); (case qiHistoryNoneType => k_is); (case rdHistory => k_is); (case rgHistory => k_is); (case wHistoryint => k_is); (case wHistorybool => k_is); (case wHistorystr => k_is); (case wHistorylist => k_is); (case wHistorytuple => k_is); (case wHistorydict => k_is); (case wHistoryNoneType => k_is); (case sfHistory => k_is); (case nfHistory => k_is); (case siHistory => k_is); (case isHistory => k_is); (case aCLineError => k_is); (case ebLineError => k_is); (case edLineError => k_is); (case etLineError => k_is); (case eiLineError => k_is); (case aCInvalidNumber => k_is); (case ebInvalidNumber => k_is); (case edInvalidNumber => k_is); (case etInvalidNumber => k_is); (case eiInvalidNumber => k_is); (case aCInvalidText => k_is); (case ebInvalidText => k_is); (case edInvalidText => k_is); (case etInvalidText => k_is); (case eiInvalidText => k_is); (case aCInvalidName => k_is); (case ebInvalidName => k_is); (case edInvalidName => k_is); (case etInvalidName => k_is); (case eiInvalidName => k_is); (case aCInvalidParents => k_is); (case ebInvalidParents => k_is); (case edInvalidParents => k_is); (case etInvalidParents => k_is); (case eiInvalidParents => k_is); (case eSu => k_is); (case eOp => k_is); (case xlInvalidNumber => k_is); (case xsaInvalidNumber => k_is); (case xgaInvalidNumber => k_is); (case xggInvalidNumber => k_is); (case xnoInvalidNumber => k_is); (case xicInvalidNumber => k_is); (case xtiInvalidNumber => k_is); (case xkcInvalidNumber => k_is); (case xveInvalidNumber => k_is); (case xmcInvalidNumber => k_is); (case xmoInvalidNumber => k_is); (case xhcInvalidNumber => k_is); (case xliInvalidNumber => k_is); (case xcdInvalidNumber => k_is); (case xlcInvalidNumber => k_is); (case xlxInvalidNumber => k_is); (case ksIInvalidNumber => ks_is); (case rfVInvalidNumber => first | rfl | decide +kernel | kernel_rfl); (case rfFInvalidNumber => first | rfl | decide +kernel | kernel_rfl); (case rfLInvalidNumber => first | rfl | decide +kernel | kernel_rfl); (case rfTInvalidNumber => first | rfl | decide +kernel | kernel_rfl); (case xlInvalidText => k_is); (case xsaInvalidText => k_is); (case xgaInvalidText => k_is); (case xggInvalidText => k_is); (case xnoInvalidText => k_is); (case xicInvalidText => k_is); (case xtiInvalidText => k_is); (case xkcInvalidText => k_is); (case xveInvalidText => k_is); (case xmcInvalidText => k_is); (case xmoInvalidText => k_is); (case xhcInvalidText => k_is); (case xliInvalidText => k_is); (case xcdInvalidText => k_is); (case xlcInvalidText => k_is); (case xlxInvalidText => k_is); (case ksIInvalidText => ks_is); (case rfVInvalidText => first | rfl | decide +kernel | kernel_rfl); (case rfFInvalidText => first | rfl | decide +kernel | kernel_rfl); (case rfLInvalidText => first | rfl | decide +kernel | kernel_rfl); (case rfTInvalidText => first | rfl | decide +kernel | kernel_rfl); (case xlInvalidName => k_is); (case xsaInvalidName => k_is); (case xgaInvalidName => k_is); (case xggInvalidName => k_is); (case xnoInvalidName => k_is); (case xicInvalidName => k_is); (case xtiInvalidName => k_is); (case xkcInvalidName => k_is); (case xveInvalidName => k_is); (case xmcInvalidName => k_is); (case xmoInvalidName => k_is); (case xhcInvalidName => k_is); (case xliInvalidName => k_is); (case xcdInvalidName => k_is); (case xlcInvalidName => k_is); (case xlxInvalidName => k_is); (case ksIInvalidName => ks_is); (case rfVInvalidName => first | rfl | decide +kernel | kernel_rfl); (case rfFInvalidName => first | rfl | decide +kernel | kernel_rfl); (case rfLInvalidName => first | rfl | decide +kernel | kernel_rfl); (case rfTInvalidName => first | rfl | decide +kernel | kernel_rfl); (case xlInvalidParents => k_is); (case xsaInvalidParents => k_is); (case xgaInvalidParents => k_is); (case xggInvalidParents => k_is); (case xnoInvalidParents => k_is); (case xicInvalidParents => k_is); (case xtiInvalidParents => k_is); (case xkcInvalidParents => k_is); (case xveInvalidParents => k_is); (case xmcInvalidParents => k_is); (case xmoInvalidParents => k_is); (case xhcInvalidParents => k_is); (case xliInvalidParents => k_is); (case xcdInvalidParents => k_is); (case xlcInvalidParents => k_is); (case xlxInvalidParents => k_is); (case ksIInvalidParents => ks_is); (case rfVInvalidParents => first | rfl | decide +kernel | kernel_rfl); (case rfFInvalidParents => first | rfl | decide +kernel | kernel_rfl); (case rfLInvalidParents => first | rfl | decide +kernel | kernel_rfl); (case rfTInvalidParents => first | rfl | decide +kernel | kernel_rfl); (case a1 => k_is); (case l1 => k_is); (case c1 => k_is); (case k1 => k_is); (case a2 => k_is); (case l2 => k_is); (case c2 => k_is); (case k2 => k_is); (case a3 => k_is); (case l3 => k_is); (case c3 => k_is); (case k3 => k_is); (case a4 => k_is); (case l4 => k_is); (case c4 => k_is); (case k4 => k_is); (case a5 => k_is); (case l5 => k_is); (case c5 => k_is); (case k5 => k_is); (case a6 => k_is); (case l6 => k_is); (case c6 => k_is); (case k6 => k_is); (case a7 => k_is); (case l7 => k_is); (case c7 => k_is); (case k7 => k_is); (case a8 => k_is); (case i8 => k_is); (case l8 => k_is); (case c8 => k_is); (case k8 => k_is); (case kd8_0 => k_is); (case ul8_0 => k_is); (case kd8_1 => k_is); (case a9 => k_is); (case g9 => k_is); (case tp9 => k_is); (case r9 => k_is); (case l9 => k_is); (case c9 => k_is); (case k9 => k_is); (case a10 => k_is); (case g10 => k_is); (case tp10 => k_is); (case r10 => k_is); (case l10 => k_is); (case c10 => k_is); (case k10 => k_is); (case a11 => k_is); (case g11 => k_is); (case tp11 => k_is); (case r11 => k_is); (case l11 => k_is); (case c11 => k_is); (case k11 => k_is); (case a12 => k_is); (case i12 => k_is); (case l12 => k_is); (case c12 => k_is); (case k12 => k_is); (case a13 => k_is); (case i13 => k_is); (case l13 => k_is); (case c13 => k_is); (case k13 => k_is); (case a14 => k_is); (case i14 => k_is); (case l14 => k_is); (case c14 => k_is); (case k14 => k_is); (case a15 => k_is); (case i15 => k_is); (case l15 => k_is); (case c15 => k_is); (case k15 => k_is); (case ne15 => k_is); (case a16 => k_is); (case l16 => k_is); (case c16 => k_is); (case k16 => k_is); (case a17 => k_is); (case i17 => k_is); (case l17 => k_is); (case c17 => k_is); (case k17 => k_is); (case lt17 => k_is); (case ul17_0 => k_is); (case a18 => k_is); (case i18 => k_is); (case l18 => k_is); (case c18 => k_is); (case k18 => k_is); (case a19 => k_is); (case i19 => k_is); (case l19 => k_is); (case c19 => k_is); (case k19 => k_is); (case a20 => k_is); (case i20 => k_is); (case l20 => k_is); (case c20 => k_is); (case k20 => k_is); (case a21 => k_is); (case i21 => k_is); (case l21 => k_is); (case c21 => k_is); (case k21 => k_is); (case ne21 => k_is); (case a22 => k_is); (case i22 => k_is); (case l22 => k_is); (case c22 => k_is); (case k22 => k_is); (case a23 => k_is); (case i23 => k_is); (case l23 => k_is); (case c23 => k_is); (case k23 => k_is); (case a24 => k_is); (case l24 => k_is); (case c24 => k_is); (case k24 => k_is); (case a25 => k_is); (case l25 => k_is); (case c25 => k_is); (case k25 => k_is); (case a26 => k_is); (case l26 => k_is); (case c26 => k_is); (case k26 => k_is); (case a27 => k_is); (case l27 => k_is); (case c27 => k_is); (case k27 => k_is); (case a28 => k_is); (case l28 => k_is); (case c28 => k_is); (case k28 => k_is); (case a29 => k_is); (case l29 => k_is); (case c29 => k_is); (case k29 => k_is); (case a30 => k_is); (case l30 => k_is); (case c30 => k_is); (case k30 => k_is); (case a31 => k_is); (case l31 => k_is); (case c31 => k_is); (case k31 => k_is); (case a32 => k_is); (case l32 => k_is); (case c32 => k_is); (case k32 => k_is); (case a33 => k_is); (case l33 => k_is); (case c33 => k_is); (case k33 => k_is); (case a34 => k_is); (case l34 => k_is); (case c34 => k_is); (case k34 => k_is); (case a35 => k_is); (case l35 => k_is); (case c35 => k_is); (case k35 => k_is); (case a36 => k_is); (case l36 => k_is); (case c36 => k_is); (case k36 => k_is); (case a37 => k_is); (case l37 => k_is); (case c37 => k_is); (case k37 => k_is); (case z0 => k_is); (case z1 => k_is); (case z2 => k_is); (case z3 => k_is); (case z4 => k_is); (case z6 => k_is); (case z7 => k_is); (case z8 => k_is); (case z10 => k_is); (case z11 => k_is); (case z13 => k_is); (case z14 => k_is); (case z15 => k_is); (case z17 => k_is); (case z24 => k_is); (case z25 => k_is); (case z28 => k_is); (case z29 => k_is); (case z33 => k_is); (case z35 => k_is); (case z36 => k_is); (case z41 => k_is); (case z45 => k_is); (case z47 => k_is)
