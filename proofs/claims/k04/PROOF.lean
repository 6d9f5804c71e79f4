import PyProof.Rows.All
import Wide.All
import OpenK.AllK
import Wide.FinOn
import HandS.ForMost
import HandS.IsInst
import HandS.Wide
import HandS.Walk
import HandS.Evl
import HandS.TupLe
import HandS.Defaults
import HandS.NoneIn
import HandS.ClsMeth
import HandS.Exc
import HandS.Lambda
import HandS.EndTab
import HandS.Property
import HandS.MakeKw
import HandS.MakeKwOnly
import HandS.ExcOwn
import HandS.WordsExc
import HandS.ExcIs
import KE.KExcSuper
import KE.KTryMore
import KE.KExcIs
import KE.KNest
import HandS.Set
import HandS.SetFor
import HandS.SetTxt0
import HandS.SetTxtIn
import HandS.More
import PyProof.InstNe
import KE.KCallOwn
import KE.KRevSl
import HandS.Star
import HandS.Style
import HandS.Replace
import PyProof.EqAt
import PyProof.NeKinds
import KE.GoesMore
import HandS.IterVal
import HandS.IterNext
import KE.KOwnIter
import HandS.Zip
import HandS.TupAny
import KE.IntTextText
import KE.KIntText
import PyProof.Rows.StrIntSpec
import PySem.Challenge.RW_lineorigins_k04_ratio_texts
set_option Elab.async false
set_option linter.all false
set_option maxRecDepth 100000
set_option maxHeartbeats 4000000
namespace My
open PySem L2


/-! ### exceptions of the program's own: __init__ says super().__init__('..') and keeps its argument (over ValueError) -/
section
open PySem.W PySem.Calls PyProof.Rows PySem.HandSPX
def xA (p1 p2 : Pos) : Arguments := { posonlyargs := [], args := [{ arg := "self", annotation := none, pos := p1 }, { arg := "value", annotation := none, pos := p2 }], vararg := none, kwonlyargs := [], kw_defaults := [], kwarg := none, defaults := [] }
def xB (m : Str) (j : Nat) (q0 q1 q2 q3 q4 q5 q6 q7 q8 q9 : Pos) : List Stmt := [.Expr (.Call (.Attribute (.Call (.Name "super" q0) [] [] q1) "__init__" q2) [.Constant (.str m) j q3] [] q4) q5, .Assign [.Attribute (.Name "self" q6) "value" q7] (.Name "value" q8) q9]
def xS : Scope := { kind := .function, names := [(PySem.Str.ofString "self", .local), (PySem.Str.ofString "value", .local), (PySem.Str.ofString "__class__", .free), (PySem.Str.ofString "super", .globalImplicit)], isGenerator := false, isCoroutine := false, more := [] }
theorem xk1 : xS.names.lookup ("super" : Str) = some .globalImplicit := by decide +kernel
theorem xk2 : xS.names.lookup ("__class__" : Str) = some .free := by decide +kernel
theorem xk3 : xS.names.lookup ("self" : Str) = some .local := by decide +kernel
theorem xk4 : xS.names.lookup ("value" : Str) = some .local := by decide +kernel
/-- what the written part says of such a class, at C, and of its __init__, at fI -/
structure XTxt (prog : Program) (K : Frag) (mg : Str → Option Value) (x : Str) (C fI : Addr) : Prop where
  gC : mg x = some (.ref C)
  su : mg "super" = none
  cls : ∃ nm q N bs bm sn sub ab col dd k0 k1 k2 k3 k5, K.lookup C = some (excClassObj nm q C N bs bm true sn sub ab col dd k0 k1 k2 k3 k5 "ValueError.__new__") ∧ refsVE bm = true
  sa : findIn K (.ref C) "__setattr__" = some (some (.builtin "object.__setattr__"))
  ga : findIn K (.ref C) "__getattribute__" = some (some (.builtin "BaseException.__getattribute__"))
  gg : findIn K (.ref C) "__getattr__" = some none
  no : findIn K (.ref C) "value" = some none
  iC : findIn K (.ref C) "__init__" = some (some (.ref fI))
  tI : typeIn K (.ref fI) = some (.type "function")
  kC : keepIn K (.ref C) = true
  exC : subIn K (.ref C) (.type "BaseException") = some true
  veC : subIn K (.ref C) (.type "ValueError") = some true
  tyC : typeIn K (.ref C) = some (.type "type")
  hdC : hasDictIn K C = true
  mC : mroIn K C (.ref C) = some true
  op : nsIn K cStatics "thirdparty.any" = some none
  sI : ks_superIn K C C "__init__" = some (some (.builtin "ValueError.__init__"))
  top : (prog.main.scope.names.lookup ("super" : Str)).isSome = false
  fn : ∃ (oc : Value) (od : Option Addr) (doc pm : Value) (an : Option Addr) (cda cc : Addr) (ct : Value) (osl : Array (Option Value)) (qual m : Str) (j : Nat) (p1 p2 q0 q1 q2 q3 q4 q5 q6 q7 q8 q9 : Pos) (ccl : Value) (cdd : Option Addr) (vs : Array Value) (ccs : Array (Option Value)) (cl : Value) (cld : Option Addr) (csl : Array (Option Value)) (file : Str) (tf : Tok),
    K.lookup fI = some ⟨oc, od, .func (ksFn "__init__" qual (xA p1 p2) (xB m j q0 q1 q2 q3 q4 q5 q6 q7 q8 q9) xS .none .none doc pm an (.ref cda) ct cc), osl⟩ ∧ codeIn K (.ref cda) qual = true ∧
    K.lookup cda = some ⟨ccl, cdd, .fields vs, ccs⟩ ∧ vs[2]? = some (.str file tf) ∧ ((prog.main.file : Str) == file) = true ∧ K.lookup cc = some ⟨cl, cld, .cell (some (.ref C)), csl⟩ ∧ (q2.endLine == q4.line) = true
/-- what __init__ leaves of a fresh exception at x -/
structure XEnd (h h' : Heap) (x C dx : Addr) (v : Value) : Prop where
  keep : ∀ b o, b ≠ x → h.get? b = some o → h'.get? b = some o
  obj : ∃ t1 : Addr, h'.get? x = some { cls := .ref C, dict := some dx, data := .fields #[.ref t1, .none, .none, .none, .bool false, .none] }
  dbig : h.objs.size ≤ dx
  dne : dx ≠ x
  ns : h'.Ns1 dx (fun y => if y = "value" then some v else none)
section
variable {prog : Program} {w : World} {A : Around} {E : Value → Shared → Prop} {R : Result → Shared → Prop} {s : Shared} {K : Frag} {mg : Str → Option Value} {C fI : Addr} {n : Str}
theorem x_init (T : XTxt prog K mg n C fI) {x t0 : Addr} {v : Value} (X : K.In s.heap) (hg : s.heap.Ns mainGlobals mg) (hb : ∃ mb, s.heap.Ns builtinsNs mb ∧ ∀ x : Str, x ≠ "__name__" → mb x = bootBuiltins x) (hlim : s.heap.NoLimit) (hx : s.heap.get? x = some (excO C t0)) (hnx : K.lookup x = none) (hroom : A.depth < recursionLimit)
    (hq : ∀ h' tk dx, XEnd s.heap h' x C dx v → R (.ok (.ret .none)) { s with heap := h', toks := tk }) :
    codeAny (model prog w) A (.call (.ref fI) ⟨[.ref x, v], []⟩) R s := by
  obtain ⟨oc, od, doc, pm, an, cda, cc, ct, osl, qual, m, j, p1, p2, q0, q1, q2, q3, q4, q5, q6, q7, q8, q9, ccl, cdd, vs, ccs, cl, cld, csl, file, tf, ho, hcd, hcode, hvs, hfile, hcell, hline⟩ := T.fn
  obtain ⟨nm, q, N, bs, bm, sn, sub, ab, col, dd, k0, k1, k2, k3, k5, hC, hbm⟩ := T.cls
  obtain ⟨mb, hb, hbb⟩ := hb
  have hcl : clsIn K C = some { name := nm, bases := bs, mro := .ref C :: bm, ns := N, qualname := q, hasDict := true, slotNames := sn, subclasses := sub, abstract := ab, collection := col, hasDel := false } := by unfold clsIn; rw [hC] <;> rfl
  refine ks_codeAny_call_defAt (fd := ksFn "__init__" qual (xA p1 p2) (xB m j q0 q1 q2 q3 q4 q5 q6 q7 q8 q9) xS .none .none doc pm an (.ref cda) ct cc) (body := xB m j q0 q1 q2 q3 q4 q5 q6 q7 q8 q9) (binds := [("self", .ref x), ("value", v)]) hroom (X _ _ ho) rfl hlim (codeRec_of X hcd) rfl (BindsTo.of_eq (by first | rfl | with_unfolding_all rfl)) (show ∀ x ∈ xS.names, x.2 ≠ .cell by decide +kernel) (by
    intro y hy
    simp only [List.mem_cons, List.not_mem_nil, or_false] at hy
    rcases hy with rfl | rfl
    · show xS.names.lookup ("self" : Str) = _
      decide +kernel
    · show xS.names.lookup ("value" : Str) = _
      decide +kernel) (fun h₁ hns k => ?_) rfl rfl rfl
  have X₁ : K.In h₁ := X.keeps k
  have hx₁ := k _ _ hx
  have I₁ : InstAt h₁ x (excO C t0) C none := ⟨hx₁, rfl, rfl, trivial⟩
  obtain ⟨oD, hD1, hD2⟩ : ∃ oD, h₁.get? C = some oD ∧ ∃ cd, oD.data = .cls cd := ⟨_, X₁ _ _ hC, _, rfl⟩
  obtain ⟨cdD, hD2⟩ := hD2
  refine ks_wpAt_execs_cons (ks_wpAt_Expr_any (ks_wpAt_MethodCall (pl := pure false) ?_ ?_))
  rotate_left
  · show (attributeBase _ _ _ _ >>= fun ov => standAt _ >>= fun _ => methodCall _ _ _ _ _ ov _ _ _) = _
    refine congrArg _ (funext fun ov => congrArg _ (funext fun _ => ?_))
    unfold methodCall methodCallPos
    rw [hline]
    rfl
  refine ks_wpAt_super_base (env := ksEnv qual xS s.heap.objs.size fI (.ref cda) cc) (ar := { arg := "self", annotation := none, pos := p1 }) xk1 xk2 (by decide) rfl (X₁ _ _ ho) rfl rfl rfl (X₁ _ _ hcode) rfl hvs hfile T.top ?_
  refine ks_loadName_global rfl xk1 (loadGlobal_builtin (env := ksEnv qual xS s.heap.objs.size fI (.ref cda) cc) (hg.keeps k) T.su (hb.keeps k) ((hbb _ (by decide +kernel)).trans (by first | rfl | decide +kernel)) ⟨rfl, ?_⟩)
  refine wpAny_loadName_free rfl xk2 rfl ⟨_, X₁ _ _ hcell, rfl⟩ ?_
  refine wpAny_loadName_local rfl xk3 hns (v := .ref x) (by first | rfl | with_unfolding_all rfl | kernel_rfl) ?_
  refine ks_wpAny_isType_cls hD1 hD2 ⟨rfl, ?_⟩
  refine ks_wpAny_call_super hD1 hD2 hx₁ rfl (fun c e => by cases e) (looks_mroIn X₁ T.mC) (fun h₂ e₂ k₂ => ?_)
  have X₂ : K.In h₂ := X₁.keeps k₂
  have hx₂ := k₂ _ _ hx₁
  have I₂ : InstAt h₂ x (excO C t0) C none := ⟨hx₂, rfl, rfl, trivial⟩
  have hm : alongIn K "__init__" (((Value.ref C :: bm).dropWhile (· != .ref C)).drop 1) = some (some (.builtin "ValueError.__init__")) := by
    have z := T.sI
    unfold ks_superIn at z
    rw [hcl] at z
    exact z
  refine kxs_getMethod kxs_ValueError e₂ (looks_opaque X₂ T.op) (l₀ := .ref C :: bm) (fun A Q E s k q => wpAny_bind ((looks_clsIn X₂ hcl) A _ E s k (wpAny_pure q))) rfl X₂ hm (I₂.type.andThen (looks_subIn X₂ T.veC)) (ks_ne X₂ I₂ hcl) (by decide) ?_
  have k₃ : ∀ b o, h₂.get? b = some o → (h₂.push (kxs_mw "ValueError.__init__" x)).get? b = some o := fun b o e => Heap.get?_push_of_some _ e
  have hu : (h₂.push (kxs_mw "ValueError.__init__" x)).get? h₂.objs.size = some (kxs_mw "ValueError.__init__" x) := Heap.get?_push_at rfl rfl
  generalize hh : h₂.push (kxs_mw "ValueError.__init__" x) = h₃ at k₃ hu ⊢
  generalize hu' : h₂.objs.size = u at hu ⊢
  have X₃ : K.In h₃ := X₂.keeps k₃
  have hx₃ := k₃ _ _ hx₂
  have ns₃ := (hns.keeps k₂).keeps k₃
  refine kxs_callWith (i := "ValueError.__init__") (x := x) rfl (evalArgs_plain ?_)
  show wpAny _ _ (spliced ((false, eval (.Constant (.str m) j q3) _) :: backTo q4 (starEach [] _))) _ _ _
  refine Calls.spliced_cons (Calls.Constant_str (Calls.spliced_nil ⟨hu, ?_⟩))
  refine wpAny_call (codeAny_of_tree ?_)
  show wpAny _ _ (callAny (.ref u) ⟨_, []⟩) _ _ _
  simp only [callAny]
  refine wpAny_bind (wpAny_load hu ?_)
  simp only [kxs_mw, show (Value.type "method-wrapper" == Value.type "method" || Value.type "method-wrapper" == Value.type "builtin_function_or_method" || Value.type "method-wrapper" == Value.type "method-wrapper") = true by decide, if_true]
  refine KFB.if_so (by decide) ?_
  refine wpAny_bind (check_bound_init F.excBase_ValueError.toExcCallFacts (X₃ _ _ hC) hx₃ rfl ?_)
  refine wpAny_bind (wpAny_pure (wpAny_pure ?_))
  refine ⟨plainId_quiet F.excBase_ValueError.init.plain _, codeAny_builtin F.excBase_ValueError.initEntry ?_⟩
  refine exc_init_tree (cls := .ref C) (t0 := t0) (dv := none) (c2 := .none) (c3 := .none) (b4 := .bool false) hx₃ (by show 1 ≤ sizeLine; decide) (fun h₄ k₄ hx₄ _ => ?_)
  have hxL : s.heap.objs.size ≠ x := Nat.ne_of_gt (Heap.lt_size hx)
  have X₄ : K.In h₄ := fun b o e => k₄ b o (fun z => by rw [z, hnx] at e; cases e) (X₃ b o e)
  have ns₄ : h₄.Ns s.heap.objs.size (fun y => [(("self" : Str), Value.ref x), ("value", v)].reverse.lookup y) := by
    obtain ⟨oL, es, ep, hL, r⟩ := ns₃
    exact ⟨oL, es, ep, k₄ _ _ hxL hL, r⟩
  refine ks_wpAt_execs_cons (wpAt_of_wpAny (plainObj_wpAny_Assign_Attribute ?_))
  refine wpAny_Name (wpAny_loadName_local rfl xk4 ns₄ (v := v) (by first | rfl | with_unfolding_all rfl | kernel_rfl) ?_) (by decide)
  refine wpAny_Name (wpAny_loadName_local rfl xk3 ns₄ (v := .ref x) (by first | rfl | with_unfolding_all rfl | kernel_rfl) ?_) (by decide)
  refine set_plain X₄ (ox := excRec (.ref C) h₃.objs.size none .none .none (.bool false)) (od := none) ⟨hx₄, rfl, rfl, trivial⟩ T.sa ?_
  refine exc_osa X₄ hx₄ hcl (show refsVE (.ref C :: bm) = true from hbm) rfl T.no (fun h₅ tk₅ dx k₅ dn dne hx₅ hn₅ => ?_)
  have sz1 : s.heap.objs.size < h₁.objs.size := hns.lt
  have sz4 : s.heap.objs.size ≤ h₄.objs.size := Nat.le_of_lt ns₄.lt
  refine wpAt_of_wpAny (wpAny_execs_nil ?_)
  refine hq h₅ _ dx ⟨fun b o hb e => k₅ b o hb (k₄ b o hb (k₃ b o (k₂ b o (k b o e)))), ⟨_, hx₅⟩, Nat.le_trans sz4 dn, dne, hn₅⟩
/-- a made exception -/
structure XMade (h h' : Heap) (e C d : Addr) (v : Value) : Prop where
  keep : ∀ b o, h.get? b = some o → h'.get? b = some o
  new : h.objs.size ≤ e
  obj : ∃ oe vs, h'.get? e = some oe ∧ oe.cls = .ref C ∧ oe.dict = some d ∧ oe.data = .fields vs ∧ vs[1]? = some .none
  dbig : h.objs.size ≤ d
  dne : d ≠ e
  ns : h'.Ns1 d (fun y => if y = "value" then some v else none)
theorem x_made (T : XTxt prog K mg n C fI) {v : Value} (X : K.In s.heap) (hg : s.heap.Ns mainGlobals mg) (hb : ∃ mb, s.heap.Ns builtinsNs mb ∧ ∀ x : Str, x ≠ "__name__" → mb x = bootBuiltins x) (hlim : s.heap.NoLimit) (hroom : A.depth + 1 < recursionLimit)
    (hq : ∀ h' tk e d, XMade s.heap h' e C d v → R (.ok (.ret (.ref e))) { s with heap := h', toks := tk }) :
    codeAny (model prog w) A (.call (.ref C) ⟨[v], []⟩) R s := by
  obtain ⟨nm, q, N, bs, bm, sn, sub, ab, col, dd, k0, k1, k2, k3, k5, hC, hbm⟩ := T.cls
  obtain ⟨hp, g, dr, tk, os⟩ := s
  have k : ∀ b o, hp.get? b = some o → ((hp.push (kdv_tup [v])).push (excO C hp.objs.size)).get? b = some o := fun b o e => Heap.get?_push_of_some _ (Heap.get?_push_of_some _ e)
  have hnx : K.lookup (hp.objs.size + 1) = none := by
    cases e : K.lookup (hp.objs.size + 1) with
    | none => rfl
    | some o =>
      have z : hp.get? (hp.objs.size + 1) = some o := X _ _ e
      have := Heap.lt_size z
      exact absurd (Nat.lt_of_succ_lt this) (Nat.lt_irrefl _)
  refine call_own F.excBase_ValueError (fun Y => refsVE_contains Y bm hbm) (X _ _ hC) (looks_findIn X T.iC) (fun self => bind_fn X self T.tI) (by show 1 ≤ sizeLine; decide) ?_
  obtain ⟨mb, hb, hbb⟩ := hb
  refine x_init (s := ⟨(hp.push (kdv_tup [v])).push (excO C hp.objs.size), g, dr, tk, os⟩) (t0 := hp.objs.size) T (X.keeps k) (hg.keeps k) ⟨mb, hb.keeps k, hbb⟩ (hlim.keeps k) (by heap_get) hnx hroom fun h' tk' dx M => ?_
  obtain ⟨t1, hx⟩ := M.obj
  have z : hp.objs.size + 1 + 1 ≤ dx := by
    have q := M.dbig
    rw [Heap.size_push, Heap.size_push] at q
    exact q
  exact ⟨rfl, hq h' tk' (hp.objs.size + 1) dx ⟨fun b o e => M.keep b o (Nat.ne_of_lt (Nat.lt_succ_of_lt (Heap.lt_size e))) (k b o e), Nat.le_succ _, ⟨_, _, hx, rfl, rfl, rfl, rfl⟩, Nat.le_trans (Nat.le_trans (Nat.le_succ _) (Nat.le_succ _)) z, M.dne, M.ns⟩⟩
end
end
theorem relO_val {v : V} {v' : Value} (r : RelV v v') (f : Str) : RelO (List.lookup f [(("value" : Str), v)]) (if f = "value" then some v' else none) := by
  by_cases hw : f = "value"
  · subst hw
    rw [if_pos rfl, List.lookup_cons_self]
    exact r
  · rw [if_neg hw, List.lookup_cons, show (f == ("value" : Str)) = false from by simpa using hw]
    trivial
section
variable {X : Cx} {C fI : Addr} {n : Str}
/-- C(e), as an exception that is made -/
def tMkX (C : Addr) (ta : TA) : St → Hp → XK → Prop := fun σ H Q => ta σ H fun vs H1 => ∃ v, vs = [v] ∧ ∀ d, H1 d = none → Q (.ref C) (some d) (upd H1 d (.xd [(("value" : Str), v)]))
theorem pmk_x {a : Expr} {ta : TA} {p pos : Pos} {k : Nat} (T : XTxt X.prog X.K X.mg n C fI) (hr : Room k X.A) (ha : PA X [a] ta) (hg : Gl X n) (hdb : (n == ("__debug__" : Str)) = false := by decide)
    (he : starEach (a :: []) X.env = (false, eval a X.env) :: starEach [] X.env := by rfl) (hpl : (backTo pos (starEach [] X.env)).any (·.1) = false := by rfl) :
    PMk X (.Call (.Name n p) [a] [] pos) (tMkX C ta) := by
  intro pins s σ H Q I h
  refine wpAny_Call_Name_kw (ld_glob I hg T.gC ?_ hdb)
  refine PySem.W.callWith_K (h₀ := X.base) I.ok.mod.kin T.kC (thn (ha.run pos pins s σ H _ I h) fun us s1 ⟨vs, H1, I1, r1, v, ev, q1⟩ => ⟨I1.kIn, ?_⟩) he hpl
  subst ev
  cases r1 with
  | @cons _ v' _ us' rv rn =>
    cases rn
    show wpAny _ _ (call (.ref C) [v']) _ _ _
    have hlim := I1.nolimit
    have mg1 := I1.mod.glob.keeps I1.bk
    obtain ⟨mb, mb1, mb2⟩ := I1.mod.blt
    have mb1 := mb1.keeps I1.bk
    obtain ⟨hp, g, dr, tk, os⟩ := s1
    refine wpAny_call (x_made T I1.kIn mg1 ⟨mb, mb1, mb2⟩ hlim (by have := hr.dp; omega) fun h' tk' e d M => ?_)
    show MkP X pins σ Q (.ref e) ⟨h', g, dr, tk', os⟩
    obtain ⟨oe, fv, hoe, hc, hd, hdat, h1⟩ := M.obj
    obtain ⟨G', g1, g2⟩ := restrict h' fun b => decide (b ≠ e)
    have gk : ∀ b, b ≠ e → G'.get? b = h'.get? b := fun b hb => g1 b (decide_eq_true hb)
    have ge : G'.get? e = none := g2 e (by simp)
    have old : ∀ b o, hp.get? b = some o → G'.get? b = some o := fun b o q => (gk b (Nat.ne_of_lt (Nat.lt_of_lt_of_le (Heap.lt_size q) M.new))).trans (M.keep b o q)
    have ob : ObjOk X.prog X.w (upd H1 d (.xd [(("value" : Str), v)])) G' d (.xd [(("value" : Str), v)]) := ⟨_, M.ns.at (fun o q => (gk d M.dne).trans q), fun f => relO_val rv f⟩
    have J : Inv X pins σ (upd H1 d (.xd [(("value" : Str), v)])) ⟨G', g, dr, tk', os⟩ := I1.laid (t' := tk') old M.dbig ob
    refine ⟨e, oe, fv, ⟨G', g, dr, tk', os⟩, _, .ref C, some d, rfl, J, fun b o q => ?_, ge, hoe, ⟨hc, hd⟩, hdat, h1, ?_, rfl, I1.bare, raises_own T.exC T.tyC, q1 d (I1.hok.fresh M.dbig)⟩
    · by_cases hb : b = e
      · have q' : G'.get? b = some o := q
        rw [hb, ge] at q'
        cases q'
      · exact (gk b hb).symm.trans q
    · rw [upd_ne (Ne.symm M.dne)]
      exact I1.hok.fresh M.new
/-- raise C(e) -/
def tRaiseX (C : Addr) (W : WX) (ta : TA) : TS := fun _ σ H => tMkX C ta σ H fun cls d H' => W cls d σ H'
theorem ps_raiseX {a : Expr} {ta : TA} {W : WX} {p pos pos2 : Pos} {k : Nat} (hc : X.calm = true) (T : XTxt X.prog X.K X.mg n C fI) (hr : Room k X.A) (tk : Takes X W) (ha : PA X [a] ta) (hg : Gl X n) (hdb : (n == ("__debug__" : Str)) = false := by decide)
    (he : starEach (a :: []) X.env = (false, eval a X.env) :: starEach [] X.env := by rfl) (hpl : (backTo pos (starEach [] X.env)).any (·.1) = false := by rfl) :
    PS X (.Raise (some (.Call (.Name n p) [a] [] pos)) none pos2) (tRaiseX C W ta) := ps_raise hc tk (pmk_x T hr ha hg hdb he hpl)
end



/-! ### an exception that was caught and is kept under a name -/
/-- at a: an exception of the class cls, its dict d -/
def XO (cls : Value) (d : Option Addr) (a : Addr) : HO := .ext fun h => ∃ (oe : Obj) (vs : Array Value), h.get? a = some oe ∧ Zc cls d oe ∧ oe.data = .fields vs
theorem xo_ok {P : Program} {w : World} {H : Hp} {h : Heap} {a : Addr} {cls : Value} {d : Option Addr} {oe : Obj} {vs : Array Value} (e : h.get? a = some oe) (z : Zc cls d oe) (hd : oe.data = .fields vs) : ObjOk P w H h a (XO cls d a) :=
  ⟨⟨oe, vs, e, z, hd⟩, ⟨oe, e⟩, fun _ _ ⟨o, v, q, r⟩ k => ⟨o, v, k o q, r⟩⟩
theorem xo_at {P : Program} {w : World} {H : Hp} {h : Heap} {a : Addr} {cls : Value} {d : Option Addr} (hok : HOk P w H h) (e : H a = some (XO cls d a)) : ∃ (oe : Obj) (vs : Array Value), h.get? a = some oe ∧ Zc cls d oe ∧ oe.data = .fields vs := by
  have x : ObjOk P w H h a (.ext fun h => ∃ (oe : Obj) (vs : Array Value), h.get? a = some oe ∧ Zc cls d oe ∧ oe.data = .fields vs) := hok a _ e
  exact x.1
section
variable {X : Cx} {pins : List (Addr × Obj)} {σ σ0 : St} {H : Hp} {s sI : Shared} {a : Addr} {o : HO}
/-- what came since the entry may be tracked from now on -/
theorem track (J : Inv X pins σ0 H sI) (hna : sI.heap.get? a = none) (I : Inv X pins σ H s) (na : H a = none) (new : ObjOk X.prog X.w (upd H a o) s.heap a o) : Inv X pins σ (upd H a o) s := by
  have neI : ∀ {b : Addr} {u : Obj}, sI.heap.get? b = some u → b ≠ a := fun {b u} e z => by
    rw [z, hna] at e
    cases e
  have keepN : ∀ {b : Addr} {u : HO}, H b = some u → b ≠ a := fun {b u} e => ne_of_none e na
  refine ⟨I.ok, I.os, I.bare, ⟨I.base.keep, I.base.slot, fun b u e n hx => ?_, I.base.there, fun b xs e => ?_, fun b u v e => ?_, fun b ps e => ?_⟩, I.loc, I.cell, ?_, fun x c e => ?_, fun p hp => ?_, fun b u e => ?_, I.len⟩
  · obtain ⟨u', q⟩ := J.base.there b u e hx
    rw [upd_ne (neI q)]
    exact I.base.free b u e n hx
  · have q := I.base.tups b xs e
    rw [upd_ne (keepN q)]
    exact q
  · have q := I.base.frzs b u v e
    rw [upd_ne (keepN q)]
    exact q
  · obtain ⟨m, q⟩ := I.base.tbls b ps e
    exact ⟨m, by rw [upd_ne (keepN q)]; exact q⟩
  · obtain ⟨m, ⟨oL, es, ep, hL, _⟩, _⟩ := J.loc
    rw [upd_ne (neI hL)]
    exact I.free
  · obtain ⟨v, oc, hc, _⟩ := J.cell x c e
    rw [upd_ne (neI hc)]
    exact I.freeC x c e
  · obtain ⟨e, n, ne, nf, d⟩ := I.pin p hp
    obtain ⟨e', _⟩ := J.pin p hp
    exact ⟨e, by rw [upd_ne (neI e')]; exact n, ne, nf, d⟩
  · by_cases hb : b = a
    · subst hb
      rw [upd_same] at e
      cases e
      exact new
    · rw [upd_ne hb] at e
      exact (I.hok b u e).stay (fun _ _ _ q => q) (fun c q => by rw [upd_ne (keepN q)]; exact q) fun c xs q => by rw [upd_ne (keepN q)]; exact q
end
section
variable {X : Cx} {x1 x2 x3 n y : Str} {c1 c2 c3 : Value} {i j : Nat} {body : List Stmt} {a1 a2 a3 tp py pn' pa pos pos' : Pos} {kt : Nat} {tb : WX → TS}
theorem flyingZ_keeps {B h h' : Heap} {l : List Env} {a : Addr} {Z : Obj → Prop} (f : HandSPX.FlyingZ B l a Z h) (k : ∀ b o, h.get? b = some o → h'.get? b = some o) : HandSPX.FlyingZ B l a Z h' := by
  obtain ⟨f1, f2, f3, oe, vs, T, oT, ts, he, hz, hd, h1, hn, hne, hT, hdT, h3⟩ := f
  exact ⟨fun b o q => k b o (f1 b o q), f2, f3.of_keeps fun b o q _ => ⟨o, k b o q, rfl⟩, oe, vs, T, oT, ts, k _ _ he, hz, hd, h1, hn, hne, k _ _ hT, hdT, h3⟩
/-- what is wished of what is raised in: try: .. except (x1, x2, x3) as n: y = n -/
def wKeep (K : PySem.W.Frag) (cs : List Value) (i j : Nat) (D : Ends) : WX := fun cls d σ H =>
  PySem.W.exmAny K cls cs = some true ∧ ∀ a, H a = none → D.nx (((σ.set i (some (.ref a))).set j (some (.ref a))).set i none) (upd H a (XO cls d a))
theorem ps_try_keep (hs : X.stack = X.env :: X.outer) (hf : X.env.frame = some X.env.locals) (hN : X.N.Nodup) (hi : X.N[i]? = some n) (hj : X.N[j]? = some y) (hln : X.env.kindOf n = some .local) (hly : X.env.kindOf y = some .local)
    (g1 : Gl X x1) (g2 : Gl X x2) (g3 : Gl X x3) (m1 : X.mg x1 = some c1) (m2 : X.mg x2 = some c2) (m3 : X.mg x3 = some c3)
    (hb : ∀ (W : WX) (pn : List (Addr × Obj)) (xe : Value → Shared → Prop), Takes (X.tr pn xe) W → PSs (X.tr pn xe) body (tb W))
    (d1 : (x1 == ("__debug__" : Str)) = false := by decide) (d2 : (x2 == ("__debug__" : Str)) = false := by decide) (d3 : (x3 == ("__debug__" : Str)) = false := by decide) (dn : (n == ("__debug__" : Str)) = false := by decide) (dc : (n == ("__classdict__" : Str)) = false := by decide)
    (hsw : swapsWith (.Name n pn') (some (.Name y py)) pa.line X.env = pure false := by rfl) :
    PS X (.Try body [.ExceptHandler (some (.Tuple [.Name x1 a1, .Name x2 a2, .Name x3 a3] kt tp)) (some n) [.Assign [.Name y py] (.Name n pn') pa] pos'] [] [] pos) (fun D σ H => tb (wKeep X.K [c1, c2, c3] i j D) D σ H) := by
  refine ⟨fun pins s σ H D I h => ?_⟩
  have ok := I.ok
  have hfr : X.A.frames = some (X.env :: X.outer) := by rw [ok.frames, hs]
  have hloc : Loc X.env.scope n := .inl hln
  refine wpAny_Try_except ?_
  refine wpAny_mono ((hb (wKeep X.K [c1, c2, c3] i j D) (X.pn ++ pins) (fun e s₁ => wpAny (model X.prog X.w) X.A (noteFrame e X.env) (fun _ s₂ => wpAny (model X.prog X.w) X.A (setFlight e none) (fun _ s₃ =>
    wpAny (model X.prog X.w) X.A (handleBy e X.env [.ExceptHandler (some (.Tuple [.Name x1 a1, .Name x2 a2, .Name x3 a3] kt tp)) (some n) [.Assign [.Name y py] (.Name n pn') pa] pos']) (SP X pins D) X.xe s₃) X.xe s₂) X.xe s₁) (fun u s' xx => ?_)).run [] s σ H D (I.toTry _) h) (fun f s1 hsp => ?_) (fun e s1 he => he)
  · obtain ⟨a, B, sI, pins', σ', H', cls, d, rfl, J', nb, up, sky, na, os, ag, hm, hyes⟩ := xx
    have J : Inv X pins σ' H' sI := J'.ofTry ok
    have hBa : B.get? a = none := by
      rcases sky with ⟨_, q, _⟩ | ⟨_, q, _⟩ | ⟨_, q, _⟩ <;> exact q
    have sky' : Sky B (X.env :: X.outer) a (Zc cls d) X.env.locals s'.heap := by rw [← hs]; exact sky
    show wpAny (model X.prog X.w) X.A (noteFrame (.ref a) X.env) _ _ _
    refine Sky.land Zc.steady hfr hf sky' fun h3 fl3 up3 => ?_
    have J3 : Inv X pins σ' H' { s' with heap := h3 } := J.landed nb fl3.1 (up.trans up3) os ag
    obtain ⟨oe3, vs3, he3, hz3, hd3⟩ := fl3.there
    have nfr : a ∉ frs (X.env :: X.outer) := fun hm => by
      obtain ⟨_, o', e', hnf⟩ := fl3.2.2.1.mem hm
      rw [he3] at e'
      cases e'
      exact hnf _ hd3
    have hsI : sI.heap.get? a = none := by
      cases q : sI.heap.get? a with
      | none => rfl
      | some o =>
        have z := nb a o q (by rw [hs]; exact nfr)
        rw [hBa] at z
        cases z
    have nL : a ≠ X.env.locals := fun z => nfr (List.mem_filterMap.mpr ⟨X.env, List.mem_cons_self, by rw [hf, z]⟩)
    have nF : a ∉ X.fs := fun hm => by
      obtain ⟨e, he, q⟩ := List.mem_filterMap.mp hm
      exact nfr (List.mem_filterMap.mpr ⟨e, List.mem_cons_of_mem _ he, q⟩)
    have S3 := J3.suite he3 hd3 na nL nF
    refine wpAny_handleBy_cons (codeAny_handlers_test ?_) (by intro q; cases q)
    have LT : PySem.W.Looks (model X.prog X.w) h3 (typeOf (.ref a)) cls := fun A Q E s k q => wpAny_typeOf_ref (k _ _ he3) (by rw [hz3.1]; exact q)
    refine wpAny_Tuple ?_
    refine wpAny_items_cons (ld_glob (X := X.suite a ((a, oe3) :: (X.pn ++ pins))) S3 g1 m1 ?_ d1)
    refine wpAny_items_cons (ld_glob (X := X.suite a ((a, oe3) :: (X.pn ++ pins))) S3 g2 m2 ?_ d2)
    refine wpAny_items_cons (ld_glob (X := X.suite a ((a, oe3) :: (X.pn ++ pins))) S3 g3 m3 ?_ d3)
    refine wpAny_items_nil ⟨by show 3 ≤ sizeLine; decide, ?_⟩
    have kp : ∀ q o, h3.get? q = some o → (h3.push { cls := .type "tuple", data := .seq [c1, c2, c3].toArray }).get? q = some o := fun _ _ z => Heap.get?_push_of_some _ z
    refine (PySem.W.exm_tup3 (J3.kIn.keeps kp) (LT.keeps kp) (Heap.get?_push_size h3 rfl) hm).here ?_
    have fl3' : HandSPX.FlyingZ B (X.env :: X.outer) a (Zc cls d) (h3.push { cls := .type "tuple", data := .seq [c1, c2, c3].toArray }) := flyingZ_keeps fl3 kp
    refine codeAny_handlers_suite_as ?_
    refine HandSPX.lands_againZ fl3' fun h4 fl4 up4 => ?_
    have J4 : Inv X pins σ' H' { s' with heap := h4 } := J.landed nb fl4.1 (((up.trans up3).trans (Heap.UpToSlots.of_keeps kp)).trans up4) os ag
    obtain ⟨oe4, vs4, he4, hz4, hd4⟩ := fl4.there
    have S4 := J4.suite he4 hd4 na nL nF
    refine store_ok (X := X.suite a ((a, oe4) :: (X.pn ++ pins))) (v := .ref a) S4 hN hi hloc rfl (fun s5 S5 => ?_) (.inr hln)
    have lenN : i < σ'.length := by rw [J.len]; exact (List.getElem?_eq_some_iff.mp hi).1
    have rd : PSs (X.suite a ((a, oe4) :: (X.pn ++ pins))) [.Assign [.Name y py] (.Name n pn') pa] (tAsg (tVar i) (gName j)) :=
      pss_one (ps_set (X := X.suite a ((a, oe4) :: (X.pn ++ pins))) (i := j) hN hj (.inl hly) (pe_var (i := i) hi (.inl hln) dn dc) hsw (.inr hly))
    refine wpAny_mono (rd.run [] s5 _ H' { nx := fun σ6 H6 => σ6 = (σ'.set i (some (.ref a))).set j (some (.ref a)) ∧ H6 = H', rt := fun _ _ => False } S5 ⟨.ref a, by rw [List.getElem?_set_self lenN], rfl, rfl⟩) (fun f s6 hsp => ?_) (fun _ _ z => False.elim z)
    cases f with
    | next =>
      obtain ⟨σ6, H6, S6, rfl, rfl⟩ := hsp
      refine gone_ok (X := X.suite a ((a, oe4) :: (X.pn ++ pins))) S6 hN hi hln fun s7 S7 => ?_
      obtain ⟨e7, _⟩ := S7.pin (a, oe4) (List.mem_append_left _ List.mem_cons_self)
      exact ⟨_, _, track J hsI (S7.unsuite ok) na (xo_ok e7 hz4 hd4), hyes a na⟩
    | brk =>
      obtain ⟨_, _, _, q⟩ := hsp
      exact q.elim
    | cont =>
      obtain ⟨_, _, _, q⟩ := hsp
      exact q.elim
    | ret u =>
      obtain ⟨_, _, _, _, _, q⟩ := hsp
      exact q.elim
  · cases f with
    | next =>
      obtain ⟨σ', H', J', q⟩ := hsp
      exact wpAny_execs_nil ⟨σ', H', J'.ofTry ok, q⟩
    | brk =>
      obtain ⟨σ', H', J', q⟩ := hsp
      exact ⟨σ', H', J'.ofTry ok, q⟩
    | cont =>
      obtain ⟨σ', H', J', q⟩ := hsp
      exact ⟨σ', H', J'.ofTry ok, q⟩
    | ret u =>
      obtain ⟨v, σ', H', J', r, q⟩ := hsp
      exact ⟨v, σ', H', J'.ofTry ok, r, q⟩
end



/-! ## operators of an own class (own work over the library's rules) -/
section
variable {prog : Program} {w : World} {A : Around} {E : Value → Shared → Prop} {s : Shared} {K : PySem.W.Frag} {x C f : Addr} {ox : Obj} {od : Option Obj} {i : Int} {t : Tok}
/-- int's own slot declines an instance -/
theorem int_declines {name : Str} {id : String} {B : Builtin} (nm : String) (g : Int → Int → Sem Fin) {Q : Value → Shared → Prop} (slot : Slot "int" name id) (entry : entryFor table id = some B)
    (hB : B = Builtin.Int.intBinary nm g) (args : argsOk id ⟨[.int i t, .ref x], []⟩)
    (hx : s.heap.get? x = some ox) (hd : ∀ p, ox.data ≠ .prim p) (h : Q .notImplemented s) : wpAny (model prog w) A (call (.builtin id) [.int i t, .ref x]) Q E s := by
  refine wpAny_call_entry slot (typeIs_int s i t) entry ?_ args
  subst hB
  have e1 : slotArgs nm 1 ⟨[.int i t, .ref x], []⟩ = pure (.int i t, [.ref x]) := rfl
  have e2 : Builtin.Int.intOfSelf (.int i t) = pure i := rfl
  unfold Builtin.Int.intBinary
  refine wpAny_bind (wpAny_of_eq e1 ?_)
  refine wpAny_bind (wpAny_of_eq e2 ?_)
  refine wpAny_bind ?_
  show wpAny _ _ (load x >>= fun o => match o.data with | .prim (.int i _) => pure (some i) | _ => pure none) _ _ _
  refine wpAny_bind (wpAny_load hx ?_)
  obtain ⟨c, dd, dt, sl⟩ := ox
  cases dt with
  | prim p => exact absurd rfl (hd p)
  | _ => exact wpAny_pure (wpAny_bind (wpAny_rule (wpAny_pure ⟨_, rfl, h⟩)))
/-- int op instance, by the instance's reflected method -/
theorem bin_refl {op : Operator} {idI : String} {f0 : Addr} {Q : Value → Shared → Prop} (X : K.In s.heap) (I : PySem.W.InstAt s.heap x ox C od) (s1 : PySem.W.selfFirst K C = true)
    (slot : Slot "int" (PySem.dunder op.info.2) idI) (fills : fillsNumberSlot (.type "int") op.info.2 = pure true) (hs0 : PySem.W.findIn K (.ref C) (PySem.dunder op.info.2) = some (some (.ref f0)))
    (hs : PySem.W.findIn K (.ref C) (dunderR op.info.2) = some (some (.ref f))) (hf : PySem.W.isFn K (.ref f) = true) (hsub : PySem.W.subIn K (.ref C) (.type "int") = some false)
    (hni : ∀ Q' : Value → Shared → Prop, Q' .notImplemented s → wpAny (model prog w) A (call (.builtin idI) [.int i t, .ref x]) Q' E s)
    (h : wpAny (model prog w) A (call (.ref f) [.ref x, .int i t]) (PySem.W.CmpBack Q) E s) : wpAny (model prog w) A (binaryOp op (.int i t) (.ref x)) Q E s := by
  obtain ⟨cd, rest, hcd, hm⟩ := PySem.W.ksp_first s1
  rcases hi : op.info with ⟨sym, nm⟩
  rw [hi] at hs hs0 slot fills
  dsimp only at hs hs0 slot fills
  have two := PySem.W.ksp_try X I hs hf h
  simp only [binaryOp, hi]
  refine wpAny_holding (wpAny_bind ?_)
  simp only [binaryOp1]
  refine wpAny_bind (wpAny_typeOf (typeIs_int s i t) (wpAny_bind (I.type.here (wpAny_bind (wpAny_of_eq fills ?_)))))
  have hne : (Value.type "int" == Value.ref C) = false := Bool.eq_false_iff.mpr fun q => by cases beq_iff_eq.mp q
  simp only [hne, Bool.false_eq_true, if_false]
  refine wpAny_bind ((PySem.W.fills_K X hcd hm hs0).here ?_)
  simp only [Bool.and_self, if_true]
  refine wpAny_bind ((PySem.W.looks_subIn X hsub).here ?_)
  have hpy : numberSlotInPython (.type "int") nm = pure false := rfl
  simp only [Bool.false_eq_true, if_false, pure_bind, Bool.not_false, Bool.and_self, if_true, hpy]
  refine wpAny_bind (wpAny_tryMethod_declines (typeIs_int s i t) slot (hni _ ⟨rfl, ?_⟩))
  refine wpAny_bind (wpAny_mono two (fun r s' z => ?_) fun _ _ e => e)
  obtain ⟨v, rfl, hq⟩ := z
  exact wpAny_bind (wpAny_rule (wpAny_pure (wpAny_pure hq)))
/-- int cmp instance -/
theorem cmp_refl {op : CmpOp} {idI : String} {Q : Value → Shared → Prop} (hu : A.units < cLine) (X : K.In s.heap) (I : PySem.W.InstAt s.heap x ox C od) (slot : Slot "int" (cmpInfo op).2.1 idI)
    (hs : PySem.W.findIn K (.ref C) (cmpInfo op).2.2 = some (some (.ref f))) (hf : PySem.W.isFn K (.ref f) = true) (hsub : PySem.W.subIn K (.ref C) (.type "int") = some false)
    (hni : ∀ Q' : Value → Shared → Prop, Q' .notImplemented s → wpAny (model prog w) A (call (.builtin idI) [.int i t, .ref x]) Q' E s)
    (h : wpAny (model prog w) A (call (.ref f) [.ref x, .int i t]) (PySem.W.CmpBack Q) E s) : wpAny (model prog w) A (richCompare op (.int i t) (.ref x)) Q E s := by
  have two : wpAny (model prog w) A (tryCompare (.ref x) (cmpInfo op).2.2 (.int i t)) (fun r s' => ∃ v, r = some v ∧ Q v s') E s := by
    unfold tryCompare
    refine wpAny_bind (PySem.W.ifBound_K X I hs hf (wpAny_mono h (fun v s' hv => ?_) fun _ _ e => e))
    cases v <;> first | exact hv.elim | exact wpAny_pure ⟨_, rfl, hv⟩
  unfold richCompare
  simp only [(typeIs_int s i t).oneThing_none]
  refine wpAny_holding (wpAny_bind (wpAny_cRoomFor hu ?_))
  refine wpAny_bind (wpAny_typeOf (typeIs_int s i t) (wpAny_bind (I.type.here ?_)))
  have hne : (Value.type "int" != Value.ref C) = true := by
    rw [bne, Bool.not_eq_true']
    exact Bool.eq_false_iff.mpr fun q => by cases beq_iff_eq.mp q
  simp only [hne, if_true]
  refine wpAny_bind ((PySem.W.looks_subIn X hsub).here ?_)
  simp only [Bool.false_eq_true, if_false, Bool.not_false, if_true]
  refine wpAny_bind (wpAny_tryCompare_declines (typeIs_int s i t) slot (hni _ ⟨rfl, ?_⟩))
  refine wpAny_bind (wpAny_mono two (fun r s' z => ?_) fun _ _ e => e)
  obtain ⟨v, rfl, hq⟩ := z
  exact wpAny_pure hq
end

section
variable {X : Cx}
theorem cmpBack_of {pins : List (Addr × Obj)} {σ : St} {Q : VK} {u : Value} {s' : Shared} (h : EP X pins σ Q u s') : PySem.W.CmpBack (EP X pins σ Q) u s' := by
  cases u with
  | notImplemented =>
    obtain ⟨v, H', I, r, q⟩ := h
    cases v with
    | non => cases r
    | bl _ => cases r
    | int _ => obtain ⟨t, e⟩ := r; cases e
    | str _ => obtain ⟨t, e⟩ := r; cases e
    | byt _ => obtain ⟨t, e⟩ := r; cases e
    | flt _ => obtain ⟨t, e⟩ := r; cases e
    | ref _ => cases r
    | ty _ => cases r
  | _ => exact h
/-- what the class is asked for an operator -/
structure OpF (K : PySem.W.Frag) (C f : Addr) (op : Operator) : Prop where
  s1 : PySem.W.selfFirst K C = true
  hs : PySem.W.findIn K (.ref C) (PySem.dunder op.info.2) = some (some (.ref f))
  hf : PySem.W.isFn K (.ref f) = true
  rr : ∃ rc, PySem.W.findIn K (.ref C) (dunderR op.info.2) = some rc ∧ (rc = none ∨ ∃ g : Addr, rc = some (.ref g))
  i1 : ∃ fo, PySem.W.findIn K (.type "int") (PySem.dunder op.info.2) = some fo
  i2 : ∃ ro, PySem.W.findIn K (.type "int") (dunderR op.info.2) = some ro
  su : PySem.W.subIn K (.type "int") (.ref C) = some false
/-- x op y, x an instance of C, y an int or an instance of C: by the method's promise -/
def rOwn (C : Addr) (sp : Sp) (E : XK) : R2 := fun x y H Q => ∃ a dx fs, x = .ref a ∧ H a = some (.ins C dx fs) ∧ ((∃ i, y = .int i) ∨ ∃ b dy gs, y = .ref b ∧ H b = some (.ins C dy gs)) ∧ sp [x, y] H Q E
theorem op_own {CX : CXT} {k : Nat} {op : Operator} {C f : Addr} {fd : FuncData} {ps : List Str} {sp : Sp} {E : XK} (O : OpF X.K C f op) (F : FnOk X.prog X.w X.K X.mg X.base CX k f fd ps sp) (hr : Room k X.A) (hb : Binds X.K fd ps []) (hx : Passes CX X E) :
    OpR X (binaryOp op) (rOwn C sp E) := fun pins s σ H x y v u Q I rx ry h => by
  obtain ⟨a, dx, fs, rfl, ha, hy, q⟩ := h
  cases rx
  obtain ⟨mA, J, _⟩ := ins_get I.hok ha
  obtain ⟨od, J, _⟩ := J.look
  obtain ⟨m, hF⟩ := I.fr
  obtain ⟨rc, hrc, hp⟩ := O.rr
  obtain ⟨fo, h1⟩ := O.i1
  obtain ⟨ro, h2⟩ := O.i2
  rcases hy with ⟨i, rfl⟩ | ⟨b, dy, gs, rfl, hb'⟩
  · obtain ⟨t, rfl⟩ := ry
    refine PySem.W.ksp_binT hF I.ok.mod.kin J rfl O.s1 O.hs O.hf hrc hp h1 h2 O.su ?_
    exact thn (run_fn (vs := [.ref a, .int i]) F hr hb .nil hx I (.cons rfl (.cons ⟨t, rfl⟩ .nil)) q) fun _ _ z => cmpBack_of z
  · cases ry
    obtain ⟨mB, J', _⟩ := ins_get I.hok hb'
    obtain ⟨od', J', _⟩ := J'.look
    refine PySem.W.binop_K hF I.ok.mod.kin J J'.type O.s1 O.hs O.hf ?_
    exact thn (run_fn (vs := [.ref a, .ref b]) F hr hb .nil hx I (.cons rfl (.cons rfl .nil)) q) fun _ _ z => cmpBack_of z
/-- int op instance -/
structure OpI (K : PySem.W.Frag) (C f : Addr) (op : Operator) (id : String) : Prop where
  s1 : PySem.W.selfFirst K C = true
  h0 : ∃ f0 : Addr, PySem.W.findIn K (.ref C) (PySem.dunder op.info.2) = some (some (.ref f0))
  hs : PySem.W.findIn K (.ref C) (dunderR op.info.2) = some (some (.ref f))
  hf : PySem.W.isFn K (.ref f) = true
  su : PySem.W.subIn K (.ref C) (.type "int") = some false
/-- what is known of int's own slot -/
structure IntOp (op : Operator) (id : String) : Prop where
  slot : Slot "int" (PySem.dunder op.info.2) id
  fills : fillsNumberSlot (.type "int") op.info.2 = pure true
  decl : ∀ {prog : Program} {w : World} {A : Around} {E : Value → Shared → Prop} {s : Shared} {x : Addr} {ox : Obj} {i : Int} {t : Tok} {Q : Value → Shared → Prop}, s.heap.get? x = some ox → (∀ p, ox.data ≠ .prim p) → Q .notImplemented s →
    wpAny (model prog w) A (call (.builtin id) [.int i t, .ref x]) Q E s
theorem int_add : IntOp .Add "int.__add__" := ⟨F.slot_int_add, F.fills_int_add, fun hx hd h => int_declines _ _ F.slot_int_add F.entry_int_add rfl (F.args_int_add_2 _ _) hx hd h⟩
theorem int_sub : IntOp .Sub "int.__sub__" := ⟨F.slot_int_sub, F.fills_int_sub, fun hx hd h => int_declines _ _ F.slot_int_sub F.entry_int_sub rfl (F.args_int_sub_2 _ _) hx hd h⟩
theorem int_mul : IntOp .Mult "int.__mul__" := ⟨F.slot_int_mul, F.fills_int_mul, fun hx hd h => int_declines _ _ F.slot_int_mul F.entry_int_mul rfl (F.args_int_mul_2 _ _) hx hd h⟩
def rOwnI (C : Addr) (sp : Sp) (E : XK) : R2 := fun x y H Q => ∃ i b dy gs, x = .int i ∧ y = .ref b ∧ H b = some (.ins C dy gs) ∧ sp [y, x] H Q E
theorem op_ownI {CX : CXT} {k : Nat} {op : Operator} {id : String} {C f : Addr} {fd : FuncData} {ps : List Str} {sp : Sp} {E : XK} (N : IntOp op id) (O : OpI X.K C f op id) (F : FnOk X.prog X.w X.K X.mg X.base CX k f fd ps sp) (hr : Room k X.A) (hb : Binds X.K fd ps []) (hx : Passes CX X E) :
    OpR X (binaryOp op) (rOwnI C sp E) := fun pins s σ H x y v u Q I rx ry h => by
  obtain ⟨i, b, dy, gs, rfl, rfl, hb', q⟩ := h
  cases ry
  obtain ⟨t, rfl⟩ := rx
  obtain ⟨mB, J0, _⟩ := ins_get I.hok hb'
  obtain ⟨od, J, _⟩ := J0.look
  obtain ⟨f0, h0⟩ := O.h0
  refine bin_refl I.kIn J O.s1 N.slot N.fills h0 O.hs O.hf O.su (fun Q' q' => N.decl J.at_ (fun p => by intro z; cases z) q') ?_
  exact thn (run_fn (vs := [.ref b, .int i]) F hr hb .nil hx I (.cons rfl (.cons ⟨t, rfl⟩ .nil)) q) fun _ _ z => cmpBack_of z
/-- comparisons -/
structure CmF (K : PySem.W.Frag) (C f : Addr) (op : CmpOp) : Prop where
  hs : PySem.W.findIn K (.ref C) (cmpInfo op).2.1 = some (some (.ref f))
  hf : PySem.W.isFn K (.ref f) = true
  n1 : PySem.W.notFirst K C (.type "int") = true
theorem notFirst_self {K : PySem.W.Frag} {C : Addr} : PySem.W.notFirst K C (.ref C) = true := by simp [PySem.W.notFirst]
theorem op_ownC {CX : CXT} {k : Nat} {op : CmpOp} {C f : Addr} {fd : FuncData} {ps : List Str} {sp : Sp} {E : XK} (hop : ∀ a b, compareOp op a b = richCompare op a b) (O : CmF X.K C f op) (F : FnOk X.prog X.w X.K X.mg X.base CX k f fd ps sp) (hr : Room k X.A) (hb : Binds X.K fd ps []) (hx : Passes CX X E) :
    OpR X (compareOp op) (rOwn C sp E) := fun pins s σ H x y v u Q I rx ry h => by
  obtain ⟨a, dx, fs, rfl, ha, hy, q⟩ := h
  cases rx
  obtain ⟨mA, J, _⟩ := ins_get I.hok ha
  obtain ⟨od, J, _⟩ := J.look
  obtain ⟨m, hF⟩ := I.fr
  rw [hop]
  rcases hy with ⟨i, rfl⟩ | ⟨b, dy, gs, rfl, hb'⟩
  · obtain ⟨t, rfl⟩ := ry
    refine PySem.W.cmp_K hr.units0 hF I.ok.mod.kin J (PySem.W.Looks.of_pure rfl) O.n1 O.hs O.hf ?_
    exact thn (run_fn (vs := [.ref a, .int i]) F hr hb .nil hx I (.cons rfl (.cons ⟨t, rfl⟩ .nil)) q) fun _ _ z => cmpBack_of z
  · cases ry
    obtain ⟨mB, J', _⟩ := ins_get I.hok hb'
    obtain ⟨od', J', _⟩ := J'.look
    refine PySem.W.cmp_K hr.units0 hF I.ok.mod.kin J J'.type notFirst_self O.hs O.hf ?_
    exact thn (run_fn (vs := [.ref a, .ref b]) F hr hb .nil hx I (.cons rfl (.cons rfl .nil)) q) fun _ _ z => cmpBack_of z
structure CmI (K : PySem.W.Frag) (C f : Addr) (op : CmpOp) : Prop where
  hs : PySem.W.findIn K (.ref C) (cmpInfo op).2.2 = some (some (.ref f))
  hf : PySem.W.isFn K (.ref f) = true
  su : PySem.W.subIn K (.ref C) (.type "int") = some false
structure IntCm (op : CmpOp) (id : String) : Prop where
  slot : Slot "int" (cmpInfo op).2.1 id
  hop : ∀ a b, compareOp op a b = richCompare op a b
  decl : ∀ {prog : Program} {w : World} {A : Around} {E : Value → Shared → Prop} {s : Shared} {x : Addr} {ox : Obj} {i : Int} {t : Tok} {Q : Value → Shared → Prop}, s.heap.get? x = some ox → (∀ p, ox.data ≠ .prim p) → Q .notImplemented s →
    wpAny (model prog w) A (call (.builtin id) [.int i t, .ref x]) Q E s
theorem int_lt : IntCm .Lt "int.__lt__" := ⟨F.slot_int_lt, fun _ _ => rfl, fun hx hd h => int_declines _ _ F.slot_int_lt F.entry_int_lt rfl (F.args_int_lt_2 _ _) hx hd h⟩
theorem int_le : IntCm .LtE "int.__le__" := ⟨F.slot_int_le, fun _ _ => rfl, fun hx hd h => int_declines _ _ F.slot_int_le F.entry_int_le rfl (F.args_int_le_2 _ _) hx hd h⟩
theorem int_gt : IntCm .Gt "int.__gt__" := ⟨F.slot_int_gt, fun _ _ => rfl, fun hx hd h => int_declines _ _ F.slot_int_gt F.entry_int_gt rfl (F.args_int_gt_2 _ _) hx hd h⟩
theorem int_ge : IntCm .GtE "int.__ge__" := ⟨F.slot_int_ge, fun _ _ => rfl, fun hx hd h => int_declines _ _ F.slot_int_ge F.entry_int_ge rfl (F.args_int_ge_2 _ _) hx hd h⟩
theorem int_eq : IntCm .Eq "int.__eq__" := ⟨F.slot_int_eq, fun _ _ => rfl, fun hx hd h => int_declines _ _ F.slot_int_eq F.entry_int_eq rfl (F.args_int_eq_2 _ _) hx hd h⟩
theorem int_ne : IntCm .NotEq "int.__ne__" := ⟨F.slot_int_ne, fun _ _ => rfl, fun hx hd h => int_declines _ _ F.slot_int_ne F.entry_int_ne rfl (F.args_int_ne_2 _ _) hx hd h⟩
theorem op_ownCI {CX : CXT} {k : Nat} {op : CmpOp} {id : String} {C f : Addr} {fd : FuncData} {ps : List Str} {sp : Sp} {E : XK} (N : IntCm op id) (O : CmI X.K C f op) (F : FnOk X.prog X.w X.K X.mg X.base CX k f fd ps sp) (hr : Room k X.A) (hb : Binds X.K fd ps []) (hx : Passes CX X E) :
    OpR X (compareOp op) (rOwnI C sp E) := fun pins s σ H x y v u Q I rx ry h => by
  obtain ⟨i, b, dy, gs, rfl, rfl, hb', q⟩ := h
  cases ry
  obtain ⟨t, rfl⟩ := rx
  obtain ⟨mB, J0, _⟩ := ins_get I.hok hb'
  obtain ⟨od, J, _⟩ := J0.look
  rw [N.hop]
  refine cmp_refl hr.units0 I.kIn J N.slot O.hs O.hf O.su (fun Q' q' => N.decl J.at_ (fun p => by intro z; cases z) q') ?_
  exact thn (run_fn (vs := [.ref b, .int i]) F hr hb .nil hx I (.cons rfl (.cons ⟨t, rfl⟩ .nil)) q) fun _ _ z => cmpBack_of z
end

/-! ### -x, abs(x), bool(x), C.m(..) of an own class -/
section
variable {prog : Program} {w : World} {A : Around} {E : Value → Shared → Prop} {s : Shared} {x : Addr}
theorem bool_inst {Q : Value → Shared → Prop} (h : wpAny (model prog w) A.in1.in1 (truthy (.ref x)) (fun b s' => Q (.bool b) s') E s) : wpAny (model prog w) A (call (.type "bool") [.ref x]) Q E s := by
  refine callType_newIn F.called_bool F.newNe_bool (F.typeCall_bool_1 _) (F.newCall_bool_1 _) (fun obj => F.args_object_init_2 obj _) F.entry_bool_new
    (S := fun A R s => wpAny (model prog w) A.in1 (truthy (.ref x)) (fun b s' => R (.ok (.ret (.bool b))) s') (fun e s' => R (.error e) s') s) (fun A R s hs => ?_) ?_
  · obtain ⟨hp, g, d, tk, os⟩ := s
    have f1 := F.conv_sub_bool
    unfold Builtin.«bool.__new__»
    repeat (any_goals (first | assumption | (with_reducible refine wpAny_bind (wpAny_mono hs (fun b s' hb => ?_) fun _ _ e => e)) | wp_step))
    all_goals first | exact hb | skip
  · exact wpAny_mono h (fun b s' hb => ⟨rfl, hb⟩) fun _ _ e => e
end
section
variable {X : Cx} {CX : CXT} {k : Nat} {C f p : Addr} {fd : FuncData} {ps : List Str} {sp : Sp} {E : XK}
/-- a def called somewhere below, from a built-in -/
theorem run_fnA {pins : List (Addr × Obj)} {σ : St} {H : Hp} {s : Shared} {Q : VK} {us : List Value} {vs : List V} {A : Around} (room : Room k A) (fr : A.frames = X.A.frames) (F : FnOk X.prog X.w X.K X.mg X.base CX k f fd ps sp) (hb : Binds X.K fd ps []) (hx : Passes CX X E)
    (I : Inv X pins σ H s) (r : Vals vs us) (h : sp vs H Q E) : wpAny (model X.prog X.w) A (call (.ref f) us) (EP X pins σ Q) X.xe s := by
  have e0 : Env0 X.prog X.w X.K X.mg X.base A X.stack s H := by
    have e := I.env0
    exact ⟨by rw [fr]; exact e.frames, e.mod, e.bs, e.bsz, e.funs, e.frf, e.hok, e.bare⟩
  have hl : us.length = ps.length := by rw [← r.length]; exact F.len _ _ _ _ h
  refine wpAny_call (codeAny_mono (F.run A X.stack s H ⟨us, []⟩ us vs Q E room e0 (by
    have := hb s us I.kIn (by simpa using hl)
    simpa using this) r h) fun r s' hq => ?_)
  cases r with
  | error e => exact hx pins σ H s e s' I hq
  | ok fl =>
    cases fl with
    | ret u => exact I.after hq
    | next => exact False.elim hq
    | brk => exact False.elim hq
    | cont => exact False.elim hq
theorem room_in1 {A : Around} (h : Room (k + 1) A) : Room k A.in1 := h.in1
structure UnF (K : PySem.W.Frag) (C f : Addr) (nm : Str) : Prop where
  hs : PySem.W.findIn K (.ref C) nm = some (some (.ref f))
  hf : PySem.W.isFn K (.ref f) = true
def rOwn1 (C : Addr) (sp : Sp) (E : XK) : V → Hp → VK → Prop := fun x H Q => ∃ a dx fs, x = .ref a ∧ H a = some (.ins C dx fs) ∧ sp [x] H Q E
theorem un_own (O : UnF X.K C f "__neg__") (F : FnOk X.prog X.w X.K X.mg X.base CX k f fd ps sp) (hr : Room k X.A) (hb : Binds X.K fd ps []) (hx : Passes CX X E) : UnR X (unaryOp .USub) (rOwn1 C sp E) := fun pins s σ H x v Q I rx h => by
  obtain ⟨a, dx, fs, rfl, ha, q⟩ := h
  cases rx
  obtain ⟨mA, J, _⟩ := ins_get I.hok ha
  obtain ⟨od, J, _⟩ := J.look
  obtain ⟨m, hF⟩ := I.fr
  refine PySem.W.ksp_neg hF I.ok.mod.kin J O.hs O.hf ?_
  exact run_fn (vs := [.ref a]) F hr hb .nil hx I (.cons rfl .nil) q
def rOwnC1 (C : Addr) (sp : Sp) (E : XK) : List V → Hp → VK → Prop := fun vs H Q => ∃ a dx fs, vs = [.ref a] ∧ H a = some (.ins C dx fs) ∧ sp vs H Q E
theorem call_absO (O : UnF X.K C f "__abs__") (F : FnOk X.prog X.w X.K X.mg X.base CX k f fd ps sp) (hr : Room (k + 1) X.A) (hb : Binds X.K fd ps []) (hx : Passes CX X E) : CallR X (.builtin "abs") (rOwnC1 C sp E) := fun pins s σ H xs us Q I r h => by
  obtain ⟨a, dx, fs, rfl, ha, q⟩ := h
  obtain ⟨u, rfl, ru⟩ := vals1 r
  cases ru
  obtain ⟨mA, J, _⟩ := ins_get I.hok ha
  obtain ⟨od, J, _⟩ := J.look
  refine Calls.call_function_entry PyProof.Rows.kind_abs PyProof.Rows.plain_abs PyProof.Rows.entry_abs (PyProof.Rows.args_abs _) ?_
  unfold Builtin.«abs»
  refine wpAny_bind (m := oneArg "abs" _) (wpAny_pure ?_)
  refine wpAny_bind (m := callSpecial? (.ref a) (Str.ofString "__abs__")) (PySem.W.special_fn I.kIn J O.hs (beq_iff_eq.mp O.hf) ?_)
  exact thn (run_fnA (vs := [.ref a]) (room_in1 hr) rfl F hb hx I (.cons rfl .nil) q) fun v s' z => wpAny_pure ⟨_, rfl, z⟩
theorem boolBack_of {pins : List (Addr × Obj)} {σ : St} {Q : VK} {u : Value} {s' : Shared} (h : EP X pins σ (fun v H' => (∃ b, v = .bl b) ∧ Q v H') u s') : PySem.W.BoolBack (fun b s' => EP X pins σ Q (.bool b) s') u s' := by
  obtain ⟨v, H', I, r, ⟨b, rfl⟩, q⟩ := h
  cases r
  exact ⟨.bl b, H', I, rfl, q⟩
def rOwnB (C : Addr) (sp : Sp) (E : XK) : List V → Hp → VK → Prop := fun vs H Q => ∃ a dx fs, vs = [.ref a] ∧ H a = some (.ins C dx fs) ∧ sp vs H (fun v H' => (∃ b, v = .bl b) ∧ Q v H') E
theorem call_boolO (O : UnF X.K C f "__bool__") (F : FnOk X.prog X.w X.K X.mg X.base CX k f fd ps sp) (hr : Room (k + 2) X.A) (hb : Binds X.K fd ps []) (hx : Passes CX X E) : CallR X (.type "bool") (rOwnB C sp E) := fun pins s σ H xs us Q I r h => by
  obtain ⟨a, dx, fs, rfl, ha, q⟩ := h
  obtain ⟨u, rfl, ru⟩ := vals1 r
  cases ru
  obtain ⟨mA, J, _⟩ := ins_get I.hok ha
  obtain ⟨od, J, _⟩ := J.look
  obtain ⟨m, hF⟩ := I.fr
  refine bool_inst (PySem.W.truthy_K hF I.ok.mod.kin J O.hs O.hf ?_)
  exact thn (run_fnA (vs := [.ref a]) (room_in1 (room_in1 hr)) rfl F hb hx I (.cons rfl .nil) q) fun v s' z => boolBack_of z
/-- C.m is a staticmethod: its record at p, its def at g -/
structure SMet (K : PySem.W.Frag) (C : Addr) (mc : Value) (m : Str) (p g : Addr) : Prop where
  at_ : PySem.W.findCls K (.ref C) mc m = some (.get (.builtin "staticmethod.__get__") (.ref p) .none (.ref C))
  rc : ∃ rest, PySem.W.recIn K p "staticmethod" = some (.ref g :: rest)
  kp : PySem.W.keepIn K (.ref g) = true
def tSMeth (C : Addr) (sp : Sp) (E : XK) (ta : TE) (t : TA) : TE := fun σ H Q => ta σ H fun x H1 => x = .ref C ∧ t σ H1 fun vs H2 => sp vs H2 Q E
theorem pe_smeth {o e : Expr} {es : List Expr} {m : Str} {pos apos : Pos} {ta : TE} {t : TA} {pl : Sem Bool} {mc : Value} (he : PE X o ta) (r : ClX.CRead X.K C mc) (c : SMet X.K C mc m p f) (F : FnOk X.prog X.w X.K X.mg X.base CX k f fd ps sp) (hr : Room k X.A) (hb : Binds X.K fd ps []) (hx : Passes CX X E) (ha : PA X (e :: es) t)
    (hst : starEach (e :: es) X.env = (false, eval e X.env) :: starEach es X.env := by rfl) (hpl : (backTo pos (starEach es X.env)).any (·.1) = false := by rfl)
    (ht : eval (.Call (.Attribute o m apos) (e :: es) [] pos) X.env = (do
      let ov ← eval o X.env
      standAt apos.atName
      let (f, first) ← holding [ov] (getMethod ov m pl)
      callWith pos f first (backTo pos (starEach (e :: es) X.env)) (backToKw pos (keywordEach [] X.env))) := by rfl) :
    PE X (.Call (.Attribute o m apos) (e :: es) [] pos) (tSMeth C sp E ta t) := by
  refine ⟨fun pins s σ H Q I h => ?_⟩
  refine PySem.W.methodCall_KW (pl := pl) (thn (he.run pins s σ H _ I h) fun u s1 ⟨x, H1, I1, rx, ex, q⟩ => ?_) ht
  subst ex
  obtain rfl : u = Value.ref C := rx
  obtain ⟨rest, hp⟩ := c.rc
  refine PySem.W.method_cls I1.kIn r.ga ?_
  refine PySem.W.cls_bind I1.kIn r.rd c.at_ ?_
  refine wpAny_call (PySem.W.sm_get (s := { s1 with toks := s1.toks + 1 }) I1.kIn hp (PySem.W.handed_on rfl ?_))
  refine PySem.W.callWith_K (h₀ := X.base) (first := []) I.ok.mod.kin c.kp (thn (ha.run pos pins _ σ H1 _ (I1.tok _) q) fun us s2 ⟨vs, H2, I2, rv, q2⟩ => ⟨I2.kIn, ?_⟩) hst hpl
  exact run_fn F hr hb .nil hx I2 rv (by rw [List.append_nil]; exact q2)
end
/-! ### isinstance with own classes -/
structure TyF (K : PySem.W.Frag) (C : Addr) : Prop where
  cl : Cls K C
  ha : PySem.W.findIn K (.ref C) "__class__" = some (some (.builtin "object.__class__"))
  hn : PySem.W.specialIn K (.builtin "object.__class__") "__get__" = some (some (.builtin "getset_descriptor.__get__"))
  tk : PySem.W.takesIn K (.builtin "object.__class__") = some true
  hm : PySem.W.mroIn K C (.type "object") = some true
/-- the type of a value -/
def tyO : Option HO → Option Value
  | some (.lst _) => some (.type "list")
  | some (.tup _) => some (.type "tuple")
  | some (.dK _) => some (.type "dict")
  | some (.ins C _ _) => some (.ref C)
  | _ => none
def tyV (H : Hp) : V → Option Value
  | .non => some (.type "NoneType")
  | .bl _ => some (.type "bool")
  | .int _ => some (.type "int")
  | .str _ => some (.type "str")
  | .ref a => tyO (H a)
  | _ => none
theorem tyV_non {H : Hp} : tyV H .non = some (.type "NoneType") := rfl
theorem tyV_bl {H : Hp} {b : Bool} : tyV H (.bl b) = some (.type "bool") := rfl
theorem tyV_int {H : Hp} {i : Int} : tyV H (.int i) = some (.type "int") := rfl
theorem tyV_str {H : Hp} {z : Str} : tyV H (.str z) = some (.type "str") := rfl
theorem tyV_ref {H : Hp} {a : Addr} : tyV H (.ref a) = tyO (H a) := rfl
theorem tyO_lst {xs : List V} : tyO (some (.lst xs)) = some (.type "list") := rfl
theorem tyO_tup {xs : List V} : tyO (some (.tup xs)) = some (.type "tuple") := rfl
theorem tyO_dK {kvs : List (Key × V)} : tyO (some (.dK kvs)) = some (.type "dict") := rfl
theorem tyO_ins {C dx : Addr} {fs : List (Str × V)} : tyO (some (.ins C dx fs)) = some (.ref C) := rfl
theorem tyV_ok {K : PySem.W.Frag} {H : Hp} {v : V} {t : Value} (h : tyV H v = some t) (hC : ∀ C, t = .ref C → TyF K C) : TyX K H v t := by
  cases v with
  | non => cases h; exact .base .non
  | bl b => cases h; exact .base (.bl b)
  | int i => cases h; exact .base (.int i)
  | str z => cases h; exact .base (.str z)
  | byt b => cases h
  | flt b => cases h
  | ty n => cases h
  | ref a =>
    have h : tyO (H a) = some t := h
    cases e : H a with
    | none => rw [e] at h; cases h
    | some o =>
      rw [e] at h
      cases o with
      | lst xs => cases h; exact .base (.lst e)
      | tup xs => cases h; exact .base (.tup e)
      | dK kvs => cases h; exact .base (.dK e)
      | ins C dx fs =>
        cases h
        have q := hC C rfl
        exact .base (.ins e q.cl q.ha q.hn q.tk q.hm)
      | _ => cases h
def clsV : V → Option Value
  | .ty n => some (.type n)
  | .ref C => some (.ref C)
  | _ => none
theorem clsV_ty {n : String} : clsV (.ty n) = some (.type n) := rfl
theorem clsV_ref {C : Addr} : clsV (.ref C) = some (.ref C) := rfl
def clsVs : List V → Option (List Value)
  | [] => some []
  | v :: r => (clsV v).bind fun u => (clsVs r).map fun us => u :: us
theorem clsVs_nil : clsVs [] = some [] := rfl
theorem clsVs_ty {n : String} {r : List V} : clsVs (.ty n :: r) = (clsVs r).map fun us => Value.type n :: us := rfl
theorem clsVs_ref {C : Addr} {r : List V} : clsVs (.ref C :: r) = (clsVs r).map fun us => Value.ref C :: us := rfl
theorem clsV_ok {v : V} {u : Value} (h : clsV v = some u) : ClsV v u := by
  cases v with
  | ty n => cases h; exact .ty n
  | ref C => cases h; exact .own C
  | _ => cases h
theorem clsVs_ok : ∀ {vs : List V} {us : List Value}, clsVs vs = some us → Paired ClsV vs us
  | [], us, h => by cases h; exact .nil
  | v :: r, us, h => by
    unfold clsVs at h
    cases e : clsV v with
    | none => rw [e] at h; cases h
    | some u =>
      rw [e] at h
      cases e2 : clsVs r with
      | none => rw [e2] at h; cases h
      | some ws => rw [e2] at h; cases h; exact .cons (clsV_ok e) (clsVs_ok e2)
section
variable {X : Cx}
def rIsW (K : PySem.W.Frag) : List V → Hp → VK → Prop := fun vs H Q => ∃ x c u t b, vs = [x, c] ∧ clsV c = some u ∧ tyV H x = some t ∧ (∀ C, t = .ref C → TyF K C) ∧ PySem.W.kitOne K t u = some b ∧ Q (.bl b) H
theorem call_isW : CallR X (.builtin "isinstance") (rIsW X.K) := fun pins s σ H xs us Q I r h => by
  obtain ⟨x, c, u, t, b, h1, h2, h3, h4, h5, h6⟩ := h
  exact call_isi pins s σ H xs us Q I r ⟨x, c, t, u, b, h1, clsV_ok h2, tyV_ok h3 h4, h5, h6⟩
def rIsWT (K : PySem.W.Frag) : List V → Hp → VK → Prop := fun vs H Q => ∃ x p cs us t b, vs = [x, .ref p] ∧ H p = some (.tup cs) ∧ clsVs cs = some us ∧ tyV H x = some t ∧ (∀ C, t = .ref C → TyF K C) ∧ PySem.W.kitAny K t us = some b ∧ Q (.bl b) H
theorem call_isWT : CallR X (.builtin "isinstance") (rIsWT X.K) := fun pins s σ H xs us Q I r h => by
  obtain ⟨x, p, cs, ws, t, b, h1, h2, h3, h4, h5, h6, h7⟩ := h
  exact call_isiT pins s σ H xs us Q I r ⟨x, p, cs, t, ws, b, h1, h2, clsVs_ok h3, tyV_ok h4 h5, h6, h7⟩
theorem kitAny_t {K : PySem.W.Frag} {t c : Value} {r : List Value} (h : PySem.W.kitOne K t c = some true) : PySem.W.kitAny K t (c :: r) = some true := by
  unfold PySem.W.kitAny
  rw [h]
theorem kitAny_f {K : PySem.W.Frag} {t c : Value} {r : List Value} (h : PySem.W.kitOne K t c = some false) : PySem.W.kitAny K t (c :: r) = PySem.W.kitAny K t r := by
  rw [PySem.W.kitAny]
  rw [h]
theorem kit_self {K : PySem.W.Frag} {t : Value} : PySem.W.kitOne K t t = some true := by
  unfold PySem.W.kitOne
  rw [if_pos (by simp)]
end
theorem kit_out {K : PySem.W.Frag} {C : Addr} {b : String} {r : Bool} (h : PySem.W.subIn K (.ref C) (.type b) = some r) (hm : PySem.W.kitMeta b = true := by decide) : PySem.W.kitOne K (.ref C) (.type b) = some r := by
  unfold PySem.W.kitOne
  rw [if_neg (by simp)]
  show (if PySem.W.kitMeta b = true then _ else _) = _
  rw [if_pos hm]
  exact h
theorem kit_in {K : PySem.W.Frag} {C : Addr} {t : Value} {r : Bool} (ic : PySem.W.isClsIn K C = true) (ty : PySem.W.typeIn K (.ref C) = some (.type "type")) (h : PySem.W.subIn K t (.ref C) = some r) (ne : t ≠ .ref C) : PySem.W.kitOne K t (.ref C) = some r := by
  unfold PySem.W.kitOne
  rw [if_neg (by simpa using ne)]
  show (if ((PySem.W.clsIn K C).isSome && PySem.W.typeIn K (.ref C) == some (.type "type")) = true then _ else _) = _
  have i2 : (PySem.W.clsIn K C).isSome = true := ic
  rw [if_pos (by rw [i2, ty]; rfl)]
  exact h

/-! ### comparisons with anything on the right; two rules for one node -/
section
variable {X : Cx}
def rOr (r r' : R2) : R2 := fun x y H Q => r x y H Q ∨ r' x y H Q
theorem opOr {f : Value → Value → Sem Value} {r r' : R2} (h : OpR X f r) (h' : OpR X f r') : OpR X f (rOr r r') := fun pins s σ H x y v u Q I rx ry q => by
  rcases q with q | q
  · exact h pins s σ H x y v u Q I rx ry q
  · exact h' pins s σ H x y v u Q I rx ry q
theorem looksTy {M : Model} {pins : List (Addr × Obj)} {σ : St} {H : Hp} {s : Shared} {y : V} {u t : Value} (I : Inv X pins σ H s) (r : RelV y u) (h : tyV H y = some t) : PySem.W.Looks M s.heap (typeOf u) t := by
  cases y with
  | non => cases h; cases r; exact PySem.W.Looks.of_pure rfl
  | bl b => cases h; cases r; exact PySem.W.Looks.of_pure rfl
  | int i => cases h; obtain ⟨_, rfl⟩ := r; exact PySem.W.Looks.of_pure rfl
  | str z => cases h; obtain ⟨_, rfl⟩ := r; exact PySem.W.Looks.of_pure rfl
  | byt b => cases h
  | flt b => cases h
  | ty n => cases h
  | ref a =>
    cases r
    have h : tyO (H a) = some t := h
    cases e : H a with
    | none => rw [e] at h; cases h
    | some o =>
      rw [e] at h
      cases o with
      | lst xs =>
        cases h
        obtain ⟨_, _, n, _, h1⟩ := (show ObjOk X.prog X.w H s.heap a (.lst xs) from I.hok a _ e)
        exact (PySem.W.Looks.ld h1).andThen .now
      | tup xs =>
        cases h
        obtain ⟨_, _, _, o, h1, h2, _⟩ := (show ObjOk X.prog X.w H s.heap a (.tup xs) from I.hok a _ e)
        exact h2 ▸ (PySem.W.Looks.ld h1).andThen .now
      | dK kvs =>
        cases h
        obtain ⟨_, _, vs, _, o, es, ep, h1, h2, _⟩ := (show ObjOk X.prog X.w H s.heap a (.dK kvs) from I.hok a _ e)
        exact h2.1 ▸ (PySem.W.Looks.ld h1).andThen .now
      | ins C dx fs =>
        cases h
        obtain ⟨mA, J, _⟩ := ins_get I.hok e
        obtain ⟨od, J, _⟩ := J.look
        exact J.type
      | _ => cases h
def rOwnA (K : PySem.W.Frag) (C : Addr) (sp : Sp) (E : XK) : R2 := fun x y H Q => ∃ a dx fs t, x = .ref a ∧ H a = some (.ins C dx fs) ∧ tyV H y = some t ∧ PySem.W.notFirst K C t = true ∧ sp [x, y] H Q E
theorem op_ownCA {CX : CXT} {k : Nat} {op : CmpOp} {C f : Addr} {fd : FuncData} {ps : List Str} {sp : Sp} {E : XK} (hop : ∀ a b, compareOp op a b = richCompare op a b) (O : CmF X.K C f op) (F : FnOk X.prog X.w X.K X.mg X.base CX k f fd ps sp) (hr : Room k X.A) (hb : Binds X.K fd ps []) (hx : Passes CX X E) :
    OpR X (compareOp op) (rOwnA X.K C sp E) := fun pins s σ H x y v u Q I rx ry h => by
  obtain ⟨a, dx, fs, t, rfl, ha, hy, hn, q⟩ := h
  cases rx
  obtain ⟨mA, J, _⟩ := ins_get I.hok ha
  obtain ⟨od, J, _⟩ := J.look
  obtain ⟨m, hF⟩ := I.fr
  rw [hop]
  refine PySem.W.cmp_K hr.units0 hF I.ok.mod.kin J (looksTy I ry hy) hn O.hs O.hf ?_
  exact thn (run_fn (vs := [.ref a, y]) F hr hb .nil hx I (.cons rfl (.cons ry .nil)) q) fun _ _ z => cmpBack_of z
end

/-! ### defs that are called where no repr is under way (A.guards = some []): what repr of a list asks -/
structure FnG (P : Program) (w : World) (K : PySem.W.Frag) (mg : Str → Option Value) (base : Heap) (CX : CXT) (k : Nat) (f : Addr) (fd : FuncData) (ps : List Str) (sp : Sp) : Prop where
  len : ∀ vs H Q E, sp vs H Q E → vs.length = ps.length
  run : ∀ (A : Around) (outer : List Env) (s : Shared) (H : Hp) (args : Args) (us : List Value) (vs : List V) (Q : VK) (E : XK), Room k A → A.guards = some [] → Env0 P w K mg base A outer s H → BindsTo s fd args (ps.zip us) → Vals vs us → sp vs H Q E →
    codeAny (model P w) A (.call (.ref f) args) (CR CX outer P w H s Q E) s
theorem fn_g {P : Program} {w : World} {K : PySem.W.Frag} {mg : Str → Option Value} {base : Heap} {CX : CXT} {k : Nat} {f : Addr} {fd : FuncData} {ps : List Str} {sp : Sp} (F : FnOk P w K mg base CX k f fd ps sp) : FnG P w K mg base CX k f fd ps sp :=
  ⟨F.len, fun A o s H ar us vs Q E hr _ => F.run A o s H ar us vs Q E hr⟩
theorem fnG_of {CX : CXT} {P : Program} {w : World} {K : PySem.W.Frag} {mg : Str → Option Value} {base : Heap} {k : Nat} {f : Addr} {name qual : Str} {params : Arguments} {body : List Stmt} {scope : Scope} {dV kV doc pm cdv ct oc : Value} {an od : Option Addr}
    {osl : Array (Option Value)} {N ps : List Str} {sp : Sp} (lk : K.lookup f = some ⟨oc, od, .func (PySem.W.fnOf name qual params body scope dV kV doc pm an cdv ct), osl⟩) (hcd : PySem.W.codeIn K cdv qual = true) (S : FnScope N ps scope)
    (len : ∀ vs H Q E, sp vs H Q E → vs.length = ps.length)
    (hbody : ∀ (A : Around) (outer : List Env) (s : Shared) (H : Hp) (vs : List V) (Q : VK) (E : XK), Room k (A.deeper (PyProof.Rows.envOfC qual scope s.heap.objs.size f cdv)) → A.guards = some [] → sp vs H Q E →
      ∃ t, PSs (cxOf CX P w K mg base N qual scope f cdv A outer s H E) body t ∧ t { nx := fun _ H' => Q .non H', rt := Q } (L2.start N vs) H) :
    FnG P w K mg base CX (k + 1) f (PySem.W.fnOf name qual params body scope dV kV doc pm an cdv ct) ps sp := by
  refine ⟨len, fun A outer s H args us vs Q E hr hg e0 hb r hsp => ?_⟩
  have kp : ∀ b o, base.get? b = some o → s.heap.get? b = some o := fun b o e => (e0.bs b o e).1
  have KX : K.In s.heap := e0.mod.kin.keeps kp
  refine codeAny_call_function hr.depth (KX _ _ lk) rfl S.co S.gen rfl (PySem.W.codeRec_of KX hcd) (hb _ _ _ _ ?_)
  refine wpAny_newFunctionEnv_cells S.kind (fun ⟨n, v⟩ hy => ?_) fun env he s1 x => ?_
  · rcases S.par n (List.of_mem_zip hy).1 with q | q
    · exact .inl q
    · exact .inr ⟨q, PySem.W.cellsFrom_some _ _ _ (.inl q)⟩
  subst he
  refine ⟨(e0.mod.nolimit.keeps kp).keeps x.toInCall.keep, codeAny_func ?_⟩
  obtain ⟨t, ht, hq⟩ := hbody A outer s H vs Q E (hr.deeper _) hg hsp
  refine wpAny_mono (ht.run [] s1 (L2.start N vs) H _ (inv_start S hr.hd e0 (len _ _ _ _ hsp) r x) hq) (fun fl s' hs => ?_) fun e s' hs => hs
  cases fl with
  | ret u =>
    obtain ⟨v, σ', H', J, rv, q⟩ := hs
    exact ⟨v, H', J.os, J.bare, J.base, J.hok, rv, q⟩
  | next =>
    obtain ⟨σ', H', J, q⟩ := hs
    exact ⟨V.non, H', J.os, J.bare, J.base, J.hok, rfl, q⟩
  | brk =>
    obtain ⟨_, _, _, q⟩ := hs
    exact q.elim
  | cont =>
    obtain ⟨_, _, _, q⟩ := hs
    exact q.elim
section
variable {P : Program} {w : World} {K : PySem.W.Frag} {mg : Str → Option Value} {base : Heap}
theorem okG {x qual : Str} {st : Stmt} {f : Addr} {fd : FuncData} {N ps : List Str} {k : Nat} {sp : Sp} (F : Fun K x qual st f fd) (S : FnScope N ps (defScope st)) (len : ∀ vs H Q E, sp vs H Q E → vs.length = ps.length)
    (hbody : ∀ (cdv : Value) (A : Around) (outer : List Env) (s : Shared) (H : Hp) (vs : List V) (Q : VK) (E : XK), Room k (A.deeper (PyProof.Rows.envOfC qual (defScope st) s.heap.objs.size f cdv)) → (cxOf CX0 P w K mg base N qual (defScope st) f cdv A outer s H E).nox.A.guards = some [] → sp vs H Q E →
      ∃ t, PSs (cxOf CX0 P w K mg base N qual (defScope st) f cdv A outer s H E).nox (defBody st) t ∧ t { nx := fun _ H' => Q .non H', rt := Q } (L2.start N vs) H) : FnG P w K mg base CX0 (k + 1) f fd ps sp := by
  obtain ⟨oc, od, kV, doc, pm, an, cdv, ct, osl, rfl, lk, hcd⟩ := F.ex
  refine fnG_of lk hcd S len fun A outer s H vs Q E hr hg hsp => ?_
  obtain ⟨t, h, q⟩ := hbody cdv A outer s H vs Q E hr hg hsp
  exact ⟨t, h.nox, q⟩
end
section
variable {X : Cx} {CX : CXT} {k : Nat} {f C : Addr} {fd : FuncData} {ps : List Str} {sp : Sp} {dvs : List V} {ds : List Value} {E : XK} {x m : Str} {p pos apos : Pos} {e o : Expr} {es : List Expr} {ta : TE} {t : TA}
theorem run_fnG {pins : List (Addr × Obj)} {σ : St} {H : Hp} {s : Shared} {Q : VK} {us : List Value} {vs : List V} (F : FnG X.prog X.w X.K X.mg X.base CX k f fd ps sp) (hr : Room k X.A) (hG : X.A.guards = some []) (hb : Binds X.K fd ps []) (hx : Passes CX X E)
    (I : Inv X pins σ H s) (r : Vals vs us) (h : sp vs H Q E) : wpAny (model X.prog X.w) X.A (call (.ref f) us) (EP X pins σ Q) X.xe s := by
  have hl : us.length = ps.length := by rw [← r.length]; exact F.len _ _ _ _ h
  have hb2 := hb s us I.kIn (by simpa using hl)
  rw [List.append_nil] at hb2
  refine wpAny_call (codeAny_mono (F.run X.A X.stack s H ⟨us, []⟩ us vs Q E hr hG I.env0 hb2 r h) fun r s' hq => ?_)
  cases r with
  | error e => exact hx pins σ H s e s' I hq
  | ok fl =>
    cases fl with
    | ret u => exact I.after hq
    | next => exact False.elim hq
    | brk => exact False.elim hq
    | cont => exact False.elim hq
theorem pe_callG (F : FnG X.prog X.w X.K X.mg X.base CX k f fd ps sp) (hr : Room k X.A) (hG : X.A.guards = some []) (hg : Gl X x) (hm : X.mg x = some (.ref f)) (hk : PySem.W.keepIn X.K (.ref f) = true) (hb : Binds X.K fd ps []) (hx : Passes CX X E)
    (ha : PA X (e :: es) t) (hdb : (x == ("__debug__" : Str)) = false := by decide) (he : starEach (e :: es) X.env = (false, eval e X.env) :: starEach es X.env := by rfl) (hpl : (backTo pos (starEach es X.env)).any (·.1) = false := by rfl) :
    PE X (.Call (.Name x p) (e :: es) [] pos) (tCall sp [] E t) := by
  refine ⟨fun pins s σ H Q I h => ?_⟩
  refine wpAny_Call_Name_kw (ld_glob I hg hm ?_ hdb)
  refine PySem.W.callWith_K (h₀ := X.base) I.ok.mod.kin hk (thn (ha.run pos pins s σ H _ I h) fun us s1 ⟨vs, H1, I1, r, q⟩ => ⟨I1.kIn, ?_⟩) he hpl
  exact run_fnG F hr hG hb hx I1 r (List.append_nil vs ▸ (show sp (vs ++ []) H1 Q E from q))
theorem pe_callG0 (F : FnG X.prog X.w X.K X.mg X.base CX k f fd ps sp) (hr : Room k X.A) (hG : X.A.guards = some []) (hg : Gl X x) (hm : X.mg x = some (.ref f)) (hk : PySem.W.keepIn X.K (.ref f) = true) (hb : Binds X.K fd ps []) (hx : Passes CX X E)
    (hdb : (x == ("__debug__" : Str)) = false := by decide) : PE X (.Call (.Name x p) [] [] pos) (fun _ H Q => sp [] H Q E) := by
  refine ⟨fun pins s σ H Q I h => ?_⟩
  refine wpAny_Call_Name_kw (ld_glob I hg hm ?_ hdb)
  exact PySem.W.callWith_K0 I.kIn hk (run_fnG (us := []) F hr hG hb hx I .nil h)
/-- repr of a list of bools -/
def btx (b : Bool) : Str := if b then "True" else "False"
def reprBs (bs : List Bool) : Str := listText (bs.map btx)
theorem reprs_b {P : Program} {w : World} : ∀ {bs : List Bool} {its : List Value}, Vals (bs.map V.bl) its → ∀ (i : Nat) (y : Value), its[i]? = some y → ∃ t, (bs.map btx)[i]? = some t ∧ ReprIs P w y t
  | [], _, h, i, y, e => by
    cases h
    simp at e
  | b :: bs, _, h, 0, y, e => by
    cases h with
    | cons h1 h2 =>
      cases h1
      have e2 : Value.bool b = y := Option.some.inj e
      subst e2
      exact ⟨btx b, rfl, ReprIs.bool b⟩
  | b :: bs, _, h, i + 1, y, e => by
    cases h with
    | cons h1 h2 => exact reprs_b h2 i y e
def rReprB : List V → Hp → VK → Prop := fun xs H Q => ∃ a b bs, xs = [.ref a] ∧ H a = some (.lst ((b :: bs).map V.bl)) ∧ (reprBs (b :: bs)).length ≤ sizeLine ∧ Q (.str (reprBs (b :: bs))) H
theorem call_reprB (hr : Room k X.A) (hG : X.A.guards = some []) : CallR X (.builtin "repr") rReprB := fun pins s σ H xs us Q I r h => by
  obtain ⟨a, b, bs, rfl, ha, hz, q⟩ := h
  obtain ⟨u, rfl, ru⟩ := vals1 r
  cases ru
  obtain ⟨its, rv, ⟨o, n, ho, hc, hdn, hd⟩, hlen⟩ := I.list (SqL.of ha)
  cases rv with
  | cons r1 r2 =>
    rename_i i1 i2
    have hT : s.TypeIs (.ref a) "list" := ⟨o, ho, hc⟩
    refine call_repr_slot (by have := hr.units; omega) hT PySem.F.slot_list_repr.toG ?_
    refine call_list_repr (g := []) (ts := (b :: bs).map btx) hT hG (fun _ _ _ h => (nomatch h)) ho hd ?_ ?_ (fun h' u tk kp => ?_) hz
    · have e := r2.length
      rw [List.size_toArray, List.length_cons, ← e, List.length_map, List.length_map]
      rfl
    · intro i y e
      exact reprs_b (bs := b :: bs) (.cons r1 r2) i y (by simpa using e)
    · exact ⟨_, u, rfl, V.str (reprBs (b :: bs)), H, I.kept (t' := tk) kp, ⟨u, rfl⟩, q⟩
end
/-! ### the end: the law is called where no repr is under way -/
section
open PySem.Spec PyProof.Rows
theorem law_callG {P : Program} {w : World} {K : PySem.W.Frag} {mg mb : Str → Option Value} {k : Nat} {fa a : Addr} {fd : FuncData} {x : Str} {sp : Sp} {s₁ : Shared} {vs : List Value} {ns : List Int}
    (KX : K.In s₁.heap) (hns : s₁.heap.Ns mainGlobals mg) (hb : s₁.heap.Ns builtinsNs mb) (hbb : ∀ x : Str, x ≠ "__name__" → mb x = bootBuiltins x) (hlim : s₁.heap.NoLimit) (hg : s₁.gens = #[])
    (ha : s₁.heap.get? a = some { cls := .type "list", data := .seq vs.toArray }) (hi : IntsAre vs ns) (hl : ns.length ≤ sizeLine) (hr : Room k callerA)
    (F : ∀ base : Heap, K.In base → base.Ns mainGlobals mg → FnG P w K mg base CX0 k fa fd [x] sp) (hbind : ∀ (s : Shared) (u : Value), BindsTo s fd ⟨[u], []⟩ [(x, u)])
    (hsp : ∀ H : Hp, SqL K H a (ns.map V.int) → sp [.ref a] H (fun v _ => v = .bl true) fun _ _ _ => False) :
    codeAny (model P w) callerA (.call (.ref fa) ⟨[.ref a], []⟩) (fun r s' => r = .ok (.ret (.bool true)) ∧ OldK s₁.heap s'.heap ∧ s'.os = s₁.os ∧ AllBare s'.gens) s₁ := by
  have rv := vals_ints hi
  have core : ∀ H : Hp, SqL K H a (ns.map V.int) → HOk P w H s₁.heap → (∀ b u, H b = some u → b = a ∧ K.lookup a = none ∧ ∃ o ys, u = .frz o ys) →
      codeAny (model P w) callerA (.call (.ref fa) ⟨[.ref a], []⟩) (fun r s' => r = .ok (.ret (.bool true)) ∧ OldK s₁.heap s'.heap ∧ s'.os = s₁.os ∧ AllBare s'.gens) s₁ := by
    intro H hS hok hA
    have at_ : ∀ {b : Addr} {o : Obj}, s₁.heap.get? b = some o → (∀ u, H b ≠ some u) → (hidT s₁.heap H).get? b = some o := fun {b o} e n => hidT_get e (by
      cases q : H b with
      | none => rfl
      | some u => exact absurd q (n u))
    have ns_ : ∀ {b : Addr} {m : Str → Option Value}, s₁.heap.Ns b m → (hidT s₁.heap H).Ns b m := fun {b m} ⟨o, es, ep, e, d, r⟩ => ⟨o, es, ep, at_ e (fun u q => by
      obtain ⟨rfl, _⟩ := hA b u q
      rw [ha] at e
      cases e
      have z : Data.seq vs.toArray _ = Data.dict es ep := d
      cases z), d, r⟩
    have hK : K.In (hidT s₁.heap H) := fun b o e => at_ (KX b o e) (fun u q => by
      obtain ⟨rfl, n, _⟩ := hA b u q
      rw [n] at e
      cases e)
    have hM : Mod K mg (hidT s₁.heap H) := ⟨hK, ns_ hns, ⟨mb, ns_ hb, hbb⟩, let ⟨mc, h1, h2⟩ := hlim; ⟨mc, ns_ h1, h2⟩⟩
    have e0 : Env0 P w K mg (hidT s₁.heap H) callerA [] s₁ H := ⟨rfl, hM, fun b o e => of_hidT e, Nat.le_of_eq (hidT_size _ _), trivial, fun b hb => absurd (show b ∈ ([] : List Addr) from hb) (by simp), hok, .of_eq hg⟩
    refine codeAny_mono ((F _ hK (ns_ hns)).run callerA [] s₁ H ⟨[.ref a], []⟩ [.ref a] [.ref a] _ _ hr rfl e0 (hbind s₁ (.ref a)) (.cons rfl .nil) (hsp H hS)) fun r s' h => ?_
    match r, h with
    | .error e, h => exact False.elim h
    | .ok .next, h => exact False.elim h
    | .ok .brk, h => exact False.elim h
    | .ok .cont, h => exact False.elim h
    | .ok (.ret u), h =>
      obtain ⟨v, H', os, bare, un, hok', r', q⟩ := h
      obtain rfl : v = .bl true := q
      obtain rfl : u = Value.bool true := r'
      refine ⟨rfl, OldK.of_keep fun b o e => ?_, os, bare⟩
      cases q : H b with
      | none => exact un.keep b o e q (by intro z; exact absurd (show b ∈ ([] : List Addr) from z) (by simp)) (by simp)
      | some u =>
        obtain ⟨_, _, o', ys, rfl⟩ := hA b u q
        have q2 := un.frzs b o' _ q
        obtain ⟨e1, _⟩ := hok b _ q
        obtain ⟨e2, _⟩ := hok' b _ q2
        rw [e] at e1
        cases e1
        exact e2
  cases hk : K.lookup a with
  | some o =>
    have e := KX a o hk
    rw [ha] at e
    cases e
    exact core (fun _ => none) (.inr ⟨_, vs.toArray, _, hk, rfl, rfl, rfl, by rw [List.size_toArray, hi.length]; exact hl, by simpa using rv⟩) (fun b u z => nomatch z) (fun b u z => nomatch z)
  | none =>
    refine core (fun b => if b = a then some (.frz { cls := .type "list", data := .seq vs.toArray } (.lst (ns.map V.int))) else none) (.inl (.inr ⟨{ cls := .type "list", data := .seq vs.toArray }, if_pos rfl⟩)) (fun b u z => ?_) (fun b u z => ?_)
    · by_cases hb : b = a
      · have z' := (if_pos hb).symm.trans z
        cases z'
        subst hb
        exact ⟨ha, by rw [List.length_map]; exact hl, vs, _, rv, ha⟩
      · exact nomatch (if_neg hb).symm.trans z
    · by_cases hb : b = a
      · exact ⟨hb, hk, _, _, (Option.some.inj ((if_pos hb).symm.trans z)).symm⟩
      · exact nomatch (if_neg hb).symm.trans z
theorem walk_ofG {l : PySem.W.OpenLaw} {n k : Nat} {q : Program} {loose : List Str} {XP : (Str → Option Value) → Heap → Prop} {YP : World → Heap → Prop} {d : DefRec} {K : Params → PySem.W.Frag} {sp : PySem.W.Frag → Sp} {x : Str}
    (hn : l.most = some n) (hn2 : n ≤ sizeLine) (hdf : d.params.defaults = []) (hr : Room k callerA)
    (hY : ∀ (w : World) (h : Heap), YP w h → (K w.params).In h)
    (F : ∀ (w : World) (mg : Str → Option Value) (fa : Addr) (h : Heap), (K w.params).In h → h.Ns mainGlobals mg → mg d.name = some (.ref fa) →
      ∃ fd : FuncData, (∀ (s : Shared) (u : Value), BindsTo s fd ⟨[u], []⟩ [(x, u)]) ∧
        ∀ base : Heap, (K w.params).In base → base.Ns mainGlobals mg → FnG l.prog w (K w.params) mg base CX0 k fa fd [x] (sp (K w.params)))
    (hsp : ∀ (K : PySem.W.Frag) (H : Hp) (a : Addr) (ns : List Int), ns.length ≤ n → SqL K H a (ns.map V.int) → sp K [.ref a] H (fun v _ => v = .bl true) fun _ _ _ => False) :
    PySem.W.WalkO q loose XP YP l.row.toRowW d [] (fun f vs => PySem.call f vs) := by
  refine Att.attach_call hn hdf fun w s₀ s₁ mg mb fa o pm cd doc a vs ns G Y ho hd hcd hmg hobj hints hlen hg => ?_
  have KX := hY w _ Y
  obtain ⟨fd, hb, hF⟩ := F w mg fa _ KX G.T.g hmg
  exact law_callG KX G.T.g G.T.b G.T.builtins G.T.nolimit hg hobj hints (Nat.le_trans hlen hn2) hr hF hb (fun H hS => hsp _ H a ns hlen hS)
end

/-! ### isinstance(e, C), e.value of a kept exception; repr of data; lists of texts compared -/
structure XIs (K : PySem.W.Frag) (D : Addr) : Prop where
  cl : (PySem.W.clsIn K D).isSome = true
  ga : PySem.W.findIn K (.ref D) "__getattribute__" = some (some (.builtin "BaseException.__getattribute__"))
  gg : PySem.W.findIn K (.ref D) "__getattr__" = some none
  ex : PySem.W.subIn K (.ref D) (.type "BaseException") = some true
  ha : PySem.W.findIn K (.ref D) "__class__" = some (some (.builtin "object.__class__"))
  hn : PySem.W.specialIn K (.builtin "object.__class__") "__get__" = some (some (.builtin "getset_descriptor.__get__"))
  tk : PySem.W.takesIn K (.builtin "object.__class__") = some true
  hm : PySem.W.mroIn K D (.type "object") = some true
  hd : PySem.W.hasDictIn K D = true
  no : PySem.W.findIn K (.ref D) "value" = some none
section
variable {X : Cx}
theorem xo_inst {pins : List (Addr × Obj)} {σ : St} {H : Hp} {s : Shared} {D a dd : Addr} {fs : List (Str × V)} (I : Inv X pins σ H s) (ha : H a = some (XO (.ref D) (some dd) a)) (hd : H dd = some (.xd fs)) :
    ∃ oe od, PySem.W.InstAt s.heap a oe D (some od) ∧ ∃ mA, s.heap.Ns1 dd mA ∧ s.heap.get? dd = some od ∧ ∀ f, RelO (fs.lookup f) (mA f) := by
  obtain ⟨oe, vs, e1, z, e2⟩ := xo_at I.hok ha
  obtain ⟨mA, hns, hr⟩ := (show ObjOk X.prog X.w H s.heap dd (.xd fs) from I.hok dd _ hd)
  obtain ⟨od, es, ep, ho, _⟩ := id hns
  exact ⟨oe, od, ⟨e1, z.1, by unfold PySem.W.notCls; rw [e2] <;> rfl, by rw [z.2]; exact ho⟩, mA, hns, ho, hr⟩
def rIsX (K : PySem.W.Frag) : List V → Hp → VK → Prop := fun xs H Q => ∃ (a D dd : Addr) (fs : List (Str × V)) (c : V) (u : Value) (b : Bool), xs = [.ref a, c] ∧ H a = some (XO (.ref D) (some dd) a) ∧ H dd = some (.xd fs) ∧ XIs K D ∧ clsV c = some u ∧ PySem.W.kitOne K (.ref D) u = some b ∧ Q (.bl b) H
theorem call_isX : CallR X (.builtin "isinstance") (rIsX X.K) := fun pins s σ H xs us Q I r h => by
  obtain ⟨a, D, dd, fs, c, u, b, rfl, ha, hd, C, hc, e, q⟩ := h
  cases r with
  | cons rx rr =>
    cases rr with
    | cons rt rr =>
      cases rr
      cases rx
      have ec := (clsV_ok hc).eq rt
      subst ec
      obtain ⟨oe, od, J, _⟩ := xo_inst I ha hd
      exact PySem.W.kia_one (PySem.W.kitx_exc C.cl C.ga C.gg C.ex C.ha C.hn C.tk C.hm) I.kIn J e (fun z => nomatch z) fun tk => ⟨.bl b, H, I.kept (t' := tk) fun _ _ z => z, rfl, q⟩
def tXV (K : PySem.W.Frag) (te : TE) : TE := fun σ H Q => te σ H fun x H1 => ∃ (a D dd : Addr) (v : V), x = .ref a ∧ H1 a = some (XO (.ref D) (some dd) a) ∧ H1 dd = some (.xd [("value", v)]) ∧ XIs K D ∧ Q v H1
theorem pe_xv {e : Expr} {te : TE} {pos : Pos} (he : PE X e te) (hb : attributeBase e "value" X.env (eval e X.env) = eval e X.env := by rfl) : PE X (.Attribute e "value" pos) (tXV X.K te) := by
  refine ⟨fun pins s σ H Q I h => ?_⟩
  refine attr_of hb (thn (he.run pins s σ H _ I h) fun u s1 ⟨x, H1, I1, rx, a, D, dd, v, ex, ha, hd, C, q⟩ => ?_)
  subst ex
  obtain rfl : u = Value.ref a := rx
  obtain ⟨oe, od, J, mA, hns, ho, hr⟩ := xo_inst I1 ha hd
  obtain ⟨od', ho', hl⟩ := lookIn_ns hns
  rw [ho] at ho'
  cases ho'
  have l : List.lookup ("value" : Str) [(("value" : Str), v)] = some v := List.lookup_cons_self
  obtain ⟨u, hu, ru⟩ := RelO.some_of (v := v) (o := mA "value") (by rw [← l]; exact hr "value")
  exact HandSPX.exc_get I1.kIn J C.ga C.gg C.ex (PySem.W.findObj_own C.hd C.no rfl (by rw [hl, hu])) (handed_of ru) ⟨v, H1, I1.tok _, ru, q⟩
/-- repr of data (lists, tuples, scalars; {}) -/
def Dx (K : PySem.W.Frag) (H : Hp) (v : V) (d : PyData) : Prop := (Dp K H v d ∧ d.hasDict = false) ∨ ∃ a, v = .ref a ∧ H a = some (.dK []) ∧ d = .dict []
def rReprD (K : PySem.W.Frag) : List V → Hp → VK → Prop := fun xs H Q => ∃ v d, xs = [v] ∧ Dx K H v d ∧ d.showable = true ∧ d.shown.length ≤ sizeLine ∧ d.depth ≤ 20 ∧ Q (.str d.shown) H
theorem call_reprD {k : Nat} (hr : Room k X.A) (hG : X.A.guards = some []) : CallR X (.builtin "repr") (rReprD X.K) := fun pins s σ H xs us Q I r h => by
  obtain ⟨v, d, rfl, hd, hs, hz, hdep, q⟩ := h
  obtain ⟨u, rfl, ru⟩ := vals1 r
  have hu := hr.units
  have fin : ∀ (a : Addr) (as : List Addr), u = .ref a → Reads s.heap u d as → (d.hasDict = true → sysModules ∉ as) → wpAny (model X.prog X.w) X.A (call (.builtin "repr") [u]) (EP X pins σ Q) X.xe s := fun a as e rd hsm => by
    subst e
    exact repr_of_reads' rd hs hsm hG (by omega) (fun _ _ e => e) (fun h' u tk k => ⟨.str d.shown, H, I.kept (t' := tk) k, ⟨u, rfl⟩, q⟩) hz
  rcases hd with ⟨hd, hn⟩ | ⟨a, rfl, ha, rfl⟩
  · obtain ⟨as, rd⟩ := Dp.reads I d v u hd ru
    have hsm : d.hasDict = true → sysModules ∉ as := PyData.noDict_hsm hn
    cases hd with
    | non =>
      cases ru
      exact PySem.P.repr_of_none ⟨.str "None", H, I.tok _, ⟨_, rfl⟩, by simpa [PyData.shown] using q⟩
    | bl b =>
      cases ru
      exact PySem.P.repr_of_bool ⟨.str _, H, I.tok _, ⟨_, rfl⟩, by simpa [PyData.shown] using q⟩
    | int i =>
      obtain ⟨t, rfl⟩ := ru
      exact PySem.P.repr_of_int (by simpa [PyData.showable] using hs) ⟨.str _, H, I.tok _, ⟨_, rfl⟩, by simpa [PyData.shown] using q⟩
    | str x =>
      obtain ⟨t, rfl⟩ := ru
      exact PySem.P.repr_of_str ⟨.str _, H, I.tok _, ⟨_, rfl⟩, by simpa [PyData.shown] using q⟩ (by simpa [PyData.shown] using hz)
    | lst h1 h2 => exact fin _ as ru rd hsm
    | tup h1 h2 => exact fin _ as ru rd hsm
  · cases ru
    obtain ⟨_, hsys, vs, kv, o, es, ep, h1, h2, h3, h4, h5, h6⟩ := (show ObjOk X.prog X.w H s.heap a (.dK []) from I.hok a _ ha)
    cases kv
    have e0 : es.toList = [] := by
      generalize es.toList = l at h5
      cases h5
      rfl
    refine fin a [a] rfl (.dict (as := []) (bs := []) h1 h2.1 h3 (by rw [e0]; exact .nil) (by rw [e0]; exact .nil)) fun _ hm => ?_
    rw [List.mem_singleton] at hm
    rw [← hm] at hsys
    simp at hsys
/-- lists of texts, == and != -/
theorem strs_item : ∀ {zs : List Str} {its : List Value}, Vals (zs.map V.str) its → ∀ (j : Nat) (h : j < its.toArray.size), ∃ z t, zs[j]? = some z ∧ its.toArray[j] = .str z t
  | [], _, h, j, hj => by cases h; simp at hj
  | z :: zs, _, h, 0, hj => by
    cases h with
    | cons h1 h2 =>
      obtain ⟨t, rfl⟩ := h1
      exact ⟨z, t, rfl, rfl⟩
  | z :: zs, _, h, j + 1, hj => by
    cases h with
    | cons h1 h2 =>
      obtain ⟨z', t, e1, e2⟩ := strs_item h2 j (by simpa using hj)
      exact ⟨z', t, e1, by simpa using e2⟩
def eqJ (zs ws : List Str) (j : Nat) : Bool := match zs[j]?, ws[j]? with
  | some z, some w => z == w
  | _, _ => false
theorem eqJ_all : ∀ {zs ws : List Str}, zs.length = ws.length → (List.range zs.length).all (eqJ zs ws) = decide (zs = ws)
  | [], [], _ => rfl
  | z :: zs, w :: ws, h => by
    have ih := eqJ_all (zs := zs) (ws := ws) (by simpa using h)
    rw [List.length_cons, List.range_succ_eq_map, List.all_cons, List.all_map]
    have e : (List.range zs.length).all (eqJ (z :: zs) (w :: ws) ∘ Nat.succ) = (List.range zs.length).all (eqJ zs ws) := rfl
    rw [e, ih]
    show ((z == w) && decide (zs = ws)) = decide (z :: zs = w :: ws)
    rw [Bool.eq_iff_iff]
    simp
def rEqSs : R2 := fun x y H Q => ∃ (a b : Addr) (zs ws : List Str), x = .ref a ∧ y = .ref b ∧ H a = some (.lst (zs.map V.str)) ∧ H b = some (.lst (ws.map V.str)) ∧ Q (.bl (decide (zs = ws))) H
def rNeSs : R2 := fun x y H Q => ∃ (a b : Addr) (zs ws : List Str), x = .ref a ∧ y = .ref b ∧ H a = some (.lst (zs.map V.str)) ∧ H b = some (.lst (ws.map V.str)) ∧ Q (.bl (!decide (zs = ws))) H
theorem ss_core {pins : List (Addr × Obj)} {σ : St} {H : Hp} {s : Shared} {a b : Addr} {zs ws : List Str} (hu : X.A.units < cLine) (I : Inv X pins σ H s) (ha : H a = some (.lst (zs.map V.str))) (hb : H b = some (.lst (ws.map V.str))) :
    ∃ its its2 : List Value, s.heap.IsList a its.toArray ∧ s.heap.IsList b its2.toArray ∧ its.toArray.size = zs.length ∧ its2.toArray.size = ws.length ∧ ∀ j (h1 : j < its.toArray.size) (h2 : j < its2.toArray.size), SeqAt.EqAt X.A.in1 s its.toArray[j] its2.toArray[j] (eqJ zs ws j) := by
  obtain ⟨its, r, pl, hz⟩ := I.list (SqL.of ha)
  obtain ⟨its2, r2, pl2, hz2⟩ := I.list (SqL.of hb)
  refine ⟨its, its2, pl.isList, pl2.isList, ?_, ?_, fun j h1 h2 => ?_⟩
  · rw [List.size_toArray, ← r.length, List.length_map]
  · rw [List.size_toArray, ← r2.length, List.length_map]
  · obtain ⟨z, t, e1, e2⟩ := strs_item r j h1
    obtain ⟨w', t', e3, e4⟩ := strs_item r2 j h2
    rw [e2, e4]
    unfold eqJ
    rw [e1, e3]
    exact SeqAt.EqAt.str_str _ _ _ _
theorem op_eqSs (hu : X.A.units + 64 < cLine) : OpR X (compareOp .Eq) rEqSs := fun pins s σ H x y v u Q I rx ry h => by
  obtain ⟨a, b, zs, ws, rfl, rfl, ha, hb, q⟩ := h
  cases rx
  cases ry
  obtain ⟨its, its2, l1, l2, n1, n2, he⟩ := ss_core (by omega) I ha hb
  by_cases hl : zs.length = ws.length
  · refine SeqAt.eq_listAt l1 l2 (by omega) (by omega) he ⟨.bl _, H, I, rfl, ?_⟩
    rw [n1, eqJ_all hl]
    exact q
  · refine SeqAt.eq_list_lengthsAt l1 l2 (by rw [n1, n2]; simpa using hl) (by omega) ⟨.bl false, H, I, rfl, ?_⟩
    rw [decide_eq_false (fun z => hl (by rw [z]))] at q
    exact q
theorem op_neSs (hu : X.A.units + 64 < cLine) : OpR X (compareOp .NotEq) rNeSs := fun pins s σ H x y v u Q I rx ry h => by
  obtain ⟨a, b, zs, ws, rfl, rfl, ha, hb, q⟩ := h
  cases rx
  cases ry
  obtain ⟨its, its2, l1, l2, n1, n2, he⟩ := ss_core (by omega) I ha hb
  by_cases hl : zs.length = ws.length
  · refine SeqAt.RcNeAt.lists l1 l2 (by omega) (by omega) he X.prog X.w X.xe _ ⟨.bl _, H, I, rfl, ?_⟩
    rw [n1, eqJ_all hl]
    exact q
  · refine SeqAt.RcNeAt.lists_lengths l1 l2 (by rw [n1, n2]; simpa using hl) (by omega) X.prog X.w X.xe _ ⟨.bl true, H, I, rfl, ?_⟩
    rw [decide_eq_false (fun z => hl (by rw [z]))] at q
    exact q
end



/-! ### the end with tables of code objects, where no repr is under way -/
section
open PySem.Spec PyProof.Rows LamX
theorem law_callGT {P : Program} {w : World} {K : PySem.W.Frag} {mg mb : Str → Option Value} {k : Nat} {fa a : Addr} {cs : List (Addr × Addr)} {fd : FuncData} {x : Str} {sp : Sp} {s₁ : Shared} {vs : List Value} {ns : List Int}
    (KX : K.In s₁.heap) (hns : s₁.heap.Ns mainGlobals mg) (hb : s₁.heap.Ns builtinsNs mb) (hbb : ∀ x : Str, x ≠ "__name__" → mb x = bootBuiltins x) (hlim : s₁.heap.NoLimit) (hg : s₁.gens = #[])
    (hT : ∀ p ∈ cs, s₁.heap.get? p.2 = some { cls := .none, data := .fields #[] }) (nT : ∀ p ∈ cs, K.lookup p.2 = none) (C : ∀ p ∈ cs, PySem.W.CodeHd s₁.heap p.1 p.2)
    (hbm : ∃ (bm : Addr) (ob : Obj), mg "__builtins__" = some (.ref bm) ∧ bm ≠ builtinsNs ∧ s₁.heap.get? bm = some ob ∧ ob.cls = .type "module" ∧ ob.dict = some builtinsNs ∧ ob.data = .plain)
    (ha : s₁.heap.get? a = some { cls := .type "list", data := .seq vs.toArray }) (hi : IntsAre vs ns) (hl : ns.length ≤ sizeLine) (hr : Room k callerA)
    (F : ∀ base : Heap, K.In base → base.Ns mainGlobals mg → (∀ p ∈ cs, TabB base mg p.1 p.2) → FnG P w K mg base CX0 k fa fd [x] sp) (hbind : ∀ (s : Shared) (u : Value), BindsTo s fd ⟨[u], []⟩ [(x, u)])
    (hsp : ∀ H : Hp, (∀ p ∈ cs, H p.2 = some (.tbl #[])) → SqL K H a (ns.map V.int) → sp [.ref a] H (fun v _ => v = .bl true) fun _ _ _ => False) :
    codeAny (model P w) callerA (.call (.ref fa) ⟨[.ref a], []⟩) (fun r s' => r = .ok (.ret (.bool true)) ∧ OldK s₁.heap s'.heap ∧ s'.os = s₁.os ∧ AllBare s'.gens) s₁ := by
  have rv := vals_ints hi
  let tb : List Addr := cs.map (·.2)
  have isT : ∀ b ∈ tb, s₁.heap.get? b = some { cls := .none, data := .fields #[] } := fun b hb => by
    obtain ⟨p, hp, rfl⟩ := List.mem_map.mp hb
    exact hT p hp
  have inT : ∀ p ∈ cs, p.2 ∈ tb := fun p hp => List.mem_map.mpr ⟨p, hp, rfl⟩
  have aT : a ∉ tb := fun z => by
    have q := isT a z
    rw [ha] at q
    exact nomatch (congrArg Obj.data (Option.some.inj q) : Data.seq vs.toArray _ = Data.fields #[])
  have core : ∀ H : Hp, (∀ b ∈ tb, H b = some (.tbl #[])) → SqL K H a (ns.map V.int) → HOk P w H s₁.heap →
      (∀ b u, H b = some u → b ∈ tb ∨ (b = a ∧ K.lookup a = none ∧ ∃ o ys, u = .frz o ys)) →
      codeAny (model P w) callerA (.call (.ref fa) ⟨[.ref a], []⟩) (fun r s' => r = .ok (.ret (.bool true)) ∧ OldK s₁.heap s'.heap ∧ s'.os = s₁.os ∧ AllBare s'.gens) s₁ := by
    intro H hH hS hok hA
    -- what is neither the script nor a table is not tracked
    have out : ∀ {b : Addr} {o : Obj}, s₁.heap.get? b = some o → o.data ≠ .fields #[] → (∀ xs n, o.data ≠ .seq xs n) → H b = none := fun {b o} e n1 n2 => by
      cases q : H b with
      | none => rfl
      | some u =>
        rcases hA b u q with h | ⟨h, _⟩
        · rw [isT b h] at e
          cases e
          exact absurd rfl n1
        · rw [h, ha] at e
          cases e
          exact absurd rfl (n2 _ _)
    have lay : ∀ {b : Addr} {o : Obj}, s₁.heap.get? b = some o → H b = none → (hidT s₁.heap H).get? b = some o := fun e n => hidT_get e n
    have ns_ : ∀ {b : Addr} {m : Str → Option Value}, s₁.heap.Ns b m → (hidT s₁.heap H).Ns b m := fun {b m} ⟨o, es, ep, e, d, r⟩ =>
      ⟨o, es, ep, lay e (out e (fun z => by rw [d] at z; cases z) (fun xs n z => by rw [d] at z; cases z)), d, r⟩
    have hK : K.In (hidT s₁.heap H) := fun b o e => lay (KX b o e) (by
      cases q : H b with
      | none => rfl
      | some u =>
        rcases hA b u q with h | ⟨h, n, _⟩
        · obtain ⟨p, hp, rfl⟩ := List.mem_map.mp h
          rw [nT p hp] at e
          cases e
        · rw [h, n] at e
          cases e)
    have hM : Mod K mg (hidT s₁.heap H) := ⟨hK, ns_ hns, ⟨mb, ns_ hb, hbb⟩, let ⟨mc, h1, h2⟩ := hlim; ⟨mc, ns_ h1, h2⟩⟩
    have TB : ∀ p ∈ cs, TabB (hidT s₁.heap H) mg p.1 p.2 := fun p hp => by
      refine ⟨?_, ?_, fun z => ?_⟩
      · obtain ⟨o, us, file, tf, flags, tg, inF, text, tt, e1, r1, r2, r3, rest⟩ := C p hp
        refine ⟨o, us, file, tf, flags, tg, inF, text, tt, lay e1 (out e1 (fun z => ?_) fun xs n z => ?_), r1, r2, r3, rest⟩
        · rw [r2] at z
          cases z
          simp at r3
        · rw [r2] at z
          cases z
      · obtain ⟨bm, ob, b1, b2, b3, b4, b5, b6⟩ := hbm
        refine ⟨bm, ob, b1, b2, fun q => ?_, fun q => ?_, lay b3 (out b3 (fun z => ?_) fun xs n z => ?_), b4, b5, b6⟩
        · obtain ⟨o, es, ep, e, hd, _⟩ := hns
          rw [q, e] at b3
          cases b3
          rw [hd] at b6
          cases b6
        · rw [q, hT p hp] at b3
          cases b3
          cases b6
        · rw [b6] at z
          cases z
        · rw [b6] at z
          cases z
      · obtain ⟨o, es, ep, e, hd, _⟩ := hns
        rw [z, hT p hp] at e
        cases e
        cases hd
    have e0 : Env0 P w K mg (hidT s₁.heap H) callerA [] s₁ H := ⟨rfl, hM, fun b o e => of_hidT e, Nat.le_of_eq (hidT_size _ _), trivial, fun b hb => absurd (show b ∈ ([] : List Addr) from hb) (by simp), hok, .of_eq hg⟩
    refine codeAny_mono ((F _ hK (ns_ hns) TB).run callerA [] s₁ H ⟨[.ref a], []⟩ [.ref a] [.ref a] _ _ hr rfl e0 (hbind s₁ (.ref a)) (.cons rfl .nil) (hsp H (fun p hp => hH _ (inT p hp)) hS)) fun r s' h => ?_
    match r, h with
    | .error e, h => exact False.elim h
    | .ok .next, h => exact False.elim h
    | .ok .brk, h => exact False.elim h
    | .ok .cont, h => exact False.elim h
    | .ok (.ret u), h =>
      obtain ⟨v, H', os, bare, un, hok', r', q⟩ := h
      obtain rfl : v = .bl true := q
      obtain rfl : u = Value.bool true := r'
      have old : ∀ b o, b ∉ tb → s₁.heap.get? b = some o → s'.heap.get? b = some o := fun b o nb e => by
        cases q : H b with
        | none => exact un.keep b o e q (by intro z; exact absurd (show b ∈ ([] : List Addr) from z) (by simp)) (by simp)
        | some u =>
          rcases hA b u q with h | ⟨_, _, o', ys, rfl⟩
          · exact absurd h nb
          · obtain ⟨e1, _⟩ := hok b _ q
            obtain ⟨e2, _⟩ := hok' b _ (un.frzs b o' _ q)
            rw [e] at e1
            cases e1
            exact e2
      have grown : ∀ b ∈ tb, ∃ more : Array Value, s'.heap.get? b = some { cls := .none, data := .fields more } := fun b hb => by
        obtain ⟨more, z⟩ := un.tbls b #[] (hH b hb)
        exact ⟨_, hok' b _ z⟩
      refine ⟨rfl, ⟨fun b o e => ?_, fun b o e => ?_⟩, os, bare⟩
      · by_cases hb : b ∈ tb
        · obtain ⟨more, hm⟩ := grown b hb
          obtain ⟨p, hp, rfl⟩ := List.mem_map.mp hb
          rw [hT p hp] at e
          cases e
          exact .inr (.inl ⟨((C p hp).tab (hT p hp)).isCodeTable, rfl, #[], more, rfl, by rw [Array.empty_append]; exact hm⟩)
        · exact .inl (old b o hb e)
      · by_cases hb : b ∈ tb
        · obtain ⟨more, hm⟩ := grown b hb
          exact ⟨_, hm⟩
        · exact ⟨o, old b o hb e⟩
  cases hk : K.lookup a with
  | some o =>
    have e := KX a o hk
    rw [ha] at e
    cases e
    refine core (fun b => if b ∈ tb then some (.tbl #[]) else none) (fun b h => if_pos h) (.inr ⟨_, vs.toArray, _, hk, rfl, rfl, rfl, by rw [List.size_toArray, hi.length]; exact hl, by simpa using rv⟩) (fun b u z => ?_) (fun b u z => ?_)
    · by_cases hb : b ∈ tb
      · have z' := (if_pos hb).symm.trans z
        cases z'
        exact isT b hb
      · exact nomatch (if_neg hb).symm.trans z
    · by_cases hb : b ∈ tb
      · exact .inl hb
      · exact nomatch (if_neg hb).symm.trans z
  | none =>
    refine core (fun b => if b ∈ tb then some (.tbl #[]) else if b = a then some (.frz { cls := .type "list", data := .seq vs.toArray } (.lst (ns.map V.int))) else none) (fun b h => if_pos h)
      (.inl (.inr ⟨{ cls := .type "list", data := .seq vs.toArray }, (if_neg aT).trans (if_pos rfl)⟩)) (fun b u z => ?_) (fun b u z => ?_)
    · by_cases hb : b ∈ tb
      · have z' := (if_pos hb).symm.trans z
        cases z'
        exact isT b hb
      · have z' := (if_neg hb).symm.trans z
        by_cases hba : b = a
        · have z'' := (if_pos hba).symm.trans z'
          cases z''
          rw [hba]
          exact ⟨ha, by rw [List.length_map]; exact hl, vs, _, rv, ha⟩
        · exact nomatch (if_neg hba).symm.trans z'
    · by_cases hb : b ∈ tb
      · exact .inl hb
      · have z' := (if_neg hb).symm.trans z
        by_cases hba : b = a
        · have z'' := (if_pos hba).symm.trans z'
          exact .inr ⟨hba, hk, _, _, (Option.some.inj z'').symm⟩
        · exact nomatch (if_neg hba).symm.trans z'
theorem walk_ofGT {l : PySem.W.OpenLaw} {n k : Nat} {q : Program} {loose : List Str} {XP : (Str → Option Value) → Heap → Prop} {YP : World → Heap → Prop} {d : DefRec} {K : Params → PySem.W.Frag} {sp : PySem.W.Frag → List (Addr × Addr) → Sp} {x : Str} (names : List Str)
    (hn : l.most = some n) (hn2 : n ≤ sizeLine) (hdf : d.params.defaults = []) (hr : Room k callerA)
    (hY : ∀ (w : World) (h : Heap), YP w h → (K w.params).In h) (hrec : ∀ y ∈ names, ((recsOf q).find? fun e => e.name == y).isSome = true)
    (F : ∀ (w : World) (mg : Str → Option Value) (fa : Addr) (h : Heap), (K w.params).In h → h.Ns mainGlobals mg → mg d.name = some (.ref fa) →
      ∃ (fd : FuncData) (cs : List (Addr × Addr)), (∀ p ∈ cs, ∃ y ∈ names, PySem.W.tabIn (K w.params) y = some p) ∧ (∀ p ∈ cs, (K w.params).lookup p.2 = none) ∧ (∀ (s : Shared) (u : Value), BindsTo s fd ⟨[u], []⟩ [(x, u)]) ∧
        ∀ base : Heap, (K w.params).In base → base.Ns mainGlobals mg → (∀ p ∈ cs, TabB base mg p.1 p.2) → FnG l.prog w (K w.params) mg base CX0 k fa fd [x] (sp (K w.params) cs))
    (hsp : ∀ (K : PySem.W.Frag) (cs : List (Addr × Addr)) (H : Hp) (a : Addr) (ns : List Int), ns.length ≤ n → (∀ p ∈ cs, H p.2 = some (.tbl #[])) → SqL K H a (ns.map V.int) → sp K cs [.ref a] H (fun v _ => v = .bl true) fun _ _ _ => False) :
    PySem.W.WalkO q loose XP YP l.row.toRowW d [] (fun f vs => PySem.call f vs) := by
  refine Att.attach_call hn hdf fun w s₀ s₁ mg mb fa o pm cd doc a vs ns G Y ho hd hcd hmg hobj hints hlen hg => ?_
  have KX := hY w _ Y
  obtain ⟨fd, cs, ht, nt, hb, hF⟩ := F w mg fa _ KX G.T.g hmg
  have tabs : ∀ p ∈ cs, PySem.W.CodeHd s₁.heap p.1 p.2 ∧ s₁.heap.get? p.2 = some { cls := .none, data := .fields #[] } := fun p hp => by
    obtain ⟨y, hy, e⟩ := ht p hp
    obtain ⟨dr, hdr⟩ := Option.isSome_iff_exists.mp (hrec y hy)
    exact PySem.W.tab_of G.T KX hdr e
  exact law_callGT KX G.T.g G.T.b G.T.builtins G.T.nolimit hg (fun p hp => (tabs p hp).2) nt (fun p hp => (tabs p hp).1) G.T.bmain hobj hints (Nat.le_trans hlen hn2) hr hF hb (fun H hH hS => hsp _ cs H a ns hlen hH hS)
end



/-! ### f(lambda: ..): the def that calls what it got, where what is raised is told at its own slots -/
section
open PySem.Spec PyProof.Rows LamX
variable {X : Cx} {pins : List (Addr × Obj)} {σ : L2.St} {H : Hp} {s : Shared}
/-- the def's context, entered at s from X -/
abbrev cxC (X : Cx) (Ng : List Str) (x : Str) (sg : Scope) (g : Addr) (cdg : Value) (s : Shared) (H : Hp) : Cx := cxOf CX0 X.prog X.w X.K X.mg X.base Ng x sg g cdg X.A X.stack s H E0
theorem pe_actS {Ng : List Str} {x : Str} {sg : Scope} {g f c' : Addr} {cdg pm ctv : Value} {params : Arguments} {body : Expr} {scope : Scope} {k i : Nat} {a : Str} {pn : List (Addr × Obj)} {xe : Value → Shared → Prop} {W : WX} {tb : XK → TE} {p1 p2 : Pos}
    (I : Inv X pins σ H s) (L : LamS X.env.scope scope) (hf : s.heap.get? f = some (PySem.W.kla_obj "<lambda>" (X.env.qual ++ "<lambda>") params body scope (cloFrom X.env.cells scope.names []) pm c' ctv)) (hfn : H f = none) (hfr : f ∉ frs X.stack)
    (hbind : bindArgs (PySem.W.kla_fn "<lambda>" (X.env.qual ++ "<lambda>") params body scope (cloFrom X.env.cells scope.names []) pm (.ref c') ctv) ⟨[], []⟩ = pure [])
    (tk : Takes ((cxC X Ng x sg g cdg s H).tr pn xe) W) (hr : Room (k + 1) (X.A.deeper (envOfC x sg s.heap.objs.size g cdg)))
    (hbody : ∀ (A : Around) (outer : List Env) (s : Shared) (H : Hp) (E : XK), Room k (A.deeper (lamEnv X scope s.heap.objs.size f c')) → A.guards = X.A.guards → PE (lamCx X A outer s H E scope f c') body (tb E))
    (hN : Ng[i]? = some a) (hv : Vis sg a) (hd : (a == ("__debug__" : Str)) = false := by decide) (hcd : (a == ("__classdict__" : Str)) = false := by decide) :
    PE ((cxC X Ng x sg g cdg s H).tr pn xe) (.Call (.Name a p1) [] [] p2) (fun σZ HZ Q => σZ[i]? = some (some (.ref f)) ∧ HZ c' = some (CodeO c' (X.env.qual ++ "<lambda>")) ∧ ∃ (E : XK) (Q' : VK), (∀ cls d H', E cls d H' → W cls d σZ H') ∧ (∀ v H', Q' v H' → Q v H') ∧ tb E σ HZ Q') := by
  refine ⟨fun pinsZ sZ σZ HZ Q IZ ⟨hs, hc, E, Q', hW, hQ, ht⟩ => ?_⟩
  refine wpAny_Call_Name_kw (thn ((pe_var (pos := p1) (i := i) hN hv hd hcd).run pinsZ sZ σZ HZ (fun v H1 => v = .ref f ∧ H1 = HZ) IZ ⟨.ref f, hs, rfl, rfl⟩) fun u s1 ⟨v, H1, I1, r1, ev, eH⟩ => ?_)
  subst ev eH
  obtain rfl : u = Value.ref f := r1
  have of1 := I1.base.keep f _ hf hfn hfr (fun z => nomatch (show f ∈ ([] : List Addr) from z))
  refine PySem.W.callWith_F0 ⟨_, _, _, _, of1⟩ ?_
  obtain ⟨⟨oc, vs, t, hoc, hdc, hvc⟩, _, _⟩ := I1.hok c' _ hc
  refine wpAny_call ?_
  refine codeAny_mono (R := CR (L2.CX X.prog X.w) (envOfC x sg s.heap.objs.size g cdg :: X.stack) X.prog X.w H1 s1 Q' E) ?_ fun r s' hq => ?_
  · refine PySem.W.kla_callFunE hr.depth of1 rfl L.co L.gen rfl ⟨c', oc, vs, t, rfl, hoc, hdc, hvc⟩ ?_
    show wpAny _ _ (bindArgs _ ⟨[], []⟩) _ _ _
    rw [hbind]
    refine wpAny_pure (wpAny_newFunctionEnv (fun y hy => (L.own y hy).2) (fun y hy => absurd hy (by simp)) (fun h₁ hns hsb => ⟨I1.nolimit.fresh _ hsb, ?_⟩) L.kind)
    have kp : ∀ b o, s1.heap.get? b = some o → h₁.get? b = some o := fun b o e => hsb.extBut b o (Nat.ne_of_lt (Heap.lt_size e)) (Heap.get?_push_of_some _ e)
    have J : Inv (lamCx X (X.A.deeper (envOfC x sg s.heap.objs.size g cdg)) (envOfC x sg s.heap.objs.size g cdg :: X.stack) s1 H1 E scope f c') [] σ H1 { s1 with heap := h₁, toks := s1.toks + ([] : List (Str × Value)).length } :=
      lam_start2 I L I1.env0 hr.hd I1.base hns kp
    refine PySem.W.kla_codeExpr (wpAny_mono ((hbody _ _ s1 H1 E (hr.deeper _) rfl).run [] _ _ H1 Q' J ht) (fun v s' ⟨w', H', J', rv, q⟩ => ?_) fun e s' hq => hq)
    exact ⟨w', H', J'.os, J'.bare, J'.base, J'.hok, rv, q⟩
  · cases r with
    | error e => exact tk e s' (XE.of_call I1 hW hq)
    | ok fl =>
      cases fl with
      | ret u =>
        obtain ⟨v, H', I', r, q⟩ := I1.after hq
        exact ⟨v, H', I', r, hQ _ _ q⟩
      | next => exact False.elim hq
      | brk => exact False.elim hq
      | cont => exact False.elim hq
/-- what the def (x at g) makes of what it got: TT of the lambda's reading -/
def GivesC (X : Cx) (Ng : List Str) (x : Str) (sg : Scope) (g : Addr) (cdg : Value) (bg : List Stmt) (a : Str) (q : Str) (TT : (XK → Hp → VK → Prop) → Hp → VK → Prop) : Prop :=
  ∀ (f c' : Addr) (s : Shared) (H : Hp) (Q : VK) (tl : XK → Hp → VK → Prop),
    (∀ (W : WX) (pn : List (Addr × Obj)) (xe : Value → Shared → Prop) (p1 p2 : Pos), Takes ((cxC X Ng x sg g cdg s H).tr pn xe) W →
      PE ((cxC X Ng x sg g cdg s H).tr pn xe) (.Call (.Name a p1) [] [] p2) (fun σZ HZ Q => σZ[0]? = some (some (.ref f)) ∧ HZ c' = some (CodeO c' q) ∧ ∃ (E : XK) (Q' : VK), (∀ cls d H', E cls d H' → W cls d σZ H') ∧ (∀ v H', Q' v H' → Q v H') ∧ tl E HZ Q')) →
    H c' = some (CodeO c' q) → TT tl H Q → ∃ t, PSs (cxC X Ng x sg g cdg s H).nox bg t ∧ t { nx := fun _ H' => Q .non H', rt := Q } (L2.start Ng [.ref f]) H
/-- x(lambda: body) -/
theorem pe_lamC {T : List (Addr × Str)} {TT : (XK → Hp → VK → Prop) → Hp → VK → Prop} {x a : Str} {g c P : Addr} {k : Nat} {pg : Arguments} {bg : List Stmt} {sg : Scope} {dV kV doc pm cdv ct oc : Value} {an od : Option Addr} {osl : Array (Option Value)} {Ng : List Str}
    {params : Arguments} {body : Expr} {scope : Scope} {t : XK → TE} {p lpos pos : Pos} (hg : Gl X x) (hm : X.mg x = some (.ref g)) (hk : PySem.W.keepIn X.K (.ref g) = true)
    (lk : X.K.lookup g = some ⟨oc, od, .func (PySem.W.fnOf x x pg bg sg dV kV doc pm an cdv ct), osl⟩) (hcg : PySem.W.codeIn X.K cdv x = true) (hb : L2.Binds X.K (PySem.W.fnOf x x pg bg sg dV kV doc pm an cdv ct) [a] []) (Sg : FnScope Ng [a] sg) (hNg : Ng[0]? = some a) (hva : Vis sg a)
    (hG : GivesC X Ng x sg g cdv bg a (X.env.qual ++ "<lambda>") TT)
    (TB : TabB X.base X.mg c P) (hcode : X.env.code = .ref c) (hmT : (P, X.env.qual ++ "<lambda>") ∈ T) (hu : ∀ p ∈ T, p.1 = P → p.2 = X.env.qual ++ "<lambda>") (hr : Room (k + 2) X.A) (L : LamS X.env.scope scope) (hdef : defaultsOf params X.env = ([], []))
    (hbind : ∀ (q : Str) (cl : List (Str × Addr)) (pm cv ctv : Value), bindArgs (PySem.W.kla_fn "<lambda>" q params body scope cl pm cv ctv) ⟨[], []⟩ = pure [])
    (hbody : ∀ (A : Around) (outer : List Env) (s : Shared) (H : Hp) (E : XK) (f c' : Addr), Room k (A.deeper (lamEnv X scope s.heap.objs.size f c')) → A.guards = X.A.guards → PE (lamCx X A outer s H E scope f c') body (t E))
    (hdb : (x == ("__debug__" : Str)) = false := by decide) (hd : (a == ("__debug__" : Str)) = false := by decide) (hcd : (a == ("__classdict__" : Str)) = false := by decide) :
    PE X (.Call (.Name x p) [.Lambda params body scope lpos] [] pos) (tLam T TT t) := by
  refine ⟨fun pins s σ H Q I ⟨hT, h⟩ => ?_⟩
  refine wpAny_Call_Name_kw (ld_glob I hg hm ?_ hdb)
  refine PySem.W.callWith_K (h₀ := X.base) I.ok.mod.kin hk ?_ (by rfl) (by rfl)
  show wpAny _ _ (spliced ((false, eval (.Lambda params body scope lpos) X.env) :: backTo pos (starEach [] X.env))) _ _ s
  refine Calls.spliced_cons (lam_make2 I TB hcode hmT hu hT hdef (L.has I.ok) fun f c' pm' ctv H1 s' I1 eN T1 hf hfn hfr hco => ?_)
  refine Calls.spliced_nil ⟨I1.kIn, ?_⟩
  refine wpAny_call (codeAny_mono (R := CR CX0 X.stack X.prog X.w H1 s' Q E0) ?_ fun r s2 hq => ?_)
  · refine run_ofS (N := Ng) (ps := [a]) (us := [.ref f]) (vs := [.ref f]) lk hcg Sg hr I1.env0 (hb s' [.ref f] I1.kIn rfl) (.cons rfl .nil) rfl fun hr' => ?_
    obtain ⟨t', ht', hq'⟩ := hG f c' s' H1 Q (fun E H' Q' => t E σ H' Q') (fun W pn xe p1 p2 tk => pe_actS (i := 0) I1 L hf hfn hfr (hbind _ _ _ _ _) tk hr' (fun A outer s H E hr2 hg2 => hbody A outer s H E f c' hr2 hg2) hNg hva hd hcd) hco (h H1 eN T1)
    exact ⟨t', ht'.nox, hq'⟩
  · cases r with
    | error e => exact (show False from hq).elim
    | ok fl =>
      cases fl with
      | ret u => exact I1.after hq
      | next => exact False.elim hq
      | brk => exact False.elim hq
      | cont => exact False.elim hq
end



/-! ### the kinds of errors that the laws tell -/
/-- D is the j-th of the classes es (all but the last two over LineError) -/
structure KindAt (K : PySem.W.Frag) (es : Nat → Addr) (l t n D : Addr) (j : Nat) : Prop where
  lt : j < 13
  kit : ∀ i, i < 16 → PySem.W.kitOne K (.ref D) (.ref (es i)) = some (decide (i = j))
  ve : PySem.W.kitOne K (.ref D) (.type "ValueError") = some true
  xi : XIs K D
  ex : PySem.W.exmAny K (.ref D) [.ref l, .ref t, .ref n] = some true
theorem isCls_some {K : PySem.W.Frag} {C : Addr} (h : PySem.W.isClsIn K C = true) : (PySem.W.clsIn K C).isSome = true := h
theorem kit_inR {K : PySem.W.Frag} {C D : Addr} (mc : PySem.W.mroIn K D (.ref D) = some true) (ic : PySem.W.isClsIn K C = true) (ty : PySem.W.typeIn K (.ref C) = some (.type "type")) (h : PySem.W.subIn K (.ref D) (.ref C) = some false) : PySem.W.kitOne K (.ref D) (.ref C) = some false := by
  refine kit_in ic ty h fun e => ?_
  rw [← e] at h
  have h' : PySem.W.mroIn K D (.ref D) = some false := h
  rw [mc] at h'
  cases h'
theorem exm3 {K : PySem.W.Frag} {D c1 c2 c3 : Value} (h1 : PySem.W.exmOne K D c1 = some true) (h2 : PySem.W.exmOne K D c2 = some false) (h3 : PySem.W.exmOne K D c3 = some false) : PySem.W.exmAny K D [c1, c2, c3] = some true := by
  simp [PySem.W.exmAny, h1, h2, h3]
/-- a def of the module, its code object told -/
structure FunC (K : PySem.W.Frag) (x : Str) (st : Stmt) (f : Addr) (fd : FuncData) (c : Addr) : Prop where
  ex : ∃ (oc : Value) (od : Option Addr) (kV doc pm : Value) (an : Option Addr) (ct : Value) (osl : Array (Option Value)),
    fd = PySem.W.fnOf x x (defArgs st) (defBody st) (defScope st) .none kV doc pm an (.ref c) ct ∧ K.lookup f = some ⟨oc, od, .func fd, osl⟩ ∧ PySem.W.codeIn K (.ref c) x = true
  kp : PySem.W.keepIn K (.ref f) = true
theorem tab_mk {K : PySem.W.Frag} {x : Str} {f c P : Addr} {oc cl : Value} {od cld : Option Addr} {fd : FuncData} {sl csl : Array (Option Value)} {vs : Array Value} (a : PySem.W.nsIn K mainGlobals x = some (some (.ref f))) (l : K.lookup f = some ⟨oc, od, .func fd, sl⟩) (e : fd.code = .ref c)
    (lk : K.lookup c = some ⟨cl, cld, .fields vs, csl⟩) (v : vs[11]? = some (.ref P)) : PySem.W.tabIn K x = some (c, P) := by
  unfold PySem.W.tabIn
  rw [a]
  dsimp only
  rw [l]
  dsimp only
  rw [e]
  dsimp only
  rw [lk]
  dsimp only
  rw [v]
section
variable {P : Program} {w : World} {K : PySem.W.Frag} {mg : Str → Option Value} {base : Heap}
theorem okGC {x : Str} {st : Stmt} {f c : Addr} {fd : FuncData} {N ps : List Str} {k : Nat} {sp : Sp} (F : FunC K x st f fd c) (S : FnScope N ps (defScope st)) (len : ∀ vs H Q E, sp vs H Q E → vs.length = ps.length)
    (hbody : ∀ (A : Around) (outer : List Env) (s : Shared) (H : Hp) (vs : List V) (Q : VK) (E : XK), Room k (A.deeper (PyProof.Rows.envOfC x (defScope st) s.heap.objs.size f (.ref c))) → (cxOf CX0 P w K mg base N x (defScope st) f (.ref c) A outer s H E).nox.A.guards = some [] → sp vs H Q E →
      ∃ t, PSs (cxOf CX0 P w K mg base N x (defScope st) f (.ref c) A outer s H E).nox (defBody st) t ∧ t { nx := fun _ H' => Q .non H', rt := Q } (L2.start N vs) H) : FnG P w K mg base CX0 (k + 1) f fd ps sp := by
  obtain ⟨oc, od, kV, doc, pm, an, ct, osl, rfl, lk, hcd⟩ := F.ex
  refine fnG_of lk hcd S len fun A outer s H vs Q E hr hg hsp => ?_
  obtain ⟨t, h, q⟩ := hbody A outer s H vs Q E hr hg hsp
  exact ⟨t, h.nox, q⟩
end

/-! ### calls with keywords -/
def pick {α : Type} (is : List Nat) (xs : List α) : List α := is.filterMap fun i => xs[i]?
theorem pick_rel (is : List Nat) {xs : List V} {ys : List Value} (h : Vals xs ys) : Vals (pick is xs) (pick is ys) := by
  have key : ∀ i : Nat, (xs[i]? = none ∧ ys[i]? = none) ∨ ∃ x y, xs[i]? = some x ∧ ys[i]? = some y ∧ RelV x y := by
    induction h with
    | nil => exact fun i => .inl ⟨rfl, rfl⟩
    | cons r t ih =>
      intro i
      cases i with
      | zero => exact .inr ⟨_, _, rfl, rfl, r⟩
      | succ i => exact ih i
  unfold pick
  induction is with
  | nil => exact .nil
  | cons i is ih =>
    rw [List.filterMap_cons, List.filterMap_cons]
    rcases key i with ⟨h1, h2⟩ | ⟨x, y, h1, h2, r⟩
    · rw [h1, h2]
      exact ih
    · rw [h1, h2]
      exact .cons r ih
def mkGoK (C : Addr) (sp : Sp) (gV : List V → List V → List V) (E : XK) (vs zs : List V) (H : Hp) (Q : VK) : Prop := ∀ x dx, H x = none → H dx = none → dx ≠ x → sp (gV (.ref x :: vs) zs) (upd (upd H dx (.own x)) x (.ins C dx [])) (fun v H3 => v = .non ∧ Q (.ref x) H3) E
theorem tMakeK_eq {C : Addr} {n m : Nat} {sp : Sp} {gV : List V → List V → List V} {E : XK} {t tk : TA} {σ : St} {H : Hp} {Q : VK} : tMakeK C n m sp gV E t tk σ H Q = t σ H fun vs H1 => tk σ H1 fun zs H2 => vs.length = n ∧ zs.length = m ∧ mkGoK C sp gV E vs zs H2 Q := rfl
theorem makeK_go {C : Addr} {sp : Sp} {gV : List V → List V → List V} {E : XK} {vs zs ws : List V} {H : Hp} {Q : VK} (h : ∀ x, gV (.ref x :: vs) zs = .ref x :: (ws ++ [])) (k : ∀ x dx, H x = none → H dx = none → dx ≠ x → sp (.ref x :: (ws ++ [])) (upd (upd H dx (.own x)) x (.ins C dx [])) (fun v H3 => v = .non ∧ Q (.ref x) H3) E) : mkGoK C sp gV E vs zs H Q := fun x dx h1 h2 h3 => by
  rw [h]
  exact k x dx h1 h2 h3


section
variable {X : Cx}
def rIntB : List V → Hp → VK → Prop := fun vs H Q => ∃ b, vs = [.bl b] ∧ Q (.int (if b then 1 else 0)) H
theorem call_intB : CallR X (.type "int") rIntB := fun pins s σ H xs us Q I r h => call_int1 pins s σ H xs us Q I r (Or.inr h)
end


/-! ### C.m(..) of a classmethod, cls(..) of a class kept in a name -/
theorem FnOk.rr {P : Program} {w : World} {K : PySem.W.Frag} {mg : Str → Option Value} {base : Heap} {CX : CXT} {k : Nat} {f : Addr} {fd : FuncData} {ps : List Str} {sp : Sp} (F : FnOk P w K mg base CX k f fd ps sp) (hb : Binds K fd ps []) : FnR P w K mg base CX k f sp := (F.raw hb .nil).imp fun vs H Q E h => by rw [List.append_nil]; exact h
section
open PySem.Spec PyProof.Rows
variable {X : Cx} {CX : CXT} {k : Nat} {C p g f : Addr} {fd : FuncData} {ps : List Str} {mc : Value} {sp : Sp} {E : XK} {o e fe : Expr} {es : List Expr} {m : Str} {pos apos : Pos} {ta tf : TE} {t : TA} {pl : Sem Bool} {ds : List Value} {dvs : List V}
theorem pe_cmeth0 (he : PE X o ta) (r : ClX.CRead X.K C mc) (c : ClX.CMet X.K C mc m p g) (F : FnR X.prog X.w X.K X.mg X.base CX k g sp) (hr : Room k X.A) (hx : Passes CX X E)
    (ht : eval (.Call (.Attribute o m apos) [] [] pos) X.env = (do
      let ov ← eval o X.env
      standAt apos.atName
      let (f, first) ← holding [ov] (getMethod ov m pl)
      callWith pos f first (backTo pos (starEach [] X.env)) (backToKw pos (keywordEach [] X.env))) := by rfl) :
    PE X (.Call (.Attribute o m apos) [] [] pos) (ClX.tCMeth C sp E ta tNil) := by
  refine ⟨fun pins s σ H Q I h => ?_⟩
  refine PySem.W.methodCall_KW (pl := pl) (thn (he.run pins s σ H _ I h) fun u s1 ⟨x, H1, I1, rx, ex, q⟩ => ?_) ht
  subst ex
  obtain rfl : u = Value.ref C := rx
  refine ClX.getmethcm_ok I1 r c fun s2 I2 => ?_
  refine PySem.W.callWith_M0 (first := []) ⟨ClX.pin_at I2, I2.kIn⟩ c.fi ?_
  exact ClX.run_cm F hr hx I2 .nil q
def tMakeV (C : Addr) (sp : Sp) (dvs : List V) (E : XK) (tf : TE) (t : TA) : TE := fun σ H Q => tf σ H fun y H1 => y = V.ref C ∧ tMake C sp dvs E t σ H1 Q
theorem pe_makeV (hf : PE X fe tf) (M : Mk X.K C f) (F : FnOk X.prog X.w X.K X.mg X.base CX k f fd ps sp) (hr : Room (k + 1) X.A) (hb : Binds X.K fd ps ds) (hd : Vals dvs ds) (hx : Passes CX X E) (ha : PA X (e :: es) t)
    (ht : eval (.Call fe (e :: es) [] pos) X.env = (do callWith pos (← eval fe X.env) [] (backTo pos (starEach (e :: es) X.env)) (backToKw pos (keywordEach [] X.env))) := by rfl)
    (he : starEach (e :: es) X.env = (false, eval e X.env) :: starEach es X.env := by rfl) (hpl : (backTo pos (starEach es X.env)).any (·.1) = false := by rfl) : PE X (.Call fe (e :: es) [] pos) (tMakeV C sp dvs E tf t) := by
  refine ⟨fun pins s σ H Q I h => ?_⟩
  refine Call_ (thn (hf.run pins s σ H _ I h) fun u s1 ⟨y, H1, I1, ry, ey, q⟩ => ?_) ht
  subst ey
  obtain rfl : u = Value.ref C := ry
  refine PySem.W.callWith_K (h₀ := X.base) (first := []) I1.ok.mod.kin M.kp (thn (ha.run pos pins s1 σ H1 _ I1 q) fun us s2 ⟨vs, H2, I2, r, q2⟩ => ⟨I2.kIn, ?_⟩) he hpl
  exact run_make M F hr hb hd hx I2 r q2
end



/-! ### plain: integers as texts -/
section
open PySem.NumText TL
def Dg (n : Nat) : List Nat := (Nat.toDigits 10 n).map Char.toNat
theorem tl_nat (n : Nat) : tl (Str.ofString (toString ((n : Nat) : Int))) = Dg n := PySem.W.KIN.signs_num n
theorem tl_neg {n : Nat} (h : 0 < n) : tl (Str.ofString (toString (-((n : Nat) : Int)))) = 45 :: Dg n := by
  obtain ⟨m, rfl⟩ : ∃ m, n = m + 1 := ⟨n - 1, by omega⟩
  show (Str.ofString (toString (Int.negSucc m))).cps.toList = _
  rw [PyProof.Rows.signs_ofString]
  have e : (toString (Int.negSucc m)).toList = '-' :: (Nat.repr (m + 1)).toList := by
    show ("-" ++ Nat.repr (m + 1)).toList = _
    rw [String.toList_append]
    rfl
  rw [e, List.map_cons]
  show 45 :: (Nat.repr (m + 1)).toList.map Char.toNat = _
  rw [Nat.toList_repr]
  rfl
theorem dg_val (n : Nat) : digitsVal (Dg n) = n := PySem.W.KIN.val_back n
theorem dg_digit : ∀ d : Nat, d < 10 → 48 ≤ (Nat.digitChar d).toNat ∧ (Nat.digitChar d).toNat ≤ 57 := by decide
theorem dg_all (n : Nat) : AllDigits (Dg n) := by
  induction n using Nat.strongRecOn with
  | _ m ih =>
    by_cases h : m < 10
    · unfold Dg
      rw [Nat.toDigits_of_lt_base h]
      intro c hc
      rw [List.map_cons, List.map_nil] at hc
      rw [List.mem_singleton.mp hc]
      exact dg_digit m h
    · have hm : m % 10 < 10 := Nat.mod_lt m (by decide)
      have t : Nat.toDigits 10 (m / 10) ++ Nat.toDigits 10 (m % 10) = Nat.toDigits 10 (10 * (m / 10) + m % 10) := Nat.toDigits_append_toDigits (by decide) (by omega) hm
      rw [Nat.div_add_mod] at t
      intro c hc
      unfold Dg at hc
      rw [← t, List.map_append] at hc
      rcases List.mem_append.mp hc with z | z
      · exact ih (m / 10) (by omega) c z
      · rw [Nat.toDigits_of_lt_base hm, List.map_cons, List.map_nil] at z
        rw [List.mem_singleton.mp z]
        exact dg_digit _ hm
theorem dg_ne (n : Nat) : Dg n ≠ [] := fun z => by
  have h := PyProof.Rows.tDigits_len_ge 10 n
  unfold Dg at z
  rw [List.map_eq_nil_iff] at z
  rw [z] at h
  simp at h
theorem ofNat_back : ∀ c : Nat, c < 58 → (Char.ofNat c).toNat = c := by decide
theorem map_back : ∀ {cs : List Nat}, AllDigits cs → (cs.map Char.ofNat).map Char.toNat = cs
  | [], _ => rfl
  | c :: cs, h => by
    rw [List.map_cons, List.map_cons, map_back h.tail, ofNat_back c (by have := h.head; omega)]
/-- no needless zero in front -/
def Canon (cs : List Nat) : Prop := AllDigits cs ∧ cs ≠ [] ∧ (cs = [48] ∨ ∀ r, cs ≠ 48 :: r)
theorem canon_dg {cs : List Nat} (h : Canon cs) : Dg (digitsVal cs) = cs := by
  obtain ⟨h1, h2, h3⟩ := h
  unfold Dg
  match cs, h2 with
  | c :: r, _ =>
    have hh : r.length = 0 ∨ ∃ c' r', c :: r = c' :: r' ∧ 49 ≤ c' := by
      rcases h3 with h3 | h3
      · cases h3
        exact .inl rfl
      · refine .inr ⟨c, r, rfl, ?_⟩
        have := h1.head
        have : c ≠ 48 := fun z => h3 r (by rw [z])
        omega
    rw [toDigits_digitsVal r.length (c :: r) rfl h1 hh, map_back h1]
theorem dg_canon (n : Nat) : Canon (Dg n) := by
  refine ⟨dg_all n, dg_ne n, ?_⟩
  by_cases h : ∃ r, Dg n = 48 :: r
  · obtain ⟨r, e⟩ := h
    left
    have ha := dg_all n
    have hv := dg_val n
    rw [e] at ha hv
    have t := toDigits_all (48 :: r) ha
    rw [hv, List.dropWhile_cons] at t
    have t : Nat.toDigits 10 n = (match r.dropWhile (· == 48) with | [] => ['0'] | c :: r => (c :: r).map Char.ofNat) := t
    cases q : r.dropWhile (· == 48) with
    | nil =>
      rw [q] at t
      unfold Dg
      rw [t]
      rfl
    | cons c r' =>
      rw [q] at t
      have l1 : (Dg n).length = (c :: r').length := by unfold Dg; rw [t, List.length_map, List.length_map]
      have l2 : (c :: r').length ≤ r.length := by rw [← q]; exact (List.dropWhile_sublist _).length_le
      rw [e] at l1
      simp only [List.length_cons] at l1 l2
      omega
  · exact .inr fun r z => h ⟨r, z⟩
theorem dg_inj {n m : Nat} (h : Dg n = Dg m) : n = m := by rw [← dg_val n, h, dg_val]
theorem dg_head (n : Nat) : ∃ c r, Dg n = c :: r ∧ 48 ≤ c ∧ c ≤ 57 := by
  cases e : Dg n with
  | nil => exact absurd e (dg_ne n)
  | cons c r =>
    have h := dg_all n
    rw [e] at h
    exact ⟨c, r, rfl, h.head⟩
end



/-! ### plain: fractions -/
section
variable {X : Cx}
def CDivZ (_ j : Int) : Prop := j ≠ 0 ∧ j.natAbs.log2 < 9000
theorem op_fdivZ : OpR X (binaryOp .FloorDiv) (rI CDivZ fun i j => .int (i.fdiv j)) := opI fun i j _ _ _ _ _ hc q => PyProof.Rows.floordiv_int hc.1 q (.inl (PyProof.noPylong_of_log2 hc.2))
end
theorem log2_of {j : Int} {n : Nat} (h : j.natAbs < 2 ^ n) (hn : n ≤ 9000) : j.natAbs.log2 < 9000 := by
  by_cases h0 : j.natAbs = 0
  · rw [h0]; decide
  · exact Nat.lt_of_lt_of_le ((Nat.log2_lt h0).mpr h) hn
/-- the divisor that Ratio takes out -/
def dv (t b : Int) : Int := if b < 0 then -((Int.gcd t b : Nat) : Int) else (Int.gcd t b : Nat)
theorem gcd_pos_of {t b : Int} (hb : b ≠ 0) : 0 < Int.gcd t b := Int.gcd_pos_of_ne_zero_right _ hb
theorem dv_ne {t b : Int} (hb : b ≠ 0) : dv t b ≠ 0 := by
  have := gcd_pos_of (t := t) hb
  unfold dv
  split <;> omega
theorem dv_abs {t b : Int} : (dv t b).natAbs = Int.gcd t b := by
  unfold dv
  split <;> omega
theorem fdiv_exact {x d q : Int} (hd : d ≠ 0) (h : x = d * q) : x.fdiv d = q := by
  rw [h, Int.mul_comm]
  exact Int.mul_fdiv_cancel _ hd
theorem num_of {t b : Int} (hb : b ≠ 0) : t.fdiv (dv t b) = (Rat.divInt t b).num := by
  rw [Rat.num_divInt]
  have hg := gcd_pos_of (t := t) hb
  obtain ⟨k, hk⟩ : (Int.gcd t b : Int) ∣ t := Int.gcd_dvd_left ..
  refine fdiv_exact (dv_ne hb) ?_
  rw [Int.gcd_comm b t]
  unfold dv
  by_cases h : b < 0
  · rw [if_pos h, Int.sign_eq_neg_one_of_neg h]
    have e : (-1 : Int) * t = (Int.gcd t b : Int) * (-k) := by grind
    rw [e, Int.mul_ediv_cancel_left _ (by omega)]
    grind
  · rw [if_neg h, Int.sign_eq_one_of_pos (by omega), Int.one_mul]
    have e : t / (Int.gcd t b : Int) = k := Int.ediv_eq_of_eq_mul_right (by omega) hk
    rw [e]
    exact hk
theorem den_of {t b : Int} (hb : b ≠ 0) : b.fdiv (dv t b) = ((Rat.divInt t b).den : Int) := by
  rw [Rat.den_divInt, if_neg hb]
  have hg := gcd_pos_of (t := t) hb
  obtain ⟨k, hk⟩ : (Int.gcd t b : Int) ∣ b := Int.gcd_dvd_right ..
  refine fdiv_exact (dv_ne hb) ?_
  rw [Int.gcd_comm b t, Int.natCast_ediv]
  unfold dv
  by_cases h : b < 0
  · rw [if_pos h]
    have e : ((b.natAbs : Nat) : Int) = (Int.gcd t b : Int) * (-k) := by
      have : ((b.natAbs : Nat) : Int) = -b := by omega
      rw [this]
      grind
    rw [e, Int.mul_ediv_cancel_left _ (by omega)]
    grind
  · rw [if_neg h]
    have e : ((b.natAbs : Nat) : Int) = b := by omega
    have e2 : b / (Int.gcd t b : Int) = k := Int.ediv_eq_of_eq_mul_right (by omega) hk
    rw [e, e2]
    exact hk
theorem gcd_step {a b : Int} (ha : 0 ≤ a) (hb : 0 ≤ b) : Int.gcd (b % a) a = Int.gcd a b := by
  obtain ⟨n, rfl⟩ := Int.eq_ofNat_of_zero_le ha
  obtain ⟨m, rfl⟩ := Int.eq_ofNat_of_zero_le hb
  rw [← Int.natCast_emod, Int.gcd_natCast_natCast, Int.gcd_natCast_natCast]
  exact (Nat.gcd_rec n m).symm
def Bd (n : Nat) (q : Rat) : Prop := q.num.natAbs < 2 ^ n ∧ q.den < 2 ^ n
theorem bd_divInt {t b : Int} {n : Nat} (h1 : t.natAbs < 2 ^ n) (h2 : b.natAbs < 2 ^ n) (hb : b ≠ 0) : Bd n (Rat.divInt t b) := by
  have hg := gcd_pos_of (t := t) hb
  refine ⟨?_, ?_⟩
  · rw [← num_of hb]
    refine Nat.lt_of_le_of_lt ?_ h1
    obtain ⟨k, hk⟩ : (Int.gcd t b : Int) ∣ t := Int.gcd_dvd_left ..
    obtain ⟨k', hk'⟩ : ∃ k', t = dv t b * k' := by
      unfold dv
      split
      · exact ⟨-k, by grind⟩
      · exact ⟨k, hk⟩
    rw [fdiv_exact (dv_ne hb) hk']
    have e : t.natAbs = (dv t b).natAbs * k'.natAbs := by rw [← Int.natAbs_mul, ← hk']
    rw [e, dv_abs]
    exact Nat.le_mul_of_pos_left _ hg
  · rw [Rat.den_divInt, if_neg hb]
    exact Nat.lt_of_le_of_lt (Nat.div_le_self ..) h2
theorem mul_lt_pow {a b n m : Nat} (h1 : a < 2 ^ n) (h2 : b < 2 ^ m) : a * b < 2 ^ (n + m) := by
  rw [Nat.pow_add]
  exact Nat.mul_lt_mul'' h1 h2
theorem abs_mul {a b : Int} {n m : Nat} (h1 : a.natAbs < 2 ^ n) (h2 : b.natAbs < 2 ^ m) : (a * b).natAbs < 2 ^ (n + m) := by
  rw [Int.natAbs_mul]
  exact mul_lt_pow h1 h2
theorem abs_add {a b : Int} {n : Nat} (h1 : a.natAbs < 2 ^ n) (h2 : b.natAbs < 2 ^ n) : (a + b).natAbs < 2 ^ (n + 1) := by
  rw [Nat.pow_succ]
  omega
theorem abs_sub {a b : Int} {n : Nat} (h1 : a.natAbs < 2 ^ n) (h2 : b.natAbs < 2 ^ n) : (a - b).natAbs < 2 ^ (n + 1) := by
  rw [Nat.pow_succ]
  omega
theorem abs_mono {a : Int} {n m : Nat} (h1 : a.natAbs < 2 ^ n) (h : n ≤ m) : a.natAbs < 2 ^ m := Nat.lt_of_lt_of_le h1 (Nat.pow_le_pow_right (by decide) h)
theorem Bd.mono {q : Rat} {n m : Nat} (h : Bd n q) (l : n ≤ m) : Bd m q := ⟨abs_mono h.1 l, Nat.lt_of_lt_of_le h.2 (Nat.pow_le_pow_right (by decide) l)⟩
theorem add_num (p q : Rat) : Rat.divInt (p.num * q.den + q.num * p.den) (p.den * q.den) = p + q := by
  have hp : (p.den : Int) ≠ 0 := by have := p.den_nz; omega
  have hq : (q.den : Int) ≠ 0 := by have := q.den_nz; omega
  conv => rhs; rw [← Rat.num_divInt_den p, ← Rat.num_divInt_den q, Rat.divInt_add_divInt _ _ hp hq]
theorem sub_num (p q : Rat) : Rat.divInt (p.num * q.den - q.num * p.den) (p.den * q.den) = p - q := by
  have hp : (p.den : Int) ≠ 0 := by have := p.den_nz; omega
  have hq : (q.den : Int) ≠ 0 := by have := q.den_nz; omega
  conv => rhs; rw [← Rat.num_divInt_den p, ← Rat.num_divInt_den q, Rat.divInt_sub_divInt _ _ hp hq]
theorem mul_num (p q : Rat) : Rat.divInt (p.num * q.num) (p.den * q.den) = p * q := by
  conv => rhs; rw [← Rat.num_divInt_den p, ← Rat.num_divInt_den q, Rat.divInt_mul_divInt]
theorem lt_num (p q : Rat) : (p.num * q.den < q.num * p.den) = (p < q) := propext (Rat.lt_iff p q).symm
theorem le_num (p q : Rat) : (p.num * q.den ≤ q.num * p.den) = (p ≤ q) := propext (Rat.le_iff p q).symm
theorem eq_num (p q : Rat) : (p.num = q.num ∧ (p.den : Int) = q.den) = (p = q) := by
  apply propext
  constructor
  · rintro ⟨h1, h2⟩
    exact Rat.ext h1 (by omega)
  · rintro rfl
    exact ⟨rfl, rfl⟩
theorem of_num (i : Int) : Rat.divInt i 1 = (i : Rat) := Rat.num_divInt_den (i : Rat)
theorem neg_num (p : Rat) : Rat.divInt (-p.num) p.den = -p := by
  conv => rhs; rw [← Rat.num_divInt_den p, Rat.neg_divInt]
theorem div_num (p q : Rat) : Rat.divInt (p.num * q.den) (p.den * q.num) = p / q := by
  conv => rhs; rw [← Rat.num_divInt_den p, ← Rat.num_divInt_den q, Rat.div_def, Rat.inv_divInt, Rat.divInt_mul_divInt]
theorem abs_num (p : Rat) : Rat.divInt (if p.num < 0 then -p.num else p.num) p.den = p.abs := by
  by_cases h : p.num < 0
  · rw [if_pos h, neg_num]
    have h' : ¬ 0 ≤ p := fun z => by have := Rat.num_nonneg.mpr z; omega
    exact (Rat.abs_of_nonpos (by rcases Rat.le_total (a := 0) (b := p) with z | z; exact absurd z h'; exact z)).symm
  · rw [if_neg h, Rat.num_divInt_den]
    exact (Rat.abs_of_nonneg (Rat.num_nonneg.mp (by omega))).symm
theorem zero_num (p : Rat) : (p.num = 0) = (p = 0) := propext Rat.num_eq_zero
theorem radd_num (p : Rat) (i : Int) : Rat.divInt (p.num + i * p.den) p.den = (i : Rat) + p := by
  rw [Rat.add_comm, ← add_num p (i : Rat)]
  show _ = Rat.divInt (p.num * ((1 : Nat) : Int) + i * p.den) (p.den * ((1 : Nat) : Int))
  simp
theorem rsub_num (p : Rat) (i : Int) : Rat.divInt (i * p.den - p.num) p.den = (i : Rat) - p := by
  rw [← sub_num (i : Rat) p]
  show _ = Rat.divInt (i * p.den - p.num * ((1 : Nat) : Int)) (((1 : Nat) : Int) * p.den)
  simp
theorem rmul_num (p : Rat) (i : Int) : Rat.divInt (p.num * i) p.den = (i : Rat) * p := by
  rw [Rat.mul_comm, ← mul_num p (i : Rat)]
  show _ = Rat.divInt (p.num * i) (p.den * ((1 : Nat) : Int))
  simp

/-! ### plain: ratios as texts, read -/
section
open PySem.NumText TL
def isD (c : Nat) : Bool := decide (48 ≤ c) && decide (c ≤ 57)
def neg (w : List Nat) : Bool := w.head? == some 45
def dgs (w : List Nat) : List Nat := if neg w = true then w.tail else w
def sg (w : List Nat) : Int := if neg w = true then -1 else 1
def wrL (w : List Nat) : Bool := !(dgs w).isEmpty && decide ((dgs w).length ≤ 200) && (dgs w).all isD
def valL (w : List Nat) : Int := sg w * (digitsVal (dgs w) : Nat)
def dgtL (w : List Nat) : Option Nat := if w = [] ∨ 200 < w.length ∨ w.all isD = false then none else if w.head? = some 48 ∧ w ≠ [48] then none else some (digitsVal w)
def rd1 (p : List Nat) : Option (Int × Int) := match dgtL (dgs p) with
  | none => none
  | some u => if neg p = true ∧ u = 0 then none else some (sg p * (u : Int), 1)
def rd2 (p q : List Nat) : Option (Int × Int) := match dgtL (dgs p), dgtL q with
  | some u, some l => if (neg p = true ∧ u = 0) ∨ l < 2 ∨ Nat.gcd u l ≠ 1 then none else some (sg p * (u : Int), (l : Int))
  | _, _ => none
def rdP : List (List Nat) → Option (Int × Int)
  | [p] => rd1 p
  | [p, q] => rd2 p q
  | _ => none
theorem all_isD {w : List Nat} : w.all isD = true ↔ AllDigits w := by
  rw [List.all_eq_true]
  refine ⟨fun h c hc => ?_, fun h c hc => ?_⟩
  · have := h c hc
    unfold isD at this
    rw [Bool.and_eq_true, decide_eq_true_eq, decide_eq_true_eq] at this
    exact this
  · unfold isD
    rw [Bool.and_eq_true, decide_eq_true_eq, decide_eq_true_eq]
    exact h c hc
theorem dgtL_some {w : List Nat} {n : Nat} : dgtL w = some n ↔ Canon w ∧ w.length ≤ 200 ∧ n = digitsVal w := by
  unfold dgtL
  constructor
  · intro h
    split at h
    · cases h
    · rename_i c1
      split at h
      · cases h
      · rename_i c2
        rw [not_or, not_or] at c1
        have hd : AllDigits w := all_isD.mp (by cases e : w.all isD with | true => rfl | false => exact absurd e c1.2.2)
        refine ⟨⟨hd, c1.1, ?_⟩, by omega, (Option.some.inj h).symm⟩
        by_cases e : w = [48]
        · exact .inl e
        · exact .inr fun r z => c2 ⟨by rw [z]; rfl, e⟩
  · rintro ⟨⟨h1, h2, h3⟩, h4, rfl⟩
    rw [if_neg (by
      rintro (z | z | z)
      · exact h2 z
      · omega
      · rw [all_isD.mpr h1] at z
        cases z)]
    rw [if_neg]
    rintro ⟨z1, z2⟩
    rcases h3 with h3 | h3
    · exact z2 h3
    · cases w with
      | nil => exact h2 rfl
      | cons c r =>
        simp only [List.head?_cons, Option.some.injEq] at z1
        exact h3 r (by rw [z1])
theorem neg_dg {n : Nat} : neg (Dg n) = false := by
  obtain ⟨c, r, e, h1, h2⟩ := dg_head n
  unfold neg
  rw [e]
  show (some c == some 45) = false
  simp only [beq_eq_false_iff_ne, ne_eq, Option.some.injEq]
  omega
theorem neg_of {w : List Nat} (h : neg w = true) : w = 45 :: dgs w := by
  unfold dgs
  rw [if_pos h]
  unfold neg at h
  cases w with
  | nil => cases h
  | cons c r =>
    have : c = 45 := by simpa using h
    rw [this]
    rfl
theorem neg_cons {d : List Nat} : neg (45 :: d) = true ∧ dgs (45 :: d) = d := ⟨rfl, rfl⟩
theorem wrL_of {w : List Nat} (h : Canon (dgs w)) (hl : (dgs w).length ≤ 200) : wrL w = true := by
  unfold wrL
  rw [all_isD.mpr h.1, decide_eq_true hl]
  cases e : dgs w with
  | nil => exact absurd e h.2.1
  | cons _ _ => rfl
theorem wrL_len {w : List Nat} (h : wrL w = true) : (dgs w).length ≤ 200 ∧ AllDigits (dgs w) ∧ dgs w ≠ [] := by
  unfold wrL at h
  rw [Bool.and_eq_true, Bool.and_eq_true, decide_eq_true_eq] at h
  exact ⟨h.1.2, all_isD.mp h.2, fun z => by rw [z] at h; simp at h⟩
/-- the text of an integer: what stands in it -/
theorem ts_form (v : Int) : ∃ w, tl (Str.ofString (toString v)) = w ∧ valL w = v ∧ dgs w = Dg v.natAbs ∧ (neg w = true ↔ v < 0) := by
  refine ⟨_, rfl, ?_⟩
  by_cases h : v < 0
  · obtain ⟨n, rfl, hn⟩ : ∃ n : Nat, v = -(n : Int) ∧ 0 < n := ⟨v.natAbs, by omega, by omega⟩
    rw [tl_neg hn]
    have e : (-(n : Int)).natAbs = n := by omega
    rw [e]
    refine ⟨?_, rfl, ⟨fun _ => h, fun _ => rfl⟩⟩
    show (-1 : Int) * ((digitsVal (Dg n) : Nat) : Int) = _
    rw [dg_val]
    omega
  · obtain ⟨n, rfl⟩ : ∃ n : Nat, v = (n : Int) := ⟨v.toNat, by omega⟩
    rw [tl_nat]
    have e : ((n : Int)).natAbs = n := by omega
    have nd : dgs (Dg n) = Dg n := by unfold dgs; rw [neg_dg]; rfl
    rw [e]
    refine ⟨?_, nd, ⟨fun z => (by rw [neg_dg] at z; cases z), fun z => absurd z h⟩⟩
    unfold valL sg
    rw [nd, neg_dg, dg_val]
    simp
/-- a canonical text is the text of its value -/
theorem ts_back {p : List Nat} {u : Nat} (h : dgtL (dgs p) = some u) (h0 : ¬ (neg p = true ∧ u = 0)) : tl (Str.ofString (toString (valL p))) = p ∧ valL p = sg p * (u : Int) ∧ (valL p).natAbs = u ∧ wrL p = true := by
  obtain ⟨c, l, e⟩ := dgtL_some.mp h
  have cd := canon_dg c
  rw [← e] at cd
  have ev : valL p = sg p * (u : Int) := by unfold valL; rw [← e]
  refine ⟨?_, ev, ?_, wrL_of c l⟩
  · by_cases hn : neg p = true
    · have hu : 0 < u := by
        rcases Nat.eq_zero_or_pos u with z | z
        · exact absurd ⟨hn, z⟩ h0
        · exact z
      have : valL p = -(u : Int) := by rw [ev]; unfold sg; rw [if_pos hn]; omega
      rw [this, tl_neg hu, cd]
      exact (neg_of hn).symm
    · have : valL p = (u : Int) := by rw [ev]; unfold sg; rw [if_neg hn]; omega
      rw [this, tl_nat, cd]
      unfold dgs
      rw [if_neg hn]
  · rw [ev]
    unfold sg
    split <;> omega
theorem read_one {p : List Nat} : (∃ r, rd1 p = some r) ↔ (wrL p = true ∧ tl (Str.ofString (toString (valL p))) = p) := by
  constructor
  · rintro ⟨r, h⟩
    unfold rd1 at h
    cases e : dgtL (dgs p) with
    | none => rw [e] at h; cases h
    | some u =>
      rw [e] at h
      simp only at h
      split at h
      · cases h
      · rename_i h0
        have := ts_back e h0
        exact ⟨this.2.2.2, this.1⟩
  · rintro ⟨h1, h2⟩
    obtain ⟨w, e1, e2, e3, e4⟩ := ts_form (valL p)
    rw [h2] at e1
    subst e1
    have hl := (wrL_len h1).1
    have hd : dgtL (dgs p) = some (valL p).natAbs := dgtL_some.mpr ⟨by rw [e3]; exact dg_canon _, hl, by rw [e3, dg_val]⟩
    unfold rd1
    rw [hd]
    simp only
    rw [if_neg (by rintro ⟨z1, z2⟩; have := e4.mp z1; omega)]
    exact ⟨_, rfl⟩
theorem read_one_val {p : List Nat} {u l : Int} (h : rd1 p = some (u, l)) : u = valL p ∧ l = 1 := by
  unfold rd1 at h
  cases e : dgtL (dgs p) with
  | none => rw [e] at h; cases h
  | some n =>
    rw [e] at h
    simp only at h
    split at h
    · cases h
    · rename_i h0
      have := ts_back e h0
      have z := Option.some.inj h
      injection z with z1 z2
      exact ⟨by rw [← z1, this.2.1], z2.symm⟩
theorem no47 {w : List Nat} (h : AllDigits (dgs w)) : 47 ∉ w := fun z => by
  by_cases hn : neg w = true
  · rw [neg_of hn] at z
    rcases List.mem_cons.mp z with z | z
    · cases z
    · have := h 47 z
      omega
  · unfold dgs at h
    rw [if_neg hn] at h
    have := h 47 z
    omega
theorem cut47 : ∀ {a b p q : List Nat}, 47 ∉ a → 47 ∉ p → a ++ 47 :: b = p ++ 47 :: q → a = p ∧ b = q
  | [], b, [], q, _, _, h => ⟨rfl, by injection h⟩
  | [], b, c :: p, q, _, hp, h => by
    injection h with h1 h2
    exact absurd (by rw [← h1]; exact List.mem_cons_self) hp
  | c :: a, b, [], q, ha, _, h => by
    injection h with h1 h2
    exact absurd (by rw [h1]; exact List.mem_cons_self) ha
  | c :: a, b, d :: p, q, ha, hp, h => by
    injection h with h1 h2
    obtain ⟨e1, e2⟩ := cut47 (fun z => ha (List.mem_cons_of_mem _ z)) (fun z => hp (List.mem_cons_of_mem _ z)) h2
    exact ⟨by rw [h1, e1], e2⟩
/-- as a ratio is written -/
def rT (u l : Int) : List Nat := if l = 1 then tl (Str.ofString (toString u)) else tl (Str.ofString (toString u)) ++ 47 :: tl (Str.ofString (toString l))
theorem ts47 (v : Int) : 47 ∉ tl (Str.ofString (toString v)) := by
  obtain ⟨w, e1, e2, e3, e4⟩ := ts_form v
  rw [e1]
  exact no47 (by rw [e3]; exact dg_all _)
theorem low_of {u : Int} {l : Nat} (hl : 0 < l) (h : Nat.gcd u.natAbs l = 1) : (Rat.divInt u (l : Int)).num = u ∧ (Rat.divInt u (l : Int)).den = l := by
  have hg : Int.gcd u (l : Int) = 1 := h
  have hd : dv u (l : Int) = 1 := by
    unfold dv
    rw [if_neg (by omega), hg]
    rfl
  have hb : (l : Int) ≠ 0 := by omega
  have e1 := num_of (t := u) hb
  have e2 := den_of (t := u) hb
  rw [hd, Int.fdiv_one] at e1 e2
  exact ⟨e1.symm, by omega⟩
theorem read_two {p q : List Nat} (hp : 47 ∉ p) : (∃ r, rd2 p q = some r) ↔ (wrL p = true ∧ wrL q = true ∧ valL q ≠ 0 ∧ rT (Rat.divInt (valL p) (valL q)).num (Rat.divInt (valL p) (valL q)).den = p ++ 47 :: q) := by
  constructor
  · rintro ⟨r, h⟩
    unfold rd2 at h
    cases e : dgtL (dgs p) with
    | none => rw [e] at h; cases h
    | some u =>
      cases e2 : dgtL q with
      | none => rw [e, e2] at h; cases h
      | some l =>
        rw [e, e2] at h
        simp only at h
        split at h
        · cases h
        · rename_i h0
          rw [not_or, not_or] at h0
          obtain ⟨t1, t2, t3, t4⟩ := ts_back e h0.1
          obtain ⟨c, ll, ev⟩ := dgtL_some.mp e2
          have nq : neg q = false := by
            cases c1 : neg q with
            | false => rfl
            | true =>
              have := neg_of c1
              have d := c.1 45 (by rw [this]; exact List.mem_cons_self)
              omega
          have dq : dgs q = q := by unfold dgs; rw [nq]; rfl
          have vq : valL q = (l : Int) := by unfold valL sg; rw [nq, dq, ← ev]; simp
          have l2 : 2 ≤ l := by omega
          have gg : Nat.gcd u l = 1 := by
            by_cases z : Nat.gcd u l = 1
            · exact z
            · exact absurd z h0.2.2
          have lw := low_of (u := valL p) (l := l) (by omega) (by rw [t3]; exact gg)
          refine ⟨t4, wrL_of (by rw [dq]; exact c) (by rw [dq]; exact ll), by rw [vq]; omega, ?_⟩
          rw [vq, lw.1, lw.2]
          unfold rT
          rw [if_neg (by omega), t1, tl_nat]
          have := canon_dg c
          rw [← ev] at this
          rw [this]
  · rintro ⟨h1, h2, h3, h4⟩
    generalize hr : Rat.divInt (valL p) (valL q) = r at h4
    unfold rT at h4
    by_cases hd : (r.den : Int) = 1
    · rw [if_pos hd] at h4
      have := ts47 r.num
      rw [h4] at this
      exact absurd (List.mem_append_right _ List.mem_cons_self) this
    · rw [if_neg hd] at h4
      obtain ⟨e1, e2⟩ := cut47 (ts47 _) hp h4
      obtain ⟨w, f1, f2, f3, f4⟩ := ts_form r.num
      rw [e1] at f1
      subst f1
      have e2 : Dg r.den = q := by rw [← e2, tl_nat]
      have dp : dgtL (dgs p) = some r.num.natAbs := dgtL_some.mpr ⟨by rw [f3]; exact dg_canon _, (wrL_len h1).1, by rw [f3, dg_val]⟩
      have nq : dgs q = q := by unfold dgs; rw [← e2, neg_dg]; rfl
      have dq : dgtL q = some r.den := dgtL_some.mpr ⟨by rw [← e2]; exact dg_canon _, by rw [← nq]; exact (wrL_len h2).1, by rw [← e2, dg_val]⟩
      unfold rd2
      rw [dp, dq]
      simp only
      have dpos := r.den_pos
      rw [if_neg (by
        rintro (⟨z1, z2⟩ | z | z)
        · have := f4.mp z1
          omega
        · omega
        · exact z r.reduced)]
      exact ⟨_, rfl⟩
theorem read_two_val {p q : List Nat} {u l : Int} (h : rd2 p q = some (u, l)) : u = valL p ∧ l = valL q ∧ 2 ≤ l ∧ (Rat.divInt u l).num = u ∧ ((Rat.divInt u l).den : Int) = l := by
  unfold rd2 at h
  cases e : dgtL (dgs p) with
  | none => rw [e] at h; cases h
  | some n =>
    cases e2 : dgtL q with
    | none => rw [e, e2] at h; cases h
    | some m =>
      rw [e, e2] at h
      simp only at h
      split at h
      · cases h
      · rename_i h0
        rw [not_or, not_or] at h0
        obtain ⟨t1, t2, t3, t4⟩ := ts_back e h0.1
        obtain ⟨c, ll, ev⟩ := dgtL_some.mp e2
        have nq : neg q = false := by
          cases c1 : neg q with
          | false => rfl
          | true =>
            have := neg_of c1
            have d := c.1 45 (by rw [this]; exact List.mem_cons_self)
            omega
        have dq : dgs q = q := by unfold dgs; rw [nq]; rfl
        have vq : valL q = (m : Int) := by unfold valL sg; rw [nq, dq, ← ev]; simp
        have gg : Nat.gcd n m = 1 := by
          by_cases z : Nat.gcd n m = 1
          · exact z
          · exact absurd z h0.2.2
        have lw := low_of (u := valL p) (l := m) (by omega) (by rw [t3]; exact gg)
        have z := Option.some.inj h
        injection z with z1 z2
        subst z1 z2
        rw [← t2]
        exact ⟨rfl, vq.symm, by omega, lw.1, by rw [lw.2]⟩
end



abbrev PW : Program := PySem.Challenge.pw_lineorigins_k04_ratio_texts
def top (i : Nat) : Stmt := PySem.Challenge.pw_lineorigins_k04_ratio_texts.main.body.getD i (.Pass ⟨0, 0, 0, 0⟩)
abbrev sIsInteger : Stmt := top 22
abbrev nIsInteger : List Str := ["value"]
theorem scIsInteger : FnScope nIsInteger ["value"] (defScope sIsInteger) := ⟨rfl, rfl, rfl, by decide +kernel, rfl, by decide +kernel, by decide +kernel⟩
abbrev sCommonDivisor : Stmt := top 23
abbrev nCommonDivisor : List Str := ["first", "second", "one", "other"]
theorem scCommonDivisor : FnScope nCommonDivisor ["first", "second"] (defScope sCommonDivisor) := ⟨rfl, rfl, rfl, by decide +kernel, rfl, by decide +kernel, by decide +kernel⟩
abbrev sRatioInit : Stmt := inClass (top 24) 0
abbrev nRatioInit : List Str := ["self", "top", "bottom", "divisor"]
theorem scRatioInit : FnScope nRatioInit ["self", "top", "bottom"] (defScope sRatioInit) := ⟨rfl, rfl, rfl, by decide +kernel, rfl, by decide +kernel, by decide +kernel⟩
abbrev sRatioTop : Stmt := inClass (top 24) 1
abbrev nRatioTop : List Str := ["self"]
theorem scRatioTop : FnScope nRatioTop ["self"] (defScope sRatioTop) := ⟨rfl, rfl, rfl, by decide +kernel, rfl, by decide +kernel, by decide +kernel⟩
abbrev sRatioBottom : Stmt := inClass (top 24) 2
abbrev nRatioBottom : List Str := ["self"]
theorem scRatioBottom : FnScope nRatioBottom ["self"] (defScope sRatioBottom) := ⟨rfl, rfl, rfl, by decide +kernel, rfl, by decide +kernel, by decide +kernel⟩
abbrev sRatioText : Stmt := inClass (top 24) 3
abbrev nRatioText : List Str := ["self"]
theorem scRatioText : FnScope nRatioText ["self"] (defScope sRatioText) := ⟨rfl, rfl, rfl, by decide +kernel, rfl, by decide +kernel, by decide +kernel⟩
abbrev sRatioFromText : Stmt := inClass (top 24) 4
abbrev nRatioFromText : List Str := ["cls", "text", "parts", "found", "part"]
theorem scRatioFromText : FnScope nRatioFromText ["cls", "text"] (defScope sRatioFromText) := ⟨rfl, rfl, rfl, by decide +kernel, rfl, by decide +kernel, by decide +kernel⟩
abbrev sIsWritten : Stmt := top 27
abbrev nIsWritten : List Str := ["word", "digits", "sign"]
theorem scIsWritten : FnScope nIsWritten ["word"] (defScope sIsWritten) := ⟨rfl, rfl, rfl, by decide +kernel, rfl, by decide +kernel, by decide +kernel⟩
abbrev sLawPool : Stmt := top 29
abbrev nLawPool : List Str := ["_law_script", "_law_numbers", "_law_seed", "_law_cell"]
theorem scLawPool : FnScope nLawPool ["_law_script"] (defScope sLawPool) := ⟨rfl, rfl, rfl, by decide +kernel, rfl, by decide +kernel, by decide +kernel⟩
abbrev sLawMixed : Stmt := top 30
abbrev nLawMixed : List Str := ["_law_number", "_law_count", "_law_many"]
theorem scLawMixed : FnScope nLawMixed ["_law_number", "_law_count", "_law_many"] (defScope sLawMixed) := ⟨rfl, rfl, rfl, by decide +kernel, rfl, by decide +kernel, by decide +kernel⟩
abbrev sLawDraw : Stmt := top 31
abbrev nLawDraw : List Str := ["_law_pool_here", "_law_many", "_law_at", "_law_numbers", "_law_cell"]
theorem scLawDraw : FnScope nLawDraw ["_law_pool_here", "_law_many"] (defScope sLawDraw) := ⟨rfl, rfl, rfl, by decide +kernel, rfl, by decide +kernel, by decide +kernel⟩
abbrev sLawLowest : Stmt := top 32
abbrev nLawLowest : List Str := ["_law_upper", "_law_lower", "_law_one", "_law_other"]
theorem scLawLowest : FnScope nLawLowest ["_law_upper", "_law_lower"] (defScope sLawLowest) := ⟨rfl, rfl, rfl, by decide +kernel, rfl, by decide +kernel, by decide +kernel⟩
abbrev sLawWhole : Stmt := top 34
abbrev nLawWhole : List Str := ["_law_thing"]
theorem scLawWhole : FnScope nLawWhole ["_law_thing"] (defScope sLawWhole) := ⟨rfl, rfl, rfl, by decide +kernel, rfl, by decide +kernel, by decide +kernel⟩
abbrev sLawIsRatio : Stmt := top 33
abbrev nLawIsRatio : List Str := ["_law_thing", "_law_upper", "_law_lower"]
theorem scLawIsRatio : FnScope nLawIsRatio ["_law_thing", "_law_upper", "_law_lower"] (defScope sLawIsRatio) := ⟨rfl, rfl, rfl, by decide +kernel, rfl, by decide +kernel, by decide +kernel⟩
abbrev sLawKind : Stmt := top 35
abbrev nLawKind : List Str := ["_law_error", "_law_kinds", "_law_words"]
theorem scLawKind : FnScope nLawKind ["_law_error"] (defScope sLawKind) := ⟨rfl, rfl, rfl, by decide +kernel, rfl, by decide +kernel, by decide +kernel⟩
abbrev sLawCaught : Stmt := top 36
abbrev nLawCaught : List Str := ["_law_call", "_law_caught_here", "e", "_law_word"]
theorem scLawCaught : FnScope nLawCaught ["_law_call"] (defScope sLawCaught) := ⟨rfl, rfl, rfl, by decide +kernel, rfl, by decide +kernel, by decide +kernel⟩
abbrev sLawInteger : Stmt := top 37
abbrev nLawInteger : List Str := ["_law_pool_here", "_law_size"]
theorem scLawInteger : FnScope nLawInteger ["_law_pool_here"] (defScope sLawInteger) := ⟨rfl, rfl, rfl, by decide +kernel, rfl, by decide +kernel, by decide +kernel⟩
abbrev sLawPair : Stmt := top 38
abbrev nLawPair : List Str := ["_law_pool_here", "_law_upper", "_law_lower", "_law_times"]
theorem scLawPair : FnScope nLawPair ["_law_pool_here"] (defScope sLawPair) := ⟨rfl, rfl, rfl, by decide +kernel, rfl, by decide +kernel, by decide +kernel⟩
abbrev sLawDigits : Stmt := top 39
abbrev nLawDigits : List Str := ["_law_word", "_law_sign"]
theorem scLawDigits : FnScope nLawDigits ["_law_word"] (defScope sLawDigits) := ⟨rfl, rfl, rfl, by decide +kernel, rfl, by decide +kernel, by decide +kernel⟩
abbrev sLawRead : Stmt := top 40
abbrev nLawRead : List Str := ["_law_text", "_law_parts", "_law_minus", "_law_upper", "_law_lower"]
theorem scLawRead : FnScope nLawRead ["_law_text"] (defScope sLawRead) := ⟨rfl, rfl, rfl, by decide +kernel, rfl, by decide +kernel, by decide +kernel⟩
abbrev sLawRight : Stmt := top 41
abbrev nLawRight : List Str := ["_law_text", "_law_due", "_law_found"]
theorem scLawRight : FnScope nLawRight ["_law_text"] (defScope sLawRight) := ⟨rfl, rfl, rfl, by decide +kernel, rfl, by decide +kernel, by decide +kernel⟩
abbrev sLaw : Stmt := top 42
abbrev nLaw : List Str := ["_law_script", "_law_pool_here", "_law_k", "_law_upper", "_law_lower", "_law_text", "_law_at", "_law_sign", "_law_some", "_law_one", "_law_nines", "_law_odd"]
theorem scLaw : FnScope nLaw ["_law_script"] (defScope sLaw) := ⟨rfl, rfl, rfl, by decide +kernel, rfl, by decide +kernel, by decide +kernel⟩
structure Adr where
  k_Ratio : Addr
  k_LineError : Addr
  k_InvalidNumber : Addr
  k_InvalidText : Addr
  k_InvalidName : Addr
  k_InvalidParents : Addr
  k_InvalidVersion : Addr
  k_InvalidHistory : Addr
  k_InvalidLayout : Addr
  k_InvalidPrices : Addr
  k_InvalidTelling : Addr
  k_InvalidDeeds : Addr
  k_InvalidLine : Addr
  k_InvalidRanges : Addr
  k_InvalidCommand : Addr
  k_ParseError : Addr
  k_TooMany : Addr
  k_NothingToUndo : Addr
  i_InvalidNumber : Addr
  i_InvalidText : Addr
  a_IsInteger : Addr
  d_IsInteger : FuncData
  a_CommonDivisor : Addr
  d_CommonDivisor : FuncData
  a_RatioInit : Addr
  d_RatioInit : FuncData
  a_RatioTop : Addr
  d_RatioTop : FuncData
  p_RatioTop : Addr
  a_RatioBottom : Addr
  d_RatioBottom : FuncData
  p_RatioBottom : Addr
  a_RatioText : Addr
  d_RatioText : FuncData
  p_RatioText : Addr
  a_RatioFromText : Addr
  d_RatioFromText : FuncData
  p_RatioFromText : Addr
  a_IsWritten : Addr
  d_IsWritten : FuncData
  a_LawPool : Addr
  d_LawPool : FuncData
  a_LawMixed : Addr
  d_LawMixed : FuncData
  a_LawDraw : Addr
  d_LawDraw : FuncData
  a_LawLowest : Addr
  d_LawLowest : FuncData
  a_LawWhole : Addr
  d_LawWhole : FuncData
  a_LawIsRatio : Addr
  d_LawIsRatio : FuncData
  a_LawKind : Addr
  d_LawKind : FuncData
  a_LawCaught : Addr
  d_LawCaught : FuncData
  a_LawInteger : Addr
  d_LawInteger : FuncData
  a_LawPair : Addr
  d_LawPair : FuncData
  a_LawDigits : Addr
  d_LawDigits : FuncData
  a_LawRead : Addr
  d_LawRead : FuncData
  a_LawRight : Addr
  d_LawRight : FuncData
  c_LawRight : Addr
  t_LawRight : Addr
  a_Law : Addr
  d_Law : FuncData
  c_Law : Addr
  t_Law : Addr
def errAt (A : Adr) : Nat → Addr
  | 0 => A.k_InvalidNumber
  | 1 => A.k_InvalidText
  | 2 => A.k_InvalidName
  | 3 => A.k_InvalidParents
  | 4 => A.k_InvalidVersion
  | 5 => A.k_InvalidHistory
  | 6 => A.k_InvalidLayout
  | 7 => A.k_InvalidPrices
  | 8 => A.k_InvalidTelling
  | 9 => A.k_InvalidDeeds
  | 10 => A.k_InvalidLine
  | 11 => A.k_InvalidRanges
  | 12 => A.k_InvalidCommand
  | 13 => A.k_ParseError
  | 14 => A.k_TooMany
  | 15 => A.k_NothingToUndo
  | _ => 0
structure Txt (K : PySem.W.Frag) (mg : Str → Option Value) (A : Adr) : Prop where
  k_Ratio : mg "Ratio" = some (.ref A.k_Ratio)
  t_Ratio : TyF K A.k_Ratio
  mk_Ratio : Mk K A.k_Ratio A.a_RatioInit
  n_Ratio_kept_top : NoAttr K A.k_Ratio "kept_top"
  n_Ratio_kept_bottom : NoAttr K A.k_Ratio "kept_bottom"
  q_Ratio_int : PySem.W.kitOne K (.ref A.k_Ratio) (.type "int") = some false
  q_Ratio_bool : PySem.W.kitOne K (.ref A.k_Ratio) (.type "bool") = some false
  q_int_Ratio : PySem.W.kitOne K (.type "int") (.ref A.k_Ratio) = some false
  q_bool_Ratio : PySem.W.kitOne K (.type "bool") (.ref A.k_Ratio) = some false
  q_str_Ratio : PySem.W.kitOne K (.type "str") (.ref A.k_Ratio) = some false
  q_list_Ratio : PySem.W.kitOne K (.type "list") (.ref A.k_Ratio) = some false
  q_tuple_Ratio : PySem.W.kitOne K (.type "tuple") (.ref A.k_Ratio) = some false
  q_dict_Ratio : PySem.W.kitOne K (.type "dict") (.ref A.k_Ratio) = some false
  q_NoneType_Ratio : PySem.W.kitOne K (.type "NoneType") (.ref A.k_Ratio) = some false
  cr_Ratio : ClX.CRead K A.k_Ratio (.type "type")
  w_Ratio_int : PySem.W.notFirst K A.k_Ratio (.type "int") = true
  w_Ratio_bool : PySem.W.notFirst K A.k_Ratio (.type "bool") = true
  w_Ratio_str : PySem.W.notFirst K A.k_Ratio (.type "str") = true
  w_Ratio_list : PySem.W.notFirst K A.k_Ratio (.type "list") = true
  w_Ratio_tuple : PySem.W.notFirst K A.k_Ratio (.type "tuple") = true
  w_Ratio_dict : PySem.W.notFirst K A.k_Ratio (.type "dict") = true
  w_Ratio_NoneType : PySem.W.notFirst K A.k_Ratio (.type "NoneType") = true
  k_LineError : mg "LineError" = some (.ref A.k_LineError)
  k_InvalidNumber : mg "InvalidNumber" = some (.ref A.k_InvalidNumber)
  k_InvalidText : mg "InvalidText" = some (.ref A.k_InvalidText)
  k_InvalidName : mg "InvalidName" = some (.ref A.k_InvalidName)
  k_InvalidParents : mg "InvalidParents" = some (.ref A.k_InvalidParents)
  k_InvalidVersion : mg "InvalidVersion" = some (.ref A.k_InvalidVersion)
  k_InvalidHistory : mg "InvalidHistory" = some (.ref A.k_InvalidHistory)
  k_InvalidLayout : mg "InvalidLayout" = some (.ref A.k_InvalidLayout)
  k_InvalidPrices : mg "InvalidPrices" = some (.ref A.k_InvalidPrices)
  k_InvalidTelling : mg "InvalidTelling" = some (.ref A.k_InvalidTelling)
  k_InvalidDeeds : mg "InvalidDeeds" = some (.ref A.k_InvalidDeeds)
  k_InvalidLine : mg "InvalidLine" = some (.ref A.k_InvalidLine)
  k_InvalidRanges : mg "InvalidRanges" = some (.ref A.k_InvalidRanges)
  k_InvalidCommand : mg "InvalidCommand" = some (.ref A.k_InvalidCommand)
  k_ParseError : mg "ParseError" = some (.ref A.k_ParseError)
  k_TooMany : mg "TooMany" = some (.ref A.k_TooMany)
  k_NothingToUndo : mg "NothingToUndo" = some (.ref A.k_NothingToUndo)
  x_InvalidNumber : XTxt PW K mg "InvalidNumber" A.k_InvalidNumber A.i_InvalidNumber
  y_InvalidNumber : KindAt K (errAt A) A.k_LineError A.k_TooMany A.k_NothingToUndo A.k_InvalidNumber 0
  x_InvalidText : XTxt PW K mg "InvalidText" A.k_InvalidText A.i_InvalidText
  y_InvalidText : KindAt K (errAt A) A.k_LineError A.k_TooMany A.k_NothingToUndo A.k_InvalidText 1
  f_IsInteger : Fun K "is_integer" "is_integer" sIsInteger A.a_IsInteger A.d_IsInteger
  m_IsInteger : mg "is_integer" = some (.ref A.a_IsInteger)
  b_IsInteger : Binds K A.d_IsInteger ["value"] []
  f_CommonDivisor : Fun K "common_divisor" "common_divisor" sCommonDivisor A.a_CommonDivisor A.d_CommonDivisor
  m_CommonDivisor : mg "common_divisor" = some (.ref A.a_CommonDivisor)
  b_CommonDivisor : Binds K A.d_CommonDivisor ["first", "second"] []
  f_RatioInit : FunD K "__init__" "Ratio.__init__" (defArgs sRatioInit) (defBody sRatioInit) (defScope sRatioInit) [.int 1] [] A.a_RatioInit A.d_RatioInit
  e1_RatioInit : ∃ ds, Vals [.int 1] ds ∧ Binds K A.d_RatioInit ["self", "top", "bottom"] ds
  h_RatioInit : Meth K A.k_Ratio "__init__" A.a_RatioInit
  b_RatioInit : Binds K A.d_RatioInit ["self", "top", "bottom"] []
  f_RatioTop : Fun K "top" "Ratio.top" sRatioTop A.a_RatioTop A.d_RatioTop
  h_RatioTop : PropOf K A.k_Ratio "top" A.p_RatioTop A.a_RatioTop
  b_RatioTop : Binds K A.d_RatioTop ["self"] []
  f_RatioBottom : Fun K "bottom" "Ratio.bottom" sRatioBottom A.a_RatioBottom A.d_RatioBottom
  h_RatioBottom : PropOf K A.k_Ratio "bottom" A.p_RatioBottom A.a_RatioBottom
  b_RatioBottom : Binds K A.d_RatioBottom ["self"] []
  f_RatioText : Fun K "text" "Ratio.text" sRatioText A.a_RatioText A.d_RatioText
  h_RatioText : PropOf K A.k_Ratio "text" A.p_RatioText A.a_RatioText
  b_RatioText : Binds K A.d_RatioText ["self"] []
  f_RatioFromText : Fun K "from_text" "Ratio.from_text" sRatioFromText A.a_RatioFromText A.d_RatioFromText
  h_RatioFromText : ClX.CMet K A.k_Ratio (.type "type") "from_text" A.p_RatioFromText A.a_RatioFromText
  b_RatioFromText : Binds K A.d_RatioFromText ["cls", "text"] []
  f_IsWritten : Fun K "is_written" "is_written" sIsWritten A.a_IsWritten A.d_IsWritten
  m_IsWritten : mg "is_written" = some (.ref A.a_IsWritten)
  b_IsWritten : Binds K A.d_IsWritten ["word"] []
  f_LawPool : Fun K "_law_pool" "_law_pool" sLawPool A.a_LawPool A.d_LawPool
  m_LawPool : mg "_law_pool" = some (.ref A.a_LawPool)
  b_LawPool : Binds K A.d_LawPool ["_law_script"] []
  f_LawMixed : Fun K "_law_mixed" "_law_mixed" sLawMixed A.a_LawMixed A.d_LawMixed
  m_LawMixed : mg "_law_mixed" = some (.ref A.a_LawMixed)
  b_LawMixed : Binds K A.d_LawMixed ["_law_number", "_law_count", "_law_many"] []
  f_LawDraw : Fun K "_law_draw" "_law_draw" sLawDraw A.a_LawDraw A.d_LawDraw
  m_LawDraw : mg "_law_draw" = some (.ref A.a_LawDraw)
  b_LawDraw : Binds K A.d_LawDraw ["_law_pool_here", "_law_many"] []
  f_LawLowest : Fun K "_law_lowest" "_law_lowest" sLawLowest A.a_LawLowest A.d_LawLowest
  m_LawLowest : mg "_law_lowest" = some (.ref A.a_LawLowest)
  b_LawLowest : Binds K A.d_LawLowest ["_law_upper", "_law_lower"] []
  f_LawWhole : Fun K "_law_whole" "_law_whole" sLawWhole A.a_LawWhole A.d_LawWhole
  m_LawWhole : mg "_law_whole" = some (.ref A.a_LawWhole)
  b_LawWhole : Binds K A.d_LawWhole ["_law_thing"] []
  f_LawIsRatio : Fun K "_law_is_ratio" "_law_is_ratio" sLawIsRatio A.a_LawIsRatio A.d_LawIsRatio
  m_LawIsRatio : mg "_law_is_ratio" = some (.ref A.a_LawIsRatio)
  b_LawIsRatio : Binds K A.d_LawIsRatio ["_law_thing", "_law_upper", "_law_lower"] []
  f_LawKind : Fun K "_law_kind" "_law_kind" sLawKind A.a_LawKind A.d_LawKind
  m_LawKind : mg "_law_kind" = some (.ref A.a_LawKind)
  b_LawKind : Binds K A.d_LawKind ["_law_error"] []
  f_LawCaught : Fun K "_law_caught" "_law_caught" sLawCaught A.a_LawCaught A.d_LawCaught
  m_LawCaught : mg "_law_caught" = some (.ref A.a_LawCaught)
  b_LawCaught : Binds K A.d_LawCaught ["_law_call"] []
  f_LawInteger : Fun K "_law_integer" "_law_integer" sLawInteger A.a_LawInteger A.d_LawInteger
  m_LawInteger : mg "_law_integer" = some (.ref A.a_LawInteger)
  b_LawInteger : Binds K A.d_LawInteger ["_law_pool_here"] []
  f_LawPair : Fun K "_law_pair" "_law_pair" sLawPair A.a_LawPair A.d_LawPair
  m_LawPair : mg "_law_pair" = some (.ref A.a_LawPair)
  b_LawPair : Binds K A.d_LawPair ["_law_pool_here"] []
  f_LawDigits : Fun K "_law_digits" "_law_digits" sLawDigits A.a_LawDigits A.d_LawDigits
  m_LawDigits : mg "_law_digits" = some (.ref A.a_LawDigits)
  b_LawDigits : Binds K A.d_LawDigits ["_law_word"] []
  f_LawRead : Fun K "_law_read" "_law_read" sLawRead A.a_LawRead A.d_LawRead
  m_LawRead : mg "_law_read" = some (.ref A.a_LawRead)
  b_LawRead : Binds K A.d_LawRead ["_law_text"] []
  fc_LawRight : FunC K "_law_right" sLawRight A.a_LawRight A.d_LawRight A.c_LawRight
  tb_LawRight : PySem.W.tabIn K "_law_right" = some (A.c_LawRight, A.t_LawRight)
  nt_LawRight : K.lookup A.t_LawRight = none
  f_LawRight : Fun K "_law_right" "_law_right" sLawRight A.a_LawRight A.d_LawRight
  m_LawRight : mg "_law_right" = some (.ref A.a_LawRight)
  b_LawRight : Binds K A.d_LawRight ["_law_text"] []
  fc_Law : FunC K "law" sLaw A.a_Law A.d_Law A.c_Law
  tb_Law : PySem.W.tabIn K "law" = some (A.c_Law, A.t_Law)
  nt_Law : K.lookup A.t_Law = none
  dt_LawRight_Law : A.t_LawRight ≠ A.t_Law
  f_Law : Fun K "law" "law" sLaw A.a_Law A.d_Law
  m_Law : mg "law" = some (.ref A.a_Law)
  b_Law : Binds K A.d_Law ["_law_script"] []
  z_isinstance : mg "isinstance" = none
  z_int : mg "int" = none
  z_bool : mg "bool" = none
  z_abs : mg "abs" = none
  z_property : mg "property" = none
  z_str : mg "str" = none
  z_classmethod : mg "classmethod" = none
  z_len : mg "len" = none
  z_all : mg "all" = none
  c_MOST_DIGITS : ∃ t, mg "MOST_DIGITS" = some (.int 200 t)
  c_DIGITS : ∃ t, mg "DIGITS" = some (.str "0123456789" t)
  z_ValueError : mg "ValueError" = none
  z_repr : mg "repr" = none
  z_range : mg "range" = none
/-! ## small words over the hand layer (own work) -/
section
variable {X : Cx}
/-- a list's item, a tuple's item, by the tracked object -/
def rIxH : R2 := fun x y H Q => ∃ p xs i v, x = .ref p ∧ y = .int i ∧ H p = some (.lst xs) ∧ atI xs i = some v ∧ Q v H
def rIxU : R2 := fun x y H Q => ∃ p xs i v, x = .ref p ∧ y = .int i ∧ H p = some (.tup xs) ∧ atI xs i = some v ∧ Q v H
theorem ix_lstH : IxR X rIxH := fun value slice pins s σ H x y v u Q I rx ry h hs => by
  obtain ⟨p, xs, i, z, h1, h2, h3, h4, h5⟩ := h
  exact ix_list value slice pins s σ H x y v u Q I rx ry ⟨p, xs, i, z, h1, h2, SqL.of h3, h4, h5⟩ hs
theorem ix_tupH : IxR X rIxU := fun value slice pins s σ H x y v u Q I rx ry h hs => by
  obtain ⟨p, xs, i, z, h1, h2, h3, h4, h5⟩ := h
  exact ix_tup value slice pins s σ H x y v u Q I rx ry ⟨p, xs, i, z, h1, h2, SqT.of h3, h4, h5⟩ hs
def rLenH : List V → Hp → VK → Prop := fun vs H Q => ∃ p ys, vs = [.ref p] ∧ H p = some (.lst ys) ∧ Q (.int ys.length) H
theorem call_lenH : CallR X (.builtin "len") rLenH := fun pins s σ H xs us Q I r h => by
  obtain ⟨p, ys, h1, h2, h3⟩ := h
  exact call_len_seq pins s σ H xs us Q I r ⟨p, ys, h1, Or.inl (SqL.of h2), h3⟩
def rLenU : List V → Hp → VK → Prop := fun vs H Q => ∃ p ys, vs = [.ref p] ∧ H p = some (.tup ys) ∧ Q (.int ys.length) H
theorem call_lenU : CallR X (.builtin "len") rLenU := fun pins s σ H xs us Q I r h => by
  obtain ⟨p, ys, h1, h2, h3⟩ := h
  exact call_len_seq pins s σ H xs us Q I r ⟨p, ys, h1, Or.inr (SqT.of h2), h3⟩
def rLenS : List V → Hp → VK → Prop := fun vs H Q => ∃ z, vs = [.str z] ∧ z.length ≤ sizeLine ∧ Q (.int z.length) H
theorem call_lenS : CallR X (.builtin "len") rLenS := call_len_str
/-- int(i) of an int -/
def rInt1 : List V → Hp → VK → Prop := fun vs H Q => ∃ i, vs = [.int i] ∧ Q (.int i) H
theorem call_intI : CallR X (.type "int") rInt1 := fun pins s σ H xs us Q I r h => call_int1 pins s σ H xs us Q I r (Or.inl h)
end
section
variable {α : Type} {a b c d e f g h : α} {r : List α}
theorem at0 : atI (a :: r) 0 = some a := by
  have q : ixN (a :: r).length 0 = some 0 := by
    unfold ixN
    rw [if_pos (by decide), if_pos (by rw [List.length_cons]; omega)]
    rfl
  unfold atI
  rw [q]
  rfl
theorem atN (n : Nat) {xs : List α} {v : α} (h : xs[n]? = some v) : atI xs (OfNat.ofNat n) = some v := atI_nat h
theorem at1 : atI (a :: b :: r) 1 = some b := atI_nat (j := 1) rfl
theorem at2 : atI (a :: b :: c :: r) 2 = some c := atI_nat (j := 2) rfl
theorem at3 : atI (a :: b :: c :: d :: r) 3 = some d := atI_nat (j := 3) rfl
theorem at4 : atI (a :: b :: c :: d :: e :: r) 4 = some e := atI_nat (j := 4) rfl
theorem at5 : atI (a :: b :: c :: d :: e :: f :: r) 5 = some f := atI_nat (j := 5) rfl
theorem ix51 : ixN 5 1 = some 1 := rfl
theorem ix52 : ixN 5 2 = some 2 := rfl
theorem ix54 : ixN 5 4 = some 4 := rfl
end
theorem scal_int {a b : Int} : scal (.int a) (.int b) = true := rfl
theorem scal_str {a b : Str} : scal (.str a) (.str b) = true := rfl
theorem scal_bl {a b : Bool} : scal (.bl a) (.bl b) = true := rfl
/-! ### loops -/
/-- the turns of a for, of a comprehension, as one word each (never opened by simp) -/
def forGo (J : It) (g : TG) (tb : TS) (D : Ends) (σ : St) (H1 : Hp) : Prop := ∃ W : Nat → Nat → St → Hp → Prop, (∃ m, W 0 m σ H1) ∧ ∀ i m σ H, W i m σ H →
  (J.stop i H ∧ D.nx σ H) ∨ (J.go i H ∧ ∃ N : St → Hp → Prop, (∀ σ' H', N σ' H' → ∃ m', m' < m ∧ W (i + 1) m' σ' H') ∧ ∀ x H', J.yld i H x H' → g x σ H' fun σ2 H2 => tb { D with nx := N, ct := N, bk := D.nx } σ2 H2)
theorem tFor_eq {wi : TI} {g : TG} {tb : TS} {D : Ends} {σ : St} {H : Hp} : tFor wi g tb D σ H = wi σ H fun J H1 => forGo J g tb D σ H1 := rfl
def lcGo (J : It) (g : TG) (tt : TT) (te : TE) (vs : List Nat) (σ : St) (D : Addr) (Q : VK) (H1 : Hp) : Prop := ∃ W : Nat → Nat → Hp → Prop, (∃ m, W 0 m (upd H1 D (.lst []))) ∧ ∀ i m H, W i m H →
  (J.stop i H ∧ Q (.ref D) H) ∨ (J.go i H ∧ ∃ Nx : Hp → Prop, (∀ H', Nx H' → ∃ m', m' < m ∧ W (i + 1) m' H') ∧ ∀ x H', J.yld i H x H' → g x (wipe σ vs) H' fun σ2 H2 => wipe σ2 vs = wipe σ vs ∧ tt σ2 H2 fun b H3 =>
    if b = true then te σ2 H3 fun y H4 => ∃ acc, H4 D = some (.lst acc) ∧ acc.length < sizeLine ∧ Nx (upd H4 D (.lst (acc ++ [y]))) else Nx H3)
theorem tLc_eq {wi : TI} {g : TG} {tt : TT} {te : TE} {vs : List Nat} {σ : St} {H : Hp} {Q : VK} : tLc wi g tt te vs σ H Q = wi σ H fun J H1 => ∀ D, H1 D = none → lcGo J g tt te vs σ D Q H1 := rfl
/-- what a walk gives, as a list -/
def sgn (c : Nat) : V := .str ⟨#[c]⟩
theorem walk_strY {z : Str} : Walk (Its z) (z.cps.toList.map sgn).length (fun _ => True) (YAt (z.cps.toList.map sgn)) := by
  have e : (z.cps.toList.map sgn).length = z.cps.size := by simp
  rw [e]
  refine walk_str.mono (fun _ h => h) fun i H x H' hi _ y => ?_
  obtain ⟨h1, c, h2, h3⟩ := y
  refine ⟨h1, ?_⟩
  rw [List.getElem?_map]
  have q : z.cps.toList[i]? = some c := by simpa using h2
  rw [q, h3]
  rfl
def rngV (lo : Int) (n : Nat) : List V := (List.range n).map fun i => V.int (lo + (i : Nat))
theorem rngV_len {lo : Int} {n : Nat} : (rngV lo n).length = n := by simp [rngV]
theorem walk_rangeY {lo : Int} {n : Nat} : Walk (Itr lo n) (rngV lo n).length (fun _ => True) (YAt (rngV lo n)) := by
  rw [rngV_len]
  refine walk_range.mono (fun _ h => h) fun i H x H' hi _ y => ?_
  obtain ⟨h1, h2⟩ := y
  refine ⟨h1, ?_⟩
  unfold rngV
  rw [List.getElem?_map, List.getElem?_range hi, h2]
  rfl
theorem take_get {α : Type} {l : List α} {i : Nat} {x : α} (h : l[i]? = some x) : l.take (i + 1) = l.take i ++ [x] := by
  rw [List.take_add_one, h]
  rfl
/-- a comprehension whose turns leave all that is tracked: what it chooses, what it gives -/
theorem lc_same {J : It} {xs : List V} {G : Hp → Prop} (w : Walk J xs.length G (YAt xs)) {g : TG} {tt : TT} {te : TE} {vs : List Nat} {σ : St} {D : Addr} {Q : VK} {H1 : Hp} (sel : V → Bool) (val : V → V)
    (hD : H1 D = none) (hG : ∀ H, Same H1 H → G H) (hz : xs.length ≤ 100000)
    (turn : ∀ x, x ∈ xs → ∀ H, Same H1 H → ∀ (R : VK) (R0 : Hp → Prop), (∀ H', Same H H' → sel x = true → R (val x) H') → (∀ H', Same H H' → sel x = false → R0 H') → g x (wipe σ vs) H fun σ2 H2 => wipe σ2 vs = wipe σ vs ∧ tt σ2 H2 fun b H3 => if b = true then te σ2 H3 R else R0 H3)
    (done : ∀ H, Same H1 H → H D = some (.lst ((xs.filter sel).map val)) → Q (.ref D) H) : lcGo J g tt te vs σ D Q H1 := by
  refine lc_it w (fun i H => Same H1 H ∧ H D = some (.lst (((xs.take i).filter sel).map val))) ⟨fun b o e => by rw [upd_ne (ne_of_none e hD)]; exact e, by rw [upd_same]; rfl⟩ (fun i H _ p => hG H p.1) (fun i x H H' hi p y => ?_) (fun H p => ?_)
  · obtain ⟨rfl, hx⟩ := y
    obtain ⟨s1, hacc⟩ := p
    have hm : x ∈ xs := List.mem_of_getElem? hx
    refine turn x hm _ s1 _ _ (fun H2 s2 hs => ?_) (fun H2 s2 hs => ?_)
    · refine ⟨_, s2 _ _ hacc, ?_, fun b o e => ?_, ?_⟩
      · rw [List.length_map]
        have q1 := List.length_filter_le sel (xs.take i)
        rw [List.length_take] at q1
        exact Nat.lt_of_le_of_lt (m := 100000) (by omega) (by decide)
      · rw [upd_ne (ne_of_none e hD)]
        exact s2 _ _ (s1 _ _ e)
      · rw [upd_same, take_get hx, List.filter_append, List.map_append, List.filter_cons, if_pos hs]
        rfl
    · refine ⟨s1.trans s2, ?_⟩
      rw [s2 _ _ hacc, take_get hx, List.filter_append, List.map_append, List.filter_cons, if_neg (by rw [hs]; decide)]
      simp
  · rw [List.take_length] at p
    exact done H p.1 p.2
theorem same_new {H : Hp} {p : Addr} {o : HO} (h : H p = none) : Same H (upd H p o) := fun b x e => by
  rw [upd_ne (ne_of_none e h)]
  exact e
theorem Same.tup {K : PySem.W.Frag} {H H' : Hp} {a : Addr} {xs : List V} (e : Same H H') (h : SqT K H a xs) : SqT K H' a xs := by
  rcases h with (h | ⟨o, h⟩) | h
  · exact .inl (.inl (e _ _ h))
  · exact .inl (.inr ⟨o, e _ _ h⟩)
  · exact .inr h
theorem cxOf_K {CX : CXT} {P : Program} {w : World} {K : PySem.W.Frag} {mg : Str → Option Value} {base : Heap} {N : List Str} {qual : Str} {scope : Scope} {f : Addr} {cd : Value} {A : Around} {outer : List Env} {s : Shared} {H : Hp} {E : XK} :
    (cxOf CX P w K mg base N qual scope f cd A outer s H E).K = K := rfl
theorem cut_to {xs : List V} {n : Nat} : cutV xs none (some (n : Int)) = xs.take n := by
  unfold cutV
  rw [HT.sIx_none, HT.sIx_nat]
  show List.take (min n xs.length - 0) xs = _
  rw [Nat.sub_zero]
  by_cases h : n ≤ xs.length
  · rw [Nat.min_eq_left h]
  · rw [Nat.min_eq_right (by omega), List.take_of_length_le (by omega), List.take_of_length_le (by omega)]
theorem cut_from {xs : List V} {n : Nat} : cutV xs (some (n : Int)) none = xs.drop n := by
  unfold cutV
  rw [HT.sIx_none, HT.sIx_nat]
  by_cases h : n ≤ xs.length
  · rw [Nat.min_eq_left h, List.take_of_length_le (by rw [List.length_drop]; omega)]
  · rw [Nat.min_eq_right (by omega), List.drop_of_length_le (by omega), List.drop_of_length_le (by omega), List.take_nil]
theorem cut_from1 {xs : List V} {n : Nat} : cutV xs (some ((n : Int) + 1)) none = xs.drop (n + 1) := cut_from (n := n + 1)
theorem mem_int {v : V} {ns : List Int} (h : v ∈ ns.map V.int) : ∃ i, v = .int i := by
  obtain ⟨i, _, e⟩ := List.mem_map.mp h
  exact ⟨i, e.symm⟩
/-- a for over what a walk gives -/
theorem for_go {J : It} {xs : List V} {G : Hp → Prop} (w : Walk J xs.length G (YAt xs)) {g : TG} {tb : TS} {D : Ends} {σ : St} {H : Hp} (Pv : Nat → St → Hp → Prop) (h0 : Pv 0 σ H) (hG : ∀ i σ H, i ≤ xs.length → Pv i σ H → G H)
    (hs : ∀ i x σ H, xs[i]? = some x → Pv i σ H → g x σ H fun σ2 H2 => tb { D with nx := Pv (i + 1), ct := Pv (i + 1), bk := D.nx } σ2 H2) (hd : ∀ σ H, Pv xs.length σ H → D.nx σ H) : forGo J g tb D σ H := by
  refine for_it w Pv h0 hG (fun i x σ H H' hi p y => ?_) hd
  obtain ⟨rfl, hx⟩ := y
  exact hs i x σ _ hx p
theorem new_facts {H H1 : Hp} {p : Addr} {o : HO} (hp : H p = none) (hG : upd H p o = H1) : Same H H1 ∧ H1 p = some o := by
  subst hG
  exact ⟨same_new hp, upd_same⟩

/-! ## the pool of draws -/
def spLawMixed : Sp := fun vs H Q _ => ∃ (n c m : Int), vs = [.int n, .int c, .int m] ∧ 0 ≤ n ∧ n < 4294967296 ∧ 0 ≤ c ∧ c ≤ 100000000 ∧ 0 < m ∧ ∀ v, 0 ≤ v → v < m → Q (.int v) H
theorem pow_ok {n c : Int} (h0 : 0 ≤ n) (h1 : n < 4294967296) (h2 : 0 ≤ c) (h3 : c ≤ 100000000) : (n + 7919 * c).natAbs < 2 ^ 64 := by
  have : (2 : Nat) ^ 64 = 18446744073709551616 := by decide
  omega
theorem nat_lt_of {c : Int} {a m : Nat} (h0 : 0 ≤ c) (h : c < (m : Int)) (hm : m ≤ 2 ^ a) : c.natAbs < 2 ^ a := Nat.lt_of_lt_of_le (by omega) hm
section
variable {P : Program} {w : World} {K : PySem.W.Frag} {mg : Str → Option Value} {base : Heap} {A : Adr}
theorem ok_mixed (T : Txt K mg A) : FnOk P w K mg base CX0 1 A.a_LawMixed A.d_LawMixed ["_law_number", "_law_count", "_law_many"] spLawMixed := by
  refine T.f_LawMixed.ok scLawMixed (fun vs H Q E h => ?_) (fun cdv A' outer s H vs Q E hr h => ?_)
  · obtain ⟨n, c, m, rfl, _⟩ := h
    rfl
  · obtain ⟨n, c, m, rfl, h0, h1, h2, h3, h4, k⟩ := h
    refine ⟨_, (pss_one (ps_ret (pe_op op_mod (pe_op op_fdivW (pe_callTy call_intI (by rfl) T.z_int (by decide +kernel) (pa_cons (pe_op op_mod (pe_op op_pow (pe_callTy call_intI (by rfl) T.z_int (by decide +kernel) (pa_cons (pe_op op_add (pv 0) (pe_op op_mulW pe_int (pv 1))) pa_nil)) pe_int) pe_int) pa_nil)) pe_int) (pv 2)))), ?_⟩
    simp only [tSeq, tNext, tRet, tRetN, tAsg, gName, gSub, tDrop, tIfS, tOp, tUn, tCB, tCons, tNil, tC, tVar, rI, rI0, rU, tAnd, tOr, tNot, tAndV, tOrV, tNotV, tIf, tTest, tB, tCall, tChain, tLst, tTup, tYes, rIxH, rIxU, rLenH, rLenU, rLenS, rInt1, rSetL, rEq, rNe, rCat, L2.start, List.map, List.length, List.length_cons, List.length_nil, List.replicate, List.getElem?_cons_zero, List.getElem?_cons_succ, List.set_cons_zero, List.set_cons_succ, List.set_nil, List.cons_append, List.nil_append, List.append_nil, Option.some.injEq, V.int.injEq, V.ref.injEq, V.str.injEq, V.bl.injEq, HO.lst.injEq, HO.tup.injEq, exists_eq_left', exists_and_left, exists_eq_left, List.cons.injEq, and_true, true_and, and_false, false_and, and_self, reduceCtorEq, exists_false, or_false, false_or, exists_const, at0, at1, at2, at3, at4, at5, ix51, ix52, ix54, upd_same, Nat.reduceAdd, Nat.reduceSub, Nat.zero_add, Int.reduceToNat, Int.reduceLE, Int.reduceLT, decide_eq_true_eq, Bool.not_eq_true, if_true, if_false, Bool.false_eq_true, ite_true, ite_false, Bool.not_true, Bool.not_false, decide_true, decide_false, tFor_eq, tLc_eq, iList, iTup, iRng1, iRng2, iStr, tSl, tPart, tNoPart, rSlL, cxOf_K, wipe]
    refine ⟨wide_mul (a := 13) (b := 27) (by decide) (nat_lt_of (m := 134217728) h2 (by omega) (by decide)) (by decide) (by decide) (by decide), ⟨by decide, by decide, pow_ok h0 h1 h2 h3⟩, wide_div (b := 5) (by decide) (by decide) (by decide) (by decide), h4, k _ (Int.emod_nonneg _ (by omega)) (Int.emod_lt_of_pos _ h4)⟩
/-- the pool's list stands at p, its numbers at l; at most c draws so far -/
def PoolAt (p l : Addr) (c : Nat) (H : Hp) : Prop := ∃ (ns : List Int) (t n z y : Int), H p = some (.lst [.ref l, .int t, .int n, .int z, .int y]) ∧ H l = some (.lst (ns.map V.int)) ∧ 0 ≤ t ∧ ns.length ≤ 63 ∧ 0 ≤ n ∧ n ≤ (c : Int) ∧ 0 ≤ z ∧ z < 2147483647
/-- all but the pool's two lists is as it was -/
def Off (p l : Addr) (H H' : Hp) : Prop := ∀ b, b ≠ p → b ≠ l → H' b = H b
def spLawDraw : Sp := fun vs H Q _ => ∃ (p l : Addr) (m : Int) (c : Nat), vs = [.ref p, .int m] ∧ 0 < m ∧ m < 1000000000000000000000000000000000000000 ∧ PoolAt p l c H ∧ c ≤ 90000000 ∧ ∀ v H', 0 ≤ v → v < m → PoolAt p l (c + 1) H' → Off p l H H' → Q (.int v) H'
theorem ok_draw (T : Txt K mg A) (gLawMixed : FnOk P w K mg base CX0 1 A.a_LawMixed A.d_LawMixed ["_law_number", "_law_count", "_law_many"] spLawMixed) : FnOk P w K mg base CX0 2 A.a_LawDraw A.d_LawDraw ["_law_pool_here", "_law_many"] spLawDraw := by
  refine T.f_LawDraw.ok scLawDraw (fun vs H Q E h => ?_) (fun cdv A' outer s H vs Q E hr h => ?_)
  · obtain ⟨p, l, m, c, rfl, _⟩ := h
    rfl
  · obtain ⟨p, l, m, c, rfl, m0, m1, ⟨ns, t, n, z, y, hp, hl, t0, nl, n0, n1, z0, z1⟩, c1, k⟩ := h
    have npl : p ≠ l := ne_of hp hl (by intro q; cases ns with | nil => cases q | cons _ _ => cases q)
    have e1 : ∀ (G : Hp) (o : HO), upd G p o l = G l := fun G o => upd_ne npl.symm
    have e2 : ∀ (G : Hp) (o : HO), upd G l o p = G p := fun G o => upd_ne npl
    have hm : CDivW 0 m := wide_div (b := 130) m0 (nat_lt_of (m := 1000000000000000000000000000000000000000) (by omega) (by omega) (by decide)) (by decide) (by decide)
    refine ⟨_, (pss_cons (ps_asg (pe_op op_add (pe_ix ix_lstH (pv 0) pe_int (fun _ _ => rfl)) pe_int) (pg_sub (pv 0) pe_int set_list))
      (pss_cons (ps_if (pt_cmpR (op_ge) (pe_ix ix_lstH (pv 0) pe_int (fun _ _ => rfl)) (pe_callB call_lenH (by rfl) T.z_len (by decide +kernel) (pa_cons (pe_ix ix_lstH (pv 0) pe_int (fun _ _ => rfl)) pa_nil)) (nomark _)) (pss_one (ps_ret (pe_call gLawMixed (hr.mono (by decide)) (by rfl) T.m_LawMixed T.f_LawMixed.kp T.b_LawMixed .nil pass0 (pa_cons (pe_ix ix_lstH (pv 0) pe_int (fun _ _ => rfl)) (pa_cons (pe_ix ix_lstH (pv 0) pe_int (fun _ _ => rfl)) (pa_cons (pv 1) pa_nil)))))) pss_nil)
      (pss_cons (ps_set (i := 2) scLawDraw.nd rfl (Or.inl rfl) (pe_ix ix_lstH (pv 0) pe_int (fun _ _ => rfl)))
      (pss_cons (ps_set (i := 3) scLawDraw.nd rfl (Or.inl rfl) (pe_ix ix_lstH (pv 0) pe_int (fun _ _ => rfl)))
      (pss_cons (ps_set (i := 4) scLawDraw.nd rfl (Or.inl rfl) (pe_ix ix_lstH (pv 3) (pv 2) (fun _ _ => rfl)))
      (pss_cons (ps_if (PW.pt (pw_and (pt_cmpR (op_ne) (pe_ix ix_lstH (pv 0) pe_int (fun _ _ => rfl)) pe_int (nomark _)) (pw_and1 (pt_cmpR (op_lt) (pv 4) (pe_op op_pow pe_int pe_int) (nomark _))))) (pss_cons (ps_asg (pe_op op_add (pe_ix ix_lstH (pv 0) pe_int (fun _ _ => rfl)) pe_int) (pg_sub (pv 0) pe_int set_list))
      (pss_cons (ps_if (pt_cmpR (op_eq) (pe_ix ix_lstH (pv 0) pe_int (fun _ _ => rfl)) pe_int (nomark _)) (pss_cons (ps_asg (pe_op op_add (pv 2) pe_int) (pg_sub (pv 0) pe_int set_list))
      (pss_one (ps_asg pe_int (pg_sub (pv 0) pe_int set_list)))) pss_nil)
      (pss_one (ps_ret (pe_call gLawMixed (hr.mono (by decide)) (by rfl) T.m_LawMixed T.f_LawMixed.kp T.b_LawMixed .nil pass0 (pa_cons (pe_op op_mod (pe_callTy call_intI (by rfl) T.z_int (by decide +kernel) (pa_cons (pv 4) pa_nil)) pe_int) (pa_cons (pe_ix ix_lstH (pv 0) pe_int (fun _ _ => rfl)) (pa_cons (pv 1) pa_nil)))))))) pss_nil)
      (pss_cons (ps_asg pe_int (pg_sub (pv 0) pe_int set_list))
      (pss_cons (ps_asg (pe_op op_fdivW (pe_callTy call_intI (by rfl) T.z_int (by decide +kernel) (pa_cons (pv 4) pa_nil)) (pv 1)) (pg_sub (pv 3) (pv 2) set_list))
      (pss_cons (ps_if (pt_cmpR (op_eq) (pe_ix ix_lstH (pv 3) (pv 2) (fun _ _ => rfl)) pe_int (nomark _)) (pss_cons (ps_asg (pe_op op_add (pv 2) pe_int) (pg_sub (pv 0) pe_int set_list))
      (pss_one (ps_asg pe_int (pg_sub (pv 0) pe_int set_list)))) pss_nil)
      (pss_one (ps_ret (pe_op op_mod (pe_callTy call_intI (by rfl) T.z_int (by decide +kernel) (pa_cons (pv 4) pa_nil)) (pv 1))))))))))))), ?_⟩
    have p10 : CPow 10 18 := ⟨by decide, by decide, by decide⟩
    have off : ∀ o o', Off p l H (upd (upd H p o) l o') := fun o o' b hb hb' => by rw [upd_ne hb', upd_ne hb]
    have off2 : ∀ o o', Off p l H (upd (upd H l o) p o') := fun o o' b hb hb' => by rw [upd_ne hb, upd_ne hb']
    have off1 : ∀ o, Off p l H (upd H p o) := fun o b hb hb' => by rw [upd_ne hb]
    have pool : ∀ (t' y' : Int), 0 ≤ t' → PoolAt p l (c + 1) (upd H p (.lst [.ref l, .int t', .int (n + 1), .int z, .int y'])) := fun t' y' h => ⟨ns, t', n + 1, z, y', upd_same, by rw [e1]; exact hl, h, nl, by omega, by omega, z0, z1⟩
    by_cases ht : t < (ns.length : Int)
    · have q : t = ((t.toNat : Nat) : Int) := (Int.toNat_of_nonneg t0).symm
      have q2 : t.toNat < ns.length := by omega
      have ha : atI (ns.map V.int) t = some (.int ns[t.toNat]) := at_of q (by rw [List.getElem?_map, List.getElem?_eq_getElem q2]; rfl)
      have hix : ixN ns.length t = some t.toNat := by
        unfold ixN
        rw [if_pos t0, if_pos ht]
      have hnt : ¬ ((ns.length : Int) ≤ t) := by omega
      have hset : ∀ v, (ns.map V.int).set t.toNat (.int v) = (ns.set t.toNat v).map V.int := fun v => by rw [List.map_set]
      have ha2 : ∀ v, atI ((ns.set t.toNat v).map V.int) t = some (.int v) := fun v => at_of q (by rw [List.getElem?_map, List.getElem?_set_self q2]; rfl)
      generalize ns[t.toNat] = v at ha
      simp only [tSeq, tNext, tRet, tRetN, tAsg, gName, gSub, tDrop, tIfS, tOp, tUn, tCB, tCons, tNil, tC, tVar, rI, rI0, rU, tAnd, tOr, tNot, tAndV, tOrV, tNotV, tIf, tTest, tB, tCall, tChain, tLst, tTup, tYes, rIxH, rIxU, rLenH, rLenU, rLenS, rInt1, rSetL, rEq, rNe, rCat, L2.start, List.map, List.length, List.length_cons, List.length_nil, List.replicate, List.getElem?_cons_zero, List.getElem?_cons_succ, List.set_cons_zero, List.set_cons_succ, List.set_nil, List.cons_append, List.nil_append, List.append_nil, Option.some.injEq, V.int.injEq, V.ref.injEq, V.str.injEq, V.bl.injEq, HO.lst.injEq, HO.tup.injEq, exists_eq_left', exists_and_left, exists_eq_left, List.cons.injEq, and_true, true_and, and_false, false_and, and_self, reduceCtorEq, exists_false, or_false, false_or, exists_const, at0, at1, at2, at3, at4, at5, ix51, ix52, ix54, upd_same, Nat.reduceAdd, Nat.reduceSub, Nat.zero_add, Int.reduceToNat, Int.reduceLE, Int.reduceLT, decide_eq_true_eq, Bool.not_eq_true, if_true, if_false, Bool.false_eq_true, ite_true, ite_false, Bool.not_true, Bool.not_false, decide_true, decide_false, tFor_eq, tLc_eq, iList, iTup, iRng1, iRng2, iStr, tSl, tPart, tNoPart, rSlL, cxOf_K, wipe, hp, hl, e1, e2, upd_upd, ha, hix, hnt, hset, ha2, scal_int, p10, List.length_map]
      have hv0 : 0 ≤ v % 2147483647 := Int.emod_nonneg _ (by decide)
      have hv1 : v % 2147483647 < 2147483647 := Int.emod_lt_of_pos _ (by decide)
      have r0 : 0 ≤ v % m := Int.emod_nonneg _ (by omega)
      have r1 : v % m < m := Int.emod_lt_of_pos _ m0
      have hd : CDivW v m := hm
      have mk : ∀ (t' y' : Int), 0 ≤ t' → spLawMixed [.int (v % 2147483647), .int (n + 1), .int m] (upd H p (.lst [.ref l, .int t', .int (n + 1), .int z, .int y'])) Q E0 := fun t' y' h =>
        ⟨_, _, _, rfl, hv0, by omega, by omega, by omega, m0, fun u u0 u1 => k u _ u0 u1 (pool t' y' h) (off1 _)⟩
      have hB : ∀ (ms : List Int), ms.length = ns.length → ∀ o, PoolAt p l (c + 1) (upd (upd (upd H p o) l (.lst (ms.map V.int))) p (.lst [.ref l, .int (t + 1), .int (n + 1), .int z, .int 0])) := fun ms hms o =>
        ⟨ms, t + 1, n + 1, z, 0, upd_same, by rw [e1, upd_same], by omega, by omega, by omega, by omega, z0, z1⟩
      have hC : ∀ (ms : List Int), ms.length = ns.length → PoolAt p l (c + 1) (upd (upd H p (.lst [.ref l, .int t, .int (n + 1), .int z, .int 2])) l (.lst (ms.map V.int))) := fun ms hms =>
        ⟨ms, t, n + 1, z, 2, by rw [e2, upd_same], upd_same, t0, by omega, by omega, by omega, z0, z1⟩
      have off3 : ∀ o o' o'', Off p l H (upd (upd (upd H p o) l o') p o'') := fun o o' o'' b hb hb' => by rw [upd_ne hb, upd_ne hb', upd_ne hb]
      have fin : CDivW v m ∧ if v / m = 0 then 0 < m ∧ Q (V.int (v % m)) (upd (upd (upd H p (HO.lst [V.ref l, V.int t, V.int (n + 1), V.int z, V.int 2])) l (HO.lst (List.map V.int (ns.set t.toNat (v / m))))) p (HO.lst [V.ref l, V.int (t + 1), V.int (n + 1), V.int z, V.int 0]))
          else 0 < m ∧ Q (V.int (v % m)) (upd (upd H p (HO.lst [V.ref l, V.int t, V.int (n + 1), V.int z, V.int 2])) l (HO.lst (List.map V.int (ns.set t.toNat (v / m))))) := by
        refine ⟨hd, ite2 (fun _ => ⟨m0, k _ _ r0 r1 (hB _ (by rw [List.length_set]) _) (off3 _ _ _)⟩) (fun _ => ⟨m0, k _ _ r0 r1 (hC _ (by rw [List.length_set])) (off _ _)⟩)⟩
      refine ite2 (fun _ => ?_) (fun _ => fin)
      refine ite2 (fun _ => ?_) (fun _ => fin)
      exact ite2 (fun _ => mk (t + 1) 0 (by omega)) (fun _ => mk t (y + 1) t0)
    · have hnt : (ns.length : Int) ≤ t := by omega
      simp only [tSeq, tNext, tRet, tRetN, tAsg, gName, gSub, tDrop, tIfS, tOp, tUn, tCB, tCons, tNil, tC, tVar, rI, rI0, rU, tAnd, tOr, tNot, tAndV, tOrV, tNotV, tIf, tTest, tB, tCall, tChain, tLst, tTup, tYes, rIxH, rIxU, rLenH, rLenU, rLenS, rInt1, rSetL, rEq, rNe, rCat, L2.start, List.map, List.length, List.length_cons, List.length_nil, List.replicate, List.getElem?_cons_zero, List.getElem?_cons_succ, List.set_cons_zero, List.set_cons_succ, List.set_nil, List.cons_append, List.nil_append, List.append_nil, Option.some.injEq, V.int.injEq, V.ref.injEq, V.str.injEq, V.bl.injEq, HO.lst.injEq, HO.tup.injEq, exists_eq_left', exists_and_left, exists_eq_left, List.cons.injEq, and_true, true_and, and_false, false_and, and_self, reduceCtorEq, exists_false, or_false, false_or, exists_const, at0, at1, at2, at3, at4, at5, ix51, ix52, ix54, upd_same, Nat.reduceAdd, Nat.reduceSub, Nat.zero_add, Int.reduceToNat, Int.reduceLE, Int.reduceLT, decide_eq_true_eq, Bool.not_eq_true, if_true, if_false, Bool.false_eq_true, ite_true, ite_false, Bool.not_true, Bool.not_false, decide_true, decide_false, tFor_eq, tLc_eq, iList, iTup, iRng1, iRng2, iStr, tSl, tPart, tNoPart, rSlL, cxOf_K, wipe, hp, hl, e1, e2, upd_upd, hnt, List.length_map]
      exact ⟨_, _, _, rfl, z0, by omega, by omega, by omega, m0, fun u u0 u1 => k u _ u0 u1 (pool t y t0) (off1 _)⟩
def spLawPool (K : PySem.W.Frag) : Sp := fun vs H Q _ => ∃ (a : Addr) (ns : List Int), vs = [.ref a] ∧ SqL K H a (ns.map V.int) ∧ ns.length ≤ 63 ∧ ∀ p l H', PoolAt p l 0 H' → H p = none → H l = none → Same H H' → Q (.ref p) H'
theorem ok_pool (T : Txt K mg A) : FnOk P w K mg base CX0 1 A.a_LawPool A.d_LawPool ["_law_script"] (spLawPool K) := by
  refine T.f_LawPool.ok scLawPool (fun vs H Q E h => ?_) (fun cdv A' outer s H vs Q E hr h => ?_)
  · obtain ⟨a, ns, rfl, _⟩ := h
    rfl
  · obtain ⟨a, ns, rfl, hS, nl, k⟩ := h
    refine ⟨_, (pss_cons (ps_setLc (i := 1) (own := [("_law_cell", 3)]) (g := gName 3) (tt := tYes) (by rfl) scLawPool.nd rfl rfl (sw_true rfl rfl rfl (by decide +kernel)) (pi_list (pe_slice sl_list (pv 0) po_none (po_some pe_int))) (blkOk_by (own := [("_law_cell", 3)]) (N := nLawPool) (sc := defScope sLawPool) (by decide +kernel)) (fun _ _ _ _ _ => pg_name (i := 3) scLawPool.nd rfl (Or.inl rfl)) (fun _ _ _ _ _ => pts_nil) (fun _ _ _ _ _ => (pe_callTy call_intI (by rfl) T.z_int (by decide +kernel) (pa_cons (pv 3) pa_nil))))
      (pss_cons (ps_set (i := 2) scLawPool.nd rfl (Or.inl rfl) pe_int)
      (pss_cons (ps_for PassesOwn.never rfl (pi_list (pv 1)) (pg_name (i := 3) scLawPool.nd rfl (Or.inl rfl)) (pss_one (ps_set (i := 2) scLawPool.nd rfl (Or.inl rfl) (pe_op op_mod (pe_callTy call_intI (by rfl) T.z_int (by decide +kernel) (pa_cons (pe_op op_add (pe_op op_mulW (pv 2) pe_int) (pv 3)) pa_nil)) pe_int))))
      (pss_one (ps_ret (pe_lst (pa_cons (pv 1) (pa_cons pe_int (pa_cons pe_int (pa_cons (pv 2) (pa_cons pe_int pa_nil))))))))))), ?_⟩
    simp only [tSeq, tNext, tRet, tRetN, tAsg, gName, gSub, tDrop, tIfS, tOp, tUn, tCB, tCons, tNil, tC, tVar, rI, rI0, rU, tAnd, tOr, tNot, tAndV, tOrV, tNotV, tIf, tTest, tB, tCall, tChain, tLst, tTup, tYes, rIxH, rIxU, rLenH, rLenU, rLenS, rInt1, rSetL, rEq, rNe, rCat, L2.start, List.map, List.length, List.length_cons, List.length_nil, List.replicate, List.getElem?_cons_zero, List.getElem?_cons_succ, List.set_cons_zero, List.set_cons_succ, List.set_nil, List.cons_append, List.nil_append, List.append_nil, Option.some.injEq, V.int.injEq, V.ref.injEq, V.str.injEq, V.bl.injEq, HO.lst.injEq, HO.tup.injEq, exists_eq_left', exists_and_left, exists_eq_left, List.cons.injEq, and_true, true_and, and_false, false_and, and_self, reduceCtorEq, exists_false, or_false, false_or, exists_const, at0, at1, at2, at3, at4, at5, ix51, ix52, ix54, upd_same, Nat.reduceAdd, Nat.reduceSub, Nat.zero_add, Int.reduceToNat, Int.reduceLE, Int.reduceLT, decide_eq_true_eq, Bool.not_eq_true, if_true, if_false, Bool.false_eq_true, ite_true, ite_false, Bool.not_true, Bool.not_false, decide_true, decide_false, tFor_eq, tLc_eq, iList, iTup, iRng1, iRng2, iStr, tSl, tPart, tNoPart, rSlL, cxOf_K, wipe]
    refine ⟨_, hS, fun p hp => ⟨⟨_, SqL.of upd_same⟩, fun D hD => ?_⟩⟩
    have hc : cutV (ns.map V.int) none (some 63) = ns.map V.int := by
      rw [show (63 : Int) = ((63 : Nat) : Int) from rfl, cut_to, List.take_of_length_le (by rw [List.length_map]; exact nl)]
    rw [hc] at hD ⊢
    have hDn : H D = none := (same_new hp).free hD
    refine lc_same (walk_list (K := K) (xs := ns.map V.int)) (fun _ => true) id hD (fun H2 s2 => s2.seq (SqL.of upd_same)) (by rw [List.length_map]; omega) (fun x hx H2 s2 R R0 h1 _ => ?_) (fun H2 s2 h2 => ?_)
    · obtain ⟨i, rfl⟩ := mem_int hx
      simp only [tSeq, tNext, tRet, tRetN, tAsg, gName, gSub, tDrop, tIfS, tOp, tUn, tCB, tCons, tNil, tC, tVar, rI, rI0, rU, tAnd, tOr, tNot, tAndV, tOrV, tNotV, tIf, tTest, tB, tCall, tChain, tLst, tTup, tYes, rIxH, rIxU, rLenH, rLenU, rLenS, rInt1, rSetL, rEq, rNe, rCat, L2.start, List.map, List.length, List.length_cons, List.length_nil, List.replicate, List.getElem?_cons_zero, List.getElem?_cons_succ, List.set_cons_zero, List.set_cons_succ, List.set_nil, List.cons_append, List.nil_append, List.append_nil, Option.some.injEq, V.int.injEq, V.ref.injEq, V.str.injEq, V.bl.injEq, HO.lst.injEq, HO.tup.injEq, exists_eq_left', exists_and_left, exists_eq_left, List.cons.injEq, and_true, true_and, and_false, false_and, and_self, reduceCtorEq, exists_false, or_false, false_or, exists_const, at0, at1, at2, at3, at4, at5, ix51, ix52, ix54, upd_same, Nat.reduceAdd, Nat.reduceSub, Nat.zero_add, Int.reduceToNat, Int.reduceLE, Int.reduceLT, decide_eq_true_eq, Bool.not_eq_true, if_true, if_false, Bool.false_eq_true, ite_true, ite_false, Bool.not_true, Bool.not_false, decide_true, decide_false, tFor_eq, tLc_eq, iList, iTup, iRng1, iRng2, iStr, tSl, tPart, tNoPart, rSlL, cxOf_K, wipe]
      exact h1 H2 (Same.refl _) rfl
    · have h2 : H2 D = some (.lst (ns.map V.int)) := by
        rw [h2, List.map_id, List.filter_eq_self.mpr fun _ _ => rfl]
      have sm : Same H H2 := (same_new hp).trans s2
      refine ⟨D, rfl, ⟨_, SqL.of h2⟩, for_go (walk_list (K := K) (xs := ns.map V.int)) (fun i σ H' => H' = H2 ∧ ∃ (z : Int) (v : Option V), σ = [some (.ref a), some (.ref D), some (.int z), v] ∧ 0 ≤ z ∧ z < 2147483647) ⟨rfl, 11, _, rfl, by decide, by decide⟩ (fun i σ H' _ q => by rw [q.1]; exact SqL.of h2) (fun i x σ H' hx q => ?_) (fun σ H' q => ?_)⟩
      · obtain ⟨rfl, z, v, rfl, z0, z1⟩ := q
        obtain ⟨u, rfl⟩ := mem_int (List.mem_of_getElem? hx)
        simp only [tSeq, tNext, tRet, tRetN, tAsg, gName, gSub, tDrop, tIfS, tOp, tUn, tCB, tCons, tNil, tC, tVar, rI, rI0, rU, tAnd, tOr, tNot, tAndV, tOrV, tNotV, tIf, tTest, tB, tCall, tChain, tLst, tTup, tYes, rIxH, rIxU, rLenH, rLenU, rLenS, rInt1, rSetL, rEq, rNe, rCat, L2.start, List.map, List.length, List.length_cons, List.length_nil, List.replicate, List.getElem?_cons_zero, List.getElem?_cons_succ, List.set_cons_zero, List.set_cons_succ, List.set_nil, List.cons_append, List.nil_append, List.append_nil, Option.some.injEq, V.int.injEq, V.ref.injEq, V.str.injEq, V.bl.injEq, HO.lst.injEq, HO.tup.injEq, exists_eq_left', exists_and_left, exists_eq_left, List.cons.injEq, and_true, true_and, and_false, false_and, and_self, reduceCtorEq, exists_false, or_false, false_or, exists_const, at0, at1, at2, at3, at4, at5, ix51, ix52, ix54, upd_same, Nat.reduceAdd, Nat.reduceSub, Nat.zero_add, Int.reduceToNat, Int.reduceLE, Int.reduceLT, decide_eq_true_eq, Bool.not_eq_true, if_true, if_false, Bool.false_eq_true, ite_true, ite_false, Bool.not_true, Bool.not_false, decide_true, decide_false, tFor_eq, tLc_eq, iList, iTup, iRng1, iRng2, iStr, tSl, tPart, tNoPart, rSlL, cxOf_K, wipe]
        exact ⟨wide_mul (a := 31) (b := 16) (nat_lt_of (m := 2147483648) z0 (by omega) (by decide)) (by decide) (by decide) (by decide) (by decide), _, _, ⟨rfl, rfl⟩, Int.emod_nonneg _ (by decide), Int.emod_lt_of_pos _ (by decide)⟩
      · obtain ⟨rfl, z, v, rfl, z0, z1⟩ := q
        simp only [tSeq, tNext, tRet, tRetN, tAsg, gName, gSub, tDrop, tIfS, tOp, tUn, tCB, tCons, tNil, tC, tVar, rI, rI0, rU, tAnd, tOr, tNot, tAndV, tOrV, tNotV, tIf, tTest, tB, tCall, tChain, tLst, tTup, tYes, rIxH, rIxU, rLenH, rLenU, rLenS, rInt1, rSetL, rEq, rNe, rCat, L2.start, List.map, List.length, List.length_cons, List.length_nil, List.replicate, List.getElem?_cons_zero, List.getElem?_cons_succ, List.set_cons_zero, List.set_cons_succ, List.set_nil, List.cons_append, List.nil_append, List.append_nil, Option.some.injEq, V.int.injEq, V.ref.injEq, V.str.injEq, V.bl.injEq, HO.lst.injEq, HO.tup.injEq, exists_eq_left', exists_and_left, exists_eq_left, List.cons.injEq, and_true, true_and, and_false, false_and, and_self, reduceCtorEq, exists_false, or_false, false_or, exists_const, at0, at1, at2, at3, at4, at5, ix51, ix52, ix54, upd_same, Nat.reduceAdd, Nat.reduceSub, Nat.zero_add, Int.reduceToNat, Int.reduceLE, Int.reduceLT, decide_eq_true_eq, Bool.not_eq_true, if_true, if_false, Bool.false_eq_true, ite_true, ite_false, Bool.not_true, Bool.not_false, decide_true, decide_false, tFor_eq, tLc_eq, iList, iTup, iRng1, iRng2, iStr, tSl, tPart, tNoPart, rSlL, cxOf_K, wipe]
        refine ⟨by decide, fun q hq => ?_⟩
        have nq : D ≠ q := ne_of_none h2 hq
        exact k q D _ ⟨ns, 0, 0, z, 0, upd_same, by rw [upd_ne nq]; exact h2, by omega, nl, by omega, by omega, z0, z1⟩ (sm.free hq) hDn (sm.trans (same_new hq))
end



/-! ### kinds of things -/
def kdO : Option HO → String
  | some (.lst _) => "list"
  | some (.tup _) => "tuple"
  | some (.dK _) => "dict"
  | _ => "?"
def kd (H : Hp) : V → String
  | .non => "NoneType"
  | .bl _ => "bool"
  | .int _ => "int"
  | .str _ => "str"
  | .ref a => kdO (H a)
  | _ => "?"
theorem kd_non {H : Hp} : kd H .non = "NoneType" := rfl
theorem kd_bl {H : Hp} {b : Bool} : kd H (.bl b) = "bool" := rfl
theorem kd_int {H : Hp} {i : Int} : kd H (.int i) = "int" := rfl
theorem kd_str {H : Hp} {z : Str} : kd H (.str z) = "str" := rfl
theorem kd_ref {H : Hp} {a : Addr} : kd H (.ref a) = kdO (H a) := rfl
theorem kdO_lst {xs : List V} : kdO (some (.lst xs)) = "list" := rfl
theorem kdO_tup {xs : List V} : kdO (some (.tup xs)) = "tuple" := rfl
theorem kdO_dK {kvs : List (Key × V)} : kdO (some (.dK kvs)) = "dict" := rfl
theorem nq_n : "NoneType" ≠ "?" := by decide
theorem nq_b : "bool" ≠ "?" := by decide
theorem nq_i : "int" ≠ "?" := by decide
theorem nq_s : "str" ≠ "?" := by decide
theorem nq_l : "list" ≠ "?" := by decide
theorem nq_t : "tuple" ≠ "?" := by decide
theorem nq_d : "dict" ≠ "?" := by decide
theorem kd_ty {K : PySem.W.Frag} {H : Hp} {v : V} (h : kd H v ≠ "?") : TyX K H v (.type (kd H v)) := by
  cases v with
  | non => exact .base .non
  | bl b => exact .base (.bl b)
  | int i => exact .base (.int i)
  | str z => exact .base (.str z)
  | byt b => exact absurd rfl h
  | flt b => exact absurd rfl h
  | ty n => exact absurd rfl h
  | ref a =>
    have h : kdO (H a) ≠ "?" := h
    show TyX K H (.ref a) (.type (kdO (H a)))
    cases e : H a with
    | none => rw [e] at h; exact absurd rfl h
    | some o =>
      rw [e] at h
      cases o with
      | lst xs => exact .base (.lst e)
      | tup xs => exact .base (.tup e)
      | dK kvs => exact .base (.dK e)
      | _ => exact absurd rfl h
def kitAnyB (t : String) : List String → Option Bool
  | [] => some false
  | c :: r => match kitB t c with
    | some true => some true
    | some false => kitAnyB t r
    | none => none
theorem kitAnyB_ok {K : PySem.W.Frag} {t : String} : ∀ {cs : List String} {b : Bool}, kitAnyB t cs = some b → PySem.W.kitAny K (.type t) (cs.map Value.type) = some b
  | [], b, h => h
  | c :: r, b, h => by
    unfold kitAnyB at h
    show PySem.W.kitAny K (.type t) (Value.type c :: r.map Value.type) = some b
    unfold PySem.W.kitAny
    cases e : kitB t c with
    | none => rw [e] at h; cases h
    | some d =>
      rw [kit_ty e]
      rw [e] at h
      cases d with
      | true => exact h
      | false => exact kitAnyB_ok h
theorem clsV_all : ∀ (cs : List String), Paired ClsV (cs.map V.ty) (cs.map Value.type)
  | [] => .nil
  | c :: r => .cons (.ty c) (clsV_all r)
section
variable {X : Cx}
/-- isinstance(x, T), T a built-in class; a tuple of such -/
def rIsB : List V → Hp → VK → Prop := fun vs H Q => ∃ x T b, vs = [x, .ty T] ∧ kd H x ≠ "?" ∧ kitB (kd H x) T = some b ∧ Q (.bl b) H
theorem call_isB : CallR X (.builtin "isinstance") rIsB := fun pins s σ H xs us Q I r h => by
  obtain ⟨x, T, b, h1, h2, h3, h4⟩ := h
  exact call_isi pins s σ H xs us Q I r ⟨x, .ty T, _, _, b, h1, .ty T, kd_ty h2, kit_ty h3, h4⟩
def rIsBT : List V → Hp → VK → Prop := fun vs H Q => ∃ x p ts cs b, vs = [x, .ref p] ∧ H p = some (.tup ts) ∧ ts = List.map V.ty cs ∧ kd H x ≠ "?" ∧ kitAnyB (kd H x) cs = some b ∧ Q (.bl b) H
theorem call_isBT : CallR X (.builtin "isinstance") rIsBT := fun pins s σ H xs us Q I r h => by
  obtain ⟨x, p, ts, cs, b, h1, h2, rfl, h3, h4, h5⟩ := h
  exact call_isiT pins s σ H xs us Q I r ⟨x, p, _, _, _, b, h1, h2, clsV_all cs, kd_ty h3, kitAnyB_ok h4, h5⟩
theorem ex_ty2 {a b : String} {P : List String → Prop} : (∃ cs, [V.ty a, V.ty b] = List.map V.ty cs ∧ P cs) ↔ P [a, b] := by
  constructor
  · rintro ⟨cs, h, p⟩
    match cs, h with
    | [c, d], h =>
      injection h with h1 h2
      injection h1 with h1
      injection h2 with h2 _
      injection h2 with h2
      subst h1 h2
      exact p
  · exact fun p => ⟨[a, b], rfl, p⟩
def rMulS : R2 := fun x y H Q => ∃ z n, x = .str z ∧ y = .int n ∧ MulOk z n ∧ Q (.str (Txt.mul z n)) H
theorem op_mul_str : OpR X (binaryOp .Mult) rMulS := fun pins s σ H x y v u Q I rx ry h => by
  obtain ⟨z, n, rfl, rfl, h1, q⟩ := h
  obtain ⟨t, rfl⟩ := rx
  obtain ⟨t', rfl⟩ := ry
  exact PySem.SB.mul h1 fun t2 k => ⟨.str _, H, I.tok k, ⟨_, rfl⟩, q⟩
end
theorem kit_ss : kitB "str" "str" = some true := by decide +kernel
theorem kit_ns : kitB "NoneType" "str" = some false := by decide +kernel
theorem kit_bs : kitB "bool" "str" = some false := by decide +kernel
theorem kit_is : kitB "int" "str" = some false := by decide +kernel
theorem kit_ls : kitB "list" "str" = some false := by decide +kernel
theorem kit_ts : kitB "tuple" "str" = some false := by decide +kernel
theorem kit_ds : kitB "dict" "str" = some false := by decide +kernel
theorem kit_bb : kitB "bool" "bool" = some true := by decide +kernel
theorem kit_LTl : kitAnyB "list" ["list", "tuple"] = some true := by decide +kernel
theorem kit_LTt : kitAnyB "tuple" ["list", "tuple"] = some true := by decide +kernel
theorem kit_LTd : kitAnyB "dict" ["list", "tuple"] = some false := by decide +kernel
theorem kit_LTs : kitAnyB "str" ["list", "tuple"] = some false := by decide +kernel
theorem kit_LTn : kitAnyB "NoneType" ["list", "tuple"] = some false := by decide +kernel
theorem kit_LTb : kitAnyB "bool" ["list", "tuple"] = some false := by decide +kernel
theorem kit_LTi : kitAnyB "int" ["list", "tuple"] = some false := by decide +kernel
/-- a small text -/
def Sm (z : Str) : Prop := z.length ≤ 1000 ∧ ∀ c ∈ z.cps.toList, c < 128
/-- a thing that the laws hand about -/
inductive Thg (H : Hp) : V → Prop
  | non : Thg H .non
  | bl (b : Bool) : Thg H (.bl b)
  | int (i : Int) : Thg H (.int i)
  | str {z : Str} (h : Sm z) : Thg H (.str z)
  | lst {a : Addr} {xs : List V} (e : H a = some (.lst xs)) : Thg H (.ref a)
  | tup {a : Addr} {xs : List V} (e : H a = some (.tup xs)) : Thg H (.ref a)
  | dic {a : Addr} {kvs : List (Key × V)} (e : H a = some (.dK kvs)) : Thg H (.ref a)
theorem Thg.mono {H H' : Hp} {v : V} (s : Same H H') (h : Thg H v) : Thg H' v := by
  cases h with
  | non => exact .non
  | bl b => exact .bl b
  | int i => exact .int i
  | str h => exact .str h
  | lst e => exact .lst (s _ _ e)
  | tup e => exact .tup (s _ _ e)
  | dic e => exact .dic (s _ _ e)
def codeOf : V → Nat
  | .str z => z.cps.toList.headD 0
  | _ => 0
theorem codeOf_sgn {c : Nat} : codeOf (sgn c) = c := rfl
theorem mem_sgn {x : V} {l : List Nat} (h : x ∈ l.map sgn) : ∃ c, c ∈ l ∧ x = sgn c := by
  obtain ⟨c, h1, h2⟩ := List.mem_map.mp h
  exact ⟨c, h1, h2.symm⟩
theorem filter_all {α : Type} {l : List α} : l.filter (fun _ => true) = l := List.filter_eq_self.mpr fun _ _ => rfl
theorem size1000 {n : Nat} (h : n ≤ 1000) : n ≤ sizeLine := Nat.le_trans h (by decide)
theorem lt1p {a b : Nat} : ([a] < [b]) ↔ a < b := by
  refine ⟨fun h => ?_, fun h => List.cons_lt_cons_iff.mpr (.inl h)⟩
  rcases List.cons_lt_cons_iff.mp h with h | ⟨_, h⟩
  · exact h
  · exact absurd h (List.not_lt_nil _)
section
variable {X : Cx}
/-- a list == [] -/
def rEqNil : R2 := fun x y H Q => ∃ a b xs ys, x = .ref a ∧ y = .ref b ∧ H a = some (.lst xs) ∧ H b = some (.lst ys) ∧ ys = [] ∧ Q (.bl xs.isEmpty) H
theorem op_eqNil (hu : X.A.units + 64 < cLine) : OpR X (compareOp .Eq) rEqNil := fun pins s σ H x y v u Q I rx ry h => by
  obtain ⟨a, b, xs, ys, rfl, rfl, ha, hb, rfl, q⟩ := h
  cases rx
  cases ry
  obtain ⟨its, r, pl, hz⟩ := I.list (SqL.of ha)
  obtain ⟨its2, r2, pl2, hz2⟩ := I.list (SqL.of hb)
  have hl := r.length
  have hl2 := r2.length
  have hu' : X.A.units < cLine := by omega
  cases xs with
  | nil =>
    have e1 : its = [] := List.eq_nil_of_length_eq_zero hl.symm
    have e2 : its2 = [] := List.eq_nil_of_length_eq_zero hl2.symm
    subst e1 e2
    exact SeqAt.eq_listAt (e := fun _ => true) pl.isList pl2.isList rfl hu' (fun j h1 _ => absurd h1 (by simp)) ⟨.bl true, H, I, rfl, q⟩
  | cons x r' =>
    refine SeqAt.eq_list_lengthsAt pl.isList pl2.isList ?_ hu' ⟨.bl false, H, I, rfl, q⟩
    simp only [List.size_toArray, ← hl, ← hl2, List.length_cons, List.length_nil]
    simp
end

/-! ### the world of a law: the pool, and what is known beside it -/
def OffS (p l : Addr) (H H' : Hp) : Prop := ∀ b o, b ≠ p → b ≠ l → H b = some o → H' b = some o
theorem OffS.refl {p l : Addr} {H : Hp} : OffS p l H H := fun _ _ _ _ h => h
theorem OffS.trans {p l : Addr} {H H1 H2 : Hp} (a : OffS p l H H1) (b : OffS p l H1 H2) : OffS p l H H2 := fun x o h1 h2 h => b x o h1 h2 (a x o h1 h2 h)
theorem Off.s {p l : Addr} {H H' : Hp} (h : Off p l H H') : OffS p l H H' := fun b o h1 h2 e => by rw [h b h1 h2]; exact e
theorem same_off {p l : Addr} {H H' : Hp} (h : Same H H') : OffS p l H H' := fun b o _ _ e => h b o e
theorem PoolAt.mono {p l : Addr} {c c' : Nat} {H : Hp} (h : PoolAt p l c H) (hc : c ≤ c') : PoolAt p l c' H := by
  obtain ⟨ns, t, n, z, y, h1, h2, h3, h4, h5, h6, h7⟩ := h
  exact ⟨ns, t, n, z, y, h1, h2, h3, h4, h5, by omega, h7⟩
theorem PoolAt.same {p l : Addr} {c : Nat} {H H' : Hp} (s : Same H H') (h : PoolAt p l c H) : PoolAt p l c H' := by
  obtain ⟨ns, t, n, z, y, h1, h2, h3⟩ := h
  exact ⟨ns, t, n, z, y, s _ _ h1, s _ _ h2, h3⟩
theorem PoolAt.np {p l : Addr} {c : Nat} {H : Hp} {q : Addr} (h : PoolAt p l c H) (hq : H q = none) : q ≠ p ∧ q ≠ l := by
  obtain ⟨ns, t, n, z, y, h1, h2, h3⟩ := h
  exact ⟨(ne_of_none h1 hq).symm, (ne_of_none h2 hq).symm⟩
/-- G: what is known, all of it in H, nothing of it the pool's -/
structure Wd (p l : Addr) (c : Nat) (G H : Hp) : Prop where
  pool : PoolAt p l c H
  kn : Same G H
  gp : G p = none
  gl : G l = none
theorem Wd.mono {p l : Addr} {c c' : Nat} {G H : Hp} (h : Wd p l c G H) (hc : c ≤ c') : Wd p l c' G H := ⟨h.pool.mono hc, h.kn, h.gp, h.gl⟩
theorem Wd.ne {p l : Addr} {c : Nat} {G H : Hp} (h : Wd p l c G H) {b : Addr} {o : HO} (e : G b = some o) : b ≠ p ∧ b ≠ l := ⟨ne_of_none e h.gp, ne_of_none e h.gl⟩
/-- all but the pool kept, the pool as it is now -/
theorem Wd.turn {p l : Addr} {c c' : Nat} {G H H' : Hp} (h : Wd p l c G H) (hp : PoolAt p l c' H') (off : OffS p l H H') : Wd p l c' G H' :=
  ⟨hp, fun b o e => off b o (h.ne e).1 (h.ne e).2 (h.kn b o e), h.gp, h.gl⟩
theorem Wd.same {p l : Addr} {c : Nat} {G H H' : Hp} (h : Wd p l c G H) (s : Same H H') : Wd p l c G H' := h.turn (h.pool.same s) (same_off s)
theorem Wd.add {p l : Addr} {c : Nat} {G H H' : Hp} {q : Addr} {o : HO} (h : Wd p l c G H) (s : OffS p l H H') (hp : PoolAt p l c H') (hq : H q = none) (e : H' q = some o) : Wd p l c (upd G q o) H' := by
  have n := h.pool.np hq
  refine ⟨hp, fun b u hb => ?_, by rw [upd_ne n.1.symm]; exact h.gp, by rw [upd_ne n.2.symm]; exact h.gl⟩
  by_cases hbq : b = q
  · subst hbq
    rw [upd_same] at hb
    rw [← Option.some.inj hb]
    exact e
  · rw [upd_ne hbq] at hb
    exact (h.turn hp s).kn b u hb
theorem Wd.new {p l : Addr} {c : Nat} {G H : Hp} {q : Addr} {o : HO} (h : Wd p l c G H) (hq : H q = none) : Wd p l c (upd G q o) (upd H q o) :=
  h.add (same_off (same_new hq)) (h.pool.same (same_new hq)) hq upd_same
theorem Wd.free {p l : Addr} {c : Nat} {G H : Hp} {q : Addr} (h : Wd p l c G H) (hq : H q = none) : G q = none := h.kn.free hq
theorem Wd.alloc {p l : Addr} {c : Nat} {G H H1 : Hp} {q : Addr} {o : HO} (h : Wd p l c G H) (hq : H q = none) (s : Same H H1) (e : H1 q = some o) : ∃ G1, Wd p l c G1 H1 ∧ Same G G1 ∧ G1 q = some o :=
  ⟨_, h.add (same_off s) (h.pool.same s) hq e, same_new (h.free hq), upd_same⟩
/-- what has come: more is known, all but the pool is kept, what is newly known was free -/
structure Gw (p l : Addr) (G H G' H' : Hp) : Prop where
  gg : Same G G'
  off : OffS p l H H'
  fr : ∀ b o, G' b = some o → G b = some o ∨ H b = none
theorem Gw.refl {p l : Addr} {G H : Hp} : Gw p l G H G H := ⟨Same.refl _, OffS.refl, fun _ _ h => .inl h⟩
theorem Gw.trans {p l : Addr} {c : Nat} {G H G1 H1 G2 H2 : Hp} (a : Gw p l G H G1 H1) (w1 : PoolAt p l c H1) (b : Gw p l G1 H1 G2 H2) : Gw p l G H G2 H2 := by
  refine ⟨a.gg.trans b.gg, a.off.trans b.off, fun x o h => ?_⟩
  rcases b.fr x o h with h1 | h1
  · exact a.fr x o h1
  · refine .inr ?_
    cases q : H x with
    | none => rfl
    | some u =>
      have n := w1.np h1
      rw [a.off x u n.1 n.2 q] at h1
      cases h1
theorem Gw.same {p l : Addr} {G H H' : Hp} (s : Same H H') : Gw p l G H G H' := ⟨Same.refl _, same_off s, fun _ _ h => .inl h⟩
theorem Gw.of {p l : Addr} {G H H' : Hp} (s : OffS p l H H') : Gw p l G H G H' := ⟨Same.refl _, s, fun _ _ h => .inl h⟩
theorem Gw.add {p l : Addr} {G H H' : Hp} {q : Addr} {o : HO} (s : OffS p l H H') (hq : H q = none) (hg : G q = none) : Gw p l G H (upd G q o) H' := by
  refine ⟨same_new hg, s, fun b u h => ?_⟩
  by_cases e : b = q
  · subst e
    exact .inr hq
  · rw [upd_ne e] at h
    exact .inl h
/-- a comprehension whose turns draw: at most k draws a turn, each item is as Pz says -/
theorem lc_pool {J : It} {xs : List V} {Gd : Hp → Prop} (w : Walk J xs.length Gd (YAt xs)) {g : TG} {tt : TT} {te : TE} {vs : List Nat} {σ : St} {D : Addr} {Q : VK} {H1 G : Hp} {p l : Addr} {c k : Nat} (Pz : V → Hp → Prop) (hmono : ∀ v G G', Same G G' → Pz v G → Pz v G')
    (hw : Wd p l c G H1) (hD : H1 D = none) (hGd : ∀ H, OffS p l H1 H → Gd H) (hz : xs.length ≤ 100000)
    (turn : ∀ x, x ∈ xs → ∀ G2 H2 c2, Gw p l G H1 G2 H2 → Wd p l c2 G2 H2 → c2 ≤ c + k * xs.length → ∀ (R : VK) (R0 : Hp → Prop), (∀ v G3 H3, Pz v G3 → Wd p l (c2 + k) G3 H3 → Gw p l G2 H2 G3 H3 → R v H3) → g x (wipe σ vs) H2 fun σ2 H3 => wipe σ2 vs = wipe σ vs ∧ tt σ2 H3 fun b H4 => if b = true then te σ2 H4 R else R0 H4)
    (done : ∀ acc G' H', acc.length = xs.length → (∀ v ∈ acc, Pz v G') → Gw p l G H1 G' H' → Wd p l (c + k * xs.length) G' H' → G' D = some (.lst acc) → Q (.ref D) H') : lcGo J g tt te vs σ D Q H1 := by
  have nD := hw.pool.np hD
  have offD : ∀ {H2 H3 : Hp} {o : HO}, OffS p l H1 H2 → OffS p l H2 H3 → OffS p l H1 (upd H3 D o) := fun a b x o h1 h2 e => by
    rw [upd_ne (ne_of_none e hD)]
    exact b x o h1 h2 (a x o h1 h2 e)
  refine lc_it w (fun i H => ∃ G' acc, acc.length = i ∧ (∀ v ∈ acc, Pz v G') ∧ Gw p l G H1 G' H ∧ Wd p l (c + k * i) G' H ∧ G' D = none ∧ H D = some (.lst acc)) ?_ (fun i H _ q => ?_) (fun i x H H' hi q y => ?_) (fun H q => ?_)
  · exact ⟨G, [], rfl, fun _ h => (nomatch h), Gw.same (same_new hD), (hw.same (same_new hD)), hw.free hD, upd_same⟩
  · obtain ⟨G', acc, _, _, gw, _⟩ := q
    exact hGd H gw.off
  · obtain ⟨rfl, hx⟩ := y
    obtain ⟨G2, acc, ha, hP, gw, hw2, gD, hacc⟩ := q
    have hk : k * i ≤ k * xs.length := Nat.mul_le_mul_left k (by omega)
    refine turn x (List.mem_of_getElem? hx) G2 _ (c + k * i) gw hw2 (by omega) _ _ fun v G3 H3 hv hw3 g3 => ?_
    have hD3 : H3 D = some (.lst acc) := g3.off D _ nD.1 nD.2 hacc
    have gD3 : G3 D = none := by
      cases e : G3 D with
      | none => rfl
      | some o =>
        rcases g3.fr D o e with h | h
        · rw [gD] at h; cases h
        · rw [hacc] at h; cases h
    have gw3 : Gw p l G H1 G3 H3 := gw.trans hw2.pool g3
    refine ⟨acc, hD3, Nat.lt_of_le_of_lt (m := 100000) (by omega) (by decide), G3, acc ++ [v], by rw [List.length_append, ha]; rfl, fun u hu => ?_, ⟨gw3.gg, offD gw3.off OffS.refl, gw3.fr⟩, ?_, gD3, upd_same⟩
    · rcases List.mem_append.mp hu with h | h
      · exact hmono u _ _ g3.gg (hP u h)
      · rw [List.mem_singleton.mp h]
        exact hv
    · have e : c + k * (i + 1) = c + k * i + k := by rw [Nat.mul_add, Nat.mul_one, Nat.add_assoc]
      rw [e]
      obtain ⟨ns, t, n, z, y, h1, h2, h3⟩ := hw3.pool
      refine ⟨⟨ns, t, n, z, y, by rw [upd_ne nD.1.symm]; exact h1, by rw [upd_ne nD.2.symm]; exact h2, h3⟩, fun b o hb => ?_, hw3.gp, hw3.gl⟩
      rw [upd_ne (ne_of_none hb gD3)]
      exact hw3.kn b o hb
  · obtain ⟨G', acc, ha, hP, gw, hw2, gD, hacc⟩ := q
    have sg : Same G' (upd G' D (.lst acc)) := same_new gD
    refine done acc (upd G' D (.lst acc)) H ha (fun v hv => hmono v _ _ sg (hP v hv)) ⟨gw.gg.trans sg, gw.off, fun b o hb => ?_⟩ ⟨hw2.pool, fun b o hb => ?_, by rw [upd_ne nD.1.symm]; exact hw2.gp, by rw [upd_ne nD.2.symm]; exact hw2.gl⟩ upd_same
    · by_cases e : b = D
      · subst e
        exact .inr hD
      · rw [upd_ne e] at hb
        exact gw.fr b o hb
    · by_cases e : b = D
      · subst e
        rw [upd_same] at hb
        rw [← Option.some.inj hb]
        exact hacc
      · rw [upd_ne e] at hb
        exact hw2.kn b o hb
/-! ### data compared -/
theorem dp_strs {K : PySem.W.Frag} {H : Hp} : ∀ (zs : List Str), DpAll K H (zs.map V.str) (zs.map PyData.str)
  | [] => .nil
  | z :: r => .cons (.str z) (dp_strs r)
theorem lay_strs : ∀ (zs : List Str), (∀ z ∈ zs, ∀ c ∈ z.cps.toList, c < 128) → PyData.canLayAll0 (zs.map PyData.str) = true
  | [], _ => rfl
  | z :: r, h => by
    have h1 : PyData.strOk z = true := by
      unfold PyData.strOk
      rw [Array.all_eq_true']
      intro c hc
      exact decide_eq_true (Nat.lt_trans (h z List.mem_cons_self c (by simpa using hc)) (by decide))
    show (PyData.canLay0 (.str z) && PyData.canLayAll0 (r.map PyData.str)) = true
    rw [lay_strs r fun y hy => h y (List.mem_cons_of_mem _ hy), Bool.and_true]
    exact h1
theorem dep_strs : ∀ (zs : List Str), PyData.depthAll (zs.map PyData.str) ≤ 1
  | [] => by simp [PyData.depthAll]
  | z :: r => by
    have := dep_strs r
    simp only [List.map_cons, PyData.depthAll, PyData.depth]
    omega
theorem shaped_strs {zs : List Str} (h : ∀ z ∈ zs, ∀ c ∈ z.cps.toList, c < 128) : SeqAt.shaped (.list (zs.map PyData.str)) = true := by
  unfold SeqAt.shaped
  have h1 := dep_strs zs
  have h2 : PyData.canLay0 (.list (zs.map PyData.str)) = true := lay_strs zs h
  rw [h2, Bool.true_and]
  refine decide_eq_true ?_
  simp only [PyData.depth]
  omega
theorem shaped_nil : SeqAt.shaped (.list []) = true := by decide
theorem eqv_nil {ds : List PyData} : PyData.eqv (.list ds) (.list []) = ds.isEmpty := by
  cases ds <;> simp [PyData.eqv, PyData.eqvAll]
theorem strs_of {xs : List V} (h : ∀ x ∈ xs, ∃ z, x = V.str z) : ∃ zs : List Str, xs = zs.map V.str := by
  induction xs with
  | nil => exact ⟨[], rfl⟩
  | cons x r ih =>
    obtain ⟨z, rfl⟩ := h x List.mem_cons_self
    obtain ⟨zs, rfl⟩ := ih fun y hy => h y (List.mem_cons_of_mem _ hy)
    exact ⟨z :: zs, rfl⟩
/-- texts == [] -/
theorem eqD_nil {K : PySem.W.Frag} {H : Hp} {a b : Addr} {zs : List Str} {Q : VK} (ha : H a = some (.lst (zs.map V.str))) (hb : H b = some (.lst [])) (h : ∀ z ∈ zs, ∀ c ∈ z.cps.toList, c < 128) (k : Q (.bl zs.isEmpty) H) : rEqD K (.ref a) (.ref b) H Q := by
  refine ⟨.list (zs.map PyData.str), .list [], .lst (SqL.of ha) (dp_strs zs), .lst (SqL.of hb) .nil, shaped_strs h, shaped_nil, ?_⟩
  rw [eqv_nil]
  cases zs <;> exact k
theorem eqD_nn {K : PySem.W.Frag} {H : Hp} {a b : Addr} {Q : VK} (ha : H a = some (.lst [])) (hb : H b = some (.lst [])) (k : Q (.bl true) H) : rEqD K (.ref a) (.ref b) H Q := eqD_nil (zs := []) ha hb (fun _ h => (nomatch h)) k
theorem neD_nn {K : PySem.W.Frag} {H : Hp} {a b : Addr} {Q : VK} (ha : H a = some (.lst [])) (hb : H b = some (.lst [])) (k : Q (.bl false) H) : rNeD K (.ref a) (.ref b) H Q := by
  refine ⟨.list [], .list [], .lst (SqL.of ha) .nil, .lst (SqL.of hb) .nil, shaped_nil, shaped_nil, ?_⟩
  rw [eqv_nil]
  exact k
/-! ### texts -/
theorem join_sm {ys : List Str} (h1 : ∀ y ∈ ys, y.length = 1) (h2 : ∀ y ∈ ys, ∀ c ∈ y.cps.toList, c < 128) : (Txt.join Str.empty ys).length ≤ ys.length ∧ ∀ c ∈ (Txt.join Str.empty ys).cps.toList, c < 128 := by
  have e : Txt.join Str.empty ys = Str.join Str.empty ys := StrLaws.glued_eq_join _ _
  rw [e]
  refine ⟨?_, fun c hc => ?_⟩
  · refine Nat.le_trans (StrLaws.join_length_le _ _) ?_
    have e2 : ys.map (·.length) = ys.map (fun _ => 1) := List.map_congr_left h1
    rw [e2, List.map_const', List.sum_replicate_nat]
    show ys.length * 1 + ys.length * 0 ≤ ys.length
    omega
  · rcases (PyProof.Rows.mem_join _ c ys).mp hc with ⟨t, ht, h⟩ | ⟨_, h⟩
    · exact h2 t ht c h
    · exact absurd (show c ∈ ([] : List Nat) from h) List.not_mem_nil
theorem at_of' {α : Type} {xs : List α} {z : Int} {j : Nat} {v : α} (e : z = (j : Int)) (h : xs[j]? = some v) : atI xs z = some v := by
  rw [e]
  exact atI_nat h
theorem atI_ex {α : Type} {xs : List α} {i : Int} (h0 : 0 ≤ i) (h1 : i < (xs.length : Int)) : ∃ v, atI xs i = some v ∧ v ∈ xs ∧ xs[i.toNat]? = some v := by
  have q : i = ((i.toNat : Nat) : Int) := (Int.toNat_of_nonneg h0).symm
  have q2 : i.toNat < xs.length := by omega
  have q3 : xs[i.toNat]? = some xs[i.toNat] := List.getElem?_eq_getElem q2
  exact ⟨xs[i.toNat], at_of' q q3, List.getElem_mem q2, q3⟩
theorem int62 {m : Int} (h0 : 0 ≤ m) (h : m ≤ 100000) : -2 ^ 62 ≤ m ∧ m < 2 ^ 62 := by
  have e : (2 : Int) ^ 62 = 4611686018427387904 := by decide
  omega
theorem wd0 {p l : Addr} {c : Nat} {H : Hp} (h : PoolAt p l c H) : Wd p l c (fun _ => none) H := ⟨h, fun _ _ e => (nomatch e), rfl, rfl⟩
theorem filter_empty {α : Type} {l : List α} {f : α → Bool} : (l.filter fun c => !f c).isEmpty = l.all f := by
  induction l with
  | nil => rfl
  | cons a r ih =>
    rw [List.filter_cons, List.all_cons]
    cases e : f a with
    | true => simpa [e] using ih
    | false => simp [e]
theorem rng_item {lo : Int} {n i : Nat} {x : V} (h : (rngV lo n)[i]? = some x) : x = .int (lo + (i : Int)) ∧ i < n := by
  have hi : i < n := by
    have := (List.getElem?_eq_some_iff.mp h).1
    rw [rngV_len] at this
    exact this
  unfold rngV at h
  rw [List.getElem?_map, List.getElem?_range hi] at h
  exact ⟨(Option.some.inj h).symm, hi⟩
theorem cutS_sm {z : Str} {lo hi : Option Int} (h : ∀ c ∈ z.cps.toList, c < 128) : ∀ c ∈ (cutS z lo hi).cps.toList, c < 128 := fun c hc => by
  unfold cutS at hc
  have hc : c ∈ (z.cps.toList.drop (HT.sIx z.length 0 lo)).take (HT.sIx z.length z.length hi - HT.sIx z.length 0 lo) := by simpa using hc
  exact h c (List.mem_of_mem_drop (List.mem_of_mem_take hc))
theorem app_sm {x y : Str} (h1 : ∀ c ∈ x.cps.toList, c < 128) (h2 : ∀ c ∈ y.cps.toList, c < 128) : ∀ c ∈ (x ++ y).cps.toList, c < 128 := fun c hc => by
  have e : (x ++ y).cps.toList = x.cps.toList ++ y.cps.toList := by
    show (x.cps ++ y.cps).toList = _
    rw [Array.toList_append]
  rw [e] at hc
  rcases List.mem_append.mp hc with h | h
  · exact h1 c h
  · exact h2 c h
theorem app_len {x y : Str} : (x ++ y).length = x.length + y.length := by
  show (x.cps ++ y.cps).size = _
  rw [Array.size_append]
  rfl

/-! ### a Ratio in the heap -/
theorem nox_K {X : Cx} : X.nox.K = X.K := rfl
def tNever : TS := fun _ _ _ => False
theorem ps_never {X : Cx} {st : Stmt} : PS X st tNever := ⟨fun _ _ _ _ _ _ h => h.elim⟩
def rf (q : Rat) : List (Str × V) := [("kept_top", .int q.num), ("kept_bottom", .int q.den)]
theorem kt_kb : ¬ (("kept_bottom" : Str) = "kept_top") := by decide +kernel
theorem rf_top {q : Rat} : (rf q).lookup ("kept_top" : Str) = some (V.int q.num) := by
  unfold rf
  rw [List.lookup_cons_self]
theorem rf_bot {q : Rat} : (rf q).lookup ("kept_bottom" : Str) = some (V.int q.den) := by
  unfold rf
  rw [List.lookup_cons, show (("kept_bottom" : Str) == "kept_top") = false from by simpa using kt_kb]
  rw [List.lookup_cons_self]
theorem rf_no {q : Rat} {m : Str} (h1 : ¬ m = "kept_top") (h2 : ¬ m = "kept_bottom") : (rf q).lookup m = (none : Option V) := by
  unfold rf
  rw [List.lookup_cons, show (m == ("kept_top" : Str)) = false from by simpa using h1]
  rw [List.lookup_cons, show (m == ("kept_bottom" : Str)) = false from by simpa using h2]
  rfl
theorem rf_put {t b : Int} {q : Rat} (h1 : t = q.num) (h2 : b = q.den) : putF "kept_bottom" (.int b) (putF "kept_top" (.int t) []) = rf q := by
  subst h1
  rw [h2]
  show (if ("kept_top" : Str) = "kept_bottom" then _ else (("kept_top" : Str), V.int q.num) :: putF "kept_bottom" (.int q.den) []) = rf q
  rw [if_neg (fun z => kt_kb z.symm)]
  rfl
def RatAt (C : Addr) (H : Hp) (v : V) (q : Rat) (n : Nat) : Prop := (∃ a dx, v = .ref a ∧ H a = some (.ins C dx (rf q))) ∧ Bd n q
def NumAt (C : Addr) (H : Hp) (v : V) (q : Rat) (n : Nat) : Prop := RatAt C H v q n ∨ ((∃ i : Int, v = .int i ∧ q = i) ∧ Bd n q)
theorem RatAt.same {C : Addr} {H H' : Hp} {v : V} {q : Rat} {n : Nat} (h : RatAt C H v q n) (s : Same H H') : RatAt C H' v q n := by
  obtain ⟨⟨a, dx, e, h⟩, b⟩ := h
  exact ⟨⟨a, dx, e, s _ _ h⟩, b⟩
theorem NumAt.same {C : Addr} {H H' : Hp} {v : V} {q : Rat} {n : Nat} (h : NumAt C H v q n) (s : Same H H') : NumAt C H' v q n := by
  rcases h with h | h
  · exact .inl (h.same s)
  · exact .inr h
def mkGo (C : Addr) (sp : Sp) (dvs : List V) (E : XK) (vs : List V) (H1 : Hp) (Q : VK) : Prop := ∀ x dx, H1 x = none → H1 dx = none → dx ≠ x → sp (.ref x :: (vs ++ dvs)) (upd (upd H1 dx (.own x)) x (.ins C dx [])) (fun v H2 => v = .non ∧ Q (.ref x) H2) E
theorem tMake_eq {C : Addr} {sp : Sp} {dvs : List V} {E : XK} {t : TA} {σ : St} {H : Hp} {Q : VK} : tMake C sp dvs E t σ H Q = t σ H fun vs H1 => mkGo C sp dvs E vs H1 Q := rfl
def spInit (C : Addr) : Sp := fun vs H Q _ => ∃ x dx t b, vs = [.ref x, .int t, .int b] ∧ b ≠ 0 ∧ b.natAbs < 2 ^ 9000 ∧ H x = some (.ins C dx []) ∧ Q .non (upd H x (.ins C dx (rf (Rat.divInt t b))))
theorem make_go {C : Addr} {E : XK} {vs dvs : List V} {H : Hp} {Q : VK} {t b : Int} {n : Nat} (e : vs ++ dvs = [.int t, .int b]) (hb : b ≠ 0) (h1 : t.natAbs < 2 ^ n) (h2 : b.natAbs < 2 ^ n) (hn : n ≤ 9000)
    (k : ∀ H' v, Same H H' → RatAt C H' v (Rat.divInt t b) n → Q v H') : mkGo C (spInit C) dvs E vs H Q := by
  intro x dx nx nd ne
  rw [e]
  refine ⟨x, dx, t, b, rfl, hb, abs_mono h2 hn, upd_same, rfl, ?_⟩
  refine k _ _ (fun c o hc => ?_) ⟨⟨x, dx, rfl, upd_same⟩, bd_divInt h1 h2 hb⟩
  have c1 : c ≠ x := fun z => by rw [z, nx] at hc; cases hc
  have c2 : c ≠ dx := fun z => by rw [z, nd] at hc; cases hc
  rw [upd_ne c1, upd_ne c1, upd_ne c2]
  exact hc
theorem mulw {i j : Int} {n m : Nat} (h1 : i.natAbs < 2 ^ n) (h2 : j.natAbs < 2 ^ m) (h : n + m ≤ 20000) : CMulW i j := wide_mul (a := n + 1) (b := m + 1) (abs_mono h1 (by omega)) (abs_mono h2 (by omega)) (by omega) (by omega) (by omega)
theorem mulws {p q : Rat} {n m : Nat} (h1 : Bd n p) (h2 : Bd m q) (h : n + m ≤ 20000) : CMulW p.num q.den ∧ CMulW q.num p.den ∧ CMulW p.den q.den ∧ CMulW p.num q.num ∧ CMulW p.den q.num :=
  ⟨mulw h1.1 (by simpa using h2.2) h, mulw h2.1 (by simpa using h1.2) (by omega), mulw (by simpa using h1.2) (by simpa using h2.2) h, mulw h1.1 h2.1 h, mulw (by simpa using h1.2) h2.1 h⟩
theorem den_ne (p : Rat) : (p.den : Int) ≠ 0 := by have := p.den_nz; omega
theorem den_lt {p : Rat} {n : Nat} (h : Bd n p) : (p.den : Int).natAbs < 2 ^ n := by simpa using h.2
/-! ### promises -/
def tys (C : Addr) : List Value := [.type "int", .type "bool", .type "str", .type "list", .type "tuple", .type "dict", .type "NoneType", .ref C]
def spIsInt (C : Addr) : Sp := fun vs H Q _ => ∃ v t, vs = [v] ∧ tyV H v = some t ∧ t ∈ tys C ∧ Q (.bl (decide (t = .type "int"))) H
def spIsNum (C : Addr) : Sp := fun vs H Q _ => ∃ v t, vs = [v] ∧ tyV H v = some t ∧ t ∈ tys C ∧ Q (.bl (decide (t = .type "int") || decide (t = .ref C))) H
def spGcd : Sp := fun vs H Q _ => ∃ t b : Int, vs = [.int t, .int b] ∧ 0 ≤ b ∧ Q (.int (Int.gcd t b : Nat)) H
def spOf (C : Addr) : Sp := fun vs H Q _ => ∃ v q n, vs = [v] ∧ NumAt C H v q n ∧ n ≤ 9000 ∧ ∀ H' v', Same H H' → RatAt C H' v' q n → Q v' H'
def spBin (C : Addr) (f : Rat → Rat → Rat) : Sp := fun vs H Q _ => ∃ x y p q n m, vs = [x, y] ∧ RatAt C H x p n ∧ NumAt C H y q m ∧ n + m + 1 ≤ 9000 ∧ ∀ H' v, Same H H' → RatAt C H' v (f p q) (n + m + 1) → Q v H'
def spRBin (C : Addr) (f : Rat → Rat → Rat) : Sp := fun vs H Q _ => ∃ (x : V) (i : Int) (p : Rat) (n m : Nat), vs = [x, .int i] ∧ RatAt C H x p n ∧ Bd m i ∧ n + m + 1 ≤ 9000 ∧ ∀ H' v, Same H H' → RatAt C H' v (f i p) (n + m + 1) → Q v H'
def spUn (C : Addr) (f : Rat → Rat) : Sp := fun vs H Q _ => ∃ x p n, vs = [x] ∧ RatAt C H x p n ∧ n ≤ 9000 ∧ ∀ H' v, Same H H' → RatAt C H' v (f p) n → Q v H'
def spCmp (C : Addr) (r : Rat → Rat → Bool) : Sp := fun vs H Q _ => ∃ x y p q n m, vs = [x, y] ∧ RatAt C H x p n ∧ NumAt C H y q m ∧ n + m ≤ 9000 ∧ ∀ H', Same H H' → Q (.bl (r p q)) H'
def spCmpA (C : Addr) (r : Rat → Rat → Bool) (b0 : Bool) : Sp := fun vs H Q E => spCmp C r vs H Q E ∨ ∃ x y t, vs = [x, y] ∧ tyV H y = some t ∧ t ∈ tys C ∧ t ≠ .type "int" ∧ t ≠ .ref C ∧ Q (.bl b0) H
def spDiv (C : Addr) : Sp := fun vs H Q _ => ∃ x y p q n m, vs = [x, y] ∧ RatAt C H x p n ∧ NumAt C H y q m ∧ q ≠ 0 ∧ n + m + 1 ≤ 9000 ∧ ∀ H' v, Same H H' → RatAt C H' v (p / q) (n + m + 1) → Q v H'
def spMid (C : Addr) : Sp := fun vs H Q _ => ∃ x y p q n m, vs = [x, y] ∧ RatAt C H x p n ∧ RatAt C H y q m ∧ n + m + 10 ≤ 9000 ∧ ∀ H' v, Same H H' → RatAt C H' v ((p + q) / 2) (n + m + 4) → Q v H'
def spTru (C : Addr) : Sp := fun vs H Q _ => ∃ x p n, vs = [x] ∧ RatAt C H x p n ∧ Q (.bl (decide (p ≠ 0))) H
section
variable {P : Program} {w : World} {K : PySem.W.Frag} {mg : Str → Option Value} {base : Heap} {A : Adr}
theorem ok_isint (T : Txt K mg A) : FnOk P w K mg base CX0 1 A.a_IsInteger A.d_IsInteger ["value"] (spIsInt A.k_Ratio) := by
  refine T.f_IsInteger.ok scIsInteger (fun vs H Q E h => ?_) (fun cdv A' outer s H vs Q E hr h => ?_)
  · obtain ⟨v, t, rfl, _⟩ := h
    rfl
  · obtain ⟨v, t, rfl, ht, hm, k⟩ := h
    refine ⟨_, (pss_one (ps_ret (pe_and (pe_callB call_isW (by rfl) T.z_isinstance (by decide +kernel) (pa_cons (pv 0) (pa_cons (pe_bltn (v := .ty "int") (by rfl) T.z_int (by decide +kernel) rfl) pa_nil))) (pe_one (pe_not (pe_callB call_isW (by rfl) T.z_isinstance (by decide +kernel) (pa_cons (pv 0) (pa_cons (pe_bltn (v := .ty "bool") (by rfl) T.z_bool (by decide +kernel) rfl) pa_nil)))))))), ?_⟩
    have e1 : PySem.W.kitOne K (.type "int") (.type "int") = some true := kit_self
    have e2 : PySem.W.kitOne K (.type "int") (.type "bool") = some false := kit_ty (by decide +kernel)
    have e3 : PySem.W.kitOne K (.type "bool") (.type "int") = some true := kit_ty (by decide +kernel)
    have e4 : PySem.W.kitOne K (.type "bool") (.type "bool") = some true := kit_self
    have e5 : PySem.W.kitOne K (.type "str") (.type "int") = some false := kit_ty (by decide +kernel)
    have e6 : PySem.W.kitOne K (.type "list") (.type "int") = some false := kit_ty (by decide +kernel)
    have e7 : PySem.W.kitOne K (.type "tuple") (.type "int") = some false := kit_ty (by decide +kernel)
    have e8 : PySem.W.kitOne K (.type "dict") (.type "int") = some false := kit_ty (by decide +kernel)
    have e9 : PySem.W.kitOne K (.type "NoneType") (.type "int") = some false := kit_ty (by decide +kernel)
    unfold tys at hm
    rcases (by simpa using hm) with rfl | rfl | rfl | rfl | rfl | rfl | rfl | rfl
    all_goals (try simp only [tSeq, tNext, tRet, tRetN, tAsg, gName, gSub, tDrop, tIfS, tOp, tUn, tCB, tCons, tNil, tC, tVar, rI, rI0, rU, tAnd, tOr, tNot, tAndV, tOrV, tNotV, tIf, tTest, tB, tCall, tChain, tLst, tTup, tYes, rIxH, rIsB, rIsBT, rMulS, kd_non, kd_bl, kd_int, kd_str, kd_ref, kdO_lst, kdO_tup, kdO_dK, nq_n, nq_b, nq_i, nq_s, nq_l, nq_t, nq_d, ne_eq, not_false_eq_true, kit_ss, kit_ns, kit_bs, kit_is, kit_ls, kit_ts, kit_ds, kit_bb, V.ty.injEq, and_assoc, rIxU, rLenH, rLenU, rLenS, rInt1, rSetL, rEq, rNe, rCat, L2.start, List.map, List.length, List.length_cons, List.length_nil, List.replicate, List.getElem?_cons_zero, List.getElem?_cons_succ, List.set_cons_zero, List.set_cons_succ, List.set_nil, List.cons_append, List.nil_append, List.append_nil, Option.some.injEq, V.int.injEq, V.ref.injEq, V.str.injEq, V.bl.injEq, HO.lst.injEq, HO.tup.injEq, exists_eq_left', exists_and_left, exists_eq_left, List.cons.injEq, and_true, true_and, and_false, false_and, and_self, reduceCtorEq, exists_false, or_false, false_or, exists_const, at0, at1, at2, at3, at4, at5, ix51, ix52, ix54, upd_same, Nat.reduceAdd, Nat.reduceSub, Nat.zero_add, Int.reduceToNat, Int.reduceLE, Int.reduceLT, decide_eq_true_eq, Bool.not_eq_true, if_true, if_false, Bool.false_eq_true, ite_true, ite_false, Bool.not_true, Bool.not_false, decide_true, decide_false, tFor_eq, tLc_eq, iList, iTup, iRng1, iRng2, iStr, tSl, tPart, tNoPart, rSlL, cxOf_K, wipe, ex_ty2, kit_LTl, kit_LTt, kit_LTd, kit_LTs, kit_LTn, kit_LTb, kit_LTi, tM1, rIxS, exists_eq', lt1p, tDNewK, rSlS, rEqNil, nox_K, rIsW, clsV_ty, clsV_ref, ht, e1, e2, e3, e4, e5, e6, e7, e8, e9, T.q_Ratio_int, Value.ref.injEq, forall_eq', T.t_Ratio, implies_true, forall_const, false_implies]; simpa using k)
def GcdP (t b : Int) (H : Hp) : St → Hp → Prop := fun σ H' => ∃ a c : Int, σ = [some (.int t), some (.int b), some (.int a), some (.int c)] ∧ 0 ≤ a ∧ 0 ≤ c ∧ Int.gcd a c = Int.gcd t b ∧ H' = H
def gcdM : St → Hp → Nat := fun σ _ => match σ with
  | [_, _, some (.int a), _] => a.toNat
  | _ => 0
theorem ok_gcd (T : Txt K mg A) : FnOk P w K mg base CX0 1 A.a_CommonDivisor A.d_CommonDivisor ["first", "second"] spGcd := by
  refine T.f_CommonDivisor.ok scCommonDivisor (fun vs H Q E h => ?_) (fun cdv A' outer s H vs Q E hr h => ?_)
  · obtain ⟨t, b, rfl, _⟩ := h
    rfl
  · obtain ⟨t, b, rfl, hb, k⟩ := h
    refine ⟨_, (pss_cons (ps_par (i := 2) (j := 3) (by rfl) scCommonDivisor.nd rfl rfl (by decide) rfl rfl (pa_cons (pe_callB call_abs (by rfl) T.z_abs (by decide +kernel) (pa_cons (pv 0) pa_nil)) (pa_cons (pv 1) pa_nil)) (by rfl))
      (pss_cons (ps_while PassesOwn.never (pt_cmpR (op_gt) (pv 2) pe_int (nomark _)) (pss_one (ps_par (i := 2) (j := 3) (by rfl) scCommonDivisor.nd rfl rfl (by decide) rfl rfl (pa_cons (pe_op op_mod (pv 3) (pv 2)) (pa_cons (pv 2) pa_nil)) (by rfl))))
      (pss_one (ps_ret (pv 3))))), ?_⟩
    refine ⟨_, rfl, _, rfl, _, rfl, _, _, rfl, ?_⟩
    refine while_by (GcdP t b H) gcdM ⟨_, _, rfl, ?_, hb, ?_, rfl⟩ ?_ ?_
    · split <;> omega
    · split
      · rw [Int.neg_gcd]
      · rfl
    · rintro σ H' ⟨a, c, rfl, ha, hc, hg, rfl⟩
      refine ⟨_, rfl, _, _, rfl, rfl, _, rfl, ?_⟩
      show ite (decide (0 < a) = true) _ _
      by_cases h0 : 0 < a
      · rw [if_pos (decide_eq_true h0)]
        refine ⟨_, rfl, _, rfl, _, _, rfl, rfl, h0, _, rfl, _, _, rfl, ?_⟩
        refine ⟨⟨c % a, a, rfl, Int.emod_nonneg _ (by omega), by omega, by rw [gcd_step ha hc]; exact hg, rfl⟩, ?_⟩
        show (c % a).toNat < a.toNat
        have := Int.emod_lt_of_pos c h0
        omega
      · rw [if_neg (by simpa using h0)]
        have a0 : a = 0 := by omega
        subst a0
        refine ⟨_, rfl, ?_⟩
        rw [Int.zero_gcd] at hg
        rw [← hg] at k
        have e : ((c.natAbs : Nat) : Int) = c := by omega
        rw [e] at k
        exact k
    · rintro σ H' Q1 Q2 h ⟨v, e, i, j, e1, e2, l, e3, q⟩
      exact ⟨v, e, i, j, e1, e2, l, e3, h _ _ q⟩
end

/-- one statement at a time: what follows is N -/
theorem seq_gen {t v : TS} {D : Ends} {σ : St} {H : Hp} (h : ∀ N : St → Hp → Prop, (∀ σ H, N σ H = v D σ H) → t { D with nx := N } σ H) : tSeq t v D σ H := h (v D) fun _ _ => rfl
theorem join {J : St → Hp → Prop} {t v : TS} {D : Ends} {σ : St} {H : Hp} (k : ∀ σ H, J σ H → v D σ H) (h : ∀ N : St → Hp → Prop, (∀ σ H, J σ H → N σ H) → t { D with nx := N } σ H) : tSeq t v D σ H := h (v D) k
theorem ty_same {H H' : Hp} {v : V} {t : Value} (s : Same H H') (h : tyV H v = some t) : tyV H' v = some t := by
  cases v with
  | ref a =>
    have h : tyO (H a) = some t := h
    show tyO (H' a) = some t
    cases e : H a with
    | none => rw [e] at h; cases h
    | some o => rw [s _ _ e, ← e]; exact h
  | _ => exact h
/-- where a new tuple is told, the pool's world goes on -/
theorem Wd.told {p l : Addr} {c c' : Nat} {G H H' : Hp} {q : Addr} {o : HO} (h : Wd p l c G H) (nq : H q = none) (hq : H' q = some o) (hp : PoolAt p l c' H') (off : OffS p l H H') : ∃ G1, Wd p l c' G1 H' ∧ Same G G1 ∧ G1 q = some o := by
  have np := h.pool.np nq
  have w5 := h.turn hp off
  refine ⟨upd G q o, ⟨hp, fun x u e => ?_, by rw [upd_ne np.1.symm]; exact h.gp, by rw [upd_ne np.2.symm]; exact h.gl⟩, same_new (h.free nq), upd_same⟩
  by_cases ex : x = q
  · subst ex
    rw [upd_same] at e
    rw [← Option.some.inj e]
    exact hq
  · rw [upd_ne ex] at e
    exact w5.kn x u e

/-! ### Ratio(..) where it may be refused -/
def spInitX (C N : Addr) : Sp := fun vs H Q E => ∃ x dx, H x = some (.ins C dx []) ∧
  ((∃ t b : Int, vs = [.ref x, .int t, .int b] ∧ b ≠ 0 ∧ b.natAbs < 2 ^ 9000 ∧ Q .non (upd H x (.ins C dx (rf (Rat.divInt t b))))) ∨
   (∃ v b ty, vs = [.ref x, v, b] ∧ tyV H v = some ty ∧ ty ∈ tys C ∧ ty ≠ .type "int" ∧ ∀ d, H d = none → E (.ref N) (some d) (upd H d (.xd [("value", v)]))) ∨
   (∃ (t : Int) (v : V) (ty : Value), vs = [.ref x, .int t, v] ∧ tyV H v = some ty ∧ ty ∈ tys C ∧ ty ≠ .type "int" ∧ ∀ d, H d = none → E (.ref N) (some d) (upd H d (.xd [("value", v)]))) ∨
   (∃ t : Int, vs = [.ref x, .int t, .int 0] ∧ ∀ d, H d = none → E (.ref N) (some d) (upd H d (.xd [("value", .int 0)]))))
theorem make_gx {C N : Addr} {E : XK} {vs dvs : List V} {H : Hp} {Q : VK} {t b : Int} {n : Nat} (e : vs ++ dvs = [.int t, .int b]) (hb : b ≠ 0) (h1 : t.natAbs < 2 ^ n) (h2 : b.natAbs < 2 ^ n) (hn : n ≤ 9000)
    (k : ∀ H' a dx, H a = none → Same H H' → H' a = some (.ins C dx (rf (Rat.divInt t b))) → Bd n (Rat.divInt t b) → Q (.ref a) H') : mkGo C (spInitX C N) dvs E vs H Q := by
  intro x dx nx nd ne
  rw [e]
  refine ⟨x, dx, upd_same, .inl ⟨t, b, rfl, hb, abs_mono h2 hn, rfl, ?_⟩⟩
  refine k _ x dx nx (fun c o hc => ?_) upd_same (bd_divInt h1 h2 hb)
  have c1 : c ≠ x := fun z => by rw [z, nx] at hc; cases hc
  have c2 : c ≠ dx := fun z => by rw [z, nd] at hc; cases hc
  rw [upd_ne c1, upd_ne c1, upd_ne c2]
  exact hc
/-- refused: v is the value told -/
theorem make_no {C N : Addr} {E : XK} {vs dvs : List V} {H : Hp} {Q : VK} {t b v : V} (e : vs ++ dvs = [t, b])
    (hb : (v = t ∧ ∃ ty, tyV H t = some ty ∧ ty ∈ tys C ∧ ty ≠ .type "int") ∨ (v = b ∧ (∃ i, t = .int i) ∧ ((∃ ty, tyV H b = some ty ∧ ty ∈ tys C ∧ ty ≠ .type "int") ∨ b = .int 0)))
    (k : ∀ H' d, Same H H' → H d = none → H' d = some (.xd [("value", v)]) → E (.ref N) (some d) H') : mkGo C (spInitX C N) dvs E vs H Q := by
  intro x dx nx nd ne
  rw [e]
  have sm : Same H (upd (upd H dx (.own x)) x (.ins C dx [])) := fun c o hc => by
    have c1 : c ≠ x := fun z => by rw [z, nx] at hc; cases hc
    have c2 : c ≠ dx := fun z => by rw [z, nd] at hc; cases hc
    rw [upd_ne c1, upd_ne c2]
    exact hc
  have kk : ∀ d, upd (upd H dx (.own x)) x (.ins C dx []) d = none → E (.ref N) (some d) (upd (upd (upd H dx (.own x)) x (.ins C dx [])) d (.xd [("value", v)])) := fun d hd => k _ d (sm.trans (same_new hd)) (sm.free hd) upd_same
  refine ⟨x, dx, upd_same, ?_⟩
  rcases hb with ⟨rfl, ty, h1, h2, h3⟩ | ⟨rfl, ⟨i, rfl⟩, ⟨ty, h1, h2, h3⟩ | rfl⟩
  · exact .inr (.inl ⟨_, _, ty, rfl, ty_same sm h1, h2, h3, kk⟩)
  · exact .inr (.inr (.inl ⟨i, _, ty, rfl, ty_same sm h1, h2, h3, kk⟩))
  · exact .inr (.inr (.inr ⟨i, rfl, kk⟩))
theorem makeK_mk {C : Addr} {sp : Sp} {gV : List V → List V → List V} {E : XK} {vs zs ws : List V} {H : Hp} {Q : VK} (h : ∀ x, gV (.ref x :: vs) zs = .ref x :: (ws ++ [])) (k : mkGo C sp [] E ws H Q) : mkGoK C sp gV E vs zs H Q := makeK_go h k
section
variable {w : World} {K : PySem.W.Frag} {mg : Str → Option Value} {base : Heap} {A : Adr}
theorem ok_initX (T : Txt K mg A) (gIsInteger : FnOk PW w K mg base CX0 1 A.a_IsInteger A.d_IsInteger ["value"] (spIsInt A.k_Ratio)) (gCommonDivisor : FnOk PW w K mg base CX0 1 A.a_CommonDivisor A.d_CommonDivisor ["first", "second"] spGcd) :
    FnOk PW w K mg base (L2.CX PW w) 2 A.a_RatioInit A.d_RatioInit ["self", "top", "bottom"] (spInitX A.k_Ratio A.k_InvalidNumber) := by
  refine T.f_RatioInit.ok (CX := L2.CX PW w) scRatioInit (fun vs H Q E h => ?_) (fun cdv A' outer s H vs Q E hr h => ?_)
  · obtain ⟨x, dx, _, ⟨t, b, rfl, _⟩ | ⟨v, b, ty, rfl, _⟩ | ⟨t, v, ty, rfl, _⟩ | ⟨t, rfl, _⟩⟩ := h <;> rfl
  · refine ⟨_, (pss_cons (ps_if (pt_not (pt_val (pe_call gIsInteger (hr.mono (by decide)) (by rfl) T.m_IsInteger T.f_IsInteger.kp T.b_IsInteger .nil pass0 (pa_cons (pv 1) pa_nil)))) (pss_one (ps_raiseX rfl T.x_InvalidNumber hr (takes_of rfl rfl rfl rfl) (pa_cons (pv 1) pa_nil) (by rfl))) pss_nil)
      (pss_cons (ps_if (PW.pt (pw_or (pt_not (pt_val (pe_call gIsInteger (hr.mono (by decide)) (by rfl) T.m_IsInteger T.f_IsInteger.kp T.b_IsInteger .nil pass0 (pa_cons (pv 2) pa_nil)))) (pw_or1 (pt_cmpR (op_eq) (pv 2) pe_int (nomark _))))) (pss_one (ps_raiseX rfl T.x_InvalidNumber hr (takes_of rfl rfl rfl rfl) (pa_cons (pv 2) pa_nil) (by rfl))) pss_nil)
      (pss_cons (ps_set (i := 3) scRatioInit.nd rfl (Or.inl rfl) (pe_call gCommonDivisor (hr.mono (by decide)) (by rfl) T.m_CommonDivisor T.f_CommonDivisor.kp T.b_CommonDivisor .nil pass0 (pa_cons (pv 1) (pa_cons (pe_callB call_abs (by rfl) T.z_abs (by decide +kernel) (pa_cons (pv 2) pa_nil)) pa_nil))))
      (pss_cons (ps_if (pt_cmpR (op_lt) (pv 2) pe_int (nomark _)) (pss_one (ps_set (i := 3) scRatioInit.nd rfl (Or.inl rfl) (pe_un un_neg (pv 3)))) pss_nil)
      (pss_cons (ps_fld (pv 0) (pe_op op_fdivZ (pv 1) (pv 3)) rfl)
      (pss_one (ps_fld (pv 0) (pe_op op_fdivZ (pv 2) (pv 3)) rfl))))))), ?_⟩
    obtain ⟨x, dx, hx, h⟩ := h
    rcases h with ⟨t, b, rfl, hb, hB, k⟩ | ⟨v, b, ty, rfl, h1, h2, h3, k⟩ | ⟨t, v, ty, rfl, h1, h2, h3, k⟩ | ⟨t, rfl, k⟩
    · try simp only [tSeq, tNext, tRet, tRetN, tAsg, gName, gSub, tDrop, tIfS, tOp, tUn, tCB, tCons, tNil, tC, tVar, rI, rI0, rU, tAnd, tOr, tNot, tAndV, tOrV, tNotV, tIf, tTest, tB, tCall, tChain, tLst, tTup, tYes, rIxH, rIsB, rIsBT, rMulS, kd_non, kd_bl, kd_int, kd_str, kd_ref, kdO_lst, kdO_tup, kdO_dK, nq_n, nq_b, nq_i, nq_s, nq_l, nq_t, nq_d, ne_eq, not_false_eq_true, kit_ss, kit_ns, kit_bs, kit_is, kit_ls, kit_ts, kit_ds, kit_bb, V.ty.injEq, and_assoc, rIxU, rLenH, rLenU, rLenS, rInt1, rSetL, rEq, rNe, rCat, L2.start, List.map, List.length, List.length_cons, List.length_nil, List.replicate, List.getElem?_cons_zero, List.getElem?_cons_succ, List.set_cons_zero, List.set_cons_succ, List.set_nil, List.cons_append, List.nil_append, List.append_nil, Option.some.injEq, V.int.injEq, V.ref.injEq, V.str.injEq, V.bl.injEq, HO.lst.injEq, HO.tup.injEq, exists_eq_left', exists_and_left, exists_eq_left, List.cons.injEq, and_true, true_and, and_false, false_and, and_self, reduceCtorEq, exists_false, or_false, false_or, exists_const, at0, at1, at2, at3, at4, at5, ix51, ix52, ix54, upd_same, Nat.reduceAdd, Nat.reduceSub, Nat.zero_add, Int.reduceToNat, Int.reduceLE, Int.reduceLT, decide_eq_true_eq, Bool.not_eq_true, if_true, if_false, Bool.false_eq_true, ite_true, ite_false, Bool.not_true, Bool.not_false, decide_true, decide_false, tFor_eq, tLc_eq, iList, iTup, iRng1, iRng2, iStr, tSl, tPart, tNoPart, rSlL, cxOf_K, wipe, ex_ty2, kit_LTl, kit_LTt, kit_LTd, kit_LTs, kit_LTn, kit_LTb, kit_LTi, tM1, rIxS, exists_eq', lt1p, tDNewK, rSlS, rEqNil, nox_K, tNever]
      refine ⟨.int t, .type "int", rfl, rfl, by simp [tys], ?_⟩
      try simp only [tSeq, tNext, tRet, tRetN, tAsg, gName, gSub, tDrop, tIfS, tOp, tUn, tCB, tCons, tNil, tC, tVar, rI, rI0, rU, tAnd, tOr, tNot, tAndV, tOrV, tNotV, tIf, tTest, tB, tCall, tChain, tLst, tTup, tYes, rIxH, rIsB, rIsBT, rMulS, kd_non, kd_bl, kd_int, kd_str, kd_ref, kdO_lst, kdO_tup, kdO_dK, nq_n, nq_b, nq_i, nq_s, nq_l, nq_t, nq_d, ne_eq, not_false_eq_true, kit_ss, kit_ns, kit_bs, kit_is, kit_ls, kit_ts, kit_ds, kit_bb, V.ty.injEq, and_assoc, rIxU, rLenH, rLenU, rLenS, rInt1, rSetL, rEq, rNe, rCat, L2.start, List.map, List.length, List.length_cons, List.length_nil, List.replicate, List.getElem?_cons_zero, List.getElem?_cons_succ, List.set_cons_zero, List.set_cons_succ, List.set_nil, List.cons_append, List.nil_append, List.append_nil, Option.some.injEq, V.int.injEq, V.ref.injEq, V.str.injEq, V.bl.injEq, HO.lst.injEq, HO.tup.injEq, exists_eq_left', exists_and_left, exists_eq_left, List.cons.injEq, and_true, true_and, and_false, false_and, and_self, reduceCtorEq, exists_false, or_false, false_or, exists_const, at0, at1, at2, at3, at4, at5, ix51, ix52, ix54, upd_same, Nat.reduceAdd, Nat.reduceSub, Nat.zero_add, Int.reduceToNat, Int.reduceLE, Int.reduceLT, decide_eq_true_eq, Bool.not_eq_true, if_true, if_false, Bool.false_eq_true, ite_true, ite_false, Bool.not_true, Bool.not_false, decide_true, decide_false, tFor_eq, tLc_eq, iList, iTup, iRng1, iRng2, iStr, tSl, tPart, tNoPart, rSlL, cxOf_K, wipe, ex_ty2, kit_LTl, kit_LTt, kit_LTd, kit_LTs, kit_LTn, kit_LTb, kit_LTi, tM1, rIxS, exists_eq', lt1p, tDNewK, rSlS, rEqNil, nox_K, tNever]
      refine ⟨.int b, .type "int", rfl, rfl, by simp [tys], ?_⟩
      try simp only [tSeq, tNext, tRet, tRetN, tAsg, gName, gSub, tDrop, tIfS, tOp, tUn, tCB, tCons, tNil, tC, tVar, rI, rI0, rU, tAnd, tOr, tNot, tAndV, tOrV, tNotV, tIf, tTest, tB, tCall, tChain, tLst, tTup, tYes, rIxH, rIsB, rIsBT, rMulS, kd_non, kd_bl, kd_int, kd_str, kd_ref, kdO_lst, kdO_tup, kdO_dK, nq_n, nq_b, nq_i, nq_s, nq_l, nq_t, nq_d, ne_eq, not_false_eq_true, kit_ss, kit_ns, kit_bs, kit_is, kit_ls, kit_ts, kit_ds, kit_bb, V.ty.injEq, and_assoc, rIxU, rLenH, rLenU, rLenS, rInt1, rSetL, rEq, rNe, rCat, L2.start, List.map, List.length, List.length_cons, List.length_nil, List.replicate, List.getElem?_cons_zero, List.getElem?_cons_succ, List.set_cons_zero, List.set_cons_succ, List.set_nil, List.cons_append, List.nil_append, List.append_nil, Option.some.injEq, V.int.injEq, V.ref.injEq, V.str.injEq, V.bl.injEq, HO.lst.injEq, HO.tup.injEq, exists_eq_left', exists_and_left, exists_eq_left, List.cons.injEq, and_true, true_and, and_false, false_and, and_self, reduceCtorEq, exists_false, or_false, false_or, exists_const, at0, at1, at2, at3, at4, at5, ix51, ix52, ix54, upd_same, Nat.reduceAdd, Nat.reduceSub, Nat.zero_add, Int.reduceToNat, Int.reduceLE, Int.reduceLT, decide_eq_true_eq, Bool.not_eq_true, if_true, if_false, Bool.false_eq_true, ite_true, ite_false, Bool.not_true, Bool.not_false, decide_true, decide_false, tFor_eq, tLc_eq, iList, iTup, iRng1, iRng2, iStr, tSl, tPart, tNoPart, rSlL, cxOf_K, wipe, ex_ty2, kit_LTl, kit_LTt, kit_LTd, kit_LTs, kit_LTn, kit_LTb, kit_LTi, tM1, rIxS, exists_eq', lt1p, tDNewK, rSlS, rEqNil, nox_K, tNever, scal_int, hb]
      refine ⟨t, _, rfl, by split <;> omega, ?_⟩
      have e : ((Int.gcd t (if b < 0 then -b else b) : Nat) : Int) = (Int.gcd t b : Nat) := by
        split
        · rw [Int.gcd_neg]
        · rfl
      rw [e]
      have hl : (dv t b).natAbs.log2 < 9000 := log2_of (n := 9000) (Nat.lt_of_le_of_lt (by rw [dv_abs]; exact Nat.le_of_dvd (by omega) (Int.gcd_dvd_natAbs_right t b)) hB) (Nat.le_refl _)
      have c1 : CDivZ t (dv t b) := ⟨dv_ne hb, hl⟩
      have c2 : CDivZ b (dv t b) := ⟨dv_ne hb, hl⟩
      by_cases h0 : b < 0
      · have ed : -((Int.gcd t b : Nat) : Int) = dv t b := by unfold dv; rw [if_pos h0]
        try simp only [tSeq, tNext, tRet, tRetN, tAsg, gName, gSub, tDrop, tIfS, tOp, tUn, tCB, tCons, tNil, tC, tVar, rI, rI0, rU, tAnd, tOr, tNot, tAndV, tOrV, tNotV, tIf, tTest, tB, tCall, tChain, tLst, tTup, tYes, rIxH, rIsB, rIsBT, rMulS, kd_non, kd_bl, kd_int, kd_str, kd_ref, kdO_lst, kdO_tup, kdO_dK, nq_n, nq_b, nq_i, nq_s, nq_l, nq_t, nq_d, ne_eq, not_false_eq_true, kit_ss, kit_ns, kit_bs, kit_is, kit_ls, kit_ts, kit_ds, kit_bb, V.ty.injEq, and_assoc, rIxU, rLenH, rLenU, rLenS, rInt1, rSetL, rEq, rNe, rCat, L2.start, List.map, List.length, List.length_cons, List.length_nil, List.replicate, List.getElem?_cons_zero, List.getElem?_cons_succ, List.set_cons_zero, List.set_cons_succ, List.set_nil, List.cons_append, List.nil_append, List.append_nil, Option.some.injEq, V.int.injEq, V.ref.injEq, V.str.injEq, V.bl.injEq, HO.lst.injEq, HO.tup.injEq, exists_eq_left', exists_and_left, exists_eq_left, List.cons.injEq, and_true, true_and, and_false, false_and, and_self, reduceCtorEq, exists_false, or_false, false_or, exists_const, at0, at1, at2, at3, at4, at5, ix51, ix52, ix54, upd_same, Nat.reduceAdd, Nat.reduceSub, Nat.zero_add, Int.reduceToNat, Int.reduceLE, Int.reduceLT, decide_eq_true_eq, Bool.not_eq_true, if_true, if_false, Bool.false_eq_true, ite_true, ite_false, Bool.not_true, Bool.not_false, decide_true, decide_false, tFor_eq, tLc_eq, iList, iTup, iRng1, iRng2, iStr, tSl, tPart, tNoPart, rSlL, cxOf_K, wipe, ex_ty2, kit_LTl, kit_LTt, kit_LTd, kit_LTs, kit_LTn, kit_LTb, kit_LTi, tM1, rIxS, exists_eq', lt1p, tDNewK, rSlS, rEqNil, nox_K, sFld, hx, h0, ed, c1, c2, T.t_Ratio.cl, T.n_Ratio_kept_top, T.n_Ratio_kept_bottom, HO.ins.injEq, upd_upd, num_of hb, den_of hb]
        exact ⟨by decide, by show 1 < 1000; decide, by rw [rf_put rfl rfl]; exact k⟩
      · have ed : ((Int.gcd t b : Nat) : Int) = dv t b := by unfold dv; rw [if_neg h0]
        try simp only [tSeq, tNext, tRet, tRetN, tAsg, gName, gSub, tDrop, tIfS, tOp, tUn, tCB, tCons, tNil, tC, tVar, rI, rI0, rU, tAnd, tOr, tNot, tAndV, tOrV, tNotV, tIf, tTest, tB, tCall, tChain, tLst, tTup, tYes, rIxH, rIsB, rIsBT, rMulS, kd_non, kd_bl, kd_int, kd_str, kd_ref, kdO_lst, kdO_tup, kdO_dK, nq_n, nq_b, nq_i, nq_s, nq_l, nq_t, nq_d, ne_eq, not_false_eq_true, kit_ss, kit_ns, kit_bs, kit_is, kit_ls, kit_ts, kit_ds, kit_bb, V.ty.injEq, and_assoc, rIxU, rLenH, rLenU, rLenS, rInt1, rSetL, rEq, rNe, rCat, L2.start, List.map, List.length, List.length_cons, List.length_nil, List.replicate, List.getElem?_cons_zero, List.getElem?_cons_succ, List.set_cons_zero, List.set_cons_succ, List.set_nil, List.cons_append, List.nil_append, List.append_nil, Option.some.injEq, V.int.injEq, V.ref.injEq, V.str.injEq, V.bl.injEq, HO.lst.injEq, HO.tup.injEq, exists_eq_left', exists_and_left, exists_eq_left, List.cons.injEq, and_true, true_and, and_false, false_and, and_self, reduceCtorEq, exists_false, or_false, false_or, exists_const, at0, at1, at2, at3, at4, at5, ix51, ix52, ix54, upd_same, Nat.reduceAdd, Nat.reduceSub, Nat.zero_add, Int.reduceToNat, Int.reduceLE, Int.reduceLT, decide_eq_true_eq, Bool.not_eq_true, if_true, if_false, Bool.false_eq_true, ite_true, ite_false, Bool.not_true, Bool.not_false, decide_true, decide_false, tFor_eq, tLc_eq, iList, iTup, iRng1, iRng2, iStr, tSl, tPart, tNoPart, rSlL, cxOf_K, wipe, ex_ty2, kit_LTl, kit_LTt, kit_LTd, kit_LTs, kit_LTn, kit_LTb, kit_LTi, tM1, rIxS, exists_eq', lt1p, tDNewK, rSlS, rEqNil, nox_K, sFld, hx, h0, ed, c1, c2, T.t_Ratio.cl, T.n_Ratio_kept_top, T.n_Ratio_kept_bottom, HO.ins.injEq, upd_upd, num_of hb, den_of hb]
        exact ⟨by decide, by show 1 < 1000; decide, by rw [rf_put rfl rfl]; exact k⟩
    · try simp only [tSeq, tNext, tRet, tRetN, tAsg, gName, gSub, tDrop, tIfS, tOp, tUn, tCB, tCons, tNil, tC, tVar, rI, rI0, rU, tAnd, tOr, tNot, tAndV, tOrV, tNotV, tIf, tTest, tB, tCall, tChain, tLst, tTup, tYes, rIxH, rIsB, rIsBT, rMulS, kd_non, kd_bl, kd_int, kd_str, kd_ref, kdO_lst, kdO_tup, kdO_dK, nq_n, nq_b, nq_i, nq_s, nq_l, nq_t, nq_d, ne_eq, not_false_eq_true, kit_ss, kit_ns, kit_bs, kit_is, kit_ls, kit_ts, kit_ds, kit_bb, V.ty.injEq, and_assoc, rIxU, rLenH, rLenU, rLenS, rInt1, rSetL, rEq, rNe, rCat, L2.start, List.map, List.length, List.length_cons, List.length_nil, List.replicate, List.getElem?_cons_zero, List.getElem?_cons_succ, List.set_cons_zero, List.set_cons_succ, List.set_nil, List.cons_append, List.nil_append, List.append_nil, Option.some.injEq, V.int.injEq, V.ref.injEq, V.str.injEq, V.bl.injEq, HO.lst.injEq, HO.tup.injEq, exists_eq_left', exists_and_left, exists_eq_left, List.cons.injEq, and_true, true_and, and_false, false_and, and_self, reduceCtorEq, exists_false, or_false, false_or, exists_const, at0, at1, at2, at3, at4, at5, ix51, ix52, ix54, upd_same, Nat.reduceAdd, Nat.reduceSub, Nat.zero_add, Int.reduceToNat, Int.reduceLE, Int.reduceLT, decide_eq_true_eq, Bool.not_eq_true, if_true, if_false, Bool.false_eq_true, ite_true, ite_false, Bool.not_true, Bool.not_false, decide_true, decide_false, tFor_eq, tLc_eq, iList, iTup, iRng1, iRng2, iStr, tSl, tPart, tNoPart, rSlL, cxOf_K, wipe, ex_ty2, kit_LTl, kit_LTt, kit_LTd, kit_LTs, kit_LTn, kit_LTb, kit_LTi, tM1, rIxS, exists_eq', lt1p, tDNewK, rSlS, rEqNil, nox_K]
      refine ⟨v, ty, rfl, h1, h2, ?_⟩
      rw [decide_eq_false h3]
      try simp only [tSeq, tNext, tRet, tRetN, tAsg, gName, gSub, tDrop, tIfS, tOp, tUn, tCB, tCons, tNil, tC, tVar, rI, rI0, rU, tAnd, tOr, tNot, tAndV, tOrV, tNotV, tIf, tTest, tB, tCall, tChain, tLst, tTup, tYes, rIxH, rIsB, rIsBT, rMulS, kd_non, kd_bl, kd_int, kd_str, kd_ref, kdO_lst, kdO_tup, kdO_dK, nq_n, nq_b, nq_i, nq_s, nq_l, nq_t, nq_d, ne_eq, not_false_eq_true, kit_ss, kit_ns, kit_bs, kit_is, kit_ls, kit_ts, kit_ds, kit_bb, V.ty.injEq, and_assoc, rIxU, rLenH, rLenU, rLenS, rInt1, rSetL, rEq, rNe, rCat, L2.start, List.map, List.length, List.length_cons, List.length_nil, List.replicate, List.getElem?_cons_zero, List.getElem?_cons_succ, List.set_cons_zero, List.set_cons_succ, List.set_nil, List.cons_append, List.nil_append, List.append_nil, Option.some.injEq, V.int.injEq, V.ref.injEq, V.str.injEq, V.bl.injEq, HO.lst.injEq, HO.tup.injEq, exists_eq_left', exists_and_left, exists_eq_left, List.cons.injEq, and_true, true_and, and_false, false_and, and_self, reduceCtorEq, exists_false, or_false, false_or, exists_const, at0, at1, at2, at3, at4, at5, ix51, ix52, ix54, upd_same, Nat.reduceAdd, Nat.reduceSub, Nat.zero_add, Int.reduceToNat, Int.reduceLE, Int.reduceLT, decide_eq_true_eq, Bool.not_eq_true, if_true, if_false, Bool.false_eq_true, ite_true, ite_false, Bool.not_true, Bool.not_false, decide_true, decide_false, tFor_eq, tLc_eq, iList, iTup, iRng1, iRng2, iStr, tSl, tPart, tNoPart, rSlL, cxOf_K, wipe, ex_ty2, kit_LTl, kit_LTt, kit_LTd, kit_LTs, kit_LTn, kit_LTb, kit_LTi, tM1, rIxS, exists_eq', lt1p, tDNewK, rSlS, rEqNil, nox_K, tRaiseX, tMkX]
      exact k
    · try simp only [tSeq, tNext, tRet, tRetN, tAsg, gName, gSub, tDrop, tIfS, tOp, tUn, tCB, tCons, tNil, tC, tVar, rI, rI0, rU, tAnd, tOr, tNot, tAndV, tOrV, tNotV, tIf, tTest, tB, tCall, tChain, tLst, tTup, tYes, rIxH, rIsB, rIsBT, rMulS, kd_non, kd_bl, kd_int, kd_str, kd_ref, kdO_lst, kdO_tup, kdO_dK, nq_n, nq_b, nq_i, nq_s, nq_l, nq_t, nq_d, ne_eq, not_false_eq_true, kit_ss, kit_ns, kit_bs, kit_is, kit_ls, kit_ts, kit_ds, kit_bb, V.ty.injEq, and_assoc, rIxU, rLenH, rLenU, rLenS, rInt1, rSetL, rEq, rNe, rCat, L2.start, List.map, List.length, List.length_cons, List.length_nil, List.replicate, List.getElem?_cons_zero, List.getElem?_cons_succ, List.set_cons_zero, List.set_cons_succ, List.set_nil, List.cons_append, List.nil_append, List.append_nil, Option.some.injEq, V.int.injEq, V.ref.injEq, V.str.injEq, V.bl.injEq, HO.lst.injEq, HO.tup.injEq, exists_eq_left', exists_and_left, exists_eq_left, List.cons.injEq, and_true, true_and, and_false, false_and, and_self, reduceCtorEq, exists_false, or_false, false_or, exists_const, at0, at1, at2, at3, at4, at5, ix51, ix52, ix54, upd_same, Nat.reduceAdd, Nat.reduceSub, Nat.zero_add, Int.reduceToNat, Int.reduceLE, Int.reduceLT, decide_eq_true_eq, Bool.not_eq_true, if_true, if_false, Bool.false_eq_true, ite_true, ite_false, Bool.not_true, Bool.not_false, decide_true, decide_false, tFor_eq, tLc_eq, iList, iTup, iRng1, iRng2, iStr, tSl, tPart, tNoPart, rSlL, cxOf_K, wipe, ex_ty2, kit_LTl, kit_LTt, kit_LTd, kit_LTs, kit_LTn, kit_LTb, kit_LTi, tM1, rIxS, exists_eq', lt1p, tDNewK, rSlS, rEqNil, nox_K]
      refine ⟨.int t, .type "int", rfl, rfl, by simp [tys], ?_⟩
      try simp only [tSeq, tNext, tRet, tRetN, tAsg, gName, gSub, tDrop, tIfS, tOp, tUn, tCB, tCons, tNil, tC, tVar, rI, rI0, rU, tAnd, tOr, tNot, tAndV, tOrV, tNotV, tIf, tTest, tB, tCall, tChain, tLst, tTup, tYes, rIxH, rIsB, rIsBT, rMulS, kd_non, kd_bl, kd_int, kd_str, kd_ref, kdO_lst, kdO_tup, kdO_dK, nq_n, nq_b, nq_i, nq_s, nq_l, nq_t, nq_d, ne_eq, not_false_eq_true, kit_ss, kit_ns, kit_bs, kit_is, kit_ls, kit_ts, kit_ds, kit_bb, V.ty.injEq, and_assoc, rIxU, rLenH, rLenU, rLenS, rInt1, rSetL, rEq, rNe, rCat, L2.start, List.map, List.length, List.length_cons, List.length_nil, List.replicate, List.getElem?_cons_zero, List.getElem?_cons_succ, List.set_cons_zero, List.set_cons_succ, List.set_nil, List.cons_append, List.nil_append, List.append_nil, Option.some.injEq, V.int.injEq, V.ref.injEq, V.str.injEq, V.bl.injEq, HO.lst.injEq, HO.tup.injEq, exists_eq_left', exists_and_left, exists_eq_left, List.cons.injEq, and_true, true_and, and_false, false_and, and_self, reduceCtorEq, exists_false, or_false, false_or, exists_const, at0, at1, at2, at3, at4, at5, ix51, ix52, ix54, upd_same, Nat.reduceAdd, Nat.reduceSub, Nat.zero_add, Int.reduceToNat, Int.reduceLE, Int.reduceLT, decide_eq_true_eq, Bool.not_eq_true, if_true, if_false, Bool.false_eq_true, ite_true, ite_false, Bool.not_true, Bool.not_false, decide_true, decide_false, tFor_eq, tLc_eq, iList, iTup, iRng1, iRng2, iStr, tSl, tPart, tNoPart, rSlL, cxOf_K, wipe, ex_ty2, kit_LTl, kit_LTt, kit_LTd, kit_LTs, kit_LTn, kit_LTb, kit_LTi, tM1, rIxS, exists_eq', lt1p, tDNewK, rSlS, rEqNil, nox_K]
      refine ⟨v, ty, rfl, h1, h2, ?_⟩
      rw [decide_eq_false h3]
      try simp only [tSeq, tNext, tRet, tRetN, tAsg, gName, gSub, tDrop, tIfS, tOp, tUn, tCB, tCons, tNil, tC, tVar, rI, rI0, rU, tAnd, tOr, tNot, tAndV, tOrV, tNotV, tIf, tTest, tB, tCall, tChain, tLst, tTup, tYes, rIxH, rIsB, rIsBT, rMulS, kd_non, kd_bl, kd_int, kd_str, kd_ref, kdO_lst, kdO_tup, kdO_dK, nq_n, nq_b, nq_i, nq_s, nq_l, nq_t, nq_d, ne_eq, not_false_eq_true, kit_ss, kit_ns, kit_bs, kit_is, kit_ls, kit_ts, kit_ds, kit_bb, V.ty.injEq, and_assoc, rIxU, rLenH, rLenU, rLenS, rInt1, rSetL, rEq, rNe, rCat, L2.start, List.map, List.length, List.length_cons, List.length_nil, List.replicate, List.getElem?_cons_zero, List.getElem?_cons_succ, List.set_cons_zero, List.set_cons_succ, List.set_nil, List.cons_append, List.nil_append, List.append_nil, Option.some.injEq, V.int.injEq, V.ref.injEq, V.str.injEq, V.bl.injEq, HO.lst.injEq, HO.tup.injEq, exists_eq_left', exists_and_left, exists_eq_left, List.cons.injEq, and_true, true_and, and_false, false_and, and_self, reduceCtorEq, exists_false, or_false, false_or, exists_const, at0, at1, at2, at3, at4, at5, ix51, ix52, ix54, upd_same, Nat.reduceAdd, Nat.reduceSub, Nat.zero_add, Int.reduceToNat, Int.reduceLE, Int.reduceLT, decide_eq_true_eq, Bool.not_eq_true, if_true, if_false, Bool.false_eq_true, ite_true, ite_false, Bool.not_true, Bool.not_false, decide_true, decide_false, tFor_eq, tLc_eq, iList, iTup, iRng1, iRng2, iStr, tSl, tPart, tNoPart, rSlL, cxOf_K, wipe, ex_ty2, kit_LTl, kit_LTt, kit_LTd, kit_LTs, kit_LTn, kit_LTb, kit_LTi, tM1, rIxS, exists_eq', lt1p, tDNewK, rSlS, rEqNil, nox_K, tRaiseX, tMkX]
      exact k
    · try simp only [tSeq, tNext, tRet, tRetN, tAsg, gName, gSub, tDrop, tIfS, tOp, tUn, tCB, tCons, tNil, tC, tVar, rI, rI0, rU, tAnd, tOr, tNot, tAndV, tOrV, tNotV, tIf, tTest, tB, tCall, tChain, tLst, tTup, tYes, rIxH, rIsB, rIsBT, rMulS, kd_non, kd_bl, kd_int, kd_str, kd_ref, kdO_lst, kdO_tup, kdO_dK, nq_n, nq_b, nq_i, nq_s, nq_l, nq_t, nq_d, ne_eq, not_false_eq_true, kit_ss, kit_ns, kit_bs, kit_is, kit_ls, kit_ts, kit_ds, kit_bb, V.ty.injEq, and_assoc, rIxU, rLenH, rLenU, rLenS, rInt1, rSetL, rEq, rNe, rCat, L2.start, List.map, List.length, List.length_cons, List.length_nil, List.replicate, List.getElem?_cons_zero, List.getElem?_cons_succ, List.set_cons_zero, List.set_cons_succ, List.set_nil, List.cons_append, List.nil_append, List.append_nil, Option.some.injEq, V.int.injEq, V.ref.injEq, V.str.injEq, V.bl.injEq, HO.lst.injEq, HO.tup.injEq, exists_eq_left', exists_and_left, exists_eq_left, List.cons.injEq, and_true, true_and, and_false, false_and, and_self, reduceCtorEq, exists_false, or_false, false_or, exists_const, at0, at1, at2, at3, at4, at5, ix51, ix52, ix54, upd_same, Nat.reduceAdd, Nat.reduceSub, Nat.zero_add, Int.reduceToNat, Int.reduceLE, Int.reduceLT, decide_eq_true_eq, Bool.not_eq_true, if_true, if_false, Bool.false_eq_true, ite_true, ite_false, Bool.not_true, Bool.not_false, decide_true, decide_false, tFor_eq, tLc_eq, iList, iTup, iRng1, iRng2, iStr, tSl, tPart, tNoPart, rSlL, cxOf_K, wipe, ex_ty2, kit_LTl, kit_LTt, kit_LTd, kit_LTs, kit_LTn, kit_LTb, kit_LTi, tM1, rIxS, exists_eq', lt1p, tDNewK, rSlS, rEqNil, nox_K]
      refine ⟨.int t, .type "int", rfl, rfl, by simp [tys], ?_⟩
      try simp only [tSeq, tNext, tRet, tRetN, tAsg, gName, gSub, tDrop, tIfS, tOp, tUn, tCB, tCons, tNil, tC, tVar, rI, rI0, rU, tAnd, tOr, tNot, tAndV, tOrV, tNotV, tIf, tTest, tB, tCall, tChain, tLst, tTup, tYes, rIxH, rIsB, rIsBT, rMulS, kd_non, kd_bl, kd_int, kd_str, kd_ref, kdO_lst, kdO_tup, kdO_dK, nq_n, nq_b, nq_i, nq_s, nq_l, nq_t, nq_d, ne_eq, not_false_eq_true, kit_ss, kit_ns, kit_bs, kit_is, kit_ls, kit_ts, kit_ds, kit_bb, V.ty.injEq, and_assoc, rIxU, rLenH, rLenU, rLenS, rInt1, rSetL, rEq, rNe, rCat, L2.start, List.map, List.length, List.length_cons, List.length_nil, List.replicate, List.getElem?_cons_zero, List.getElem?_cons_succ, List.set_cons_zero, List.set_cons_succ, List.set_nil, List.cons_append, List.nil_append, List.append_nil, Option.some.injEq, V.int.injEq, V.ref.injEq, V.str.injEq, V.bl.injEq, HO.lst.injEq, HO.tup.injEq, exists_eq_left', exists_and_left, exists_eq_left, List.cons.injEq, and_true, true_and, and_false, false_and, and_self, reduceCtorEq, exists_false, or_false, false_or, exists_const, at0, at1, at2, at3, at4, at5, ix51, ix52, ix54, upd_same, Nat.reduceAdd, Nat.reduceSub, Nat.zero_add, Int.reduceToNat, Int.reduceLE, Int.reduceLT, decide_eq_true_eq, Bool.not_eq_true, if_true, if_false, Bool.false_eq_true, ite_true, ite_false, Bool.not_true, Bool.not_false, decide_true, decide_false, tFor_eq, tLc_eq, iList, iTup, iRng1, iRng2, iStr, tSl, tPart, tNoPart, rSlL, cxOf_K, wipe, ex_ty2, kit_LTl, kit_LTt, kit_LTd, kit_LTs, kit_LTn, kit_LTb, kit_LTi, tM1, rIxS, exists_eq', lt1p, tDNewK, rSlS, rEqNil, nox_K]
      refine ⟨.int 0, .type "int", rfl, rfl, by simp [tys], ?_⟩
      try simp only [tSeq, tNext, tRet, tRetN, tAsg, gName, gSub, tDrop, tIfS, tOp, tUn, tCB, tCons, tNil, tC, tVar, rI, rI0, rU, tAnd, tOr, tNot, tAndV, tOrV, tNotV, tIf, tTest, tB, tCall, tChain, tLst, tTup, tYes, rIxH, rIsB, rIsBT, rMulS, kd_non, kd_bl, kd_int, kd_str, kd_ref, kdO_lst, kdO_tup, kdO_dK, nq_n, nq_b, nq_i, nq_s, nq_l, nq_t, nq_d, ne_eq, not_false_eq_true, kit_ss, kit_ns, kit_bs, kit_is, kit_ls, kit_ts, kit_ds, kit_bb, V.ty.injEq, and_assoc, rIxU, rLenH, rLenU, rLenS, rInt1, rSetL, rEq, rNe, rCat, L2.start, List.map, List.length, List.length_cons, List.length_nil, List.replicate, List.getElem?_cons_zero, List.getElem?_cons_succ, List.set_cons_zero, List.set_cons_succ, List.set_nil, List.cons_append, List.nil_append, List.append_nil, Option.some.injEq, V.int.injEq, V.ref.injEq, V.str.injEq, V.bl.injEq, HO.lst.injEq, HO.tup.injEq, exists_eq_left', exists_and_left, exists_eq_left, List.cons.injEq, and_true, true_and, and_false, false_and, and_self, reduceCtorEq, exists_false, or_false, false_or, exists_const, at0, at1, at2, at3, at4, at5, ix51, ix52, ix54, upd_same, Nat.reduceAdd, Nat.reduceSub, Nat.zero_add, Int.reduceToNat, Int.reduceLE, Int.reduceLT, decide_eq_true_eq, Bool.not_eq_true, if_true, if_false, Bool.false_eq_true, ite_true, ite_false, Bool.not_true, Bool.not_false, decide_true, decide_false, tFor_eq, tLc_eq, iList, iTup, iRng1, iRng2, iStr, tSl, tPart, tNoPart, rSlL, cxOf_K, wipe, ex_ty2, kit_LTl, kit_LTt, kit_LTd, kit_LTs, kit_LTn, kit_LTb, kit_LTi, tM1, rIxS, exists_eq', lt1p, tDNewK, rSlS, rEqNil, nox_K, tRaiseX, tMkX, scal_int]
      exact k
end



/-! ### k03: lowest terms, comparisons told -/
def rt (q : Rat) : HO := .tup [.int q.num, .int q.den]
theorem lowest_num {u l : Int} {g : Nat} (hl : 0 < l) (hg : g = Int.gcd u l) : u.fdiv (g : Int) = (Rat.divInt u l).num ∧ l.fdiv (g : Int) = ((Rat.divInt u l).den : Int) := by
  have e : dv u l = (g : Int) := by
    unfold dv
    rw [if_neg (by omega), hg]
  rw [← e]
  exact ⟨num_of (by omega), den_of (by omega)⟩
def spLowest : Sp := fun vs H Q _ => ∃ u l : Int, vs = [.int u, .int l] ∧ 0 < l ∧ l.natAbs < 2 ^ 9000 ∧ ∀ a, H a = none → Q (.ref a) (upd H a (rt (Rat.divInt u l)))
def LowP (u l : Int) (H : Hp) : St → Hp → Prop := fun σ H' => ∃ a c : Int, σ = [some (.int u), some (.int l), some (.int a), some (.int c)] ∧ 0 ≤ a ∧ 0 ≤ c ∧ Int.gcd a c = Int.gcd u l ∧ H' = H
def lowM : St → Hp → Nat := fun σ _ => match σ with
  | [_, _, _, some (.int c)] => c.toNat
  | _ => 0
theorem gcd_step2 {a c : Int} (ha : 0 ≤ a) (hc : 0 ≤ c) : Int.gcd c (a % c) = Int.gcd a c := by
  rw [Int.gcd_comm, gcd_step hc ha, Int.gcd_comm]
section
variable {P : Program} {w : World} {K : PySem.W.Frag} {mg : Str → Option Value} {base : Heap} {A : Adr}
theorem ok_lowest (T : Txt K mg A) : FnOk P w K mg base CX0 1 A.a_LawLowest A.d_LawLowest ["_law_upper", "_law_lower"] spLowest := by
  refine T.f_LawLowest.ok scLawLowest (fun vs H Q E h => ?_) (fun cdv A' outer s H vs Q E hr h => ?_)
  · obtain ⟨u, l, rfl, _⟩ := h
    rfl
  · obtain ⟨u, l, rfl, hl, hb, k⟩ := h
    refine ⟨_, (pss_cons (ps_par (i := 2) (j := 3) (by rfl) scLawLowest.nd rfl rfl (by decide) rfl rfl (pa_cons (pe_callB call_abs (by rfl) T.z_abs (by decide +kernel) (pa_cons (pv 0) pa_nil)) (pa_cons (pv 1) pa_nil)) (by rfl))
      (pss_cons (ps_while PassesOwn.never (pt_cmpR (op_gt) (pv 3) pe_int (nomark _)) (pss_one (ps_par (i := 2) (j := 3) (by rfl) scLawLowest.nd rfl rfl (by decide) rfl rfl (pa_cons (pv 3) (pa_cons (pe_op op_mod (pe_callTy call_intI (by rfl) T.z_int (by decide +kernel) (pa_cons (pv 2) pa_nil)) (pv 3)) pa_nil)) (by rfl))))
      (pss_one (ps_ret (pe_tup (pa_cons (pe_op op_fdivZ (pv 0) (pv 2)) (pa_cons (pe_op op_fdivZ (pv 1) (pv 2)) pa_nil))))))), ?_⟩
    refine ⟨_, rfl, _, rfl, _, rfl, _, _, rfl, ?_⟩
    refine while_by (LowP u l H) lowM ⟨_, _, rfl, ?_, by omega, ?_, rfl⟩ ?_ ?_
    · split <;> omega
    · split
      · rw [Int.neg_gcd]
      · rfl
    · rintro σ H' ⟨a, c, rfl, ha, hc, hg, rfl⟩
      refine ⟨_, rfl, _, _, rfl, rfl, _, rfl, ?_⟩
      show ite (decide (0 < c) = true) _ _
      by_cases h0 : 0 < c
      · rw [if_pos (decide_eq_true h0)]
        refine ⟨_, rfl, _, rfl, _, rfl, _, rfl, _, _, rfl, rfl, h0, _, _, rfl, ?_⟩
        refine ⟨⟨c, a % c, rfl, hc, Int.emod_nonneg _ (by omega), by rw [gcd_step2 ha hc]; exact hg, rfl⟩, ?_⟩
        show (a % c).toNat < c.toNat
        have := Int.emod_lt_of_pos a h0
        omega
      · rw [if_neg (by simpa using h0)]
        have c0 : c = 0 := by omega
        subst c0
        rw [Int.gcd_zero] at hg
        have ea : a = ((a.natAbs : Nat) : Int) := by omega
        have gp : 0 < Int.gcd u l := gcd_pos_of (by omega)
        obtain ⟨e1, e2⟩ := lowest_num hl hg
        rw [← ea] at e1 e2
        have bd : a.natAbs < 2 ^ 9000 := Nat.lt_of_le_of_lt (by rw [hg]; exact Nat.le_of_dvd (by omega) (Int.gcd_dvd_natAbs_right u l)) hb
        have cd : CDivZ u a := ⟨by omega, log2_of bd (Nat.le_refl _)⟩
        have cd2 : CDivZ l a := ⟨by omega, log2_of bd (Nat.le_refl _)⟩
        refine ⟨_, rfl, _, rfl, _, _, rfl, rfl, cd, _, rfl, _, rfl, _, _, rfl, rfl, cd2, (by show 2 ≤ sizeLine; decide), fun p hp => ?_⟩
        show Q (.ref p) (upd H' p (.tup [.int (u.fdiv a), .int (l.fdiv a)]))
        rw [e1, e2]
        exact k p hp
    · rintro σ H' Q1 Q2 h ⟨v, e, i, j, e1, e2, l, e3, q⟩
      exact ⟨v, e, i, j, e1, e2, l, e3, h _ _ q⟩
end

/-! ### top, bottom, text; what the laws ask of a ratio -/
def ratText (u l : Int) : Str := if l = 1 then Str.ofString (toString u) else Str.ofString (toString u) ++ "/" ++ Str.ofString (toString l)
def spTop (C : Addr) : Sp := fun vs H Q _ => ∃ x q n, vs = [x] ∧ RatAt C H x q n ∧ Q (.int q.num) H
def spBottom (C : Addr) : Sp := fun vs H Q _ => ∃ x q n, vs = [x] ∧ RatAt C H x q n ∧ Q (.int q.den) H
def spText (C : Addr) : Sp := fun vs H Q _ => ∃ x q, vs = [x] ∧ RatAt C H x q 1900 ∧ Q (.str (ratText q.num q.den)) H
def spLawText : Sp := fun vs H Q _ => ∃ u l : Int, vs = [.int u, .int l] ∧ u.natAbs < 2 ^ 1900 ∧ l.natAbs < 2 ^ 1900 ∧ Q (.str (ratText u l)) H
def spWhole : Sp := fun vs H Q _ => ∃ i : Int, vs = [.int i] ∧ Q (.bl true) H
def spIsRatio (C : Addr) : Sp := fun vs H Q _ => ∃ x q n u l, vs = [x, .int u, .int l] ∧ RatAt C H x q n ∧ 0 < l ∧ l.natAbs < 2 ^ 9000 ∧ ∀ H', Same H H' → Q (.bl (decide (q = Rat.divInt u l))) H'
theorem lg1920 {i : Int} (h : i.natAbs < 2 ^ 1900) : i.natAbs.log2 < 1920 := by
  by_cases z : i.natAbs = 0
  · rw [z]; decide
  · exact Nat.lt_trans ((Nat.log2_lt z).mpr h) (by decide)
theorem ts_len {i : Int} (h : i.natAbs < 2 ^ 1900) : (Str.ofString (toString i)).length ≤ 1921 := PyProof.Rows.int_text_len_1921 (lg1920 h)
theorem slash_ok {u l : Int} (h1 : u.natAbs < 2 ^ 1900) (h2 : l.natAbs < 2 ^ 1900) : (Str.ofString (toString u)).length + (Str.ofString "/").length ≤ sizeLine ∧ (Str.ofString (toString u) ++ Str.ofString "/").length + (Str.ofString (toString l)).length ≤ sizeLine := by
  have a := ts_len h1
  have b := ts_len h2
  have c : (Str.ofString "/").length = 1 := by decide +kernel
  rw [app_len, c]
  have d : 5000 ≤ sizeLine := by decide
  omega
section
variable {P : Program} {w : World} {K : PySem.W.Frag} {mg : Str → Option Value} {base : Heap} {A : Adr}
theorem ok_top (T : Txt K mg A) : FnOk P w K mg base CX0 1 A.a_RatioTop A.d_RatioTop ["self"] (spTop A.k_Ratio) := by
  refine T.f_RatioTop.ok scRatioTop (fun vs H Q E h => ?_) (fun cdv A' outer s H vs Q E hr h => ?_)
  · obtain ⟨x, q, n, rfl, _⟩ := h
    rfl
  · obtain ⟨x, q, n, rfl, ⟨⟨a, dx, rfl, ha⟩, _⟩, k⟩ := h
    refine ⟨_, (pss_one (ps_ret (pe_fld (pv 0) rfl))), ?_⟩
    try simp only [tSeq, tNext, tRet, tRetN, tAsg, gName, gSub, tDrop, tIfS, tOp, tUn, tCB, tCons, tNil, tC, tVar, rI, rI0, rU, tAnd, tOr, tNot, tAndV, tOrV, tNotV, tIf, tTest, tB, tCall, tChain, tLst, tTup, tYes, rIxH, rIsB, rIsBT, rMulS, kd_non, kd_bl, kd_int, kd_str, kd_ref, kdO_lst, kdO_tup, kdO_dK, nq_n, nq_b, nq_i, nq_s, nq_l, nq_t, nq_d, ne_eq, not_false_eq_true, kit_ss, kit_ns, kit_bs, kit_is, kit_ls, kit_ts, kit_ds, kit_bb, V.ty.injEq, and_assoc, rIxU, rLenH, rLenU, rLenS, rInt1, rSetL, rEq, rNe, rCat, L2.start, List.map, List.length, List.length_cons, List.length_nil, List.replicate, List.getElem?_cons_zero, List.getElem?_cons_succ, List.set_cons_zero, List.set_cons_succ, List.set_nil, List.cons_append, List.nil_append, List.append_nil, Option.some.injEq, V.int.injEq, V.ref.injEq, V.str.injEq, V.bl.injEq, HO.lst.injEq, HO.tup.injEq, exists_eq_left', exists_and_left, exists_eq_left, List.cons.injEq, and_true, true_and, and_false, false_and, and_self, reduceCtorEq, exists_false, or_false, false_or, exists_const, at0, at1, at2, at3, at4, at5, ix51, ix52, ix54, upd_same, Nat.reduceAdd, Nat.reduceSub, Nat.zero_add, Int.reduceToNat, Int.reduceLE, Int.reduceLT, decide_eq_true_eq, Bool.not_eq_true, if_true, if_false, Bool.false_eq_true, ite_true, ite_false, Bool.not_true, Bool.not_false, decide_true, decide_false, tFor_eq, tLc_eq, iList, iTup, iRng1, iRng2, iStr, tSl, tPart, tNoPart, rSlL, cxOf_K, wipe, ex_ty2, kit_LTl, kit_LTt, kit_LTd, kit_LTs, kit_LTn, kit_LTb, kit_LTi, tM1, rIxS, exists_eq', lt1p, tDNewK, rSlS, rEqNil, nox_K, tFld, ha, HO.ins.injEq, T.t_Ratio.cl, T.n_Ratio_kept_top, rf_top]
    exact k
theorem ok_bottom (T : Txt K mg A) : FnOk P w K mg base CX0 1 A.a_RatioBottom A.d_RatioBottom ["self"] (spBottom A.k_Ratio) := by
  refine T.f_RatioBottom.ok scRatioBottom (fun vs H Q E h => ?_) (fun cdv A' outer s H vs Q E hr h => ?_)
  · obtain ⟨x, q, n, rfl, _⟩ := h
    rfl
  · obtain ⟨x, q, n, rfl, ⟨⟨a, dx, rfl, ha⟩, _⟩, k⟩ := h
    refine ⟨_, (pss_one (ps_ret (pe_fld (pv 0) rfl))), ?_⟩
    try simp only [tSeq, tNext, tRet, tRetN, tAsg, gName, gSub, tDrop, tIfS, tOp, tUn, tCB, tCons, tNil, tC, tVar, rI, rI0, rU, tAnd, tOr, tNot, tAndV, tOrV, tNotV, tIf, tTest, tB, tCall, tChain, tLst, tTup, tYes, rIxH, rIsB, rIsBT, rMulS, kd_non, kd_bl, kd_int, kd_str, kd_ref, kdO_lst, kdO_tup, kdO_dK, nq_n, nq_b, nq_i, nq_s, nq_l, nq_t, nq_d, ne_eq, not_false_eq_true, kit_ss, kit_ns, kit_bs, kit_is, kit_ls, kit_ts, kit_ds, kit_bb, V.ty.injEq, and_assoc, rIxU, rLenH, rLenU, rLenS, rInt1, rSetL, rEq, rNe, rCat, L2.start, List.map, List.length, List.length_cons, List.length_nil, List.replicate, List.getElem?_cons_zero, List.getElem?_cons_succ, List.set_cons_zero, List.set_cons_succ, List.set_nil, List.cons_append, List.nil_append, List.append_nil, Option.some.injEq, V.int.injEq, V.ref.injEq, V.str.injEq, V.bl.injEq, HO.lst.injEq, HO.tup.injEq, exists_eq_left', exists_and_left, exists_eq_left, List.cons.injEq, and_true, true_and, and_false, false_and, and_self, reduceCtorEq, exists_false, or_false, false_or, exists_const, at0, at1, at2, at3, at4, at5, ix51, ix52, ix54, upd_same, Nat.reduceAdd, Nat.reduceSub, Nat.zero_add, Int.reduceToNat, Int.reduceLE, Int.reduceLT, decide_eq_true_eq, Bool.not_eq_true, if_true, if_false, Bool.false_eq_true, ite_true, ite_false, Bool.not_true, Bool.not_false, decide_true, decide_false, tFor_eq, tLc_eq, iList, iTup, iRng1, iRng2, iStr, tSl, tPart, tNoPart, rSlL, cxOf_K, wipe, ex_ty2, kit_LTl, kit_LTt, kit_LTd, kit_LTs, kit_LTn, kit_LTb, kit_LTi, tM1, rIxS, exists_eq', lt1p, tDNewK, rSlS, rEqNil, nox_K, tFld, ha, HO.ins.injEq, T.t_Ratio.cl, T.n_Ratio_kept_bottom, rf_bot]
    exact k
theorem ok_text (T : Txt K mg A) : FnOk P w K mg base CX0 1 A.a_RatioText A.d_RatioText ["self"] (spText A.k_Ratio) := by
  refine T.f_RatioText.ok scRatioText (fun vs H Q E h => ?_) (fun cdv A' outer s H vs Q E hr h => ?_)
  · obtain ⟨x, q, rfl, _⟩ := h
    rfl
  · obtain ⟨x, q, rfl, ⟨⟨a, dx, rfl, ha⟩, bq⟩, k⟩ := h
    refine ⟨_, (pss_cons (ps_if (pt_cmpR (op_eq) (pe_fld (pv 0) rfl) pe_int (nomark _)) (pss_one (ps_ret (pe_callTy call_str_int (by rfl) T.z_str (by decide +kernel) (pa_cons (pe_fld (pv 0) rfl) pa_nil)))) pss_nil)
      (pss_one (ps_ret (pe_op op_add_str (pe_op op_add_str (pe_callTy call_str_int (by rfl) T.z_str (by decide +kernel) (pa_cons (pe_fld (pv 0) rfl) pa_nil)) pe_str) (pe_callTy call_str_int (by rfl) T.z_str (by decide +kernel) (pa_cons (pe_fld (pv 0) rfl) pa_nil)))))), ?_⟩
    have l1 := lg1920 bq.1
    have l2 := lg1920 (den_lt bq)
    unfold ratText at k
    by_cases h1 : (q.den : Int) = 1
    · rw [if_pos h1] at k
      try simp only [tSeq, tNext, tRet, tRetN, tAsg, gName, gSub, tDrop, tIfS, tOp, tUn, tCB, tCons, tNil, tC, tVar, rI, rI0, rU, tAnd, tOr, tNot, tAndV, tOrV, tNotV, tIf, tTest, tB, tCall, tChain, tLst, tTup, tYes, rIxH, rIsB, rIsBT, rMulS, kd_non, kd_bl, kd_int, kd_str, kd_ref, kdO_lst, kdO_tup, kdO_dK, nq_n, nq_b, nq_i, nq_s, nq_l, nq_t, nq_d, ne_eq, not_false_eq_true, kit_ss, kit_ns, kit_bs, kit_is, kit_ls, kit_ts, kit_ds, kit_bb, V.ty.injEq, and_assoc, rIxU, rLenH, rLenU, rLenS, rInt1, rSetL, rEq, rNe, rCat, L2.start, List.map, List.length, List.length_cons, List.length_nil, List.replicate, List.getElem?_cons_zero, List.getElem?_cons_succ, List.set_cons_zero, List.set_cons_succ, List.set_nil, List.cons_append, List.nil_append, List.append_nil, Option.some.injEq, V.int.injEq, V.ref.injEq, V.str.injEq, V.bl.injEq, HO.lst.injEq, HO.tup.injEq, exists_eq_left', exists_and_left, exists_eq_left, List.cons.injEq, and_true, true_and, and_false, false_and, and_self, reduceCtorEq, exists_false, or_false, false_or, exists_const, at0, at1, at2, at3, at4, at5, ix51, ix52, ix54, upd_same, Nat.reduceAdd, Nat.reduceSub, Nat.zero_add, Int.reduceToNat, Int.reduceLE, Int.reduceLT, decide_eq_true_eq, Bool.not_eq_true, if_true, if_false, Bool.false_eq_true, ite_true, ite_false, Bool.not_true, Bool.not_false, decide_true, decide_false, tFor_eq, tLc_eq, iList, iTup, iRng1, iRng2, iStr, tSl, tPart, tNoPart, rSlL, cxOf_K, wipe, ex_ty2, kit_LTl, kit_LTt, kit_LTd, kit_LTs, kit_LTn, kit_LTb, kit_LTi, tM1, rIxS, exists_eq', lt1p, tDNewK, rSlS, rEqNil, nox_K, tFld, ha, HO.ins.injEq, T.t_Ratio.cl, T.n_Ratio_kept_bottom, rf_bot, T.n_Ratio_kept_top, rf_top, scal_int, h1, l1]
      exact k
    · rw [if_neg h1] at k
      try simp only [tSeq, tNext, tRet, tRetN, tAsg, gName, gSub, tDrop, tIfS, tOp, tUn, tCB, tCons, tNil, tC, tVar, rI, rI0, rU, tAnd, tOr, tNot, tAndV, tOrV, tNotV, tIf, tTest, tB, tCall, tChain, tLst, tTup, tYes, rIxH, rIsB, rIsBT, rMulS, kd_non, kd_bl, kd_int, kd_str, kd_ref, kdO_lst, kdO_tup, kdO_dK, nq_n, nq_b, nq_i, nq_s, nq_l, nq_t, nq_d, ne_eq, not_false_eq_true, kit_ss, kit_ns, kit_bs, kit_is, kit_ls, kit_ts, kit_ds, kit_bb, V.ty.injEq, and_assoc, rIxU, rLenH, rLenU, rLenS, rInt1, rSetL, rEq, rNe, rCat, L2.start, List.map, List.length, List.length_cons, List.length_nil, List.replicate, List.getElem?_cons_zero, List.getElem?_cons_succ, List.set_cons_zero, List.set_cons_succ, List.set_nil, List.cons_append, List.nil_append, List.append_nil, Option.some.injEq, V.int.injEq, V.ref.injEq, V.str.injEq, V.bl.injEq, HO.lst.injEq, HO.tup.injEq, exists_eq_left', exists_and_left, exists_eq_left, List.cons.injEq, and_true, true_and, and_false, false_and, and_self, reduceCtorEq, exists_false, or_false, false_or, exists_const, at0, at1, at2, at3, at4, at5, ix51, ix52, ix54, upd_same, Nat.reduceAdd, Nat.reduceSub, Nat.zero_add, Int.reduceToNat, Int.reduceLE, Int.reduceLT, decide_eq_true_eq, Bool.not_eq_true, if_true, if_false, Bool.false_eq_true, ite_true, ite_false, Bool.not_true, Bool.not_false, decide_true, decide_false, tFor_eq, tLc_eq, iList, iTup, iRng1, iRng2, iStr, tSl, tPart, tNoPart, rSlL, cxOf_K, wipe, ex_ty2, kit_LTl, kit_LTt, kit_LTd, kit_LTs, kit_LTn, kit_LTb, kit_LTi, tM1, rIxS, exists_eq', lt1p, tDNewK, rSlS, rEqNil, nox_K, tFld, ha, HO.ins.injEq, T.t_Ratio.cl, T.n_Ratio_kept_bottom, rf_bot, T.n_Ratio_kept_top, rf_top, scal_int, h1, l1, l2]
      have z := slash_ok bq.1 (den_lt bq)
      exact ⟨z.1, z.2, k⟩
theorem ok_whole (T : Txt K mg A) : FnOk P w K mg base CX0 1 A.a_LawWhole A.d_LawWhole ["_law_thing"] spWhole := by
  refine T.f_LawWhole.ok scLawWhole (fun vs H Q E h => ?_) (fun cdv A' outer s H vs Q E hr h => ?_)
  · obtain ⟨i, rfl, _⟩ := h
    rfl
  · obtain ⟨i, rfl, k⟩ := h
    refine ⟨_, (pss_one (ps_ret (pe_and (pe_callB call_isW (by rfl) T.z_isinstance (by decide +kernel) (pa_cons (pv 0) (pa_cons (pe_bltn (v := .ty "int") (by rfl) T.z_int (by decide +kernel) rfl) pa_nil))) (pe_one (pe_not (pe_callB call_isW (by rfl) T.z_isinstance (by decide +kernel) (pa_cons (pv 0) (pa_cons (pe_bltn (v := .ty "bool") (by rfl) T.z_bool (by decide +kernel) rfl) pa_nil)))))))), ?_⟩
    have e1 : PySem.W.kitOne K (.type "int") (.type "int") = some true := kit_self
    have e2 : PySem.W.kitOne K (.type "int") (.type "bool") = some false := kit_ty (by decide +kernel)
    try simp only [tSeq, tNext, tRet, tRetN, tAsg, gName, gSub, tDrop, tIfS, tOp, tUn, tCB, tCons, tNil, tC, tVar, rI, rI0, rU, tAnd, tOr, tNot, tAndV, tOrV, tNotV, tIf, tTest, tB, tCall, tChain, tLst, tTup, tYes, rIxH, rIsB, rIsBT, rMulS, kd_non, kd_bl, kd_int, kd_str, kd_ref, kdO_lst, kdO_tup, kdO_dK, nq_n, nq_b, nq_i, nq_s, nq_l, nq_t, nq_d, ne_eq, not_false_eq_true, kit_ss, kit_ns, kit_bs, kit_is, kit_ls, kit_ts, kit_ds, kit_bb, V.ty.injEq, and_assoc, rIxU, rLenH, rLenU, rLenS, rInt1, rSetL, rEq, rNe, rCat, L2.start, List.map, List.length, List.length_cons, List.length_nil, List.replicate, List.getElem?_cons_zero, List.getElem?_cons_succ, List.set_cons_zero, List.set_cons_succ, List.set_nil, List.cons_append, List.nil_append, List.append_nil, Option.some.injEq, V.int.injEq, V.ref.injEq, V.str.injEq, V.bl.injEq, HO.lst.injEq, HO.tup.injEq, exists_eq_left', exists_and_left, exists_eq_left, List.cons.injEq, and_true, true_and, and_false, false_and, and_self, reduceCtorEq, exists_false, or_false, false_or, exists_const, at0, at1, at2, at3, at4, at5, ix51, ix52, ix54, upd_same, Nat.reduceAdd, Nat.reduceSub, Nat.zero_add, Int.reduceToNat, Int.reduceLE, Int.reduceLT, decide_eq_true_eq, Bool.not_eq_true, if_true, if_false, Bool.false_eq_true, ite_true, ite_false, Bool.not_true, Bool.not_false, decide_true, decide_false, tFor_eq, tLc_eq, iList, iTup, iRng1, iRng2, iStr, tSl, tPart, tNoPart, rSlL, cxOf_K, wipe, ex_ty2, kit_LTl, kit_LTt, kit_LTd, kit_LTs, kit_LTn, kit_LTb, kit_LTi, tM1, rIxS, exists_eq', lt1p, tDNewK, rSlS, rEqNil, nox_K, rIsW, clsV_ty, tyV_int, e1, e2, false_implies, implies_true]
    simpa using k
theorem ok_isratio (T : Txt K mg A) (gRatioTop : FnOk P w K mg base CX0 1 A.a_RatioTop A.d_RatioTop ["self"] (spTop A.k_Ratio)) (gRatioBottom : FnOk P w K mg base CX0 1 A.a_RatioBottom A.d_RatioBottom ["self"] (spBottom A.k_Ratio)) (gLawWhole : FnOk P w K mg base CX0 1 A.a_LawWhole A.d_LawWhole ["_law_thing"] spWhole)
    (gLawLowest : FnOk P w K mg base CX0 1 A.a_LawLowest A.d_LawLowest ["_law_upper", "_law_lower"] spLowest) : FnOk P w K mg base CX0 3 A.a_LawIsRatio A.d_LawIsRatio ["_law_thing", "_law_upper", "_law_lower"] (spIsRatio A.k_Ratio) := by
  refine T.f_LawIsRatio.ok scLawIsRatio (fun vs H Q E h => ?_) (fun cdv A' outer s H vs Q E hr h => ?_)
  · obtain ⟨x, q, n, u, l, rfl, _⟩ := h
    rfl
  · obtain ⟨x, q, n, u, l, rfl, hx, hl, hb, k⟩ := h
    refine ⟨_, (pss_cons (ps_if (PW.pt (pw_or (pt_not (pt_val (pe_callB call_isW (by rfl) T.z_isinstance (by decide +kernel) (pa_cons (pv 0) (pa_cons (pe_glob (v := .ref A.k_Ratio) (by rfl) T.k_Ratio rfl) pa_nil))))) (pw_or (pt_not (pt_val (pe_call gLawWhole (hr.mono (by decide)) (by rfl) T.m_LawWhole T.f_LawWhole.kp T.b_LawWhole .nil pass0 (pa_cons (pe_prop (pv 0) T.t_Ratio.cl T.h_RatioTop gRatioTop (hr.mono (by decide)) T.b_RatioTop .nil pass0 (by rfl)) pa_nil)))) (pw_or1 (pt_not (pt_val (pe_call gLawWhole (hr.mono (by decide)) (by rfl) T.m_LawWhole T.f_LawWhole.kp T.b_LawWhole .nil pass0 (pa_cons (pe_prop (pv 0) T.t_Ratio.cl T.h_RatioBottom gRatioBottom (hr.mono (by decide)) T.b_RatioBottom .nil pass0 (by rfl)) pa_nil)))))))) (pss_one (ps_ret pe_bl)) pss_nil)
      (pss_one (ps_ret (pe_cmpR (op_eqD hr.units) (pe_tup (pa_cons (pe_prop (pv 0) T.t_Ratio.cl T.h_RatioTop gRatioTop (hr.mono (by decide)) T.b_RatioTop .nil pass0 (by rfl)) (pa_cons (pe_prop (pv 0) T.t_Ratio.cl T.h_RatioBottom gRatioBottom (hr.mono (by decide)) T.b_RatioBottom .nil pass0 (by rfl)) pa_nil))) (pe_call gLawLowest (hr.mono (by decide)) (by rfl) T.m_LawLowest T.f_LawLowest.kp T.b_LawLowest .nil pass0 (pa_cons (pv 1) (pa_cons (pv 2) pa_nil))) (nomark _))))), ?_⟩
    obtain ⟨⟨a, dx, rfl, ha⟩, bq⟩ := id hx
    have e1 : PySem.W.kitOne K (.ref A.k_Ratio) (.ref A.k_Ratio) = some true := kit_self
    try simp only [tSeq, tNext, tRet, tRetN, tAsg, gName, gSub, tDrop, tIfS, tOp, tUn, tCB, tCons, tNil, tC, tVar, rI, rI0, rU, tAnd, tOr, tNot, tAndV, tOrV, tNotV, tIf, tTest, tB, tCall, tChain, tLst, tTup, tYes, rIxH, rIsB, rIsBT, rMulS, kd_non, kd_bl, kd_int, kd_str, kd_ref, kdO_lst, kdO_tup, kdO_dK, nq_n, nq_b, nq_i, nq_s, nq_l, nq_t, nq_d, ne_eq, not_false_eq_true, kit_ss, kit_ns, kit_bs, kit_is, kit_ls, kit_ts, kit_ds, kit_bb, V.ty.injEq, and_assoc, rIxU, rLenH, rLenU, rLenS, rInt1, rSetL, rEq, rNe, rCat, L2.start, List.map, List.length, List.length_cons, List.length_nil, List.replicate, List.getElem?_cons_zero, List.getElem?_cons_succ, List.set_cons_zero, List.set_cons_succ, List.set_nil, List.cons_append, List.nil_append, List.append_nil, Option.some.injEq, V.int.injEq, V.ref.injEq, V.str.injEq, V.bl.injEq, HO.lst.injEq, HO.tup.injEq, exists_eq_left', exists_and_left, exists_eq_left, List.cons.injEq, and_true, true_and, and_false, false_and, and_self, reduceCtorEq, exists_false, or_false, false_or, exists_const, at0, at1, at2, at3, at4, at5, ix51, ix52, ix54, upd_same, Nat.reduceAdd, Nat.reduceSub, Nat.zero_add, Int.reduceToNat, Int.reduceLE, Int.reduceLT, decide_eq_true_eq, Bool.not_eq_true, if_true, if_false, Bool.false_eq_true, ite_true, ite_false, Bool.not_true, Bool.not_false, decide_true, decide_false, tFor_eq, tLc_eq, iList, iTup, iRng1, iRng2, iStr, tSl, tPart, tNoPart, rSlL, cxOf_K, wipe, ex_ty2, kit_LTl, kit_LTt, kit_LTd, kit_LTs, kit_LTn, kit_LTb, kit_LTi, tM1, rIxS, exists_eq', lt1p, tDNewK, rSlS, rEqNil, nox_K, rIsW, clsV_ref, tyV_ref, tyO_ins, ha, e1, tProp, HO.ins.injEq, Value.ref.injEq, forall_eq', T.t_Ratio]
    have iH : ∀ P : Prop, ∀ (Z : Addr → List (Str × V) → Prop), P → (∃ x x_1, H a = some (HO.ins A.k_Ratio x x_1) ∧ P) := fun P Z h => ⟨dx, _, ha, h⟩
    refine ⟨_, q, n, rfl, hx, _, rfl, ?_⟩
    try simp only [tSeq, tNext, tRet, tRetN, tAsg, gName, gSub, tDrop, tIfS, tOp, tUn, tCB, tCons, tNil, tC, tVar, rI, rI0, rU, tAnd, tOr, tNot, tAndV, tOrV, tNotV, tIf, tTest, tB, tCall, tChain, tLst, tTup, tYes, rIxH, rIsB, rIsBT, rMulS, kd_non, kd_bl, kd_int, kd_str, kd_ref, kdO_lst, kdO_tup, kdO_dK, nq_n, nq_b, nq_i, nq_s, nq_l, nq_t, nq_d, ne_eq, not_false_eq_true, kit_ss, kit_ns, kit_bs, kit_is, kit_ls, kit_ts, kit_ds, kit_bb, V.ty.injEq, and_assoc, rIxU, rLenH, rLenU, rLenS, rInt1, rSetL, rEq, rNe, rCat, L2.start, List.map, List.length, List.length_cons, List.length_nil, List.replicate, List.getElem?_cons_zero, List.getElem?_cons_succ, List.set_cons_zero, List.set_cons_succ, List.set_nil, List.cons_append, List.nil_append, List.append_nil, Option.some.injEq, V.int.injEq, V.ref.injEq, V.str.injEq, V.bl.injEq, HO.lst.injEq, HO.tup.injEq, exists_eq_left', exists_and_left, exists_eq_left, List.cons.injEq, and_true, true_and, and_false, false_and, and_self, reduceCtorEq, exists_false, or_false, false_or, exists_const, at0, at1, at2, at3, at4, at5, ix51, ix52, ix54, upd_same, Nat.reduceAdd, Nat.reduceSub, Nat.zero_add, Int.reduceToNat, Int.reduceLE, Int.reduceLT, decide_eq_true_eq, Bool.not_eq_true, if_true, if_false, Bool.false_eq_true, ite_true, ite_false, Bool.not_true, Bool.not_false, decide_true, decide_false, tFor_eq, tLc_eq, iList, iTup, iRng1, iRng2, iStr, tSl, tPart, tNoPart, rSlL, cxOf_K, wipe, ex_ty2, kit_LTl, kit_LTt, kit_LTd, kit_LTs, kit_LTn, kit_LTb, kit_LTi, tM1, rIxS, exists_eq', lt1p, tDNewK, rSlS, rEqNil, ha, HO.ins.injEq]
    refine ⟨_, q, n, rfl, hx, _, rfl, ?_⟩
    try simp only [tSeq, tNext, tRet, tRetN, tAsg, gName, gSub, tDrop, tIfS, tOp, tUn, tCB, tCons, tNil, tC, tVar, rI, rI0, rU, tAnd, tOr, tNot, tAndV, tOrV, tNotV, tIf, tTest, tB, tCall, tChain, tLst, tTup, tYes, rIxH, rIsB, rIsBT, rMulS, kd_non, kd_bl, kd_int, kd_str, kd_ref, kdO_lst, kdO_tup, kdO_dK, nq_n, nq_b, nq_i, nq_s, nq_l, nq_t, nq_d, ne_eq, not_false_eq_true, kit_ss, kit_ns, kit_bs, kit_is, kit_ls, kit_ts, kit_ds, kit_bb, V.ty.injEq, and_assoc, rIxU, rLenH, rLenU, rLenS, rInt1, rSetL, rEq, rNe, rCat, L2.start, List.map, List.length, List.length_cons, List.length_nil, List.replicate, List.getElem?_cons_zero, List.getElem?_cons_succ, List.set_cons_zero, List.set_cons_succ, List.set_nil, List.cons_append, List.nil_append, List.append_nil, Option.some.injEq, V.int.injEq, V.ref.injEq, V.str.injEq, V.bl.injEq, HO.lst.injEq, HO.tup.injEq, exists_eq_left', exists_and_left, exists_eq_left, List.cons.injEq, and_true, true_and, and_false, false_and, and_self, reduceCtorEq, exists_false, or_false, false_or, exists_const, at0, at1, at2, at3, at4, at5, ix51, ix52, ix54, upd_same, Nat.reduceAdd, Nat.reduceSub, Nat.zero_add, Int.reduceToNat, Int.reduceLE, Int.reduceLT, decide_eq_true_eq, Bool.not_eq_true, if_true, if_false, Bool.false_eq_true, ite_true, ite_false, Bool.not_true, Bool.not_false, decide_true, decide_false, tFor_eq, tLc_eq, iList, iTup, iRng1, iRng2, iStr, tSl, tPart, tNoPart, rSlL, cxOf_K, wipe, ex_ty2, kit_LTl, kit_LTt, kit_LTd, kit_LTs, kit_LTn, kit_LTb, kit_LTi, tM1, rIxS, exists_eq', lt1p, tDNewK, rSlS, rEqNil, ha, HO.ins.injEq]
    refine ⟨_, q, n, rfl, hx, ?_⟩
    try simp only [tSeq, tNext, tRet, tRetN, tAsg, gName, gSub, tDrop, tIfS, tOp, tUn, tCB, tCons, tNil, tC, tVar, rI, rI0, rU, tAnd, tOr, tNot, tAndV, tOrV, tNotV, tIf, tTest, tB, tCall, tChain, tLst, tTup, tYes, rIxH, rIsB, rIsBT, rMulS, kd_non, kd_bl, kd_int, kd_str, kd_ref, kdO_lst, kdO_tup, kdO_dK, nq_n, nq_b, nq_i, nq_s, nq_l, nq_t, nq_d, ne_eq, not_false_eq_true, kit_ss, kit_ns, kit_bs, kit_is, kit_ls, kit_ts, kit_ds, kit_bb, V.ty.injEq, and_assoc, rIxU, rLenH, rLenU, rLenS, rInt1, rSetL, rEq, rNe, rCat, L2.start, List.map, List.length, List.length_cons, List.length_nil, List.replicate, List.getElem?_cons_zero, List.getElem?_cons_succ, List.set_cons_zero, List.set_cons_succ, List.set_nil, List.cons_append, List.nil_append, List.append_nil, Option.some.injEq, V.int.injEq, V.ref.injEq, V.str.injEq, V.bl.injEq, HO.lst.injEq, HO.tup.injEq, exists_eq_left', exists_and_left, exists_eq_left, List.cons.injEq, and_true, true_and, and_false, false_and, and_self, reduceCtorEq, exists_false, or_false, false_or, exists_const, at0, at1, at2, at3, at4, at5, ix51, ix52, ix54, upd_same, Nat.reduceAdd, Nat.reduceSub, Nat.zero_add, Int.reduceToNat, Int.reduceLE, Int.reduceLT, decide_eq_true_eq, Bool.not_eq_true, if_true, if_false, Bool.false_eq_true, ite_true, ite_false, Bool.not_true, Bool.not_false, decide_true, decide_false, tFor_eq, tLc_eq, iList, iTup, iRng1, iRng2, iStr, tSl, tPart, tNoPart, rSlL, cxOf_K, wipe, ex_ty2, kit_LTl, kit_LTt, kit_LTd, kit_LTs, kit_LTn, kit_LTb, kit_LTi, tM1, rIxS, exists_eq', lt1p, tDNewK, rSlS, rEqNil, ha, HO.ins.injEq]
    refine ⟨_, q, n, rfl, hx, by decide, ?_⟩
    intro p n_p; generalize g_H1 : upd H p _ = H1; obtain ⟨s_H1, h_p⟩ := new_facts n_p g_H1; clear g_H1
    refine ⟨u, l, rfl, hl, hb, ?_⟩
    intro y n_y; generalize g_H2 : upd H1 y _ = H2; obtain ⟨s_H2, h_y⟩ := new_facts n_y g_H2; clear g_H2
    have sh : ∀ i j : Int, SeqAt.shaped (.tuple [.int i, .int j]) = true := fun i j => by
      unfold SeqAt.shaped
      simp [PyData.canLay0, PyData.canLayAll0, PyData.depth, PyData.depthAll]
    refine ⟨.tuple [.int q.num, .int q.den], .tuple [.int (Rat.divInt u l).num, .int (Rat.divInt u l).den], .tup (SqT.of (s_H2 _ _ h_p)) (.cons (.int _) (.cons (.int _) .nil)), .tup (SqT.of h_y) (.cons (.int _) (.cons (.int _) .nil)), sh _ _, sh _ _, ?_⟩
    have e : PyData.eqv (.tuple [.int q.num, .int q.den]) (.tuple [.int (Rat.divInt u l).num, .int (Rat.divInt u l).den]) = decide (q = Rat.divInt u l) := by
      have z := eq_num q (Rat.divInt u l)
      rw [Bool.eq_iff_iff, decide_eq_true_eq, ← z]
      simp [PyData.eqv, PyData.eqvAll]
    rw [e]
    exact k _ (s_H1.trans s_H2)
end

theorem make_go' {C : Addr} {E : XK} {vs dvs : List V} {H : Hp} {Q : VK} {t b : Int} {n : Nat} (e : vs ++ dvs = [.int t, .int b]) (hb : b ≠ 0) (h1 : t.natAbs < 2 ^ n) (h2 : b.natAbs < 2 ^ n) (hn : n ≤ 9000)
    (k : ∀ H' a dx, H a = none → Same H H' → H' a = some (.ins C dx (rf (Rat.divInt t b))) → Bd n (Rat.divInt t b) → Q (.ref a) H') : mkGo C (spInit C) dvs E vs H Q := by
  intro x dx nx nd ne
  rw [e]
  refine ⟨x, dx, t, b, rfl, hb, abs_mono h2 hn, upd_same, rfl, ?_⟩
  refine k _ x dx nx (fun c o hc => ?_) upd_same (bd_divInt h1 h2 hb)
  have c1 : c ≠ x := fun z => by rw [z, nx] at hc; cases hc
  have c2 : c ≠ dx := fun z => by rw [z, nd] at hc; cases hc
  rw [upd_ne c1, upd_ne c1, upd_ne c2]
  exact hc
theorem p97 : (100000000000000000000000000000 : Nat) ≤ 2 ^ 97 := by decide
theorem p97' : (2 : Nat) ^ 97 * 6 < 2 ^ 100 := by decide
theorem pickI (xs : List Int) {v : Int} (h0 : 0 ≤ v) (h1 : v < (xs.length : Int)) : ∃ i, atI (xs.map V.int) v = some (.int i) ∧ i ∈ xs := by
  obtain ⟨u, hu, hm, _⟩ := atI_ex (xs := xs.map V.int) h0 (by rw [List.length_map]; exact h1)
  obtain ⟨i, hi, rfl⟩ := List.mem_map.mp hm
  exact ⟨i, hu, hi⟩

def spInteger : Sp := fun vs H Q _ => ∃ (p l : Addr) (c : Nat), vs = [.ref p] ∧ PoolAt p l c H ∧ c ≤ 80000000 ∧ ∀ (i : Int) H', i.natAbs < 2 ^ 97 → PoolAt p l (c + 3) H' → OffS p l H H' → Q (.int i) H'
def spPair : Sp := fun vs H Q _ => ∃ (p l : Addr) (c : Nat), vs = [.ref p] ∧ PoolAt p l c H ∧ c ≤ 70000000 ∧ ∀ (a : Addr) (u b : Int) H', H a = none → H' a = some (.tup [.int u, .int b]) → b ≠ 0 → u.natAbs < 2 ^ 100 → b.natAbs < 2 ^ 100 → PoolAt p l (c + 8) H' → OffS p l H H' → Q (.ref a) H'
section
variable {P : Program} {w : World} {K : PySem.W.Frag} {mg : Str → Option Value} {base : Heap} {A : Adr}
theorem ok_integer (T : Txt K mg A) (gLawDraw : FnOk P w K mg base CX0 2 A.a_LawDraw A.d_LawDraw ["_law_pool_here", "_law_many"] spLawDraw) : FnOk P w K mg base CX0 3 A.a_LawInteger A.d_LawInteger ["_law_pool_here"] spInteger := by
  refine T.f_LawInteger.ok scLawInteger (fun vs H Q E h => ?_) (fun cdv A' outer s H vs Q E hr h => ?_)
  · obtain ⟨p, l, c, rfl, _⟩ := h
    rfl
  · obtain ⟨p, l, c, rfl, hp, hc, k⟩ := h
    refine ⟨_, (pss_cons (ps_set (i := 1) scLawInteger.nd rfl (Or.inl rfl) (pe_ix ix_lstH (pe_lst (pa_cons pe_int (pa_cons pe_int (pa_cons pe_int (pa_cons (pe_op op_pow pe_int pe_int) pa_nil))))) (pe_call gLawDraw (hr.mono (by decide)) (by rfl) T.m_LawDraw T.f_LawDraw.kp T.b_LawDraw .nil pass0 (pa_cons (pv 0) (pa_cons pe_int pa_nil))) (fun _ _ => rfl)))
      (pss_one (ps_ret (pe_op op_mulW (pe_call gLawDraw (hr.mono (by decide)) (by rfl) T.m_LawDraw T.f_LawDraw.kp T.b_LawDraw .nil pass0 (pa_cons (pv 0) (pa_cons (pv 1) pa_nil))) (pe_ix ix_lstH (pe_lst (pa_cons pe_int (pa_cons (pe_un un_neg pe_int) pa_nil))) (pe_call gLawDraw (hr.mono (by decide)) (by rfl) T.m_LawDraw T.f_LawDraw.kp T.b_LawDraw .nil pass0 (pa_cons (pv 0) (pa_cons pe_int pa_nil))) (fun _ _ => rfl)))))), ?_⟩
    try simp only [tSeq, tNext, tRet, tRetN, tAsg, gName, gSub, tDrop, tIfS, tOp, tUn, tCB, tCons, tNil, tC, tVar, rI, rI0, rU, tAnd, tOr, tNot, tAndV, tOrV, tNotV, tIf, tTest, tB, tCall, tChain, tLst, tTup, tYes, rIxH, rIsB, rIsBT, rMulS, kd_non, kd_bl, kd_int, kd_str, kd_ref, kdO_lst, kdO_tup, kdO_dK, nq_n, nq_b, nq_i, nq_s, nq_l, nq_t, nq_d, ne_eq, not_false_eq_true, kit_ss, kit_ns, kit_bs, kit_is, kit_ls, kit_ts, kit_ds, kit_bb, V.ty.injEq, and_assoc, rIxU, rLenH, rLenU, rLenS, rInt1, rSetL, rEq, rNe, rCat, L2.start, List.map, List.length, List.length_cons, List.length_nil, List.replicate, List.getElem?_cons_zero, List.getElem?_cons_succ, List.set_cons_zero, List.set_cons_succ, List.set_nil, List.cons_append, List.nil_append, List.append_nil, Option.some.injEq, V.int.injEq, V.ref.injEq, V.str.injEq, V.bl.injEq, HO.lst.injEq, HO.tup.injEq, exists_eq_left', exists_and_left, exists_eq_left, List.cons.injEq, and_true, true_and, and_false, false_and, and_self, reduceCtorEq, exists_false, or_false, false_or, exists_const, at0, at1, at2, at3, at4, at5, ix51, ix52, ix54, upd_same, Nat.reduceAdd, Nat.reduceSub, Nat.zero_add, Int.reduceToNat, Int.reduceLE, Int.reduceLT, decide_eq_true_eq, Bool.not_eq_true, if_true, if_false, Bool.false_eq_true, ite_true, ite_false, Bool.not_true, Bool.not_false, decide_true, decide_false, tFor_eq, tLc_eq, iList, iTup, iRng1, iRng2, iStr, tSl, tPart, tNoPart, rSlL, cxOf_K, wipe, ex_ty2, kit_LTl, kit_LTt, kit_LTd, kit_LTs, kit_LTn, kit_LTb, kit_LTi, tM1, rIxS, exists_eq', lt1p, tDNewK, rSlS, rEqNil]
    have w0 := wd0 hp
    refine ⟨⟨by decide, by decide, by decide⟩, by decide, ?_⟩
    intro q1 n_q1; generalize g_H1 : upd H q1 _ = H1; obtain ⟨s_H1, h_q1⟩ := new_facts n_q1 g_H1; clear g_H1; obtain ⟨G1, w_G1, k_G1, f_q1⟩ := w0.alloc n_q1 s_H1 h_q1
    refine ⟨p, l, 4, c, rfl, by decide, by decide, w_G1.pool, by omega, fun v H2 v0 v1 hp2 off2 => ?_⟩
    have w2 := w_G1.turn hp2 (Off.s off2)
    obtain ⟨z, hz, mz⟩ := pickI [9, 9, 40, 10 ^ 29] v0 v1
    simp only [List.map] at hz
    have z0 : 0 < z ∧ z ≤ 100000000000000000000000000000 := by
      simp only [List.mem_cons, List.not_mem_nil, or_false] at mz
      rcases mz with rfl | rfl | rfl | rfl <;> decide
    try simp only [tSeq, tNext, tRet, tRetN, tAsg, gName, gSub, tDrop, tIfS, tOp, tUn, tCB, tCons, tNil, tC, tVar, rI, rI0, rU, tAnd, tOr, tNot, tAndV, tOrV, tNotV, tIf, tTest, tB, tCall, tChain, tLst, tTup, tYes, rIxH, rIsB, rIsBT, rMulS, kd_non, kd_bl, kd_int, kd_str, kd_ref, kdO_lst, kdO_tup, kdO_dK, nq_n, nq_b, nq_i, nq_s, nq_l, nq_t, nq_d, ne_eq, not_false_eq_true, kit_ss, kit_ns, kit_bs, kit_is, kit_ls, kit_ts, kit_ds, kit_bb, V.ty.injEq, and_assoc, rIxU, rLenH, rLenU, rLenS, rInt1, rSetL, rEq, rNe, rCat, L2.start, List.map, List.length, List.length_cons, List.length_nil, List.replicate, List.getElem?_cons_zero, List.getElem?_cons_succ, List.set_cons_zero, List.set_cons_succ, List.set_nil, List.cons_append, List.nil_append, List.append_nil, Option.some.injEq, V.int.injEq, V.ref.injEq, V.str.injEq, V.bl.injEq, HO.lst.injEq, HO.tup.injEq, exists_eq_left', exists_and_left, exists_eq_left, List.cons.injEq, and_true, true_and, and_false, false_and, and_self, reduceCtorEq, exists_false, or_false, false_or, exists_const, at0, at1, at2, at3, at4, at5, ix51, ix52, ix54, upd_same, Nat.reduceAdd, Nat.reduceSub, Nat.zero_add, Int.reduceToNat, Int.reduceLE, Int.reduceLT, decide_eq_true_eq, Bool.not_eq_true, if_true, if_false, Bool.false_eq_true, ite_true, ite_false, Bool.not_true, Bool.not_false, decide_true, decide_false, tFor_eq, tLc_eq, iList, iTup, iRng1, iRng2, iStr, tSl, tPart, tNoPart, rSlL, cxOf_K, wipe, ex_ty2, kit_LTl, kit_LTt, kit_LTd, kit_LTs, kit_LTn, kit_LTb, kit_LTi, tM1, rIxS, exists_eq', lt1p, tDNewK, rSlS, rEqNil, w2.kn _ _ f_q1, hz]
    refine ⟨p, l, z, c + 1, rfl, z0.1, by omega, w2.pool, by omega, fun u H3 u0 u1 hp3 off3 => ?_⟩
    have w3 := w2.turn hp3 (Off.s off3)
    refine ⟨by decide, ?_⟩
    intro q2 n_q2; generalize g_H4 : upd H3 q2 _ = H4; obtain ⟨s_H4, h_q2⟩ := new_facts n_q2 g_H4; clear g_H4; obtain ⟨G4, w_G4, k_G4, f_q2⟩ := w3.alloc n_q2 s_H4 h_q2
    refine ⟨p, l, 2, c + 2, rfl, by decide, by decide, w_G4.pool, by omega, fun x H5 x0 x1 hp5 off5 => ?_⟩
    have w5 := w_G4.turn hp5 (Off.s off5)
    obtain ⟨y, hy, my⟩ := pickI [1, -1] x0 x1
    simp only [List.map] at hy
    have y0 : y = 1 ∨ y = -1 := by simpa using my
    try simp only [tSeq, tNext, tRet, tRetN, tAsg, gName, gSub, tDrop, tIfS, tOp, tUn, tCB, tCons, tNil, tC, tVar, rI, rI0, rU, tAnd, tOr, tNot, tAndV, tOrV, tNotV, tIf, tTest, tB, tCall, tChain, tLst, tTup, tYes, rIxH, rIsB, rIsBT, rMulS, kd_non, kd_bl, kd_int, kd_str, kd_ref, kdO_lst, kdO_tup, kdO_dK, nq_n, nq_b, nq_i, nq_s, nq_l, nq_t, nq_d, ne_eq, not_false_eq_true, kit_ss, kit_ns, kit_bs, kit_is, kit_ls, kit_ts, kit_ds, kit_bb, V.ty.injEq, and_assoc, rIxU, rLenH, rLenU, rLenS, rInt1, rSetL, rEq, rNe, rCat, L2.start, List.map, List.length, List.length_cons, List.length_nil, List.replicate, List.getElem?_cons_zero, List.getElem?_cons_succ, List.set_cons_zero, List.set_cons_succ, List.set_nil, List.cons_append, List.nil_append, List.append_nil, Option.some.injEq, V.int.injEq, V.ref.injEq, V.str.injEq, V.bl.injEq, HO.lst.injEq, HO.tup.injEq, exists_eq_left', exists_and_left, exists_eq_left, List.cons.injEq, and_true, true_and, and_false, false_and, and_self, reduceCtorEq, exists_false, or_false, false_or, exists_const, at0, at1, at2, at3, at4, at5, ix51, ix52, ix54, upd_same, Nat.reduceAdd, Nat.reduceSub, Nat.zero_add, Int.reduceToNat, Int.reduceLE, Int.reduceLT, decide_eq_true_eq, Bool.not_eq_true, if_true, if_false, Bool.false_eq_true, ite_true, ite_false, Bool.not_true, Bool.not_false, decide_true, decide_false, tFor_eq, tLc_eq, iList, iTup, iRng1, iRng2, iStr, tSl, tPart, tNoPart, rSlL, cxOf_K, wipe, ex_ty2, kit_LTl, kit_LTt, kit_LTd, kit_LTs, kit_LTn, kit_LTb, kit_LTi, tM1, rIxS, exists_eq', lt1p, tDNewK, rSlS, rEqNil, w5.kn _ _ f_q2, hy]
    have eu : u.natAbs < 2 ^ 97 := Nat.lt_of_lt_of_le (m := 100000000000000000000000000000) (by omega) p97
    have ey : y.natAbs < 2 ^ 1 := by rcases y0 with rfl | rfl <;> decide
    refine ⟨mulw eu ey (by omega), k _ H5 ?_ hp5 ?_⟩
    · rw [Int.natAbs_mul]
      rcases y0 with rfl | rfl <;> simpa using eu
    · exact (((same_off s_H1).trans (Off.s off2)).trans (Off.s off3)).trans ((same_off s_H4).trans (Off.s off5))
theorem ok_pair (T : Txt K mg A) (gLawDraw : FnOk P w K mg base CX0 2 A.a_LawDraw A.d_LawDraw ["_law_pool_here", "_law_many"] spLawDraw) (gLawInteger : FnOk P w K mg base CX0 3 A.a_LawInteger A.d_LawInteger ["_law_pool_here"] spInteger) : FnOk P w K mg base CX0 4 A.a_LawPair A.d_LawPair ["_law_pool_here"] spPair := by
  refine T.f_LawPair.ok scLawPair (fun vs H Q E h => ?_) (fun cdv A' outer s H vs Q E hr h => ?_)
  · obtain ⟨p, l, c, rfl, _⟩ := h
    rfl
  · obtain ⟨p, l, c, rfl, hp, hc, k⟩ := h
    refine ⟨_, (pss_cons (ps_par (i := 1) (j := 2) (by rfl) scLawPair.nd rfl rfl (by decide) rfl rfl (pa_cons (pe_call gLawInteger (hr.mono (by decide)) (by rfl) T.m_LawInteger T.f_LawInteger.kp T.b_LawInteger .nil pass0 (pa_cons (pv 0) pa_nil)) (pa_cons (pe_op op_add pe_int (pe_callB call_abs (by rfl) T.z_abs (by decide +kernel) (pa_cons (pe_call gLawInteger (hr.mono (by decide)) (by rfl) T.m_LawInteger T.f_LawInteger.kp T.b_LawInteger .nil pass0 (pa_cons (pv 0) pa_nil)) pa_nil))) pa_nil)) (by rfl))
      (pss_cons (ps_set (i := 3) scLawPair.nd rfl (Or.inl rfl) (pe_ix ix_lstH (pe_lst (pa_cons pe_int (pa_cons pe_int (pa_cons pe_int (pa_cons pe_int pa_nil))))) (pe_call gLawDraw (hr.mono (by decide)) (by rfl) T.m_LawDraw T.f_LawDraw.kp T.b_LawDraw .nil pass0 (pa_cons (pv 0) (pa_cons pe_int pa_nil))) (fun _ _ => rfl)))
      (pss_one (ps_ret (pe_tup (pa_cons (pe_op op_mulW (pv 1) (pv 3)) (pa_cons (pe_op op_mulW (pe_op op_mulW (pv 2) (pv 3)) (pe_ix ix_lstH (pe_lst (pa_cons pe_int (pa_cons (pe_un un_neg pe_int) pa_nil))) (pe_call gLawDraw (hr.mono (by decide)) (by rfl) T.m_LawDraw T.f_LawDraw.kp T.b_LawDraw .nil pass0 (pa_cons (pv 0) (pa_cons pe_int pa_nil))) (fun _ _ => rfl))) pa_nil))))))), ?_⟩
    try simp only [tSeq, tNext, tRet, tRetN, tAsg, gName, gSub, tDrop, tIfS, tOp, tUn, tCB, tCons, tNil, tC, tVar, rI, rI0, rU, tAnd, tOr, tNot, tAndV, tOrV, tNotV, tIf, tTest, tB, tCall, tChain, tLst, tTup, tYes, rIxH, rIsB, rIsBT, rMulS, kd_non, kd_bl, kd_int, kd_str, kd_ref, kdO_lst, kdO_tup, kdO_dK, nq_n, nq_b, nq_i, nq_s, nq_l, nq_t, nq_d, ne_eq, not_false_eq_true, kit_ss, kit_ns, kit_bs, kit_is, kit_ls, kit_ts, kit_ds, kit_bb, V.ty.injEq, and_assoc, rIxU, rLenH, rLenU, rLenS, rInt1, rSetL, rEq, rNe, rCat, L2.start, List.map, List.length, List.length_cons, List.length_nil, List.replicate, List.getElem?_cons_zero, List.getElem?_cons_succ, List.set_cons_zero, List.set_cons_succ, List.set_nil, List.cons_append, List.nil_append, List.append_nil, Option.some.injEq, V.int.injEq, V.ref.injEq, V.str.injEq, V.bl.injEq, HO.lst.injEq, HO.tup.injEq, exists_eq_left', exists_and_left, exists_eq_left, List.cons.injEq, and_true, true_and, and_false, false_and, and_self, reduceCtorEq, exists_false, or_false, false_or, exists_const, at0, at1, at2, at3, at4, at5, ix51, ix52, ix54, upd_same, Nat.reduceAdd, Nat.reduceSub, Nat.zero_add, Int.reduceToNat, Int.reduceLE, Int.reduceLT, decide_eq_true_eq, Bool.not_eq_true, if_true, if_false, Bool.false_eq_true, ite_true, ite_false, Bool.not_true, Bool.not_false, decide_true, decide_false, tFor_eq, tLc_eq, iList, iTup, iRng1, iRng2, iStr, tSl, tPart, tNoPart, rSlL, cxOf_K, wipe, ex_ty2, kit_LTl, kit_LTt, kit_LTd, kit_LTs, kit_LTn, kit_LTb, kit_LTi, tM1, rIxS, exists_eq', lt1p, tDNewK, rSlS, rEqNil, tPar]
    have w0 := wd0 hp
    refine ⟨p, l, c, rfl, hp, by omega, fun i H1 hi hp1 off1 => ?_⟩
    have w1 := w0.turn hp1 off1
    refine ⟨p, l, c + 3, rfl, hp1, by omega, fun j H2 hj hp2 off2 => ?_⟩
    have w2 := w1.turn hp2 off2
    try simp only [tSeq, tNext, tRet, tRetN, tAsg, gName, gSub, tDrop, tIfS, tOp, tUn, tCB, tCons, tNil, tC, tVar, rI, rI0, rU, tAnd, tOr, tNot, tAndV, tOrV, tNotV, tIf, tTest, tB, tCall, tChain, tLst, tTup, tYes, rIxH, rIsB, rIsBT, rMulS, kd_non, kd_bl, kd_int, kd_str, kd_ref, kdO_lst, kdO_tup, kdO_dK, nq_n, nq_b, nq_i, nq_s, nq_l, nq_t, nq_d, ne_eq, not_false_eq_true, kit_ss, kit_ns, kit_bs, kit_is, kit_ls, kit_ts, kit_ds, kit_bb, V.ty.injEq, and_assoc, rIxU, rLenH, rLenU, rLenS, rInt1, rSetL, rEq, rNe, rCat, L2.start, List.map, List.length, List.length_cons, List.length_nil, List.replicate, List.getElem?_cons_zero, List.getElem?_cons_succ, List.set_cons_zero, List.set_cons_succ, List.set_nil, List.cons_append, List.nil_append, List.append_nil, Option.some.injEq, V.int.injEq, V.ref.injEq, V.str.injEq, V.bl.injEq, HO.lst.injEq, HO.tup.injEq, exists_eq_left', exists_and_left, exists_eq_left, List.cons.injEq, and_true, true_and, and_false, false_and, and_self, reduceCtorEq, exists_false, or_false, false_or, exists_const, at0, at1, at2, at3, at4, at5, ix51, ix52, ix54, upd_same, Nat.reduceAdd, Nat.reduceSub, Nat.zero_add, Int.reduceToNat, Int.reduceLE, Int.reduceLT, decide_eq_true_eq, Bool.not_eq_true, if_true, if_false, Bool.false_eq_true, ite_true, ite_false, Bool.not_true, Bool.not_false, decide_true, decide_false, tFor_eq, tLc_eq, iList, iTup, iRng1, iRng2, iStr, tSl, tPart, tNoPart, rSlL, cxOf_K, wipe, ex_ty2, kit_LTl, kit_LTt, kit_LTd, kit_LTs, kit_LTn, kit_LTb, kit_LTi, tM1, rIxS, exists_eq', lt1p, tDNewK, rSlS, rEqNil, tPar]
    refine ⟨by decide, ?_⟩
    intro q1 n_q1; generalize g_H3 : upd H2 q1 _ = H3; obtain ⟨s_H3, h_q1⟩ := new_facts n_q1 g_H3; clear g_H3; obtain ⟨G3, w_G3, k_G3, f_q1⟩ := w2.alloc n_q1 s_H3 h_q1
    refine ⟨p, l, 4, c + 6, rfl, by decide, by decide, w_G3.pool, by omega, fun v H4 v0 v1 hp4 off4 => ?_⟩
    have w4 := w_G3.turn hp4 (Off.s off4)
    obtain ⟨z, hz, mz⟩ := pickI [1, 1, 2, 6] v0 v1
    simp only [List.map] at hz
    have z0 : 0 < z ∧ z ≤ 6 := by
      simp only [List.mem_cons, List.not_mem_nil, or_false] at mz
      rcases mz with rfl | rfl | rfl | rfl <;> decide
    have ez : z.natAbs < 2 ^ 3 := by omega
    have ej : (1 + if j < 0 then -j else j).natAbs < 2 ^ 98 := by
      have : (2 : Nat) ^ 98 = 2 ^ 97 + 2 ^ 97 := by decide
      split <;> omega
    have c1 : CMulW i z := mulw hi ez (by omega)
    have c2 : CMulW (1 + if j < 0 then -j else j) z := mulw ej ez (by omega)
    try simp only [tSeq, tNext, tRet, tRetN, tAsg, gName, gSub, tDrop, tIfS, tOp, tUn, tCB, tCons, tNil, tC, tVar, rI, rI0, rU, tAnd, tOr, tNot, tAndV, tOrV, tNotV, tIf, tTest, tB, tCall, tChain, tLst, tTup, tYes, rIxH, rIsB, rIsBT, rMulS, kd_non, kd_bl, kd_int, kd_str, kd_ref, kdO_lst, kdO_tup, kdO_dK, nq_n, nq_b, nq_i, nq_s, nq_l, nq_t, nq_d, ne_eq, not_false_eq_true, kit_ss, kit_ns, kit_bs, kit_is, kit_ls, kit_ts, kit_ds, kit_bb, V.ty.injEq, and_assoc, rIxU, rLenH, rLenU, rLenS, rInt1, rSetL, rEq, rNe, rCat, L2.start, List.map, List.length, List.length_cons, List.length_nil, List.replicate, List.getElem?_cons_zero, List.getElem?_cons_succ, List.set_cons_zero, List.set_cons_succ, List.set_nil, List.cons_append, List.nil_append, List.append_nil, Option.some.injEq, V.int.injEq, V.ref.injEq, V.str.injEq, V.bl.injEq, HO.lst.injEq, HO.tup.injEq, exists_eq_left', exists_and_left, exists_eq_left, List.cons.injEq, and_true, true_and, and_false, false_and, and_self, reduceCtorEq, exists_false, or_false, false_or, exists_const, at0, at1, at2, at3, at4, at5, ix51, ix52, ix54, upd_same, Nat.reduceAdd, Nat.reduceSub, Nat.zero_add, Int.reduceToNat, Int.reduceLE, Int.reduceLT, decide_eq_true_eq, Bool.not_eq_true, if_true, if_false, Bool.false_eq_true, ite_true, ite_false, Bool.not_true, Bool.not_false, decide_true, decide_false, tFor_eq, tLc_eq, iList, iTup, iRng1, iRng2, iStr, tSl, tPart, tNoPart, rSlL, cxOf_K, wipe, ex_ty2, kit_LTl, kit_LTt, kit_LTd, kit_LTs, kit_LTn, kit_LTb, kit_LTi, tM1, rIxS, exists_eq', lt1p, tDNewK, rSlS, rEqNil, w4.kn _ _ f_q1, hz, c1, c2]
    refine ⟨by decide, ?_⟩
    intro q2 n_q2; generalize g_H5 : upd H4 q2 _ = H5; obtain ⟨s_H5, h_q2⟩ := new_facts n_q2 g_H5; clear g_H5; obtain ⟨G5, w_G5, k_G5, f_q2⟩ := w4.alloc n_q2 s_H5 h_q2
    refine ⟨p, l, 2, c + 7, rfl, by decide, by decide, w_G5.pool, by omega, fun x H6 x0 x1 hp6 off6 => ?_⟩
    have w6 := w_G5.turn hp6 (Off.s off6)
    obtain ⟨y, hy, my⟩ := pickI [1, -1] x0 x1
    simp only [List.map] at hy
    have y0 : y = 1 ∨ y = -1 := by simpa using my
    have ey : y.natAbs < 2 ^ 1 := by rcases y0 with rfl | rfl <;> decide
    have ejz := abs_mul ej ez
    have c3 : CMulW ((1 + if j < 0 then -j else j) * z) y := mulw ejz ey (by omega)
    try simp only [tSeq, tNext, tRet, tRetN, tAsg, gName, gSub, tDrop, tIfS, tOp, tUn, tCB, tCons, tNil, tC, tVar, rI, rI0, rU, tAnd, tOr, tNot, tAndV, tOrV, tNotV, tIf, tTest, tB, tCall, tChain, tLst, tTup, tYes, rIxH, rIsB, rIsBT, rMulS, kd_non, kd_bl, kd_int, kd_str, kd_ref, kdO_lst, kdO_tup, kdO_dK, nq_n, nq_b, nq_i, nq_s, nq_l, nq_t, nq_d, ne_eq, not_false_eq_true, kit_ss, kit_ns, kit_bs, kit_is, kit_ls, kit_ts, kit_ds, kit_bb, V.ty.injEq, and_assoc, rIxU, rLenH, rLenU, rLenS, rInt1, rSetL, rEq, rNe, rCat, L2.start, List.map, List.length, List.length_cons, List.length_nil, List.replicate, List.getElem?_cons_zero, List.getElem?_cons_succ, List.set_cons_zero, List.set_cons_succ, List.set_nil, List.cons_append, List.nil_append, List.append_nil, Option.some.injEq, V.int.injEq, V.ref.injEq, V.str.injEq, V.bl.injEq, HO.lst.injEq, HO.tup.injEq, exists_eq_left', exists_and_left, exists_eq_left, List.cons.injEq, and_true, true_and, and_false, false_and, and_self, reduceCtorEq, exists_false, or_false, false_or, exists_const, at0, at1, at2, at3, at4, at5, ix51, ix52, ix54, upd_same, Nat.reduceAdd, Nat.reduceSub, Nat.zero_add, Int.reduceToNat, Int.reduceLE, Int.reduceLT, decide_eq_true_eq, Bool.not_eq_true, if_true, if_false, Bool.false_eq_true, ite_true, ite_false, Bool.not_true, Bool.not_false, decide_true, decide_false, tFor_eq, tLc_eq, iList, iTup, iRng1, iRng2, iStr, tSl, tPart, tNoPart, rSlL, cxOf_K, wipe, ex_ty2, kit_LTl, kit_LTt, kit_LTd, kit_LTs, kit_LTn, kit_LTb, kit_LTi, tM1, rIxS, exists_eq', lt1p, tDNewK, rSlS, rEqNil, w6.kn _ _ f_q2, hy, c3]
    refine ⟨by decide, fun q3 n3 => ?_⟩
    have jz : (1 + if j < 0 then -j else j).natAbs * z.natAbs < 2 ^ 100 := by
      have h1 : (1 + if j < 0 then -j else j).natAbs ≤ 2 ^ 97 := by split <;> omega
      exact Nat.lt_of_le_of_lt (Nat.mul_le_mul h1 (by omega : z.natAbs ≤ 6)) p97'
    have off : OffS p l H H6 := ((off1.trans off2).trans ((same_off s_H3).trans (Off.s off4))).trans ((same_off s_H5).trans (Off.s off6))
    have np := hp6.np n3
    refine k q3 _ _ _ ?_ upd_same ?_ ?_ ?_ ?_ ?_
    · cases e : H q3 with
      | none => rfl
      | some o =>
        rw [off q3 o np.1 np.2 e] at n3
        cases n3
    · have h1 : (1 + if j < 0 then -j else j) ≠ 0 := by split <;> omega
      exact Int.mul_ne_zero (Int.mul_ne_zero h1 (by omega)) (by rcases y0 with rfl | rfl <;> decide)
    · rw [Int.natAbs_mul]
      exact Nat.lt_of_le_of_lt (Nat.mul_le_mul (Nat.le_of_lt hi) (by omega : z.natAbs ≤ 6)) p97'
    · rw [Int.natAbs_mul, Int.natAbs_mul]
      rcases y0 with rfl | rfl <;> simpa using jz
    · exact hp6.same (same_new n3)
    · exact off.trans (same_off (same_new n3))
end



section
variable {X : Cx}
theorem mem_bools {hp : Heap} : ∀ {bs : List Bool} {its : List Value}, Vals (bs.map V.bl) its → ReadsAll hp its (bs.map PyData.bool) []
  | [], _, h => by cases h; exact .nil
  | b :: r, _, h => by
    cases h with
    | cons h1 h2 =>
      cases h1
      exact .cons (as := []) (.bool b) (mem_bools h2)
theorem count_bools (k : Bool) : ∀ bs : List Bool, Spec.countIn (.bool k) (bs.map PyData.bool) = (bs.count k : Nat)
  | [] => rfl
  | b :: r => by
    rw [List.map_cons, Spec.countIn, count_bools k r, List.count_cons]
    cases b <;> cases k <;> simp [Spec.same] <;> omega
def rCountB : V → List V → Hp → VK → Prop := fun x xs H Q => ∃ (a : Addr) (bs : List Bool) (k : Bool), x = V.ref a ∧ xs = [.bl k] ∧ H a = some (.lst (bs.map V.bl)) ∧ Q (.int (bs.count k : Nat)) H
theorem mt_countB : MtR X "list.count" rCountB := by
  intro pins s σ H x xs v us Q I rx rxs h
  obtain ⟨a, bs, k, rfl, rfl, hs, q⟩ := h
  cases rx
  cases rxs with
  | cons ry rt =>
    cases ry
    cases rt
    obtain ⟨its, rv, ⟨o, n, ho, hc, hdn, hd⟩, hlen⟩ := I.list (SqL.of hs)
    refine PyProof.Rows.count_list_bools (vs := its) (xs := bs.map PyData.bool) (as := []) (hp := s.heap) ⟨o, ho, hc, n, hd⟩ (mem_bools rv) (by simp [Spec.Shape.has]) ?_
    rw [count_bools]
    exact ⟨.int (bs.count k : Nat), H, I.tok _, ⟨_, rfl⟩, q⟩
end

/-! ### _law_kind, _law_caught -/
def words : List Str := ["number", "text", "name", "parents", "version", "history", "layout", "prices", "telling", "deeds", "line", "ranges", "command", "parse", "many", "undo"]
def wordOf (j : Nat) : Str := words.getD j Str.empty
def spKind (K : PySem.W.Frag) (A : Adr) : Sp := fun vs H Q _ => ∃ (a D dd : Addr) (fs : List (Str × V)) (j : Nat), vs = [.ref a] ∧ H a = some (XO (.ref D) (some dd) a) ∧ H dd = some (.xd fs) ∧ KindAt K (errAt A) A.k_LineError A.k_TooMany A.k_NothingToUndo D j ∧ ∀ H', Same H H' → Q (.str (wordOf j)) H'
def kb (j : Nat) : List Bool := (List.range 16).map fun i => decide (i = j)
theorem kb_count {j : Nat} (h : j < 13) : (((kb j).count true : Nat) : Int) = 1 := by
  rcases j with _ | _ | _ | _ | _ | _ | _ | _ | _ | _ | _ | _ | _ | j <;> first | decide | omega
theorem kb_at {j : Nat} (h : j < 13) : ((kb j).map V.bl)[j]? = some (.bl true) := by
  rcases j with _ | _ | _ | _ | _ | _ | _ | _ | _ | _ | _ | _ | _ | j <;> first | rfl | omega
theorem kb_not {j : Nat} (h : j < 13) : ∀ (m : Nat) (z' : V), m < j → ((kb j).map V.bl)[m]? = some z' → eqV z' (.bl true) = false := fun m z' hm e => by
  have hm16 : m < 16 := by omega
  unfold kb at e
  rw [List.map_map, List.getElem?_map, List.getElem?_range hm16] at e
  have e := Option.some.inj e
  subst e
  show eqV (.bl (decide (m = j))) (.bl true) = false
  rw [decide_eq_false (by omega)]
  rfl
theorem words_at {j : Nat} (h : j < 13) : atI (words.map V.str) (j : Int) = some (.str (wordOf j)) := by
  refine atI_nat ?_
  rw [List.getElem?_map]
  rcases j with _ | _ | _ | _ | _ | _ | _ | _ | _ | _ | _ | _ | _ | j <;> first | rfl | omega
section
variable {w : World} {K : PySem.W.Frag} {mg : Str → Option Value} {base : Heap} {A : Adr}
theorem ok_kind (T : Txt K mg A) : FnOk PW w K mg base CX0 1 A.a_LawKind A.d_LawKind ["_law_error"] (spKind K A) := by
  refine T.f_LawKind.ok scLawKind (fun vs H Q E h => ?_) (fun cdv A' outer s H vs Q E hr h => ?_)
  · obtain ⟨a, D, dd, fs, j, rfl, _⟩ := h
    rfl
  · obtain ⟨a, D, dd, fs, j, rfl, ha, hd, hk, k⟩ := h
    refine ⟨_, (pss_cons (ps_set (i := 1) scLawKind.nd rfl (Or.inl rfl) (pe_lst (pa_cons (pe_callB call_isX (by rfl) T.z_isinstance (by decide +kernel) (pa_cons (pv 0) (pa_cons (pe_glob (v := .ref A.k_InvalidNumber) (by rfl) T.k_InvalidNumber rfl) pa_nil))) (pa_cons (pe_callB call_isX (by rfl) T.z_isinstance (by decide +kernel) (pa_cons (pv 0) (pa_cons (pe_glob (v := .ref A.k_InvalidText) (by rfl) T.k_InvalidText rfl) pa_nil))) (pa_cons (pe_callB call_isX (by rfl) T.z_isinstance (by decide +kernel) (pa_cons (pv 0) (pa_cons (pe_glob (v := .ref A.k_InvalidName) (by rfl) T.k_InvalidName rfl) pa_nil))) pa_nil)))))
      (pss_cons (ps_set (i := 1) scLawKind.nd rfl (Or.inl rfl) (pe_op op_cat (pv 1) (pe_lst (pa_cons (pe_callB call_isX (by rfl) T.z_isinstance (by decide +kernel) (pa_cons (pv 0) (pa_cons (pe_glob (v := .ref A.k_InvalidParents) (by rfl) T.k_InvalidParents rfl) pa_nil))) (pa_cons (pe_callB call_isX (by rfl) T.z_isinstance (by decide +kernel) (pa_cons (pv 0) (pa_cons (pe_glob (v := .ref A.k_InvalidVersion) (by rfl) T.k_InvalidVersion rfl) pa_nil))) pa_nil)))))
      (pss_cons (ps_set (i := 1) scLawKind.nd rfl (Or.inl rfl) (pe_op op_cat (pv 1) (pe_lst (pa_cons (pe_callB call_isX (by rfl) T.z_isinstance (by decide +kernel) (pa_cons (pv 0) (pa_cons (pe_glob (v := .ref A.k_InvalidHistory) (by rfl) T.k_InvalidHistory rfl) pa_nil))) (pa_cons (pe_callB call_isX (by rfl) T.z_isinstance (by decide +kernel) (pa_cons (pv 0) (pa_cons (pe_glob (v := .ref A.k_InvalidLayout) (by rfl) T.k_InvalidLayout rfl) pa_nil))) pa_nil)))))
      (pss_cons (ps_set (i := 1) scLawKind.nd rfl (Or.inl rfl) (pe_op op_cat (pv 1) (pe_lst (pa_cons (pe_callB call_isX (by rfl) T.z_isinstance (by decide +kernel) (pa_cons (pv 0) (pa_cons (pe_glob (v := .ref A.k_InvalidPrices) (by rfl) T.k_InvalidPrices rfl) pa_nil))) (pa_cons (pe_callB call_isX (by rfl) T.z_isinstance (by decide +kernel) (pa_cons (pv 0) (pa_cons (pe_glob (v := .ref A.k_InvalidTelling) (by rfl) T.k_InvalidTelling rfl) pa_nil))) pa_nil)))))
      (pss_cons (ps_set (i := 1) scLawKind.nd rfl (Or.inl rfl) (pe_op op_cat (pv 1) (pe_lst (pa_cons (pe_callB call_isX (by rfl) T.z_isinstance (by decide +kernel) (pa_cons (pv 0) (pa_cons (pe_glob (v := .ref A.k_InvalidDeeds) (by rfl) T.k_InvalidDeeds rfl) pa_nil))) (pa_cons (pe_callB call_isX (by rfl) T.z_isinstance (by decide +kernel) (pa_cons (pv 0) (pa_cons (pe_glob (v := .ref A.k_InvalidLine) (by rfl) T.k_InvalidLine rfl) pa_nil))) pa_nil)))))
      (pss_cons (ps_set (i := 1) scLawKind.nd rfl (Or.inl rfl) (pe_op op_cat (pv 1) (pe_lst (pa_cons (pe_callB call_isX (by rfl) T.z_isinstance (by decide +kernel) (pa_cons (pv 0) (pa_cons (pe_glob (v := .ref A.k_InvalidRanges) (by rfl) T.k_InvalidRanges rfl) pa_nil))) (pa_cons (pe_callB call_isX (by rfl) T.z_isinstance (by decide +kernel) (pa_cons (pv 0) (pa_cons (pe_glob (v := .ref A.k_InvalidCommand) (by rfl) T.k_InvalidCommand rfl) pa_nil))) pa_nil)))))
      (pss_cons (ps_set (i := 1) scLawKind.nd rfl (Or.inl rfl) (pe_op op_cat (pv 1) (pe_lst (pa_cons (pe_callB call_isX (by rfl) T.z_isinstance (by decide +kernel) (pa_cons (pv 0) (pa_cons (pe_glob (v := .ref A.k_ParseError) (by rfl) T.k_ParseError rfl) pa_nil))) (pa_cons (pe_callB call_isX (by rfl) T.z_isinstance (by decide +kernel) (pa_cons (pv 0) (pa_cons (pe_glob (v := .ref A.k_TooMany) (by rfl) T.k_TooMany rfl) pa_nil))) (pa_cons (pe_callB call_isX (by rfl) T.z_isinstance (by decide +kernel) (pa_cons (pv 0) (pa_cons (pe_glob (v := .ref A.k_NothingToUndo) (by rfl) T.k_NothingToUndo rfl) pa_nil))) pa_nil))))))
      (pss_cons (ps_if (PW.pt (pw_or (pt_cmpR (op_ne) (pe_bm PySem.F.plainAttrs_list PySem.F.slot_list_count PySem.F.type_list_count mt_countB (pv 1) (pa_cons pe_bl pa_nil)) pe_int (nomark _)) (pw_or1 (pt_cmpR (op_ne) (pe_callB call_isX (by rfl) T.z_isinstance (by decide +kernel) (pa_cons (pv 0) (pa_cons (pe_bltn (v := .ty "ValueError") (by rfl) T.z_ValueError (by decide +kernel) rfl) pa_nil))) (pe_cmpR (op_lt) (pe_bm PySem.F.plainAttrs_list PySem.F.slot_list_index PySem.F.type_list_index mt_index (pv 1) (pa_cons pe_bl pa_nil)) pe_int (nomark _)) (nomark _))))) (pss_one (ps_ret pe_str)) pss_nil)
      (pss_cons (ps_set (i := 2) scLawKind.nd rfl (Or.inl rfl) (pe_lst (pa_cons pe_str (pa_cons pe_str (pa_cons pe_str (pa_cons pe_str (pa_cons pe_str (pa_cons pe_str (pa_cons pe_str (pa_cons pe_str (pa_cons pe_str (pa_cons pe_str pa_nil))))))))))))
      (pss_one (ps_ret (pe_ix ix_lstH (pe_op op_cat (pv 2) (pe_lst (pa_cons pe_str (pa_cons pe_str (pa_cons pe_str (pa_cons pe_str (pa_cons pe_str (pa_cons pe_str pa_nil)))))))) (pe_bm PySem.F.plainAttrs_list PySem.F.slot_list_index PySem.F.type_list_index mt_index (pv 1) (pa_cons pe_bl pa_nil)) (fun _ _ => rfl))))))))))))), ?_⟩
    have isx : ∀ (H' : Hp), Same H H' → ∀ i, i < 16 → ∀ Q : VK, Q (.bl (decide (i = j))) H' → rIsX K [.ref a, .ref (errAt A i)] H' Q := fun H' s i hi Q q => ⟨a, D, dd, fs, _, _, _, rfl, s _ _ ha, s _ _ hd, hk.xi, clsV_ref, hk.kit i hi, q⟩
    have isv : ∀ (H' : Hp), Same H H' → ∀ Q : VK, Q (.bl true) H' → rIsX K [.ref a, .ty "ValueError"] H' Q := fun H' s Q q => ⟨a, D, dd, fs, _, _, _, rfl, s _ _ ha, s _ _ hd, hk.xi, clsV_ty, hk.ve, q⟩
    have r0 := Same.refl H
    try simp only [tSeq, tNext, tRet, tRetN, tAsg, gName, gSub, tDrop, tIfS, tOp, tUn, tCB, tCons, tNil, tC, tVar, rI, rI0, rU, tAnd, tOr, tNot, tAndV, tOrV, tNotV, tIf, tTest, tB, tCall, tChain, tLst, tTup, tYes, rIxH, rIsB, rIsBT, rMulS, kd_non, kd_bl, kd_int, kd_str, kd_ref, kdO_lst, kdO_tup, kdO_dK, nq_n, nq_b, nq_i, nq_s, nq_l, nq_t, nq_d, ne_eq, not_false_eq_true, kit_ss, kit_ns, kit_bs, kit_is, kit_ls, kit_ts, kit_ds, kit_bb, V.ty.injEq, and_assoc, rIxU, rLenH, rLenU, rLenS, rInt1, rSetL, rEq, rNe, rCat, L2.start, List.map, List.length, List.length_cons, List.length_nil, List.replicate, List.getElem?_cons_zero, List.getElem?_cons_succ, List.set_cons_zero, List.set_cons_succ, List.set_nil, List.cons_append, List.nil_append, List.append_nil, Option.some.injEq, V.int.injEq, V.ref.injEq, V.str.injEq, V.bl.injEq, HO.lst.injEq, HO.tup.injEq, exists_eq_left', exists_and_left, exists_eq_left, List.cons.injEq, and_true, true_and, and_false, false_and, and_self, reduceCtorEq, exists_false, or_false, false_or, exists_const, at0, at1, at2, at3, at4, at5, ix51, ix52, ix54, upd_same, Nat.reduceAdd, Nat.reduceSub, Nat.zero_add, Int.reduceToNat, Int.reduceLE, Int.reduceLT, decide_eq_true_eq, Bool.not_eq_true, if_true, if_false, Bool.false_eq_true, ite_true, ite_false, Bool.not_true, Bool.not_false, decide_true, decide_false, tFor_eq, tLc_eq, iList, iTup, iRng1, iRng2, iStr, tSl, tPart, tNoPart, rSlL, cxOf_K, wipe, ex_ty2, kit_LTl, kit_LTt, kit_LTd, kit_LTs, kit_LTn, kit_LTb, kit_LTi, tM1, rIxS, exists_eq', lt1p, tDNewK, rSlS, rEqNil, nox_K]
    refine isx H r0 0 (by decide) _ (isx H r0 1 (by decide) _ (isx H r0 2 (by decide) _ ?_))
    refine ⟨by decide, ?_⟩
    intro p1 n_p1; generalize g_H1 : upd H p1 _ = H1; obtain ⟨s_H1, h_p1⟩ := new_facts n_p1 g_H1; clear g_H1
    have r1 := s_H1
    refine isx H1 r1 3 (by decide) _ (isx H1 r1 4 (by decide) _ ?_)
    refine ⟨by decide, ?_⟩
    intro p2 n_p2; generalize g_H2 : upd H1 p2 _ = H2; obtain ⟨s_H2, h_p2⟩ := new_facts n_p2 g_H2; clear g_H2
    have r2 := r1.trans s_H2
    try simp only [tSeq, tNext, tRet, tRetN, tAsg, gName, gSub, tDrop, tIfS, tOp, tUn, tCB, tCons, tNil, tC, tVar, rI, rI0, rU, tAnd, tOr, tNot, tAndV, tOrV, tNotV, tIf, tTest, tB, tCall, tChain, tLst, tTup, tYes, rIxH, rIsB, rIsBT, rMulS, kd_non, kd_bl, kd_int, kd_str, kd_ref, kdO_lst, kdO_tup, kdO_dK, nq_n, nq_b, nq_i, nq_s, nq_l, nq_t, nq_d, ne_eq, not_false_eq_true, kit_ss, kit_ns, kit_bs, kit_is, kit_ls, kit_ts, kit_ds, kit_bb, V.ty.injEq, and_assoc, rIxU, rLenH, rLenU, rLenS, rInt1, rSetL, rEq, rNe, rCat, L2.start, List.map, List.length, List.length_cons, List.length_nil, List.replicate, List.getElem?_cons_zero, List.getElem?_cons_succ, List.set_cons_zero, List.set_cons_succ, List.set_nil, List.cons_append, List.nil_append, List.append_nil, Option.some.injEq, V.int.injEq, V.ref.injEq, V.str.injEq, V.bl.injEq, HO.lst.injEq, HO.tup.injEq, exists_eq_left', exists_and_left, exists_eq_left, List.cons.injEq, and_true, true_and, and_false, false_and, and_self, reduceCtorEq, exists_false, or_false, false_or, exists_const, at0, at1, at2, at3, at4, at5, ix51, ix52, ix54, upd_same, Nat.reduceAdd, Nat.reduceSub, Nat.zero_add, Int.reduceToNat, Int.reduceLE, Int.reduceLT, decide_eq_true_eq, Bool.not_eq_true, if_true, if_false, Bool.false_eq_true, ite_true, ite_false, Bool.not_true, Bool.not_false, decide_true, decide_false, tFor_eq, tLc_eq, iList, iTup, iRng1, iRng2, iStr, tSl, tPart, tNoPart, rSlL, cxOf_K, wipe, ex_ty2, kit_LTl, kit_LTt, kit_LTd, kit_LTs, kit_LTn, kit_LTb, kit_LTi, tM1, rIxS, exists_eq', lt1p, tDNewK, rSlS, rEqNil, s_H2 _ _ h_p1, h_p2]
    refine ⟨by decide, ?_⟩
    intro p3 n_p3; generalize g_H3 : upd H2 p3 _ = H3; obtain ⟨s_H3, h_p3⟩ := new_facts n_p3 g_H3; clear g_H3
    have r3 := r2.trans s_H3
    refine isx H3 r3 5 (by decide) _ (isx H3 r3 6 (by decide) _ ?_)
    refine ⟨by decide, ?_⟩
    intro p4 n_p4; generalize g_H4 : upd H3 p4 _ = H4; obtain ⟨s_H4, h_p4⟩ := new_facts n_p4 g_H4; clear g_H4
    have r4 := r3.trans s_H4
    try simp only [tSeq, tNext, tRet, tRetN, tAsg, gName, gSub, tDrop, tIfS, tOp, tUn, tCB, tCons, tNil, tC, tVar, rI, rI0, rU, tAnd, tOr, tNot, tAndV, tOrV, tNotV, tIf, tTest, tB, tCall, tChain, tLst, tTup, tYes, rIxH, rIsB, rIsBT, rMulS, kd_non, kd_bl, kd_int, kd_str, kd_ref, kdO_lst, kdO_tup, kdO_dK, nq_n, nq_b, nq_i, nq_s, nq_l, nq_t, nq_d, ne_eq, not_false_eq_true, kit_ss, kit_ns, kit_bs, kit_is, kit_ls, kit_ts, kit_ds, kit_bb, V.ty.injEq, and_assoc, rIxU, rLenH, rLenU, rLenS, rInt1, rSetL, rEq, rNe, rCat, L2.start, List.map, List.length, List.length_cons, List.length_nil, List.replicate, List.getElem?_cons_zero, List.getElem?_cons_succ, List.set_cons_zero, List.set_cons_succ, List.set_nil, List.cons_append, List.nil_append, List.append_nil, Option.some.injEq, V.int.injEq, V.ref.injEq, V.str.injEq, V.bl.injEq, HO.lst.injEq, HO.tup.injEq, exists_eq_left', exists_and_left, exists_eq_left, List.cons.injEq, and_true, true_and, and_false, false_and, and_self, reduceCtorEq, exists_false, or_false, false_or, exists_const, at0, at1, at2, at3, at4, at5, ix51, ix52, ix54, upd_same, Nat.reduceAdd, Nat.reduceSub, Nat.zero_add, Int.reduceToNat, Int.reduceLE, Int.reduceLT, decide_eq_true_eq, Bool.not_eq_true, if_true, if_false, Bool.false_eq_true, ite_true, ite_false, Bool.not_true, Bool.not_false, decide_true, decide_false, tFor_eq, tLc_eq, iList, iTup, iRng1, iRng2, iStr, tSl, tPart, tNoPart, rSlL, cxOf_K, wipe, ex_ty2, kit_LTl, kit_LTt, kit_LTd, kit_LTs, kit_LTn, kit_LTb, kit_LTi, tM1, rIxS, exists_eq', lt1p, tDNewK, rSlS, rEqNil, s_H4 _ _ h_p3, h_p4]
    refine ⟨by decide, ?_⟩
    intro p5 n_p5; generalize g_H5 : upd H4 p5 _ = H5; obtain ⟨s_H5, h_p5⟩ := new_facts n_p5 g_H5; clear g_H5
    have r5 := r4.trans s_H5
    refine isx H5 r5 7 (by decide) _ (isx H5 r5 8 (by decide) _ ?_)
    refine ⟨by decide, ?_⟩
    intro p6 n_p6; generalize g_H6 : upd H5 p6 _ = H6; obtain ⟨s_H6, h_p6⟩ := new_facts n_p6 g_H6; clear g_H6
    have r6 := r5.trans s_H6
    try simp only [tSeq, tNext, tRet, tRetN, tAsg, gName, gSub, tDrop, tIfS, tOp, tUn, tCB, tCons, tNil, tC, tVar, rI, rI0, rU, tAnd, tOr, tNot, tAndV, tOrV, tNotV, tIf, tTest, tB, tCall, tChain, tLst, tTup, tYes, rIxH, rIsB, rIsBT, rMulS, kd_non, kd_bl, kd_int, kd_str, kd_ref, kdO_lst, kdO_tup, kdO_dK, nq_n, nq_b, nq_i, nq_s, nq_l, nq_t, nq_d, ne_eq, not_false_eq_true, kit_ss, kit_ns, kit_bs, kit_is, kit_ls, kit_ts, kit_ds, kit_bb, V.ty.injEq, and_assoc, rIxU, rLenH, rLenU, rLenS, rInt1, rSetL, rEq, rNe, rCat, L2.start, List.map, List.length, List.length_cons, List.length_nil, List.replicate, List.getElem?_cons_zero, List.getElem?_cons_succ, List.set_cons_zero, List.set_cons_succ, List.set_nil, List.cons_append, List.nil_append, List.append_nil, Option.some.injEq, V.int.injEq, V.ref.injEq, V.str.injEq, V.bl.injEq, HO.lst.injEq, HO.tup.injEq, exists_eq_left', exists_and_left, exists_eq_left, List.cons.injEq, and_true, true_and, and_false, false_and, and_self, reduceCtorEq, exists_false, or_false, false_or, exists_const, at0, at1, at2, at3, at4, at5, ix51, ix52, ix54, upd_same, Nat.reduceAdd, Nat.reduceSub, Nat.zero_add, Int.reduceToNat, Int.reduceLE, Int.reduceLT, decide_eq_true_eq, Bool.not_eq_true, if_true, if_false, Bool.false_eq_true, ite_true, ite_false, Bool.not_true, Bool.not_false, decide_true, decide_false, tFor_eq, tLc_eq, iList, iTup, iRng1, iRng2, iStr, tSl, tPart, tNoPart, rSlL, cxOf_K, wipe, ex_ty2, kit_LTl, kit_LTt, kit_LTd, kit_LTs, kit_LTn, kit_LTb, kit_LTi, tM1, rIxS, exists_eq', lt1p, tDNewK, rSlS, rEqNil, s_H6 _ _ h_p5, h_p6]
    refine ⟨by decide, ?_⟩
    intro p7 n_p7; generalize g_H7 : upd H6 p7 _ = H7; obtain ⟨s_H7, h_p7⟩ := new_facts n_p7 g_H7; clear g_H7
    have r7 := r6.trans s_H7
    refine isx H7 r7 9 (by decide) _ (isx H7 r7 10 (by decide) _ ?_)
    refine ⟨by decide, ?_⟩
    intro p8 n_p8; generalize g_H8 : upd H7 p8 _ = H8; obtain ⟨s_H8, h_p8⟩ := new_facts n_p8 g_H8; clear g_H8
    have r8 := r7.trans s_H8
    try simp only [tSeq, tNext, tRet, tRetN, tAsg, gName, gSub, tDrop, tIfS, tOp, tUn, tCB, tCons, tNil, tC, tVar, rI, rI0, rU, tAnd, tOr, tNot, tAndV, tOrV, tNotV, tIf, tTest, tB, tCall, tChain, tLst, tTup, tYes, rIxH, rIsB, rIsBT, rMulS, kd_non, kd_bl, kd_int, kd_str, kd_ref, kdO_lst, kdO_tup, kdO_dK, nq_n, nq_b, nq_i, nq_s, nq_l, nq_t, nq_d, ne_eq, not_false_eq_true, kit_ss, kit_ns, kit_bs, kit_is, kit_ls, kit_ts, kit_ds, kit_bb, V.ty.injEq, and_assoc, rIxU, rLenH, rLenU, rLenS, rInt1, rSetL, rEq, rNe, rCat, L2.start, List.map, List.length, List.length_cons, List.length_nil, List.replicate, List.getElem?_cons_zero, List.getElem?_cons_succ, List.set_cons_zero, List.set_cons_succ, List.set_nil, List.cons_append, List.nil_append, List.append_nil, Option.some.injEq, V.int.injEq, V.ref.injEq, V.str.injEq, V.bl.injEq, HO.lst.injEq, HO.tup.injEq, exists_eq_left', exists_and_left, exists_eq_left, List.cons.injEq, and_true, true_and, and_false, false_and, and_self, reduceCtorEq, exists_false, or_false, false_or, exists_const, at0, at1, at2, at3, at4, at5, ix51, ix52, ix54, upd_same, Nat.reduceAdd, Nat.reduceSub, Nat.zero_add, Int.reduceToNat, Int.reduceLE, Int.reduceLT, decide_eq_true_eq, Bool.not_eq_true, if_true, if_false, Bool.false_eq_true, ite_true, ite_false, Bool.not_true, Bool.not_false, decide_true, decide_false, tFor_eq, tLc_eq, iList, iTup, iRng1, iRng2, iStr, tSl, tPart, tNoPart, rSlL, cxOf_K, wipe, ex_ty2, kit_LTl, kit_LTt, kit_LTd, kit_LTs, kit_LTn, kit_LTb, kit_LTi, tM1, rIxS, exists_eq', lt1p, tDNewK, rSlS, rEqNil, s_H8 _ _ h_p7, h_p8]
    refine ⟨by decide, ?_⟩
    intro p9 n_p9; generalize g_H9 : upd H8 p9 _ = H9; obtain ⟨s_H9, h_p9⟩ := new_facts n_p9 g_H9; clear g_H9
    have r9 := r8.trans s_H9
    refine isx H9 r9 11 (by decide) _ (isx H9 r9 12 (by decide) _ ?_)
    refine ⟨by decide, ?_⟩
    intro p10 n_p10; generalize g_H10 : upd H9 p10 _ = H10; obtain ⟨s_H10, h_p10⟩ := new_facts n_p10 g_H10; clear g_H10
    have r10 := r9.trans s_H10
    try simp only [tSeq, tNext, tRet, tRetN, tAsg, gName, gSub, tDrop, tIfS, tOp, tUn, tCB, tCons, tNil, tC, tVar, rI, rI0, rU, tAnd, tOr, tNot, tAndV, tOrV, tNotV, tIf, tTest, tB, tCall, tChain, tLst, tTup, tYes, rIxH, rIsB, rIsBT, rMulS, kd_non, kd_bl, kd_int, kd_str, kd_ref, kdO_lst, kdO_tup, kdO_dK, nq_n, nq_b, nq_i, nq_s, nq_l, nq_t, nq_d, ne_eq, not_false_eq_true, kit_ss, kit_ns, kit_bs, kit_is, kit_ls, kit_ts, kit_ds, kit_bb, V.ty.injEq, and_assoc, rIxU, rLenH, rLenU, rLenS, rInt1, rSetL, rEq, rNe, rCat, L2.start, List.map, List.length, List.length_cons, List.length_nil, List.replicate, List.getElem?_cons_zero, List.getElem?_cons_succ, List.set_cons_zero, List.set_cons_succ, List.set_nil, List.cons_append, List.nil_append, List.append_nil, Option.some.injEq, V.int.injEq, V.ref.injEq, V.str.injEq, V.bl.injEq, HO.lst.injEq, HO.tup.injEq, exists_eq_left', exists_and_left, exists_eq_left, List.cons.injEq, and_true, true_and, and_false, false_and, and_self, reduceCtorEq, exists_false, or_false, false_or, exists_const, at0, at1, at2, at3, at4, at5, ix51, ix52, ix54, upd_same, Nat.reduceAdd, Nat.reduceSub, Nat.zero_add, Int.reduceToNat, Int.reduceLE, Int.reduceLT, decide_eq_true_eq, Bool.not_eq_true, if_true, if_false, Bool.false_eq_true, ite_true, ite_false, Bool.not_true, Bool.not_false, decide_true, decide_false, tFor_eq, tLc_eq, iList, iTup, iRng1, iRng2, iStr, tSl, tPart, tNoPart, rSlL, cxOf_K, wipe, ex_ty2, kit_LTl, kit_LTt, kit_LTd, kit_LTs, kit_LTn, kit_LTb, kit_LTi, tM1, rIxS, exists_eq', lt1p, tDNewK, rSlS, rEqNil, s_H10 _ _ h_p9, h_p10]
    refine ⟨by decide, ?_⟩
    intro p11 n_p11; generalize g_H11 : upd H10 p11 _ = H11; obtain ⟨s_H11, h_p11⟩ := new_facts n_p11 g_H11; clear g_H11
    have r11 := r10.trans s_H11
    refine isx H11 r11 13 (by decide) _ (isx H11 r11 14 (by decide) _ (isx H11 r11 15 (by decide) _ ?_))
    refine ⟨by decide, ?_⟩
    intro p12 n_p12; generalize g_H12 : upd H11 p12 _ = H12; obtain ⟨s_H12, h_p12⟩ := new_facts n_p12 g_H12; clear g_H12
    have r12 := r11.trans s_H12
    try simp only [tSeq, tNext, tRet, tRetN, tAsg, gName, gSub, tDrop, tIfS, tOp, tUn, tCB, tCons, tNil, tC, tVar, rI, rI0, rU, tAnd, tOr, tNot, tAndV, tOrV, tNotV, tIf, tTest, tB, tCall, tChain, tLst, tTup, tYes, rIxH, rIsB, rIsBT, rMulS, kd_non, kd_bl, kd_int, kd_str, kd_ref, kdO_lst, kdO_tup, kdO_dK, nq_n, nq_b, nq_i, nq_s, nq_l, nq_t, nq_d, ne_eq, not_false_eq_true, kit_ss, kit_ns, kit_bs, kit_is, kit_ls, kit_ts, kit_ds, kit_bb, V.ty.injEq, and_assoc, rIxU, rLenH, rLenU, rLenS, rInt1, rSetL, rEq, rNe, rCat, L2.start, List.map, List.length, List.length_cons, List.length_nil, List.replicate, List.getElem?_cons_zero, List.getElem?_cons_succ, List.set_cons_zero, List.set_cons_succ, List.set_nil, List.cons_append, List.nil_append, List.append_nil, Option.some.injEq, V.int.injEq, V.ref.injEq, V.str.injEq, V.bl.injEq, HO.lst.injEq, HO.tup.injEq, exists_eq_left', exists_and_left, exists_eq_left, List.cons.injEq, and_true, true_and, and_false, false_and, and_self, reduceCtorEq, exists_false, or_false, false_or, exists_const, at0, at1, at2, at3, at4, at5, ix51, ix52, ix54, upd_same, Nat.reduceAdd, Nat.reduceSub, Nat.zero_add, Int.reduceToNat, Int.reduceLE, Int.reduceLT, decide_eq_true_eq, Bool.not_eq_true, if_true, if_false, Bool.false_eq_true, ite_true, ite_false, Bool.not_true, Bool.not_false, decide_true, decide_false, tFor_eq, tLc_eq, iList, iTup, iRng1, iRng2, iStr, tSl, tPart, tNoPart, rSlL, cxOf_K, wipe, ex_ty2, kit_LTl, kit_LTt, kit_LTd, kit_LTs, kit_LTn, kit_LTb, kit_LTi, tM1, rIxS, exists_eq', lt1p, tDNewK, rSlS, rEqNil, s_H12 _ _ h_p11, h_p12]
    refine ⟨by decide, ?_⟩
    intro p13 n_p13; generalize g_H13 : upd H12 p13 _ = H13; obtain ⟨s_H13, h_p13⟩ := new_facts n_p13 g_H13; clear g_H13
    have r13 := r12.trans s_H13
    have hl : H13 p13 = some (.lst ((kb j).map V.bl)) := h_p13
    clear h_p13
    try simp only [tSeq, tNext, tRet, tRetN, tAsg, gName, gSub, tDrop, tIfS, tOp, tUn, tCB, tCons, tNil, tC, tVar, rI, rI0, rU, tAnd, tOr, tNot, tAndV, tOrV, tNotV, tIf, tTest, tB, tCall, tChain, tLst, tTup, tYes, rIxH, rIsB, rIsBT, rMulS, kd_non, kd_bl, kd_int, kd_str, kd_ref, kdO_lst, kdO_tup, kdO_dK, nq_n, nq_b, nq_i, nq_s, nq_l, nq_t, nq_d, ne_eq, not_false_eq_true, kit_ss, kit_ns, kit_bs, kit_is, kit_ls, kit_ts, kit_ds, kit_bb, V.ty.injEq, and_assoc, rIxU, rLenH, rLenU, rLenS, rInt1, rSetL, rEq, rNe, rCat, L2.start, List.map, List.length, List.length_cons, List.length_nil, List.replicate, List.getElem?_cons_zero, List.getElem?_cons_succ, List.set_cons_zero, List.set_cons_succ, List.set_nil, List.cons_append, List.nil_append, List.append_nil, Option.some.injEq, V.int.injEq, V.ref.injEq, V.str.injEq, V.bl.injEq, HO.lst.injEq, HO.tup.injEq, exists_eq_left', exists_and_left, exists_eq_left, List.cons.injEq, and_true, true_and, and_false, false_and, and_self, reduceCtorEq, exists_false, or_false, false_or, exists_const, at0, at1, at2, at3, at4, at5, ix51, ix52, ix54, upd_same, Nat.reduceAdd, Nat.reduceSub, Nat.zero_add, Int.reduceToNat, Int.reduceLE, Int.reduceLT, decide_eq_true_eq, Bool.not_eq_true, if_true, if_false, Bool.false_eq_true, ite_true, ite_false, Bool.not_true, Bool.not_false, decide_true, decide_false, tFor_eq, tLc_eq, iList, iTup, iRng1, iRng2, iStr, tSl, tPart, tNoPart, rSlL, cxOf_K, wipe, ex_ty2, kit_LTl, kit_LTt, kit_LTd, kit_LTs, kit_LTn, kit_LTb, kit_LTi, tM1, rIxS, exists_eq', lt1p, tDNewK, rSlS, rEqNil]
    refine ⟨_, rfl, Or.inl ⟨rfl, _, SqL.of hl⟩, p13, kb j, true, rfl, rfl, hl, ?_⟩
    rw [kb_count hk.lt]
    try simp only [tSeq, tNext, tRet, tRetN, tAsg, gName, gSub, tDrop, tIfS, tOp, tUn, tCB, tCons, tNil, tC, tVar, rI, rI0, rU, tAnd, tOr, tNot, tAndV, tOrV, tNotV, tIf, tTest, tB, tCall, tChain, tLst, tTup, tYes, rIxH, rIsB, rIsBT, rMulS, kd_non, kd_bl, kd_int, kd_str, kd_ref, kdO_lst, kdO_tup, kdO_dK, nq_n, nq_b, nq_i, nq_s, nq_l, nq_t, nq_d, ne_eq, not_false_eq_true, kit_ss, kit_ns, kit_bs, kit_is, kit_ls, kit_ts, kit_ds, kit_bb, V.ty.injEq, and_assoc, rIxU, rLenH, rLenU, rLenS, rInt1, rSetL, rEq, rNe, rCat, L2.start, List.map, List.length, List.length_cons, List.length_nil, List.replicate, List.getElem?_cons_zero, List.getElem?_cons_succ, List.set_cons_zero, List.set_cons_succ, List.set_nil, List.cons_append, List.nil_append, List.append_nil, Option.some.injEq, V.int.injEq, V.ref.injEq, V.str.injEq, V.bl.injEq, HO.lst.injEq, HO.tup.injEq, exists_eq_left', exists_and_left, exists_eq_left, List.cons.injEq, and_true, true_and, and_false, false_and, and_self, reduceCtorEq, exists_false, or_false, false_or, exists_const, at0, at1, at2, at3, at4, at5, ix51, ix52, ix54, upd_same, Nat.reduceAdd, Nat.reduceSub, Nat.zero_add, Int.reduceToNat, Int.reduceLE, Int.reduceLT, decide_eq_true_eq, Bool.not_eq_true, if_true, if_false, Bool.false_eq_true, ite_true, ite_false, Bool.not_true, Bool.not_false, decide_true, decide_false, tFor_eq, tLc_eq, iList, iTup, iRng1, iRng2, iStr, tSl, tPart, tNoPart, rSlL, cxOf_K, wipe, ex_ty2, kit_LTl, kit_LTt, kit_LTd, kit_LTs, kit_LTn, kit_LTb, kit_LTi, tM1, rIxS, exists_eq', lt1p, tDNewK, rSlS, rEqNil, scal_int]
    refine isv H13 r13 _ ?_
    have hix : ∀ (H' : Hp), Same H13 H' → ∀ Q : VK, Q (.int (j : Int)) H' → rIndex K (.ref p13) [.bl true] H' Q := fun H' s Q q => ⟨p13, _, _, j, _, rfl, rfl, SqL.of (s _ _ hl), rfl, by
      rw [List.all_eq_true]
      intro v hv
      obtain ⟨b, _, rfl⟩ := List.mem_map.mp hv
      rfl, kb_at hk.lt, rfl, kb_not hk.lt, q⟩
    refine ⟨_, rfl, Or.inl ⟨rfl, _, SqL.of hl⟩, ?_⟩
    try simp only [tSeq, tNext, tRet, tRetN, tAsg, gName, gSub, tDrop, tIfS, tOp, tUn, tCB, tCons, tNil, tC, tVar, rI, rI0, rU, tAnd, tOr, tNot, tAndV, tOrV, tNotV, tIf, tTest, tB, tCall, tChain, tLst, tTup, tYes, rIxH, rIsB, rIsBT, rMulS, kd_non, kd_bl, kd_int, kd_str, kd_ref, kdO_lst, kdO_tup, kdO_dK, nq_n, nq_b, nq_i, nq_s, nq_l, nq_t, nq_d, ne_eq, not_false_eq_true, kit_ss, kit_ns, kit_bs, kit_is, kit_ls, kit_ts, kit_ds, kit_bb, V.ty.injEq, and_assoc, rIxU, rLenH, rLenU, rLenS, rInt1, rSetL, rEq, rNe, rCat, L2.start, List.map, List.length, List.length_cons, List.length_nil, List.replicate, List.getElem?_cons_zero, List.getElem?_cons_succ, List.set_cons_zero, List.set_cons_succ, List.set_nil, List.cons_append, List.nil_append, List.append_nil, Option.some.injEq, V.int.injEq, V.ref.injEq, V.str.injEq, V.bl.injEq, HO.lst.injEq, HO.tup.injEq, exists_eq_left', exists_and_left, exists_eq_left, List.cons.injEq, and_true, true_and, and_false, false_and, and_self, reduceCtorEq, exists_false, or_false, false_or, exists_const, at0, at1, at2, at3, at4, at5, ix51, ix52, ix54, upd_same, Nat.reduceAdd, Nat.reduceSub, Nat.zero_add, Int.reduceToNat, Int.reduceLE, Int.reduceLT, decide_eq_true_eq, Bool.not_eq_true, if_true, if_false, Bool.false_eq_true, ite_true, ite_false, Bool.not_true, Bool.not_false, decide_true, decide_false, tFor_eq, tLc_eq, iList, iTup, iRng1, iRng2, iStr, tSl, tPart, tNoPart, rSlL, cxOf_K, wipe, ex_ty2, kit_LTl, kit_LTt, kit_LTd, kit_LTs, kit_LTn, kit_LTb, kit_LTi, tM1, rIxS, exists_eq', lt1p, tDNewK, rSlS, rEqNil]
    refine hix H13 (Same.refl _) _ ?_
    have l14 : (j : Int) < 14 := by have := hk.lt; omega
    try simp only [tSeq, tNext, tRet, tRetN, tAsg, gName, gSub, tDrop, tIfS, tOp, tUn, tCB, tCons, tNil, tC, tVar, rI, rI0, rU, tAnd, tOr, tNot, tAndV, tOrV, tNotV, tIf, tTest, tB, tCall, tChain, tLst, tTup, tYes, rIxH, rIsB, rIsBT, rMulS, kd_non, kd_bl, kd_int, kd_str, kd_ref, kdO_lst, kdO_tup, kdO_dK, nq_n, nq_b, nq_i, nq_s, nq_l, nq_t, nq_d, ne_eq, not_false_eq_true, kit_ss, kit_ns, kit_bs, kit_is, kit_ls, kit_ts, kit_ds, kit_bb, V.ty.injEq, and_assoc, rIxU, rLenH, rLenU, rLenS, rInt1, rSetL, rEq, rNe, rCat, L2.start, List.map, List.length, List.length_cons, List.length_nil, List.replicate, List.getElem?_cons_zero, List.getElem?_cons_succ, List.set_cons_zero, List.set_cons_succ, List.set_nil, List.cons_append, List.nil_append, List.append_nil, Option.some.injEq, V.int.injEq, V.ref.injEq, V.str.injEq, V.bl.injEq, HO.lst.injEq, HO.tup.injEq, exists_eq_left', exists_and_left, exists_eq_left, List.cons.injEq, and_true, true_and, and_false, false_and, and_self, reduceCtorEq, exists_false, or_false, false_or, exists_const, at0, at1, at2, at3, at4, at5, ix51, ix52, ix54, upd_same, Nat.reduceAdd, Nat.reduceSub, Nat.zero_add, Int.reduceToNat, Int.reduceLE, Int.reduceLT, decide_eq_true_eq, Bool.not_eq_true, if_true, if_false, Bool.false_eq_true, ite_true, ite_false, Bool.not_true, Bool.not_false, decide_true, decide_false, tFor_eq, tLc_eq, iList, iTup, iRng1, iRng2, iStr, tSl, tPart, tNoPart, rSlL, cxOf_K, wipe, ex_ty2, kit_LTl, kit_LTt, kit_LTd, kit_LTs, kit_LTn, kit_LTb, kit_LTi, tM1, rIxS, exists_eq', lt1p, tDNewK, rSlS, rEqNil, l14, scal_bl]
    refine ⟨by decide, ?_⟩
    intro p14 n_p14; generalize g_H14 : upd H13 p14 _ = H14; obtain ⟨s_H14, h_p14⟩ := new_facts n_p14 g_H14; clear g_H14
    refine ⟨by decide, ?_⟩
    intro p15 n_p15; generalize g_H15 : upd H14 p15 _ = H15; obtain ⟨s_H15, h_p15⟩ := new_facts n_p15 g_H15; clear g_H15
    try simp only [tSeq, tNext, tRet, tRetN, tAsg, gName, gSub, tDrop, tIfS, tOp, tUn, tCB, tCons, tNil, tC, tVar, rI, rI0, rU, tAnd, tOr, tNot, tAndV, tOrV, tNotV, tIf, tTest, tB, tCall, tChain, tLst, tTup, tYes, rIxH, rIsB, rIsBT, rMulS, kd_non, kd_bl, kd_int, kd_str, kd_ref, kdO_lst, kdO_tup, kdO_dK, nq_n, nq_b, nq_i, nq_s, nq_l, nq_t, nq_d, ne_eq, not_false_eq_true, kit_ss, kit_ns, kit_bs, kit_is, kit_ls, kit_ts, kit_ds, kit_bb, V.ty.injEq, and_assoc, rIxU, rLenH, rLenU, rLenS, rInt1, rSetL, rEq, rNe, rCat, L2.start, List.map, List.length, List.length_cons, List.length_nil, List.replicate, List.getElem?_cons_zero, List.getElem?_cons_succ, List.set_cons_zero, List.set_cons_succ, List.set_nil, List.cons_append, List.nil_append, List.append_nil, Option.some.injEq, V.int.injEq, V.ref.injEq, V.str.injEq, V.bl.injEq, HO.lst.injEq, HO.tup.injEq, exists_eq_left', exists_and_left, exists_eq_left, List.cons.injEq, and_true, true_and, and_false, false_and, and_self, reduceCtorEq, exists_false, or_false, false_or, exists_const, at0, at1, at2, at3, at4, at5, ix51, ix52, ix54, upd_same, Nat.reduceAdd, Nat.reduceSub, Nat.zero_add, Int.reduceToNat, Int.reduceLE, Int.reduceLT, decide_eq_true_eq, Bool.not_eq_true, if_true, if_false, Bool.false_eq_true, ite_true, ite_false, Bool.not_true, Bool.not_false, decide_true, decide_false, tFor_eq, tLc_eq, iList, iTup, iRng1, iRng2, iStr, tSl, tPart, tNoPart, rSlL, cxOf_K, wipe, ex_ty2, kit_LTl, kit_LTt, kit_LTd, kit_LTs, kit_LTn, kit_LTb, kit_LTi, tM1, rIxS, exists_eq', lt1p, tDNewK, rSlS, rEqNil, s_H15 _ _ h_p14, h_p15]
    refine ⟨by decide, ?_⟩
    intro p16 n_p16; generalize g_H16 : upd H15 p16 _ = H16; obtain ⟨s_H16, h_p16⟩ := new_facts n_p16 g_H16; clear g_H16
    have s16 := (s_H14.trans s_H15).trans s_H16
    refine ⟨_, rfl, Or.inl ⟨rfl, _, SqL.of (s16 _ _ hl)⟩, ?_⟩
    try simp only [tSeq, tNext, tRet, tRetN, tAsg, gName, gSub, tDrop, tIfS, tOp, tUn, tCB, tCons, tNil, tC, tVar, rI, rI0, rU, tAnd, tOr, tNot, tAndV, tOrV, tNotV, tIf, tTest, tB, tCall, tChain, tLst, tTup, tYes, rIxH, rIsB, rIsBT, rMulS, kd_non, kd_bl, kd_int, kd_str, kd_ref, kdO_lst, kdO_tup, kdO_dK, nq_n, nq_b, nq_i, nq_s, nq_l, nq_t, nq_d, ne_eq, not_false_eq_true, kit_ss, kit_ns, kit_bs, kit_is, kit_ls, kit_ts, kit_ds, kit_bb, V.ty.injEq, and_assoc, rIxU, rLenH, rLenU, rLenS, rInt1, rSetL, rEq, rNe, rCat, L2.start, List.map, List.length, List.length_cons, List.length_nil, List.replicate, List.getElem?_cons_zero, List.getElem?_cons_succ, List.set_cons_zero, List.set_cons_succ, List.set_nil, List.cons_append, List.nil_append, List.append_nil, Option.some.injEq, V.int.injEq, V.ref.injEq, V.str.injEq, V.bl.injEq, HO.lst.injEq, HO.tup.injEq, exists_eq_left', exists_and_left, exists_eq_left, List.cons.injEq, and_true, true_and, and_false, false_and, and_self, reduceCtorEq, exists_false, or_false, false_or, exists_const, at0, at1, at2, at3, at4, at5, ix51, ix52, ix54, upd_same, Nat.reduceAdd, Nat.reduceSub, Nat.zero_add, Int.reduceToNat, Int.reduceLE, Int.reduceLT, decide_eq_true_eq, Bool.not_eq_true, if_true, if_false, Bool.false_eq_true, ite_true, ite_false, Bool.not_true, Bool.not_false, decide_true, decide_false, tFor_eq, tLc_eq, iList, iTup, iRng1, iRng2, iStr, tSl, tPart, tNoPart, rSlL, cxOf_K, wipe, ex_ty2, kit_LTl, kit_LTt, kit_LTd, kit_LTs, kit_LTn, kit_LTb, kit_LTi, tM1, rIxS, exists_eq', lt1p, tDNewK, rSlS, rEqNil]
    refine hix H16 s16 _ ?_
    have hw : H16 p16 = some (.lst (words.map V.str)) := h_p16
    try simp only [tSeq, tNext, tRet, tRetN, tAsg, gName, gSub, tDrop, tIfS, tOp, tUn, tCB, tCons, tNil, tC, tVar, rI, rI0, rU, tAnd, tOr, tNot, tAndV, tOrV, tNotV, tIf, tTest, tB, tCall, tChain, tLst, tTup, tYes, rIxH, rIsB, rIsBT, rMulS, kd_non, kd_bl, kd_int, kd_str, kd_ref, kdO_lst, kdO_tup, kdO_dK, nq_n, nq_b, nq_i, nq_s, nq_l, nq_t, nq_d, ne_eq, not_false_eq_true, kit_ss, kit_ns, kit_bs, kit_is, kit_ls, kit_ts, kit_ds, kit_bb, V.ty.injEq, and_assoc, rIxU, rLenH, rLenU, rLenS, rInt1, rSetL, rEq, rNe, rCat, L2.start, List.map, List.length, List.length_cons, List.length_nil, List.replicate, List.getElem?_cons_zero, List.getElem?_cons_succ, List.set_cons_zero, List.set_cons_succ, List.set_nil, List.cons_append, List.nil_append, List.append_nil, Option.some.injEq, V.int.injEq, V.ref.injEq, V.str.injEq, V.bl.injEq, HO.lst.injEq, HO.tup.injEq, exists_eq_left', exists_and_left, exists_eq_left, List.cons.injEq, and_true, true_and, and_false, false_and, and_self, reduceCtorEq, exists_false, or_false, false_or, exists_const, at0, at1, at2, at3, at4, at5, ix51, ix52, ix54, upd_same, Nat.reduceAdd, Nat.reduceSub, Nat.zero_add, Int.reduceToNat, Int.reduceLE, Int.reduceLT, decide_eq_true_eq, Bool.not_eq_true, if_true, if_false, Bool.false_eq_true, ite_true, ite_false, Bool.not_true, Bool.not_false, decide_true, decide_false, tFor_eq, tLc_eq, iList, iTup, iRng1, iRng2, iStr, tSl, tPart, tNoPart, rSlL, cxOf_K, wipe, ex_ty2, kit_LTl, kit_LTt, kit_LTd, kit_LTs, kit_LTn, kit_LTb, kit_LTi, tM1, rIxS, exists_eq', lt1p, tDNewK, rSlS, rEqNil, hw, words_at hk.lt]
    exact k _ (r13.trans s16)
/-- what _law_caught tells: of a call that comes back; of one that raises -/
def CaughtX (K : PySem.W.Frag) (A : Adr) (Q : VK) : XK := fun cls d H2 => ∃ (D dd : Addr) (v : V) (j : Nat) (dt : PyData), cls = .ref D ∧ d = some dd ∧ H2 dd = some (.xd [("value", v)]) ∧ KindAt K (errAt A) A.k_LineError A.k_TooMany A.k_NothingToUndo D j ∧
  Dx K H2 v dt ∧ dt.showable = true ∧ dt.shown.length ≤ sizeLine ∧ dt.depth ≤ 20 ∧ ∀ H3 l, Same H2 H3 → H2 l = none → H3 l = some (.lst [.str (wordOf j), .str dt.shown]) → Q (.ref l) H3
def CaughtN (Q : VK) : VK := fun _ H2 => ∀ H3 l, Same H2 H3 → H2 l = none → H3 l = some (.lst [.str "none", .str "None"]) → Q (.ref l) H3
def TTc (K : PySem.W.Frag) (A : Adr) : (XK → Hp → VK → Prop) → Hp → VK → Prop := fun tl H Q => tl (CaughtX K A Q) H (CaughtN Q)
theorem Dp.same {K : PySem.W.Frag} {H H' : Hp} (s : Same H H') : ∀ {v : V} {d : PyData}, Dp K H v d → Dp K H' v d := by
  intro v d h
  refine Dp.rec (motive_1 := fun v d _ => Dp K H' v d) (motive_2 := fun vs ds _ => DpAll K H' vs ds) .non (fun b => .bl b) (fun i => .int i) (fun x => .str x) (fun h _ ih => .lst (s.seq h) ih) (fun h _ ih => .tup (Same.tup s h) ih) .nil (fun _ _ ih1 ih2 => .cons ih1 ih2) h
theorem Dx.same {K : PySem.W.Frag} {H H' : Hp} (s : Same H H') {v : V} {d : PyData} (h : Dx K H v d) : Dx K H' v d := by
  rcases h with ⟨h, n⟩ | ⟨a, rfl, h, rfl⟩
  · exact .inl ⟨Dp.same s h, n⟩
  · exact .inr ⟨a, rfl, s _ _ h, rfl⟩
theorem word_no {j : Nat} (h : j < 13) : ¬ wordOf j = Str.ofString "parse" ∧ ¬ wordOf j = Str.ofString "many" ∧ ¬ wordOf j = Str.ofString "odd" ∧ ¬ wordOf j = Str.ofString "undo" := by
  rcases j with _ | _ | _ | _ | _ | _ | _ | _ | _ | _ | _ | _ | _ | j <;> first | decide +kernel | omega
theorem word_in {j : Nat} (h : j < 13) : inV (V.str (wordOf j)) [V.str (Str.ofString "odd"), V.str (Str.ofString "undo")] = false := by
  rcases j with _ | _ | _ | _ | _ | _ | _ | _ | _ | _ | _ | _ | _ | j <;> first | decide +kernel | omega
theorem caught_gives (T : Txt K mg A) (gLawKind : FnOk PW w K mg base CX0 1 A.a_LawKind A.d_LawKind ["_law_error"] (spKind K A)) {N : List Str} {qual : Str} {scope : Scope} {f : Addr} {cd cdv : Value} {A' : Around} {outer : List Env} {s : Shared} {H : Hp} {E : XK} {q : Str}
    (hr : Room 4 (cxOf CX0 PW w K mg base N qual scope f cd A' outer s H E).nox.A) (hG : (cxOf CX0 PW w K mg base N qual scope f cd A' outer s H E).nox.A.guards = some []) :
    GivesC (cxOf CX0 PW w K mg base N qual scope f cd A' outer s H E).nox nLawCaught "_law_caught" (defScope sLawCaught) A.a_LawCaught cdv (defBody sLawCaught) "_law_call" q (TTc K A) := by
  intro f2 c2 s2 H2 Q tl act hc h
  have hr := hr.deeper (PyProof.Rows.envOfC "_law_caught" (defScope sLawCaught) s2.heap.objs.size A.a_LawCaught cdv)
  have hG : (cxC (cxOf CX0 PW w K mg base N qual scope f cd A' outer s H E).nox nLawCaught "_law_caught" (defScope sLawCaught) A.a_LawCaught cdv s2 H2).nox.A.guards = some [] := hG
  refine ⟨_, (pss_cons (ps_set (i := 1) scLawCaught.nd rfl (Or.inl rfl) pe_non)
      (pss_cons (ps_try_keep (i := 2) (j := 1) rfl rfl scLawCaught.nd rfl rfl rfl rfl (by rfl) (by rfl) (by rfl) T.k_LineError T.k_TooMany T.k_NothingToUndo (fun W pn xe tk => pss_one (ps_expr (act W pn xe _ _ tk))))
      (pss_cons (ps_if (pt_cmpR (op_isN) (pv 1) pe_non (nomark _)) (pss_one (ps_ret (pe_lst (pa_cons pe_str (pa_cons pe_str pa_nil))))) pss_nil)
      (pss_cons (ps_set (i := 3) scLawCaught.nd rfl (Or.inl rfl) (pe_call gLawKind (hr.mono (by decide)) (by rfl) T.m_LawKind T.f_LawKind.kp T.b_LawKind .nil pass0 (pa_cons (pv 1) pa_nil)))
      (pss_cons (ps_if (pt_cmpR (op_eq) (pv 3) pe_str (nomark _)) (pss_one (ps_ret (pe_lst (pa_cons (pv 3) (pa_cons (pe_callB (call_reprD hr hG) (by rfl) T.z_repr (by decide +kernel) (pa_cons (pe_fld (pv 1) rfl) pa_nil)) pa_nil))))) pss_nil)
      (pss_cons (ps_if (pt_cmpR (op_eq) (pv 3) pe_str (nomark _)) (pss_one (ps_ret (pe_lst (pa_cons (pv 3) (pa_cons (pe_callB (call_reprD hr hG) (by rfl) T.z_repr (by decide +kernel) (pa_cons (pe_fld (pv 1) rfl) pa_nil)) pa_nil))))) pss_nil)
      (pss_cons (ps_if (pt_cmpR (op_in_seq) (pv 3) (pe_tup (pa_cons pe_str (pa_cons pe_str pa_nil))) (by rfl)) (pss_one (ps_ret (pe_lst (pa_cons (pv 3) (pa_cons pe_str pa_nil))))) pss_nil)
      (pss_one (ps_ret (pe_lst (pa_cons (pv 3) (pa_cons (pe_callB (call_reprD hr hG) (by rfl) T.z_repr (by decide +kernel) (pa_cons (pe_xv (pv 1)) pa_nil)) pa_nil)))))))))))), ?_⟩
  show tSeq _ _ _ [some (.ref f2), some .non, none, none] H2
  refine ⟨rfl, hc, CaughtX K A Q, CaughtN Q, fun cls d H3 hx => ?_, fun v H3 hn => ?_, h⟩
  · obtain ⟨D, dd, v, j, dt, rfl, rfl, hd, hk, hv, v1, v2, v3, kq⟩ := hx
    refine ⟨hk.ex, fun a na => ?_⟩
    have s4 : Same H3 (upd H3 a (XO (.ref D) (some dd) a)) := same_new na
    have ha : upd H3 a (XO (.ref D) (some dd) a) a = some (XO (.ref D) (some dd) a) := upd_same
    generalize upd H3 a (XO (.ref D) (some dd) a) = H4 at s4 ha ⊢
    show tSeq _ _ _ [some (.ref f2), some (.ref a), none, none] H4
    have wn := word_no hk.lt
    try simp only [tSeq, tNext, tRet, tRetN, tAsg, gName, gSub, tDrop, tIfS, tOp, tUn, tCB, tCons, tNil, tC, tVar, rI, rI0, rU, tAnd, tOr, tNot, tAndV, tOrV, tNotV, tIf, tTest, tB, tCall, tChain, tLst, tTup, tYes, rIxH, rIsB, rIsBT, rMulS, kd_non, kd_bl, kd_int, kd_str, kd_ref, kdO_lst, kdO_tup, kdO_dK, nq_n, nq_b, nq_i, nq_s, nq_l, nq_t, nq_d, ne_eq, not_false_eq_true, kit_ss, kit_ns, kit_bs, kit_is, kit_ls, kit_ts, kit_ds, kit_bb, V.ty.injEq, and_assoc, rIxU, rLenH, rLenU, rLenS, rInt1, rSetL, rEq, rNe, rCat, L2.start, List.map, List.length, List.length_cons, List.length_nil, List.replicate, List.getElem?_cons_zero, List.getElem?_cons_succ, List.set_cons_zero, List.set_cons_succ, List.set_nil, List.cons_append, List.nil_append, List.append_nil, Option.some.injEq, V.int.injEq, V.ref.injEq, V.str.injEq, V.bl.injEq, HO.lst.injEq, HO.tup.injEq, exists_eq_left', exists_and_left, exists_eq_left, List.cons.injEq, and_true, true_and, and_false, false_and, and_self, reduceCtorEq, exists_false, or_false, false_or, exists_const, at0, at1, at2, at3, at4, at5, ix51, ix52, ix54, upd_same, Nat.reduceAdd, Nat.reduceSub, Nat.zero_add, Int.reduceToNat, Int.reduceLE, Int.reduceLT, decide_eq_true_eq, Bool.not_eq_true, if_true, if_false, Bool.false_eq_true, ite_true, ite_false, Bool.not_true, Bool.not_false, decide_true, decide_false, tFor_eq, tLc_eq, iList, iTup, iRng1, iRng2, iStr, tSl, tPart, tNoPart, rSlL, cxOf_K, wipe, ex_ty2, kit_LTl, kit_LTt, kit_LTd, kit_LTs, kit_LTn, kit_LTb, kit_LTi, tM1, rIxS, exists_eq', lt1p, tDNewK, rSlS, rEqNil]
    refine ⟨a, D, dd, _, j, rfl, ha, s4 _ _ hd, hk, fun H5 s5 => ?_⟩
    have hv5 := hv.same (s4.trans s5)
    try simp only [tSeq, tNext, tRet, tRetN, tAsg, gName, gSub, tDrop, tIfS, tOp, tUn, tCB, tCons, tNil, tC, tVar, rI, rI0, rU, tAnd, tOr, tNot, tAndV, tOrV, tNotV, tIf, tTest, tB, tCall, tChain, tLst, tTup, tYes, rIxH, rIsB, rIsBT, rMulS, kd_non, kd_bl, kd_int, kd_str, kd_ref, kdO_lst, kdO_tup, kdO_dK, nq_n, nq_b, nq_i, nq_s, nq_l, nq_t, nq_d, ne_eq, not_false_eq_true, kit_ss, kit_ns, kit_bs, kit_is, kit_ls, kit_ts, kit_ds, kit_bb, V.ty.injEq, and_assoc, rIxU, rLenH, rLenU, rLenS, rInt1, rSetL, rEq, rNe, rCat, L2.start, List.map, List.length, List.length_cons, List.length_nil, List.replicate, List.getElem?_cons_zero, List.getElem?_cons_succ, List.set_cons_zero, List.set_cons_succ, List.set_nil, List.cons_append, List.nil_append, List.append_nil, Option.some.injEq, V.int.injEq, V.ref.injEq, V.str.injEq, V.bl.injEq, HO.lst.injEq, HO.tup.injEq, exists_eq_left', exists_and_left, exists_eq_left, List.cons.injEq, and_true, true_and, and_false, false_and, and_self, reduceCtorEq, exists_false, or_false, false_or, exists_const, at0, at1, at2, at3, at4, at5, ix51, ix52, ix54, upd_same, Nat.reduceAdd, Nat.reduceSub, Nat.zero_add, Int.reduceToNat, Int.reduceLE, Int.reduceLT, decide_eq_true_eq, Bool.not_eq_true, if_true, if_false, Bool.false_eq_true, ite_true, ite_false, Bool.not_true, Bool.not_false, decide_true, decide_false, tFor_eq, tLc_eq, iList, iTup, iRng1, iRng2, iStr, tSl, tPart, tNoPart, rSlL, cxOf_K, wipe, ex_ty2, kit_LTl, kit_LTt, kit_LTd, kit_LTs, kit_LTn, kit_LTb, kit_LTi, tM1, rIxS, exists_eq', lt1p, tDNewK, rSlS, rEqNil, scal_str, wn]
    refine ⟨by decide, ?_⟩
    intro p n_p; generalize g_H6 : upd H5 p _ = H6; obtain ⟨s_H6, h_p⟩ := new_facts n_p g_H6; clear g_H6
    have s06 := (s4.trans s5).trans s_H6
    have s46 := s5.trans s_H6
    refine ⟨p, _, rfl, .inr (SqT.of h_p), rfl, rfl, ?_⟩
    have ein : inV (V.str (wordOf j)) [V.str (Str.ofString "odd"), V.str (Str.ofString "undo")] = false := word_in hk.lt
    try simp only [tSeq, tNext, tRet, tRetN, tAsg, gName, gSub, tDrop, tIfS, tOp, tUn, tCB, tCons, tNil, tC, tVar, rI, rI0, rU, tAnd, tOr, tNot, tAndV, tOrV, tNotV, tIf, tTest, tB, tCall, tChain, tLst, tTup, tYes, rIxH, rIsB, rIsBT, rMulS, kd_non, kd_bl, kd_int, kd_str, kd_ref, kdO_lst, kdO_tup, kdO_dK, nq_n, nq_b, nq_i, nq_s, nq_l, nq_t, nq_d, ne_eq, not_false_eq_true, kit_ss, kit_ns, kit_bs, kit_is, kit_ls, kit_ts, kit_ds, kit_bb, V.ty.injEq, and_assoc, rIxU, rLenH, rLenU, rLenS, rInt1, rSetL, rEq, rNe, rCat, L2.start, List.map, List.length, List.length_cons, List.length_nil, List.replicate, List.getElem?_cons_zero, List.getElem?_cons_succ, List.set_cons_zero, List.set_cons_succ, List.set_nil, List.cons_append, List.nil_append, List.append_nil, Option.some.injEq, V.int.injEq, V.ref.injEq, V.str.injEq, V.bl.injEq, HO.lst.injEq, HO.tup.injEq, exists_eq_left', exists_and_left, exists_eq_left, List.cons.injEq, and_true, true_and, and_false, false_and, and_self, reduceCtorEq, exists_false, or_false, false_or, exists_const, at0, at1, at2, at3, at4, at5, ix51, ix52, ix54, upd_same, Nat.reduceAdd, Nat.reduceSub, Nat.zero_add, Int.reduceToNat, Int.reduceLE, Int.reduceLT, decide_eq_true_eq, Bool.not_eq_true, if_true, if_false, Bool.false_eq_true, ite_true, ite_false, Bool.not_true, Bool.not_false, decide_true, decide_false, tFor_eq, tLc_eq, iList, iTup, iRng1, iRng2, iStr, tSl, tPart, tNoPart, rSlL, cxOf_K, wipe, ex_ty2, kit_LTl, kit_LTt, kit_LTd, kit_LTs, kit_LTn, kit_LTb, kit_LTi, tM1, rIxS, exists_eq', lt1p, tDNewK, rSlS, rEqNil, ein]
    refine ⟨_, rfl, a, D, dd, v, rfl, s46 _ _ ha, s06 _ _ hd, hk.xi, ?_⟩
    refine ⟨v, dt, rfl, hv.same s06, v1, v2, v3, by decide, fun r nr => ?_⟩
    exact kq _ r (s06.trans (same_new nr)) (s06.free nr) upd_same
  · try simp only [tSeq, tNext, tRet, tRetN, tAsg, gName, gSub, tDrop, tIfS, tOp, tUn, tCB, tCons, tNil, tC, tVar, rI, rI0, rU, tAnd, tOr, tNot, tAndV, tOrV, tNotV, tIf, tTest, tB, tCall, tChain, tLst, tTup, tYes, rIxH, rIsB, rIsBT, rMulS, kd_non, kd_bl, kd_int, kd_str, kd_ref, kdO_lst, kdO_tup, kdO_dK, nq_n, nq_b, nq_i, nq_s, nq_l, nq_t, nq_d, ne_eq, not_false_eq_true, kit_ss, kit_ns, kit_bs, kit_is, kit_ls, kit_ts, kit_ds, kit_bb, V.ty.injEq, and_assoc, rIxU, rLenH, rLenU, rLenS, rInt1, rSetL, rEq, rNe, rCat, L2.start, List.map, List.length, List.length_cons, List.length_nil, List.replicate, List.getElem?_cons_zero, List.getElem?_cons_succ, List.set_cons_zero, List.set_cons_succ, List.set_nil, List.cons_append, List.nil_append, List.append_nil, Option.some.injEq, V.int.injEq, V.ref.injEq, V.str.injEq, V.bl.injEq, HO.lst.injEq, HO.tup.injEq, exists_eq_left', exists_and_left, exists_eq_left, List.cons.injEq, and_true, true_and, and_false, false_and, and_self, reduceCtorEq, exists_false, or_false, false_or, exists_const, at0, at1, at2, at3, at4, at5, ix51, ix52, ix54, upd_same, Nat.reduceAdd, Nat.reduceSub, Nat.zero_add, Int.reduceToNat, Int.reduceLE, Int.reduceLT, decide_eq_true_eq, Bool.not_eq_true, if_true, if_false, Bool.false_eq_true, ite_true, ite_false, Bool.not_true, Bool.not_false, decide_true, decide_false, tFor_eq, tLc_eq, iList, iTup, iRng1, iRng2, iStr, tSl, tPart, tNoPart, rSlL, cxOf_K, wipe, ex_ty2, kit_LTl, kit_LTt, kit_LTd, kit_LTs, kit_LTn, kit_LTb, kit_LTi, tM1, rIxS, exists_eq', lt1p, tDNewK, rSlS, rEqNil]
    refine ⟨by decide, fun p hp => ?_⟩
    exact hn _ p (same_new hp) hp upd_same
end

/-! ### what stays where lambdas are made: all but the tables of code objects -/
section
open LamX
theorem extN_of {H H' : Hp} (s : Same H H') : ExtN H H' := ExtN.of fun b o h => s b o h
theorem SqL.extN {K : PySem.W.Frag} {H H' : Hp} (e : ExtN H H') {a : Addr} {xs : List V} (h : SqL K H a xs) : SqL K H' a xs := by
  rcases h with (h | ⟨o, h⟩) | h
  · exact .inl (.inl (e _ _ h (fun ps z => by cases z)))
  · exact .inl (.inr ⟨o, e _ _ h (fun ps z => by cases z)⟩)
  · exact .inr h
theorem SqT.extN {K : PySem.W.Frag} {H H' : Hp} (e : ExtN H H') {a : Addr} {xs : List V} (h : SqT K H a xs) : SqT K H' a xs := by
  rcases h with (h | ⟨o, h⟩) | h
  · exact .inl (.inl (e _ _ h (fun ps z => by cases z)))
  · exact .inl (.inr ⟨o, e _ _ h (fun ps z => by cases z)⟩)
  · exact .inr h
theorem Dp.extN {K : PySem.W.Frag} {H H' : Hp} (e : ExtN H H') : ∀ {v : V} {d : PyData}, Dp K H v d → Dp K H' v d := by
  intro v d h
  refine Dp.rec (motive_1 := fun v d _ => Dp K H' v d) (motive_2 := fun vs ds _ => DpAll K H' vs ds) .non (fun b => .bl b) (fun i => .int i) (fun x => .str x) (fun h _ ih => .lst (SqL.extN e h) ih) (fun h _ ih => .tup (SqT.extN e h) ih) .nil (fun _ _ ih1 ih2 => .cons ih1 ih2) h
theorem Dx.extN {K : PySem.W.Frag} {H H' : Hp} (e : ExtN H H') {v : V} {d : PyData} (h : Dx K H v d) : Dx K H' v d := by
  rcases h with ⟨h, n⟩ | ⟨a, rfl, h, rfl⟩
  · exact .inl ⟨Dp.extN e h, n⟩
  · exact .inr ⟨a, rfl, e _ _ h (fun ps z => by cases z), rfl⟩
theorem ty_extN {H H' : Hp} {v : V} {t : Value} (e : ExtN H H') (h : tyV H v = some t) : tyV H' v = some t := by
  cases v with
  | ref a =>
    have h : tyO (H a) = some t := h
    show tyO (H' a) = some t
    cases q : H a with
    | none => rw [q] at h; cases h
    | some o =>
      rw [q] at h
      rw [e _ _ q (fun ps z => by rw [z] at h; cases h)]
      exact h
  | _ => exact h
/-- the tables stand, all else is kept -/
structure Sx (Ts : List (Addr × Str)) (H H' : Hp) : Prop where
  ex : ExtN H H'
  tb : Tabs Ts H'
theorem Sx.same {Ts : List (Addr × Str)} {H H1 H2 : Hp} (x : Sx Ts H H1) (s : Same H1 H2) : Sx Ts H H2 := ⟨x.ex.trans (extN_of s), x.tb.ext fun b o h => s b o h⟩
theorem Sx.trans {Ts : List (Addr × Str)} {H H1 H2 : Hp} (x : Sx Ts H H1) (y : Sx Ts H1 H2) : Sx Ts H H2 := ⟨x.ex.trans y.ex, y.tb⟩
theorem Sx.refl {Ts : List (Addr × Str)} {H : Hp} (h : Tabs Ts H) : Sx Ts H H := ⟨ExtN.refl H, h⟩
theorem Sx.at {Ts : List (Addr × Str)} {H H' : Hp} (x : Sx Ts H H') {b : Addr} {o : HO} (h : H b = some o) (n : ∀ ps, o ≠ .tbl ps := by intro ps z; cases z) : H' b = some o := x.ex b o h n
/-- a value that is handed where it may be refused -/
structure OddAt (K : PySem.W.Frag) (H : Hp) (v : V) (dt : PyData) : Prop where
  dx : Dx K H v dt
  sh : dt.showable = true
  ln : dt.shown.length ≤ sizeLine
  dp : dt.depth ≤ 20
theorem OddAt.sx {K : PySem.W.Frag} {Ts : List (Addr × Str)} {H H' : Hp} {v : V} {dt : PyData} (h : OddAt K H v dt) (x : Sx Ts H H') : OddAt K H' v dt := ⟨h.dx.extN x.ex, h.sh, h.ln, h.dp⟩
theorem OddAt.same {K : PySem.W.Frag} {H H' : Hp} {v : V} {dt : PyData} (h : OddAt K H v dt) (s : Same H H') : OddAt K H' v dt := ⟨h.dx.same s, h.sh, h.ln, h.dp⟩
theorem OddAt.repr {K : PySem.W.Frag} {H : Hp} {v : V} {dt : PyData} (h : OddAt K H v dt) {Q : VK} (q : Q (.str dt.shown) H) : rReprD K [v] H Q := ⟨v, dt, rfl, h.dx, h.sh, h.ln, h.dp, q⟩
/-- a lambda's call is raised in: what is told of it -/
theorem OddAt.told {K : PySem.W.Frag} {A : Adr} {H : Hp} {v : V} {dt : PyData} (h : OddAt K H v dt) {D dd : Addr} {j : Nat} (hd : H dd = some (.xd [("value", v)])) (hk : KindAt K (errAt A) A.k_LineError A.k_TooMany A.k_NothingToUndo D j) {Q : VK}
    (k : ∀ H3 l, Same H H3 → H l = none → H3 l = some (.lst [.str (wordOf j), .str dt.shown]) → Q (.ref l) H3) : CaughtX K A Q (.ref D) (some dd) H := ⟨D, dd, v, j, dt, rfl, rfl, hd, hk, h.dx, h.sh, h.ln, h.dp, k⟩
/-- caught(..) != [word, repr(v)], where they are alike -/
theorem ne_told {H : Hp} {a b : Addr} {z1 z2 : Str} {Q : VK} (ha : H a = some (.lst [.str z1, .str z2])) (hb : H b = some (.lst [.str z1, .str z2])) (q : Q (.bl false) H) : rNeSs (.ref a) (.ref b) H Q := ⟨a, b, [z1, z2], [z1, z2], rfl, rfl, ha, hb, by simpa using q⟩
theorem eq_told {H : Hp} {a b : Addr} {z1 z2 : Str} {Q : VK} (ha : H a = some (.lst [.str z1, .str z2])) (hb : H b = some (.lst [.str z1, .str z2])) (q : Q (.bl true) H) : rEqSs (.ref a) (.ref b) H Q := ⟨a, b, [z1, z2], [z1, z2], rfl, rfl, ha, hb, by simpa using q⟩
/-- f(lambda: ..) where what is called is refused with v: the list told -/
theorem lam_refused {K : PySem.W.Frag} {A : Adr} {Ts : List (Addr × Str)} {t : XK → TE} {σ : St} {H : Hp} {v : V} {dt : PyData} {D : Addr} {j : Nat} {Q : VK} (hT : Tabs Ts H) (ho : OddAt K H v dt) (hk : KindAt K (errAt A) A.k_LineError A.k_TooMany A.k_NothingToUndo D j)
    (hr : ∀ H1, Sx Ts H H1 → ∀ (Ec : XK) (Qc : VK), (∀ H2 d, Same H1 H2 → H2 d = some (.xd [("value", v)]) → Ec (.ref D) (some d) H2) → t Ec σ H1 Qc)
    (k : ∀ H3 l, Sx Ts H H3 → H3 l = some (.lst [.str (wordOf j), .str dt.shown]) → Q (.ref l) H3) : tLam Ts (TTc K A) t σ H Q := by
  refine ⟨hT, fun H1 e1 t1 => ?_⟩
  have x1 : Sx Ts H H1 := ⟨e1, t1⟩
  refine hr H1 x1 _ _ fun H2 d s2 hd => ?_
  exact ((ho.sx x1).same s2).told hd hk fun H3 l s3 _ h3 => k H3 l (x1.same (s2.trans s3)) h3
/-- f(lambda: ..) where what is called comes back -/
theorem lam_none {K : PySem.W.Frag} {A : Adr} {Ts : List (Addr × Str)} {t : XK → TE} {σ : St} {H : Hp} {Q : VK} (hT : Tabs Ts H)
    (hr : ∀ H1, Sx Ts H H1 → ∀ (Ec : XK) (Qc : VK), (∀ H2 v, Sx Ts H H2 → Qc v H2) → t Ec σ H1 Qc)
    (k : ∀ H3 l, Sx Ts H H3 → H3 l = some (.lst [.str "none", .str "None"]) → Q (.ref l) H3) : tLam Ts (TTc K A) t σ H Q := by
  refine ⟨hT, fun H1 e1 t1 => ?_⟩
  have x1 : Sx Ts H H1 := ⟨e1, t1⟩
  exact hr H1 x1 _ _ fun H2 v x2 H3 l s3 _ h3 => k H3 l (x2.same s3) h3
/-- f(lambda: ..) != [word, repr(x)], refused with x: false -/
theorem refused_ne {K : PySem.W.Frag} {A : Adr} {Ts : List (Addr × Str)} {t : XK → TE} {σ : St} {H : Hp} {v : V} {dt : PyData} {D : Addr} {j i : Nat} {z : Str} {Q : VK} (hT : Tabs Ts H) (ho : OddAt K H v dt) (hk : KindAt K (errAt A) A.k_LineError A.k_TooMany A.k_NothingToUndo D j) (hz : wordOf j = z) (hi : σ[i]? = some (some v))
    (hr : ∀ H1, Sx Ts H H1 → ∀ (Ec : XK) (Qc : VK), (∀ H2 d, Same H1 H2 → H2 d = some (.xd [("value", v)]) → Ec (.ref D) (some d) H2) → t Ec σ H1 Qc)
    (k : ∀ H3, Sx Ts H H3 → Q (.bl false) H3) : tOp rNeSs (tLam Ts (TTc K A) t) (tLst (tCons (tC (.str z)) (tCons (tCB (rReprD K) (tCons (tVar i) tNil)) tNil))) σ H Q := by
  refine lam_refused hT ho hk hr fun H3 l x3 h3 => ?_
  refine ⟨v, hi, ?_⟩
  have hrp : ∀ Q : VK, Q (.str dt.shown) H3 → rReprD K [v] H3 Q := fun Q q => (ho.sx x3).repr q
  simp only [tNil]
  refine hrp _ ?_
  refine ⟨(by show 2 ≤ sizeLine; decide), fun p hp => ?_⟩
  subst hz
  exact ne_told (same_new hp _ _ h3) upd_same (k _ (x3.same (same_new hp)))
end
section
variable {w : World} {K : PySem.W.Frag} {mg : Str → Option Value} {base : Heap} {A : Adr}
theorem caught_pack (T : Txt K mg A) : ∃ (oc : Value) (od : Option Addr) (kV doc pm : Value) (an : Option Addr) (cdv ct : Value) (osl : Array (Option Value)),
    K.lookup A.a_LawCaught = some ⟨oc, od, .func (PySem.W.fnOf "_law_caught" "_law_caught" (defArgs sLawCaught) (defBody sLawCaught) (defScope sLawCaught) .none kV doc pm an cdv ct), osl⟩ ∧ PySem.W.codeIn K cdv "_law_caught" = true ∧
    L2.Binds K (PySem.W.fnOf "_law_caught" "_law_caught" (defArgs sLawCaught) (defBody sLawCaught) (defScope sLawCaught) .none kV doc pm an cdv ct) ["_law_call"] [] := by
  obtain ⟨oc, od, kV, doc, pm, an, cdv, ct, osl, e, lk, hc⟩ := T.f_LawCaught.ex
  have b := T.b_LawCaught
  rw [e] at lk b
  exact ⟨oc, od, kV, doc, pm, an, cdv, ct, osl, lk, hc, b⟩
end



/-! ### is_written -/
section
open TL
theorem tl_cutTo {z : Str} {n : Nat} : tl (cutS z none (some (n : Int))) = (tl z).take n := by
  unfold cutS
  rw [HT.sIx_none, HT.sIx_nat]
  show ((tl z).drop 0).take (min n z.length - 0) = _
  rw [List.drop_zero, Nat.sub_zero, len_tl]
  by_cases h : n ≤ (tl z).length
  · rw [Nat.min_eq_left h]
  · rw [Nat.min_eq_right (by omega), List.take_of_length_le (by omega), List.take_of_length_le (by omega)]
theorem tl_cutFrom {z : Str} {n : Nat} : tl (cutS z (some (n : Int)) none) = (tl z).drop n := by
  unfold cutS
  rw [HT.sIx_none, HT.sIx_nat]
  show ((tl z).drop (min n z.length)).take (z.length - min n z.length) = _
  rw [len_tl]
  by_cases h : n ≤ (tl z).length
  · rw [Nat.min_eq_left h, List.take_of_length_le (by rw [List.length_drop]; omega)]
  · rw [Nat.min_eq_right (by omega), List.drop_of_length_le (by omega), List.drop_of_length_le (by omega), List.take_nil]
structure Tx4 (z : Str) : Prop where
  len : z.length ≤ 20000
  asc : ∀ c ∈ tl z, c < 128
theorem Tx4.of {z : Str} {w : List Nat} (h : Tx4 z) (s : ∀ c ∈ w, c ∈ tl z) (l : w.length ≤ (tl z).length) (e : ∃ y : Str, tl y = w) : ∃ y : Str, tl y = w ∧ Tx4 y := by
  obtain ⟨y, rfl⟩ := e
  exact ⟨y, rfl, ⟨by have := h.len; rw [len_tl] at this ⊢; omega, fun c hc => h.asc c (s c hc)⟩⟩
theorem tl_minus : tl (Str.ofString "-") = [45] := by decide +kernel
theorem minus_eq {z : Str} : decide (cutS z none (some 1) = Str.ofString "-") = neg (tl z) := by
  have e : tl (cutS z none (some 1)) = (tl z).take 1 := tl_cutTo (n := 1)
  unfold neg
  rw [Bool.eq_iff_iff, decide_eq_true_iff, beq_iff_eq]
  constructor
  · intro h
    rw [h, tl_minus] at e
    cases q : tl z with
    | nil => rw [q] at e; cases e
    | cons c r => rw [q] at e; cases e; rfl
  · intro h
    refine ext_tl ?_
    rw [e, tl_minus]
    cases q : tl z with
    | nil => rw [q] at h; cases h
    | cons c r => rw [q] at h; cases h; rfl
end
theorem dig_mem {c : Nat} : decide (c ∈ (Str.ofString "0123456789").cps.toList) = isD c := by
  have e : (Str.ofString "0123456789").cps.toList = [48, 49, 50, 51, 52, 53, 54, 55, 56, 57] := by decide +kernel
  rw [e]
  unfold isD
  rw [Bool.eq_iff_iff, decide_eq_true_iff, Bool.and_eq_true, decide_eq_true_iff, decide_eq_true_iff]
  simp only [List.mem_cons, List.not_mem_nil, or_false]
  omega
def spIsWr : Sp := fun vs H Q _ => ∃ z, vs = [.str z] ∧ Tx4 z ∧ ∀ H', Same H H' → Q (.bl (wrL (TL.tl z))) H'
section
open TL
variable {P : Program} {w : World} {K : PySem.W.Frag} {mg : Str → Option Value} {base : Heap} {A : Adr}
theorem ok_iswr (T : Txt K mg A) : FnOk P w K mg base CX0 1 A.a_IsWritten A.d_IsWritten ["word"] spIsWr := by
  refine T.f_IsWritten.ok scIsWritten (fun vs H Q E h => ?_) (fun cdv A' outer s H vs Q E hr h => ?_)
  · obtain ⟨z, rfl, _⟩ := h
    rfl
  · obtain ⟨z, rfl, tz, k⟩ := h
    refine ⟨_, (pss_cons (ps_set (i := 1) scIsWritten.nd rfl (Or.inl rfl) (pe_ifExp (pt_cmpR (op_eq) (pe_slice sl_str (pv 0) po_none (po_some pe_int)) pe_str (nomark _)) (pe_slice sl_str (pv 0) (po_some pe_int) po_none) (pv 0)))
      (pss_cons (ps_if (PW.pt (pw_or (pt_cmpR (op_eq) (pv 1) pe_str (nomark _)) (pw_or1 (pt_cmpR (op_gt) (pe_callB call_lenS (by rfl) T.z_len (by decide +kernel) (pa_cons (pv 1) pa_nil)) (pe_glob (v := .int 200) (by rfl) T.c_MOST_DIGITS.choose_spec ⟨_, rfl⟩) (nomark _))))) (pss_one (ps_ret pe_bl)) pss_nil)
      (pss_one (ps_ret (pe_callB (cr_all rfl) (by rfl) T.z_all (by decide +kernel) (pa_cons (pe_lc (own := [("sign", 2)]) (g := gName 2) (tt := tYes) (by rfl) scIsWritten.nd (pi_str (pv 1)) (blkOk_by (own := [("sign", 2)]) (N := nIsWritten) (sc := defScope sIsWritten) (by decide +kernel)) (fun _ _ _ _ _ => pg_name (i := 2) scIsWritten.nd rfl (Or.inl rfl)) (fun _ _ _ _ _ => pts_nil) (fun _ _ _ _ _ => (pe_cmpR (op_in_sign) (pv 2) (pe_glob (v := .str "0123456789") (by rfl) T.c_DIGITS.choose_spec ⟨_, rfl⟩) (by rfl)))) pa_nil)))))), ?_⟩
    refine seq_gen fun N eN => ?_
    try simp only [tSeq, tNext, tRet, tRetN, tAsg, gName, gSub, tDrop, tIfS, tOp, tUn, tCB, tCons, tNil, tC, tVar, rI, rI0, rU, tAnd, tOr, tNot, tAndV, tOrV, tNotV, tIf, tTest, tB, tCall, tChain, tLst, tTup, tYes, rIxH, rIsB, rIsBT, rMulS, kd_non, kd_bl, kd_int, kd_str, kd_ref, kdO_lst, kdO_tup, kdO_dK, nq_n, nq_b, nq_i, nq_s, nq_l, nq_t, nq_d, ne_eq, not_false_eq_true, kit_ss, kit_ns, kit_bs, kit_is, kit_ls, kit_ts, kit_ds, kit_bb, V.ty.injEq, and_assoc, rIxU, rLenH, rLenU, rLenS, rInt1, rSetL, rEq, rNe, rCat, L2.start, List.map, List.length, List.length_cons, List.length_nil, List.replicate, List.getElem?_cons_zero, List.getElem?_cons_succ, List.set_cons_zero, List.set_cons_succ, List.set_nil, List.cons_append, List.nil_append, List.append_nil, Option.some.injEq, V.int.injEq, V.ref.injEq, V.str.injEq, V.bl.injEq, HO.lst.injEq, HO.tup.injEq, exists_eq_left', exists_and_left, exists_eq_left, List.cons.injEq, and_true, true_and, and_false, false_and, and_self, reduceCtorEq, exists_false, or_false, false_or, exists_const, at0, at1, at2, at3, at4, at5, ix51, ix52, ix54, upd_same, Nat.reduceAdd, Nat.reduceSub, Nat.zero_add, Int.reduceToNat, Int.reduceLE, Int.reduceLT, decide_eq_true_eq, Bool.not_eq_true, if_true, if_false, Bool.false_eq_true, ite_true, ite_false, Bool.not_true, Bool.not_false, decide_true, decide_false, tFor_eq, tLc_eq, iList, iTup, iRng1, iRng2, iStr, tSl, tPart, tNoPart, rSlL, cxOf_K, wipe, ex_ty2, kit_LTl, kit_LTt, kit_LTd, kit_LTs, kit_LTn, kit_LTb, kit_LTi, tM1, rIxS, exists_eq', lt1p, tDNewK, rSlS, rEqNil, nox_K]
    have zs : z.length ≤ sizeLine := Nat.le_trans tz.len (by decide)
    refine ⟨zs, scal_str, ?_⟩
    suffices go : ∀ d : Str, tl d = dgs (tl z) → N [some (V.str z), some (V.str d), none] H by
      by_cases hm : cutS z none (some 1) = Str.ofString "-"
      · rw [if_pos hm]
        refine ⟨zs, go _ ?_⟩
        have hn : neg (tl z) = true := by rw [← minus_eq]; exact decide_eq_true hm
        rw [show tl (cutS z (some 1) none) = (tl z).drop 1 from tl_cutFrom (n := 1)]
        unfold dgs
        rw [if_pos hn, List.drop_one]
      · rw [if_neg hm]
        have hn : neg (tl z) = false := by rw [← minus_eq]; exact decide_eq_false hm
        refine go _ ?_
        unfold dgs
        rw [hn]
        rfl
    intro d hd
    have dl : d.length = (dgs (tl z)).length := by rw [len_tl, hd]
    have dle : (dgs (tl z)).length ≤ 20000 := by
      have := tz.len
      rw [len_tl] at this
      unfold dgs
      split
      · rw [List.length_tail]; omega
      · exact this
    rw [eN]
    clear eN N
    refine seq_gen fun N eN => ?_
    try simp only [tSeq, tNext, tRet, tRetN, tAsg, gName, gSub, tDrop, tIfS, tOp, tUn, tCB, tCons, tNil, tC, tVar, rI, rI0, rU, tAnd, tOr, tNot, tAndV, tOrV, tNotV, tIf, tTest, tB, tCall, tChain, tLst, tTup, tYes, rIxH, rIsB, rIsBT, rMulS, kd_non, kd_bl, kd_int, kd_str, kd_ref, kdO_lst, kdO_tup, kdO_dK, nq_n, nq_b, nq_i, nq_s, nq_l, nq_t, nq_d, ne_eq, not_false_eq_true, kit_ss, kit_ns, kit_bs, kit_is, kit_ls, kit_ts, kit_ds, kit_bb, V.ty.injEq, and_assoc, rIxU, rLenH, rLenU, rLenS, rInt1, rSetL, rEq, rNe, rCat, L2.start, List.map, List.length, List.length_cons, List.length_nil, List.replicate, List.getElem?_cons_zero, List.getElem?_cons_succ, List.set_cons_zero, List.set_cons_succ, List.set_nil, List.cons_append, List.nil_append, List.append_nil, Option.some.injEq, V.int.injEq, V.ref.injEq, V.str.injEq, V.bl.injEq, HO.lst.injEq, HO.tup.injEq, exists_eq_left', exists_and_left, exists_eq_left, List.cons.injEq, and_true, true_and, and_false, false_and, and_self, reduceCtorEq, exists_false, or_false, false_or, exists_const, at0, at1, at2, at3, at4, at5, ix51, ix52, ix54, upd_same, Nat.reduceAdd, Nat.reduceSub, Nat.zero_add, Int.reduceToNat, Int.reduceLE, Int.reduceLT, decide_eq_true_eq, Bool.not_eq_true, if_true, if_false, Bool.false_eq_true, ite_true, ite_false, Bool.not_true, Bool.not_false, decide_true, decide_false, tFor_eq, tLc_eq, iList, iTup, iRng1, iRng2, iStr, tSl, tPart, tNoPart, rSlL, cxOf_K, wipe, ex_ty2, kit_LTl, kit_LTt, kit_LTd, kit_LTs, kit_LTn, kit_LTb, kit_LTi, tM1, rIxS, exists_eq', lt1p, tDNewK, rSlS, rEqNil, nox_K]
    have t0 : tl (Str.ofString "") = [] := by decide +kernel
    refine ⟨scal_str, ?_⟩
    by_cases h0 : d = Str.ofString ""
    · rw [if_pos h0]
      have e : wrL (tl z) = false := by
        unfold wrL
        rw [← hd, h0, t0]
        rfl
      rw [e] at k
      exact k H (Same.refl _)
    rw [if_neg h0]
    have n0 : dgs (tl z) ≠ [] := fun w => h0 (ext_tl (by rw [hd, w, t0]))
    refine ⟨by rw [dl]; exact Nat.le_trans dle (by decide), ?_⟩
    by_cases h2 : (200 : Int) < (d.length : Int)
    · rw [if_pos (by simpa using h2)]
      have e : wrL (tl z) = false := by
        unfold wrL
        rw [decide_eq_false (by omega), Bool.and_false, Bool.false_and]
      rw [e] at k
      exact k H (Same.refl _)
    rw [if_neg (by simpa using h2)]
    rw [eN]
    clear eN N
    try simp only [tSeq, tNext, tRet, tRetN, tAsg, gName, gSub, tDrop, tIfS, tOp, tUn, tCB, tCons, tNil, tC, tVar, rI, rI0, rU, tAnd, tOr, tNot, tAndV, tOrV, tNotV, tIf, tTest, tB, tCall, tChain, tLst, tTup, tYes, rIxH, rIsB, rIsBT, rMulS, kd_non, kd_bl, kd_int, kd_str, kd_ref, kdO_lst, kdO_tup, kdO_dK, nq_n, nq_b, nq_i, nq_s, nq_l, nq_t, nq_d, ne_eq, not_false_eq_true, kit_ss, kit_ns, kit_bs, kit_is, kit_ls, kit_ts, kit_ds, kit_bb, V.ty.injEq, and_assoc, rIxU, rLenH, rLenU, rLenS, rInt1, rSetL, rEq, rNe, rCat, L2.start, List.map, List.length, List.length_cons, List.length_nil, List.replicate, List.getElem?_cons_zero, List.getElem?_cons_succ, List.set_cons_zero, List.set_cons_succ, List.set_nil, List.cons_append, List.nil_append, List.append_nil, Option.some.injEq, V.int.injEq, V.ref.injEq, V.str.injEq, V.bl.injEq, HO.lst.injEq, HO.tup.injEq, exists_eq_left', exists_and_left, exists_eq_left, List.cons.injEq, and_true, true_and, and_false, false_and, and_self, reduceCtorEq, exists_false, or_false, false_or, exists_const, at0, at1, at2, at3, at4, at5, ix51, ix52, ix54, upd_same, Nat.reduceAdd, Nat.reduceSub, Nat.zero_add, Int.reduceToNat, Int.reduceLE, Int.reduceLT, decide_eq_true_eq, Bool.not_eq_true, if_true, if_false, Bool.false_eq_true, ite_true, ite_false, Bool.not_true, Bool.not_false, decide_true, decide_false, tFor_eq, tLc_eq, iList, iTup, iRng1, iRng2, iStr, tSl, tPart, tNoPart, rSlL, cxOf_K, wipe, ex_ty2, kit_LTl, kit_LTt, kit_LTd, kit_LTs, kit_LTn, kit_LTb, kit_LTi, tM1, rIxS, exists_eq', lt1p, tDNewK, rSlS, rEqNil, nox_K]
    intro D hD
    refine lc_same (walk_strY (z := d)) (fun _ => true) (fun v => .bl (isD (codeOf v))) hD (fun _ _ => trivial) (by rw [List.length_map]; show (tl d).length ≤ _; rw [hd]; omega) (fun x hx H2 s2 R R0 h1 _ => ?_) (fun H2 s2 hD2 => ?_)
    · obtain ⟨c, hc, rfl⟩ := mem_sgn hx
      try simp only [tSeq, tNext, tRet, tRetN, tAsg, gName, gSub, tDrop, tIfS, tOp, tUn, tCB, tCons, tNil, tC, tVar, rI, rI0, rU, tAnd, tOr, tNot, tAndV, tOrV, tNotV, tIf, tTest, tB, tCall, tChain, tLst, tTup, tYes, rIxH, rIsB, rIsBT, rMulS, kd_non, kd_bl, kd_int, kd_str, kd_ref, kdO_lst, kdO_tup, kdO_dK, nq_n, nq_b, nq_i, nq_s, nq_l, nq_t, nq_d, ne_eq, not_false_eq_true, kit_ss, kit_ns, kit_bs, kit_is, kit_ls, kit_ts, kit_ds, kit_bb, V.ty.injEq, and_assoc, rIxU, rLenH, rLenU, rLenS, rInt1, rSetL, rEq, rNe, rCat, L2.start, List.map, List.length, List.length_cons, List.length_nil, List.replicate, List.getElem?_cons_zero, List.getElem?_cons_succ, List.set_cons_zero, List.set_cons_succ, List.set_nil, List.cons_append, List.nil_append, List.append_nil, Option.some.injEq, V.int.injEq, V.ref.injEq, V.str.injEq, V.bl.injEq, HO.lst.injEq, HO.tup.injEq, exists_eq_left', exists_and_left, exists_eq_left, List.cons.injEq, and_true, true_and, and_false, false_and, and_self, reduceCtorEq, exists_false, or_false, false_or, exists_const, at0, at1, at2, at3, at4, at5, ix51, ix52, ix54, upd_same, Nat.reduceAdd, Nat.reduceSub, Nat.zero_add, Int.reduceToNat, Int.reduceLE, Int.reduceLT, decide_eq_true_eq, Bool.not_eq_true, if_true, if_false, Bool.false_eq_true, ite_true, ite_false, Bool.not_true, Bool.not_false, decide_true, decide_false, tFor_eq, tLc_eq, iList, iTup, iRng1, iRng2, iStr, tSl, tPart, tNoPart, rSlL, cxOf_K, wipe, ex_ty2, kit_LTl, kit_LTt, kit_LTd, kit_LTs, kit_LTn, kit_LTb, kit_LTi, tM1, rIxS, exists_eq', lt1p, tDNewK, rSlS, rEqNil, nox_K, sgn]
      have h1 := h1 H2 (Same.refl _) rfl
      refine ⟨_, rfl, ?_⟩
      rw [dig_mem]
      exact h1
    · rw [filter_all] at hD2
      have eb : List.map (fun v => V.bl (isD (codeOf v))) (List.map sgn d.cps.toList) = ((tl d).map isD).map V.bl := by rw [List.map_map, List.map_map]; rfl
      rw [eb] at hD2
      refine ⟨D, _, rfl, SqL.of hD2, ?_⟩
      have e : wrL (tl z) = ((tl d).map isD).all id := by
        unfold wrL
        rw [decide_eq_true (by omega), Bool.and_true, List.all_map, hd]
        cases q : dgs (tl z) with
        | nil => exact absurd q n0
        | cons _ _ => rfl
      rw [← e]
      exact k H2 s2
end



/-! ### Ratio.from_text -/
section
open TL PySem.NumText
theorem sp_or (s : Nat) (l : List Nat) : (s ∉ l ∧ spl [s] 0 [] l = [l]) ∨ ∃ p r, s ∉ p ∧ l = p ++ s :: r ∧ spl [s] 0 [] l = p :: spl [s] 0 [] r := by
  by_cases h : s ∈ l
  · right
    obtain ⟨p, r, e, hp⟩ := List.eq_append_cons_of_mem h
    refine ⟨p, r, hp, e, ?_⟩
    rw [e]
    exact spl_part1 (S := []) (acc := []) hp
  · exact .inl ⟨h, spl_last1 (S := []) (acc := []) h⟩
def prt (z : Str) : List (List Nat) := spl [47] 0 [] (tl z)
theorem tl_sl : tl (Str.ofString "/") = [47] := by decide +kernel
theorem split47 (z : Str) : (Txt.split z (Str.ofString "/")).map tl = prt z := by
  rw [split_spl z (Str.ofString "/") (by rw [tl_sl]; simp) (kind_ok (by decide +kernel)), tl_sl]
  rfl
theorem spl_sub (s : Nat) : ∀ (n : Nat) (l : List Nat), l.length ≤ n → ∀ p ∈ spl [s] 0 [] l, p.length ≤ l.length ∧ ∀ c ∈ p, c ∈ l
  | n, l, hn, p, hp => by
    rcases sp_or s l with ⟨_, e⟩ | ⟨a, r, _, e1, e2⟩
    · rw [e] at hp
      rw [List.mem_singleton.mp hp]
      exact ⟨Nat.le_refl _, fun _ h => h⟩
    · rw [e2] at hp
      have hl : l.length = a.length + (r.length + 1) := by rw [e1, List.length_append, List.length_cons]
      rcases List.mem_cons.mp hp with rfl | hp
      · refine ⟨by omega, fun c hc => ?_⟩
        rw [e1]
        exact List.mem_append_left _ hc
      · match n with
        | 0 => omega
        | n + 1 =>
          obtain ⟨h1, h2⟩ := spl_sub s n r (by omega) p hp
          refine ⟨by omega, fun c hc => ?_⟩
          rw [e1]
          exact List.mem_append_right _ (List.mem_cons_of_mem _ (h2 c hc))
theorem spl_cnt (s : Nat) : ∀ (n : Nat) (l : List Nat), l.length ≤ n → (spl [s] 0 [] l).length ≤ l.length + 1
  | n, l, hn => by
    rcases sp_or s l with ⟨_, e⟩ | ⟨a, r, _, e1, e2⟩
    · rw [e]
      simp
    · have hl : l.length = a.length + (r.length + 1) := by rw [e1, List.length_append, List.length_cons]
      rw [e2, List.length_cons]
      match n with
      | 0 => omega
      | n + 1 =>
        have := spl_cnt s n r (by omega)
        omega
theorem Tx4.part {z p : Str} (h : Tx4 z) (hp : p ∈ Txt.split z (Str.ofString "/")) : Tx4 p := by
  have m : tl p ∈ prt z := by rw [← split47]; exact List.mem_map_of_mem hp
  obtain ⟨h1, h2⟩ := spl_sub 47 _ (tl z) (Nat.le_refl _) _ m
  have := h.len
  rw [len_tl] at this
  exact ⟨by rw [len_tl]; omega, fun c hc => h.asc c (h2 c hc)⟩
theorem fold_lt : ∀ {cs : List Nat} (a k : Nat), AllDigits cs → a < 10 ^ k → cs.foldl (fun acc c => acc * 10 + (c - 48)) a < 10 ^ (k + cs.length)
  | [], a, k, _, h => h
  | c :: cs, a, k, hd, h => by
    have hc := hd.head
    have e : k + (c :: cs).length = (k + 1) + cs.length := by rw [List.length_cons]; omega
    rw [e, List.foldl_cons]
    refine fold_lt _ (k + 1) hd.tail ?_
    rw [Nat.pow_succ]
    omega
theorem dv_lt {cs : List Nat} (h : AllDigits cs) : digitsVal cs < 10 ^ cs.length := by
  have := fold_lt 0 0 h (by decide)
  rw [Nat.zero_add] at this
  exact this
theorem pow10 : (10 : Nat) ^ 200 < 2 ^ 700 := by decide +kernel
theorem int_wr {z : Str} (h : wrL (tl z) = true) : PySem.intText? z = some (valL (tl z)) ∧ z.length ≤ 640 ∧ (valL (tl z)).natAbs < 2 ^ 700 := by
  obtain ⟨h1, h2, h3⟩ := wrL_len h
  have hb : digitsVal (dgs (tl z)) < 2 ^ 700 := Nat.lt_of_lt_of_le (Nat.lt_of_lt_of_le (dv_lt h2) (Nat.pow_le_pow_right (by decide) h1)) (Nat.le_of_lt pow10)
  by_cases hn : neg (tl z) = true
  · have e := neg_of hn
    have hl : z.length ≤ 201 := by
      rw [len_tl, e, List.length_cons]
      omega
    have ev : valL (tl z) = -((digitsVal (dgs (tl z)) : Nat) : Int) := by
      unfold valL sg
      rw [if_pos hn]
      omega
    refine ⟨?_, by omega, by rw [ev]; omega⟩
    rw [ev]
    exact intText_neg e h2 h3 (by omega)
  · have e : dgs (tl z) = tl z := by unfold dgs; rw [if_neg hn]
    have hl : z.length ≤ 200 := by
      rw [e] at h1
      rw [len_tl]
      exact h1
    have ev : valL (tl z) = ((digitsVal (tl z) : Nat) : Int) := by
      unfold valL sg
      rw [if_neg hn, e]
      omega
    rw [e] at h2 h3 hb
    refine ⟨?_, by omega, by rw [ev]; omega⟩
    rw [ev]
    exact intText_digits h2 h3 (by omega)
/-- what from_text reads -/
def rdZ (z : Str) : Option (Int × Int) := rdP (prt z)
theorem rt_text {u l : Int} : tl (ratText u l) = rT u l := by
  unfold ratText rT
  split
  · rfl
  · rw [tl_append, tl_append, tl_sl, List.append_assoc]
    rfl
theorem prt_one {z : Str} {p : List Nat} (h : prt z = [p]) : tl z = p := by
  unfold prt at h
  rcases sp_or 47 (tl z) with ⟨_, e⟩ | ⟨a, r, _, e1, e2⟩
  · rw [e] at h
    injection h
  · rw [e2] at h
    injection h with h1 h2
    rcases sp_or 47 r with ⟨_, e⟩ | ⟨_, _, _, _, e⟩ <;> (rw [e] at h2; cases h2)
theorem prt_two {z : Str} {p q : List Nat} (h : prt z = [p, q]) : 47 ∉ p ∧ tl z = p ++ 47 :: q := by
  unfold prt at h
  rcases sp_or 47 (tl z) with ⟨_, e⟩ | ⟨a, r, n, e1, e2⟩
  · rw [e] at h
    cases h
  · rw [e2] at h
    injection h with h1 h2
    subst h1
    refine ⟨n, ?_⟩
    rw [e1]
    rcases sp_or 47 r with ⟨_, e⟩ | ⟨a', r', _, _, e⟩
    · rw [e] at h2
      injection h2 with h2
      rw [h2]
    · rw [e] at h2
      injection h2 with _ h2
      rcases sp_or 47 r' with ⟨_, e⟩ | ⟨_, _, _, _, e⟩ <;> (rw [e] at h2; cases h2)
theorem prt_ne (z : Str) : prt z ≠ [] := by
  unfold prt
  rcases sp_or 47 (tl z) with ⟨_, e⟩ | ⟨a, r, n, e1, e2⟩
  · rw [e]; simp
  · rw [e2]; simp
end
def spFrom (K : PySem.W.Frag) (C N : Addr) : Sp := fun vs H Q E => (∃ z, vs = [.ref C, .str z] ∧ Tx4 z ∧
    ((∃ u l, rdZ z = some (u, l) ∧ ∀ H' a, Same H H' → H a = none → RatAt C H' (.ref a) (Rat.divInt u l) 700 → Q (.ref a) H') ∨
     (rdZ z = none ∧ ∀ H' d, Same H H' → H d = none → H' d = some (.xd [("value", .str z)]) → E (.ref N) (some d) H'))) ∨
  (∃ v ty, vs = [.ref C, v] ∧ tyV H v = some ty ∧ (∀ C, ty = .ref C → TyF K C) ∧ PySem.W.kitOne K ty (.type "str") = some false ∧ ∀ d, H d = none → E (.ref N) (some d) (upd H d (.xd [("value", v)])))



/-! ### Ratio.from_text, the walk -/
theorem rd_none_len {z : Str} (h : 2 < (prt z).length) : rdZ z = none := by
  unfold rdZ rdP
  split
  · rename_i p e; rw [e] at h; simp at h
  · rename_i p q e; rw [e] at h; simp at h
  · rfl
theorem rd_none_wr {z : Str} (h : ∃ p ∈ prt z, wrL p = false) : rdZ z = none := by
  obtain ⟨p, hp, hw⟩ := h
  unfold rdZ rdP
  split
  · rename_i p' e
    rw [e] at hp
    rw [List.mem_singleton.mp hp] at hw
    cases q : rd1 p' with
    | none => rfl
    | some r =>
      have := (read_one.mp ⟨r, q⟩).1
      rw [hw] at this
      cases this
  · rename_i p' q' e
    have n47 := (prt_two e).1
    rw [e] at hp
    cases q : rd2 p' q' with
    | none => rfl
    | some r =>
      have := (read_two n47).mp ⟨r, q⟩
      simp only [List.mem_cons, List.not_mem_nil, or_false] at hp
      rcases hp with rfl | rfl
      · rw [hw] at this; cases this.1
      · rw [hw] at this; cases this.2.1
  · rfl
def wrV : V → Bool
  | .str z => wrL (TL.tl z)
  | _ => false
section
open TL
variable {w : World} {K : PySem.W.Frag} {mg : Str → Option Value} {base : Heap} {A : Adr}
theorem ok_from (T : Txt K mg A) (gIsWritten : FnOk PW w K mg base CX0 1 A.a_IsWritten A.d_IsWritten ["word"] spIsWr) (gRatioText : FnOk PW w K mg base CX0 1 A.a_RatioText A.d_RatioText ["self"] (spText A.k_Ratio))
    (gRatioInit : FnOk PW w K mg base (L2.CX PW w) 2 A.a_RatioInit A.d_RatioInit ["self", "top", "bottom"] (spInitX A.k_Ratio A.k_InvalidNumber)) :
    FnOk PW w K mg base (L2.CX PW w) 4 A.a_RatioFromText A.d_RatioFromText ["cls", "text"] (spFrom K A.k_Ratio A.k_InvalidText) := by
  refine T.f_RatioFromText.okX scRatioFromText (fun vs H Q E h => ?_) (fun cdv A' outer s H vs Q E hr h => ?_)
  · rcases h with ⟨z, rfl, _⟩ | ⟨v, ty, rfl, _⟩ <;> rfl
  · refine ⟨_, (pss_cons (ps_if (pt_not (pt_val (pe_callB call_isW (by rfl) T.z_isinstance (by decide +kernel) (pa_cons (pv 1) (pa_cons (pe_bltn (v := .ty "str") (by rfl) T.z_str (by decide +kernel) rfl) pa_nil))))) (pss_one (ps_raiseX rfl T.x_InvalidText hr (takes_of rfl rfl rfl rfl) (pa_cons (pv 1) pa_nil) (by rfl))) pss_nil)
      (pss_cons (ps_set (i := 2) scRatioFromText.nd rfl (Or.inl rfl) (pe_split (pv 1) pe_str))
      (pss_cons (ps_if (PW.pt (pw_or (pt_cmpR (op_gt) (pe_callB call_lenH (by rfl) T.z_len (by decide +kernel) (pa_cons (pv 2) pa_nil)) pe_int (nomark _)) (pw_or1 (pt_not (pt_val (pe_callB (cr_all rfl) (by rfl) T.z_all (by decide +kernel) (pa_cons (pe_lc (own := [("part", 4)]) (g := gName 4) (tt := tYes) (by rfl) scRatioFromText.nd (pi_list (pv 2)) (blkOk_by (own := [("part", 4)]) (N := nRatioFromText) (sc := defScope sRatioFromText) (by decide +kernel)) (fun _ _ _ _ _ => pg_name (i := 4) scRatioFromText.nd rfl (Or.inl rfl)) (fun _ _ _ _ _ => pts_nil) (fun _ _ _ _ _ => (pe_call gIsWritten (hr.mono (by decide)) (by rfl) T.m_IsWritten T.f_IsWritten.kp T.b_IsWritten .nil pass0 (pa_cons (pv 4) pa_nil)))) pa_nil))))))) (pss_one (ps_raiseX rfl T.x_InvalidText hr (takes_of rfl rfl rfl rfl) (pa_cons (pv 1) pa_nil) (by rfl))) pss_nil)
      (pss_cons (ps_set (i := 3) scRatioFromText.nd rfl (Or.inl rfl) (pe_makeV (pv 0) T.mk_Ratio gRatioInit (hr.mono (by decide)) T.e1_RatioInit.choose_spec.2 T.e1_RatioInit.choose_spec.1 (passes_call (takes_of rfl rfl rfl rfl) (fun _ _ _ _ h => h)) (pa_cons (pe_callTy call_int_str (by rfl) T.z_int (by decide +kernel) (pa_cons (pe_ix ix_lstH (pv 2) pe_int (fun _ _ => rfl)) pa_nil)) pa_nil)))
      (pss_cons (ps_if (pt_cmpR (op_eq) (pe_callB call_lenH (by rfl) T.z_len (by decide +kernel) (pa_cons (pv 2) pa_nil)) pe_int (nomark _)) (pss_cons (ps_if (pt_cmpR (op_eq) (pe_callTy call_int_str (by rfl) T.z_int (by decide +kernel) (pa_cons (pe_ix ix_lstH (pv 2) pe_int (fun _ _ => rfl)) pa_nil)) pe_int (nomark _)) (pss_one (ps_raiseX rfl T.x_InvalidText hr (takes_of rfl rfl rfl rfl) (pa_cons (pv 1) pa_nil) (by rfl))) pss_nil)
      (pss_one (ps_set (i := 3) scRatioFromText.nd rfl (Or.inl rfl) (pe_makeV (pv 0) T.mk_Ratio gRatioInit (hr.mono (by decide)) T.b_RatioInit .nil (passes_call (takes_of rfl rfl rfl rfl) (fun _ _ _ _ h => h)) (pa_cons (pe_callTy call_int_str (by rfl) T.z_int (by decide +kernel) (pa_cons (pe_ix ix_lstH (pv 2) pe_int (fun _ _ => rfl)) pa_nil)) (pa_cons (pe_callTy call_int_str (by rfl) T.z_int (by decide +kernel) (pa_cons (pe_ix ix_lstH (pv 2) pe_int (fun _ _ => rfl)) pa_nil)) pa_nil)))))) pss_nil)
      (pss_cons (ps_if (pt_cmpR (op_ne) (pe_prop (pv 3) T.t_Ratio.cl T.h_RatioText gRatioText (hr.mono (by decide)) T.b_RatioText .nil pass0 (by rfl)) (pv 1) (nomark _)) (pss_one (ps_raiseX rfl T.x_InvalidText hr (takes_of rfl rfl rfl rfl) (pa_cons (pv 1) pa_nil) (by rfl))) pss_nil)
      (pss_one (ps_ret (pv 3))))))))), ?_⟩
    have e1 : PySem.W.kitOne K (.type "str") (.type "str") = some true := kit_self
    rcases h with ⟨z, rfl, tz, h⟩ | ⟨v, ty, rfl, h1, h2, h3, k⟩
    · refine seq_gen fun N eN => ?_
      try simp only [tSeq, tNext, tRet, tRetN, tAsg, gName, gSub, tDrop, tIfS, tOp, tUn, tCB, tCons, tNil, tC, tVar, rI, rI0, rU, tAnd, tOr, tNot, tAndV, tOrV, tNotV, tIf, tTest, tB, tCall, tChain, tLst, tTup, tYes, rIxH, rIsB, rIsBT, rMulS, kd_non, kd_bl, kd_int, kd_str, kd_ref, kdO_lst, kdO_tup, kdO_dK, nq_n, nq_b, nq_i, nq_s, nq_l, nq_t, nq_d, ne_eq, not_false_eq_true, kit_ss, kit_ns, kit_bs, kit_is, kit_ls, kit_ts, kit_ds, kit_bb, V.ty.injEq, and_assoc, rIxU, rLenH, rLenU, rLenS, rInt1, rSetL, rEq, rNe, rCat, L2.start, List.map, List.length, List.length_cons, List.length_nil, List.replicate, List.getElem?_cons_zero, List.getElem?_cons_succ, List.set_cons_zero, List.set_cons_succ, List.set_nil, List.cons_append, List.nil_append, List.append_nil, Option.some.injEq, V.int.injEq, V.ref.injEq, V.str.injEq, V.bl.injEq, HO.lst.injEq, HO.tup.injEq, exists_eq_left', exists_and_left, exists_eq_left, List.cons.injEq, and_true, true_and, and_false, false_and, and_self, reduceCtorEq, exists_false, or_false, false_or, exists_const, at0, at1, at2, at3, at4, at5, ix51, ix52, ix54, upd_same, Nat.reduceAdd, Nat.reduceSub, Nat.zero_add, Int.reduceToNat, Int.reduceLE, Int.reduceLT, decide_eq_true_eq, Bool.not_eq_true, if_true, if_false, Bool.false_eq_true, ite_true, ite_false, Bool.not_true, Bool.not_false, decide_true, decide_false, tFor_eq, tLc_eq, iList, iTup, iRng1, iRng2, iStr, tSl, tPart, tNoPart, rSlL, cxOf_K, wipe, ex_ty2, kit_LTl, kit_LTt, kit_LTd, kit_LTs, kit_LTn, kit_LTb, kit_LTi, tM1, rIxS, exists_eq', lt1p, tDNewK, rSlS, rEqNil, nox_K, rIsW, clsV_ty, clsV_ref, tyV_str, e1, tNever, false_implies, implies_true]
      rw [eN]
      clear eN N
      have no : rdZ z = none → ∀ H', Same H H' → ∀ d, H' d = none → E (.ref A.k_InvalidText) (some d) (upd H' d (.xd [("value", .str z)])) := by
        intro hn H' s d nd
        rcases h with ⟨u, l, e, _⟩ | ⟨_, k⟩
        · rw [hn] at e; cases e
        · exact k _ d (s.trans (same_new nd)) (s.free nd) upd_same
      refine seq_gen fun N eN => ?_
      try simp only [tSeq, tNext, tRet, tRetN, tAsg, gName, gSub, tDrop, tIfS, tOp, tUn, tCB, tCons, tNil, tC, tVar, rI, rI0, rU, tAnd, tOr, tNot, tAndV, tOrV, tNotV, tIf, tTest, tB, tCall, tChain, tLst, tTup, tYes, rIxH, rIsB, rIsBT, rMulS, kd_non, kd_bl, kd_int, kd_str, kd_ref, kdO_lst, kdO_tup, kdO_dK, nq_n, nq_b, nq_i, nq_s, nq_l, nq_t, nq_d, ne_eq, not_false_eq_true, kit_ss, kit_ns, kit_bs, kit_is, kit_ls, kit_ts, kit_ds, kit_bb, V.ty.injEq, and_assoc, rIxU, rLenH, rLenU, rLenS, rInt1, rSetL, rEq, rNe, rCat, L2.start, List.map, List.length, List.length_cons, List.length_nil, List.replicate, List.getElem?_cons_zero, List.getElem?_cons_succ, List.set_cons_zero, List.set_cons_succ, List.set_nil, List.cons_append, List.nil_append, List.append_nil, Option.some.injEq, V.int.injEq, V.ref.injEq, V.str.injEq, V.bl.injEq, HO.lst.injEq, HO.tup.injEq, exists_eq_left', exists_and_left, exists_eq_left, List.cons.injEq, and_true, true_and, and_false, false_and, and_self, reduceCtorEq, exists_false, or_false, false_or, exists_const, at0, at1, at2, at3, at4, at5, ix51, ix52, ix54, upd_same, Nat.reduceAdd, Nat.reduceSub, Nat.zero_add, Int.reduceToNat, Int.reduceLE, Int.reduceLT, decide_eq_true_eq, Bool.not_eq_true, if_true, if_false, Bool.false_eq_true, ite_true, ite_false, Bool.not_true, Bool.not_false, decide_true, decide_false, tFor_eq, tLc_eq, iList, iTup, iRng1, iRng2, iStr, tSl, tPart, tNoPart, rSlL, cxOf_K, wipe, ex_ty2, kit_LTl, kit_LTt, kit_LTd, kit_LTs, kit_LTn, kit_LTb, kit_LTi, tM1, rIxS, exists_eq', lt1p, tDNewK, rSlS, rEqNil, nox_K]
      refine ⟨by decide +kernel, Nat.le_trans (Nat.add_le_add_right tz.len 2) (by decide), ?_⟩
      intro P n_P; generalize g_H1 : upd H P _ = H1; obtain ⟨s_H1, h_P⟩ := new_facts n_P g_H1; clear g_H1
      obtain ⟨ps, eps⟩ : ∃ ps, ps = Txt.split z (Str.ofString "/") := ⟨_, rfl⟩
      have pt : ∀ p ∈ ps, Tx4 p := fun p hp => tz.part (by rw [← eps]; exact hp)
      have pm : ps.map tl = prt z := by rw [eps]; exact split47 z
      have pl : ps.length = (prt z).length := by rw [← pm, List.length_map]
      have plz : ps.length ≤ 20001 := by
        rw [pl]
        have := spl_cnt 47 _ (tl z) (Nat.le_refl _)
        have h2 := tz.len
        rw [len_tl] at h2
        exact Nat.le_trans this (by omega)
      rw [← eps] at h_P
      rw [eN]
      clear eN N
      refine seq_gen fun N eN => ?_
      try simp only [tSeq, tNext, tRet, tRetN, tAsg, gName, gSub, tDrop, tIfS, tOp, tUn, tCB, tCons, tNil, tC, tVar, rI, rI0, rU, tAnd, tOr, tNot, tAndV, tOrV, tNotV, tIf, tTest, tB, tCall, tChain, tLst, tTup, tYes, rIxH, rIsB, rIsBT, rMulS, kd_non, kd_bl, kd_int, kd_str, kd_ref, kdO_lst, kdO_tup, kdO_dK, nq_n, nq_b, nq_i, nq_s, nq_l, nq_t, nq_d, ne_eq, not_false_eq_true, kit_ss, kit_ns, kit_bs, kit_is, kit_ls, kit_ts, kit_ds, kit_bb, V.ty.injEq, and_assoc, rIxU, rLenH, rLenU, rLenS, rInt1, rSetL, rEq, rNe, rCat, L2.start, List.map, List.length, List.length_cons, List.length_nil, List.replicate, List.getElem?_cons_zero, List.getElem?_cons_succ, List.set_cons_zero, List.set_cons_succ, List.set_nil, List.cons_append, List.nil_append, List.append_nil, Option.some.injEq, V.int.injEq, V.ref.injEq, V.str.injEq, V.bl.injEq, HO.lst.injEq, HO.tup.injEq, exists_eq_left', exists_and_left, exists_eq_left, List.cons.injEq, and_true, true_and, and_false, false_and, and_self, reduceCtorEq, exists_false, or_false, false_or, exists_const, at0, at1, at2, at3, at4, at5, ix51, ix52, ix54, upd_same, Nat.reduceAdd, Nat.reduceSub, Nat.zero_add, Int.reduceToNat, Int.reduceLE, Int.reduceLT, decide_eq_true_eq, Bool.not_eq_true, if_true, if_false, Bool.false_eq_true, ite_true, ite_false, Bool.not_true, Bool.not_false, decide_true, decide_false, tFor_eq, tLc_eq, iList, iTup, iRng1, iRng2, iStr, tSl, tPart, tNoPart, rSlL, cxOf_K, wipe, ex_ty2, kit_LTl, kit_LTt, kit_LTd, kit_LTs, kit_LTn, kit_LTb, kit_LTi, tM1, rIxS, exists_eq', lt1p, tDNewK, rSlS, rEqNil, nox_K, h_P, tNever, tRaiseX, tMkX]
      by_cases h2 : (2 : Int) < ((List.map V.str ps).length : Int)
      · rw [if_pos h2]
        rw [List.length_map] at h2
        exact no (rd_none_len (by rw [← pl]; omega)) H1 s_H1
      rw [if_neg h2]
      rw [List.length_map] at h2
      refine ⟨⟨_, SqL.of h_P⟩, fun D hD => ?_⟩
      refine lc_same (walk_list (K := K) (a := P) (xs := ps.map V.str)) (fun _ => true) (fun v => .bl (wrV v)) hD (fun H2 s2 => s2.seq (SqL.of h_P)) (by rw [List.length_map]; omega) (fun x hx H2 s2 R R0 h1 _ => ?_) (fun H2 s2 hD2 => ?_)
      · obtain ⟨p, hp, rfl⟩ := List.mem_map.mp hx
        try simp only [tSeq, tNext, tRet, tRetN, tAsg, gName, gSub, tDrop, tIfS, tOp, tUn, tCB, tCons, tNil, tC, tVar, rI, rI0, rU, tAnd, tOr, tNot, tAndV, tOrV, tNotV, tIf, tTest, tB, tCall, tChain, tLst, tTup, tYes, rIxH, rIsB, rIsBT, rMulS, kd_non, kd_bl, kd_int, kd_str, kd_ref, kdO_lst, kdO_tup, kdO_dK, nq_n, nq_b, nq_i, nq_s, nq_l, nq_t, nq_d, ne_eq, not_false_eq_true, kit_ss, kit_ns, kit_bs, kit_is, kit_ls, kit_ts, kit_ds, kit_bb, V.ty.injEq, and_assoc, rIxU, rLenH, rLenU, rLenS, rInt1, rSetL, rEq, rNe, rCat, L2.start, List.map, List.length, List.length_cons, List.length_nil, List.replicate, List.getElem?_cons_zero, List.getElem?_cons_succ, List.set_cons_zero, List.set_cons_succ, List.set_nil, List.cons_append, List.nil_append, List.append_nil, Option.some.injEq, V.int.injEq, V.ref.injEq, V.str.injEq, V.bl.injEq, HO.lst.injEq, HO.tup.injEq, exists_eq_left', exists_and_left, exists_eq_left, List.cons.injEq, and_true, true_and, and_false, false_and, and_self, reduceCtorEq, exists_false, or_false, false_or, exists_const, at0, at1, at2, at3, at4, at5, ix51, ix52, ix54, upd_same, Nat.reduceAdd, Nat.reduceSub, Nat.zero_add, Int.reduceToNat, Int.reduceLE, Int.reduceLT, decide_eq_true_eq, Bool.not_eq_true, if_true, if_false, Bool.false_eq_true, ite_true, ite_false, Bool.not_true, Bool.not_false, decide_true, decide_false, tFor_eq, tLc_eq, iList, iTup, iRng1, iRng2, iStr, tSl, tPart, tNoPart, rSlL, cxOf_K, wipe, ex_ty2, kit_LTl, kit_LTt, kit_LTd, kit_LTs, kit_LTn, kit_LTb, kit_LTi, tM1, rIxS, exists_eq', lt1p, tDNewK, rSlS, rEqNil, nox_K]
        exact ⟨p, rfl, pt p hp, fun H3 s3 => h1 H3 s3 rfl⟩
      rw [filter_all] at hD2
      have eb : List.map (fun v => V.bl (wrV v)) (List.map V.str ps) = (ps.map fun p => wrL (tl p)).map V.bl := by rw [List.map_map, List.map_map]; rfl
      rw [eb] at hD2
      refine ⟨D, _, rfl, SqL.of hD2, _, rfl, ?_⟩
      have s02 := s_H1.trans s2
      have hP2 := s2 _ _ h_P
      by_cases hw : (ps.map fun p => wrL (tl p)).all id = true
      · rw [hw]
        try simp only [tSeq, tNext, tRet, tRetN, tAsg, gName, gSub, tDrop, tIfS, tOp, tUn, tCB, tCons, tNil, tC, tVar, rI, rI0, rU, tAnd, tOr, tNot, tAndV, tOrV, tNotV, tIf, tTest, tB, tCall, tChain, tLst, tTup, tYes, rIxH, rIsB, rIsBT, rMulS, kd_non, kd_bl, kd_int, kd_str, kd_ref, kdO_lst, kdO_tup, kdO_dK, nq_n, nq_b, nq_i, nq_s, nq_l, nq_t, nq_d, ne_eq, not_false_eq_true, kit_ss, kit_ns, kit_bs, kit_is, kit_ls, kit_ts, kit_ds, kit_bb, V.ty.injEq, and_assoc, rIxU, rLenH, rLenU, rLenS, rInt1, rSetL, rEq, rNe, rCat, L2.start, List.map, List.length, List.length_cons, List.length_nil, List.replicate, List.getElem?_cons_zero, List.getElem?_cons_succ, List.set_cons_zero, List.set_cons_succ, List.set_nil, List.cons_append, List.nil_append, List.append_nil, Option.some.injEq, V.int.injEq, V.ref.injEq, V.str.injEq, V.bl.injEq, HO.lst.injEq, HO.tup.injEq, exists_eq_left', exists_and_left, exists_eq_left, List.cons.injEq, and_true, true_and, and_false, false_and, and_self, reduceCtorEq, exists_false, or_false, false_or, exists_const, at0, at1, at2, at3, at4, at5, ix51, ix52, ix54, upd_same, Nat.reduceAdd, Nat.reduceSub, Nat.zero_add, Int.reduceToNat, Int.reduceLE, Int.reduceLT, decide_eq_true_eq, Bool.not_eq_true, if_true, if_false, Bool.false_eq_true, ite_true, ite_false, Bool.not_true, Bool.not_false, decide_true, decide_false, tFor_eq, tLc_eq, iList, iTup, iRng1, iRng2, iStr, tSl, tPart, tNoPart, rSlL, cxOf_K, wipe, ex_ty2, kit_LTl, kit_LTt, kit_LTd, kit_LTs, kit_LTn, kit_LTb, kit_LTi, tM1, rIxS, exists_eq', lt1p, tDNewK, rSlS, rEqNil, nox_K]
        rw [eN]
        clear eN N
        have wr : ∀ p ∈ ps, wrL (tl p) = true := fun p hp => List.all_eq_true.mp hw _ (List.mem_map_of_mem (f := fun p => wrL (tl p)) hp)
        clear hw eb hD2 hD
        have n0 : ps ≠ [] := fun e => prt_ne z (by rw [← pm, e]; rfl)
        obtain ⟨p0, r, rfl⟩ : ∃ p0 r, ps = p0 :: r := by
          cases ps with
          | nil => exact absurd rfl n0
          | cons a b => exact ⟨a, b, rfl⟩
        obtain ⟨i1, i2, i3⟩ := int_wr (wr p0 List.mem_cons_self)
        refine seq_gen fun N eN => ?_
        try simp only [tSeq, tNext, tRet, tRetN, tAsg, gName, gSub, tDrop, tIfS, tOp, tUn, tCB, tCons, tNil, tC, tVar, rI, rI0, rU, tAnd, tOr, tNot, tAndV, tOrV, tNotV, tIf, tTest, tB, tCall, tChain, tLst, tTup, tYes, rIxH, rIsB, rIsBT, rMulS, kd_non, kd_bl, kd_int, kd_str, kd_ref, kdO_lst, kdO_tup, kdO_dK, nq_n, nq_b, nq_i, nq_s, nq_l, nq_t, nq_d, ne_eq, not_false_eq_true, kit_ss, kit_ns, kit_bs, kit_is, kit_ls, kit_ts, kit_ds, kit_bb, V.ty.injEq, and_assoc, rIxU, rLenH, rLenU, rLenS, rInt1, rSetL, rEq, rNe, rCat, L2.start, List.map, List.length, List.length_cons, List.length_nil, List.replicate, List.getElem?_cons_zero, List.getElem?_cons_succ, List.set_cons_zero, List.set_cons_succ, List.set_nil, List.cons_append, List.nil_append, List.append_nil, Option.some.injEq, V.int.injEq, V.ref.injEq, V.str.injEq, V.bl.injEq, HO.lst.injEq, HO.tup.injEq, exists_eq_left', exists_and_left, exists_eq_left, List.cons.injEq, and_true, true_and, and_false, false_and, and_self, reduceCtorEq, exists_false, or_false, false_or, exists_const, at0, at1, at2, at3, at4, at5, ix51, ix52, ix54, upd_same, Nat.reduceAdd, Nat.reduceSub, Nat.zero_add, Int.reduceToNat, Int.reduceLE, Int.reduceLT, decide_eq_true_eq, Bool.not_eq_true, if_true, if_false, Bool.false_eq_true, ite_true, ite_false, Bool.not_true, Bool.not_false, decide_true, decide_false, tFor_eq, tLc_eq, iList, iTup, iRng1, iRng2, iStr, tSl, tPart, tNoPart, rSlL, cxOf_K, wipe, ex_ty2, kit_LTl, kit_LTt, kit_LTd, kit_LTs, kit_LTn, kit_LTb, kit_LTi, tM1, rIxS, exists_eq', lt1p, tDNewK, rSlS, rEqNil, nox_K, tMakeV, tMake_eq, hP2]
        refine ⟨_, i1, i2, make_gx (t := valL (tl p0)) (b := 1) (n := 700) rfl (by decide) i3 (by decide) (by decide) fun H3 r1 x1 m1 s3 hr1 b1 => ?_⟩
        have s03 := s02.trans s3
        have hP3 := s3 _ _ hP2
        have nr1 : H r1 = none := s02.free m1
        rw [eN]
        clear eN N
        have fin : ∀ (u l : Int) (H4 : Hp) (a x : Addr), Same H H4 → H a = none → H4 a = some (.ins A.k_Ratio x (rf (Rat.divInt u l))) → Bd 700 (Rat.divInt u l) → ((∃ y, rdZ z = some y) → rdZ z = some (u, l)) → ((∃ y, rdZ z = some y) ↔ ratText (Rat.divInt u l).num (Rat.divInt u l).den = z) →
            tSeq (tIfS (tTest (tOp rNe (tProp A.k_Ratio (spText A.k_Ratio) [] E0 (tVar 3)) (tVar 1))) (tRaiseX A.k_InvalidText (fun cls d x H => E cls d H) (tCons (tVar 1) tNil)) tNext) (tRet (tVar 3)) { nx := fun x H' => Q V.non H', rt := Q } [some (V.ref A.k_Ratio), some (V.str z), some (V.ref P), some (.ref a), none] H4 := by
          intro u l H4 a x s4 na ha hb hv hi
          refine seq_gen fun N eN => ?_
          try simp only [tSeq, tNext, tRet, tRetN, tAsg, gName, gSub, tDrop, tIfS, tOp, tUn, tCB, tCons, tNil, tC, tVar, rI, rI0, rU, tAnd, tOr, tNot, tAndV, tOrV, tNotV, tIf, tTest, tB, tCall, tChain, tLst, tTup, tYes, rIxH, rIsB, rIsBT, rMulS, kd_non, kd_bl, kd_int, kd_str, kd_ref, kdO_lst, kdO_tup, kdO_dK, nq_n, nq_b, nq_i, nq_s, nq_l, nq_t, nq_d, ne_eq, not_false_eq_true, kit_ss, kit_ns, kit_bs, kit_is, kit_ls, kit_ts, kit_ds, kit_bb, V.ty.injEq, and_assoc, rIxU, rLenH, rLenU, rLenS, rInt1, rSetL, rEq, rNe, rCat, L2.start, List.map, List.length, List.length_cons, List.length_nil, List.replicate, List.getElem?_cons_zero, List.getElem?_cons_succ, List.set_cons_zero, List.set_cons_succ, List.set_nil, List.cons_append, List.nil_append, List.append_nil, Option.some.injEq, V.int.injEq, V.ref.injEq, V.str.injEq, V.bl.injEq, HO.lst.injEq, HO.tup.injEq, exists_eq_left', exists_and_left, exists_eq_left, List.cons.injEq, and_true, true_and, and_false, false_and, and_self, reduceCtorEq, exists_false, or_false, false_or, exists_const, at0, at1, at2, at3, at4, at5, ix51, ix52, ix54, upd_same, Nat.reduceAdd, Nat.reduceSub, Nat.zero_add, Int.reduceToNat, Int.reduceLE, Int.reduceLT, decide_eq_true_eq, Bool.not_eq_true, if_true, if_false, Bool.false_eq_true, ite_true, ite_false, Bool.not_true, Bool.not_false, decide_true, decide_false, tFor_eq, tLc_eq, iList, iTup, iRng1, iRng2, iStr, tSl, tPart, tNoPart, rSlL, cxOf_K, wipe, ex_ty2, kit_LTl, kit_LTt, kit_LTd, kit_LTs, kit_LTn, kit_LTb, kit_LTi, tM1, rIxS, exists_eq', lt1p, tDNewK, rSlS, rEqNil, nox_K, tProp, ha, HO.ins.injEq]
          refine ⟨_, _, rfl, ⟨⟨a, x, rfl, ha⟩, hb.mono (by decide)⟩, scal_str, ?_⟩
          by_cases ht : ratText (Rat.divInt u l).num (Rat.divInt u l).den = z
          · rw [if_neg (by simpa using ht), eN]
            clear eN N
            obtain ⟨y, ey⟩ := hi.mpr ht
            have ev := hv ⟨y, ey⟩
            try simp only [tSeq, tNext, tRet, tRetN, tAsg, gName, gSub, tDrop, tIfS, tOp, tUn, tCB, tCons, tNil, tC, tVar, rI, rI0, rU, tAnd, tOr, tNot, tAndV, tOrV, tNotV, tIf, tTest, tB, tCall, tChain, tLst, tTup, tYes, rIxH, rIsB, rIsBT, rMulS, kd_non, kd_bl, kd_int, kd_str, kd_ref, kdO_lst, kdO_tup, kdO_dK, nq_n, nq_b, nq_i, nq_s, nq_l, nq_t, nq_d, ne_eq, not_false_eq_true, kit_ss, kit_ns, kit_bs, kit_is, kit_ls, kit_ts, kit_ds, kit_bb, V.ty.injEq, and_assoc, rIxU, rLenH, rLenU, rLenS, rInt1, rSetL, rEq, rNe, rCat, L2.start, List.map, List.length, List.length_cons, List.length_nil, List.replicate, List.getElem?_cons_zero, List.getElem?_cons_succ, List.set_cons_zero, List.set_cons_succ, List.set_nil, List.cons_append, List.nil_append, List.append_nil, Option.some.injEq, V.int.injEq, V.ref.injEq, V.str.injEq, V.bl.injEq, HO.lst.injEq, HO.tup.injEq, exists_eq_left', exists_and_left, exists_eq_left, List.cons.injEq, and_true, true_and, and_false, false_and, and_self, reduceCtorEq, exists_false, or_false, false_or, exists_const, at0, at1, at2, at3, at4, at5, ix51, ix52, ix54, upd_same, Nat.reduceAdd, Nat.reduceSub, Nat.zero_add, Int.reduceToNat, Int.reduceLE, Int.reduceLT, decide_eq_true_eq, Bool.not_eq_true, if_true, if_false, Bool.false_eq_true, ite_true, ite_false, Bool.not_true, Bool.not_false, decide_true, decide_false, tFor_eq, tLc_eq, iList, iTup, iRng1, iRng2, iStr, tSl, tPart, tNoPart, rSlL, cxOf_K, wipe, ex_ty2, kit_LTl, kit_LTt, kit_LTd, kit_LTs, kit_LTn, kit_LTb, kit_LTi, tM1, rIxS, exists_eq', lt1p, tDNewK, rSlS, rEqNil, nox_K]
            rcases h with ⟨u', l', e', k⟩ | ⟨e', _⟩
            · rw [ev] at e'
              injection e' with e'
              injection e' with e1 e2
              subst e1 e2
              exact k H4 a s4 na ⟨⟨a, x, rfl, ha⟩, hb⟩
            · rw [ev] at e'
              cases e'
          · rw [if_pos (by simpa using ht)]
            try simp only [tSeq, tNext, tRet, tRetN, tAsg, gName, gSub, tDrop, tIfS, tOp, tUn, tCB, tCons, tNil, tC, tVar, rI, rI0, rU, tAnd, tOr, tNot, tAndV, tOrV, tNotV, tIf, tTest, tB, tCall, tChain, tLst, tTup, tYes, rIxH, rIsB, rIsBT, rMulS, kd_non, kd_bl, kd_int, kd_str, kd_ref, kdO_lst, kdO_tup, kdO_dK, nq_n, nq_b, nq_i, nq_s, nq_l, nq_t, nq_d, ne_eq, not_false_eq_true, kit_ss, kit_ns, kit_bs, kit_is, kit_ls, kit_ts, kit_ds, kit_bb, V.ty.injEq, and_assoc, rIxU, rLenH, rLenU, rLenS, rInt1, rSetL, rEq, rNe, rCat, L2.start, List.map, List.length, List.length_cons, List.length_nil, List.replicate, List.getElem?_cons_zero, List.getElem?_cons_succ, List.set_cons_zero, List.set_cons_succ, List.set_nil, List.cons_append, List.nil_append, List.append_nil, Option.some.injEq, V.int.injEq, V.ref.injEq, V.str.injEq, V.bl.injEq, HO.lst.injEq, HO.tup.injEq, exists_eq_left', exists_and_left, exists_eq_left, List.cons.injEq, and_true, true_and, and_false, false_and, and_self, reduceCtorEq, exists_false, or_false, false_or, exists_const, at0, at1, at2, at3, at4, at5, ix51, ix52, ix54, upd_same, Nat.reduceAdd, Nat.reduceSub, Nat.zero_add, Int.reduceToNat, Int.reduceLE, Int.reduceLT, decide_eq_true_eq, Bool.not_eq_true, if_true, if_false, Bool.false_eq_true, ite_true, ite_false, Bool.not_true, Bool.not_false, decide_true, decide_false, tFor_eq, tLc_eq, iList, iTup, iRng1, iRng2, iStr, tSl, tPart, tNoPart, rSlL, cxOf_K, wipe, ex_ty2, kit_LTl, kit_LTt, kit_LTd, kit_LTs, kit_LTn, kit_LTb, kit_LTi, tM1, rIxS, exists_eq', lt1p, tDNewK, rSlS, rEqNil, nox_K, tRaiseX, tMkX]
            refine no ?_ H4 s4
            cases q : rdZ z with
            | none => rfl
            | some y => exact absurd (hi.mp ⟨y, q⟩) ht
        refine seq_gen fun N eN => ?_
        try simp only [tSeq, tNext, tRet, tRetN, tAsg, gName, gSub, tDrop, tIfS, tOp, tUn, tCB, tCons, tNil, tC, tVar, rI, rI0, rU, tAnd, tOr, tNot, tAndV, tOrV, tNotV, tIf, tTest, tB, tCall, tChain, tLst, tTup, tYes, rIxH, rIsB, rIsBT, rMulS, kd_non, kd_bl, kd_int, kd_str, kd_ref, kdO_lst, kdO_tup, kdO_dK, nq_n, nq_b, nq_i, nq_s, nq_l, nq_t, nq_d, ne_eq, not_false_eq_true, kit_ss, kit_ns, kit_bs, kit_is, kit_ls, kit_ts, kit_ds, kit_bb, V.ty.injEq, and_assoc, rIxU, rLenH, rLenU, rLenS, rInt1, rSetL, rEq, rNe, rCat, L2.start, List.map, List.length, List.length_cons, List.length_nil, List.replicate, List.getElem?_cons_zero, List.getElem?_cons_succ, List.set_cons_zero, List.set_cons_succ, List.set_nil, List.cons_append, List.nil_append, List.append_nil, Option.some.injEq, V.int.injEq, V.ref.injEq, V.str.injEq, V.bl.injEq, HO.lst.injEq, HO.tup.injEq, exists_eq_left', exists_and_left, exists_eq_left, List.cons.injEq, and_true, true_and, and_false, false_and, and_self, reduceCtorEq, exists_false, or_false, false_or, exists_const, at0, at1, at2, at3, at4, at5, ix51, ix52, ix54, upd_same, Nat.reduceAdd, Nat.reduceSub, Nat.zero_add, Int.reduceToNat, Int.reduceLE, Int.reduceLT, decide_eq_true_eq, Bool.not_eq_true, if_true, if_false, Bool.false_eq_true, ite_true, ite_false, Bool.not_true, Bool.not_false, decide_true, decide_false, tFor_eq, tLc_eq, iList, iTup, iRng1, iRng2, iStr, tSl, tPart, tNoPart, rSlL, cxOf_K, wipe, ex_ty2, kit_LTl, kit_LTt, kit_LTd, kit_LTs, kit_LTn, kit_LTb, kit_LTi, tM1, rIxS, exists_eq', lt1p, tDNewK, rSlS, rEqNil, nox_K, tMakeV, tMake_eq, hP3, scal_int, List.length_map]
        match r, pm, pl, h2, wr, hP3 with
        | [], pm, pl, h2, wr, hP3 =>
          rw [if_neg (by simp)]
          rw [eN]
          clear eN N
          have pz : prt z = [tl p0] := pm.symm
          have ez := prt_one pz
          have e1 : rdZ z = rd1 (tl p0) := by unfold rdZ; rw [pz]; rfl
          refine fin (valL (tl p0)) 1 H3 r1 x1 s03 nr1 hr1 b1 (fun ⟨⟨u, l⟩, e⟩ => ?_) ?_
          · rw [e]
            rw [e1] at e
            obtain ⟨rfl, rfl⟩ := read_one_val e
            rfl
          · rw [e1, read_one]
            constructor
            · rintro ⟨_, ht⟩
              refine ext_tl ?_
              rw [rt_text, of_num]
              unfold rT
              rw [if_pos (by rfl), ez]
              exact ht
            · intro ht
              refine ⟨wr p0 List.mem_cons_self, ?_⟩
              have := congrArg tl ht
              rw [rt_text, of_num] at this
              unfold rT at this
              rw [if_pos (by rfl), ez] at this
              exact this
        | [p1], pm, pl, h2, wr, hP3 =>
          obtain ⟨j1, j2, j3⟩ := int_wr (wr p1 (List.mem_cons_of_mem _ List.mem_cons_self))
          have pz : prt z = [tl p0, tl p1] := pm.symm
          obtain ⟨n47, ez⟩ := prt_two pz
          have e1 : rdZ z = rd2 (tl p0) (tl p1) := by unfold rdZ; rw [pz]; rfl
          rw [if_pos (by simp)]
          refine ⟨_, rfl, p1, rfl, _, j1, j2, ?_⟩
          by_cases h0 : valL (tl p1) = 0
          · rw [if_pos h0]
            try simp only [tSeq, tNext, tRet, tRetN, tAsg, gName, gSub, tDrop, tIfS, tOp, tUn, tCB, tCons, tNil, tC, tVar, rI, rI0, rU, tAnd, tOr, tNot, tAndV, tOrV, tNotV, tIf, tTest, tB, tCall, tChain, tLst, tTup, tYes, rIxH, rIsB, rIsBT, rMulS, kd_non, kd_bl, kd_int, kd_str, kd_ref, kdO_lst, kdO_tup, kdO_dK, nq_n, nq_b, nq_i, nq_s, nq_l, nq_t, nq_d, ne_eq, not_false_eq_true, kit_ss, kit_ns, kit_bs, kit_is, kit_ls, kit_ts, kit_ds, kit_bb, V.ty.injEq, and_assoc, rIxU, rLenH, rLenU, rLenS, rInt1, rSetL, rEq, rNe, rCat, L2.start, List.map, List.length, List.length_cons, List.length_nil, List.replicate, List.getElem?_cons_zero, List.getElem?_cons_succ, List.set_cons_zero, List.set_cons_succ, List.set_nil, List.cons_append, List.nil_append, List.append_nil, Option.some.injEq, V.int.injEq, V.ref.injEq, V.str.injEq, V.bl.injEq, HO.lst.injEq, HO.tup.injEq, exists_eq_left', exists_and_left, exists_eq_left, List.cons.injEq, and_true, true_and, and_false, false_and, and_self, reduceCtorEq, exists_false, or_false, false_or, exists_const, at0, at1, at2, at3, at4, at5, ix51, ix52, ix54, upd_same, Nat.reduceAdd, Nat.reduceSub, Nat.zero_add, Int.reduceToNat, Int.reduceLE, Int.reduceLT, decide_eq_true_eq, Bool.not_eq_true, if_true, if_false, Bool.false_eq_true, ite_true, ite_false, Bool.not_true, Bool.not_false, decide_true, decide_false, tFor_eq, tLc_eq, iList, iTup, iRng1, iRng2, iStr, tSl, tPart, tNoPart, rSlL, cxOf_K, wipe, ex_ty2, kit_LTl, kit_LTt, kit_LTd, kit_LTs, kit_LTn, kit_LTb, kit_LTi, tM1, rIxS, exists_eq', lt1p, tDNewK, rSlS, rEqNil, nox_K, tRaiseX, tMkX]
            refine no ?_ H3 s03
            rw [e1]
            cases q : rd2 (tl p0) (tl p1) with
            | none => rfl
            | some y => exact absurd h0 ((read_two n47).mp ⟨y, q⟩).2.2.1
          rw [if_neg h0]
          refine ⟨_, i1, i2, _, rfl, p1, rfl, _, j1, j2, ?_⟩
          refine make_gx (t := valL (tl p0)) (b := valL (tl p1)) (n := 700) rfl h0 i3 j3 (by decide) fun H4 r2 x2 m2 s4 hr2 b2 => ?_
          rw [eN]
          clear eN N
          refine fin (valL (tl p0)) (valL (tl p1)) H4 r2 x2 (s03.trans s4) (s03.free m2) hr2 b2 (fun ⟨⟨u, l⟩, e⟩ => ?_) ?_
          · rw [e]
            rw [e1] at e
            obtain ⟨rfl, rfl, _⟩ := read_two_val e
            rfl
          · rw [e1, read_two n47]
            constructor
            · rintro ⟨_, _, _, ht⟩
              refine ext_tl ?_
              rw [rt_text, ht, ez]
            · intro ht
              refine ⟨wr p0 List.mem_cons_self, wr p1 (List.mem_cons_of_mem _ List.mem_cons_self), h0, ?_⟩
              have := congrArg tl ht
              rw [rt_text, ez] at this
              exact this
        | p1 :: p2 :: r', pm, pl, h2, wr, hP3 =>
          simp only [List.length_cons] at h2
          omega
      · have hw0 : (ps.map fun p => wrL (tl p)).all id = false := by cases q : (ps.map fun p => wrL (tl p)).all id with | true => exact absurd q hw | false => rfl
        rw [hw0]
        try simp only [tSeq, tNext, tRet, tRetN, tAsg, gName, gSub, tDrop, tIfS, tOp, tUn, tCB, tCons, tNil, tC, tVar, rI, rI0, rU, tAnd, tOr, tNot, tAndV, tOrV, tNotV, tIf, tTest, tB, tCall, tChain, tLst, tTup, tYes, rIxH, rIsB, rIsBT, rMulS, kd_non, kd_bl, kd_int, kd_str, kd_ref, kdO_lst, kdO_tup, kdO_dK, nq_n, nq_b, nq_i, nq_s, nq_l, nq_t, nq_d, ne_eq, not_false_eq_true, kit_ss, kit_ns, kit_bs, kit_is, kit_ls, kit_ts, kit_ds, kit_bb, V.ty.injEq, and_assoc, rIxU, rLenH, rLenU, rLenS, rInt1, rSetL, rEq, rNe, rCat, L2.start, List.map, List.length, List.length_cons, List.length_nil, List.replicate, List.getElem?_cons_zero, List.getElem?_cons_succ, List.set_cons_zero, List.set_cons_succ, List.set_nil, List.cons_append, List.nil_append, List.append_nil, Option.some.injEq, V.int.injEq, V.ref.injEq, V.str.injEq, V.bl.injEq, HO.lst.injEq, HO.tup.injEq, exists_eq_left', exists_and_left, exists_eq_left, List.cons.injEq, and_true, true_and, and_false, false_and, and_self, reduceCtorEq, exists_false, or_false, false_or, exists_const, at0, at1, at2, at3, at4, at5, ix51, ix52, ix54, upd_same, Nat.reduceAdd, Nat.reduceSub, Nat.zero_add, Int.reduceToNat, Int.reduceLE, Int.reduceLT, decide_eq_true_eq, Bool.not_eq_true, if_true, if_false, Bool.false_eq_true, ite_true, ite_false, Bool.not_true, Bool.not_false, decide_true, decide_false, tFor_eq, tLc_eq, iList, iTup, iRng1, iRng2, iStr, tSl, tPart, tNoPart, rSlL, cxOf_K, wipe, ex_ty2, kit_LTl, kit_LTt, kit_LTd, kit_LTs, kit_LTn, kit_LTb, kit_LTi, tM1, rIxS, exists_eq', lt1p, tDNewK, rSlS, rEqNil, nox_K]
        refine no (rd_none_wr ?_) H2 s02
        rw [← pm]
        obtain ⟨b, hb, hb0⟩ := List.all_eq_false.mp hw0
        obtain ⟨p, hp, rfl⟩ := List.mem_map.mp hb
        exact ⟨tl p, List.mem_map_of_mem hp, by simpa using hb0⟩
    · try simp only [tSeq, tNext, tRet, tRetN, tAsg, gName, gSub, tDrop, tIfS, tOp, tUn, tCB, tCons, tNil, tC, tVar, rI, rI0, rU, tAnd, tOr, tNot, tAndV, tOrV, tNotV, tIf, tTest, tB, tCall, tChain, tLst, tTup, tYes, rIxH, rIsB, rIsBT, rMulS, kd_non, kd_bl, kd_int, kd_str, kd_ref, kdO_lst, kdO_tup, kdO_dK, nq_n, nq_b, nq_i, nq_s, nq_l, nq_t, nq_d, ne_eq, not_false_eq_true, kit_ss, kit_ns, kit_bs, kit_is, kit_ls, kit_ts, kit_ds, kit_bb, V.ty.injEq, and_assoc, rIxU, rLenH, rLenU, rLenS, rInt1, rSetL, rEq, rNe, rCat, L2.start, List.map, List.length, List.length_cons, List.length_nil, List.replicate, List.getElem?_cons_zero, List.getElem?_cons_succ, List.set_cons_zero, List.set_cons_succ, List.set_nil, List.cons_append, List.nil_append, List.append_nil, Option.some.injEq, V.int.injEq, V.ref.injEq, V.str.injEq, V.bl.injEq, HO.lst.injEq, HO.tup.injEq, exists_eq_left', exists_and_left, exists_eq_left, List.cons.injEq, and_true, true_and, and_false, false_and, and_self, reduceCtorEq, exists_false, or_false, false_or, exists_const, at0, at1, at2, at3, at4, at5, ix51, ix52, ix54, upd_same, Nat.reduceAdd, Nat.reduceSub, Nat.zero_add, Int.reduceToNat, Int.reduceLE, Int.reduceLT, decide_eq_true_eq, Bool.not_eq_true, if_true, if_false, Bool.false_eq_true, ite_true, ite_false, Bool.not_true, Bool.not_false, decide_true, decide_false, tFor_eq, tLc_eq, iList, iTup, iRng1, iRng2, iStr, tSl, tPart, tNoPart, rSlL, cxOf_K, wipe, ex_ty2, kit_LTl, kit_LTt, kit_LTd, kit_LTs, kit_LTn, kit_LTb, kit_LTi, tM1, rIxS, exists_eq', lt1p, tDNewK, rSlS, rEqNil, nox_K, rIsW, clsV_ty, clsV_ref, h1, h3, tRaiseX, tMkX]
      exact ⟨h2, k⟩
end



/-! ### _law_digits, _law_read -/
def optI : Option Nat → V
  | none => .non
  | some n => .int (n : Int)
def spDig : Sp := fun vs H Q _ => ∃ z, vs = [.str z] ∧ Tx4 z ∧ ∀ H', Same H H' → Q (optI (dgtL (TL.tl z))) H'
def spRead4 : Sp := fun vs H Q _ => ∃ z, vs = [.str z] ∧ Tx4 z ∧ (rdZ z = none → ∀ H', Same H H' → Q .non H') ∧ (∀ u l, rdZ z = some (u, l) → ∀ H' a, Same H H' → H a = none → H' a = some (.tup [.int u, .int l]) → Q (.ref a) H')
theorem ne_nilS {K : PySem.W.Frag} {H : Hp} {a b : Addr} {zs : List Str} {Q : VK} (ha : H a = some (.lst (zs.map V.str))) (hb : H b = some (.lst [])) (h : ∀ z ∈ zs, ∀ c ∈ z.cps.toList, c < 128) (k : Q (.bl (!zs.isEmpty)) H) : rNeD K (.ref a) (.ref b) H Q := by
  refine ⟨.list (zs.map PyData.str), .list [], .lst (SqL.of ha) (dp_strs zs), .lst (SqL.of hb) .nil, shaped_strs h, shaped_nil, ?_⟩
  rw [eqv_nil]
  cases zs <;> exact k
/-! ### texts with a bound -/
def TxN (n : Nat) (z : Str) : Prop := z.length ≤ n ∧ ∀ c ∈ z.cps.toList, c < 128
theorem cutS_len {z : Str} {lo hi : Option Int} : (cutS z lo hi).length ≤ z.length := by
  unfold cutS
  show (((TL.tl z).drop _).take _).toArray.size ≤ _
  rw [List.size_toArray, TL.len_tl]
  refine Nat.le_trans (List.length_take_le' _ _) ?_
  rw [List.length_drop]
  omega
theorem TxN.cut {n : Nat} {z : Str} {lo hi : Option Int} (h : TxN n z) : TxN n (cutS z lo hi) := ⟨Nat.le_trans cutS_len h.1, cutS_sm h.2⟩
theorem TxN.app {n m : Nat} {x y : Str} (h1 : TxN n x) (h2 : TxN m y) : TxN (n + m) (x ++ y) := ⟨by rw [app_len]; exact Nat.add_le_add h1.1 h2.1, app_sm h1.2 h2.2⟩
theorem TxN.sz {n : Nat} {x : Str} (h1 : TxN n x) (h : n ≤ 100000) : x.length ≤ sizeLine := Nat.le_trans h1.1 (Nat.le_trans h (by decide))
theorem TxN.sz2 {n m : Nat} {x y : Str} (h1 : TxN n x) (h2 : TxN m y) (h : n + m ≤ 100000) : x.length + y.length ≤ sizeLine := Nat.le_trans (Nat.add_le_add h1.1 h2.1) (Nat.le_trans h (by decide))
theorem TxN.mono {n m : Nat} {x : Str} (h : TxN n x) (hm : n ≤ m) : TxN m x := ⟨Nat.le_trans h.1 hm, h.2⟩
theorem TxN.of {n : Nat} {z : Str} (h : (decide (z.length ≤ n) && z.cps.toList.all fun c => decide (c < 128)) = true) : TxN n z := by
  rw [Bool.and_eq_true] at h
  exact ⟨of_decide_eq_true h.1, fun c hc => of_decide_eq_true (List.all_eq_true.mp h.2 c hc)⟩
theorem txn_num {v : Int} (h : v.natAbs < 2 ^ 1900) : TxN 1921 (Str.ofString (toString v)) := by
  refine ⟨ts_len h, fun c hc => ?_⟩
  obtain ⟨w, e, _, e2, _⟩ := ts_form v
  replace hc : c ∈ TL.tl (Str.ofString (toString v)) := hc
  rw [e] at hc
  have ad : ∀ c ∈ dgs w, c < 128 := fun c h => by
    rw [e2] at h
    have := dg_all _ c h
    omega
  by_cases hn : neg w = true
  · rw [neg_of hn] at hc
    rcases List.mem_cons.mp hc with rfl | h
    · decide
    · exact ad c h
  · have : dgs w = w := by unfold dgs; rw [if_neg hn]
    rw [← this] at hc
    exact ad c hc

theorem neT2 {K : PySem.W.Frag} {H : Hp} {a b : Addr} {i j k l : Int} {Q : VK} (ha : H a = some (.tup [.int i, .int j])) (hb : H b = some (.tup [.int k, .int l])) (q : Q (.bl (!decide (i = k ∧ j = l))) H) : rNeD K (.ref a) (.ref b) H Q := by
  have sh : ∀ i j : Int, SeqAt.shaped (.tuple [.int i, .int j]) = true := fun i j => by
    unfold SeqAt.shaped
    simp [PyData.canLay0, PyData.canLayAll0, PyData.depth, PyData.depthAll]
  refine ⟨.tuple [.int i, .int j], .tuple [.int k, .int l], .tup (SqT.of ha) (.cons (.int _) (.cons (.int _) .nil)), .tup (SqT.of hb) (.cons (.int _) (.cons (.int _) .nil)), sh _ _, sh _ _, ?_⟩
  have e : PyData.eqv (.tuple [.int i, .int j]) (.tuple [.int k, .int l]) = decide (i = k ∧ j = l) := by
    rw [Bool.eq_iff_iff, decide_eq_true_eq]
    simp [PyData.eqv, PyData.eqvAll]
  rw [e]
  exact q
theorem low_iff {u l : Nat} (hl : 0 < l) (s : Int) (hs : s = 1 ∨ s = -1) : ((Rat.divInt (u : Int) (l : Int)).num = (u : Int) ∧ ((Rat.divInt (u : Int) (l : Int)).den : Int) = (l : Int)) ↔ Nat.gcd u l = 1 := by
  constructor
  · rintro ⟨h1, h2⟩
    have := (Rat.divInt (u : Int) (l : Int)).reduced
    rw [h1] at this
    have e : (Rat.divInt (u : Int) (l : Int)).den = l := by omega
    rw [e] at this
    simpa [Nat.Coprime] using this
  · intro h
    have := low_of (u := (u : Int)) hl (by simpa using h)
    exact ⟨this.1, by rw [this.2]⟩
section
open TL PySem.NumText
variable {w : World} {K : PySem.W.Frag} {mg : Str → Option Value} {base : Heap} {A : Adr}
theorem ok_dig (T : Txt K mg A) : FnOk PW w K mg base CX0 1 A.a_LawDigits A.d_LawDigits ["_law_word"] spDig := by
  refine T.f_LawDigits.ok scLawDigits (fun vs H Q E h => ?_) (fun cdv A' outer s H vs Q E hr h => ?_)
  · obtain ⟨z, rfl, _⟩ := h
    rfl
  · obtain ⟨z, rfl, tz, k⟩ := h
    refine ⟨_, (pss_cons (ps_if (PW.pt (pw_or (pt_cmpR (op_eq) (pv 0) pe_str (nomark _)) (pw_or (pt_cmpR (op_gt) (pe_callB call_lenS (by rfl) T.z_len (by decide +kernel) (pa_cons (pv 0) pa_nil)) pe_int (nomark _)) (pw_or1 (pt_cmpR (op_neD hr.units) (pe_lc (own := [("_law_sign", 1)]) (g := gName 1)  (by rfl) scLawDigits.nd (pi_str (pv 0)) (blkOk_by (own := [("_law_sign", 1)]) (N := nLawDigits) (sc := defScope sLawDigits) (by decide +kernel)) (fun _ _ _ _ _ => pg_name (i := 1) scLawDigits.nd rfl (Or.inl rfl)) (fun _ _ _ _ _ => (pts_one (pt_cmpR (op_notIn_sign) (pv 1) pe_str (by rfl)))) (fun _ _ _ _ _ => (pv 1))) (pe_lst pa_nil) (nomark _)))))) (pss_one (ps_ret pe_non)) pss_nil)
      (pss_cons (ps_if (PW.pt (pw_and (pt_cmpR (op_eq) (pe_ix ix_str (pv 0) pe_int (fun _ _ => rfl)) pe_str (nomark _)) (pw_and1 (pt_cmpR (op_ne) (pv 0) pe_str (nomark _))))) (pss_one (ps_ret pe_non)) pss_nil)
      (pss_one (ps_ret (pe_callTy call_int_str (by rfl) T.z_int (by decide +kernel) (pa_cons (pv 0) pa_nil)))))), ?_⟩
    refine seq_gen fun N eN => ?_
    try simp only [tSeq, tNext, tRet, tRetN, tAsg, gName, gSub, tDrop, tIfS, tOp, tUn, tCB, tCons, tNil, tC, tVar, rI, rI0, rU, tAnd, tOr, tNot, tAndV, tOrV, tNotV, tIf, tTest, tB, tCall, tChain, tLst, tTup, tYes, rIxH, rIsB, rIsBT, rMulS, kd_non, kd_bl, kd_int, kd_str, kd_ref, kdO_lst, kdO_tup, kdO_dK, nq_n, nq_b, nq_i, nq_s, nq_l, nq_t, nq_d, ne_eq, not_false_eq_true, kit_ss, kit_ns, kit_bs, kit_is, kit_ls, kit_ts, kit_ds, kit_bb, V.ty.injEq, and_assoc, rIxU, rLenH, rLenU, rLenS, rInt1, rSetL, rEq, rNe, rCat, L2.start, List.map, List.length, List.length_cons, List.length_nil, List.replicate, List.getElem?_cons_zero, List.getElem?_cons_succ, List.set_cons_zero, List.set_cons_succ, List.set_nil, List.cons_append, List.nil_append, List.append_nil, Option.some.injEq, V.int.injEq, V.ref.injEq, V.str.injEq, V.bl.injEq, HO.lst.injEq, HO.tup.injEq, exists_eq_left', exists_and_left, exists_eq_left, List.cons.injEq, and_true, true_and, and_false, false_and, and_self, reduceCtorEq, exists_false, or_false, false_or, exists_const, at0, at1, at2, at3, at4, at5, ix51, ix52, ix54, upd_same, Nat.reduceAdd, Nat.reduceSub, Nat.zero_add, Int.reduceToNat, Int.reduceLE, Int.reduceLT, decide_eq_true_eq, Bool.not_eq_true, if_true, if_false, Bool.false_eq_true, ite_true, ite_false, Bool.not_true, Bool.not_false, decide_true, decide_false, tFor_eq, tLc_eq, iList, iTup, iRng1, iRng2, iStr, tSl, tPart, tNoPart, rSlL, cxOf_K, wipe, ex_ty2, kit_LTl, kit_LTt, kit_LTd, kit_LTs, kit_LTn, kit_LTb, kit_LTi, tM1, rIxS, exists_eq', lt1p, tDNewK, rSlS, rEqNil, nox_K]
    have zs : z.length ≤ sizeLine := Nat.le_trans tz.len (by decide)
    have t0 : tl (Str.ofString "") = [] := by decide +kernel
    have tlen : (tl z).length = z.length := (len_tl z).symm
    refine ⟨scal_str, ?_⟩
    by_cases h0 : z = Str.ofString ""
    · rw [if_pos h0]
      have e : dgtL (tl z) = none := by
        unfold dgtL
        rw [if_pos (.inl (by rw [h0, t0]))]
      rw [e] at k
      exact k H (Same.refl _)
    rw [if_neg h0]
    have n0 : tl z ≠ [] := fun w => h0 (ext_tl (by rw [w, t0]))
    refine ⟨zs, ?_⟩
    by_cases h2 : (200 : Int) < (z.length : Int)
    · rw [if_pos h2]
      have e : dgtL (tl z) = none := by
        unfold dgtL
        rw [if_pos (.inr (.inl (by omega)))]
      rw [e] at k
      exact k H (Same.refl _)
    rw [if_neg h2]
    intro D hD
    refine lc_same (walk_strY (z := z)) (fun v => !isD (codeOf v)) id hD (fun _ _ => trivial) (by rw [List.length_map]; show (tl z).length ≤ _; rw [tlen]; exact Nat.le_trans tz.len (by decide)) (fun x hx H2 s2 R R0 h1 h1' => ?_) (fun H2 s2 hD2 => ?_)
    · obtain ⟨c, hc, rfl⟩ := mem_sgn hx
      try simp only [tSeq, tNext, tRet, tRetN, tAsg, gName, gSub, tDrop, tIfS, tOp, tUn, tCB, tCons, tNil, tC, tVar, rI, rI0, rU, tAnd, tOr, tNot, tAndV, tOrV, tNotV, tIf, tTest, tB, tCall, tChain, tLst, tTup, tYes, rIxH, rIsB, rIsBT, rMulS, kd_non, kd_bl, kd_int, kd_str, kd_ref, kdO_lst, kdO_tup, kdO_dK, nq_n, nq_b, nq_i, nq_s, nq_l, nq_t, nq_d, ne_eq, not_false_eq_true, kit_ss, kit_ns, kit_bs, kit_is, kit_ls, kit_ts, kit_ds, kit_bb, V.ty.injEq, and_assoc, rIxU, rLenH, rLenU, rLenS, rInt1, rSetL, rEq, rNe, rCat, L2.start, List.map, List.length, List.length_cons, List.length_nil, List.replicate, List.getElem?_cons_zero, List.getElem?_cons_succ, List.set_cons_zero, List.set_cons_succ, List.set_nil, List.cons_append, List.nil_append, List.append_nil, Option.some.injEq, V.int.injEq, V.ref.injEq, V.str.injEq, V.bl.injEq, HO.lst.injEq, HO.tup.injEq, exists_eq_left', exists_and_left, exists_eq_left, List.cons.injEq, and_true, true_and, and_false, false_and, and_self, reduceCtorEq, exists_false, or_false, false_or, exists_const, at0, at1, at2, at3, at4, at5, ix51, ix52, ix54, upd_same, Nat.reduceAdd, Nat.reduceSub, Nat.zero_add, Int.reduceToNat, Int.reduceLE, Int.reduceLT, decide_eq_true_eq, Bool.not_eq_true, if_true, if_false, Bool.false_eq_true, ite_true, ite_false, Bool.not_true, Bool.not_false, decide_true, decide_false, tFor_eq, tLc_eq, iList, iTup, iRng1, iRng2, iStr, tSl, tPart, tNoPart, rSlL, cxOf_K, wipe, ex_ty2, kit_LTl, kit_LTt, kit_LTd, kit_LTs, kit_LTn, kit_LTb, kit_LTi, tM1, rIxS, exists_eq', lt1p, tDNewK, rSlS, rEqNil, nox_K, sgn, dig_mem]
      have h1 := h1 H2 (Same.refl _)
      have h1' := h1' H2 (Same.refl _)
      rw [codeOf_sgn] at h1 h1'
      cases q : isD c with
      | true => exact ⟨c, rfl, by rw [if_neg (by rw [q]; decide)]; exact h1' (by rw [q]; rfl)⟩
      | false => exact ⟨c, rfl, by rw [if_pos (by rw [q]; rfl)]; exact h1 (by rw [q]; rfl)⟩
    have eb : List.map id (List.filter (fun v => !isD (codeOf v)) (List.map sgn z.cps.toList)) = (((tl z).filter fun c => !isD c).map Froz.sing).map V.str := by
      rw [List.map_id, List.filter_map, List.map_map]
      rfl
    rw [eb] at hD2
    refine ⟨by decide, fun p hp => ?_⟩
    have hD3 := same_new (o := .lst []) hp _ _ hD2
    refine ne_nilS hD3 upd_same (fun y hy c hc => ?_) ?_
    · obtain ⟨d, hd, rfl⟩ := List.mem_map.mp hy
      have e : c = d := by simpa [Froz.sing] using hc
      rw [e]
      exact tz.asc d (List.mem_filter.mp hd).1
    refine ⟨_, rfl, ?_⟩
    have sp : Same H (upd H2 p (.lst [])) := s2.trans (same_new hp)
    have ee : (((tl z).filter fun c => !isD c).map Froz.sing).isEmpty = (tl z).all isD := by
      rw [List.isEmpty_map, filter_empty]
    rw [ee]
    cases hq : (tl z).all isD with
    | false =>
      rw [if_pos (by rfl)]
      have e : dgtL (tl z) = none := by
        unfold dgtL
        rw [if_pos (.inr (.inr hq))]
      rw [e] at k
      exact k _ sp
    | true =>
      rw [if_neg (by simp), eN]
      clear eN N
      have c1 : ¬ (tl z = [] ∨ 200 < (tl z).length ∨ (tl z).all isD = false) := by
        rintro (w | w | w)
        · exact n0 w
        · omega
        · rw [hq] at w; cases w
      generalize upd H2 p (.lst []) = H3 at sp ⊢
      obtain ⟨c, r, er⟩ : ∃ c r, tl z = c :: r := by
        cases q : tl z with
        | nil => exact absurd q n0
        | cons a b => exact ⟨a, b, rfl⟩
      have a0 : atI z.cps.toList 0 = some c := by
        show atI (tl z) 0 = some c
        rw [er]
        exact at0
      have ec : decide ((⟨#[c]⟩ : Str) = Str.ofString "0") = decide (c = 48) := by
        have : (⟨#[c]⟩ : Str) = Str.ofString "0" ↔ c = 48 := by
          constructor
          · intro h
            have := congrArg tl h
            rw [show tl (Str.ofString "0") = [48] from by decide +kernel] at this
            injection this
          · rintro rfl
            decide +kernel
        rw [Bool.eq_iff_iff, decide_eq_true_iff, decide_eq_true_iff, this]
      have ez : z = Str.ofString "0" ↔ tl z = [48] := by
        constructor
        · rintro rfl
          decide +kernel
        · intro h
          refine ext_tl ?_
          rw [h]
          decide +kernel
      try simp only [tSeq, tNext, tRet, tRetN, tAsg, gName, gSub, tDrop, tIfS, tOp, tUn, tCB, tCons, tNil, tC, tVar, rI, rI0, rU, tAnd, tOr, tNot, tAndV, tOrV, tNotV, tIf, tTest, tB, tCall, tChain, tLst, tTup, tYes, rIxH, rIsB, rIsBT, rMulS, kd_non, kd_bl, kd_int, kd_str, kd_ref, kdO_lst, kdO_tup, kdO_dK, nq_n, nq_b, nq_i, nq_s, nq_l, nq_t, nq_d, ne_eq, not_false_eq_true, kit_ss, kit_ns, kit_bs, kit_is, kit_ls, kit_ts, kit_ds, kit_bb, V.ty.injEq, and_assoc, rIxU, rLenH, rLenU, rLenS, rInt1, rSetL, rEq, rNe, rCat, L2.start, List.map, List.length, List.length_cons, List.length_nil, List.replicate, List.getElem?_cons_zero, List.getElem?_cons_succ, List.set_cons_zero, List.set_cons_succ, List.set_nil, List.cons_append, List.nil_append, List.append_nil, Option.some.injEq, V.int.injEq, V.ref.injEq, V.str.injEq, V.bl.injEq, HO.lst.injEq, HO.tup.injEq, exists_eq_left', exists_and_left, exists_eq_left, List.cons.injEq, and_true, true_and, and_false, false_and, and_self, reduceCtorEq, exists_false, or_false, false_or, exists_const, at0, at1, at2, at3, at4, at5, ix51, ix52, ix54, upd_same, Nat.reduceAdd, Nat.reduceSub, Nat.zero_add, Int.reduceToNat, Int.reduceLE, Int.reduceLT, decide_eq_true_eq, Bool.not_eq_true, if_true, if_false, Bool.false_eq_true, ite_true, ite_false, Bool.not_true, Bool.not_false, decide_true, decide_false, tFor_eq, tLc_eq, iList, iTup, iRng1, iRng2, iStr, tSl, tPart, tNoPart, rSlL, cxOf_K, wipe, ex_ty2, kit_LTl, kit_LTt, kit_LTd, kit_LTs, kit_LTn, kit_LTb, kit_LTi, tM1, rIxS, exists_eq', lt1p, tDNewK, rSlS, rEqNil, nox_K]
      refine ⟨zs, c, a0, scal_str, ?_⟩
      have nn : neg (tl z) = (c == 45) := by rw [er]; rfl
      have ad : AllDigits (tl z) := all_isD.mp hq
      have fin : (¬ (c = 48 ∧ tl z ≠ [48])) → ∃ x, PySem.intText? z = some x ∧ z.length ≤ 640 ∧ Q (V.int x) H3 := by
        intro hn
        refine ⟨_, intText_digits ad n0 (by omega), by omega, ?_⟩
        have e : dgtL (tl z) = some (digitsVal (tl z)) := by
          unfold dgtL
          rw [if_neg c1, if_neg (by rw [er] at hn ⊢; simpa using hn)]
        rw [e] at k
        exact k H3 sp
      by_cases hc : c = 48
      · have e48 : (⟨#[c]⟩ : Str) = Str.ofString "0" := of_decide_eq_true (by rw [ec]; exact decide_eq_true hc)
        rw [if_pos e48]
        refine ⟨scal_str, ?_⟩
        by_cases hz : z = Str.ofString "0"
        · rw [if_neg (by simpa using hz)]
          exact fin fun w => w.2 (ez.mp hz)
        · rw [if_pos (by simpa using hz)]
          have e : dgtL (tl z) = none := by
            unfold dgtL
            rw [if_neg c1, if_pos ⟨by rw [er, hc]; rfl, fun w => hz (ez.mpr w)⟩]
          rw [e] at k
          exact k H3 sp
      · have e48 : ¬ (⟨#[c]⟩ : Str) = Str.ofString "0" := of_decide_eq_false (by rw [ec]; exact decide_eq_false hc)
        rw [if_neg e48]
        exact fin fun w => hc w.1
theorem ok_read4 (T : Txt K mg A) (gLawDigits : FnOk PW w K mg base CX0 1 A.a_LawDigits A.d_LawDigits ["_law_word"] spDig) (gLawLowest : FnOk PW w K mg base CX0 1 A.a_LawLowest A.d_LawLowest ["_law_upper", "_law_lower"] spLowest) :
    FnOk PW w K mg base CX0 2 A.a_LawRead A.d_LawRead ["_law_text"] spRead4 := by
  refine T.f_LawRead.ok scLawRead (fun vs H Q E h => ?_) (fun cdv A' outer s H vs Q E hr h => ?_)
  · obtain ⟨z, rfl, _⟩ := h
    rfl
  · obtain ⟨z, rfl, tz, kn, ks⟩ := h
    refine ⟨_, (pss_cons (ps_set (i := 1) scLawRead.nd rfl (Or.inl rfl) (pe_split (pv 0) pe_str))
      (pss_cons (ps_set (i := 2) scLawRead.nd rfl (Or.inl rfl) (pe_callTy call_intB (by rfl) T.z_int (by decide +kernel) (pa_cons (pe_cmpR (op_eq) (pe_slice sl_str (pe_ix ix_lstH (pv 1) pe_int (fun _ _ => rfl)) po_none (po_some pe_int)) pe_str (nomark _)) pa_nil)))
      (pss_cons (ps_set (i := 3) scLawRead.nd rfl (Or.inl rfl) (pe_call gLawDigits (hr.mono (by decide)) (by rfl) T.m_LawDigits T.f_LawDigits.kp T.b_LawDigits .nil pass0 (pa_cons (pe_slice sl_str (pe_ix ix_lstH (pv 1) pe_int (fun _ _ => rfl)) (po_some (pv 2)) po_none) pa_nil)))
      (pss_cons (ps_if (PW.pt (pw_or (pt_cmpR (op_gt) (pe_callB call_lenH (by rfl) T.z_len (by decide +kernel) (pa_cons (pv 1) pa_nil)) pe_int (nomark _)) (pw_or (pt_cmpR (op_isN) (pv 3) pe_non (nomark _)) (pw_or1 (PW.pt (pw_and (pt_cmpR (op_eq) (pv 2) pe_int (nomark _)) (pw_and1 (pt_cmpR (op_eq) (pv 3) pe_int (nomark _))))))))) (pss_one (ps_ret pe_non)) pss_nil)
      (pss_cons (ps_if (pt_cmpR (op_eq) (pe_callB call_lenH (by rfl) T.z_len (by decide +kernel) (pa_cons (pv 1) pa_nil)) pe_int (nomark _)) (pss_one (ps_ret (pe_tup (pa_cons (pe_op op_mulW (pv 3) (pe_ix ix_lstH (pe_lst (pa_cons pe_int (pa_cons (pe_un un_neg pe_int) pa_nil))) (pv 2) (fun _ _ => rfl))) (pa_cons pe_int pa_nil))))) pss_nil)
      (pss_cons (ps_set (i := 4) scLawRead.nd rfl (Or.inl rfl) (pe_call gLawDigits (hr.mono (by decide)) (by rfl) T.m_LawDigits T.f_LawDigits.kp T.b_LawDigits .nil pass0 (pa_cons (pe_ix ix_lstH (pv 1) pe_int (fun _ _ => rfl)) pa_nil)))
      (pss_cons (ps_if (PW.pt (pw_or (pt_cmpR (op_isN) (pv 4) pe_non (nomark _)) (pw_or (pt_cmpR (op_lt) (pv 4) pe_int (nomark _)) (pw_or1 (pt_cmpR (op_neD hr.units) (pe_call gLawLowest (hr.mono (by decide)) (by rfl) T.m_LawLowest T.f_LawLowest.kp T.b_LawLowest .nil pass0 (pa_cons (pv 3) (pa_cons (pv 4) pa_nil))) (pe_tup (pa_cons (pv 3) (pa_cons (pv 4) pa_nil))) (nomark _)))))) (pss_one (ps_ret pe_non)) pss_nil)
      (pss_one (ps_ret (pe_tup (pa_cons (pe_op op_mulW (pv 3) (pe_ix ix_lstH (pe_lst (pa_cons pe_int (pa_cons (pe_un un_neg pe_int) pa_nil))) (pv 2) (fun _ _ => rfl))) (pa_cons (pv 4) pa_nil)))))))))))), ?_⟩
    refine seq_gen fun N eN => ?_
    try simp only [tSeq, tNext, tRet, tRetN, tAsg, gName, gSub, tDrop, tIfS, tOp, tUn, tCB, tCons, tNil, tC, tVar, rI, rI0, rU, tAnd, tOr, tNot, tAndV, tOrV, tNotV, tIf, tTest, tB, tCall, tChain, tLst, tTup, tYes, rIxH, rIsB, rIsBT, rMulS, kd_non, kd_bl, kd_int, kd_str, kd_ref, kdO_lst, kdO_tup, kdO_dK, nq_n, nq_b, nq_i, nq_s, nq_l, nq_t, nq_d, ne_eq, not_false_eq_true, kit_ss, kit_ns, kit_bs, kit_is, kit_ls, kit_ts, kit_ds, kit_bb, V.ty.injEq, and_assoc, rIxU, rLenH, rLenU, rLenS, rInt1, rSetL, rEq, rNe, rCat, L2.start, List.map, List.length, List.length_cons, List.length_nil, List.replicate, List.getElem?_cons_zero, List.getElem?_cons_succ, List.set_cons_zero, List.set_cons_succ, List.set_nil, List.cons_append, List.nil_append, List.append_nil, Option.some.injEq, V.int.injEq, V.ref.injEq, V.str.injEq, V.bl.injEq, HO.lst.injEq, HO.tup.injEq, exists_eq_left', exists_and_left, exists_eq_left, List.cons.injEq, and_true, true_and, and_false, false_and, and_self, reduceCtorEq, exists_false, or_false, false_or, exists_const, at0, at1, at2, at3, at4, at5, ix51, ix52, ix54, upd_same, Nat.reduceAdd, Nat.reduceSub, Nat.zero_add, Int.reduceToNat, Int.reduceLE, Int.reduceLT, decide_eq_true_eq, Bool.not_eq_true, if_true, if_false, Bool.false_eq_true, ite_true, ite_false, Bool.not_true, Bool.not_false, decide_true, decide_false, tFor_eq, tLc_eq, iList, iTup, iRng1, iRng2, iStr, tSl, tPart, tNoPart, rSlL, cxOf_K, wipe, ex_ty2, kit_LTl, kit_LTt, kit_LTd, kit_LTs, kit_LTn, kit_LTb, kit_LTi, tM1, rIxS, exists_eq', lt1p, tDNewK, rSlS, rEqNil, nox_K]
    refine ⟨by decide +kernel, Nat.le_trans (Nat.add_le_add_right tz.len 2) (by decide), ?_⟩
    intro P n_P; generalize g_H1 : upd H P _ = H1; obtain ⟨s_H1, h_P⟩ := new_facts n_P g_H1; clear g_H1
    obtain ⟨ps, eps⟩ : ∃ ps, ps = Txt.split z (Str.ofString "/") := ⟨_, rfl⟩
    have pt : ∀ p ∈ ps, Tx4 p := fun p hp => tz.part (by rw [← eps]; exact hp)
    have pm : ps.map tl = prt z := by rw [eps]; exact split47 z
    rw [← eps] at h_P
    have n0 : ps ≠ [] := fun e => prt_ne z (by rw [← pm, e]; rfl)
    obtain ⟨p0, r, rfl⟩ : ∃ p0 r, ps = p0 :: r := by
      cases ps with
      | nil => exact absurd rfl n0
      | cons a b => exact ⟨a, b, rfl⟩
    have t0 := pt p0 List.mem_cons_self
    have l0 : p0.length ≤ sizeLine := Nat.le_trans t0.len (by decide)
    rw [eN]
    clear eN N
    refine seq_gen fun N eN => ?_
    try simp only [tSeq, tNext, tRet, tRetN, tAsg, gName, gSub, tDrop, tIfS, tOp, tUn, tCB, tCons, tNil, tC, tVar, rI, rI0, rU, tAnd, tOr, tNot, tAndV, tOrV, tNotV, tIf, tTest, tB, tCall, tChain, tLst, tTup, tYes, rIxH, rIsB, rIsBT, rMulS, kd_non, kd_bl, kd_int, kd_str, kd_ref, kdO_lst, kdO_tup, kdO_dK, nq_n, nq_b, nq_i, nq_s, nq_l, nq_t, nq_d, ne_eq, not_false_eq_true, kit_ss, kit_ns, kit_bs, kit_is, kit_ls, kit_ts, kit_ds, kit_bb, V.ty.injEq, and_assoc, rIxU, rLenH, rLenU, rLenS, rInt1, rSetL, rEq, rNe, rCat, L2.start, List.map, List.length, List.length_cons, List.length_nil, List.replicate, List.getElem?_cons_zero, List.getElem?_cons_succ, List.set_cons_zero, List.set_cons_succ, List.set_nil, List.cons_append, List.nil_append, List.append_nil, Option.some.injEq, V.int.injEq, V.ref.injEq, V.str.injEq, V.bl.injEq, HO.lst.injEq, HO.tup.injEq, exists_eq_left', exists_and_left, exists_eq_left, List.cons.injEq, and_true, true_and, and_false, false_and, and_self, reduceCtorEq, exists_false, or_false, false_or, exists_const, at0, at1, at2, at3, at4, at5, ix51, ix52, ix54, upd_same, Nat.reduceAdd, Nat.reduceSub, Nat.zero_add, Int.reduceToNat, Int.reduceLE, Int.reduceLT, decide_eq_true_eq, Bool.not_eq_true, if_true, if_false, Bool.false_eq_true, ite_true, ite_false, Bool.not_true, Bool.not_false, decide_true, decide_false, tFor_eq, tLc_eq, iList, iTup, iRng1, iRng2, iStr, tSl, tPart, tNoPart, rSlL, cxOf_K, wipe, ex_ty2, kit_LTl, kit_LTt, kit_LTd, kit_LTs, kit_LTn, kit_LTb, kit_LTi, tM1, rIxS, exists_eq', lt1p, tDNewK, rSlS, rEqNil, nox_K, h_P]
    refine ⟨l0, scal_str, ?_⟩
    rw [minus_eq]
    refine ⟨_, rfl, ?_⟩
    dsimp only
    rw [eN]
    clear eN N
    obtain ⟨m, em, hm⟩ : ∃ m : Nat, (if neg (tl p0) = true then (1 : Int) else 0) = (m : Int) ∧ m = (if neg (tl p0) = true then 1 else 0) := ⟨_, by split <;> rfl, rfl⟩
    rw [em]
    have tc : tl (cutS p0 (some (m : Int)) none) = dgs (tl p0) := by
      rw [tl_cutFrom, hm]
      unfold dgs
      split
      · rw [List.drop_one]
      · rfl
    have t4c : Tx4 (cutS p0 (some (m : Int)) none) := ⟨Nat.le_trans cutS_len t0.len, cutS_sm t0.asc⟩
    refine seq_gen fun N eN => ?_
    try simp only [tSeq, tNext, tRet, tRetN, tAsg, gName, gSub, tDrop, tIfS, tOp, tUn, tCB, tCons, tNil, tC, tVar, rI, rI0, rU, tAnd, tOr, tNot, tAndV, tOrV, tNotV, tIf, tTest, tB, tCall, tChain, tLst, tTup, tYes, rIxH, rIsB, rIsBT, rMulS, kd_non, kd_bl, kd_int, kd_str, kd_ref, kdO_lst, kdO_tup, kdO_dK, nq_n, nq_b, nq_i, nq_s, nq_l, nq_t, nq_d, ne_eq, not_false_eq_true, kit_ss, kit_ns, kit_bs, kit_is, kit_ls, kit_ts, kit_ds, kit_bb, V.ty.injEq, and_assoc, rIxU, rLenH, rLenU, rLenS, rInt1, rSetL, rEq, rNe, rCat, L2.start, List.map, List.length, List.length_cons, List.length_nil, List.replicate, List.getElem?_cons_zero, List.getElem?_cons_succ, List.set_cons_zero, List.set_cons_succ, List.set_nil, List.cons_append, List.nil_append, List.append_nil, Option.some.injEq, V.int.injEq, V.ref.injEq, V.str.injEq, V.bl.injEq, HO.lst.injEq, HO.tup.injEq, exists_eq_left', exists_and_left, exists_eq_left, List.cons.injEq, and_true, true_and, and_false, false_and, and_self, reduceCtorEq, exists_false, or_false, false_or, exists_const, at0, at1, at2, at3, at4, at5, ix51, ix52, ix54, upd_same, Nat.reduceAdd, Nat.reduceSub, Nat.zero_add, Int.reduceToNat, Int.reduceLE, Int.reduceLT, decide_eq_true_eq, Bool.not_eq_true, if_true, if_false, Bool.false_eq_true, ite_true, ite_false, Bool.not_true, Bool.not_false, decide_true, decide_false, tFor_eq, tLc_eq, iList, iTup, iRng1, iRng2, iStr, tSl, tPart, tNoPart, rSlL, cxOf_K, wipe, ex_ty2, kit_LTl, kit_LTt, kit_LTd, kit_LTs, kit_LTn, kit_LTb, kit_LTi, tM1, rIxS, exists_eq', lt1p, tDNewK, rSlS, rEqNil, nox_K, h_P]
    refine ⟨l0, _, rfl, t4c, fun H2 s2 => ?_⟩
    rw [tc]
    have s02 := s_H1.trans s2
    have hP2 := s2 _ _ h_P
    dsimp only
    rw [eN]
    clear eN N
    refine seq_gen fun N eN => ?_
    try simp only [tSeq, tNext, tRet, tRetN, tAsg, gName, gSub, tDrop, tIfS, tOp, tUn, tCB, tCons, tNil, tC, tVar, rI, rI0, rU, tAnd, tOr, tNot, tAndV, tOrV, tNotV, tIf, tTest, tB, tCall, tChain, tLst, tTup, tYes, rIxH, rIsB, rIsBT, rMulS, kd_non, kd_bl, kd_int, kd_str, kd_ref, kdO_lst, kdO_tup, kdO_dK, nq_n, nq_b, nq_i, nq_s, nq_l, nq_t, nq_d, ne_eq, not_false_eq_true, kit_ss, kit_ns, kit_bs, kit_is, kit_ls, kit_ts, kit_ds, kit_bb, V.ty.injEq, and_assoc, rIxU, rLenH, rLenU, rLenS, rInt1, rSetL, rEq, rNe, rCat, L2.start, List.map, List.length, List.length_cons, List.length_nil, List.replicate, List.getElem?_cons_zero, List.getElem?_cons_succ, List.set_cons_zero, List.set_cons_succ, List.set_nil, List.cons_append, List.nil_append, List.append_nil, Option.some.injEq, V.int.injEq, V.ref.injEq, V.str.injEq, V.bl.injEq, HO.lst.injEq, HO.tup.injEq, exists_eq_left', exists_and_left, exists_eq_left, List.cons.injEq, and_true, true_and, and_false, false_and, and_self, reduceCtorEq, exists_false, or_false, false_or, exists_const, at0, at1, at2, at3, at4, at5, ix51, ix52, ix54, upd_same, Nat.reduceAdd, Nat.reduceSub, Nat.zero_add, Int.reduceToNat, Int.reduceLE, Int.reduceLT, decide_eq_true_eq, Bool.not_eq_true, if_true, if_false, Bool.false_eq_true, ite_true, ite_false, Bool.not_true, Bool.not_false, decide_true, decide_false, tFor_eq, tLc_eq, iList, iTup, iRng1, iRng2, iStr, tSl, tPart, tNoPart, rSlL, cxOf_K, wipe, ex_ty2, kit_LTl, kit_LTt, kit_LTd, kit_LTs, kit_LTn, kit_LTb, kit_LTi, tM1, rIxS, exists_eq', lt1p, tDNewK, rSlS, rEqNil, nox_K, hP2, scal_int, List.length_map]
    have pl : r.length + 1 = (prt z).length := by rw [← pm, List.length_map, List.length_cons]
    by_cases h2 : (2 : Int) < ((r.length + 1 : Nat) : Int)
    · rw [if_pos (by simpa using h2)]
      exact kn (rd_none_len (by omega)) H2 s02
    rw [if_neg (by simpa using h2)]
    have hr2 : r.length ≤ 1 := by omega
    have one : ∀ {p q : Str}, tl q = tl p → q = p := fun h => ext_tl h
    have e0 : rdZ z = none ∨ ∃ u, dgtL (dgs (tl p0)) = some u ∧ ¬ (neg (tl p0) = true ∧ u = 0) := by
      cases q : dgtL (dgs (tl p0)) with
      | none =>
        left
        unfold rdZ
        rw [← pm]
        match r, hr2 with
        | [], _ => show rd1 (tl p0) = none; unfold rd1; rw [q]
        | [p1], _ => show rd2 (tl p0) (tl p1) = none; unfold rd2; rw [q]
      | some u =>
        by_cases hz : neg (tl p0) = true ∧ u = 0
        · left
          unfold rdZ
          rw [← pm]
          match r, hr2 with
          | [], _ => show rd1 (tl p0) = none; unfold rd1; rw [q]; simp only; rw [if_pos hz]
          | [p1], _ =>
            show rd2 (tl p0) (tl p1) = none
            unfold rd2
            rw [q]
            cases dgtL (tl p1) with
            | none => rfl
            | some l => simp only; rw [if_pos (.inl hz)]
        · exact .inr ⟨u, rfl, hz⟩
    have me : (m : Int) = 1 ↔ neg (tl p0) = true := by
      rw [hm]
      split <;> simp_all
    cases q : dgtL (dgs (tl p0)) with
    | none =>
      rcases e0 with e0 | ⟨u, e0, _⟩
      · rw [if_pos (by rfl)]
        exact kn e0 H2 s02
      · rw [q] at e0; cases e0
    | some u =>
    rw [if_neg (by unfold optI; simp)]
    suffices go : ¬ (neg (tl p0) = true ∧ u = 0) → N [some (V.str z), some (V.ref P), some (V.int (m : Int)), some (.int (u : Int)), none] H2 by
      refine ite2 (fun hm1 => ⟨rfl, ite2 (fun h => ?_) fun h => go fun w => h ?_⟩) (fun hm1 => go fun w => hm1 (me.mpr w.1))
      · rcases e0 with e0 | ⟨u', e0, hz⟩
        · exact kn e0 H2 s02
        · rw [q] at e0
          injection e0 with e0
          subst e0
          refine absurd ⟨me.mp hm1, ?_⟩ hz
          unfold optI at h
          injection h with h
          omega
      · unfold optI
        rw [w.2]
        rfl
    intro hz
    rw [eN]
    clear eN N
    have hub : u < 2 ^ 700 := by
      obtain ⟨c, l, e⟩ := dgtL_some.mp q
      rw [e]
      exact Nat.lt_of_lt_of_le (Nat.lt_of_lt_of_le (dv_lt c.1) (Nat.pow_le_pow_right (by decide) l)) (Nat.le_of_lt pow10)
    have sgm : ∀ (i : Int), i = 1 ∨ i = -1 → CMulW (u : Int) i := fun i hi => mulw (n := 700) (m := 1) (by simpa using hub) (by rcases hi with rfl | rfl <;> decide) (by decide)
    have am : atI [V.int 1, V.int (-1)] (m : Int) = some (.int (sg (tl p0))) := by
      unfold sg
      rw [hm]
      split
      · exact at1
      · exact at0
    have sg1 : sg (tl p0) = 1 ∨ sg (tl p0) = -1 := by
      unfold sg
      split
      · exact .inr rfl
      · exact .inl rfl
    have c1 := sgm _ sg1
    refine seq_gen fun N eN => ?_
    try simp only [tSeq, tNext, tRet, tRetN, tAsg, gName, gSub, tDrop, tIfS, tOp, tUn, tCB, tCons, tNil, tC, tVar, rI, rI0, rU, tAnd, tOr, tNot, tAndV, tOrV, tNotV, tIf, tTest, tB, tCall, tChain, tLst, tTup, tYes, rIxH, rIsB, rIsBT, rMulS, kd_non, kd_bl, kd_int, kd_str, kd_ref, kdO_lst, kdO_tup, kdO_dK, nq_n, nq_b, nq_i, nq_s, nq_l, nq_t, nq_d, ne_eq, not_false_eq_true, kit_ss, kit_ns, kit_bs, kit_is, kit_ls, kit_ts, kit_ds, kit_bb, V.ty.injEq, and_assoc, rIxU, rLenH, rLenU, rLenS, rInt1, rSetL, rEq, rNe, rCat, L2.start, List.map, List.length, List.length_cons, List.length_nil, List.replicate, List.getElem?_cons_zero, List.getElem?_cons_succ, List.set_cons_zero, List.set_cons_succ, List.set_nil, List.cons_append, List.nil_append, List.append_nil, Option.some.injEq, V.int.injEq, V.ref.injEq, V.str.injEq, V.bl.injEq, HO.lst.injEq, HO.tup.injEq, exists_eq_left', exists_and_left, exists_eq_left, List.cons.injEq, and_true, true_and, and_false, false_and, and_self, reduceCtorEq, exists_false, or_false, false_or, exists_const, at0, at1, at2, at3, at4, at5, ix51, ix52, ix54, upd_same, Nat.reduceAdd, Nat.reduceSub, Nat.zero_add, Int.reduceToNat, Int.reduceLE, Int.reduceLT, decide_eq_true_eq, Bool.not_eq_true, if_true, if_false, Bool.false_eq_true, ite_true, ite_false, Bool.not_true, Bool.not_false, decide_true, decide_false, tFor_eq, tLc_eq, iList, iTup, iRng1, iRng2, iStr, tSl, tPart, tNoPart, rSlL, cxOf_K, wipe, ex_ty2, kit_LTl, kit_LTt, kit_LTd, kit_LTs, kit_LTn, kit_LTb, kit_LTi, tM1, rIxS, exists_eq', lt1p, tDNewK, rSlS, rEqNil, nox_K, hP2, scal_int, List.length_map]
    match r, pm, hr2, hP2 with
    | [], pm, hr2, hP2 =>
      have er : rdZ z = some (sg (tl p0) * (u : Int), 1) := by
        unfold rdZ
        rw [← pm]
        show rd1 (tl p0) = _
        unfold rd1
        rw [q]
        simp only
        rw [if_neg hz]
      rw [if_pos (by simp)]
      refine ⟨by decide, ?_⟩
      intro w1 n_w1; generalize g_H3 : upd H2 w1 _ = H3; obtain ⟨s_H3, h_w1⟩ := new_facts n_w1 g_H3; clear g_H3
      try simp only [tSeq, tNext, tRet, tRetN, tAsg, gName, gSub, tDrop, tIfS, tOp, tUn, tCB, tCons, tNil, tC, tVar, rI, rI0, rU, tAnd, tOr, tNot, tAndV, tOrV, tNotV, tIf, tTest, tB, tCall, tChain, tLst, tTup, tYes, rIxH, rIsB, rIsBT, rMulS, kd_non, kd_bl, kd_int, kd_str, kd_ref, kdO_lst, kdO_tup, kdO_dK, nq_n, nq_b, nq_i, nq_s, nq_l, nq_t, nq_d, ne_eq, not_false_eq_true, kit_ss, kit_ns, kit_bs, kit_is, kit_ls, kit_ts, kit_ds, kit_bb, V.ty.injEq, and_assoc, rIxU, rLenH, rLenU, rLenS, rInt1, rSetL, rEq, rNe, rCat, L2.start, List.map, List.length, List.length_cons, List.length_nil, List.replicate, List.getElem?_cons_zero, List.getElem?_cons_succ, List.set_cons_zero, List.set_cons_succ, List.set_nil, List.cons_append, List.nil_append, List.append_nil, Option.some.injEq, V.int.injEq, V.ref.injEq, V.str.injEq, V.bl.injEq, HO.lst.injEq, HO.tup.injEq, exists_eq_left', exists_and_left, exists_eq_left, List.cons.injEq, and_true, true_and, and_false, false_and, and_self, reduceCtorEq, exists_false, or_false, false_or, exists_const, at0, at1, at2, at3, at4, at5, ix51, ix52, ix54, upd_same, Nat.reduceAdd, Nat.reduceSub, Nat.zero_add, Int.reduceToNat, Int.reduceLE, Int.reduceLT, decide_eq_true_eq, Bool.not_eq_true, if_true, if_false, Bool.false_eq_true, ite_true, ite_false, Bool.not_true, Bool.not_false, decide_true, decide_false, tFor_eq, tLc_eq, iList, iTup, iRng1, iRng2, iStr, tSl, tPart, tNoPart, rSlL, cxOf_K, wipe, ex_ty2, kit_LTl, kit_LTt, kit_LTd, kit_LTs, kit_LTn, kit_LTb, kit_LTi, tM1, rIxS, exists_eq', lt1p, tDNewK, rSlS, rEqNil, h_w1, am, c1]
      refine ⟨by decide, fun a na => ?_⟩
      have e : (u : Int) * sg (tl p0) = sg (tl p0) * (u : Int) := Int.mul_comm _ _
      rw [e]
      exact ks _ _ er _ a ((s02.trans s_H3).trans (same_new na)) ((s02.trans s_H3).free na) upd_same
    | [p1], pm, hr2, hP2 =>
      rw [if_neg (by simp), eN]
      clear eN N
      have er : rdZ z = rd2 (tl p0) (tl p1) := by
        unfold rdZ
        rw [← pm]
        rfl
      refine seq_gen fun N eN => ?_
      try simp only [tSeq, tNext, tRet, tRetN, tAsg, gName, gSub, tDrop, tIfS, tOp, tUn, tCB, tCons, tNil, tC, tVar, rI, rI0, rU, tAnd, tOr, tNot, tAndV, tOrV, tNotV, tIf, tTest, tB, tCall, tChain, tLst, tTup, tYes, rIxH, rIsB, rIsBT, rMulS, kd_non, kd_bl, kd_int, kd_str, kd_ref, kdO_lst, kdO_tup, kdO_dK, nq_n, nq_b, nq_i, nq_s, nq_l, nq_t, nq_d, ne_eq, not_false_eq_true, kit_ss, kit_ns, kit_bs, kit_is, kit_ls, kit_ts, kit_ds, kit_bb, V.ty.injEq, and_assoc, rIxU, rLenH, rLenU, rLenS, rInt1, rSetL, rEq, rNe, rCat, L2.start, List.map, List.length, List.length_cons, List.length_nil, List.replicate, List.getElem?_cons_zero, List.getElem?_cons_succ, List.set_cons_zero, List.set_cons_succ, List.set_nil, List.cons_append, List.nil_append, List.append_nil, Option.some.injEq, V.int.injEq, V.ref.injEq, V.str.injEq, V.bl.injEq, HO.lst.injEq, HO.tup.injEq, exists_eq_left', exists_and_left, exists_eq_left, List.cons.injEq, and_true, true_and, and_false, false_and, and_self, reduceCtorEq, exists_false, or_false, false_or, exists_const, at0, at1, at2, at3, at4, at5, ix51, ix52, ix54, upd_same, Nat.reduceAdd, Nat.reduceSub, Nat.zero_add, Int.reduceToNat, Int.reduceLE, Int.reduceLT, decide_eq_true_eq, Bool.not_eq_true, if_true, if_false, Bool.false_eq_true, ite_true, ite_false, Bool.not_true, Bool.not_false, decide_true, decide_false, tFor_eq, tLc_eq, iList, iTup, iRng1, iRng2, iStr, tSl, tPart, tNoPart, rSlL, cxOf_K, wipe, ex_ty2, kit_LTl, kit_LTt, kit_LTd, kit_LTs, kit_LTn, kit_LTb, kit_LTi, tM1, rIxS, exists_eq', lt1p, tDNewK, rSlS, rEqNil, nox_K, hP2]
      refine ⟨p1, rfl, pt p1 (List.mem_cons_of_mem _ List.mem_cons_self), fun H3 s3 => ?_⟩
      dsimp only
      rw [eN]
      clear eN N
      have s03 := s02.trans s3
      refine seq_gen fun N eN => ?_
      try simp only [tSeq, tNext, tRet, tRetN, tAsg, gName, gSub, tDrop, tIfS, tOp, tUn, tCB, tCons, tNil, tC, tVar, rI, rI0, rU, tAnd, tOr, tNot, tAndV, tOrV, tNotV, tIf, tTest, tB, tCall, tChain, tLst, tTup, tYes, rIxH, rIsB, rIsBT, rMulS, kd_non, kd_bl, kd_int, kd_str, kd_ref, kdO_lst, kdO_tup, kdO_dK, nq_n, nq_b, nq_i, nq_s, nq_l, nq_t, nq_d, ne_eq, not_false_eq_true, kit_ss, kit_ns, kit_bs, kit_is, kit_ls, kit_ts, kit_ds, kit_bb, V.ty.injEq, and_assoc, rIxU, rLenH, rLenU, rLenS, rInt1, rSetL, rEq, rNe, rCat, L2.start, List.map, List.length, List.length_cons, List.length_nil, List.replicate, List.getElem?_cons_zero, List.getElem?_cons_succ, List.set_cons_zero, List.set_cons_succ, List.set_nil, List.cons_append, List.nil_append, List.append_nil, Option.some.injEq, V.int.injEq, V.ref.injEq, V.str.injEq, V.bl.injEq, HO.lst.injEq, HO.tup.injEq, exists_eq_left', exists_and_left, exists_eq_left, List.cons.injEq, and_true, true_and, and_false, false_and, and_self, reduceCtorEq, exists_false, or_false, false_or, exists_const, at0, at1, at2, at3, at4, at5, ix51, ix52, ix54, upd_same, Nat.reduceAdd, Nat.reduceSub, Nat.zero_add, Int.reduceToNat, Int.reduceLE, Int.reduceLT, decide_eq_true_eq, Bool.not_eq_true, if_true, if_false, Bool.false_eq_true, ite_true, ite_false, Bool.not_true, Bool.not_false, decide_true, decide_false, tFor_eq, tLc_eq, iList, iTup, iRng1, iRng2, iStr, tSl, tPart, tNoPart, rSlL, cxOf_K, wipe, ex_ty2, kit_LTl, kit_LTt, kit_LTd, kit_LTs, kit_LTn, kit_LTb, kit_LTi, tM1, rIxS, exists_eq', lt1p, tDNewK, rSlS, rEqNil, nox_K, scal_int]
      cases q2 : dgtL (tl p1) with
      | none =>
        have en : rdZ z = none := by
          rw [er]
          unfold rd2
          rw [q, q2]
        rw [if_pos (by rfl)]
        exact kn en H3 s03
      | some l =>
        rw [if_neg (by unfold optI; simp)]
        refine ⟨(l : Int), rfl, ?_⟩
        have lub : l < 2 ^ 700 := by
          obtain ⟨c, ll, e⟩ := dgtL_some.mp q2
          rw [e]
          exact Nat.lt_of_lt_of_le (Nat.lt_of_lt_of_le (dv_lt c.1) (Nat.pow_le_pow_right (by decide) ll)) (Nat.le_of_lt pow10)
        by_cases hl2 : (l : Int) < 2
        · rw [if_pos hl2]
          refine kn ?_ H3 s03
          rw [er]
          unfold rd2
          rw [q, q2]
          simp only
          rw [if_pos (.inr (.inl (by omega)))]
        rw [if_neg hl2]
        refine ⟨(u : Int), (l : Int), rfl, by omega, Nat.lt_of_lt_of_le (by simpa using lub) (Nat.pow_le_pow_right (by decide) (by decide)), fun w1 nw1 => ⟨by decide, fun p np => ?_⟩⟩
        have hw1 := same_new (o := .tup [.int (u : Int), .int (l : Int)]) np _ _ (upd_same (H := H3) (a := w1) (o := rt (Rat.divInt (u : Int) (l : Int))))
        refine neT2 (i := (Rat.divInt (u : Int) (l : Int)).num) (j := ((Rat.divInt (u : Int) (l : Int)).den : Int)) hw1 upd_same ?_
        have s05 : Same H _ := (s03.trans (same_new nw1)).trans (same_new (o := .tup [.int (u : Int), optI (some l)]) np)
        have hP5 := (s3.trans ((same_new (o := rt (Rat.divInt (u : Int) (l : Int))) nw1).trans (same_new (o := .tup [.int (u : Int), optI (some l)]) np))) _ _ hP2
        generalize upd (upd H3 w1 (rt (Rat.divInt (u : Int) (l : Int)))) p (.tup [.int (u : Int), optI (some l)]) = H5 at s05 hP5 ⊢
        refine ⟨_, rfl, ?_⟩
        by_cases hg : Nat.gcd u l = 1
        · rw [decide_eq_true ((low_iff (by omega) 1 (.inl rfl)).mpr hg), if_neg (by decide), eN]
          clear eN N
          have ev : rdZ z = some (sg (tl p0) * (u : Int), (l : Int)) := by
            rw [er]
            unfold rd2
            rw [q, q2]
            simp only
            rw [if_neg (by
              rintro (w | w | w)
              · exact hz w
              · omega
              · exact w hg)]
          try simp only [tSeq, tNext, tRet, tRetN, tAsg, gName, gSub, tDrop, tIfS, tOp, tUn, tCB, tCons, tNil, tC, tVar, rI, rI0, rU, tAnd, tOr, tNot, tAndV, tOrV, tNotV, tIf, tTest, tB, tCall, tChain, tLst, tTup, tYes, rIxH, rIsB, rIsBT, rMulS, kd_non, kd_bl, kd_int, kd_str, kd_ref, kdO_lst, kdO_tup, kdO_dK, nq_n, nq_b, nq_i, nq_s, nq_l, nq_t, nq_d, ne_eq, not_false_eq_true, kit_ss, kit_ns, kit_bs, kit_is, kit_ls, kit_ts, kit_ds, kit_bb, V.ty.injEq, and_assoc, rIxU, rLenH, rLenU, rLenS, rInt1, rSetL, rEq, rNe, rCat, L2.start, List.map, List.length, List.length_cons, List.length_nil, List.replicate, List.getElem?_cons_zero, List.getElem?_cons_succ, List.set_cons_zero, List.set_cons_succ, List.set_nil, List.cons_append, List.nil_append, List.append_nil, Option.some.injEq, V.int.injEq, V.ref.injEq, V.str.injEq, V.bl.injEq, HO.lst.injEq, HO.tup.injEq, exists_eq_left', exists_and_left, exists_eq_left, List.cons.injEq, and_true, true_and, and_false, false_and, and_self, reduceCtorEq, exists_false, or_false, false_or, exists_const, at0, at1, at2, at3, at4, at5, ix51, ix52, ix54, upd_same, Nat.reduceAdd, Nat.reduceSub, Nat.zero_add, Int.reduceToNat, Int.reduceLE, Int.reduceLT, decide_eq_true_eq, Bool.not_eq_true, if_true, if_false, Bool.false_eq_true, ite_true, ite_false, Bool.not_true, Bool.not_false, decide_true, decide_false, tFor_eq, tLc_eq, iList, iTup, iRng1, iRng2, iStr, tSl, tPart, tNoPart, rSlL, cxOf_K, wipe, ex_ty2, kit_LTl, kit_LTt, kit_LTd, kit_LTs, kit_LTn, kit_LTb, kit_LTi, tM1, rIxS, exists_eq', lt1p, tDNewK, rSlS, rEqNil, nox_K]
          refine ⟨by decide, ?_⟩
          intro w2 n_w2; generalize g_H6 : upd H5 w2 _ = H6; obtain ⟨s_H6, h_w2⟩ := new_facts n_w2 g_H6; clear g_H6
          try simp only [tSeq, tNext, tRet, tRetN, tAsg, gName, gSub, tDrop, tIfS, tOp, tUn, tCB, tCons, tNil, tC, tVar, rI, rI0, rU, tAnd, tOr, tNot, tAndV, tOrV, tNotV, tIf, tTest, tB, tCall, tChain, tLst, tTup, tYes, rIxH, rIsB, rIsBT, rMulS, kd_non, kd_bl, kd_int, kd_str, kd_ref, kdO_lst, kdO_tup, kdO_dK, nq_n, nq_b, nq_i, nq_s, nq_l, nq_t, nq_d, ne_eq, not_false_eq_true, kit_ss, kit_ns, kit_bs, kit_is, kit_ls, kit_ts, kit_ds, kit_bb, V.ty.injEq, and_assoc, rIxU, rLenH, rLenU, rLenS, rInt1, rSetL, rEq, rNe, rCat, L2.start, List.map, List.length, List.length_cons, List.length_nil, List.replicate, List.getElem?_cons_zero, List.getElem?_cons_succ, List.set_cons_zero, List.set_cons_succ, List.set_nil, List.cons_append, List.nil_append, List.append_nil, Option.some.injEq, V.int.injEq, V.ref.injEq, V.str.injEq, V.bl.injEq, HO.lst.injEq, HO.tup.injEq, exists_eq_left', exists_and_left, exists_eq_left, List.cons.injEq, and_true, true_and, and_false, false_and, and_self, reduceCtorEq, exists_false, or_false, false_or, exists_const, at0, at1, at2, at3, at4, at5, ix51, ix52, ix54, upd_same, Nat.reduceAdd, Nat.reduceSub, Nat.zero_add, Int.reduceToNat, Int.reduceLE, Int.reduceLT, decide_eq_true_eq, Bool.not_eq_true, if_true, if_false, Bool.false_eq_true, ite_true, ite_false, Bool.not_true, Bool.not_false, decide_true, decide_false, tFor_eq, tLc_eq, iList, iTup, iRng1, iRng2, iStr, tSl, tPart, tNoPart, rSlL, cxOf_K, wipe, ex_ty2, kit_LTl, kit_LTt, kit_LTd, kit_LTs, kit_LTn, kit_LTb, kit_LTi, tM1, rIxS, exists_eq', lt1p, tDNewK, rSlS, rEqNil, h_w2, am, c1]
          refine ⟨by decide, fun a na => ?_⟩
          have e : (u : Int) * sg (tl p0) = sg (tl p0) * (u : Int) := Int.mul_comm _ _
          show Q (.ref a) (upd H6 a (.tup [.int ((u : Int) * sg (tl p0)), optI (some l)]))
          rw [e]
          exact ks _ _ ev _ a ((s05.trans s_H6).trans (same_new na)) ((s05.trans s_H6).free na) upd_same
        · rw [decide_eq_false (fun w => hg ((low_iff (by omega) 1 (.inl rfl)).mp w)), if_pos (by decide)]
          refine kn ?_ H5 s05
          rw [er]
          unfold rd2
          rw [q, q2]
          simp only
          rw [if_pos (.inr (.inr hg))]
end



/-! ### _law_right -/
def qR4 : Str := "_law_right" ++ ".<locals>." ++ "<lambda>"
def qL4 : Str := "law" ++ ".<locals>." ++ "<lambda>"
def ts4 (A : Adr) : List (Addr × Str) := [(A.t_LawRight, qR4), (A.t_Law, qL4)]
theorem Tx4.odd {K : PySem.W.Frag} {H : Hp} {z : Str} (h : Tx4 z) : OddAt K H (.str z) (.str z) := by
  refine ⟨.inl ⟨.str z, rfl⟩, rfl, ?_, by simp [PyData.depth]⟩
  have q := StrLaws.reprText_len z fun c hc => Nat.lt_trans (h.asc c hc) (by decide)
  rw [PyData.shown_str]
  have := h.len
  exact Nat.le_trans q (Nat.le_trans (show 10 * z.length + 2 ≤ 200002 by omega) (by decide))
theorem rd_back {z : Str} {u l : Int} (h : rdZ z = some (u, l)) : 0 < l ∧ u.natAbs < 2 ^ 700 ∧ l.natAbs < 2 ^ 700 ∧ ratText (Rat.divInt u l).num (Rat.divInt u l).den = z := by
  unfold rdZ rdP at h
  split at h
  · rename_i p e
    obtain ⟨rfl, rfl⟩ := read_one_val h
    obtain ⟨hw, ht⟩ := read_one.mp ⟨_, h⟩
    have ez := prt_one e
    subst ez
    have hi := int_wr hw
    refine ⟨by decide, hi.2.2, by decide, ?_⟩
    refine TL.ext_tl ?_
    rw [rt_text, of_num]
    unfold rT
    rw [if_pos (by rfl)]
    exact ht
  · rename_i p q e
    obtain ⟨n47, ez⟩ := prt_two e
    obtain ⟨h1, h2, h3, h4⟩ := (read_two n47).mp ⟨_, h⟩
    obtain ⟨rfl, rfl, h5, _, _⟩ := read_two_val h
    have hp := int_wr (z := ⟨p.toArray⟩) h1
    have hq := int_wr (z := ⟨q.toArray⟩) h2
    refine ⟨by omega, hp.2.2, hq.2.2, ?_⟩
    refine TL.ext_tl ?_
    rw [rt_text, h4, ez]
  · cases h
def spRight4 (A : Adr) : Sp := fun vs H Q _ => ∃ z, vs = [.str z] ∧ Tx4 z ∧ LamX.Tabs (ts4 A) H ∧ ∀ H', Sx (ts4 A) H H' → Q (.bl true) H'
section
variable {w : World} {K : PySem.W.Frag} {mg : Str → Option Value} {base : Heap} {A : Adr}
theorem ok_right4 (T : Txt K mg A) (TB : LamX.TabB base mg A.c_LawRight A.t_LawRight) (gLawKind : FnOk PW w K mg base CX0 1 A.a_LawKind A.d_LawKind ["_law_error"] (spKind K A))
    (gLawRead : FnOk PW w K mg base CX0 2 A.a_LawRead A.d_LawRead ["_law_text"] spRead4) (gRatioText : FnOk PW w K mg base CX0 1 A.a_RatioText A.d_RatioText ["self"] (spText A.k_Ratio))
    (gLawIsRatio : FnOk PW w K mg base CX0 3 A.a_LawIsRatio A.d_LawIsRatio ["_law_thing", "_law_upper", "_law_lower"] (spIsRatio A.k_Ratio))
    (gRatioFromText : FnOk PW w K mg base (L2.CX PW w) 4 A.a_RatioFromText A.d_RatioFromText ["cls", "text"] (spFrom K A.k_Ratio A.k_InvalidText)) :
    FnG PW w K mg base CX0 9 A.a_LawRight A.d_LawRight ["_law_text"] (spRight4 A) := by
  refine okGC T.fc_LawRight scLawRight (fun vs H Q E h => ?_) (fun A' outer s H vs Q E hr hG h => ?_)
  · obtain ⟨z, rfl, _⟩ := h
    rfl
  · obtain ⟨z, rfl, tz, hT, k⟩ := h
    obtain ⟨oc0, od0, kV0, doc0, pm0, an0, cdv0, ct0, osl0, lk0, cg0, b0⟩ := caught_pack T
    have va0 : Vis (defScope sLawCaught) "_law_call" := .inl (by decide +kernel)
    have hCaught := fun q => caught_gives (q := q) (cdv := cdv0) T gLawKind (hr.mono (by decide)) hG
    have mT0 : (A.t_LawRight, qR4) ∈ ts4 A := List.mem_cons_self
    have hu0 : ∀ p ∈ ts4 A, p.1 = A.t_LawRight → p.2 = qR4 := fun p hp e => by
      rcases List.mem_cons.mp hp with h | h
      · rw [h]
      · rw [List.mem_singleton.mp h] at e
        exact absurd e.symm T.dt_LawRight_Law
    have hCaught := hCaught qR4
    refine ⟨_, (pss_cons (ps_set (i := 1) scLawRight.nd rfl (Or.inl rfl) (pe_call gLawRead (hr.mono (by decide)) (by rfl) T.m_LawRead T.f_LawRead.kp T.b_LawRead .nil pass0 (pa_cons (pv 0) pa_nil)))
      (pss_cons (ps_if (pt_cmpR (op_isN) (pv 1) pe_non (nomark _)) (pss_one (ps_ret (pe_cmpR (op_eqSs hr.units) (pe_lamC (k := 6) (by rfl) T.m_LawCaught T.f_LawCaught.kp lk0 cg0 b0 scLawCaught rfl va0 hCaught TB rfl mT0 hu0 (hr.mono (by decide)) (LamX.lamS_by (sc := defScope sLawRight) (by decide +kernel)) rfl (fun _ _ _ _ _ => rfl) (fun _ _ _ _ _ _ _ hr _ => (ClX.pe_cmeth (pe_glob (v := .ref A.k_Ratio) (by rfl) T.k_Ratio rfl) T.cr_Ratio T.h_RatioFromText (FnOk.rr gRatioFromText T.b_RatioFromText) (hr.mono (by decide)) (passes_call (takes_of rfl rfl rfl rfl) (fun _ _ _ _ h => h)) (pa_cons (pv 0) pa_nil)))) (pe_lst (pa_cons pe_str (pa_cons (pe_callB (call_reprD hr hG) (by rfl) T.z_repr (by decide +kernel) (pa_cons (pv 0) pa_nil)) pa_nil))) (nomark _)))) pss_nil)
      (pss_cons (ps_set (i := 2) scLawRight.nd rfl (Or.inl rfl) (ClX.pe_cmeth (pe_glob (v := .ref A.k_Ratio) (by rfl) T.k_Ratio rfl) T.cr_Ratio T.h_RatioFromText (FnOk.rr gRatioFromText T.b_RatioFromText) (hr.mono (by decide)) passL (pa_cons (pv 0) pa_nil)))
      (pss_one (ps_ret (pe_and (pe_call gLawIsRatio (hr.mono (by decide)) (by rfl) T.m_LawIsRatio T.f_LawIsRatio.kp T.b_LawIsRatio .nil pass0 (pa_cons (pv 2) (pa_cons (pe_ix ix_tupH (pv 1) pe_int (fun _ _ => rfl)) (pa_cons (pe_ix ix_tupH (pv 1) pe_int (fun _ _ => rfl)) pa_nil)))) (pe_one (pe_cmpR (op_eq) (pe_prop (pv 2) T.t_Ratio.cl T.h_RatioText gRatioText (hr.mono (by decide)) T.b_RatioText .nil pass0 (by rfl)) (pv 0) (nomark _))))))))), ?_⟩
    have hk := T.y_InvalidText
    refine seq_gen fun N eN => ?_
    try simp only [tSeq, tNext, tRet, tRetN, tAsg, gName, gSub, tDrop, tIfS, tOp, tUn, tCB, tCons, tNil, tC, tVar, rI, rI0, rU, tAnd, tOr, tNot, tAndV, tOrV, tNotV, tIf, tTest, tB, tCall, tChain, tLst, tTup, tYes, rIxH, rIsB, rIsBT, rMulS, kd_non, kd_bl, kd_int, kd_str, kd_ref, kdO_lst, kdO_tup, kdO_dK, nq_n, nq_b, nq_i, nq_s, nq_l, nq_t, nq_d, ne_eq, not_false_eq_true, kit_ss, kit_ns, kit_bs, kit_is, kit_ls, kit_ts, kit_ds, kit_bb, V.ty.injEq, and_assoc, rIxU, rLenH, rLenU, rLenS, rInt1, rSetL, rEq, rNe, rCat, L2.start, List.map, List.length, List.length_cons, List.length_nil, List.replicate, List.getElem?_cons_zero, List.getElem?_cons_succ, List.set_cons_zero, List.set_cons_succ, List.set_nil, List.cons_append, List.nil_append, List.append_nil, Option.some.injEq, V.int.injEq, V.ref.injEq, V.str.injEq, V.bl.injEq, HO.lst.injEq, HO.tup.injEq, exists_eq_left', exists_and_left, exists_eq_left, List.cons.injEq, and_true, true_and, and_false, false_and, and_self, reduceCtorEq, exists_false, or_false, false_or, exists_const, at0, at1, at2, at3, at4, at5, ix51, ix52, ix54, upd_same, Nat.reduceAdd, Nat.reduceSub, Nat.zero_add, Int.reduceToNat, Int.reduceLE, Int.reduceLT, decide_eq_true_eq, Bool.not_eq_true, if_true, if_false, Bool.false_eq_true, ite_true, ite_false, Bool.not_true, Bool.not_false, decide_true, decide_false, tFor_eq, tLc_eq, iList, iTup, iRng1, iRng2, iStr, tSl, tPart, tNoPart, rSlL, cxOf_K, wipe, ex_ty2, kit_LTl, kit_LTt, kit_LTd, kit_LTs, kit_LTn, kit_LTb, kit_LTi, tM1, rIxS, exists_eq', lt1p, tDNewK, rSlS, rEqNil, nox_K]
    refine ⟨z, rfl, tz, fun hn H1 s1 => ?_, fun u l hs H1 a s1 na ha => ?_⟩
    · dsimp only
      rw [eN]
      clear eN N
      have hT1 : LamX.Tabs (ts4 A) H1 := hT.ext fun b o h => s1 b o h
      try simp only [tSeq, tNext, tRet, tRetN, tAsg, gName, gSub, tDrop, tIfS, tOp, tUn, tCB, tCons, tNil, tC, tVar, rI, rI0, rU, tAnd, tOr, tNot, tAndV, tOrV, tNotV, tIf, tTest, tB, tCall, tChain, tLst, tTup, tYes, rIxH, rIsB, rIsBT, rMulS, kd_non, kd_bl, kd_int, kd_str, kd_ref, kdO_lst, kdO_tup, kdO_dK, nq_n, nq_b, nq_i, nq_s, nq_l, nq_t, nq_d, ne_eq, not_false_eq_true, kit_ss, kit_ns, kit_bs, kit_is, kit_ls, kit_ts, kit_ds, kit_bb, V.ty.injEq, and_assoc, rIxU, rLenH, rLenU, rLenS, rInt1, rSetL, rEq, rNe, rCat, L2.start, List.map, List.length, List.length_cons, List.length_nil, List.replicate, List.getElem?_cons_zero, List.getElem?_cons_succ, List.set_cons_zero, List.set_cons_succ, List.set_nil, List.cons_append, List.nil_append, List.append_nil, Option.some.injEq, V.int.injEq, V.ref.injEq, V.str.injEq, V.bl.injEq, HO.lst.injEq, HO.tup.injEq, exists_eq_left', exists_and_left, exists_eq_left, List.cons.injEq, and_true, true_and, and_false, false_and, and_self, reduceCtorEq, exists_false, or_false, false_or, exists_const, at0, at1, at2, at3, at4, at5, ix51, ix52, ix54, upd_same, Nat.reduceAdd, Nat.reduceSub, Nat.zero_add, Int.reduceToNat, Int.reduceLE, Int.reduceLT, decide_eq_true_eq, Bool.not_eq_true, if_true, if_false, Bool.false_eq_true, ite_true, ite_false, Bool.not_true, Bool.not_false, decide_true, decide_false, tFor_eq, tLc_eq, iList, iTup, iRng1, iRng2, iStr, tSl, tPart, tNoPart, rSlL, cxOf_K, wipe, ex_ty2, kit_LTl, kit_LTt, kit_LTd, kit_LTs, kit_LTn, kit_LTb, kit_LTi, tM1, rIxS, exists_eq', lt1p, tDNewK, rSlS, rEqNil, nox_K]
      refine lam_refused hT1 tz.odd hk (fun H2 x2 Ec Qc hE => ?_) fun H3 l x3 h3 => ?_
      · exact ⟨rfl, _, rfl, .inl ⟨z, rfl, tz, .inr ⟨hn, fun H4 d s4 _ h4 => hE H4 d s4 h4⟩⟩⟩
      · refine (tz.odd (K := K)).repr ⟨by decide, fun p np => ?_⟩
        refine eq_told (same_new np _ _ h3) upd_same (k _ ?_)
        exact ((Sx.refl hT).same s1).trans (x3.same (same_new np))
    · dsimp only
      rw [eN]
      clear eN N
      have hT1 : LamX.Tabs (ts4 A) H1 := hT.ext fun b o h => s1 b o h
      obtain ⟨l0, ub, lb, et⟩ := rd_back hs
      try simp only [tSeq, tNext, tRet, tRetN, tAsg, gName, gSub, tDrop, tIfS, tOp, tUn, tCB, tCons, tNil, tC, tVar, rI, rI0, rU, tAnd, tOr, tNot, tAndV, tOrV, tNotV, tIf, tTest, tB, tCall, tChain, tLst, tTup, tYes, rIxH, rIsB, rIsBT, rMulS, kd_non, kd_bl, kd_int, kd_str, kd_ref, kdO_lst, kdO_tup, kdO_dK, nq_n, nq_b, nq_i, nq_s, nq_l, nq_t, nq_d, ne_eq, not_false_eq_true, kit_ss, kit_ns, kit_bs, kit_is, kit_ls, kit_ts, kit_ds, kit_bb, V.ty.injEq, and_assoc, rIxU, rLenH, rLenU, rLenS, rInt1, rSetL, rEq, rNe, rCat, L2.start, List.map, List.length, List.length_cons, List.length_nil, List.replicate, List.getElem?_cons_zero, List.getElem?_cons_succ, List.set_cons_zero, List.set_cons_succ, List.set_nil, List.cons_append, List.nil_append, List.append_nil, Option.some.injEq, V.int.injEq, V.ref.injEq, V.str.injEq, V.bl.injEq, HO.lst.injEq, HO.tup.injEq, exists_eq_left', exists_and_left, exists_eq_left, List.cons.injEq, and_true, true_and, and_false, false_and, and_self, reduceCtorEq, exists_false, or_false, false_or, exists_const, at0, at1, at2, at3, at4, at5, ix51, ix52, ix54, upd_same, Nat.reduceAdd, Nat.reduceSub, Nat.zero_add, Int.reduceToNat, Int.reduceLE, Int.reduceLT, decide_eq_true_eq, Bool.not_eq_true, if_true, if_false, Bool.false_eq_true, ite_true, ite_false, Bool.not_true, Bool.not_false, decide_true, decide_false, tFor_eq, tLc_eq, iList, iTup, iRng1, iRng2, iStr, tSl, tPart, tNoPart, rSlL, cxOf_K, wipe, ex_ty2, kit_LTl, kit_LTt, kit_LTd, kit_LTs, kit_LTn, kit_LTb, kit_LTi, tM1, rIxS, exists_eq', lt1p, tDNewK, rSlS, rEqNil, nox_K, ha]
      refine ⟨rfl, _, rfl, .inl ⟨z, rfl, tz, .inl ⟨u, l, hs, fun H2 f s2 nf hf => ?_⟩⟩⟩
      have ha2 := s2 _ _ ha
      refine ⟨_, ha2, _, rfl, _, ha2, _, rfl, ?_⟩
      refine ⟨_, _, 700, u, l, rfl, hf, l0, abs_mono lb (by decide), fun H3 s3 => ?_⟩
      have hf3 := hf.same s3
      obtain ⟨⟨fa, dx, efa, hfa⟩, bq⟩ := id hf3
      injection efa with efa
      subst efa
      refine ⟨_, rfl, ?_⟩
      rw [decide_eq_true rfl, if_pos rfl]
      try simp only [tSeq, tNext, tRet, tRetN, tAsg, gName, gSub, tDrop, tIfS, tOp, tUn, tCB, tCons, tNil, tC, tVar, rI, rI0, rU, tAnd, tOr, tNot, tAndV, tOrV, tNotV, tIf, tTest, tB, tCall, tChain, tLst, tTup, tYes, rIxH, rIsB, rIsBT, rMulS, kd_non, kd_bl, kd_int, kd_str, kd_ref, kdO_lst, kdO_tup, kdO_dK, nq_n, nq_b, nq_i, nq_s, nq_l, nq_t, nq_d, ne_eq, not_false_eq_true, kit_ss, kit_ns, kit_bs, kit_is, kit_ls, kit_ts, kit_ds, kit_bb, V.ty.injEq, and_assoc, rIxU, rLenH, rLenU, rLenS, rInt1, rSetL, rEq, rNe, rCat, L2.start, List.map, List.length, List.length_cons, List.length_nil, List.replicate, List.getElem?_cons_zero, List.getElem?_cons_succ, List.set_cons_zero, List.set_cons_succ, List.set_nil, List.cons_append, List.nil_append, List.append_nil, Option.some.injEq, V.int.injEq, V.ref.injEq, V.str.injEq, V.bl.injEq, HO.lst.injEq, HO.tup.injEq, exists_eq_left', exists_and_left, exists_eq_left, List.cons.injEq, and_true, true_and, and_false, false_and, and_self, reduceCtorEq, exists_false, or_false, false_or, exists_const, at0, at1, at2, at3, at4, at5, ix51, ix52, ix54, upd_same, Nat.reduceAdd, Nat.reduceSub, Nat.zero_add, Int.reduceToNat, Int.reduceLE, Int.reduceLT, decide_eq_true_eq, Bool.not_eq_true, if_true, if_false, Bool.false_eq_true, ite_true, ite_false, Bool.not_true, Bool.not_false, decide_true, decide_false, tFor_eq, tLc_eq, iList, iTup, iRng1, iRng2, iStr, tSl, tPart, tNoPart, rSlL, cxOf_K, wipe, ex_ty2, kit_LTl, kit_LTt, kit_LTd, kit_LTs, kit_LTn, kit_LTb, kit_LTi, tM1, rIxS, exists_eq', lt1p, tDNewK, rSlS, rEqNil, nox_K, tProp, hfa, HO.ins.injEq]
      refine ⟨_, _, rfl, ⟨⟨_, dx, rfl, hfa⟩, bq.mono (by decide)⟩, scal_str, ?_⟩
      rw [et, decide_eq_true rfl]
      exact k H3 (((Sx.refl hT).same s1).same (s2.trans s3))
end



/-! ### the pool's world where lambdas are made too -/
theorem Tabs.offS {Ts : List (Addr × Str)} {p l : Addr} {c : Nat} {H H' : Hp} (h : LamX.Tabs Ts H) (hp : PoolAt p l c H) (o : OffS p l H H') : LamX.Tabs Ts H' := by
  obtain ⟨ns, t, n, z, y, h1, h2, _⟩ := hp
  refine fun q hq => ?_
  obtain ⟨ps, e1, e2, e3⟩ := h q hq
  have ne : ∀ {b : Addr} {u : HO}, H b = some u → (∀ xs, u ≠ .lst xs) → b ≠ p ∧ b ≠ l := fun {b u} e n => ⟨fun z => by rw [z, h1] at e; exact n _ (Option.some.inj e).symm, fun z => by rw [z, h2] at e; exact n _ (Option.some.inj e).symm⟩
  have n1 := ne e1 (fun xs z => by cases z)
  refine ⟨ps, o _ _ n1.1 n1.2 e1, e2, fun pos cv hc => ?_⟩
  obtain ⟨c, e4, e5⟩ := e3 pos cv hc
  have n2 := ne e5 (fun xs z => by unfold LamX.CodeO at z; cases z)
  exact ⟨c, e4, o _ _ n2.1 n2.2 e5⟩
/-- G: what is known (no tables), the tables stand -/
structure Wt (Ts : List (Addr × Str)) (p l : Addr) (c : Nat) (G H : Hp) : Prop where
  wd : Wd p l c G H
  tb : LamX.Tabs Ts H
  nt : ∀ b ps, G b ≠ some (.tbl ps)
section
variable {Ts : List (Addr × Str)} {p l : Addr} {c c' : Nat} {G G' H H' : Hp}
theorem Wt.sx (h : Wt Ts p l c G H) (x : Sx Ts H H') : Wt Ts p l c G H' := by
  refine ⟨⟨?_, fun b o e => x.ex b o (h.wd.kn b o e) fun ps z => h.nt b ps (by rw [e, z]), h.wd.gp, h.wd.gl⟩, x.tb, h.nt⟩
  obtain ⟨ns, t, n, z, y, h1, h2, h3⟩ := h.wd.pool
  exact ⟨ns, t, n, z, y, x.at h1, x.at h2, h3⟩
theorem Wt.turn (h : Wt Ts p l c G H) (hp : PoolAt p l c' H') (off : OffS p l H H') : Wt Ts p l c' G H' := ⟨h.wd.turn hp off, Tabs.offS h.tb h.wd.pool off, h.nt⟩
theorem Wt.same (h : Wt Ts p l c G H) (s : Same H H') : Wt Ts p l c G H' := ⟨h.wd.same s, h.tb.ext fun b o e => s b o e, h.nt⟩
theorem Wt.alloc {q : Addr} {o : HO} (h : Wt Ts p l c G H) (hq : H q = none) (s : Same H H') (e : H' q = some o) (n : ∀ ps, o ≠ .tbl ps := by intro ps z; cases z) : ∃ G1, Wt Ts p l c G1 H' ∧ Same G G1 ∧ G1 q = some o := by
  refine ⟨upd G q o, ⟨h.wd.add (same_off s) (h.wd.pool.same s) hq e, h.tb.ext fun b o e => s b o e, fun b ps z => ?_⟩, same_new (h.wd.free hq), upd_same⟩
  by_cases eb : b = q
  · subst eb
    rw [upd_same] at z
    exact n ps (Option.some.inj z)
  · rw [upd_ne eb] at z
    exact h.nt b ps z
theorem Wt.forget (h : Wt Ts p l c G' H) (g : Same G G') : Wt Ts p l c G H := by
  refine ⟨⟨h.wd.pool, g.trans h.wd.kn, g.free h.wd.gp, g.free h.wd.gl⟩, h.tb, fun b ps z => h.nt b ps (g _ _ z)⟩
theorem Wt.mono (h : Wt Ts p l c G H) (hc : c ≤ c') : Wt Ts p l c' G H := ⟨h.wd.mono hc, h.tb, h.nt⟩
end

/-! ### the law k04 -/
theorem TxN.t4 {n : Nat} {z : Str} (h : TxN n z) (hn : n ≤ 20000) : Tx4 z := ⟨Nat.le_trans h.1 hn, h.2⟩
def tabsOf (A : Adr) : List (Addr × Addr) := [(A.c_LawRight, A.t_LawRight), (A.c_Law, A.t_Law)]
def spLaw (K : PySem.W.Frag) (cs : List (Addr × Addr)) : Sp := fun vs H Q _ => ∃ (a : Addr) (ns : List Int), vs = [.ref a] ∧ SqL K H a (ns.map V.int) ∧ ns.length ≤ 63 ∧ (∀ p ∈ cs, H p.2 = some (.tbl #[])) ∧ ∀ H', Q (.bl true) H'
def LO (a p l : Addr) (Ts : List (Addr × Str)) (i : Nat) (σ : St) (H : Hp) : Prop := ∃ (v2 v3 v4 v5 v6 v7 v8 v9 : Option V) (c : Nat), σ = [some (.ref a), some (.ref p), v2, v3, v4, v5, v6, v7, v8, v9, none, none] ∧ Wt Ts p l c (fun _ => none) H ∧ c ≤ 20 * i
/-- a loop over texts that are right -/
def LT4 (v : List (Option V)) (u : List (Option V)) (p l : Addr) (Ts : List (Addr × Str)) (c : Nat) (G : Hp) (i : Nat) (σ : St) (H : Hp) : Prop := ∃ v9 : Option V, σ = v ++ v9 :: u ∧ Wt Ts p l c G H
theorem set_self {α : Type} : ∀ {σ : List α} {j : Nat} {v : α}, σ[j]? = some v → σ.set j v = σ
  | [], _, _, h => by cases h
  | a :: σ, 0, v, h => by cases h; rfl
  | a :: σ, j + 1, v, h => by rw [List.set_cons_succ, set_self (σ := σ) h]
theorem txt_loop {K : PySem.W.Frag} {A : Adr} {p l L : Addr} {c j : Nat} {G H : Hp} {txs : List Str} {σ : St} {v0 : Option V} {D : Ends} (hw : Wt (ts4 A) p l c G H) (hG : G L = some (.lst (txs.map V.str))) (hb : ∀ z ∈ txs, Tx4 z) (hl : txs.length ≤ 1000) (hj : σ[j]? = some v0)
    (hd : ∀ (v : Option V) H', Wt (ts4 A) p l c G H' → D.nx (σ.set j v) H') : forGo (Itl K L) (gName j) (tIfS (tNot (tB (tCall (spRight4 A) [] E0 (tCons (tVar j) tNil)))) (tRet (tC (V.bl false))) tNext) D σ H := by
  have hs : ∀ v : Option V, (σ.set j v)[j]? = some v := fun v => by
    rw [List.getElem?_set_self]
    exact (List.getElem?_eq_some_iff.mp hj).1
  refine for_go (walk_list (K := K) (a := L) (xs := txs.map V.str)) (fun _ σ' H' => (∃ v, σ' = σ.set j v) ∧ Wt (ts4 A) p l c G H') ⟨⟨v0, (set_self hj).symm⟩, hw⟩ (fun _ _ H' _ q => SqL.of (q.2.wd.kn _ _ hG)) (fun i x σ' H' hx q => ?_) (fun σ' H' q => ?_)
  · obtain ⟨⟨v, rfl⟩, w⟩ := q
    obtain ⟨z, hz, rfl⟩ := List.mem_map.mp (List.mem_of_getElem? hx)
    try simp only [tSeq, tNext, tRet, tRetN, tAsg, gName, gSub, tDrop, tIfS, tOp, tUn, tCB, tCons, tNil, tC, tVar, rI, rI0, rU, tAnd, tOr, tNot, tAndV, tOrV, tNotV, tIf, tTest, tB, tCall, tChain, tLst, tTup, tYes, rIxH, rIsB, rIsBT, rMulS, kd_non, kd_bl, kd_int, kd_str, kd_ref, kdO_lst, kdO_tup, kdO_dK, nq_n, nq_b, nq_i, nq_s, nq_l, nq_t, nq_d, ne_eq, not_false_eq_true, kit_ss, kit_ns, kit_bs, kit_is, kit_ls, kit_ts, kit_ds, kit_bb, V.ty.injEq, and_assoc, rIxU, rLenH, rLenU, rLenS, rInt1, rSetL, rEq, rNe, rCat, L2.start, List.map, List.length, List.length_cons, List.length_nil, List.replicate, List.getElem?_cons_zero, List.getElem?_cons_succ, List.set_cons_zero, List.set_cons_succ, List.set_nil, List.cons_append, List.nil_append, List.append_nil, Option.some.injEq, V.int.injEq, V.ref.injEq, V.str.injEq, V.bl.injEq, HO.lst.injEq, HO.tup.injEq, exists_eq_left', exists_and_left, exists_eq_left, List.cons.injEq, and_true, true_and, and_false, false_and, and_self, reduceCtorEq, exists_false, or_false, false_or, exists_const, at0, at1, at2, at3, at4, at5, ix51, ix52, ix54, upd_same, Nat.reduceAdd, Nat.reduceSub, Nat.zero_add, Int.reduceToNat, Int.reduceLE, Int.reduceLT, decide_eq_true_eq, Bool.not_eq_true, if_true, if_false, Bool.false_eq_true, ite_true, ite_false, Bool.not_true, Bool.not_false, decide_true, decide_false, tFor_eq, tLc_eq, iList, iTup, iRng1, iRng2, iStr, tSl, tPart, tNoPart, rSlL, cxOf_K, wipe, ex_ty2, kit_LTl, kit_LTt, kit_LTd, kit_LTs, kit_LTn, kit_LTb, kit_LTi, tM1, rIxS, exists_eq', lt1p, tDNewK, rSlS, rEqNil]
    rw [List.set_set]
    refine ⟨_, hs _, _, rfl, hb z hz, w.tb, fun H2 x2 => ⟨true, rfl, ?_⟩⟩
    exact ⟨⟨_, rfl⟩, w.sx x2⟩
  · obtain ⟨⟨v, rfl⟩, w⟩ := q
    exact hd v H' w
theorem ratT_txn {u l : Int} (h1 : u.natAbs < 2 ^ 1900) (h2 : l.natAbs < 2 ^ 1900) : TxN 3843 (ratText u l) := by
  unfold ratText
  split
  · exact (txn_num h1).mono (by decide)
  · exact ((txn_num h1).app (TxN.of (n := 1) (by decide +kernel))).app (txn_num h2)
section
variable {w : World} {K : PySem.W.Frag} {mg : Str → Option Value} {base : Heap} {A : Adr}
theorem ok_law_of (T : Txt K mg A) (TB : LamX.TabB base mg A.c_Law A.t_Law) (gLawPool : FnOk PW w K mg base CX0 1 A.a_LawPool A.d_LawPool ["_law_script"] (spLawPool K)) (gLawDraw : FnOk PW w K mg base CX0 2 A.a_LawDraw A.d_LawDraw ["_law_pool_here", "_law_many"] spLawDraw)
    (gLawPair : FnOk PW w K mg base CX0 4 A.a_LawPair A.d_LawPair ["_law_pool_here"] spPair) (gLawLowest : FnOk PW w K mg base CX0 1 A.a_LawLowest A.d_LawLowest ["_law_upper", "_law_lower"] spLowest)
    (gLawKind : FnOk PW w K mg base CX0 1 A.a_LawKind A.d_LawKind ["_law_error"] (spKind K A)) (gLawRight : FnG PW w K mg base CX0 9 A.a_LawRight A.d_LawRight ["_law_text"] (spRight4 A))
    (gRatioFromText : FnOk PW w K mg base (L2.CX PW w) 4 A.a_RatioFromText A.d_RatioFromText ["cls", "text"] (spFrom K A.k_Ratio A.k_InvalidText)) :
    FnG PW w K mg base CX0 10 A.a_Law A.d_Law ["_law_script"] (spLaw K (tabsOf A)) := by
  refine okGC T.fc_Law scLaw (fun vs H Q E h => ?_) (fun A' outer s H vs Q E hr hG h => ?_)
  · obtain ⟨a, ns, rfl, _⟩ := h
    rfl
  · obtain ⟨a, ns, rfl, hS, hlen, hH, k⟩ := h
    have hT : LamX.Tabs (ts4 A) H := fun p hp => by
      rcases List.mem_cons.mp hp with h | h
      · rw [h]; exact LamX.TabS.nil (hH (A.c_LawRight, A.t_LawRight) List.mem_cons_self)
      · rw [List.mem_singleton.mp h]; exact LamX.TabS.nil (hH (A.c_Law, A.t_Law) (List.mem_cons_of_mem _ List.mem_cons_self))
    obtain ⟨oc0, od0, kV0, doc0, pm0, an0, cdv0, ct0, osl0, lk0, cg0, b0⟩ := caught_pack T
    have va0 : Vis (defScope sLawCaught) "_law_call" := .inl (by decide +kernel)
    have hCaught := fun q => caught_gives (q := q) (cdv := cdv0) T gLawKind (hr.mono (by decide)) hG
    have mT0 : (A.t_Law, qL4) ∈ ts4 A := List.mem_cons_of_mem _ List.mem_cons_self
    have hu0 : ∀ p ∈ ts4 A, p.1 = A.t_Law → p.2 = qL4 := fun p hp e => by
      rcases List.mem_cons.mp hp with h | h
      · rw [h] at e
        exact absurd e T.dt_LawRight_Law
      · rw [List.mem_singleton.mp h]
    have hCaught := hCaught qL4
    have hk := T.y_InvalidText
    refine ⟨_, (pss_cons (ps_set (i := 1) scLaw.nd rfl (Or.inl rfl) (pe_call gLawPool (hr.mono (by decide)) (by rfl) T.m_LawPool T.f_LawPool.kp T.b_LawPool .nil pass0 (pa_cons (pv 0) pa_nil)))
      (pss_cons (ps_for PassesOwn.never rfl (pi_range1 (by rfl) T.z_range (pa_cons pe_int pa_nil)) (pg_name (i := 2) scLaw.nd rfl (Or.inl rfl)) (pss_cons (ps_asg (pe_call gLawPair (hr.mono (by decide)) (by rfl) T.m_LawPair T.f_LawPair.kp T.b_LawPair .nil pass0 (pa_cons (pv 1) pa_nil)) (pg_tup rfl (pgs_cons (pg_name (i := 3) scLaw.nd rfl (Or.inl rfl)) (pgs_cons (pg_name (i := 4) scLaw.nd rfl (Or.inl rfl)) pgs_nil))))
      (pss_cons (ps_asg (pe_call gLawLowest (hr.mono (by decide)) (by rfl) T.m_LawLowest T.f_LawLowest.kp T.b_LawLowest .nil pass0 (pa_cons (pv 3) (pa_cons (pe_callB call_abs (by rfl) T.z_abs (by decide +kernel) (pa_cons (pv 4) pa_nil)) pa_nil))) (pg_tup rfl (pgs_cons (pg_name (i := 3) scLaw.nd rfl (Or.inl rfl)) (pgs_cons (pg_name (i := 4) scLaw.nd rfl (Or.inl rfl)) pgs_nil))))
      (pss_cons (ps_set (i := 5) scLaw.nd rfl (Or.inl rfl) (pe_ifExp (pt_cmpR (op_eq) (pv 4) pe_int (nomark _)) (pe_callTy call_str_int (by rfl) T.z_str (by decide +kernel) (pa_cons (pv 3) pa_nil)) (pe_op op_add_str (pe_op op_add_str (pe_callTy call_str_int (by rfl) T.z_str (by decide +kernel) (pa_cons (pv 3) pa_nil)) pe_str) (pe_callTy call_str_int (by rfl) T.z_str (by decide +kernel) (pa_cons (pv 4) pa_nil)))))
      (pss_cons (ps_set (i := 6) scLaw.nd rfl (Or.inl rfl) (pe_call gLawDraw (hr.mono (by decide)) (by rfl) T.m_LawDraw T.f_LawDraw.kp T.b_LawDraw .nil pass0 (pa_cons (pv 1) (pa_cons (pe_op op_add (pe_callB call_lenS (by rfl) T.z_len (by decide +kernel) (pa_cons (pv 5) pa_nil)) pe_int) pa_nil))))
      (pss_cons (ps_set (i := 7) scLaw.nd rfl (Or.inl rfl) (pe_ix ix_str pe_str (pe_call gLawDraw (hr.mono (by decide)) (by rfl) T.m_LawDraw T.f_LawDraw.kp T.b_LawDraw .nil pass0 (pa_cons (pv 1) (pa_cons pe_int pa_nil))) (fun _ _ => rfl)))
      (pss_cons (ps_set (i := 8) scLaw.nd rfl (Or.inl rfl) (pe_lst (pa_cons (pv 5) (pa_cons (pe_op op_add_str (pe_op op_add_str (pe_slice sl_str (pv 5) po_none (po_some (pv 6))) (pv 7)) (pe_slice sl_str (pv 5) (po_some (pv 6)) po_none)) (pa_cons (pe_op op_add_str (pe_op op_add_str (pe_slice sl_str (pv 5) po_none (po_some (pv 6))) (pv 7)) (pe_slice sl_str (pv 5) (po_some (pe_op op_add (pv 6) pe_int)) po_none)) (pa_cons (pe_op op_add_str (pe_slice sl_str (pv 5) po_none (po_some (pv 6))) (pe_slice sl_str (pv 5) (po_some (pe_op op_add (pv 6) pe_int)) po_none)) pa_nil))))))
      (pss_one (ps_for PassesOwn.never rfl (pi_list (pe_op op_cat (pv 8) (pe_lst (pa_cons (pe_op op_add_str (pe_op op_add_str (pe_callTy call_str_int (by rfl) T.z_str (by decide +kernel) (pa_cons (pe_op op_mulW pe_int (pv 3)) pa_nil)) pe_str) (pe_callTy call_str_int (by rfl) T.z_str (by decide +kernel) (pa_cons (pe_op op_mulW pe_int (pv 4)) pa_nil))) (pa_cons (pe_op op_add_str (pv 5) pe_str) (pa_cons (pv 5) pa_nil)))))) (pg_name (i := 9) scLaw.nd rfl (Or.inl rfl)) (pss_one (ps_if (pt_not (pt_val (pe_callG gLawRight (hr.mono (by decide)) hG (by rfl) T.m_LawRight T.f_LawRight.kp T.b_LawRight pass0 (pa_cons (pv 9) pa_nil)))) (pss_one (ps_ret pe_bl)) pss_nil)))))))))))
      (pss_cons (ps_set (i := 10) scLaw.nd rfl (Or.inl rfl) (pe_op op_mul_str pe_str pe_int))
      (pss_cons (ps_for PassesOwn.never rfl (pi_list (pe_lst (pa_cons (pv 10) (pa_cons (pe_op op_add_str pe_str (pv 10)) (pa_cons (pe_op op_add_str pe_str (pv 10)) (pa_cons (pe_op op_add_str pe_str (pv 10)) (pa_cons (pe_op op_add_str pe_str (pv 10)) (pa_cons pe_str (pa_cons pe_str (pa_cons pe_str (pa_cons pe_str pa_nil))))))))))) (pg_name (i := 5) scLaw.nd rfl (Or.inl rfl)) (pss_one (ps_if (pt_not (pt_val (pe_callG gLawRight (hr.mono (by decide)) hG (by rfl) T.m_LawRight T.f_LawRight.kp T.b_LawRight pass0 (pa_cons (pv 5) pa_nil)))) (pss_one (ps_ret pe_bl)) pss_nil)))
      (pss_cons (ps_for PassesOwn.never rfl (pi_list (pe_lst (pa_cons pe_str (pa_cons pe_str (pa_cons pe_str (pa_cons pe_str (pa_cons pe_str (pa_cons pe_str (pa_cons pe_str (pa_cons pe_str (pa_cons pe_str (pa_cons pe_str (pa_cons pe_str (pa_cons pe_str (pa_cons (pe_op op_add_str pe_str (pe_op op_mul_str pe_str pe_int)) pa_nil))))))))))))))) (pg_name (i := 5) scLaw.nd rfl (Or.inl rfl)) (pss_one (ps_if (pt_not (pt_val (pe_callG gLawRight (hr.mono (by decide)) hG (by rfl) T.m_LawRight T.f_LawRight.kp T.b_LawRight pass0 (pa_cons (pv 5) pa_nil)))) (pss_one (ps_ret pe_bl)) pss_nil)))
      (pss_cons (ps_for PassesOwn.never rfl (pi_list (pe_lst (pa_cons pe_non (pa_cons pe_int (pa_cons pe_bl (pa_cons (pe_tup (pa_cons pe_str pa_nil)) (pa_cons (pe_lst pa_nil) (pa_cons pe_dnewK pa_nil)))))))) (pg_name (i := 11) scLaw.nd rfl (Or.inr rfl)) (pss_one (ps_if (pt_cmpR (op_neSs hr.units) (pe_lamC (k := 6) (by rfl) T.m_LawCaught T.f_LawCaught.kp lk0 cg0 b0 scLawCaught rfl va0 hCaught TB rfl mT0 hu0 (hr.mono (by decide)) (LamX.lamS_by (sc := defScope sLaw) (by decide +kernel)) rfl (fun _ _ _ _ _ => rfl) (fun _ _ _ _ _ _ _ hr _ => (ClX.pe_cmeth (pe_glob (v := .ref A.k_Ratio) (by rfl) T.k_Ratio rfl) T.cr_Ratio T.h_RatioFromText (FnOk.rr gRatioFromText T.b_RatioFromText) (hr.mono (by decide)) (passes_call (takes_of rfl rfl rfl rfl) (fun _ _ _ _ h => h)) (pa_cons (pv 11) pa_nil)))) (pe_lst (pa_cons pe_str (pa_cons (pe_callB (call_reprD hr hG) (by rfl) T.z_repr (by decide +kernel) (pa_cons (pv 11) pa_nil)) pa_nil))) (nomark _)) (pss_one (ps_ret pe_bl)) pss_nil)))
      (pss_one (ps_ret pe_bl)))))))), ?_⟩
    refine ⟨_, rfl, a, ns, rfl, hS, hlen, fun p l H1 hp np nl s1 => ?_⟩
    have w1 : Wt (ts4 A) p l 0 (fun _ => none) H1 := ⟨wd0 hp, hT.ext fun b o h => s1 b o h, fun _ _ z => by cases z⟩
    refine ⟨_, rfl, by decide, by decide, ?_⟩
    have right : ∀ {c : Nat} {G H : Hp} {z : Str} {Q : VK} {E : XK}, Wt (ts4 A) p l c G H → Tx4 z → (∀ H', Wt (ts4 A) p l c G H' → Q (.bl true) H') → spRight4 A [.str z] H Q E := fun hw tz k => ⟨_, rfl, tz, hw.tb, fun H' x => k H' (hw.sx x)⟩
    refine for_go (walk_rangeY (lo := 0) (n := 8)) (LO a p l (ts4 A)) ⟨_, _, _, _, _, _, _, _, 0, rfl, w1, by omega⟩ (fun _ _ _ _ _ => trivial) (fun i x σ H2 hx q => ?_) (fun σ H2 q => ?_)
    · obtain ⟨v2, v3, v4, v5, v6, v7, v8, v9, c, rfl, w2, hc⟩ := q
      obtain ⟨rfl, hi⟩ := rng_item hx
      refine seq_gen fun N eN => ?_
      try simp only [tSeq, tNext, tRet, tRetN, tAsg, gName, gSub, tDrop, tIfS, tOp, tUn, tCB, tCons, tNil, tC, tVar, rI, rI0, rU, tAnd, tOr, tNot, tAndV, tOrV, tNotV, tIf, tTest, tB, tCall, tChain, tLst, tTup, tYes, rIxH, rIsB, rIsBT, rMulS, kd_non, kd_bl, kd_int, kd_str, kd_ref, kdO_lst, kdO_tup, kdO_dK, nq_n, nq_b, nq_i, nq_s, nq_l, nq_t, nq_d, ne_eq, not_false_eq_true, kit_ss, kit_ns, kit_bs, kit_is, kit_ls, kit_ts, kit_ds, kit_bb, V.ty.injEq, and_assoc, rIxU, rLenH, rLenU, rLenS, rInt1, rSetL, rEq, rNe, rCat, L2.start, List.map, List.length, List.length_cons, List.length_nil, List.replicate, List.getElem?_cons_zero, List.getElem?_cons_succ, List.set_cons_zero, List.set_cons_succ, List.set_nil, List.cons_append, List.nil_append, List.append_nil, Option.some.injEq, V.int.injEq, V.ref.injEq, V.str.injEq, V.bl.injEq, HO.lst.injEq, HO.tup.injEq, exists_eq_left', exists_and_left, exists_eq_left, List.cons.injEq, and_true, true_and, and_false, false_and, and_self, reduceCtorEq, exists_false, or_false, false_or, exists_const, at0, at1, at2, at3, at4, at5, ix51, ix52, ix54, upd_same, Nat.reduceAdd, Nat.reduceSub, Nat.zero_add, Int.reduceToNat, Int.reduceLE, Int.reduceLT, decide_eq_true_eq, Bool.not_eq_true, if_true, if_false, Bool.false_eq_true, ite_true, ite_false, Bool.not_true, Bool.not_false, decide_true, decide_false, tFor_eq, tLc_eq, iList, iTup, iRng1, iRng2, iStr, tSl, tPart, tNoPart, rSlL, cxOf_K, wipe, ex_ty2, kit_LTl, kit_LTt, kit_LTd, kit_LTs, kit_LTn, kit_LTb, kit_LTi, tM1, rIxS, exists_eq', lt1p, tDNewK, rSlS, rEqNil]
      refine ⟨p, l, c, rfl, w2.wd.pool, by omega, fun q1 u1 b1 H3 n1 h1 b10 b11 b12 hp3 off3 => ?_⟩
      have w3 := w2.turn hp3 off3
      refine ⟨q1, _, rfl, SqT.of h1, rfl, _, _, rfl, _, _, rfl, rfl, ?_⟩
      rw [eN]
      clear eN N
      refine seq_gen fun N eN => ?_
      try simp only [tSeq, tNext, tRet, tRetN, tAsg, gName, gSub, tDrop, tIfS, tOp, tUn, tCB, tCons, tNil, tC, tVar, rI, rI0, rU, tAnd, tOr, tNot, tAndV, tOrV, tNotV, tIf, tTest, tB, tCall, tChain, tLst, tTup, tYes, rIxH, rIsB, rIsBT, rMulS, kd_non, kd_bl, kd_int, kd_str, kd_ref, kdO_lst, kdO_tup, kdO_dK, nq_n, nq_b, nq_i, nq_s, nq_l, nq_t, nq_d, ne_eq, not_false_eq_true, kit_ss, kit_ns, kit_bs, kit_is, kit_ls, kit_ts, kit_ds, kit_bb, V.ty.injEq, and_assoc, rIxU, rLenH, rLenU, rLenS, rInt1, rSetL, rEq, rNe, rCat, L2.start, List.map, List.length, List.length_cons, List.length_nil, List.replicate, List.getElem?_cons_zero, List.getElem?_cons_succ, List.set_cons_zero, List.set_cons_succ, List.set_nil, List.cons_append, List.nil_append, List.append_nil, Option.some.injEq, V.int.injEq, V.ref.injEq, V.str.injEq, V.bl.injEq, HO.lst.injEq, HO.tup.injEq, exists_eq_left', exists_and_left, exists_eq_left, List.cons.injEq, and_true, true_and, and_false, false_and, and_self, reduceCtorEq, exists_false, or_false, false_or, exists_const, at0, at1, at2, at3, at4, at5, ix51, ix52, ix54, upd_same, Nat.reduceAdd, Nat.reduceSub, Nat.zero_add, Int.reduceToNat, Int.reduceLE, Int.reduceLT, decide_eq_true_eq, Bool.not_eq_true, if_true, if_false, Bool.false_eq_true, ite_true, ite_false, Bool.not_true, Bool.not_false, decide_true, decide_false, tFor_eq, tLc_eq, iList, iTup, iRng1, iRng2, iStr, tSl, tPart, tNoPart, rSlL, cxOf_K, wipe, ex_ty2, kit_LTl, kit_LTt, kit_LTd, kit_LTs, kit_LTn, kit_LTb, kit_LTi, tM1, rIxS, exists_eq', lt1p, tDNewK, rSlS, rEqNil]
      refine ⟨_, _, rfl, by split <;> omega, abs_mono (n := 100) (by split <;> omega) (by decide), ?_⟩
      have bq : Bd 100 (Rat.divInt u1 (if b1 < 0 then -b1 else b1)) := bd_divInt b11 (by split <;> omega) (by split <;> omega)
      generalize Rat.divInt u1 (if b1 < 0 then -b1 else b1) = q at bq ⊢
      intro d1 n_d1; generalize g_H4 : upd H3 d1 _ = H4; obtain ⟨s_H4, h_d1⟩ := new_facts n_d1 g_H4; clear g_H4
      have w4 := w3.same s_H4
      have hd1 : H4 d1 = some (.tup [.int q.num, .int q.den]) := h_d1
      refine ⟨d1, _, rfl, SqT.of hd1, rfl, _, _, rfl, _, _, rfl, rfl, ?_⟩
      rw [eN]
      clear eN N
      have nb : q.num.natAbs < 2 ^ 1900 := abs_mono bq.1 (by decide)
      have db : (q.den : Int).natAbs < 2 ^ 1900 := abs_mono (den_lt bq) (by decide)
      refine join (J := fun σ H => σ = [some (V.ref a), some (V.ref p), some (V.int (0 + (i : Int))), some (V.int q.num), some (V.int q.den), some (.str (ratText q.num q.den)), v6, v7, v8, v9, none, none] ∧ H = H4) (fun σ H ⟨e1, e2⟩ => ?_) (fun N hN => ?_)
      rotate_left
      · have l1 := lg1920 nb
        have l2 := lg1920 db
        unfold ratText at hN
        by_cases h1 : (q.den : Int) = 1
        · try simp only [tSeq, tNext, tRet, tRetN, tAsg, gName, gSub, tDrop, tIfS, tOp, tUn, tCB, tCons, tNil, tC, tVar, rI, rI0, rU, tAnd, tOr, tNot, tAndV, tOrV, tNotV, tIf, tTest, tB, tCall, tChain, tLst, tTup, tYes, rIxH, rIsB, rIsBT, rMulS, kd_non, kd_bl, kd_int, kd_str, kd_ref, kdO_lst, kdO_tup, kdO_dK, nq_n, nq_b, nq_i, nq_s, nq_l, nq_t, nq_d, ne_eq, not_false_eq_true, kit_ss, kit_ns, kit_bs, kit_is, kit_ls, kit_ts, kit_ds, kit_bb, V.ty.injEq, and_assoc, rIxU, rLenH, rLenU, rLenS, rInt1, rSetL, rEq, rNe, rCat, L2.start, List.map, List.length, List.length_cons, List.length_nil, List.replicate, List.getElem?_cons_zero, List.getElem?_cons_succ, List.set_cons_zero, List.set_cons_succ, List.set_nil, List.cons_append, List.nil_append, List.append_nil, Option.some.injEq, V.int.injEq, V.ref.injEq, V.str.injEq, V.bl.injEq, HO.lst.injEq, HO.tup.injEq, exists_eq_left', exists_and_left, exists_eq_left, List.cons.injEq, and_true, true_and, and_false, false_and, and_self, reduceCtorEq, exists_false, or_false, false_or, exists_const, at0, at1, at2, at3, at4, at5, ix51, ix52, ix54, upd_same, Nat.reduceAdd, Nat.reduceSub, Nat.zero_add, Int.reduceToNat, Int.reduceLE, Int.reduceLT, decide_eq_true_eq, Bool.not_eq_true, if_true, if_false, Bool.false_eq_true, ite_true, ite_false, Bool.not_true, Bool.not_false, decide_true, decide_false, tFor_eq, tLc_eq, iList, iTup, iRng1, iRng2, iStr, tSl, tPart, tNoPart, rSlL, cxOf_K, wipe, ex_ty2, kit_LTl, kit_LTt, kit_LTd, kit_LTs, kit_LTn, kit_LTb, kit_LTi, tM1, rIxS, exists_eq', lt1p, tDNewK, rSlS, rEqNil, scal_int, h1, l1]
          exact hN _ _ ⟨by rw [if_pos h1, h1], rfl⟩
        · try simp only [tSeq, tNext, tRet, tRetN, tAsg, gName, gSub, tDrop, tIfS, tOp, tUn, tCB, tCons, tNil, tC, tVar, rI, rI0, rU, tAnd, tOr, tNot, tAndV, tOrV, tNotV, tIf, tTest, tB, tCall, tChain, tLst, tTup, tYes, rIxH, rIsB, rIsBT, rMulS, kd_non, kd_bl, kd_int, kd_str, kd_ref, kdO_lst, kdO_tup, kdO_dK, nq_n, nq_b, nq_i, nq_s, nq_l, nq_t, nq_d, ne_eq, not_false_eq_true, kit_ss, kit_ns, kit_bs, kit_is, kit_ls, kit_ts, kit_ds, kit_bb, V.ty.injEq, and_assoc, rIxU, rLenH, rLenU, rLenS, rInt1, rSetL, rEq, rNe, rCat, L2.start, List.map, List.length, List.length_cons, List.length_nil, List.replicate, List.getElem?_cons_zero, List.getElem?_cons_succ, List.set_cons_zero, List.set_cons_succ, List.set_nil, List.cons_append, List.nil_append, List.append_nil, Option.some.injEq, V.int.injEq, V.ref.injEq, V.str.injEq, V.bl.injEq, HO.lst.injEq, HO.tup.injEq, exists_eq_left', exists_and_left, exists_eq_left, List.cons.injEq, and_true, true_and, and_false, false_and, and_self, reduceCtorEq, exists_false, or_false, false_or, exists_const, at0, at1, at2, at3, at4, at5, ix51, ix52, ix54, upd_same, Nat.reduceAdd, Nat.reduceSub, Nat.zero_add, Int.reduceToNat, Int.reduceLE, Int.reduceLT, decide_eq_true_eq, Bool.not_eq_true, if_true, if_false, Bool.false_eq_true, ite_true, ite_false, Bool.not_true, Bool.not_false, decide_true, decide_false, tFor_eq, tLc_eq, iList, iTup, iRng1, iRng2, iStr, tSl, tPart, tNoPart, rSlL, cxOf_K, wipe, ex_ty2, kit_LTl, kit_LTt, kit_LTd, kit_LTs, kit_LTn, kit_LTb, kit_LTi, tM1, rIxS, exists_eq', lt1p, tDNewK, rSlS, rEqNil, scal_int, h1, l1, l2]
          have z := slash_ok nb db
          exact ⟨z.1, z.2, hN _ _ ⟨by rw [if_neg h1], rfl⟩⟩
      subst e1 e2
      have tx := ratT_txn nb db
      generalize ratText q.num q.den = tt at tx
      have tsz := tx.sz (by decide)
      have tl : (0 : Int) < (tt.length : Int) + 1 ∧ (tt.length : Int) + 1 < 1000000000000000000000000000000000000000 := by have := tx.1; omega
      refine seq_gen fun N eN => ?_
      try simp only [tSeq, tNext, tRet, tRetN, tAsg, gName, gSub, tDrop, tIfS, tOp, tUn, tCB, tCons, tNil, tC, tVar, rI, rI0, rU, tAnd, tOr, tNot, tAndV, tOrV, tNotV, tIf, tTest, tB, tCall, tChain, tLst, tTup, tYes, rIxH, rIsB, rIsBT, rMulS, kd_non, kd_bl, kd_int, kd_str, kd_ref, kdO_lst, kdO_tup, kdO_dK, nq_n, nq_b, nq_i, nq_s, nq_l, nq_t, nq_d, ne_eq, not_false_eq_true, kit_ss, kit_ns, kit_bs, kit_is, kit_ls, kit_ts, kit_ds, kit_bb, V.ty.injEq, and_assoc, rIxU, rLenH, rLenU, rLenS, rInt1, rSetL, rEq, rNe, rCat, L2.start, List.map, List.length, List.length_cons, List.length_nil, List.replicate, List.getElem?_cons_zero, List.getElem?_cons_succ, List.set_cons_zero, List.set_cons_succ, List.set_nil, List.cons_append, List.nil_append, List.append_nil, Option.some.injEq, V.int.injEq, V.ref.injEq, V.str.injEq, V.bl.injEq, HO.lst.injEq, HO.tup.injEq, exists_eq_left', exists_and_left, exists_eq_left, List.cons.injEq, and_true, true_and, and_false, false_and, and_self, reduceCtorEq, exists_false, or_false, false_or, exists_const, at0, at1, at2, at3, at4, at5, ix51, ix52, ix54, upd_same, Nat.reduceAdd, Nat.reduceSub, Nat.zero_add, Int.reduceToNat, Int.reduceLE, Int.reduceLT, decide_eq_true_eq, Bool.not_eq_true, if_true, if_false, Bool.false_eq_true, ite_true, ite_false, Bool.not_true, Bool.not_false, decide_true, decide_false, tFor_eq, tLc_eq, iList, iTup, iRng1, iRng2, iStr, tSl, tPart, tNoPart, rSlL, cxOf_K, wipe, ex_ty2, kit_LTl, kit_LTt, kit_LTd, kit_LTs, kit_LTn, kit_LTb, kit_LTi, tM1, rIxS, exists_eq', lt1p, tDNewK, rSlS, rEqNil]
      refine ⟨tsz, p, l, _, _, rfl, tl.1, tl.2, w4.wd.pool, by omega, fun ax H5 a50 a51 hp5 off5 => ?_⟩
      have w5 := w4.turn hp5 (Off.s off5)
      (try dsimp only); rw [eN]; clear eN N
      refine seq_gen fun N eN => ?_
      try simp only [tSeq, tNext, tRet, tRetN, tAsg, gName, gSub, tDrop, tIfS, tOp, tUn, tCB, tCons, tNil, tC, tVar, rI, rI0, rU, tAnd, tOr, tNot, tAndV, tOrV, tNotV, tIf, tTest, tB, tCall, tChain, tLst, tTup, tYes, rIxH, rIsB, rIsBT, rMulS, kd_non, kd_bl, kd_int, kd_str, kd_ref, kdO_lst, kdO_tup, kdO_dK, nq_n, nq_b, nq_i, nq_s, nq_l, nq_t, nq_d, ne_eq, not_false_eq_true, kit_ss, kit_ns, kit_bs, kit_is, kit_ls, kit_ts, kit_ds, kit_bb, V.ty.injEq, and_assoc, rIxU, rLenH, rLenU, rLenS, rInt1, rSetL, rEq, rNe, rCat, L2.start, List.map, List.length, List.length_cons, List.length_nil, List.replicate, List.getElem?_cons_zero, List.getElem?_cons_succ, List.set_cons_zero, List.set_cons_succ, List.set_nil, List.cons_append, List.nil_append, List.append_nil, Option.some.injEq, V.int.injEq, V.ref.injEq, V.str.injEq, V.bl.injEq, HO.lst.injEq, HO.tup.injEq, exists_eq_left', exists_and_left, exists_eq_left, List.cons.injEq, and_true, true_and, and_false, false_and, and_self, reduceCtorEq, exists_false, or_false, false_or, exists_const, at0, at1, at2, at3, at4, at5, ix51, ix52, ix54, upd_same, Nat.reduceAdd, Nat.reduceSub, Nat.zero_add, Int.reduceToNat, Int.reduceLE, Int.reduceLT, decide_eq_true_eq, Bool.not_eq_true, if_true, if_false, Bool.false_eq_true, ite_true, ite_false, Bool.not_true, Bool.not_false, decide_true, decide_false, tFor_eq, tLc_eq, iList, iTup, iRng1, iRng2, iStr, tSl, tPart, tNoPart, rSlL, cxOf_K, wipe, ex_ty2, kit_LTl, kit_LTt, kit_LTd, kit_LTs, kit_LTn, kit_LTb, kit_LTi, tM1, rIxS, exists_eq', lt1p, tDNewK, rSlS, rEqNil]
      refine ⟨p, l, 16, _, rfl, by decide, by decide, w5.wd.pool, by omega, fun sg6 H6 s60 s61 hp6 off6 => ?_⟩
      have w6 := w5.turn hp6 (Off.s off6)
      have sl : (Str.ofString "0123456789-/ +.a").cps.toList.length = 16 := by decide +kernel
      have sa : (Str.ofString "0123456789-/ +.a").cps.toList.all (fun c => decide (c < 128)) = true := by decide +kernel
      obtain ⟨d, hd, hm, _⟩ := atI_ex (xs := (Str.ofString "0123456789-/ +.a").cps.toList) (i := sg6) s60 (by rw [sl]; exact s61)
      refine ⟨_, rfl, by decide +kernel, d, hd, ?_⟩
      have dx : TxN 1 ⟨#[d]⟩ := ⟨Nat.le_refl 1, fun c hc => by
        have e : c = d := by simpa using hc
        rw [e]
        exact of_decide_eq_true (List.all_eq_true.mp sa d hm)⟩
      generalize (⟨#[d]⟩ : Str) = S at dx
      clear hd hm sa sl
      (try dsimp only); rw [eN]; clear eN N
      have c1 := tx.cut (lo := none) (hi := some ax)
      have c2 := tx.cut (lo := some ax) (hi := none)
      have c3 := tx.cut (lo := some (ax + 1)) (hi := none)
      have b1 := c1.app dx
      have b2 := b1.app c2
      have b3 := b1.app c3
      have b4 := c1.app c3
      refine seq_gen fun N eN => ?_
      try simp only [tSeq, tNext, tRet, tRetN, tAsg, gName, gSub, tDrop, tIfS, tOp, tUn, tCB, tCons, tNil, tC, tVar, rI, rI0, rU, tAnd, tOr, tNot, tAndV, tOrV, tNotV, tIf, tTest, tB, tCall, tChain, tLst, tTup, tYes, rIxH, rIsB, rIsBT, rMulS, kd_non, kd_bl, kd_int, kd_str, kd_ref, kdO_lst, kdO_tup, kdO_dK, nq_n, nq_b, nq_i, nq_s, nq_l, nq_t, nq_d, ne_eq, not_false_eq_true, kit_ss, kit_ns, kit_bs, kit_is, kit_ls, kit_ts, kit_ds, kit_bb, V.ty.injEq, and_assoc, rIxU, rLenH, rLenU, rLenS, rInt1, rSetL, rEq, rNe, rCat, L2.start, List.map, List.length, List.length_cons, List.length_nil, List.replicate, List.getElem?_cons_zero, List.getElem?_cons_succ, List.set_cons_zero, List.set_cons_succ, List.set_nil, List.cons_append, List.nil_append, List.append_nil, Option.some.injEq, V.int.injEq, V.ref.injEq, V.str.injEq, V.bl.injEq, HO.lst.injEq, HO.tup.injEq, exists_eq_left', exists_and_left, exists_eq_left, List.cons.injEq, and_true, true_and, and_false, false_and, and_self, reduceCtorEq, exists_false, or_false, false_or, exists_const, at0, at1, at2, at3, at4, at5, ix51, ix52, ix54, upd_same, Nat.reduceAdd, Nat.reduceSub, Nat.zero_add, Int.reduceToNat, Int.reduceLE, Int.reduceLT, decide_eq_true_eq, Bool.not_eq_true, if_true, if_false, Bool.false_eq_true, ite_true, ite_false, Bool.not_true, Bool.not_false, decide_true, decide_false, tFor_eq, tLc_eq, iList, iTup, iRng1, iRng2, iStr, tSl, tPart, tNoPart, rSlL, cxOf_K, wipe, ex_ty2, kit_LTl, kit_LTt, kit_LTd, kit_LTs, kit_LTn, kit_LTb, kit_LTi, tM1, rIxS, exists_eq', lt1p, tDNewK, rSlS, rEqNil]
      refine ⟨tsz, c1.sz2 dx (by decide), tsz, b1.sz2 c2 (by decide), tsz, c1.sz2 dx (by decide), tsz, b1.sz2 c3 (by decide), tsz, tsz, c1.sz2 c3 (by decide), by decide, ?_⟩
      intro L n_L; generalize g_H7 : upd H6 L _ = H7; obtain ⟨s_H7, h_L⟩ := new_facts n_L g_H7; clear g_H7
      have w7 := w6.same s_H7
      (try dsimp only); rw [eN]; clear eN N
      have num2 : ∀ {v : Int}, v.natAbs < 2 ^ 100 → CMulW 2 v ∧ (2 * v).natAbs < 2 ^ 1900 := fun {v} h => ⟨mulw (n := 2) (m := 100) (by decide) h (by decide), by
        have e2 : (2 : Nat) ^ 101 = 2 * 2 ^ 100 := by decide
        exact abs_mono (n := 101) (by rw [Int.natAbs_mul, e2]; show 2 * v.natAbs < _; omega) (by decide)⟩
      obtain ⟨m1, n1'⟩ := num2 bq.1
      obtain ⟨m2, n2'⟩ := num2 (den_lt bq)
      have t1 := txn_num n1'
      have t2 := txn_num n2'
      have lg1 := lg1920 n1'
      have lg2 := lg1920 n2'
      have sls : TxN 1 (Str.ofString "/") := TxN.of (by decide +kernel)
      have nl : TxN 1 (Str.ofString "\n") := TxN.of (by decide +kernel)
      have g1 := t1.app sls
      have g2 := g1.app t2
      have g3 := tx.app nl
      try simp only [tSeq, tNext, tRet, tRetN, tAsg, gName, gSub, tDrop, tIfS, tOp, tUn, tCB, tCons, tNil, tC, tVar, rI, rI0, rU, tAnd, tOr, tNot, tAndV, tOrV, tNotV, tIf, tTest, tB, tCall, tChain, tLst, tTup, tYes, rIxH, rIsB, rIsBT, rMulS, kd_non, kd_bl, kd_int, kd_str, kd_ref, kdO_lst, kdO_tup, kdO_dK, nq_n, nq_b, nq_i, nq_s, nq_l, nq_t, nq_d, ne_eq, not_false_eq_true, kit_ss, kit_ns, kit_bs, kit_is, kit_ls, kit_ts, kit_ds, kit_bb, V.ty.injEq, and_assoc, rIxU, rLenH, rLenU, rLenS, rInt1, rSetL, rEq, rNe, rCat, L2.start, List.map, List.length, List.length_cons, List.length_nil, List.replicate, List.getElem?_cons_zero, List.getElem?_cons_succ, List.set_cons_zero, List.set_cons_succ, List.set_nil, List.cons_append, List.nil_append, List.append_nil, Option.some.injEq, V.int.injEq, V.ref.injEq, V.str.injEq, V.bl.injEq, HO.lst.injEq, HO.tup.injEq, exists_eq_left', exists_and_left, exists_eq_left, List.cons.injEq, and_true, true_and, and_false, false_and, and_self, reduceCtorEq, exists_false, or_false, false_or, exists_const, at0, at1, at2, at3, at4, at5, ix51, ix52, ix54, upd_same, Nat.reduceAdd, Nat.reduceSub, Nat.zero_add, Int.reduceToNat, Int.reduceLE, Int.reduceLT, decide_eq_true_eq, Bool.not_eq_true, if_true, if_false, Bool.false_eq_true, ite_true, ite_false, Bool.not_true, Bool.not_false, decide_true, decide_false, tFor_eq, tLc_eq, iList, iTup, iRng1, iRng2, iStr, tSl, tPart, tNoPart, rSlL, cxOf_K, wipe, ex_ty2, kit_LTl, kit_LTt, kit_LTd, kit_LTs, kit_LTn, kit_LTb, kit_LTi, tM1, rIxS, exists_eq', lt1p, tDNewK, rSlS, rEqNil, m1, m2, lg1, lg2]
      refine ⟨t1.sz2 sls (by decide), g1.sz2 t2 (by decide), tx.sz2 nl (by decide), by decide, ?_⟩
      intro L2 n_L2; generalize g_H8 : upd H7 L2 _ = H8; obtain ⟨s_H8, h_L2⟩ := new_facts n_L2 g_H8; clear g_H8
      have w8 := w7.same s_H8
      refine ⟨_, s_H8 _ _ h_L, (by show 7 ≤ sizeLine; decide), ?_⟩
      intro L3 n_L3; generalize g_H9 : upd H8 L3 _ = H9; obtain ⟨s_H9, h_L3⟩ := new_facts n_L3 g_H9; clear g_H9
      obtain ⟨G9, w9, g9, f9⟩ := w8.alloc n_L3 s_H9 h_L3
      obtain ⟨txs, etx⟩ : ∃ txs : List Str, txs = [tt, cutS tt none (some ax) ++ S ++ cutS tt (some ax) none, cutS tt none (some ax) ++ S ++ cutS tt (some (ax + 1)) none, cutS tt none (some ax) ++ cutS tt (some (ax + 1)) none, Str.ofString (toString (2 * q.num)) ++ Str.ofString "/" ++ Str.ofString (toString (2 * (q.den : Int))), tt ++ Str.ofString "\n", tt] := ⟨_, rfl⟩
      have hb : ∀ z ∈ txs, Tx4 z := by
        intro z hz
        rw [etx] at hz
        simp only [List.mem_cons, List.not_mem_nil, or_false] at hz
        rcases hz with rfl | rfl | rfl | rfl | rfl | rfl | rfl
        · exact tx.t4 (by decide)
        · exact b2.t4 (by decide)
        · exact b3.t4 (by decide)
        · exact b4.t4 (by decide)
        · exact g2.t4 (by decide)
        · exact g3.t4 (by decide)
        · exact tx.t4 (by decide)
      have hL3 : G9 L3 = some (.lst (txs.map V.str)) := by rw [etx]; exact f9
      have ll : txs.length ≤ 1000 := by rw [etx]; simp only [List.length_cons, List.length_nil]; decide
      clear h_L3 etx f9
      refine ⟨⟨_, SqL.of (w9.wd.kn _ _ hL3)⟩, txt_loop w9 hL3 hb ll rfl fun v H10 w10 => ?_⟩
      exact ⟨_, _, _, _, _, _, _, _, _, rfl, w10.forget g9, by omega⟩
    · obtain ⟨v2, v3, v4, v5, v6, v7, v8, v9, c, rfl, w2, hc⟩ := q
      dsimp only
      refine seq_gen fun N eN => ?_
      try simp only [tSeq, tNext, tRet, tRetN, tAsg, gName, gSub, tDrop, tIfS, tOp, tUn, tCB, tCons, tNil, tC, tVar, rI, rI0, rU, tAnd, tOr, tNot, tAndV, tOrV, tNotV, tIf, tTest, tB, tCall, tChain, tLst, tTup, tYes, rIxH, rIsB, rIsBT, rMulS, kd_non, kd_bl, kd_int, kd_str, kd_ref, kdO_lst, kdO_tup, kdO_dK, nq_n, nq_b, nq_i, nq_s, nq_l, nq_t, nq_d, ne_eq, not_false_eq_true, kit_ss, kit_ns, kit_bs, kit_is, kit_ls, kit_ts, kit_ds, kit_bb, V.ty.injEq, and_assoc, rIxU, rLenH, rLenU, rLenS, rInt1, rSetL, rEq, rNe, rCat, L2.start, List.map, List.length, List.length_cons, List.length_nil, List.replicate, List.getElem?_cons_zero, List.getElem?_cons_succ, List.set_cons_zero, List.set_cons_succ, List.set_nil, List.cons_append, List.nil_append, List.append_nil, Option.some.injEq, V.int.injEq, V.ref.injEq, V.str.injEq, V.bl.injEq, HO.lst.injEq, HO.tup.injEq, exists_eq_left', exists_and_left, exists_eq_left, List.cons.injEq, and_true, true_and, and_false, false_and, and_self, reduceCtorEq, exists_false, or_false, false_or, exists_const, at0, at1, at2, at3, at4, at5, ix51, ix52, ix54, upd_same, Nat.reduceAdd, Nat.reduceSub, Nat.zero_add, Int.reduceToNat, Int.reduceLE, Int.reduceLT, decide_eq_true_eq, Bool.not_eq_true, if_true, if_false, Bool.false_eq_true, ite_true, ite_false, Bool.not_true, Bool.not_false, decide_true, decide_false, tFor_eq, tLc_eq, iList, iTup, iRng1, iRng2, iStr, tSl, tPart, tNoPart, rSlL, cxOf_K, wipe, ex_ty2, kit_LTl, kit_LTt, kit_LTd, kit_LTs, kit_LTn, kit_LTb, kit_LTi, tM1, rIxS, exists_eq', lt1p, tDNewK, rSlS, rEqNil, rMulS]
      refine ⟨PyProof.Rows.mulOk_of 1 200 (by decide) (by decide) (by decide) (by decide) (by decide), ?_⟩
      (try dsimp only); rw [eN]; clear eN N
      have n9 : TxN 200 (Txt.mul (Str.ofString "9") 200) := TxN.of (by decide +kernel)
      generalize Txt.mul (Str.ofString "9") 200 = nn at n9
      have q1 : TxN 1 (Str.ofString "1") := TxN.of (by decide +kernel)
      have q2 : TxN 1 (Str.ofString "-") := TxN.of (by decide +kernel)
      have q3 : TxN 2 (Str.ofString "1/") := TxN.of (by decide +kernel)
      have q4 : TxN 3 (Str.ofString "1/1") := TxN.of (by decide +kernel)
      refine seq_gen fun N eN => ?_
      try simp only [tSeq, tNext, tRet, tRetN, tAsg, gName, gSub, tDrop, tIfS, tOp, tUn, tCB, tCons, tNil, tC, tVar, rI, rI0, rU, tAnd, tOr, tNot, tAndV, tOrV, tNotV, tIf, tTest, tB, tCall, tChain, tLst, tTup, tYes, rIxH, rIsB, rIsBT, rMulS, kd_non, kd_bl, kd_int, kd_str, kd_ref, kdO_lst, kdO_tup, kdO_dK, nq_n, nq_b, nq_i, nq_s, nq_l, nq_t, nq_d, ne_eq, not_false_eq_true, kit_ss, kit_ns, kit_bs, kit_is, kit_ls, kit_ts, kit_ds, kit_bb, V.ty.injEq, and_assoc, rIxU, rLenH, rLenU, rLenS, rInt1, rSetL, rEq, rNe, rCat, L2.start, List.map, List.length, List.length_cons, List.length_nil, List.replicate, List.getElem?_cons_zero, List.getElem?_cons_succ, List.set_cons_zero, List.set_cons_succ, List.set_nil, List.cons_append, List.nil_append, List.append_nil, Option.some.injEq, V.int.injEq, V.ref.injEq, V.str.injEq, V.bl.injEq, HO.lst.injEq, HO.tup.injEq, exists_eq_left', exists_and_left, exists_eq_left, List.cons.injEq, and_true, true_and, and_false, false_and, and_self, reduceCtorEq, exists_false, or_false, false_or, exists_const, at0, at1, at2, at3, at4, at5, ix51, ix52, ix54, upd_same, Nat.reduceAdd, Nat.reduceSub, Nat.zero_add, Int.reduceToNat, Int.reduceLE, Int.reduceLT, decide_eq_true_eq, Bool.not_eq_true, if_true, if_false, Bool.false_eq_true, ite_true, ite_false, Bool.not_true, Bool.not_false, decide_true, decide_false, tFor_eq, tLc_eq, iList, iTup, iRng1, iRng2, iStr, tSl, tPart, tNoPart, rSlL, cxOf_K, wipe, ex_ty2, kit_LTl, kit_LTt, kit_LTd, kit_LTs, kit_LTn, kit_LTb, kit_LTi, tM1, rIxS, exists_eq', lt1p, tDNewK, rSlS, rEqNil]
      refine ⟨q1.sz2 n9 (by decide), q2.sz2 n9 (by decide), q3.sz2 n9 (by decide), q4.sz2 n9 (by decide), by decide, ?_⟩
      intro L3 n_L3; generalize g_H3 : upd H2 L3 _ = H3; obtain ⟨s_H3, h_L3⟩ := new_facts n_L3 g_H3; clear g_H3
      obtain ⟨G3, w3, g3, f3⟩ := w2.alloc n_L3 s_H3 h_L3
      refine ⟨⟨_, SqL.of h_L3⟩, ?_⟩
      refine txt_loop (txs := [nn, Str.ofString "1" ++ nn, Str.ofString "-" ++ nn, Str.ofString "1/" ++ nn, Str.ofString "1/1" ++ nn, Str.ofString "1/0", Str.ofString "1/-2", Str.ofString "-0", Str.ofString "0/2"]) w3 f3 (fun z hz => ?_) (by simp) rfl fun v H4 w4 => ?_
      · simp only [List.mem_cons, List.not_mem_nil, or_false] at hz
        rcases hz with rfl | rfl | rfl | rfl | rfl | rfl | rfl | rfl | rfl
        · exact n9.t4 (by decide)
        · exact (q1.app n9).t4 (by decide)
        · exact (q2.app n9).t4 (by decide)
        · exact (q3.app n9).t4 (by decide)
        · exact (q4.app n9).t4 (by decide)
        · exact (TxN.of (n := 10) (by decide +kernel)).t4 (by decide)
        · exact (TxN.of (n := 10) (by decide +kernel)).t4 (by decide)
        · exact (TxN.of (n := 10) (by decide +kernel)).t4 (by decide)
        · exact (TxN.of (n := 10) (by decide +kernel)).t4 (by decide)
      (try dsimp only); rw [eN]; clear eN N
      clear n9 q1 q2 q3 q4
      replace w4 := w4.forget g3
      refine seq_gen fun N eN => ?_
      try simp only [tSeq, tNext, tRet, tRetN, tAsg, gName, gSub, tDrop, tIfS, tOp, tUn, tCB, tCons, tNil, tC, tVar, rI, rI0, rU, tAnd, tOr, tNot, tAndV, tOrV, tNotV, tIf, tTest, tB, tCall, tChain, tLst, tTup, tYes, rIxH, rIsB, rIsBT, rMulS, kd_non, kd_bl, kd_int, kd_str, kd_ref, kdO_lst, kdO_tup, kdO_dK, nq_n, nq_b, nq_i, nq_s, nq_l, nq_t, nq_d, ne_eq, not_false_eq_true, kit_ss, kit_ns, kit_bs, kit_is, kit_ls, kit_ts, kit_ds, kit_bb, V.ty.injEq, and_assoc, rIxU, rLenH, rLenU, rLenS, rInt1, rSetL, rEq, rNe, rCat, L2.start, List.map, List.length, List.length_cons, List.length_nil, List.replicate, List.getElem?_cons_zero, List.getElem?_cons_succ, List.set_cons_zero, List.set_cons_succ, List.set_nil, List.cons_append, List.nil_append, List.append_nil, Option.some.injEq, V.int.injEq, V.ref.injEq, V.str.injEq, V.bl.injEq, HO.lst.injEq, HO.tup.injEq, exists_eq_left', exists_and_left, exists_eq_left, List.cons.injEq, and_true, true_and, and_false, false_and, and_self, reduceCtorEq, exists_false, or_false, false_or, exists_const, at0, at1, at2, at3, at4, at5, ix51, ix52, ix54, upd_same, Nat.reduceAdd, Nat.reduceSub, Nat.zero_add, Int.reduceToNat, Int.reduceLE, Int.reduceLT, decide_eq_true_eq, Bool.not_eq_true, if_true, if_false, Bool.false_eq_true, ite_true, ite_false, Bool.not_true, Bool.not_false, decide_true, decide_false, tFor_eq, tLc_eq, iList, iTup, iRng1, iRng2, iStr, tSl, tPart, tNoPart, rSlL, cxOf_K, wipe, ex_ty2, kit_LTl, kit_LTt, kit_LTd, kit_LTs, kit_LTn, kit_LTb, kit_LTi, tM1, rIxS, exists_eq', lt1p, tDNewK, rSlS, rEqNil, rMulS]
      have z5 : TxN 5000 (Txt.mul (Str.ofString "0") 5000) := TxN.of (by decide +kernel)
      have q1 : TxN 1 (Str.ofString "1") := TxN.of (by decide +kernel)
      refine ⟨PyProof.Rows.mulOk_of 1 5000 (by decide) (by decide) (by decide) (by decide) (by decide), q1.sz2 z5 (by decide), by decide, ?_⟩
      generalize Txt.mul (Str.ofString "0") 5000 = nz at z5
      intro L5 n_L5; generalize g_H5 : upd H4 L5 _ = H5; obtain ⟨s_H5, h_L5⟩ := new_facts n_L5 g_H5; clear g_H5
      obtain ⟨G5, w5, g5, f5⟩ := w4.alloc n_L5 s_H5 h_L5
      refine ⟨⟨_, SqL.of h_L5⟩, ?_⟩
      refine txt_loop (txs := [Str.ofString "", Str.ofString "/", Str.ofString "-", Str.ofString "1/-0", Str.ofString "1/1", Str.ofString "00", Str.ofString "--1", Str.ofString "1/2/3", Str.ofString "0", Str.ofString "-1/2", Str.ofString "1/", Str.ofString "/2", Str.ofString "1" ++ nz]) w5 f5 (fun z hz => ?_) (by simp) rfl fun v H6 w6 => ?_
      · simp only [List.mem_cons, List.not_mem_nil, or_false] at hz
        rcases hz with rfl | rfl | rfl | rfl | rfl | rfl | rfl | rfl | rfl | rfl | rfl | rfl | rfl
        all_goals first
          | exact (q1.app z5).t4 (by decide)
          | exact (TxN.of (n := 10) (by decide +kernel)).t4 (by decide)
      (try dsimp only); rw [eN]; clear eN N
      clear z5 q1
      replace w6 := w6.forget g5
      try simp only [tSeq, tNext, tRet, tRetN, tAsg, gName, gSub, tDrop, tIfS, tOp, tUn, tCB, tCons, tNil, tC, tVar, rI, rI0, rU, tAnd, tOr, tNot, tAndV, tOrV, tNotV, tIf, tTest, tB, tCall, tChain, tLst, tTup, tYes, rIxH, rIsB, rIsBT, rMulS, kd_non, kd_bl, kd_int, kd_str, kd_ref, kdO_lst, kdO_tup, kdO_dK, nq_n, nq_b, nq_i, nq_s, nq_l, nq_t, nq_d, ne_eq, not_false_eq_true, kit_ss, kit_ns, kit_bs, kit_is, kit_ls, kit_ts, kit_ds, kit_bb, V.ty.injEq, and_assoc, rIxU, rLenH, rLenU, rLenS, rInt1, rSetL, rEq, rNe, rCat, L2.start, List.map, List.length, List.length_cons, List.length_nil, List.replicate, List.getElem?_cons_zero, List.getElem?_cons_succ, List.set_cons_zero, List.set_cons_succ, List.set_nil, List.cons_append, List.nil_append, List.append_nil, Option.some.injEq, V.int.injEq, V.ref.injEq, V.str.injEq, V.bl.injEq, HO.lst.injEq, HO.tup.injEq, exists_eq_left', exists_and_left, exists_eq_left, List.cons.injEq, and_true, true_and, and_false, false_and, and_self, reduceCtorEq, exists_false, or_false, false_or, exists_const, at0, at1, at2, at3, at4, at5, ix51, ix52, ix54, upd_same, Nat.reduceAdd, Nat.reduceSub, Nat.zero_add, Int.reduceToNat, Int.reduceLE, Int.reduceLT, decide_eq_true_eq, Bool.not_eq_true, if_true, if_false, Bool.false_eq_true, ite_true, ite_false, Bool.not_true, Bool.not_false, decide_true, decide_false, tFor_eq, tLc_eq, iList, iTup, iRng1, iRng2, iStr, tSl, tPart, tNoPart, rSlL, cxOf_K, wipe, ex_ty2, kit_LTl, kit_LTt, kit_LTd, kit_LTs, kit_LTn, kit_LTb, kit_LTi, tM1, rIxS, exists_eq', lt1p, tDNewK, rSlS, rEqNil]
      refine ⟨by decide, ?_⟩
      intro p1 n_p1; generalize g_H7 : upd H6 p1 _ = H7; obtain ⟨s_H7, h_p1⟩ := new_facts n_p1 g_H7; clear g_H7
      refine ⟨by decide, ?_⟩
      intro p2 n_p2; generalize g_H8 : upd H7 p2 _ = H8; obtain ⟨s_H8, h_p2⟩ := new_facts n_p2 g_H8; clear g_H8
      intro p3 n_p3; generalize g_H9 : upd H8 p3 _ = H9; obtain ⟨s_H9, h_p3⟩ := new_facts n_p3 g_H9; clear g_H9
      refine ⟨by decide, ?_⟩
      intro p4 n_p4; generalize g_H10 : upd H9 p4 _ = H10; obtain ⟨s_H10, h_p4⟩ := new_facts n_p4 g_H10; clear g_H10
      obtain ⟨G7, w7, g7, f7⟩ := w6.alloc n_p1 s_H7 h_p1
      obtain ⟨G8, w8, g8, f8⟩ := w7.alloc n_p2 s_H8 h_p2
      obtain ⟨G9, w9, g9, f9⟩ := w8.alloc n_p3 s_H9 h_p3
      obtain ⟨G10, w10, g10, f10⟩ := w9.alloc n_p4 s_H10 h_p4
      have e1 := g10 _ _ (g9 _ _ (g8 _ _ f7))
      have e2 := g10 _ _ (g9 _ _ f8)
      have e3 := g10 _ _ f9
      have odd : ∀ v ∈ [V.non, V.int 1, V.bl true, V.ref p1, V.ref p2, V.ref p3], (∃ dt, OddAt K G10 v dt) ∧ ∃ t, tyV G10 v = some t ∧ (∀ C, t = .ref C → TyF K C) ∧ PySem.W.kitOne K t (.type "str") = some false := by
        intro v hv
        simp only [List.mem_cons, List.not_mem_nil, or_false] at hv
        rcases hv with rfl | rfl | rfl | rfl | rfl | rfl
        · exact ⟨⟨_, .inl ⟨.non, rfl⟩, by decide +kernel, by decide +kernel, by decide⟩, _, rfl, fun C z => (by cases z), kit_ty (by decide +kernel)⟩
        · exact ⟨⟨.int 1, .inl ⟨.int _, rfl⟩, by decide +kernel, by decide +kernel, by decide⟩, _, rfl, fun C z => (by cases z), kit_ty (by decide +kernel)⟩
        · exact ⟨⟨_, .inl ⟨.bl _, rfl⟩, by decide +kernel, by decide +kernel, by decide⟩, _, rfl, fun C z => (by cases z), kit_ty (by decide +kernel)⟩
        · exact ⟨⟨.tuple [.str "1"], .inl ⟨.tup (SqT.of e1) (.cons (.str _) .nil), rfl⟩, by decide +kernel, by decide +kernel, by decide +kernel⟩, .type "tuple", by rw [tyV_ref, e1]; rfl, fun C z => (by cases z), kit_ty (by decide +kernel)⟩
        · exact ⟨⟨.list [], .inl ⟨.lst (SqL.of e2) .nil, rfl⟩, by decide +kernel, by decide +kernel, by decide +kernel⟩, .type "list", by rw [tyV_ref, e2]; rfl, fun C z => (by cases z), kit_ty (by decide +kernel)⟩
        · exact ⟨⟨.dict [], .inr ⟨p3, rfl, e3, rfl⟩, by decide +kernel, by decide +kernel, by decide +kernel⟩, .type "dict", by rw [tyV_ref, e3]; rfl, fun C z => (by cases z), kit_ty (by decide +kernel)⟩
      generalize [V.non, V.int 1, V.bl true, V.ref p1, V.ref p2, V.ref p3] = os at odd h_p4 f10
      refine ⟨⟨_, SqL.of h_p4⟩, for_go (walk_list (K := K) (a := p4) (xs := os)) (fun i σ H' => (∃ v11, σ = [some (V.ref a), some (V.ref p), v2, v3, v4, v, v6, v7, v8, v9, some (V.str nn), v11]) ∧ Wt (ts4 A) p l c G10 H') ⟨⟨_, rfl⟩, w10⟩ (fun i σ H' _ q => SqL.of (q.2.wd.kn _ _ f10)) (fun i x σ H' hx q => ?_) (fun σ H' q => ?_)⟩
      · obtain ⟨⟨v11, rfl⟩, w11⟩ := q
        obtain ⟨⟨dt, ho⟩, ty, t1, t2, t3⟩ := odd x (List.mem_of_getElem? hx)
        have ho := ho.same w11.wd.kn
        refine refused_ne w11.tb ho hk rfl rfl (fun H12 x12 Ec Qc hE => ?_) fun H12 x12 => ?_
        · exact ⟨rfl, _, rfl, .inr ⟨x, ty, rfl, ty_extN x12.ex (ty_same w11.wd.kn t1), t2, t3, fun d nd => hE _ d (same_new nd) upd_same⟩⟩
        · exact ⟨false, rfl, ⟨_, rfl⟩, w11.sx x12⟩
      · obtain ⟨⟨v11, rfl⟩, w11⟩ := q
        exact k _
end


section
variable {w : World} {K : PySem.W.Frag} {mg : Str → Option Value} {base : Heap} {A : Adr}
theorem ok_law (T : Txt K mg A) (TB : ∀ p ∈ tabsOf A, LamX.TabB base mg p.1 p.2) : FnG PW w K mg base CX0 10 A.a_Law A.d_Law ["_law_script"] (spLaw K (tabsOf A)) :=
  have dr := ok_draw T (ok_mixed T)
  have ig := ok_integer T dr
  have lo := ok_lowest T
  have kd := ok_kind T
  have tx := ok_text T
  have ii := ok_initX T (ok_isint T) (ok_gcd T)
  have fr := ok_from T (ok_iswr T) tx ii
  have ir := ok_isratio T (ok_top T) (ok_bottom T) (ok_whole T) lo
  ok_law_of T (TB _ (List.mem_cons_of_mem _ List.mem_cons_self)) (ok_pool T) dr (ok_pair T dr ig) lo kd
    (ok_right4 T (TB _ List.mem_cons_self) kd (ok_read4 T (ok_dig T) lo) tx ir fr) fr
end
theorem all_mk {w : World} {K : PySem.W.Frag} {h : Heap} {mg : Str → Option Value} {fa : Addr} {C_Ratio : Addr} {C_LineError : Addr} {C_InvalidNumber : Addr} {C_InvalidText : Addr} {C_InvalidName : Addr} {C_InvalidParents : Addr} {C_InvalidVersion : Addr} {C_InvalidHistory : Addr} {C_InvalidLayout : Addr} {C_InvalidPrices : Addr} {C_InvalidTelling : Addr} {C_InvalidDeeds : Addr} {C_InvalidLine : Addr} {C_InvalidRanges : Addr} {C_InvalidCommand : Addr} {C_ParseError : Addr} {C_TooMany : Addr} {C_NothingToUndo : Addr} {i_InvalidNumber : Addr} {nm_InvalidNumber : Str} {qn_InvalidNumber : Str} {xN_InvalidNumber : Addr} {bs_InvalidNumber : List Value} {sn_InvalidNumber : List Str} {sb_InvalidNumber : List Value} {ab_InvalidNumber : Bool} {col_InvalidNumber : Option Bool} {dd_InvalidNumber : Option Addr} {m0_InvalidNumber : Option Value} {m1_InvalidNumber : Option Value} {m2_InvalidNumber : Option Value} {m3_InvalidNumber : Option Value} {m5_InvalidNumber : Option Value} {oc_InvalidNumber : Value} {od_InvalidNumber : Option Addr} {doc_InvalidNumber : Value} {pm_InvalidNumber : Value} {an_InvalidNumber : Option Addr} {cda_InvalidNumber : Addr} {cc_InvalidNumber : Addr} {ct_InvalidNumber : Value} {osl_InvalidNumber : Array (Option Value)} {qual_InvalidNumber : Str} {ms_InvalidNumber : Str} {j_InvalidNumber : Nat} {p1_InvalidNumber : Pos} {p2_InvalidNumber : Pos} {q0_InvalidNumber : Pos} {q1_InvalidNumber : Pos} {q2_InvalidNumber : Pos} {q3_InvalidNumber : Pos} {q4_InvalidNumber : Pos} {q5_InvalidNumber : Pos} {q6_InvalidNumber : Pos} {q7_InvalidNumber : Pos} {q8_InvalidNumber : Pos} {q9_InvalidNumber : Pos} {ccl_InvalidNumber : Value} {cdd_InvalidNumber : Option Addr} {vs_InvalidNumber : Array Value} {ccs_InvalidNumber : Array (Option Value)} {cl_InvalidNumber : Value} {cld_InvalidNumber : Option Addr} {csl_InvalidNumber : Array (Option Value)} {file_InvalidNumber : Str} {tf_InvalidNumber : Tok} {i_InvalidText : Addr} {nm_InvalidText : Str} {qn_InvalidText : Str} {xN_InvalidText : Addr} {bs_InvalidText : List Value} {sn_InvalidText : List Str} {sb_InvalidText : List Value} {ab_InvalidText : Bool} {col_InvalidText : Option Bool} {dd_InvalidText : Option Addr} {m0_InvalidText : Option Value} {m1_InvalidText : Option Value} {m2_InvalidText : Option Value} {m3_InvalidText : Option Value} {m5_InvalidText : Option Value} {oc_InvalidText : Value} {od_InvalidText : Option Addr} {doc_InvalidText : Value} {pm_InvalidText : Value} {an_InvalidText : Option Addr} {cda_InvalidText : Addr} {cc_InvalidText : Addr} {ct_InvalidText : Value} {osl_InvalidText : Array (Option Value)} {qual_InvalidText : Str} {ms_InvalidText : Str} {j_InvalidText : Nat} {p1_InvalidText : Pos} {p2_InvalidText : Pos} {q0_InvalidText : Pos} {q1_InvalidText : Pos} {q2_InvalidText : Pos} {q3_InvalidText : Pos} {q4_InvalidText : Pos} {q5_InvalidText : Pos} {q6_InvalidText : Pos} {q7_InvalidText : Pos} {q8_InvalidText : Pos} {q9_InvalidText : Pos} {ccl_InvalidText : Value} {cdd_InvalidText : Option Addr} {vs_InvalidText : Array Value} {ccs_InvalidText : Array (Option Value)} {cl_InvalidText : Value} {cld_InvalidText : Option Addr} {csl_InvalidText : Array (Option Value)} {file_InvalidText : Str} {tf_InvalidText : Tok} {f1 : Addr} {od1 an1 : Option Addr} {sl1 : Array (Option Value)} {oc1 dc1 pm1 ct1 : Value} {cd1 : Value} {kV1 : Value} {f2 : Addr} {od2 an2 : Option Addr} {sl2 : Array (Option Value)} {oc2 dc2 pm2 ct2 : Value} {cd2 : Value} {kV2 : Value} {f3 : Addr} {od3 an3 : Option Addr} {sl3 : Array (Option Value)} {oc3 dc3 pm3 ct3 : Value} {cd3 : Value} {kV3 : Value} {T3 : Addr} {tc3 : Value} {tD3 : Option Addr} {ts3 : Array (Option Value)} {nn3 : Nat} {tk3_0 : Tok} {f4 : Addr} {od4 an4 : Option Addr} {sl4 : Array (Option Value)} {oc4 dc4 pm4 ct4 : Value} {cd4 : Value} {kV4 : Value} {p4 : Addr} {rs4 : List Value} {f5 : Addr} {od5 an5 : Option Addr} {sl5 : Array (Option Value)} {oc5 dc5 pm5 ct5 : Value} {cd5 : Value} {kV5 : Value} {p5 : Addr} {rs5 : List Value} {f6 : Addr} {od6 an6 : Option Addr} {sl6 : Array (Option Value)} {oc6 dc6 pm6 ct6 : Value} {cd6 : Value} {kV6 : Value} {p6 : Addr} {rs6 : List Value} {f7 : Addr} {od7 an7 : Option Addr} {sl7 : Array (Option Value)} {oc7 dc7 pm7 ct7 : Value} {cd7 : Value} {kV7 : Value} {p7 : Addr} {rs7 : List Value} {f8 : Addr} {od8 an8 : Option Addr} {sl8 : Array (Option Value)} {oc8 dc8 pm8 ct8 : Value} {cd8 : Value} {kV8 : Value} {f9 : Addr} {od9 an9 : Option Addr} {sl9 : Array (Option Value)} {oc9 dc9 pm9 ct9 : Value} {cd9 : Value} {kV9 : Value} {f10 : Addr} {od10 an10 : Option Addr} {sl10 : Array (Option Value)} {oc10 dc10 pm10 ct10 : Value} {cd10 : Value} {kV10 : Value} {f11 : Addr} {od11 an11 : Option Addr} {sl11 : Array (Option Value)} {oc11 dc11 pm11 ct11 : Value} {cd11 : Value} {kV11 : Value} {f12 : Addr} {od12 an12 : Option Addr} {sl12 : Array (Option Value)} {oc12 dc12 pm12 ct12 : Value} {cd12 : Value} {kV12 : Value} {f13 : Addr} {od13 an13 : Option Addr} {sl13 : Array (Option Value)} {oc13 dc13 pm13 ct13 : Value} {cd13 : Value} {kV13 : Value} {f14 : Addr} {od14 an14 : Option Addr} {sl14 : Array (Option Value)} {oc14 dc14 pm14 ct14 : Value} {cd14 : Value} {kV14 : Value} {f15 : Addr} {od15 an15 : Option Addr} {sl15 : Array (Option Value)} {oc15 dc15 pm15 ct15 : Value} {cd15 : Value} {kV15 : Value} {f16 : Addr} {od16 an16 : Option Addr} {sl16 : Array (Option Value)} {oc16 dc16 pm16 ct16 : Value} {cd16 : Value} {kV16 : Value} {f17 : Addr} {od17 an17 : Option Addr} {sl17 : Array (Option Value)} {oc17 dc17 pm17 ct17 : Value} {cd17 : Value} {kV17 : Value} {f18 : Addr} {od18 an18 : Option Addr} {sl18 : Array (Option Value)} {oc18 dc18 pm18 ct18 : Value} {cd18 : Value} {kV18 : Value} {f19 : Addr} {od19 an19 : Option Addr} {sl19 : Array (Option Value)} {oc19 dc19 pm19 ct19 : Value} {cd19 : Value} {kV19 : Value} {f20 : Addr} {od20 an20 : Option Addr} {sl20 : Array (Option Value)} {oc20 dc20 pm20 ct20 : Value} {cd20 : Value} {kV20 : Value} {f21 : Addr} {od21 an21 : Option Addr} {sl21 : Array (Option Value)} {oc21 dc21 pm21 ct21 : Value} {kV21 : Value} {cA21 tP21 : Addr} {cl21 : Value} {cld21 : Option Addr} {cvs21 : Array Value} {csl21 : Array (Option Value)} {f22 : Addr} {od22 an22 : Option Addr} {sl22 : Array (Option Value)} {oc22 dc22 pm22 ct22 : Value} {kV22 : Value} {cA22 tP22 : Addr} {cl22 : Value} {cld22 : Option Addr} {cvs22 : Array Value} {csl22 : Array (Option Value)} {t14 : Tok} {t15 : Tok} (X : K.In h) (G : h.Ns mainGlobals mg) (hfa : mg "law" = some (.ref fa))
    (aCRatio : PySem.W.nsIn K mainGlobals "Ratio" = some (some (.ref C_Ratio)))
    (pgRatio : PySem.W.plainGet K C_Ratio Str.empty = true)
    (hdRatio : PySem.W.hasDictIn K C_Ratio = true)
    (poRatio : PySem.W.plainOver K C_Ratio = true)
    (saRatio : PySem.W.findIn K (.ref C_Ratio) "__setattr__" = some (some (.builtin "object.__setattr__")))
    (haRatio : PySem.W.findIn K (.ref C_Ratio) "__class__" = some (some (.builtin "object.__class__")))
    (hnRatio : PySem.W.specialIn K (.builtin "object.__class__") "__get__" = some (some (.builtin "getset_descriptor.__get__")))
    (tkRatio : PySem.W.takesIn K (.builtin "object.__class__") = some true)
    (hmRatio : PySem.W.mroIn K C_Ratio (.type "object") = some true)
    (mkRatio : PySem.W.makesIn K C_Ratio = true)
    (kcRatio : PySem.W.keepIn K (.ref C_Ratio) = true)
    (nRatiokept_top : PySem.W.findIn K (.ref C_Ratio) "kept_top" = some none)
    (nRatiokept_bottom : PySem.W.findIn K (.ref C_Ratio) "kept_bottom" = some none)
    (icRatio : PySem.W.isClsIn K C_Ratio = true)
    (tyRatio : PySem.W.typeIn K (.ref C_Ratio) = some (.type "type"))
    (qoRatioint : PySem.W.subIn K (.ref C_Ratio) (.type "int") = some false)
    (qoRatiobool : PySem.W.subIn K (.ref C_Ratio) (.type "bool") = some false)
    (qiRatioint : PySem.W.subIn K (.type "int") (.ref C_Ratio) = some false)
    (qiRatiobool : PySem.W.subIn K (.type "bool") (.ref C_Ratio) = some false)
    (qiRatiostr : PySem.W.subIn K (.type "str") (.ref C_Ratio) = some false)
    (qiRatiolist : PySem.W.subIn K (.type "list") (.ref C_Ratio) = some false)
    (qiRatiotuple : PySem.W.subIn K (.type "tuple") (.ref C_Ratio) = some false)
    (qiRatiodict : PySem.W.subIn K (.type "dict") (.ref C_Ratio) = some false)
    (qiRatioNoneType : PySem.W.subIn K (.type "NoneType") (.ref C_Ratio) = some false)
    (rdRatio : PySem.W.readsIn K C_Ratio (.type "type") = true)
    (rgRatio : PySem.W.specialIn K (.ref C_Ratio) "__getattribute__" = some (some (.builtin "type.__getattribute__")))
    (wRatioint : PySem.W.notFirst K C_Ratio (.type "int") = true)
    (wRatiobool : PySem.W.notFirst K C_Ratio (.type "bool") = true)
    (wRatiostr : PySem.W.notFirst K C_Ratio (.type "str") = true)
    (wRatiolist : PySem.W.notFirst K C_Ratio (.type "list") = true)
    (wRatiotuple : PySem.W.notFirst K C_Ratio (.type "tuple") = true)
    (wRatiodict : PySem.W.notFirst K C_Ratio (.type "dict") = true)
    (wRatioNoneType : PySem.W.notFirst K C_Ratio (.type "NoneType") = true)
    (aCLineError : PySem.W.nsIn K mainGlobals "LineError" = some (some (.ref C_LineError)))
    (ebLineError : PySem.W.subIn K (.ref C_LineError) (.type "BaseException") = some true)
    (edLineError : PySem.W.hasDictIn K C_LineError = true)
    (etLineError : PySem.W.typeIn K (.ref C_LineError) = some (.type "type"))
    (eiLineError : PySem.W.isClsIn K C_LineError = true)
    (aCInvalidNumber : PySem.W.nsIn K mainGlobals "InvalidNumber" = some (some (.ref C_InvalidNumber)))
    (ebInvalidNumber : PySem.W.subIn K (.ref C_InvalidNumber) (.type "BaseException") = some true)
    (edInvalidNumber : PySem.W.hasDictIn K C_InvalidNumber = true)
    (etInvalidNumber : PySem.W.typeIn K (.ref C_InvalidNumber) = some (.type "type"))
    (eiInvalidNumber : PySem.W.isClsIn K C_InvalidNumber = true)
    (aCInvalidText : PySem.W.nsIn K mainGlobals "InvalidText" = some (some (.ref C_InvalidText)))
    (ebInvalidText : PySem.W.subIn K (.ref C_InvalidText) (.type "BaseException") = some true)
    (edInvalidText : PySem.W.hasDictIn K C_InvalidText = true)
    (etInvalidText : PySem.W.typeIn K (.ref C_InvalidText) = some (.type "type"))
    (eiInvalidText : PySem.W.isClsIn K C_InvalidText = true)
    (aCInvalidName : PySem.W.nsIn K mainGlobals "InvalidName" = some (some (.ref C_InvalidName)))
    (ebInvalidName : PySem.W.subIn K (.ref C_InvalidName) (.type "BaseException") = some true)
    (edInvalidName : PySem.W.hasDictIn K C_InvalidName = true)
    (etInvalidName : PySem.W.typeIn K (.ref C_InvalidName) = some (.type "type"))
    (eiInvalidName : PySem.W.isClsIn K C_InvalidName = true)
    (aCInvalidParents : PySem.W.nsIn K mainGlobals "InvalidParents" = some (some (.ref C_InvalidParents)))
    (ebInvalidParents : PySem.W.subIn K (.ref C_InvalidParents) (.type "BaseException") = some true)
    (edInvalidParents : PySem.W.hasDictIn K C_InvalidParents = true)
    (etInvalidParents : PySem.W.typeIn K (.ref C_InvalidParents) = some (.type "type"))
    (eiInvalidParents : PySem.W.isClsIn K C_InvalidParents = true)
    (aCInvalidVersion : PySem.W.nsIn K mainGlobals "InvalidVersion" = some (some (.ref C_InvalidVersion)))
    (ebInvalidVersion : PySem.W.subIn K (.ref C_InvalidVersion) (.type "BaseException") = some true)
    (edInvalidVersion : PySem.W.hasDictIn K C_InvalidVersion = true)
    (etInvalidVersion : PySem.W.typeIn K (.ref C_InvalidVersion) = some (.type "type"))
    (eiInvalidVersion : PySem.W.isClsIn K C_InvalidVersion = true)
    (aCInvalidHistory : PySem.W.nsIn K mainGlobals "InvalidHistory" = some (some (.ref C_InvalidHistory)))
    (ebInvalidHistory : PySem.W.subIn K (.ref C_InvalidHistory) (.type "BaseException") = some true)
    (edInvalidHistory : PySem.W.hasDictIn K C_InvalidHistory = true)
    (etInvalidHistory : PySem.W.typeIn K (.ref C_InvalidHistory) = some (.type "type"))
    (eiInvalidHistory : PySem.W.isClsIn K C_InvalidHistory = true)
    (aCInvalidLayout : PySem.W.nsIn K mainGlobals "InvalidLayout" = some (some (.ref C_InvalidLayout)))
    (ebInvalidLayout : PySem.W.subIn K (.ref C_InvalidLayout) (.type "BaseException") = some true)
    (edInvalidLayout : PySem.W.hasDictIn K C_InvalidLayout = true)
    (etInvalidLayout : PySem.W.typeIn K (.ref C_InvalidLayout) = some (.type "type"))
    (eiInvalidLayout : PySem.W.isClsIn K C_InvalidLayout = true)
    (aCInvalidPrices : PySem.W.nsIn K mainGlobals "InvalidPrices" = some (some (.ref C_InvalidPrices)))
    (ebInvalidPrices : PySem.W.subIn K (.ref C_InvalidPrices) (.type "BaseException") = some true)
    (edInvalidPrices : PySem.W.hasDictIn K C_InvalidPrices = true)
    (etInvalidPrices : PySem.W.typeIn K (.ref C_InvalidPrices) = some (.type "type"))
    (eiInvalidPrices : PySem.W.isClsIn K C_InvalidPrices = true)
    (aCInvalidTelling : PySem.W.nsIn K mainGlobals "InvalidTelling" = some (some (.ref C_InvalidTelling)))
    (ebInvalidTelling : PySem.W.subIn K (.ref C_InvalidTelling) (.type "BaseException") = some true)
    (edInvalidTelling : PySem.W.hasDictIn K C_InvalidTelling = true)
    (etInvalidTelling : PySem.W.typeIn K (.ref C_InvalidTelling) = some (.type "type"))
    (eiInvalidTelling : PySem.W.isClsIn K C_InvalidTelling = true)
    (aCInvalidDeeds : PySem.W.nsIn K mainGlobals "InvalidDeeds" = some (some (.ref C_InvalidDeeds)))
    (ebInvalidDeeds : PySem.W.subIn K (.ref C_InvalidDeeds) (.type "BaseException") = some true)
    (edInvalidDeeds : PySem.W.hasDictIn K C_InvalidDeeds = true)
    (etInvalidDeeds : PySem.W.typeIn K (.ref C_InvalidDeeds) = some (.type "type"))
    (eiInvalidDeeds : PySem.W.isClsIn K C_InvalidDeeds = true)
    (aCInvalidLine : PySem.W.nsIn K mainGlobals "InvalidLine" = some (some (.ref C_InvalidLine)))
    (ebInvalidLine : PySem.W.subIn K (.ref C_InvalidLine) (.type "BaseException") = some true)
    (edInvalidLine : PySem.W.hasDictIn K C_InvalidLine = true)
    (etInvalidLine : PySem.W.typeIn K (.ref C_InvalidLine) = some (.type "type"))
    (eiInvalidLine : PySem.W.isClsIn K C_InvalidLine = true)
    (aCInvalidRanges : PySem.W.nsIn K mainGlobals "InvalidRanges" = some (some (.ref C_InvalidRanges)))
    (ebInvalidRanges : PySem.W.subIn K (.ref C_InvalidRanges) (.type "BaseException") = some true)
    (edInvalidRanges : PySem.W.hasDictIn K C_InvalidRanges = true)
    (etInvalidRanges : PySem.W.typeIn K (.ref C_InvalidRanges) = some (.type "type"))
    (eiInvalidRanges : PySem.W.isClsIn K C_InvalidRanges = true)
    (aCInvalidCommand : PySem.W.nsIn K mainGlobals "InvalidCommand" = some (some (.ref C_InvalidCommand)))
    (ebInvalidCommand : PySem.W.subIn K (.ref C_InvalidCommand) (.type "BaseException") = some true)
    (edInvalidCommand : PySem.W.hasDictIn K C_InvalidCommand = true)
    (etInvalidCommand : PySem.W.typeIn K (.ref C_InvalidCommand) = some (.type "type"))
    (eiInvalidCommand : PySem.W.isClsIn K C_InvalidCommand = true)
    (aCParseError : PySem.W.nsIn K mainGlobals "ParseError" = some (some (.ref C_ParseError)))
    (ebParseError : PySem.W.subIn K (.ref C_ParseError) (.type "BaseException") = some true)
    (edParseError : PySem.W.hasDictIn K C_ParseError = true)
    (etParseError : PySem.W.typeIn K (.ref C_ParseError) = some (.type "type"))
    (eiParseError : PySem.W.isClsIn K C_ParseError = true)
    (aCTooMany : PySem.W.nsIn K mainGlobals "TooMany" = some (some (.ref C_TooMany)))
    (ebTooMany : PySem.W.subIn K (.ref C_TooMany) (.type "BaseException") = some true)
    (edTooMany : PySem.W.hasDictIn K C_TooMany = true)
    (etTooMany : PySem.W.typeIn K (.ref C_TooMany) = some (.type "type"))
    (eiTooMany : PySem.W.isClsIn K C_TooMany = true)
    (aCNothingToUndo : PySem.W.nsIn K mainGlobals "NothingToUndo" = some (some (.ref C_NothingToUndo)))
    (ebNothingToUndo : PySem.W.subIn K (.ref C_NothingToUndo) (.type "BaseException") = some true)
    (edNothingToUndo : PySem.W.hasDictIn K C_NothingToUndo = true)
    (etNothingToUndo : PySem.W.typeIn K (.ref C_NothingToUndo) = some (.type "type"))
    (eiNothingToUndo : PySem.W.isClsIn K C_NothingToUndo = true)
    (eSu : PySem.W.nsIn K mainGlobals "super" = some none)
    (eOp : PySem.W.nsIn K cStatics "thirdparty.any" = some none)
    (eHn : PySem.W.specialIn K (.builtin "object.__class__") "__get__" = some (some (.builtin "getset_descriptor.__get__")))
    (eTk : PySem.W.takesIn K (.builtin "object.__class__") = some true)
    (xlInvalidNumber : K.lookup C_InvalidNumber = some (excClassObj nm_InvalidNumber qn_InvalidNumber C_InvalidNumber xN_InvalidNumber bs_InvalidNumber [.ref C_LineError, .type "ValueError", .type "Exception", .type "BaseException", .type "object"] true sn_InvalidNumber sb_InvalidNumber ab_InvalidNumber col_InvalidNumber dd_InvalidNumber m0_InvalidNumber m1_InvalidNumber m2_InvalidNumber m3_InvalidNumber m5_InvalidNumber "ValueError.__new__"))
    (xsaInvalidNumber : PySem.W.findIn K (.ref C_InvalidNumber) "__setattr__" = some (some (.builtin "object.__setattr__")))
    (xgaInvalidNumber : PySem.W.findIn K (.ref C_InvalidNumber) "__getattribute__" = some (some (.builtin "BaseException.__getattribute__")))
    (xggInvalidNumber : PySem.W.findIn K (.ref C_InvalidNumber) "__getattr__" = some none)
    (xnoInvalidNumber : PySem.W.findIn K (.ref C_InvalidNumber) "value" = some none)
    (xicInvalidNumber : PySem.W.findIn K (.ref C_InvalidNumber) "__init__" = some (some (.ref i_InvalidNumber)))
    (xtiInvalidNumber : PySem.W.typeIn K (.ref i_InvalidNumber) = some (.type "function"))
    (xkcInvalidNumber : PySem.W.keepIn K (.ref C_InvalidNumber) = true)
    (xveInvalidNumber : PySem.W.subIn K (.ref C_InvalidNumber) (.type "ValueError") = some true)
    (xmcInvalidNumber : PySem.W.mroIn K C_InvalidNumber (.ref C_InvalidNumber) = some true)
    (xmoInvalidNumber : PySem.W.mroIn K C_InvalidNumber (.type "object") = some true)
    (xhcInvalidNumber : PySem.W.findIn K (.ref C_InvalidNumber) "__class__" = some (some (.builtin "object.__class__")))
    (xliInvalidNumber : K.lookup i_InvalidNumber = some ⟨oc_InvalidNumber, od_InvalidNumber, .func (PySem.W.ksFn "__init__" qual_InvalidNumber (xA p1_InvalidNumber p2_InvalidNumber) (xB ms_InvalidNumber j_InvalidNumber q0_InvalidNumber q1_InvalidNumber q2_InvalidNumber q3_InvalidNumber q4_InvalidNumber q5_InvalidNumber q6_InvalidNumber q7_InvalidNumber q8_InvalidNumber q9_InvalidNumber) xS .none .none doc_InvalidNumber pm_InvalidNumber an_InvalidNumber (.ref cda_InvalidNumber) ct_InvalidNumber cc_InvalidNumber), osl_InvalidNumber⟩)
    (xcdInvalidNumber : PySem.W.codeIn K (.ref cda_InvalidNumber) qual_InvalidNumber = true)
    (xlcInvalidNumber : K.lookup cda_InvalidNumber = some ⟨ccl_InvalidNumber, cdd_InvalidNumber, .fields vs_InvalidNumber, ccs_InvalidNumber⟩)
    (xlxInvalidNumber : K.lookup cc_InvalidNumber = some ⟨cl_InvalidNumber, cld_InvalidNumber, .cell (some (.ref C_InvalidNumber)), csl_InvalidNumber⟩)
    (ksIInvalidNumber : PySem.W.ks_superIn K C_InvalidNumber C_InvalidNumber "__init__" = some (some (.builtin "ValueError.__init__")))
    (rfVInvalidNumber : vs_InvalidNumber[2]? = some (.str file_InvalidNumber tf_InvalidNumber))
    (rfFInvalidNumber : ((PW.main.file : Str) == file_InvalidNumber) = true)
    (rfLInvalidNumber : (q2_InvalidNumber.endLine == q4_InvalidNumber.line) = true)
    (rfTInvalidNumber : (PW.main.scope.names.lookup ("super" : Str)).isSome = false)
    (xsInvalidNumberLineError : PySem.W.subIn K (.ref C_InvalidNumber) (.ref C_LineError) = some true)
    (xsInvalidNumberInvalidText : PySem.W.subIn K (.ref C_InvalidNumber) (.ref C_InvalidText) = some false)
    (xsInvalidNumberInvalidName : PySem.W.subIn K (.ref C_InvalidNumber) (.ref C_InvalidName) = some false)
    (xsInvalidNumberInvalidParents : PySem.W.subIn K (.ref C_InvalidNumber) (.ref C_InvalidParents) = some false)
    (xsInvalidNumberInvalidVersion : PySem.W.subIn K (.ref C_InvalidNumber) (.ref C_InvalidVersion) = some false)
    (xsInvalidNumberInvalidHistory : PySem.W.subIn K (.ref C_InvalidNumber) (.ref C_InvalidHistory) = some false)
    (xsInvalidNumberInvalidLayout : PySem.W.subIn K (.ref C_InvalidNumber) (.ref C_InvalidLayout) = some false)
    (xsInvalidNumberInvalidPrices : PySem.W.subIn K (.ref C_InvalidNumber) (.ref C_InvalidPrices) = some false)
    (xsInvalidNumberInvalidTelling : PySem.W.subIn K (.ref C_InvalidNumber) (.ref C_InvalidTelling) = some false)
    (xsInvalidNumberInvalidDeeds : PySem.W.subIn K (.ref C_InvalidNumber) (.ref C_InvalidDeeds) = some false)
    (xsInvalidNumberInvalidLine : PySem.W.subIn K (.ref C_InvalidNumber) (.ref C_InvalidLine) = some false)
    (xsInvalidNumberInvalidRanges : PySem.W.subIn K (.ref C_InvalidNumber) (.ref C_InvalidRanges) = some false)
    (xsInvalidNumberInvalidCommand : PySem.W.subIn K (.ref C_InvalidNumber) (.ref C_InvalidCommand) = some false)
    (xsInvalidNumberParseError : PySem.W.subIn K (.ref C_InvalidNumber) (.ref C_ParseError) = some false)
    (xsInvalidNumberTooMany : PySem.W.subIn K (.ref C_InvalidNumber) (.ref C_TooMany) = some false)
    (xsInvalidNumberNothingToUndo : PySem.W.subIn K (.ref C_InvalidNumber) (.ref C_NothingToUndo) = some false)
    (xlInvalidText : K.lookup C_InvalidText = some (excClassObj nm_InvalidText qn_InvalidText C_InvalidText xN_InvalidText bs_InvalidText [.ref C_LineError, .type "ValueError", .type "Exception", .type "BaseException", .type "object"] true sn_InvalidText sb_InvalidText ab_InvalidText col_InvalidText dd_InvalidText m0_InvalidText m1_InvalidText m2_InvalidText m3_InvalidText m5_InvalidText "ValueError.__new__"))
    (xsaInvalidText : PySem.W.findIn K (.ref C_InvalidText) "__setattr__" = some (some (.builtin "object.__setattr__")))
    (xgaInvalidText : PySem.W.findIn K (.ref C_InvalidText) "__getattribute__" = some (some (.builtin "BaseException.__getattribute__")))
    (xggInvalidText : PySem.W.findIn K (.ref C_InvalidText) "__getattr__" = some none)
    (xnoInvalidText : PySem.W.findIn K (.ref C_InvalidText) "value" = some none)
    (xicInvalidText : PySem.W.findIn K (.ref C_InvalidText) "__init__" = some (some (.ref i_InvalidText)))
    (xtiInvalidText : PySem.W.typeIn K (.ref i_InvalidText) = some (.type "function"))
    (xkcInvalidText : PySem.W.keepIn K (.ref C_InvalidText) = true)
    (xveInvalidText : PySem.W.subIn K (.ref C_InvalidText) (.type "ValueError") = some true)
    (xmcInvalidText : PySem.W.mroIn K C_InvalidText (.ref C_InvalidText) = some true)
    (xmoInvalidText : PySem.W.mroIn K C_InvalidText (.type "object") = some true)
    (xhcInvalidText : PySem.W.findIn K (.ref C_InvalidText) "__class__" = some (some (.builtin "object.__class__")))
    (xliInvalidText : K.lookup i_InvalidText = some ⟨oc_InvalidText, od_InvalidText, .func (PySem.W.ksFn "__init__" qual_InvalidText (xA p1_InvalidText p2_InvalidText) (xB ms_InvalidText j_InvalidText q0_InvalidText q1_InvalidText q2_InvalidText q3_InvalidText q4_InvalidText q5_InvalidText q6_InvalidText q7_InvalidText q8_InvalidText q9_InvalidText) xS .none .none doc_InvalidText pm_InvalidText an_InvalidText (.ref cda_InvalidText) ct_InvalidText cc_InvalidText), osl_InvalidText⟩)
    (xcdInvalidText : PySem.W.codeIn K (.ref cda_InvalidText) qual_InvalidText = true)
    (xlcInvalidText : K.lookup cda_InvalidText = some ⟨ccl_InvalidText, cdd_InvalidText, .fields vs_InvalidText, ccs_InvalidText⟩)
    (xlxInvalidText : K.lookup cc_InvalidText = some ⟨cl_InvalidText, cld_InvalidText, .cell (some (.ref C_InvalidText)), csl_InvalidText⟩)
    (ksIInvalidText : PySem.W.ks_superIn K C_InvalidText C_InvalidText "__init__" = some (some (.builtin "ValueError.__init__")))
    (rfVInvalidText : vs_InvalidText[2]? = some (.str file_InvalidText tf_InvalidText))
    (rfFInvalidText : ((PW.main.file : Str) == file_InvalidText) = true)
    (rfLInvalidText : (q2_InvalidText.endLine == q4_InvalidText.line) = true)
    (rfTInvalidText : (PW.main.scope.names.lookup ("super" : Str)).isSome = false)
    (xsInvalidTextLineError : PySem.W.subIn K (.ref C_InvalidText) (.ref C_LineError) = some true)
    (xsInvalidTextInvalidNumber : PySem.W.subIn K (.ref C_InvalidText) (.ref C_InvalidNumber) = some false)
    (xsInvalidTextInvalidName : PySem.W.subIn K (.ref C_InvalidText) (.ref C_InvalidName) = some false)
    (xsInvalidTextInvalidParents : PySem.W.subIn K (.ref C_InvalidText) (.ref C_InvalidParents) = some false)
    (xsInvalidTextInvalidVersion : PySem.W.subIn K (.ref C_InvalidText) (.ref C_InvalidVersion) = some false)
    (xsInvalidTextInvalidHistory : PySem.W.subIn K (.ref C_InvalidText) (.ref C_InvalidHistory) = some false)
    (xsInvalidTextInvalidLayout : PySem.W.subIn K (.ref C_InvalidText) (.ref C_InvalidLayout) = some false)
    (xsInvalidTextInvalidPrices : PySem.W.subIn K (.ref C_InvalidText) (.ref C_InvalidPrices) = some false)
    (xsInvalidTextInvalidTelling : PySem.W.subIn K (.ref C_InvalidText) (.ref C_InvalidTelling) = some false)
    (xsInvalidTextInvalidDeeds : PySem.W.subIn K (.ref C_InvalidText) (.ref C_InvalidDeeds) = some false)
    (xsInvalidTextInvalidLine : PySem.W.subIn K (.ref C_InvalidText) (.ref C_InvalidLine) = some false)
    (xsInvalidTextInvalidRanges : PySem.W.subIn K (.ref C_InvalidText) (.ref C_InvalidRanges) = some false)
    (xsInvalidTextInvalidCommand : PySem.W.subIn K (.ref C_InvalidText) (.ref C_InvalidCommand) = some false)
    (xsInvalidTextParseError : PySem.W.subIn K (.ref C_InvalidText) (.ref C_ParseError) = some false)
    (xsInvalidTextTooMany : PySem.W.subIn K (.ref C_InvalidText) (.ref C_TooMany) = some false)
    (xsInvalidTextNothingToUndo : PySem.W.subIn K (.ref C_InvalidText) (.ref C_NothingToUndo) = some false)
    (a1 : PySem.W.nsIn K mainGlobals "is_integer" = some (some (.ref f1)))
    (l1 : K.lookup f1 = some ⟨oc1, od1, .func (PySem.W.fnOf "is_integer" "is_integer" (defArgs sIsInteger) (defBody sIsInteger) (defScope sIsInteger) .none kV1 dc1 pm1 an1 cd1 ct1), sl1⟩)
    (c1 : PySem.W.codeIn K cd1 "is_integer" = true)
    (k1 : PySem.W.keepIn K (.ref f1) = true)
    (a2 : PySem.W.nsIn K mainGlobals "common_divisor" = some (some (.ref f2)))
    (l2 : K.lookup f2 = some ⟨oc2, od2, .func (PySem.W.fnOf "common_divisor" "common_divisor" (defArgs sCommonDivisor) (defBody sCommonDivisor) (defScope sCommonDivisor) .none kV2 dc2 pm2 an2 cd2 ct2), sl2⟩)
    (c2 : PySem.W.codeIn K cd2 "common_divisor" = true)
    (k2 : PySem.W.keepIn K (.ref f2) = true)
    (a3 : PySem.W.findIn K (.ref C_Ratio) "__init__" = some (some (.ref f3)))
    (i3 : PySem.W.isFn K (.ref f3) = true)
    (l3 : K.lookup f3 = some ⟨oc3, od3, .func (PySem.W.fnOf "__init__" "Ratio.__init__" (defArgs sRatioInit) (defBody sRatioInit) (defScope sRatioInit) (.ref T3) kV3 dc3 pm3 an3 cd3 ct3), sl3⟩)
    (c3 : PySem.W.codeIn K cd3 "Ratio.__init__" = true)
    (k3 : PySem.W.keepIn K (.ref f3) = true)
    (lt3 : K.lookup T3 = some ⟨tc3, tD3, .seq #[.int 1 tk3_0] nn3, ts3⟩)
    (a4 : PySem.W.findIn K (.ref C_Ratio) "top" = some (some (.ref p4)))
    (g4 : PySem.W.specialIn K (.ref p4) "__get__" = some (some (.builtin "property.__get__")))
    (tp4 : PySem.W.takesIn K (.ref p4) = some true)
    (r4 : PySem.W.recIn K p4 "property" = some (.ref f4 :: rs4))
    (l4 : K.lookup f4 = some ⟨oc4, od4, .func (PySem.W.fnOf "top" "Ratio.top" (defArgs sRatioTop) (defBody sRatioTop) (defScope sRatioTop) .none kV4 dc4 pm4 an4 cd4 ct4), sl4⟩)
    (c4 : PySem.W.codeIn K cd4 "Ratio.top" = true)
    (k4 : PySem.W.keepIn K (.ref f4) = true)
    (a5 : PySem.W.findIn K (.ref C_Ratio) "bottom" = some (some (.ref p5)))
    (g5 : PySem.W.specialIn K (.ref p5) "__get__" = some (some (.builtin "property.__get__")))
    (tp5 : PySem.W.takesIn K (.ref p5) = some true)
    (r5 : PySem.W.recIn K p5 "property" = some (.ref f5 :: rs5))
    (l5 : K.lookup f5 = some ⟨oc5, od5, .func (PySem.W.fnOf "bottom" "Ratio.bottom" (defArgs sRatioBottom) (defBody sRatioBottom) (defScope sRatioBottom) .none kV5 dc5 pm5 an5 cd5 ct5), sl5⟩)
    (c5 : PySem.W.codeIn K cd5 "Ratio.bottom" = true)
    (k5 : PySem.W.keepIn K (.ref f5) = true)
    (a6 : PySem.W.findIn K (.ref C_Ratio) "text" = some (some (.ref p6)))
    (g6 : PySem.W.specialIn K (.ref p6) "__get__" = some (some (.builtin "property.__get__")))
    (tp6 : PySem.W.takesIn K (.ref p6) = some true)
    (r6 : PySem.W.recIn K p6 "property" = some (.ref f6 :: rs6))
    (l6 : K.lookup f6 = some ⟨oc6, od6, .func (PySem.W.fnOf "text" "Ratio.text" (defArgs sRatioText) (defBody sRatioText) (defScope sRatioText) .none kV6 dc6 pm6 an6 cd6 ct6), sl6⟩)
    (c6 : PySem.W.codeIn K cd6 "Ratio.text" = true)
    (k6 : PySem.W.keepIn K (.ref f6) = true)
    (a7 : PySem.W.findCls K (.ref C_Ratio) (.type "type") "from_text" = some (.get (.builtin "classmethod.__get__") (.ref p7) .none (.ref C_Ratio)))
    (r7 : PySem.W.recIn K p7 "classmethod" = some (.ref f7 :: rs7))
    (l7 : K.lookup f7 = some ⟨oc7, od7, .func (PySem.W.fnOf "from_text" "Ratio.from_text" (defArgs sRatioFromText) (defBody sRatioFromText) (defScope sRatioFromText) .none kV7 dc7 pm7 an7 cd7 ct7), sl7⟩)
    (c7 : PySem.W.codeIn K cd7 "Ratio.from_text" = true)
    (k7 : PySem.W.keepIn K (.ref f7) = true)
    (a8 : PySem.W.nsIn K mainGlobals "is_written" = some (some (.ref f8)))
    (l8 : K.lookup f8 = some ⟨oc8, od8, .func (PySem.W.fnOf "is_written" "is_written" (defArgs sIsWritten) (defBody sIsWritten) (defScope sIsWritten) .none kV8 dc8 pm8 an8 cd8 ct8), sl8⟩)
    (c8 : PySem.W.codeIn K cd8 "is_written" = true)
    (k8 : PySem.W.keepIn K (.ref f8) = true)
    (a9 : PySem.W.nsIn K mainGlobals "_law_pool" = some (some (.ref f9)))
    (l9 : K.lookup f9 = some ⟨oc9, od9, .func (PySem.W.fnOf "_law_pool" "_law_pool" (defArgs sLawPool) (defBody sLawPool) (defScope sLawPool) .none kV9 dc9 pm9 an9 cd9 ct9), sl9⟩)
    (c9 : PySem.W.codeIn K cd9 "_law_pool" = true)
    (k9 : PySem.W.keepIn K (.ref f9) = true)
    (a10 : PySem.W.nsIn K mainGlobals "_law_mixed" = some (some (.ref f10)))
    (l10 : K.lookup f10 = some ⟨oc10, od10, .func (PySem.W.fnOf "_law_mixed" "_law_mixed" (defArgs sLawMixed) (defBody sLawMixed) (defScope sLawMixed) .none kV10 dc10 pm10 an10 cd10 ct10), sl10⟩)
    (c10 : PySem.W.codeIn K cd10 "_law_mixed" = true)
    (k10 : PySem.W.keepIn K (.ref f10) = true)
    (a11 : PySem.W.nsIn K mainGlobals "_law_draw" = some (some (.ref f11)))
    (l11 : K.lookup f11 = some ⟨oc11, od11, .func (PySem.W.fnOf "_law_draw" "_law_draw" (defArgs sLawDraw) (defBody sLawDraw) (defScope sLawDraw) .none kV11 dc11 pm11 an11 cd11 ct11), sl11⟩)
    (c11 : PySem.W.codeIn K cd11 "_law_draw" = true)
    (k11 : PySem.W.keepIn K (.ref f11) = true)
    (a12 : PySem.W.nsIn K mainGlobals "_law_lowest" = some (some (.ref f12)))
    (l12 : K.lookup f12 = some ⟨oc12, od12, .func (PySem.W.fnOf "_law_lowest" "_law_lowest" (defArgs sLawLowest) (defBody sLawLowest) (defScope sLawLowest) .none kV12 dc12 pm12 an12 cd12 ct12), sl12⟩)
    (c12 : PySem.W.codeIn K cd12 "_law_lowest" = true)
    (k12 : PySem.W.keepIn K (.ref f12) = true)
    (a13 : PySem.W.nsIn K mainGlobals "_law_whole" = some (some (.ref f13)))
    (l13 : K.lookup f13 = some ⟨oc13, od13, .func (PySem.W.fnOf "_law_whole" "_law_whole" (defArgs sLawWhole) (defBody sLawWhole) (defScope sLawWhole) .none kV13 dc13 pm13 an13 cd13 ct13), sl13⟩)
    (c13 : PySem.W.codeIn K cd13 "_law_whole" = true)
    (k13 : PySem.W.keepIn K (.ref f13) = true)
    (a14 : PySem.W.nsIn K mainGlobals "_law_is_ratio" = some (some (.ref f14)))
    (l14 : K.lookup f14 = some ⟨oc14, od14, .func (PySem.W.fnOf "_law_is_ratio" "_law_is_ratio" (defArgs sLawIsRatio) (defBody sLawIsRatio) (defScope sLawIsRatio) .none kV14 dc14 pm14 an14 cd14 ct14), sl14⟩)
    (c14 : PySem.W.codeIn K cd14 "_law_is_ratio" = true)
    (k14 : PySem.W.keepIn K (.ref f14) = true)
    (a15 : PySem.W.nsIn K mainGlobals "_law_kind" = some (some (.ref f15)))
    (l15 : K.lookup f15 = some ⟨oc15, od15, .func (PySem.W.fnOf "_law_kind" "_law_kind" (defArgs sLawKind) (defBody sLawKind) (defScope sLawKind) .none kV15 dc15 pm15 an15 cd15 ct15), sl15⟩)
    (c15 : PySem.W.codeIn K cd15 "_law_kind" = true)
    (k15 : PySem.W.keepIn K (.ref f15) = true)
    (a16 : PySem.W.nsIn K mainGlobals "_law_caught" = some (some (.ref f16)))
    (l16 : K.lookup f16 = some ⟨oc16, od16, .func (PySem.W.fnOf "_law_caught" "_law_caught" (defArgs sLawCaught) (defBody sLawCaught) (defScope sLawCaught) .none kV16 dc16 pm16 an16 cd16 ct16), sl16⟩)
    (c16 : PySem.W.codeIn K cd16 "_law_caught" = true)
    (k16 : PySem.W.keepIn K (.ref f16) = true)
    (a17 : PySem.W.nsIn K mainGlobals "_law_integer" = some (some (.ref f17)))
    (l17 : K.lookup f17 = some ⟨oc17, od17, .func (PySem.W.fnOf "_law_integer" "_law_integer" (defArgs sLawInteger) (defBody sLawInteger) (defScope sLawInteger) .none kV17 dc17 pm17 an17 cd17 ct17), sl17⟩)
    (c17 : PySem.W.codeIn K cd17 "_law_integer" = true)
    (k17 : PySem.W.keepIn K (.ref f17) = true)
    (a18 : PySem.W.nsIn K mainGlobals "_law_pair" = some (some (.ref f18)))
    (l18 : K.lookup f18 = some ⟨oc18, od18, .func (PySem.W.fnOf "_law_pair" "_law_pair" (defArgs sLawPair) (defBody sLawPair) (defScope sLawPair) .none kV18 dc18 pm18 an18 cd18 ct18), sl18⟩)
    (c18 : PySem.W.codeIn K cd18 "_law_pair" = true)
    (k18 : PySem.W.keepIn K (.ref f18) = true)
    (a19 : PySem.W.nsIn K mainGlobals "_law_digits" = some (some (.ref f19)))
    (l19 : K.lookup f19 = some ⟨oc19, od19, .func (PySem.W.fnOf "_law_digits" "_law_digits" (defArgs sLawDigits) (defBody sLawDigits) (defScope sLawDigits) .none kV19 dc19 pm19 an19 cd19 ct19), sl19⟩)
    (c19 : PySem.W.codeIn K cd19 "_law_digits" = true)
    (k19 : PySem.W.keepIn K (.ref f19) = true)
    (a20 : PySem.W.nsIn K mainGlobals "_law_read" = some (some (.ref f20)))
    (l20 : K.lookup f20 = some ⟨oc20, od20, .func (PySem.W.fnOf "_law_read" "_law_read" (defArgs sLawRead) (defBody sLawRead) (defScope sLawRead) .none kV20 dc20 pm20 an20 cd20 ct20), sl20⟩)
    (c20 : PySem.W.codeIn K cd20 "_law_read" = true)
    (k20 : PySem.W.keepIn K (.ref f20) = true)
    (a21 : PySem.W.nsIn K mainGlobals "_law_right" = some (some (.ref f21)))
    (l21 : K.lookup f21 = some ⟨oc21, od21, .func (PySem.W.fnOf "_law_right" "_law_right" (defArgs sLawRight) (defBody sLawRight) (defScope sLawRight) .none kV21 dc21 pm21 an21 (.ref cA21) ct21), sl21⟩)
    (c21 : PySem.W.codeIn K (.ref cA21) "_law_right" = true)
    (lk21 : K.lookup cA21 = some ⟨cl21, cld21, .fields cvs21, csl21⟩)
    (rfP21 : cvs21[11]? = some (.ref tP21))
    (nt21 : K.lookup tP21 = none)
    (k21 : PySem.W.keepIn K (.ref f21) = true)
    (a22 : PySem.W.nsIn K mainGlobals "law" = some (some (.ref f22)))
    (l22 : K.lookup f22 = some ⟨oc22, od22, .func (PySem.W.fnOf "law" "law" (defArgs sLaw) (defBody sLaw) (defScope sLaw) .none kV22 dc22 pm22 an22 (.ref cA22) ct22), sl22⟩)
    (c22 : PySem.W.codeIn K (.ref cA22) "law" = true)
    (lk22 : K.lookup cA22 = some ⟨cl22, cld22, .fields cvs22, csl22⟩)
    (rfP22 : cvs22[11]? = some (.ref tP22))
    (nt22 : K.lookup tP22 = none)
    (dt21_22 : tP21 ≠ tP22)
    (k22 : PySem.W.keepIn K (.ref f22) = true)
    (z0 : PySem.W.nsIn K mainGlobals "isinstance" = some none)
    (z1 : PySem.W.nsIn K mainGlobals "int" = some none)
    (z2 : PySem.W.nsIn K mainGlobals "bool" = some none)
    (z3 : PySem.W.nsIn K mainGlobals "abs" = some none)
    (z7 : PySem.W.nsIn K mainGlobals "property" = some none)
    (z8 : PySem.W.nsIn K mainGlobals "str" = some none)
    (z9 : PySem.W.nsIn K mainGlobals "classmethod" = some none)
    (z11 : PySem.W.nsIn K mainGlobals "len" = some none)
    (z12 : PySem.W.nsIn K mainGlobals "all" = some none)
    (z14 : PySem.W.nsIn K mainGlobals "MOST_DIGITS" = some (some (.int 200 t14)))
    (z15 : PySem.W.nsIn K mainGlobals "DIGITS" = some (some (.str "0123456789" t15)))
    (z34 : PySem.W.nsIn K mainGlobals "ValueError" = some none)
    (z37 : PySem.W.nsIn K mainGlobals "repr" = some none)
    (z45 : PySem.W.nsIn K mainGlobals "range" = some none) :
    ∃ (fd : FuncData) (cs : List (Addr × Addr)), (∀ p ∈ cs, ∃ y ∈ (["_law_right", "law"] : List Str), PySem.W.tabIn K y = some p) ∧ (∀ p ∈ cs, K.lookup p.2 = none) ∧ (∀ (s : Shared) (v : Value), BindsTo s fd ⟨[v], []⟩ [("_law_script", v)]) ∧ ∀ base : Heap, K.In base → base.Ns mainGlobals mg → (∀ p ∈ cs, LamX.TabB base mg p.1 p.2) → FnG PW w K mg base CX0 10 fa fd ["_law_script"] (spLaw K cs) := by
  have e := hfa.symm.trans (PySem.W.mg_of X G a22)
  cases e
  have F1 := fun_mk (st := sIsInteger) l1 c1 k1
  have b1 := F1.binds (ps := ["value"]) fun _ _ _ _ _ _ us hl => match us, hl with | [_], _ => rfl
  have F2 := fun_mk (st := sCommonDivisor) l2 c2 k2
  have b2 := F2.binds (ps := ["first", "second"]) fun _ _ _ _ _ _ us hl => match us, hl with | [_, _], _ => rfl
  have F3 : FunD K "__init__" "Ratio.__init__" (defArgs sRatioInit) (defBody sRatioInit) (defScope sRatioInit) [.int 1] [] f3 (PySem.W.fnOf "__init__" "Ratio.__init__" (defArgs sRatioInit) (defBody sRatioInit) (defScope sRatioInit) (.ref T3) kV3 dc3 pm3 an3 cd3 ct3) := ⟨⟨_, _, _, _, _, _, _, _, _, _, rfl, l3, c3, Or.inr ⟨by simp, _, _, _, _, rfl, lt3, rfl, (.cons ⟨_, rfl⟩ .nil)⟩, Or.inl rfl⟩, k3⟩
  have b3 : Binds K (PySem.W.fnOf "__init__" "Ratio.__init__" (defArgs sRatioInit) (defBody sRatioInit) (defScope sRatioInit) (.ref T3) kV3 dc3 pm3 an3 cd3 ct3) ["self", "top", "bottom"] [] := by
    obtain ⟨ds, v, b⟩ := F3.binds1 (ps := ["self", "top", "bottom"]) 3 1 (by simp) (by first | decide | rfl) fun _ _ _ _ _ _ _ us its h1 h2 => match us, its, h1, h2 with | [_, _, _], [_], _, _ => ⟨_, rfl, rfl⟩
    cases v
    exact b
  have e1_3 := F3.binds1 (ps := ["self", "top", "bottom"]) 2 0 (by simp) (by first | decide | rfl) fun _ _ _ _ _ _ _ us its h1 h2 => match us, its, h1, h2 with | [_, _], [_], _, _ => ⟨_, rfl, rfl⟩
  have F4 := fun_mk (st := sRatioTop) l4 c4 k4
  have b4 := F4.binds (ps := ["self"]) fun _ _ _ _ _ _ us hl => match us, hl with | [_], _ => rfl
  have F5 := fun_mk (st := sRatioBottom) l5 c5 k5
  have b5 := F5.binds (ps := ["self"]) fun _ _ _ _ _ _ us hl => match us, hl with | [_], _ => rfl
  have F6 := fun_mk (st := sRatioText) l6 c6 k6
  have b6 := F6.binds (ps := ["self"]) fun _ _ _ _ _ _ us hl => match us, hl with | [_], _ => rfl
  have F7 := fun_mk (st := sRatioFromText) l7 c7 k7
  have b7 := F7.binds (ps := ["cls", "text"]) fun _ _ _ _ _ _ us hl => match us, hl with | [_, _], _ => rfl
  have F8 := fun_mk (st := sIsWritten) l8 c8 k8
  have b8 := F8.binds (ps := ["word"]) fun _ _ _ _ _ _ us hl => match us, hl with | [_], _ => rfl
  have F9 := fun_mk (st := sLawPool) l9 c9 k9
  have b9 := F9.binds (ps := ["_law_script"]) fun _ _ _ _ _ _ us hl => match us, hl with | [_], _ => rfl
  have F10 := fun_mk (st := sLawMixed) l10 c10 k10
  have b10 := F10.binds (ps := ["_law_number", "_law_count", "_law_many"]) fun _ _ _ _ _ _ us hl => match us, hl with | [_, _, _], _ => rfl
  have F11 := fun_mk (st := sLawDraw) l11 c11 k11
  have b11 := F11.binds (ps := ["_law_pool_here", "_law_many"]) fun _ _ _ _ _ _ us hl => match us, hl with | [_, _], _ => rfl
  have F12 := fun_mk (st := sLawLowest) l12 c12 k12
  have b12 := F12.binds (ps := ["_law_upper", "_law_lower"]) fun _ _ _ _ _ _ us hl => match us, hl with | [_, _], _ => rfl
  have F13 := fun_mk (st := sLawWhole) l13 c13 k13
  have b13 := F13.binds (ps := ["_law_thing"]) fun _ _ _ _ _ _ us hl => match us, hl with | [_], _ => rfl
  have F14 := fun_mk (st := sLawIsRatio) l14 c14 k14
  have b14 := F14.binds (ps := ["_law_thing", "_law_upper", "_law_lower"]) fun _ _ _ _ _ _ us hl => match us, hl with | [_, _, _], _ => rfl
  have F15 := fun_mk (st := sLawKind) l15 c15 k15
  have b15 := F15.binds (ps := ["_law_error"]) fun _ _ _ _ _ _ us hl => match us, hl with | [_], _ => rfl
  have F16 := fun_mk (st := sLawCaught) l16 c16 k16
  have b16 := F16.binds (ps := ["_law_call"]) fun _ _ _ _ _ _ us hl => match us, hl with | [_], _ => rfl
  have F17 := fun_mk (st := sLawInteger) l17 c17 k17
  have b17 := F17.binds (ps := ["_law_pool_here"]) fun _ _ _ _ _ _ us hl => match us, hl with | [_], _ => rfl
  have F18 := fun_mk (st := sLawPair) l18 c18 k18
  have b18 := F18.binds (ps := ["_law_pool_here"]) fun _ _ _ _ _ _ us hl => match us, hl with | [_], _ => rfl
  have F19 := fun_mk (st := sLawDigits) l19 c19 k19
  have b19 := F19.binds (ps := ["_law_word"]) fun _ _ _ _ _ _ us hl => match us, hl with | [_], _ => rfl
  have F20 := fun_mk (st := sLawRead) l20 c20 k20
  have b20 := F20.binds (ps := ["_law_text"]) fun _ _ _ _ _ _ us hl => match us, hl with | [_], _ => rfl
  have F21 := fun_mk (st := sLawRight) l21 c21 k21
  have b21 := F21.binds (ps := ["_law_text"]) fun _ _ _ _ _ _ us hl => match us, hl with | [_], _ => rfl
  have F22 := fun_mk (st := sLaw) l22 c22 k22
  have b22 := F22.binds (ps := ["_law_script"]) fun _ _ _ _ _ _ us hl => match us, hl with | [_], _ => rfl
  have T : Txt K mg ⟨C_Ratio, C_LineError, C_InvalidNumber, C_InvalidText, C_InvalidName, C_InvalidParents, C_InvalidVersion, C_InvalidHistory, C_InvalidLayout, C_InvalidPrices, C_InvalidTelling, C_InvalidDeeds, C_InvalidLine, C_InvalidRanges, C_InvalidCommand, C_ParseError, C_TooMany, C_NothingToUndo, i_InvalidNumber, i_InvalidText, f1, PySem.W.fnOf "is_integer" "is_integer" (defArgs sIsInteger) (defBody sIsInteger) (defScope sIsInteger) .none kV1 dc1 pm1 an1 cd1 ct1, f2, PySem.W.fnOf "common_divisor" "common_divisor" (defArgs sCommonDivisor) (defBody sCommonDivisor) (defScope sCommonDivisor) .none kV2 dc2 pm2 an2 cd2 ct2, f3, PySem.W.fnOf "__init__" "Ratio.__init__" (defArgs sRatioInit) (defBody sRatioInit) (defScope sRatioInit) (.ref T3) kV3 dc3 pm3 an3 cd3 ct3, f4, PySem.W.fnOf "top" "Ratio.top" (defArgs sRatioTop) (defBody sRatioTop) (defScope sRatioTop) .none kV4 dc4 pm4 an4 cd4 ct4, p4, f5, PySem.W.fnOf "bottom" "Ratio.bottom" (defArgs sRatioBottom) (defBody sRatioBottom) (defScope sRatioBottom) .none kV5 dc5 pm5 an5 cd5 ct5, p5, f6, PySem.W.fnOf "text" "Ratio.text" (defArgs sRatioText) (defBody sRatioText) (defScope sRatioText) .none kV6 dc6 pm6 an6 cd6 ct6, p6, f7, PySem.W.fnOf "from_text" "Ratio.from_text" (defArgs sRatioFromText) (defBody sRatioFromText) (defScope sRatioFromText) .none kV7 dc7 pm7 an7 cd7 ct7, p7, f8, PySem.W.fnOf "is_written" "is_written" (defArgs sIsWritten) (defBody sIsWritten) (defScope sIsWritten) .none kV8 dc8 pm8 an8 cd8 ct8, f9, PySem.W.fnOf "_law_pool" "_law_pool" (defArgs sLawPool) (defBody sLawPool) (defScope sLawPool) .none kV9 dc9 pm9 an9 cd9 ct9, f10, PySem.W.fnOf "_law_mixed" "_law_mixed" (defArgs sLawMixed) (defBody sLawMixed) (defScope sLawMixed) .none kV10 dc10 pm10 an10 cd10 ct10, f11, PySem.W.fnOf "_law_draw" "_law_draw" (defArgs sLawDraw) (defBody sLawDraw) (defScope sLawDraw) .none kV11 dc11 pm11 an11 cd11 ct11, f12, PySem.W.fnOf "_law_lowest" "_law_lowest" (defArgs sLawLowest) (defBody sLawLowest) (defScope sLawLowest) .none kV12 dc12 pm12 an12 cd12 ct12, f13, PySem.W.fnOf "_law_whole" "_law_whole" (defArgs sLawWhole) (defBody sLawWhole) (defScope sLawWhole) .none kV13 dc13 pm13 an13 cd13 ct13, f14, PySem.W.fnOf "_law_is_ratio" "_law_is_ratio" (defArgs sLawIsRatio) (defBody sLawIsRatio) (defScope sLawIsRatio) .none kV14 dc14 pm14 an14 cd14 ct14, f15, PySem.W.fnOf "_law_kind" "_law_kind" (defArgs sLawKind) (defBody sLawKind) (defScope sLawKind) .none kV15 dc15 pm15 an15 cd15 ct15, f16, PySem.W.fnOf "_law_caught" "_law_caught" (defArgs sLawCaught) (defBody sLawCaught) (defScope sLawCaught) .none kV16 dc16 pm16 an16 cd16 ct16, f17, PySem.W.fnOf "_law_integer" "_law_integer" (defArgs sLawInteger) (defBody sLawInteger) (defScope sLawInteger) .none kV17 dc17 pm17 an17 cd17 ct17, f18, PySem.W.fnOf "_law_pair" "_law_pair" (defArgs sLawPair) (defBody sLawPair) (defScope sLawPair) .none kV18 dc18 pm18 an18 cd18 ct18, f19, PySem.W.fnOf "_law_digits" "_law_digits" (defArgs sLawDigits) (defBody sLawDigits) (defScope sLawDigits) .none kV19 dc19 pm19 an19 cd19 ct19, f20, PySem.W.fnOf "_law_read" "_law_read" (defArgs sLawRead) (defBody sLawRead) (defScope sLawRead) .none kV20 dc20 pm20 an20 cd20 ct20, f21, PySem.W.fnOf "_law_right" "_law_right" (defArgs sLawRight) (defBody sLawRight) (defScope sLawRight) .none kV21 dc21 pm21 an21 (.ref cA21) ct21, cA21, tP21, _, PySem.W.fnOf "law" "law" (defArgs sLaw) (defBody sLaw) (defScope sLaw) .none kV22 dc22 pm22 an22 (.ref cA22) ct22, cA22, tP22⟩ := ⟨PySem.W.mg_of X G aCRatio, ⟨⟨pgRatio, hdRatio, poRatio, saRatio⟩, haRatio, hnRatio, tkRatio, hmRatio⟩, ⟨mkRatio, a3, i3, kcRatio⟩, nRatiokept_top, nRatiokept_bottom, kit_out qoRatioint, kit_out qoRatiobool, kit_in icRatio tyRatio qiRatioint (by intro z; cases z), kit_in icRatio tyRatio qiRatiobool (by intro z; cases z), kit_in icRatio tyRatio qiRatiostr (by intro z; cases z), kit_in icRatio tyRatio qiRatiolist (by intro z; cases z), kit_in icRatio tyRatio qiRatiotuple (by intro z; cases z), kit_in icRatio tyRatio qiRatiodict (by intro z; cases z), kit_in icRatio tyRatio qiRatioNoneType (by intro z; cases z), ⟨rdRatio, rgRatio⟩, wRatioint, wRatiobool, wRatiostr, wRatiolist, wRatiotuple, wRatiodict, wRatioNoneType, PySem.W.mg_of X G aCLineError, PySem.W.mg_of X G aCInvalidNumber, PySem.W.mg_of X G aCInvalidText, PySem.W.mg_of X G aCInvalidName, PySem.W.mg_of X G aCInvalidParents, PySem.W.mg_of X G aCInvalidVersion, PySem.W.mg_of X G aCInvalidHistory, PySem.W.mg_of X G aCInvalidLayout, PySem.W.mg_of X G aCInvalidPrices, PySem.W.mg_of X G aCInvalidTelling, PySem.W.mg_of X G aCInvalidDeeds, PySem.W.mg_of X G aCInvalidLine, PySem.W.mg_of X G aCInvalidRanges, PySem.W.mg_of X G aCInvalidCommand, PySem.W.mg_of X G aCParseError, PySem.W.mg_of X G aCTooMany, PySem.W.mg_of X G aCNothingToUndo, ⟨PySem.W.mg_of X G aCInvalidNumber, PySem.W.mg_none_of X G eSu, ⟨_, _, _, _, _, _, _, _, _, _, _, _, _, _, _, xlInvalidNumber, by rfl⟩, xsaInvalidNumber, xgaInvalidNumber, xggInvalidNumber, xnoInvalidNumber, xicInvalidNumber, xtiInvalidNumber, xkcInvalidNumber, ebInvalidNumber, xveInvalidNumber, etInvalidNumber, edInvalidNumber, xmcInvalidNumber, eOp, ksIInvalidNumber, rfTInvalidNumber, _, _, _, _, _, _, _, _, _, _, _, _, _, _, _, _, _, _, _, _, _, _, _, _, _, _, _, _, _, _, _, _, _, xliInvalidNumber, xcdInvalidNumber, xlcInvalidNumber, rfVInvalidNumber, rfFInvalidNumber, xlxInvalidNumber, rfLInvalidNumber⟩, ⟨by decide, fun i hi => match i with | 0 => kit_self | 1 => kit_inR xmcInvalidNumber eiInvalidText etInvalidText xsInvalidNumberInvalidText | 2 => kit_inR xmcInvalidNumber eiInvalidName etInvalidName xsInvalidNumberInvalidName | 3 => kit_inR xmcInvalidNumber eiInvalidParents etInvalidParents xsInvalidNumberInvalidParents | 4 => kit_inR xmcInvalidNumber eiInvalidVersion etInvalidVersion xsInvalidNumberInvalidVersion | 5 => kit_inR xmcInvalidNumber eiInvalidHistory etInvalidHistory xsInvalidNumberInvalidHistory | 6 => kit_inR xmcInvalidNumber eiInvalidLayout etInvalidLayout xsInvalidNumberInvalidLayout | 7 => kit_inR xmcInvalidNumber eiInvalidPrices etInvalidPrices xsInvalidNumberInvalidPrices | 8 => kit_inR xmcInvalidNumber eiInvalidTelling etInvalidTelling xsInvalidNumberInvalidTelling | 9 => kit_inR xmcInvalidNumber eiInvalidDeeds etInvalidDeeds xsInvalidNumberInvalidDeeds | 10 => kit_inR xmcInvalidNumber eiInvalidLine etInvalidLine xsInvalidNumberInvalidLine | 11 => kit_inR xmcInvalidNumber eiInvalidRanges etInvalidRanges xsInvalidNumberInvalidRanges | 12 => kit_inR xmcInvalidNumber eiInvalidCommand etInvalidCommand xsInvalidNumberInvalidCommand | 13 => kit_inR xmcInvalidNumber eiParseError etParseError xsInvalidNumberParseError | 14 => kit_inR xmcInvalidNumber eiTooMany etTooMany xsInvalidNumberTooMany | 15 => kit_inR xmcInvalidNumber eiNothingToUndo etNothingToUndo xsInvalidNumberNothingToUndo | n + 16 => absurd hi (by omega), kit_out xveInvalidNumber, ⟨isCls_some eiInvalidNumber, xgaInvalidNumber, xggInvalidNumber, ebInvalidNumber, xhcInvalidNumber, eHn, eTk, xmoInvalidNumber, edInvalidNumber, xnoInvalidNumber⟩, exm3 (PySem.W.exm_ref ebLineError edLineError etLineError xsInvalidNumberLineError) (PySem.W.exm_ref ebTooMany edTooMany etTooMany xsInvalidNumberTooMany) (PySem.W.exm_ref ebNothingToUndo edNothingToUndo etNothingToUndo xsInvalidNumberNothingToUndo)⟩, ⟨PySem.W.mg_of X G aCInvalidText, PySem.W.mg_none_of X G eSu, ⟨_, _, _, _, _, _, _, _, _, _, _, _, _, _, _, xlInvalidText, by rfl⟩, xsaInvalidText, xgaInvalidText, xggInvalidText, xnoInvalidText, xicInvalidText, xtiInvalidText, xkcInvalidText, ebInvalidText, xveInvalidText, etInvalidText, edInvalidText, xmcInvalidText, eOp, ksIInvalidText, rfTInvalidText, _, _, _, _, _, _, _, _, _, _, _, _, _, _, _, _, _, _, _, _, _, _, _, _, _, _, _, _, _, _, _, _, _, xliInvalidText, xcdInvalidText, xlcInvalidText, rfVInvalidText, rfFInvalidText, xlxInvalidText, rfLInvalidText⟩, ⟨by decide, fun i hi => match i with | 0 => kit_inR xmcInvalidText eiInvalidNumber etInvalidNumber xsInvalidTextInvalidNumber | 1 => kit_self | 2 => kit_inR xmcInvalidText eiInvalidName etInvalidName xsInvalidTextInvalidName | 3 => kit_inR xmcInvalidText eiInvalidParents etInvalidParents xsInvalidTextInvalidParents | 4 => kit_inR xmcInvalidText eiInvalidVersion etInvalidVersion xsInvalidTextInvalidVersion | 5 => kit_inR xmcInvalidText eiInvalidHistory etInvalidHistory xsInvalidTextInvalidHistory | 6 => kit_inR xmcInvalidText eiInvalidLayout etInvalidLayout xsInvalidTextInvalidLayout | 7 => kit_inR xmcInvalidText eiInvalidPrices etInvalidPrices xsInvalidTextInvalidPrices | 8 => kit_inR xmcInvalidText eiInvalidTelling etInvalidTelling xsInvalidTextInvalidTelling | 9 => kit_inR xmcInvalidText eiInvalidDeeds etInvalidDeeds xsInvalidTextInvalidDeeds | 10 => kit_inR xmcInvalidText eiInvalidLine etInvalidLine xsInvalidTextInvalidLine | 11 => kit_inR xmcInvalidText eiInvalidRanges etInvalidRanges xsInvalidTextInvalidRanges | 12 => kit_inR xmcInvalidText eiInvalidCommand etInvalidCommand xsInvalidTextInvalidCommand | 13 => kit_inR xmcInvalidText eiParseError etParseError xsInvalidTextParseError | 14 => kit_inR xmcInvalidText eiTooMany etTooMany xsInvalidTextTooMany | 15 => kit_inR xmcInvalidText eiNothingToUndo etNothingToUndo xsInvalidTextNothingToUndo | n + 16 => absurd hi (by omega), kit_out xveInvalidText, ⟨isCls_some eiInvalidText, xgaInvalidText, xggInvalidText, ebInvalidText, xhcInvalidText, eHn, eTk, xmoInvalidText, edInvalidText, xnoInvalidText⟩, exm3 (PySem.W.exm_ref ebLineError edLineError etLineError xsInvalidTextLineError) (PySem.W.exm_ref ebTooMany edTooMany etTooMany xsInvalidTextTooMany) (PySem.W.exm_ref ebNothingToUndo edNothingToUndo etNothingToUndo xsInvalidTextNothingToUndo)⟩, F1, PySem.W.mg_of X G a1, b1, F2, PySem.W.mg_of X G a2, b2, F3, e1_3, ⟨a3, i3, k3⟩, b3, F4, ⟨a4, g4, tp4, ⟨_, r4⟩⟩, b4, F5, ⟨a5, g5, tp5, ⟨_, r5⟩⟩, b5, F6, ⟨a6, g6, tp6, ⟨_, r6⟩⟩, b6, F7, ⟨a7, ⟨_, r7⟩, by unfold PySem.W.fnIn; rw [l7]⟩, b7, F8, PySem.W.mg_of X G a8, b8, F9, PySem.W.mg_of X G a9, b9, F10, PySem.W.mg_of X G a10, b10, F11, PySem.W.mg_of X G a11, b11, F12, PySem.W.mg_of X G a12, b12, F13, PySem.W.mg_of X G a13, b13, F14, PySem.W.mg_of X G a14, b14, F15, PySem.W.mg_of X G a15, b15, F16, PySem.W.mg_of X G a16, b16, F17, PySem.W.mg_of X G a17, b17, F18, PySem.W.mg_of X G a18, b18, F19, PySem.W.mg_of X G a19, b19, F20, PySem.W.mg_of X G a20, b20, ⟨⟨_, _, _, _, _, _, _, _, rfl, l21, c21⟩, k21⟩, tab_mk a21 l21 rfl lk21 rfP21, nt21, F21, PySem.W.mg_of X G a21, b21, ⟨⟨_, _, _, _, _, _, _, _, rfl, l22, c22⟩, k22⟩, tab_mk a22 l22 rfl lk22 rfP22, nt22, dt21_22, F22, PySem.W.mg_of X G a22, b22, PySem.W.mg_none_of X G z0, PySem.W.mg_none_of X G z1, PySem.W.mg_none_of X G z2, PySem.W.mg_none_of X G z3, PySem.W.mg_none_of X G z7, PySem.W.mg_none_of X G z8, PySem.W.mg_none_of X G z9, PySem.W.mg_none_of X G z11, PySem.W.mg_none_of X G z12, ⟨_, PySem.W.mg_of X G z14⟩, ⟨_, PySem.W.mg_of X G z15⟩, PySem.W.mg_none_of X G z34, PySem.W.mg_none_of X G z37, PySem.W.mg_none_of X G z45⟩
  refine ⟨_, [(cA21, tP21), (cA22, tP22)], ?_, ?_, fun s v => .of_eq rfl, fun base _ _ TB => ok_law T TB⟩
  · simp only [List.mem_cons, List.not_mem_nil, or_false, forall_eq_or_imp, forall_eq]
    exact ⟨⟨"_law_right", by simp, T.tb_LawRight⟩, ⟨"law", by simp, T.tb_Law⟩⟩
  · simp only [List.mem_cons, List.not_mem_nil, or_false, forall_eq_or_imp, forall_eq]
    exact ⟨nt21, nt22⟩

end My
open PySem PySem.W PyProof.Rows in
set_option maxRecDepth 100000 in
set_option maxHeartbeats 0 in
theorem PySem.Challenge.cw_lineorigins_k04_ratio_texts_holds : PySem.Challenge.rw_lineorigins_k04_ratio_texts.Holds := by
  w_on; o_law; k_head; (case hw => w_witness2)
  k_fill
  refine My.walk_ofGT (l := PySem.Challenge.rw_lineorigins_k04_ratio_texts) (n := 63) (k := 10) (x := "_law_script") (sp := fun K cs => My.spLaw K cs) ["_law_right", "law"] rfl (by decide) rfl ⟨rfl, by decide, by decide⟩ (fun w h Y => by first | exact PySem.W.km_in_of Y | exact PySem.W.kIn_of Y) (by decide +kernel) ?F (fun _ cs H a ns hl hH hS => ⟨a, ns, rfl, hS, hl, hH, fun _ => rfl⟩)
  case F =>
    intro w mg fa h KX G hmg
    refine' My.all_mk KX G hmg ?aCRatio ?pgRatio ?hdRatio ?poRatio ?saRatio ?haRatio ?hnRatio ?tkRatio ?hmRatio ?mkRatio ?kcRatio ?nRatiokept_top ?nRatiokept_bottom ?icRatio ?tyRatio ?qoRatioint ?qoRatiobool ?qiRatioint ?qiRatiobool ?qiRatiostr ?qiRatiolist ?qiRatiotuple ?qiRatiodict ?qiRatioNoneType ?rdRatio ?rgRatio ?wRatioint ?wRatiobool ?wRatiostr ?wRatiolist ?wRatiotuple ?wRatiodict ?wRatioNoneType ?aCLineError ?ebLineError ?edLineError ?etLineError ?eiLineError ?aCInvalidNumber ?ebInvalidNumber ?edInvalidNumber ?etInvalidNumber ?eiInvalidNumber ?aCInvalidText ?ebInvalidText ?edInvalidText ?etInvalidText ?eiInvalidText ?aCInvalidName ?ebInvalidName ?edInvalidName ?etInvalidName ?eiInvalidName ?aCInvalidParents ?ebInvalidParents ?edInvalidParents ?etInvalidParents ?eiInvalidParents ?aCInvalidVersion ?ebInvalidVersion ?edInvalidVersion ?etInvalidVersion ?eiInvalidVersion ?aCInvalidHistory ?ebInvalidHistory ?edInvalidHistory ?etInvalidHistory ?eiInvalidHistory ?aCInvalidLayout ?ebInvalidLayout ?edInvalidLayout ?etInvalidLayout ?eiInvalidLayout ?aCInvalidPrices ?ebInvalidPrices ?edInvalidPrices ?etInvalidPrices ?eiInvalidPrices ?aCInvalidTelling ?ebInvalidTelling ?edInvalidTelling ?etInvalidTelling ?eiInvalidTelling ?aCInvalidDeeds ?ebInvalidDeeds ?edInvalidDeeds ?etInvalidDeeds ?eiInvalidDeeds ?aCInvalidLine ?ebInvalidLine ?edInvalidLine ?etInvalidLine ?eiInvalidLine ?aCInvalidRanges ?ebInvalidRanges ?edInvalidRanges ?etInvalidRanges ?eiInvalidRanges ?aCInvalidCommand ?ebInvalidCommand ?edInvalidCommand ?etInvalidCommand ?eiInvalidCommand ?aCParseError ?ebParseError ?edParseError ?etParseError ?eiParseError ?aCTooMany ?ebTooMany ?edTooMany ?etTooMany ?eiTooMany ?aCNothingToUndo ?ebNothingToUndo ?edNothingToUndo ?etNothingToUndo ?eiNothingToUndo ?eSu ?eOp ?eHn ?eTk ?xlInvalidNumber ?xsaInvalidNumber ?xgaInvalidNumber ?xggInvalidNumber ?xnoInvalidNumber ?xicInvalidNumber ?xtiInvalidNumber ?xkcInvalidNumber ?xveInvalidNumber ?xmcInvalidNumber ?xmoInvalidNumber ?xhcInvalidNumber ?xliInvalidNumber ?xcdInvalidNumber ?xlcInvalidNumber ?xlxInvalidNumber ?ksIInvalidNumber ?rfVInvalidNumber ?rfFInvalidNumber ?rfLInvalidNumber ?rfTInvalidNumber ?xsInvalidNumberLineError ?xsInvalidNumberInvalidText ?xsInvalidNumberInvalidName ?xsInvalidNumberInvalidParents ?xsInvalidNumberInvalidVersion ?xsInvalidNumberInvalidHistory ?xsInvalidNumberInvalidLayout ?xsInvalidNumberInvalidPrices ?xsInvalidNumberInvalidTelling ?xsInvalidNumberInvalidDeeds ?xsInvalidNumberInvalidLine ?xsInvalidNumberInvalidRanges ?xsInvalidNumberInvalidCommand ?xsInvalidNumberParseError ?xsInvalidNumberTooMany ?xsInvalidNumberNothingToUndo ?xlInvalidText ?xsaInvalidText ?xgaInvalidText ?xggInvalidText ?xnoInvalidText ?xicInvalidText ?xtiInvalidText ?xkcInvalidText ?xveInvalidText ?xmcInvalidText ?xmoInvalidText ?xhcInvalidText ?xliInvalidText ?xcdInvalidText ?xlcInvalidText ?xlxInvalidText ?ksIInvalidText ?rfVInvalidText ?rfFInvalidText ?rfLInvalidText ?rfTInvalidText ?xsInvalidTextLineError ?xsInvalidTextInvalidNumber ?xsInvalidTextInvalidName ?xsInvalidTextInvalidParents ?xsInvalidTextInvalidVersion ?xsInvalidTextInvalidHistory ?xsInvalidTextInvalidLayout ?xsInvalidTextInvalidPrices ?xsInvalidTextInvalidTelling ?xsInvalidTextInvalidDeeds ?xsInvalidTextInvalidLine ?xsInvalidTextInvalidRanges ?xsInvalidTextInvalidCommand ?xsInvalidTextParseError ?xsInvalidTextTooMany ?xsInvalidTextNothingToUndo ?a1 ?l1 ?c1 ?k1 ?a2 ?l2 ?c2 ?k2 ?a3 ?i3 ?l3 ?c3 ?k3 ?lt3 ?a4 ?g4 ?tp4 ?r4 ?l4 ?c4 ?k4 ?a5 ?g5 ?tp5 ?r5 ?l5 ?c5 ?k5 ?a6 ?g6 ?tp6 ?r6 ?l6 ?c6 ?k6 ?a7 ?r7 ?l7 ?c7 ?k7 ?a8 ?l8 ?c8 ?k8 ?a9 ?l9 ?c9 ?k9 ?a10 ?l10 ?c10 ?k10 ?a11 ?l11 ?c11 ?k11 ?a12 ?l12 ?c12 ?k12 ?a13 ?l13 ?c13 ?k13 ?a14 ?l14 ?c14 ?k14 ?a15 ?l15 ?c15 ?k15 ?a16 ?l16 ?c16 ?k16 ?a17 ?l17 ?c17 ?k17 ?a18 ?l18 ?c18 ?k18 ?a19 ?l19 ?c19 ?k19 ?a20 ?l20 ?c20 ?k20 ?a21 ?l21 ?c21 ?lk21 ?rfP21 ?nt21 ?k21 ?a22 ?l22 ?c22 ?lk22 ?rfP22 ?nt22 ?dt21_22 ?k22 ?z0 ?z1 ?z2 ?z3 ?z7 ?z8 ?z9 ?z11 ?z12 ?z14 ?z15 ?z34 ?z37 ?z45
    (case aCRatio => k_is); (case pgRatio => k_is); (case hdRatio => k_is); (case poRatio => k_is); (case saRatio => k_is); (case haRatio => k_is); (case hnRatio => k_is); (case tkRatio => k_is); (case hmRatio => k_is); (case mkRatio => k_is); (case kcRatio => k_is); (case nRatiokept_top => k_is); (case nRatiokept_bottom => k_is); (case icRatio => k_is); (case tyRatio => k_is); (case qoRatioint => k_is); (case qoRatiobool => k_is); (case qiRatioint => k_is); (case qiRatiobool => k_is); (case qiRatiostr => k_is); (case qiRatiolist => k_is); (case qiRatiotuple => k_is); (case qiRatiodict => k_is); (case qiRatioNoneType => k_is); (case rdRatio => k_is); (case rgRatio => k_is); (case wRatioint => k_is); (case wRatiobool => k_is); (case wRatiostr => k_is); (case wRatiolist => k_is); (case wRatiotuple => k_is); (case wRatiodict => k_is); (case wRatioNoneType => k_is); (case aCLineError => k_is); (case ebLineError => k_is); (case edLineError => k_is); (case etLineError => k_is); (case eiLineError => k_is); (case aCInvalidNumber => k_is); (case ebInvalidNumber => k_is); (case edInvalidNumber => k_is); (case etInvalidNumber => k_is); (case eiInvalidNumber => k_is); (case aCInvalidText => k_is); (case ebInvalidText => k_is); (case edInvalidText => k_is); (case etInvalidText => k_is); (case eiInvalidText => k_is); (case aCInvalidName => k_is); (case ebInvalidName => k_is); (case edInvalidName => k_is); (case etInvalidName => k_is); (case eiInvalidName => k_is); (case aCInvalidParents => k_is); (case ebInvalidParents => k_is); (case edInvalidParents => k_is); (case etInvalidParents => k_is); (case eiInvalidParents => k_is); (case aCInvalidVersion => k_is); (case ebInvalidVersion => k_is); (case edInvalidVersion => k_is); (case etInvalidVersion => k_is); (case eiInvalidVersion => k_is); (case aCInvalidHistory => k_is); (case ebInvalidHistory => k_is); (case edInvalidHistory => k_is); (case etInvalidHistory => k_is); (case eiInvalidHistory => k_is); (case aCInvalidLayout => k_is); (case ebInvalidLayout => k_is); (case edInvalidLayout => k_is); (case etInvalidLayout => k_is); (case eiInvalidLayout => k_is); (case aCInvalidPrices => k_is); (case ebInvalidPrices => k_is); (case edInvalidPrices => k_is); (case etInvalidPrices => k_is); (case eiInvalidPrices => k_is); (case aCInvalidTelling => k_is); (case ebInvalidTelling => k_is); (case edInvalidTelling => k_is); (case etInvalidTelling => k_is); (case eiInvalidTelling => k_is); (case aCInvalidDeeds => k_is); (case ebInvalidDeeds => k_is); (case edInvalidDeeds => k_is); (case etInvalidDeeds => k_is); (case eiInvalidDeeds => k_is); (case aCInvalidLine => k_is); (case ebInvalidLine => k_is); (case edInvalidLine => k_is); (case etInvalidLine => k_is); (case eiInvalidLine => k_is); (case aCInvalidRanges => k_is); (case ebInvalidRanges => k_is); (case edInvalidRanges => k_is); (case etInvalidRanges => k_is); (case eiInvalidRanges => k_is); (case aCInvalidCommand => k_is); (case ebInvalidCommand => k_is); (case edInvalidCommand => k_is); (case etInvalidCommand => k_is); (case eiInvalidCommand => k_is); (case aCParseError => k_is); (case ebParseError => k_is); (case edParseError => k_is); (case etParseError => k_is); (case eiParseError => k_is); (case aCTooMany => k_is); (case ebTooMany => k_is); (case edTooMany => k_is); (case etTooMany => k_is); (case eiTooMany => k_is); (case aCNothingToUndo => k_is); (case ebNothingToUndo => k_is); (case edNothingToUndo => k_is); (case etNothingToUndo => k_is); (case eiNothingToUndo => k_is); (case eSu => k_is); (case eOp => k_is); (case eHn => k_is); (case eTk => k_is); (case xlInvalidNumber => k_is); (case xsaInvalidNumber => k_is); (case xgaInvalidNumber => k_is); (case xggInvalidNumber => k_is); (case xnoInvalidNumber => k_is); (case xicInvalidNumber => k_is); (case xtiInvalidNumber => k_is); (case xkcInvalidNumber => k_is); (case xveInvalidNumber => k_is); (case xmcInvalidNumber => k_is); (case xmoInvalidNumber => k_is); (case xhcInvalidNumber => k_is); (case xliInvalidNumber => k_is); (case xcdInvalidNumber => k_is); (case xlcInvalidNumber => k_is); (case xlxInvalidNumber => k_is); (case ksIInvalidNumber => ks_is); (case rfVInvalidNumber => first | rfl | decide +kernel | kernel_rfl); (case rfFInvalidNumber => first | rfl | decide +kernel | kernel_rfl); (case rfLInvalidNumber => first | rfl | decide +kernel | kernel_rfl); (case rfTInvalidNumber => first | rfl | decide +kernel | kernel_rfl); (case xsInvalidNumberLineError => k_is); (case xsInvalidNumberInvalidText => k_is); (case xsInvalidNumberInvalidName => k_is); (case xsInvalidNumberInvalidParents => k_is); (case xsInvalidNumberInvalidVersion => k_is); (case xsInvalidNumberInvalidHistory => k_is); (case xsInvalidNumberInvalidLayout => k_is); (case xsInvalidNumberInvalidPrices => k_is); (case xsInvalidNumberInvalidTelling => k_is); (case xsInvalidNumberInvalidDeeds => k_is); (case xsInvalidNumberInvalidLine => k_is); (case xsInvalidNumberInvalidRanges => k_is); (case xsInvalidNumberInvalidCommand => k_is); (case xsInvalidNumberParseError => k_is); (case xsInvalidNumberTooMany => k_is); (case xsInvalidNumberNothingToUndo => k_is); (case xlInvalidText => k_is); (case xsaInvalidText => k_is); (case xgaInvalidText => k_is); (case xggInvalidText => k_is); (case xnoInvalidText => k_is); (case xicInvalidText => k_is); (case xtiInvalidText => k_is); (case xkcInvalidText => k_is); (case xveInvalidText => k_is); (case xmcInvalidText => k_is); (case xmoInvalidText => k_is); (case xhcInvalidText => k_is); (case xliInvalidText => k_is); (case xcdInvalidText => k_is); (case xlcInvalidText => k_is); (case xlxInvalidText => k_is); (case ksIInvalidText => ks_is); (case rfVInvalidText => first | rfl | decide +kernel | kernel_rfl); (case rfFInvalidText => first | rfl | decide +kernel | kernel_rfl); (case rfLInvalidText => first | rfl | decide +kernel | kernel_rfl); (case rfTInvalidText => first | rfl | decide +kernel | kernel_rfl); (case xsInvalidTextLineError => k_is); (case xsInvalidTextInvalidNumber => k_is); (case xsInvalidTextInvalidName => k_is); (case xsInvalidTextInvalidParents => k_is); (case xsInvalidTextInvalidVersion => k_is); (case xsInvalidTextInvalidHistory => k_is); (case xsInvalidTextInvalidLayout => k_is); (case xsInvalidTextInvalidPrices => k_is); (case xsInvalidTextInvalidTelling => k_is); (case xsInvalidTextInvalidDeeds => k_is); (case xsInvalidTextInvalidLine => k_is); (case xsInvalidTextInvalidRanges => k_is); (case xsInvalidTextInvalidCommand => k_is); (case xsInvalidTextParseError => k_is); (case xsInvalidTextTooMany => k_is); (case xsInvalidTextNothingToUndo => k_is); (case a1 => k_is); (case l1 => k_is); (case c1 => k_is); (case k1 => k_is); (case a2 => k_is); (case l2 => k_is); (case c2 => k_is); (case k2 => k_is); (case a3 => k_is); (case i3 => k_is); (case l3 => k_is); (case c3 => k_is); (case k3 => k_is); (case lt3 => k_is); (case a4 => k_is); (case g4 => k_is); (case tp4 => k_is); (case r4 => k_is); (case l4 => k_is); (case c4 => k_is); (case k4 => k_is); (case a5 => k_is); (case g5 => k_is); (case tp5 => k_is); (case r5 => k_is); (case l5 => k_is); (case c5 => k_is); (case k5 => k_is); (case a6 => k_is); (case g6 => k_is); (case tp6 => k_is); (case r6 => k_is); (case l6 => k_is); (case c6 => k_is); (case k6 => k_is); (case a7 => k_is); (case r7 => k_is); (case l7 => k_is); (case c7 => k_is); (case k7 => k_is); (case a8 => k_is); (case l8 => k_is); (case c8 => k_is); (case k8 => k_is); (case a9 => k_is); (case l9 => k_is); (case c9 => k_is); (case k9 => k_is); (case a10 => k_is); (case l10 => k_is); (case c10 => k_is); (case k10 => k_is); (case a11 => k_is); (case l11 => k_is); (case c11 => k_is); (case k11 => k_is); (case a12 => k_is); (case l12 => k_is); (case c12 => k_is); (case k12 => k_is); (case a13 => k_is); (case l13 => k_is); (case c13 => k_is); (case k13 => k_is); (case a14 => k_is); (case l14 => k_is); (case c14 => k_is); (case k14 => k_is); (case a15 => k_is); (case l15 => k_is); (case c15 => k_is); (case k15 => k_is); (case a16 => k_is); (case l16 => k_is); (case c16 => k_is); (case k16 => k_is); (case a17 => k_is); (case l17 => k_is); (case c17 => k_is); (case k17 => k_is); (case a18 => k_is); (case l18 => k_is); (case c18 => k_is); (case k18 => k_is); (case a19 => k_is); (case l19 => k_is); (case c19 => k_is); (case k19 => k_is); (case a20 => k_is); (case l20 => k_is); (case c20 => k_is); (case k20 => k_is); (case a21 => k_is); (case l21 => k_is); (case c21 => k_is); (case lk21 => k_is); (case rfP21 => first | rfl | decide +kernel | kernel_rfl); (case nt21 => first | rfl | kernel_rfl); (case k21 => k_is); (case a22 => k_is); (case l22 => k_is); (case c22 => k_is); (case lk22 => k_is); (case rfP22 => first | rfl | decide +kernel | kernel_rfl); (case nt22 => first | rfl | kernel_rfl); (case dt21_22 => decide); (case k22 => k_is); (case z0 => k_is); (case z1 => k_is); (case z2 => k_is); (case z3 => k_is); (case z7 => k_is); (case z8 => k_is); (case z9 => k_is); (case z11 => k_is); (case z12 => k_is); (case z14 => k_is); (case z15 => k_is); (case z34 => k_is); (case z37 => k_is); (case z45 => k_is)
