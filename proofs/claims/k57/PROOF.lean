import PyProof.Rows.All
import Wide.All
import OpenK.AllK
import Wide.FinOn
import HandS.ForMost
import HandS.IsInst
import HandS.Wide
import HandS.Walk
import HandS.Evl
import HandS.TupLe
import HandS.Defaults
import HandS.NoneIn
import HandS.ClsMeth
import HandS.Exc
import HandS.Lambda
import HandS.EndTab
import HandS.Property
import HandS.MakeKw
import HandS.MakeKwOnly
import HandS.ExcOwn
import HandS.WordsExc
import HandS.ExcIs
import KE.KExcSuper
import KE.KTryMore
import KE.KExcIs
import KE.KNest
import HandS.Set
import HandS.SetFor
import HandS.SetTxt0
import HandS.SetTxtIn
import HandS.More
import PyProof.InstNe
import KE.KCallOwn
import KE.KRevSl
import HandS.Star
import HandS.Style
import HandS.Replace
import PyProof.EqAt
import PyProof.NeKinds
import KE.GoesMore
import HandS.IterVal
import HandS.IterNext
import KE.KOwnIter
import HandS.Zip
import HandS.TupAny
import PySem.Challenge.RW_lineorigins_k57_ranges_in_common_and_joi
set_option Elab.async false
set_option linter.all false
set_option maxRecDepth 100000
set_option maxHeartbeats 4000000
namespace My
open PySem L2


/-! ### exceptions of the program's own: __init__ says super().__init__('..') and keeps its argument (over ValueError) -/
section
open PySem.W PySem.Calls PyProof.Rows PySem.HandSPX
def xA (p1 p2 : Pos) : Arguments := { posonlyargs := [], args := [{ arg := "self", annotation := none, pos := p1 }, { arg := "value", annotation := none, pos := p2 }], vararg := none, kwonlyargs := [], kw_defaults := [], kwarg := none, defaults := [] }
def xB (m : Str) (j : Nat) (q0 q1 q2 q3 q4 q5 q6 q7 q8 q9 : Pos) : List Stmt := [.Expr (.Call (.Attribute (.Call (.Name "super" q0) [] [] q1) "__init__" q2) [.Constant (.str m) j q3] [] q4) q5, .Assign [.Attribute (.Name "self" q6) "value" q7] (.Name "value" q8) q9]
def xS : Scope := { kind := .function, names := [(PySem.Str.ofString "self", .local), (PySem.Str.ofString "value", .local), (PySem.Str.ofString "__class__", .free), (PySem.Str.ofString "super", .globalImplicit)], isGenerator := false, isCoroutine := false, more := [] }
theorem xk1 : xS.names.lookup ("super" : Str) = some .globalImplicit := by decide +kernel
theorem xk2 : xS.names.lookup ("__class__" : Str) = some .free := by decide +kernel
theorem xk3 : xS.names.lookup ("self" : Str) = some .local := by decide +kernel
theorem xk4 : xS.names.lookup ("value" : Str) = some .local := by decide +kernel
/-- what the written part says of such a class, at C, and of its __init__, at fI -/
structure XTxt (prog : Program) (K : Frag) (mg : Str → Option Value) (x : Str) (C fI : Addr) : Prop where
  gC : mg x = some (.ref C)
  su : mg "super" = none
  cls : ∃ nm q N bs bm sn sub ab col dd k0 k1 k2 k3 k5, K.lookup C = some (excClassObj nm q C N bs bm true sn sub ab col dd k0 k1 k2 k3 k5 "ValueError.__new__") ∧ refsVE bm = true
  sa : findIn K (.ref C) "__setattr__" = some (some (.builtin "object.__setattr__"))
  ga : findIn K (.ref C) "__getattribute__" = some (some (.builtin "BaseException.__getattribute__"))
  gg : findIn K (.ref C) "__getattr__" = some none
  no : findIn K (.ref C) "value" = some none
  iC : findIn K (.ref C) "__init__" = some (some (.ref fI))
  tI : typeIn K (.ref fI) = some (.type "function")
  kC : keepIn K (.ref C) = true
  exC : subIn K (.ref C) (.type "BaseException") = some true
  veC : subIn K (.ref C) (.type "ValueError") = some true
  tyC : typeIn K (.ref C) = some (.type "type")
  hdC : hasDictIn K C = true
  mC : mroIn K C (.ref C) = some true
  op : nsIn K cStatics "thirdparty.any" = some none
  sI : ks_superIn K C C "__init__" = some (some (.builtin "ValueError.__init__"))
  top : (prog.main.scope.names.lookup ("super" : Str)).isSome = false
  fn : ∃ (oc : Value) (od : Option Addr) (doc pm : Value) (an : Option Addr) (cda cc : Addr) (ct : Value) (osl : Array (Option Value)) (qual m : Str) (j : Nat) (p1 p2 q0 q1 q2 q3 q4 q5 q6 q7 q8 q9 : Pos) (ccl : Value) (cdd : Option Addr) (vs : Array Value) (ccs : Array (Option Value)) (cl : Value) (cld : Option Addr) (csl : Array (Option Value)) (file : Str) (tf : Tok),
    K.lookup fI = some ⟨oc, od, .func (ksFn "__init__" qual (xA p1 p2) (xB m j q0 q1 q2 q3 q4 q5 q6 q7 q8 q9) xS .none .none doc pm an (.ref cda) ct cc), osl⟩ ∧ codeIn K (.ref cda) qual = true ∧
    K.lookup cda = some ⟨ccl, cdd, .fields vs, ccs⟩ ∧ vs[2]? = some (.str file tf) ∧ ((prog.main.file : Str) == file) = true ∧ K.lookup cc = some ⟨cl, cld, .cell (some (.ref C)), csl⟩ ∧ (q2.endLine == q4.line) = true
/-- what __init__ leaves of a fresh exception at x -/
structure XEnd (h h' : Heap) (x C dx : Addr) (v : Value) : Prop where
  keep : ∀ b o, b ≠ x → h.get? b = some o → h'.get? b = some o
  obj : ∃ t1 : Addr, h'.get? x = some { cls := .ref C, dict := some dx, data := .fields #[.ref t1, .none, .none, .none, .bool false, .none] }
  dbig : h.objs.size ≤ dx
  dne : dx ≠ x
  ns : h'.Ns1 dx (fun y => if y = "value" then some v else none)
section
variable {prog : Program} {w : World} {A : Around} {E : Value → Shared → Prop} {R : Result → Shared → Prop} {s : Shared} {K : Frag} {mg : Str → Option Value} {C fI : Addr} {n : Str}
theorem x_init (T : XTxt prog K mg n C fI) {x t0 : Addr} {v : Value} (X : K.In s.heap) (hg : s.heap.Ns mainGlobals mg) (hb : ∃ mb, s.heap.Ns builtinsNs mb ∧ ∀ x : Str, x ≠ "__name__" → mb x = bootBuiltins x) (hlim : s.heap.NoLimit) (hx : s.heap.get? x = some (excO C t0)) (hnx : K.lookup x = none) (hroom : A.depth < recursionLimit)
    (hq : ∀ h' tk dx, XEnd s.heap h' x C dx v → R (.ok (.ret .none)) { s with heap := h', toks := tk }) :
    codeAny (model prog w) A (.call (.ref fI) ⟨[.ref x, v], []⟩) R s := by
  obtain ⟨oc, od, doc, pm, an, cda, cc, ct, osl, qual, m, j, p1, p2, q0, q1, q2, q3, q4, q5, q6, q7, q8, q9, ccl, cdd, vs, ccs, cl, cld, csl, file, tf, ho, hcd, hcode, hvs, hfile, hcell, hline⟩ := T.fn
  obtain ⟨nm, q, N, bs, bm, sn, sub, ab, col, dd, k0, k1, k2, k3, k5, hC, hbm⟩ := T.cls
  obtain ⟨mb, hb, hbb⟩ := hb
  have hcl : clsIn K C = some { name := nm, bases := bs, mro := .ref C :: bm, ns := N, qualname := q, hasDict := true, slotNames := sn, subclasses := sub, abstract := ab, collection := col, hasDel := false } := by unfold clsIn; rw [hC] <;> rfl
  refine ks_codeAny_call_defAt (fd := ksFn "__init__" qual (xA p1 p2) (xB m j q0 q1 q2 q3 q4 q5 q6 q7 q8 q9) xS .none .none doc pm an (.ref cda) ct cc) (body := xB m j q0 q1 q2 q3 q4 q5 q6 q7 q8 q9) (binds := [("self", .ref x), ("value", v)]) hroom (X _ _ ho) rfl hlim (codeRec_of X hcd) rfl (BindsTo.of_eq (by first | rfl | with_unfolding_all rfl)) (show ∀ x ∈ xS.names, x.2 ≠ .cell by decide +kernel) (by
    intro y hy
    simp only [List.mem_cons, List.not_mem_nil, or_false] at hy
    rcases hy with rfl | rfl
    · show xS.names.lookup ("self" : Str) = _
      decide +kernel
    · show xS.names.lookup ("value" : Str) = _
      decide +kernel) (fun h₁ hns k => ?_) rfl rfl rfl
  have X₁ : K.In h₁ := X.keeps k
  have hx₁ := k _ _ hx
  have I₁ : InstAt h₁ x (excO C t0) C none := ⟨hx₁, rfl, rfl, trivial⟩
  obtain ⟨oD, hD1, hD2⟩ : ∃ oD, h₁.get? C = some oD ∧ ∃ cd, oD.data = .cls cd := ⟨_, X₁ _ _ hC, _, rfl⟩
  obtain ⟨cdD, hD2⟩ := hD2
  refine ks_wpAt_execs_cons (ks_wpAt_Expr_any (ks_wpAt_MethodCall (pl := pure false) ?_ ?_))
  rotate_left
  · show (attributeBase _ _ _ _ >>= fun ov => standAt _ >>= fun _ => methodCall _ _ _ _ _ ov _ _ _) = _
    refine congrArg _ (funext fun ov => congrArg _ (funext fun _ => ?_))
    unfold methodCall methodCallPos
    rw [hline]
    rfl
  refine ks_wpAt_super_base (env := ksEnv qual xS s.heap.objs.size fI (.ref cda) cc) (ar := { arg := "self", annotation := none, pos := p1 }) xk1 xk2 (by decide) rfl (X₁ _ _ ho) rfl rfl rfl (X₁ _ _ hcode) rfl hvs hfile T.top ?_
  refine ks_loadName_global rfl xk1 (loadGlobal_builtin (env := ksEnv qual xS s.heap.objs.size fI (.ref cda) cc) (hg.keeps k) T.su (hb.keeps k) ((hbb _ (by decide +kernel)).trans (by first | rfl | decide +kernel)) ⟨rfl, ?_⟩)
  refine wpAny_loadName_free rfl xk2 rfl ⟨_, X₁ _ _ hcell, rfl⟩ ?_
  refine wpAny_loadName_local rfl xk3 hns (v := .ref x) (by first | rfl | with_unfolding_all rfl | kernel_rfl) ?_
  refine ks_wpAny_isType_cls hD1 hD2 ⟨rfl, ?_⟩
  refine ks_wpAny_call_super hD1 hD2 hx₁ rfl (fun c e => by cases e) (looks_mroIn X₁ T.mC) (fun h₂ e₂ k₂ => ?_)
  have X₂ : K.In h₂ := X₁.keeps k₂
  have hx₂ := k₂ _ _ hx₁
  have I₂ : InstAt h₂ x (excO C t0) C none := ⟨hx₂, rfl, rfl, trivial⟩
  have hm : alongIn K "__init__" (((Value.ref C :: bm).dropWhile (· != .ref C)).drop 1) = some (some (.builtin "ValueError.__init__")) := by
    have z := T.sI
    unfold ks_superIn at z
    rw [hcl] at z
    exact z
  refine kxs_getMethod kxs_ValueError e₂ (looks_opaque X₂ T.op) (l₀ := .ref C :: bm) (fun A Q E s k q => wpAny_bind ((looks_clsIn X₂ hcl) A _ E s k (wpAny_pure q))) rfl X₂ hm (I₂.type.andThen (looks_subIn X₂ T.veC)) (ks_ne X₂ I₂ hcl) (by decide) ?_
  have k₃ : ∀ b o, h₂.get? b = some o → (h₂.push (kxs_mw "ValueError.__init__" x)).get? b = some o := fun b o e => Heap.get?_push_of_some _ e
  have hu : (h₂.push (kxs_mw "ValueError.__init__" x)).get? h₂.objs.size = some (kxs_mw "ValueError.__init__" x) := Heap.get?_push_at rfl rfl
  generalize hh : h₂.push (kxs_mw "ValueError.__init__" x) = h₃ at k₃ hu ⊢
  generalize hu' : h₂.objs.size = u at hu ⊢
  have X₃ : K.In h₃ := X₂.keeps k₃
  have hx₃ := k₃ _ _ hx₂
  have ns₃ := (hns.keeps k₂).keeps k₃
  refine kxs_callWith (i := "ValueError.__init__") (x := x) rfl (evalArgs_plain ?_)
  show wpAny _ _ (spliced ((false, eval (.Constant (.str m) j q3) _) :: backTo q4 (starEach [] _))) _ _ _
  refine Calls.spliced_cons (Calls.Constant_str (Calls.spliced_nil ⟨hu, ?_⟩))
  refine wpAny_call (codeAny_of_tree ?_)
  show wpAny _ _ (callAny (.ref u) ⟨_, []⟩) _ _ _
  simp only [callAny]
  refine wpAny_bind (wpAny_load hu ?_)
  simp only [kxs_mw, show (Value.type "method-wrapper" == Value.type "method" || Value.type "method-wrapper" == Value.type "builtin_function_or_method" || Value.type "method-wrapper" == Value.type "method-wrapper") = true by decide, if_true]
  refine KFB.if_so (by decide) ?_
  refine wpAny_bind (check_bound_init F.excBase_ValueError.toExcCallFacts (X₃ _ _ hC) hx₃ rfl ?_)
  refine wpAny_bind (wpAny_pure (wpAny_pure ?_))
  refine ⟨plainId_quiet F.excBase_ValueError.init.plain _, codeAny_builtin F.excBase_ValueError.initEntry ?_⟩
  refine exc_init_tree (cls := .ref C) (t0 := t0) (dv := none) (c2 := .none) (c3 := .none) (b4 := .bool false) hx₃ (by show 1 ≤ sizeLine; decide) (fun h₄ k₄ hx₄ _ => ?_)
  have hxL : s.heap.objs.size ≠ x := Nat.ne_of_gt (Heap.lt_size hx)
  have X₄ : K.In h₄ := fun b o e => k₄ b o (fun z => by rw [z, hnx] at e; cases e) (X₃ b o e)
  have ns₄ : h₄.Ns s.heap.objs.size (fun y => [(("self" : Str), Value.ref x), ("value", v)].reverse.lookup y) := by
    obtain ⟨oL, es, ep, hL, r⟩ := ns₃
    exact ⟨oL, es, ep, k₄ _ _ hxL hL, r⟩
  refine ks_wpAt_execs_cons (wpAt_of_wpAny (plainObj_wpAny_Assign_Attribute ?_))
  refine wpAny_Name (wpAny_loadName_local rfl xk4 ns₄ (v := v) (by first | rfl | with_unfolding_all rfl | kernel_rfl) ?_) (by decide)
  refine wpAny_Name (wpAny_loadName_local rfl xk3 ns₄ (v := .ref x) (by first | rfl | with_unfolding_all rfl | kernel_rfl) ?_) (by decide)
  refine set_plain X₄ (ox := excRec (.ref C) h₃.objs.size none .none .none (.bool false)) (od := none) ⟨hx₄, rfl, rfl, trivial⟩ T.sa ?_
  refine exc_osa X₄ hx₄ hcl (show refsVE (.ref C :: bm) = true from hbm) rfl T.no (fun h₅ tk₅ dx k₅ dn dne hx₅ hn₅ => ?_)
  have sz1 : s.heap.objs.size < h₁.objs.size := hns.lt
  have sz4 : s.heap.objs.size ≤ h₄.objs.size := Nat.le_of_lt ns₄.lt
  refine wpAt_of_wpAny (wpAny_execs_nil ?_)
  refine hq h₅ _ dx ⟨fun b o hb e => k₅ b o hb (k₄ b o hb (k₃ b o (k₂ b o (k b o e)))), ⟨_, hx₅⟩, Nat.le_trans sz4 dn, dne, hn₅⟩
/-- a made exception -/
structure XMade (h h' : Heap) (e C d : Addr) (v : Value) : Prop where
  keep : ∀ b o, h.get? b = some o → h'.get? b = some o
  new : h.objs.size ≤ e
  obj : ∃ oe vs, h'.get? e = some oe ∧ oe.cls = .ref C ∧ oe.dict = some d ∧ oe.data = .fields vs ∧ vs[1]? = some .none
  dbig : h.objs.size ≤ d
  dne : d ≠ e
  ns : h'.Ns1 d (fun y => if y = "value" then some v else none)
theorem x_made (T : XTxt prog K mg n C fI) {v : Value} (X : K.In s.heap) (hg : s.heap.Ns mainGlobals mg) (hb : ∃ mb, s.heap.Ns builtinsNs mb ∧ ∀ x : Str, x ≠ "__name__" → mb x = bootBuiltins x) (hlim : s.heap.NoLimit) (hroom : A.depth + 1 < recursionLimit)
    (hq : ∀ h' tk e d, XMade s.heap h' e C d v → R (.ok (.ret (.ref e))) { s with heap := h', toks := tk }) :
    codeAny (model prog w) A (.call (.ref C) ⟨[v], []⟩) R s := by
  obtain ⟨nm, q, N, bs, bm, sn, sub, ab, col, dd, k0, k1, k2, k3, k5, hC, hbm⟩ := T.cls
  obtain ⟨hp, g, dr, tk, os⟩ := s
  have k : ∀ b o, hp.get? b = some o → ((hp.push (kdv_tup [v])).push (excO C hp.objs.size)).get? b = some o := fun b o e => Heap.get?_push_of_some _ (Heap.get?_push_of_some _ e)
  have hnx : K.lookup (hp.objs.size + 1) = none := by
    cases e : K.lookup (hp.objs.size + 1) with
    | none => rfl
    | some o =>
      have z : hp.get? (hp.objs.size + 1) = some o := X _ _ e
      have := Heap.lt_size z
      exact absurd (Nat.lt_of_succ_lt this) (Nat.lt_irrefl _)
  refine call_own F.excBase_ValueError (fun Y => refsVE_contains Y bm hbm) (X _ _ hC) (looks_findIn X T.iC) (fun self => bind_fn X self T.tI) (by show 1 ≤ sizeLine; decide) ?_
  obtain ⟨mb, hb, hbb⟩ := hb
  refine x_init (s := ⟨(hp.push (kdv_tup [v])).push (excO C hp.objs.size), g, dr, tk, os⟩) (t0 := hp.objs.size) T (X.keeps k) (hg.keeps k) ⟨mb, hb.keeps k, hbb⟩ (hlim.keeps k) (by heap_get) hnx hroom fun h' tk' dx M => ?_
  obtain ⟨t1, hx⟩ := M.obj
  have z : hp.objs.size + 1 + 1 ≤ dx := by
    have q := M.dbig
    rw [Heap.size_push, Heap.size_push] at q
    exact q
  exact ⟨rfl, hq h' tk' (hp.objs.size + 1) dx ⟨fun b o e => M.keep b o (Nat.ne_of_lt (Nat.lt_succ_of_lt (Heap.lt_size e))) (k b o e), Nat.le_succ _, ⟨_, _, hx, rfl, rfl, rfl, rfl⟩, Nat.le_trans (Nat.le_trans (Nat.le_succ _) (Nat.le_succ _)) z, M.dne, M.ns⟩⟩
end
end
theorem relO_val {v : V} {v' : Value} (r : RelV v v') (f : Str) : RelO (List.lookup f [(("value" : Str), v)]) (if f = "value" then some v' else none) := by
  by_cases hw : f = "value"
  · subst hw
    rw [if_pos rfl, List.lookup_cons_self]
    exact r
  · rw [if_neg hw, List.lookup_cons, show (f == ("value" : Str)) = false from by simpa using hw]
    trivial
section
variable {X : Cx} {C fI : Addr} {n : Str}
/-- C(e), as an exception that is made -/
def tMkX (C : Addr) (ta : TA) : St → Hp → XK → Prop := fun σ H Q => ta σ H fun vs H1 => ∃ v, vs = [v] ∧ ∀ d, H1 d = none → Q (.ref C) (some d) (upd H1 d (.xd [(("value" : Str), v)]))
theorem pmk_x {a : Expr} {ta : TA} {p pos : Pos} {k : Nat} (T : XTxt X.prog X.K X.mg n C fI) (hr : Room k X.A) (ha : PA X [a] ta) (hg : Gl X n) (hdb : (n == ("__debug__" : Str)) = false := by decide)
    (he : starEach (a :: []) X.env = (false, eval a X.env) :: starEach [] X.env := by rfl) (hpl : (backTo pos (starEach [] X.env)).any (·.1) = false := by rfl) :
    PMk X (.Call (.Name n p) [a] [] pos) (tMkX C ta) := by
  intro pins s σ H Q I h
  refine wpAny_Call_Name_kw (ld_glob I hg T.gC ?_ hdb)
  refine PySem.W.callWith_K (h₀ := X.base) I.ok.mod.kin T.kC (thn (ha.run pos pins s σ H _ I h) fun us s1 ⟨vs, H1, I1, r1, v, ev, q1⟩ => ⟨I1.kIn, ?_⟩) he hpl
  subst ev
  cases r1 with
  | @cons _ v' _ us' rv rn =>
    cases rn
    show wpAny _ _ (call (.ref C) [v']) _ _ _
    have hlim := I1.nolimit
    have mg1 := I1.mod.glob.keeps I1.bk
    obtain ⟨mb, mb1, mb2⟩ := I1.mod.blt
    have mb1 := mb1.keeps I1.bk
    obtain ⟨hp, g, dr, tk, os⟩ := s1
    refine wpAny_call (x_made T I1.kIn mg1 ⟨mb, mb1, mb2⟩ hlim (by have := hr.dp; omega) fun h' tk' e d M => ?_)
    show MkP X pins σ Q (.ref e) ⟨h', g, dr, tk', os⟩
    obtain ⟨oe, fv, hoe, hc, hd, hdat, h1⟩ := M.obj
    obtain ⟨G', g1, g2⟩ := restrict h' fun b => decide (b ≠ e)
    have gk : ∀ b, b ≠ e → G'.get? b = h'.get? b := fun b hb => g1 b (decide_eq_true hb)
    have ge : G'.get? e = none := g2 e (by simp)
    have old : ∀ b o, hp.get? b = some o → G'.get? b = some o := fun b o q => (gk b (Nat.ne_of_lt (Nat.lt_of_lt_of_le (Heap.lt_size q) M.new))).trans (M.keep b o q)
    have ob : ObjOk X.prog X.w (upd H1 d (.xd [(("value" : Str), v)])) G' d (.xd [(("value" : Str), v)]) := ⟨_, M.ns.at (fun o q => (gk d M.dne).trans q), fun f => relO_val rv f⟩
    have J : Inv X pins σ (upd H1 d (.xd [(("value" : Str), v)])) ⟨G', g, dr, tk', os⟩ := I1.laid (t' := tk') old M.dbig ob
    refine ⟨e, oe, fv, ⟨G', g, dr, tk', os⟩, _, .ref C, some d, rfl, J, fun b o q => ?_, ge, hoe, ⟨hc, hd⟩, hdat, h1, ?_, rfl, I1.bare, raises_own T.exC T.tyC, q1 d (I1.hok.fresh M.dbig)⟩
    · by_cases hb : b = e
      · have q' : G'.get? b = some o := q
        rw [hb, ge] at q'
        cases q'
      · exact (gk b hb).symm.trans q
    · rw [upd_ne (Ne.symm M.dne)]
      exact I1.hok.fresh M.new
/-- raise C(e) -/
def tRaiseX (C : Addr) (W : WX) (ta : TA) : TS := fun _ σ H => tMkX C ta σ H fun cls d H' => W cls d σ H'
theorem ps_raiseX {a : Expr} {ta : TA} {W : WX} {p pos pos2 : Pos} {k : Nat} (hc : X.calm = true) (T : XTxt X.prog X.K X.mg n C fI) (hr : Room k X.A) (tk : Takes X W) (ha : PA X [a] ta) (hg : Gl X n) (hdb : (n == ("__debug__" : Str)) = false := by decide)
    (he : starEach (a :: []) X.env = (false, eval a X.env) :: starEach [] X.env := by rfl) (hpl : (backTo pos (starEach [] X.env)).any (·.1) = false := by rfl) :
    PS X (.Raise (some (.Call (.Name n p) [a] [] pos)) none pos2) (tRaiseX C W ta) := ps_raise hc tk (pmk_x T hr ha hg hdb he hpl)
end



/-! ### an exception that was caught and is kept under a name -/
/-- at a: an exception of the class cls, its dict d -/
def XO (cls : Value) (d : Option Addr) (a : Addr) : HO := .ext fun h => ∃ (oe : Obj) (vs : Array Value), h.get? a = some oe ∧ Zc cls d oe ∧ oe.data = .fields vs
theorem xo_ok {P : Program} {w : World} {H : Hp} {h : Heap} {a : Addr} {cls : Value} {d : Option Addr} {oe : Obj} {vs : Array Value} (e : h.get? a = some oe) (z : Zc cls d oe) (hd : oe.data = .fields vs) : ObjOk P w H h a (XO cls d a) :=
  ⟨⟨oe, vs, e, z, hd⟩, ⟨oe, e⟩, fun _ _ ⟨o, v, q, r⟩ k => ⟨o, v, k o q, r⟩⟩
theorem xo_at {P : Program} {w : World} {H : Hp} {h : Heap} {a : Addr} {cls : Value} {d : Option Addr} (hok : HOk P w H h) (e : H a = some (XO cls d a)) : ∃ (oe : Obj) (vs : Array Value), h.get? a = some oe ∧ Zc cls d oe ∧ oe.data = .fields vs := by
  have x : ObjOk P w H h a (.ext fun h => ∃ (oe : Obj) (vs : Array Value), h.get? a = some oe ∧ Zc cls d oe ∧ oe.data = .fields vs) := hok a _ e
  exact x.1
section
variable {X : Cx} {pins : List (Addr × Obj)} {σ σ0 : St} {H : Hp} {s sI : Shared} {a : Addr} {o : HO}
/-- what came since the entry may be tracked from now on -/
theorem track (J : Inv X pins σ0 H sI) (hna : sI.heap.get? a = none) (I : Inv X pins σ H s) (na : H a = none) (new : ObjOk X.prog X.w (upd H a o) s.heap a o) : Inv X pins σ (upd H a o) s := by
  have neI : ∀ {b : Addr} {u : Obj}, sI.heap.get? b = some u → b ≠ a := fun {b u} e z => by
    rw [z, hna] at e
    cases e
  have keepN : ∀ {b : Addr} {u : HO}, H b = some u → b ≠ a := fun {b u} e => ne_of_none e na
  refine ⟨I.ok, I.os, I.bare, ⟨I.base.keep, I.base.slot, fun b u e n hx => ?_, I.base.there, fun b xs e => ?_, fun b u v e => ?_, fun b ps e => ?_⟩, I.loc, I.cell, ?_, fun x c e => ?_, fun p hp => ?_, fun b u e => ?_, I.len⟩
  · obtain ⟨u', q⟩ := J.base.there b u e hx
    rw [upd_ne (neI q)]
    exact I.base.free b u e n hx
  · have q := I.base.tups b xs e
    rw [upd_ne (keepN q)]
    exact q
  · have q := I.base.frzs b u v e
    rw [upd_ne (keepN q)]
    exact q
  · obtain ⟨m, q⟩ := I.base.tbls b ps e
    exact ⟨m, by rw [upd_ne (keepN q)]; exact q⟩
  · obtain ⟨m, ⟨oL, es, ep, hL, _⟩, _⟩ := J.loc
    rw [upd_ne (neI hL)]
    exact I.free
  · obtain ⟨v, oc, hc, _⟩ := J.cell x c e
    rw [upd_ne (neI hc)]
    exact I.freeC x c e
  · obtain ⟨e, n, ne, nf, d⟩ := I.pin p hp
    obtain ⟨e', _⟩ := J.pin p hp
    exact ⟨e, by rw [upd_ne (neI e')]; exact n, ne, nf, d⟩
  · by_cases hb : b = a
    · subst hb
      rw [upd_same] at e
      cases e
      exact new
    · rw [upd_ne hb] at e
      exact (I.hok b u e).stay (fun _ _ _ q => q) (fun c q => by rw [upd_ne (keepN q)]; exact q) fun c xs q => by rw [upd_ne (keepN q)]; exact q
end
section
variable {X : Cx} {x1 x2 x3 n y : Str} {c1 c2 c3 : Value} {i j : Nat} {body : List Stmt} {a1 a2 a3 tp py pn' pa pos pos' : Pos} {kt : Nat} {tb : WX → TS}
theorem flyingZ_keeps {B h h' : Heap} {l : List Env} {a : Addr} {Z : Obj → Prop} (f : HandSPX.FlyingZ B l a Z h) (k : ∀ b o, h.get? b = some o → h'.get? b = some o) : HandSPX.FlyingZ B l a Z h' := by
  obtain ⟨f1, f2, f3, oe, vs, T, oT, ts, he, hz, hd, h1, hn, hne, hT, hdT, h3⟩ := f
  exact ⟨fun b o q => k b o (f1 b o q), f2, f3.of_keeps fun b o q _ => ⟨o, k b o q, rfl⟩, oe, vs, T, oT, ts, k _ _ he, hz, hd, h1, hn, hne, k _ _ hT, hdT, h3⟩
/-- what is wished of what is raised in: try: .. except (x1, x2, x3) as n: y = n -/
def wKeep (K : PySem.W.Frag) (cs : List Value) (i j : Nat) (D : Ends) : WX := fun cls d σ H =>
  PySem.W.exmAny K cls cs = some true ∧ ∀ a, H a = none → D.nx (((σ.set i (some (.ref a))).set j (some (.ref a))).set i none) (upd H a (XO cls d a))
theorem ps_try_keep (hs : X.stack = X.env :: X.outer) (hf : X.env.frame = some X.env.locals) (hN : X.N.Nodup) (hi : X.N[i]? = some n) (hj : X.N[j]? = some y) (hln : X.env.kindOf n = some .local) (hly : X.env.kindOf y = some .local)
    (g1 : Gl X x1) (g2 : Gl X x2) (g3 : Gl X x3) (m1 : X.mg x1 = some c1) (m2 : X.mg x2 = some c2) (m3 : X.mg x3 = some c3)
    (hb : ∀ (W : WX) (pn : List (Addr × Obj)) (xe : Value → Shared → Prop), Takes (X.tr pn xe) W → PSs (X.tr pn xe) body (tb W))
    (d1 : (x1 == ("__debug__" : Str)) = false := by decide) (d2 : (x2 == ("__debug__" : Str)) = false := by decide) (d3 : (x3 == ("__debug__" : Str)) = false := by decide) (dn : (n == ("__debug__" : Str)) = false := by decide) (dc : (n == ("__classdict__" : Str)) = false := by decide)
    (hsw : swapsWith (.Name n pn') (some (.Name y py)) pa.line X.env = pure false := by rfl) :
    PS X (.Try body [.ExceptHandler (some (.Tuple [.Name x1 a1, .Name x2 a2, .Name x3 a3] kt tp)) (some n) [.Assign [.Name y py] (.Name n pn') pa] pos'] [] [] pos) (fun D σ H => tb (wKeep X.K [c1, c2, c3] i j D) D σ H) := by
  refine ⟨fun pins s σ H D I h => ?_⟩
  have ok := I.ok
  have hfr : X.A.frames = some (X.env :: X.outer) := by rw [ok.frames, hs]
  have hloc : Loc X.env.scope n := .inl hln
  refine wpAny_Try_except ?_
  refine wpAny_mono ((hb (wKeep X.K [c1, c2, c3] i j D) (X.pn ++ pins) (fun e s₁ => wpAny (model X.prog X.w) X.A (noteFrame e X.env) (fun _ s₂ => wpAny (model X.prog X.w) X.A (setFlight e none) (fun _ s₃ =>
    wpAny (model X.prog X.w) X.A (handleBy e X.env [.ExceptHandler (some (.Tuple [.Name x1 a1, .Name x2 a2, .Name x3 a3] kt tp)) (some n) [.Assign [.Name y py] (.Name n pn') pa] pos']) (SP X pins D) X.xe s₃) X.xe s₂) X.xe s₁) (fun u s' xx => ?_)).run [] s σ H D (I.toTry _) h) (fun f s1 hsp => ?_) (fun e s1 he => he)
  · obtain ⟨a, B, sI, pins', σ', H', cls, d, rfl, J', nb, up, sky, na, os, ag, hm, hyes⟩ := xx
    have J : Inv X pins σ' H' sI := J'.ofTry ok
    have hBa : B.get? a = none := by
      rcases sky with ⟨_, q, _⟩ | ⟨_, q, _⟩ | ⟨_, q, _⟩ <;> exact q
    have sky' : Sky B (X.env :: X.outer) a (Zc cls d) X.env.locals s'.heap := by rw [← hs]; exact sky
    show wpAny (model X.prog X.w) X.A (noteFrame (.ref a) X.env) _ _ _
    refine Sky.land Zc.steady hfr hf sky' fun h3 fl3 up3 => ?_
    have J3 : Inv X pins σ' H' { s' with heap := h3 } := J.landed nb fl3.1 (up.trans up3) os ag
    obtain ⟨oe3, vs3, he3, hz3, hd3⟩ := fl3.there
    have nfr : a ∉ frs (X.env :: X.outer) := fun hm => by
      obtain ⟨_, o', e', hnf⟩ := fl3.2.2.1.mem hm
      rw [he3] at e'
      cases e'
      exact hnf _ hd3
    have hsI : sI.heap.get? a = none := by
      cases q : sI.heap.get? a with
      | none => rfl
      | some o =>
        have z := nb a o q (by rw [hs]; exact nfr)
        rw [hBa] at z
        cases z
    have nL : a ≠ X.env.locals := fun z => nfr (List.mem_filterMap.mpr ⟨X.env, List.mem_cons_self, by rw [hf, z]⟩)
    have nF : a ∉ X.fs := fun hm => by
      obtain ⟨e, he, q⟩ := List.mem_filterMap.mp hm
      exact nfr (List.mem_filterMap.mpr ⟨e, List.mem_cons_of_mem _ he, q⟩)
    have S3 := J3.suite he3 hd3 na nL nF
    refine wpAny_handleBy_cons (codeAny_handlers_test ?_) (by intro q; cases q)
    have LT : PySem.W.Looks (model X.prog X.w) h3 (typeOf (.ref a)) cls := fun A Q E s k q => wpAny_typeOf_ref (k _ _ he3) (by rw [hz3.1]; exact q)
    refine wpAny_Tuple ?_
    refine wpAny_items_cons (ld_glob (X := X.suite a ((a, oe3) :: (X.pn ++ pins))) S3 g1 m1 ?_ d1)
    refine wpAny_items_cons (ld_glob (X := X.suite a ((a, oe3) :: (X.pn ++ pins))) S3 g2 m2 ?_ d2)
    refine wpAny_items_cons (ld_glob (X := X.suite a ((a, oe3) :: (X.pn ++ pins))) S3 g3 m3 ?_ d3)
    refine wpAny_items_nil ⟨by show 3 ≤ sizeLine; decide, ?_⟩
    have kp : ∀ q o, h3.get? q = some o → (h3.push { cls := .type "tuple", data := .seq [c1, c2, c3].toArray }).get? q = some o := fun _ _ z => Heap.get?_push_of_some _ z
    refine (PySem.W.exm_tup3 (J3.kIn.keeps kp) (LT.keeps kp) (Heap.get?_push_size h3 rfl) hm).here ?_
    have fl3' : HandSPX.FlyingZ B (X.env :: X.outer) a (Zc cls d) (h3.push { cls := .type "tuple", data := .seq [c1, c2, c3].toArray }) := flyingZ_keeps fl3 kp
    refine codeAny_handlers_suite_as ?_
    refine HandSPX.lands_againZ fl3' fun h4 fl4 up4 => ?_
    have J4 : Inv X pins σ' H' { s' with heap := h4 } := J.landed nb fl4.1 (((up.trans up3).trans (Heap.UpToSlots.of_keeps kp)).trans up4) os ag
    obtain ⟨oe4, vs4, he4, hz4, hd4⟩ := fl4.there
    have S4 := J4.suite he4 hd4 na nL nF
    refine store_ok (X := X.suite a ((a, oe4) :: (X.pn ++ pins))) (v := .ref a) S4 hN hi hloc rfl (fun s5 S5 => ?_) (.inr hln)
    have lenN : i < σ'.length := by rw [J.len]; exact (List.getElem?_eq_some_iff.mp hi).1
    have rd : PSs (X.suite a ((a, oe4) :: (X.pn ++ pins))) [.Assign [.Name y py] (.Name n pn') pa] (tAsg (tVar i) (gName j)) :=
      pss_one (ps_set (X := X.suite a ((a, oe4) :: (X.pn ++ pins))) (i := j) hN hj (.inl hly) (pe_var (i := i) hi (.inl hln) dn dc) hsw (.inr hly))
    refine wpAny_mono (rd.run [] s5 _ H' { nx := fun σ6 H6 => σ6 = (σ'.set i (some (.ref a))).set j (some (.ref a)) ∧ H6 = H', rt := fun _ _ => False } S5 ⟨.ref a, by rw [List.getElem?_set_self lenN], rfl, rfl⟩) (fun f s6 hsp => ?_) (fun _ _ z => False.elim z)
    cases f with
    | next =>
      obtain ⟨σ6, H6, S6, rfl, rfl⟩ := hsp
      refine gone_ok (X := X.suite a ((a, oe4) :: (X.pn ++ pins))) S6 hN hi hln fun s7 S7 => ?_
      obtain ⟨e7, _⟩ := S7.pin (a, oe4) (List.mem_append_left _ List.mem_cons_self)
      exact ⟨_, _, track J hsI (S7.unsuite ok) na (xo_ok e7 hz4 hd4), hyes a na⟩
    | brk =>
      obtain ⟨_, _, _, q⟩ := hsp
      exact q.elim
    | cont =>
      obtain ⟨_, _, _, q⟩ := hsp
      exact q.elim
    | ret u =>
      obtain ⟨_, _, _, _, _, q⟩ := hsp
      exact q.elim
  · cases f with
    | next =>
      obtain ⟨σ', H', J', q⟩ := hsp
      exact wpAny_execs_nil ⟨σ', H', J'.ofTry ok, q⟩
    | brk =>
      obtain ⟨σ', H', J', q⟩ := hsp
      exact ⟨σ', H', J'.ofTry ok, q⟩
    | cont =>
      obtain ⟨σ', H', J', q⟩ := hsp
      exact ⟨σ', H', J'.ofTry ok, q⟩
    | ret u =>
      obtain ⟨v, σ', H', J', r, q⟩ := hsp
      exact ⟨v, σ', H', J'.ofTry ok, r, q⟩
end



/-! ## operators of an own class (own work over the library's rules) -/
section
variable {prog : Program} {w : World} {A : Around} {E : Value → Shared → Prop} {s : Shared} {K : PySem.W.Frag} {x C f : Addr} {ox : Obj} {od : Option Obj} {i : Int} {t : Tok}
/-- int's own slot declines an instance -/
theorem int_declines {name : Str} {id : String} {B : Builtin} (nm : String) (g : Int → Int → Sem Fin) {Q : Value → Shared → Prop} (slot : Slot "int" name id) (entry : entryFor table id = some B)
    (hB : B = Builtin.Int.intBinary nm g) (args : argsOk id ⟨[.int i t, .ref x], []⟩)
    (hx : s.heap.get? x = some ox) (hd : ∀ p, ox.data ≠ .prim p) (h : Q .notImplemented s) : wpAny (model prog w) A (call (.builtin id) [.int i t, .ref x]) Q E s := by
  refine wpAny_call_entry slot (typeIs_int s i t) entry ?_ args
  subst hB
  have e1 : slotArgs nm 1 ⟨[.int i t, .ref x], []⟩ = pure (.int i t, [.ref x]) := rfl
  have e2 : Builtin.Int.intOfSelf (.int i t) = pure i := rfl
  unfold Builtin.Int.intBinary
  refine wpAny_bind (wpAny_of_eq e1 ?_)
  refine wpAny_bind (wpAny_of_eq e2 ?_)
  refine wpAny_bind ?_
  show wpAny _ _ (load x >>= fun o => match o.data with | .prim (.int i _) => pure (some i) | _ => pure none) _ _ _
  refine wpAny_bind (wpAny_load hx ?_)
  obtain ⟨c, dd, dt, sl⟩ := ox
  cases dt with
  | prim p => exact absurd rfl (hd p)
  | _ => exact wpAny_pure (wpAny_bind (wpAny_rule (wpAny_pure ⟨_, rfl, h⟩)))
/-- int op instance, by the instance's reflected method -/
theorem bin_refl {op : Operator} {idI : String} {f0 : Addr} {Q : Value → Shared → Prop} (X : K.In s.heap) (I : PySem.W.InstAt s.heap x ox C od) (s1 : PySem.W.selfFirst K C = true)
    (slot : Slot "int" (PySem.dunder op.info.2) idI) (fills : fillsNumberSlot (.type "int") op.info.2 = pure true) (hs0 : PySem.W.findIn K (.ref C) (PySem.dunder op.info.2) = some (some (.ref f0)))
    (hs : PySem.W.findIn K (.ref C) (dunderR op.info.2) = some (some (.ref f))) (hf : PySem.W.isFn K (.ref f) = true) (hsub : PySem.W.subIn K (.ref C) (.type "int") = some false)
    (hni : ∀ Q' : Value → Shared → Prop, Q' .notImplemented s → wpAny (model prog w) A (call (.builtin idI) [.int i t, .ref x]) Q' E s)
    (h : wpAny (model prog w) A (call (.ref f) [.ref x, .int i t]) (PySem.W.CmpBack Q) E s) : wpAny (model prog w) A (binaryOp op (.int i t) (.ref x)) Q E s := by
  obtain ⟨cd, rest, hcd, hm⟩ := PySem.W.ksp_first s1
  rcases hi : op.info with ⟨sym, nm⟩
  rw [hi] at hs hs0 slot fills
  dsimp only at hs hs0 slot fills
  have two := PySem.W.ksp_try X I hs hf h
  simp only [binaryOp, hi]
  refine wpAny_holding (wpAny_bind ?_)
  simp only [binaryOp1]
  refine wpAny_bind (wpAny_typeOf (typeIs_int s i t) (wpAny_bind (I.type.here (wpAny_bind (wpAny_of_eq fills ?_)))))
  have hne : (Value.type "int" == Value.ref C) = false := Bool.eq_false_iff.mpr fun q => by cases beq_iff_eq.mp q
  simp only [hne, Bool.false_eq_true, if_false]
  refine wpAny_bind ((PySem.W.fills_K X hcd hm hs0).here ?_)
  simp only [Bool.and_self, if_true]
  refine wpAny_bind ((PySem.W.looks_subIn X hsub).here ?_)
  have hpy : numberSlotInPython (.type "int") nm = pure false := rfl
  simp only [Bool.false_eq_true, if_false, pure_bind, Bool.not_false, Bool.and_self, if_true, hpy]
  refine wpAny_bind (wpAny_tryMethod_declines (typeIs_int s i t) slot (hni _ ⟨rfl, ?_⟩))
  refine wpAny_bind (wpAny_mono two (fun r s' z => ?_) fun _ _ e => e)
  obtain ⟨v, rfl, hq⟩ := z
  exact wpAny_bind (wpAny_rule (wpAny_pure (wpAny_pure hq)))
/-- int cmp instance -/
theorem cmp_refl {op : CmpOp} {idI : String} {Q : Value → Shared → Prop} (hu : A.units < cLine) (X : K.In s.heap) (I : PySem.W.InstAt s.heap x ox C od) (slot : Slot "int" (cmpInfo op).2.1 idI)
    (hs : PySem.W.findIn K (.ref C) (cmpInfo op).2.2 = some (some (.ref f))) (hf : PySem.W.isFn K (.ref f) = true) (hsub : PySem.W.subIn K (.ref C) (.type "int") = some false)
    (hni : ∀ Q' : Value → Shared → Prop, Q' .notImplemented s → wpAny (model prog w) A (call (.builtin idI) [.int i t, .ref x]) Q' E s)
    (h : wpAny (model prog w) A (call (.ref f) [.ref x, .int i t]) (PySem.W.CmpBack Q) E s) : wpAny (model prog w) A (richCompare op (.int i t) (.ref x)) Q E s := by
  have two : wpAny (model prog w) A (tryCompare (.ref x) (cmpInfo op).2.2 (.int i t)) (fun r s' => ∃ v, r = some v ∧ Q v s') E s := by
    unfold tryCompare
    refine wpAny_bind (PySem.W.ifBound_K X I hs hf (wpAny_mono h (fun v s' hv => ?_) fun _ _ e => e))
    cases v <;> first | exact hv.elim | exact wpAny_pure ⟨_, rfl, hv⟩
  unfold richCompare
  simp only [(typeIs_int s i t).oneThing_none]
  refine wpAny_holding (wpAny_bind (wpAny_cRoomFor hu ?_))
  refine wpAny_bind (wpAny_typeOf (typeIs_int s i t) (wpAny_bind (I.type.here ?_)))
  have hne : (Value.type "int" != Value.ref C) = true := by
    rw [bne, Bool.not_eq_true']
    exact Bool.eq_false_iff.mpr fun q => by cases beq_iff_eq.mp q
  simp only [hne, if_true]
  refine wpAny_bind ((PySem.W.looks_subIn X hsub).here ?_)
  simp only [Bool.false_eq_true, if_false, Bool.not_false, if_true]
  refine wpAny_bind (wpAny_tryCompare_declines (typeIs_int s i t) slot (hni _ ⟨rfl, ?_⟩))
  refine wpAny_bind (wpAny_mono two (fun r s' z => ?_) fun _ _ e => e)
  obtain ⟨v, rfl, hq⟩ := z
  exact wpAny_pure hq
end

section
variable {X : Cx}
theorem cmpBack_of {pins : List (Addr × Obj)} {σ : St} {Q : VK} {u : Value} {s' : Shared} (h : EP X pins σ Q u s') : PySem.W.CmpBack (EP X pins σ Q) u s' := by
  cases u with
  | notImplemented =>
    obtain ⟨v, H', I, r, q⟩ := h
    cases v with
    | non => cases r
    | bl _ => cases r
    | int _ => obtain ⟨t, e⟩ := r; cases e
    | str _ => obtain ⟨t, e⟩ := r; cases e
    | byt _ => obtain ⟨t, e⟩ := r; cases e
    | flt _ => obtain ⟨t, e⟩ := r; cases e
    | ref _ => cases r
    | ty _ => cases r
  | _ => exact h
/-- what the class is asked for an operator -/
structure OpF (K : PySem.W.Frag) (C f : Addr) (op : Operator) : Prop where
  s1 : PySem.W.selfFirst K C = true
  hs : PySem.W.findIn K (.ref C) (PySem.dunder op.info.2) = some (some (.ref f))
  hf : PySem.W.isFn K (.ref f) = true
  rr : ∃ rc, PySem.W.findIn K (.ref C) (dunderR op.info.2) = some rc ∧ (rc = none ∨ ∃ g : Addr, rc = some (.ref g))
  i1 : ∃ fo, PySem.W.findIn K (.type "int") (PySem.dunder op.info.2) = some fo
  i2 : ∃ ro, PySem.W.findIn K (.type "int") (dunderR op.info.2) = some ro
  su : PySem.W.subIn K (.type "int") (.ref C) = some false
/-- x op y, x an instance of C, y an int or an instance of C: by the method's promise -/
def rOwn (C : Addr) (sp : Sp) (E : XK) : R2 := fun x y H Q => ∃ a dx fs, x = .ref a ∧ H a = some (.ins C dx fs) ∧ ((∃ i, y = .int i) ∨ ∃ b dy gs, y = .ref b ∧ H b = some (.ins C dy gs)) ∧ sp [x, y] H Q E
theorem op_own {CX : CXT} {k : Nat} {op : Operator} {C f : Addr} {fd : FuncData} {ps : List Str} {sp : Sp} {E : XK} (O : OpF X.K C f op) (F : FnOk X.prog X.w X.K X.mg X.base CX k f fd ps sp) (hr : Room k X.A) (hb : Binds X.K fd ps []) (hx : Passes CX X E) :
    OpR X (binaryOp op) (rOwn C sp E) := fun pins s σ H x y v u Q I rx ry h => by
  obtain ⟨a, dx, fs, rfl, ha, hy, q⟩ := h
  cases rx
  obtain ⟨mA, J, _⟩ := ins_get I.hok ha
  obtain ⟨od, J, _⟩ := J.look
  obtain ⟨m, hF⟩ := I.fr
  obtain ⟨rc, hrc, hp⟩ := O.rr
  obtain ⟨fo, h1⟩ := O.i1
  obtain ⟨ro, h2⟩ := O.i2
  rcases hy with ⟨i, rfl⟩ | ⟨b, dy, gs, rfl, hb'⟩
  · obtain ⟨t, rfl⟩ := ry
    refine PySem.W.ksp_binT hF I.ok.mod.kin J rfl O.s1 O.hs O.hf hrc hp h1 h2 O.su ?_
    exact thn (run_fn (vs := [.ref a, .int i]) F hr hb .nil hx I (.cons rfl (.cons ⟨t, rfl⟩ .nil)) q) fun _ _ z => cmpBack_of z
  · cases ry
    obtain ⟨mB, J', _⟩ := ins_get I.hok hb'
    obtain ⟨od', J', _⟩ := J'.look
    refine PySem.W.binop_K hF I.ok.mod.kin J J'.type O.s1 O.hs O.hf ?_
    exact thn (run_fn (vs := [.ref a, .ref b]) F hr hb .nil hx I (.cons rfl (.cons rfl .nil)) q) fun _ _ z => cmpBack_of z
/-- int op instance -/
structure OpI (K : PySem.W.Frag) (C f : Addr) (op : Operator) (id : String) : Prop where
  s1 : PySem.W.selfFirst K C = true
  h0 : ∃ f0 : Addr, PySem.W.findIn K (.ref C) (PySem.dunder op.info.2) = some (some (.ref f0))
  hs : PySem.W.findIn K (.ref C) (dunderR op.info.2) = some (some (.ref f))
  hf : PySem.W.isFn K (.ref f) = true
  su : PySem.W.subIn K (.ref C) (.type "int") = some false
/-- what is known of int's own slot -/
structure IntOp (op : Operator) (id : String) : Prop where
  slot : Slot "int" (PySem.dunder op.info.2) id
  fills : fillsNumberSlot (.type "int") op.info.2 = pure true
  decl : ∀ {prog : Program} {w : World} {A : Around} {E : Value → Shared → Prop} {s : Shared} {x : Addr} {ox : Obj} {i : Int} {t : Tok} {Q : Value → Shared → Prop}, s.heap.get? x = some ox → (∀ p, ox.data ≠ .prim p) → Q .notImplemented s →
    wpAny (model prog w) A (call (.builtin id) [.int i t, .ref x]) Q E s
theorem int_add : IntOp .Add "int.__add__" := ⟨F.slot_int_add, F.fills_int_add, fun hx hd h => int_declines _ _ F.slot_int_add F.entry_int_add rfl (F.args_int_add_2 _ _) hx hd h⟩
theorem int_sub : IntOp .Sub "int.__sub__" := ⟨F.slot_int_sub, F.fills_int_sub, fun hx hd h => int_declines _ _ F.slot_int_sub F.entry_int_sub rfl (F.args_int_sub_2 _ _) hx hd h⟩
theorem int_mul : IntOp .Mult "int.__mul__" := ⟨F.slot_int_mul, F.fills_int_mul, fun hx hd h => int_declines _ _ F.slot_int_mul F.entry_int_mul rfl (F.args_int_mul_2 _ _) hx hd h⟩
def rOwnI (C : Addr) (sp : Sp) (E : XK) : R2 := fun x y H Q => ∃ i b dy gs, x = .int i ∧ y = .ref b ∧ H b = some (.ins C dy gs) ∧ sp [y, x] H Q E
theorem op_ownI {CX : CXT} {k : Nat} {op : Operator} {id : String} {C f : Addr} {fd : FuncData} {ps : List Str} {sp : Sp} {E : XK} (N : IntOp op id) (O : OpI X.K C f op id) (F : FnOk X.prog X.w X.K X.mg X.base CX k f fd ps sp) (hr : Room k X.A) (hb : Binds X.K fd ps []) (hx : Passes CX X E) :
    OpR X (binaryOp op) (rOwnI C sp E) := fun pins s σ H x y v u Q I rx ry h => by
  obtain ⟨i, b, dy, gs, rfl, rfl, hb', q⟩ := h
  cases ry
  obtain ⟨t, rfl⟩ := rx
  obtain ⟨mB, J0, _⟩ := ins_get I.hok hb'
  obtain ⟨od, J, _⟩ := J0.look
  obtain ⟨f0, h0⟩ := O.h0
  refine bin_refl I.kIn J O.s1 N.slot N.fills h0 O.hs O.hf O.su (fun Q' q' => N.decl J.at_ (fun p => by intro z; cases z) q') ?_
  exact thn (run_fn (vs := [.ref b, .int i]) F hr hb .nil hx I (.cons rfl (.cons ⟨t, rfl⟩ .nil)) q) fun _ _ z => cmpBack_of z
/-- comparisons -/
structure CmF (K : PySem.W.Frag) (C f : Addr) (op : CmpOp) : Prop where
  hs : PySem.W.findIn K (.ref C) (cmpInfo op).2.1 = some (some (.ref f))
  hf : PySem.W.isFn K (.ref f) = true
  n1 : PySem.W.notFirst K C (.type "int") = true
theorem notFirst_self {K : PySem.W.Frag} {C : Addr} : PySem.W.notFirst K C (.ref C) = true := by simp [PySem.W.notFirst]
theorem op_ownC {CX : CXT} {k : Nat} {op : CmpOp} {C f : Addr} {fd : FuncData} {ps : List Str} {sp : Sp} {E : XK} (hop : ∀ a b, compareOp op a b = richCompare op a b) (O : CmF X.K C f op) (F : FnOk X.prog X.w X.K X.mg X.base CX k f fd ps sp) (hr : Room k X.A) (hb : Binds X.K fd ps []) (hx : Passes CX X E) :
    OpR X (compareOp op) (rOwn C sp E) := fun pins s σ H x y v u Q I rx ry h => by
  obtain ⟨a, dx, fs, rfl, ha, hy, q⟩ := h
  cases rx
  obtain ⟨mA, J, _⟩ := ins_get I.hok ha
  obtain ⟨od, J, _⟩ := J.look
  obtain ⟨m, hF⟩ := I.fr
  rw [hop]
  rcases hy with ⟨i, rfl⟩ | ⟨b, dy, gs, rfl, hb'⟩
  · obtain ⟨t, rfl⟩ := ry
    refine PySem.W.cmp_K hr.units0 hF I.ok.mod.kin J (PySem.W.Looks.of_pure rfl) O.n1 O.hs O.hf ?_
    exact thn (run_fn (vs := [.ref a, .int i]) F hr hb .nil hx I (.cons rfl (.cons ⟨t, rfl⟩ .nil)) q) fun _ _ z => cmpBack_of z
  · cases ry
    obtain ⟨mB, J', _⟩ := ins_get I.hok hb'
    obtain ⟨od', J', _⟩ := J'.look
    refine PySem.W.cmp_K hr.units0 hF I.ok.mod.kin J J'.type notFirst_self O.hs O.hf ?_
    exact thn (run_fn (vs := [.ref a, .ref b]) F hr hb .nil hx I (.cons rfl (.cons rfl .nil)) q) fun _ _ z => cmpBack_of z
structure CmI (K : PySem.W.Frag) (C f : Addr) (op : CmpOp) : Prop where
  hs : PySem.W.findIn K (.ref C) (cmpInfo op).2.2 = some (some (.ref f))
  hf : PySem.W.isFn K (.ref f) = true
  su : PySem.W.subIn K (.ref C) (.type "int") = some false
structure IntCm (op : CmpOp) (id : String) : Prop where
  slot : Slot "int" (cmpInfo op).2.1 id
  hop : ∀ a b, compareOp op a b = richCompare op a b
  decl : ∀ {prog : Program} {w : World} {A : Around} {E : Value → Shared → Prop} {s : Shared} {x : Addr} {ox : Obj} {i : Int} {t : Tok} {Q : Value → Shared → Prop}, s.heap.get? x = some ox → (∀ p, ox.data ≠ .prim p) → Q .notImplemented s →
    wpAny (model prog w) A (call (.builtin id) [.int i t, .ref x]) Q E s
theorem int_lt : IntCm .Lt "int.__lt__" := ⟨F.slot_int_lt, fun _ _ => rfl, fun hx hd h => int_declines _ _ F.slot_int_lt F.entry_int_lt rfl (F.args_int_lt_2 _ _) hx hd h⟩
theorem int_le : IntCm .LtE "int.__le__" := ⟨F.slot_int_le, fun _ _ => rfl, fun hx hd h => int_declines _ _ F.slot_int_le F.entry_int_le rfl (F.args_int_le_2 _ _) hx hd h⟩
theorem int_gt : IntCm .Gt "int.__gt__" := ⟨F.slot_int_gt, fun _ _ => rfl, fun hx hd h => int_declines _ _ F.slot_int_gt F.entry_int_gt rfl (F.args_int_gt_2 _ _) hx hd h⟩
theorem int_ge : IntCm .GtE "int.__ge__" := ⟨F.slot_int_ge, fun _ _ => rfl, fun hx hd h => int_declines _ _ F.slot_int_ge F.entry_int_ge rfl (F.args_int_ge_2 _ _) hx hd h⟩
theorem int_eq : IntCm .Eq "int.__eq__" := ⟨F.slot_int_eq, fun _ _ => rfl, fun hx hd h => int_declines _ _ F.slot_int_eq F.entry_int_eq rfl (F.args_int_eq_2 _ _) hx hd h⟩
theorem int_ne : IntCm .NotEq "int.__ne__" := ⟨F.slot_int_ne, fun _ _ => rfl, fun hx hd h => int_declines _ _ F.slot_int_ne F.entry_int_ne rfl (F.args_int_ne_2 _ _) hx hd h⟩
theorem op_ownCI {CX : CXT} {k : Nat} {op : CmpOp} {id : String} {C f : Addr} {fd : FuncData} {ps : List Str} {sp : Sp} {E : XK} (N : IntCm op id) (O : CmI X.K C f op) (F : FnOk X.prog X.w X.K X.mg X.base CX k f fd ps sp) (hr : Room k X.A) (hb : Binds X.K fd ps []) (hx : Passes CX X E) :
    OpR X (compareOp op) (rOwnI C sp E) := fun pins s σ H x y v u Q I rx ry h => by
  obtain ⟨i, b, dy, gs, rfl, rfl, hb', q⟩ := h
  cases ry
  obtain ⟨t, rfl⟩ := rx
  obtain ⟨mB, J0, _⟩ := ins_get I.hok hb'
  obtain ⟨od, J, _⟩ := J0.look
  rw [N.hop]
  refine cmp_refl hr.units0 I.kIn J N.slot O.hs O.hf O.su (fun Q' q' => N.decl J.at_ (fun p => by intro z; cases z) q') ?_
  exact thn (run_fn (vs := [.ref b, .int i]) F hr hb .nil hx I (.cons rfl (.cons ⟨t, rfl⟩ .nil)) q) fun _ _ z => cmpBack_of z
end

/-! ### -x, abs(x), bool(x), C.m(..) of an own class -/
section
variable {prog : Program} {w : World} {A : Around} {E : Value → Shared → Prop} {s : Shared} {x : Addr}
theorem bool_inst {Q : Value → Shared → Prop} (h : wpAny (model prog w) A.in1.in1 (truthy (.ref x)) (fun b s' => Q (.bool b) s') E s) : wpAny (model prog w) A (call (.type "bool") [.ref x]) Q E s := by
  refine callType_newIn F.called_bool F.newNe_bool (F.typeCall_bool_1 _) (F.newCall_bool_1 _) (fun obj => F.args_object_init_2 obj _) F.entry_bool_new
    (S := fun A R s => wpAny (model prog w) A.in1 (truthy (.ref x)) (fun b s' => R (.ok (.ret (.bool b))) s') (fun e s' => R (.error e) s') s) (fun A R s hs => ?_) ?_
  · obtain ⟨hp, g, d, tk, os⟩ := s
    have f1 := F.conv_sub_bool
    unfold Builtin.«bool.__new__»
    repeat (any_goals (first | assumption | (with_reducible refine wpAny_bind (wpAny_mono hs (fun b s' hb => ?_) fun _ _ e => e)) | wp_step))
    all_goals first | exact hb | skip
  · exact wpAny_mono h (fun b s' hb => ⟨rfl, hb⟩) fun _ _ e => e
end
section
variable {X : Cx} {CX : CXT} {k : Nat} {C f p : Addr} {fd : FuncData} {ps : List Str} {sp : Sp} {E : XK}
/-- a def called somewhere below, from a built-in -/
theorem run_fnA {pins : List (Addr × Obj)} {σ : St} {H : Hp} {s : Shared} {Q : VK} {us : List Value} {vs : List V} {A : Around} (room : Room k A) (fr : A.frames = X.A.frames) (F : FnOk X.prog X.w X.K X.mg X.base CX k f fd ps sp) (hb : Binds X.K fd ps []) (hx : Passes CX X E)
    (I : Inv X pins σ H s) (r : Vals vs us) (h : sp vs H Q E) : wpAny (model X.prog X.w) A (call (.ref f) us) (EP X pins σ Q) X.xe s := by
  have e0 : Env0 X.prog X.w X.K X.mg X.base A X.stack s H := by
    have e := I.env0
    exact ⟨by rw [fr]; exact e.frames, e.mod, e.bs, e.bsz, e.funs, e.frf, e.hok, e.bare⟩
  have hl : us.length = ps.length := by rw [← r.length]; exact F.len _ _ _ _ h
  refine wpAny_call (codeAny_mono (F.run A X.stack s H ⟨us, []⟩ us vs Q E room e0 (by
    have := hb s us I.kIn (by simpa using hl)
    simpa using this) r h) fun r s' hq => ?_)
  cases r with
  | error e => exact hx pins σ H s e s' I hq
  | ok fl =>
    cases fl with
    | ret u => exact I.after hq
    | next => exact False.elim hq
    | brk => exact False.elim hq
    | cont => exact False.elim hq
theorem room_in1 {A : Around} (h : Room (k + 1) A) : Room k A.in1 := h.in1
structure UnF (K : PySem.W.Frag) (C f : Addr) (nm : Str) : Prop where
  hs : PySem.W.findIn K (.ref C) nm = some (some (.ref f))
  hf : PySem.W.isFn K (.ref f) = true
def rOwn1 (C : Addr) (sp : Sp) (E : XK) : V → Hp → VK → Prop := fun x H Q => ∃ a dx fs, x = .ref a ∧ H a = some (.ins C dx fs) ∧ sp [x] H Q E
theorem un_own (O : UnF X.K C f "__neg__") (F : FnOk X.prog X.w X.K X.mg X.base CX k f fd ps sp) (hr : Room k X.A) (hb : Binds X.K fd ps []) (hx : Passes CX X E) : UnR X (unaryOp .USub) (rOwn1 C sp E) := fun pins s σ H x v Q I rx h => by
  obtain ⟨a, dx, fs, rfl, ha, q⟩ := h
  cases rx
  obtain ⟨mA, J, _⟩ := ins_get I.hok ha
  obtain ⟨od, J, _⟩ := J.look
  obtain ⟨m, hF⟩ := I.fr
  refine PySem.W.ksp_neg hF I.ok.mod.kin J O.hs O.hf ?_
  exact run_fn (vs := [.ref a]) F hr hb .nil hx I (.cons rfl .nil) q
def rOwnC1 (C : Addr) (sp : Sp) (E : XK) : List V → Hp → VK → Prop := fun vs H Q => ∃ a dx fs, vs = [.ref a] ∧ H a = some (.ins C dx fs) ∧ sp vs H Q E
theorem call_absO (O : UnF X.K C f "__abs__") (F : FnOk X.prog X.w X.K X.mg X.base CX k f fd ps sp) (hr : Room (k + 1) X.A) (hb : Binds X.K fd ps []) (hx : Passes CX X E) : CallR X (.builtin "abs") (rOwnC1 C sp E) := fun pins s σ H xs us Q I r h => by
  obtain ⟨a, dx, fs, rfl, ha, q⟩ := h
  obtain ⟨u, rfl, ru⟩ := vals1 r
  cases ru
  obtain ⟨mA, J, _⟩ := ins_get I.hok ha
  obtain ⟨od, J, _⟩ := J.look
  refine Calls.call_function_entry PyProof.Rows.kind_abs PyProof.Rows.plain_abs PyProof.Rows.entry_abs (PyProof.Rows.args_abs _) ?_
  unfold Builtin.«abs»
  refine wpAny_bind (m := oneArg "abs" _) (wpAny_pure ?_)
  refine wpAny_bind (m := callSpecial? (.ref a) (Str.ofString "__abs__")) (PySem.W.special_fn I.kIn J O.hs (beq_iff_eq.mp O.hf) ?_)
  exact thn (run_fnA (vs := [.ref a]) (room_in1 hr) rfl F hb hx I (.cons rfl .nil) q) fun v s' z => wpAny_pure ⟨_, rfl, z⟩
theorem boolBack_of {pins : List (Addr × Obj)} {σ : St} {Q : VK} {u : Value} {s' : Shared} (h : EP X pins σ (fun v H' => (∃ b, v = .bl b) ∧ Q v H') u s') : PySem.W.BoolBack (fun b s' => EP X pins σ Q (.bool b) s') u s' := by
  obtain ⟨v, H', I, r, ⟨b, rfl⟩, q⟩ := h
  cases r
  exact ⟨.bl b, H', I, rfl, q⟩
def rOwnB (C : Addr) (sp : Sp) (E : XK) : List V → Hp → VK → Prop := fun vs H Q => ∃ a dx fs, vs = [.ref a] ∧ H a = some (.ins C dx fs) ∧ sp vs H (fun v H' => (∃ b, v = .bl b) ∧ Q v H') E
theorem call_boolO (O : UnF X.K C f "__bool__") (F : FnOk X.prog X.w X.K X.mg X.base CX k f fd ps sp) (hr : Room (k + 2) X.A) (hb : Binds X.K fd ps []) (hx : Passes CX X E) : CallR X (.type "bool") (rOwnB C sp E) := fun pins s σ H xs us Q I r h => by
  obtain ⟨a, dx, fs, rfl, ha, q⟩ := h
  obtain ⟨u, rfl, ru⟩ := vals1 r
  cases ru
  obtain ⟨mA, J, _⟩ := ins_get I.hok ha
  obtain ⟨od, J, _⟩ := J.look
  obtain ⟨m, hF⟩ := I.fr
  refine bool_inst (PySem.W.truthy_K hF I.ok.mod.kin J O.hs O.hf ?_)
  exact thn (run_fnA (vs := [.ref a]) (room_in1 (room_in1 hr)) rfl F hb hx I (.cons rfl .nil) q) fun v s' z => boolBack_of z
/-- C.m is a staticmethod: its record at p, its def at g -/
structure SMet (K : PySem.W.Frag) (C : Addr) (mc : Value) (m : Str) (p g : Addr) : Prop where
  at_ : PySem.W.findCls K (.ref C) mc m = some (.get (.builtin "staticmethod.__get__") (.ref p) .none (.ref C))
  rc : ∃ rest, PySem.W.recIn K p "staticmethod" = some (.ref g :: rest)
  kp : PySem.W.keepIn K (.ref g) = true
def tSMeth (C : Addr) (sp : Sp) (E : XK) (ta : TE) (t : TA) : TE := fun σ H Q => ta σ H fun x H1 => x = .ref C ∧ t σ H1 fun vs H2 => sp vs H2 Q E
theorem pe_smeth {o e : Expr} {es : List Expr} {m : Str} {pos apos : Pos} {ta : TE} {t : TA} {pl : Sem Bool} {mc : Value} (he : PE X o ta) (r : ClX.CRead X.K C mc) (c : SMet X.K C mc m p f) (F : FnOk X.prog X.w X.K X.mg X.base CX k f fd ps sp) (hr : Room k X.A) (hb : Binds X.K fd ps []) (hx : Passes CX X E) (ha : PA X (e :: es) t)
    (hst : starEach (e :: es) X.env = (false, eval e X.env) :: starEach es X.env := by rfl) (hpl : (backTo pos (starEach es X.env)).any (·.1) = false := by rfl)
    (ht : eval (.Call (.Attribute o m apos) (e :: es) [] pos) X.env = (do
      let ov ← eval o X.env
      standAt apos.atName
      let (f, first) ← holding [ov] (getMethod ov m pl)
      callWith pos f first (backTo pos (starEach (e :: es) X.env)) (backToKw pos (keywordEach [] X.env))) := by rfl) :
    PE X (.Call (.Attribute o m apos) (e :: es) [] pos) (tSMeth C sp E ta t) := by
  refine ⟨fun pins s σ H Q I h => ?_⟩
  refine PySem.W.methodCall_KW (pl := pl) (thn (he.run pins s σ H _ I h) fun u s1 ⟨x, H1, I1, rx, ex, q⟩ => ?_) ht
  subst ex
  obtain rfl : u = Value.ref C := rx
  obtain ⟨rest, hp⟩ := c.rc
  refine PySem.W.method_cls I1.kIn r.ga ?_
  refine PySem.W.cls_bind I1.kIn r.rd c.at_ ?_
  refine wpAny_call (PySem.W.sm_get (s := { s1 with toks := s1.toks + 1 }) I1.kIn hp (PySem.W.handed_on rfl ?_))
  refine PySem.W.callWith_K (h₀ := X.base) (first := []) I.ok.mod.kin c.kp (thn (ha.run pos pins _ σ H1 _ (I1.tok _) q) fun us s2 ⟨vs, H2, I2, rv, q2⟩ => ⟨I2.kIn, ?_⟩) hst hpl
  exact run_fn F hr hb .nil hx I2 rv (by rw [List.append_nil]; exact q2)
end
/-! ### isinstance with own classes -/
structure TyF (K : PySem.W.Frag) (C : Addr) : Prop where
  cl : Cls K C
  ha : PySem.W.findIn K (.ref C) "__class__" = some (some (.builtin "object.__class__"))
  hn : PySem.W.specialIn K (.builtin "object.__class__") "__get__" = some (some (.builtin "getset_descriptor.__get__"))
  tk : PySem.W.takesIn K (.builtin "object.__class__") = some true
  hm : PySem.W.mroIn K C (.type "object") = some true
/-- the type of a value -/
def tyO : Option HO → Option Value
  | some (.lst _) => some (.type "list")
  | some (.tup _) => some (.type "tuple")
  | some (.dK _) => some (.type "dict")
  | some (.ins C _ _) => some (.ref C)
  | _ => none
def tyV (H : Hp) : V → Option Value
  | .non => some (.type "NoneType")
  | .bl _ => some (.type "bool")
  | .int _ => some (.type "int")
  | .str _ => some (.type "str")
  | .ref a => tyO (H a)
  | _ => none
theorem tyV_non {H : Hp} : tyV H .non = some (.type "NoneType") := rfl
theorem tyV_bl {H : Hp} {b : Bool} : tyV H (.bl b) = some (.type "bool") := rfl
theorem tyV_int {H : Hp} {i : Int} : tyV H (.int i) = some (.type "int") := rfl
theorem tyV_str {H : Hp} {z : Str} : tyV H (.str z) = some (.type "str") := rfl
theorem tyV_ref {H : Hp} {a : Addr} : tyV H (.ref a) = tyO (H a) := rfl
theorem tyO_lst {xs : List V} : tyO (some (.lst xs)) = some (.type "list") := rfl
theorem tyO_tup {xs : List V} : tyO (some (.tup xs)) = some (.type "tuple") := rfl
theorem tyO_dK {kvs : List (Key × V)} : tyO (some (.dK kvs)) = some (.type "dict") := rfl
theorem tyO_ins {C dx : Addr} {fs : List (Str × V)} : tyO (some (.ins C dx fs)) = some (.ref C) := rfl
theorem tyV_ok {K : PySem.W.Frag} {H : Hp} {v : V} {t : Value} (h : tyV H v = some t) (hC : ∀ C, t = .ref C → TyF K C) : TyX K H v t := by
  cases v with
  | non => cases h; exact .base .non
  | bl b => cases h; exact .base (.bl b)
  | int i => cases h; exact .base (.int i)
  | str z => cases h; exact .base (.str z)
  | byt b => cases h
  | flt b => cases h
  | ty n => cases h
  | ref a =>
    have h : tyO (H a) = some t := h
    cases e : H a with
    | none => rw [e] at h; cases h
    | some o =>
      rw [e] at h
      cases o with
      | lst xs => cases h; exact .base (.lst e)
      | tup xs => cases h; exact .base (.tup e)
      | dK kvs => cases h; exact .base (.dK e)
      | ins C dx fs =>
        cases h
        have q := hC C rfl
        exact .base (.ins e q.cl q.ha q.hn q.tk q.hm)
      | _ => cases h
def clsV : V → Option Value
  | .ty n => some (.type n)
  | .ref C => some (.ref C)
  | _ => none
theorem clsV_ty {n : String} : clsV (.ty n) = some (.type n) := rfl
theorem clsV_ref {C : Addr} : clsV (.ref C) = some (.ref C) := rfl
def clsVs : List V → Option (List Value)
  | [] => some []
  | v :: r => (clsV v).bind fun u => (clsVs r).map fun us => u :: us
theorem clsVs_nil : clsVs [] = some [] := rfl
theorem clsVs_ty {n : String} {r : List V} : clsVs (.ty n :: r) = (clsVs r).map fun us => Value.type n :: us := rfl
theorem clsVs_ref {C : Addr} {r : List V} : clsVs (.ref C :: r) = (clsVs r).map fun us => Value.ref C :: us := rfl
theorem clsV_ok {v : V} {u : Value} (h : clsV v = some u) : ClsV v u := by
  cases v with
  | ty n => cases h; exact .ty n
  | ref C => cases h; exact .own C
  | _ => cases h
theorem clsVs_ok : ∀ {vs : List V} {us : List Value}, clsVs vs = some us → Paired ClsV vs us
  | [], us, h => by cases h; exact .nil
  | v :: r, us, h => by
    unfold clsVs at h
    cases e : clsV v with
    | none => rw [e] at h; cases h
    | some u =>
      rw [e] at h
      cases e2 : clsVs r with
      | none => rw [e2] at h; cases h
      | some ws => rw [e2] at h; cases h; exact .cons (clsV_ok e) (clsVs_ok e2)
section
variable {X : Cx}
def rIsW (K : PySem.W.Frag) : List V → Hp → VK → Prop := fun vs H Q => ∃ x c u t b, vs = [x, c] ∧ clsV c = some u ∧ tyV H x = some t ∧ (∀ C, t = .ref C → TyF K C) ∧ PySem.W.kitOne K t u = some b ∧ Q (.bl b) H
theorem call_isW : CallR X (.builtin "isinstance") (rIsW X.K) := fun pins s σ H xs us Q I r h => by
  obtain ⟨x, c, u, t, b, h1, h2, h3, h4, h5, h6⟩ := h
  exact call_isi pins s σ H xs us Q I r ⟨x, c, t, u, b, h1, clsV_ok h2, tyV_ok h3 h4, h5, h6⟩
def rIsWT (K : PySem.W.Frag) : List V → Hp → VK → Prop := fun vs H Q => ∃ x p cs us t b, vs = [x, .ref p] ∧ H p = some (.tup cs) ∧ clsVs cs = some us ∧ tyV H x = some t ∧ (∀ C, t = .ref C → TyF K C) ∧ PySem.W.kitAny K t us = some b ∧ Q (.bl b) H
theorem call_isWT : CallR X (.builtin "isinstance") (rIsWT X.K) := fun pins s σ H xs us Q I r h => by
  obtain ⟨x, p, cs, ws, t, b, h1, h2, h3, h4, h5, h6, h7⟩ := h
  exact call_isiT pins s σ H xs us Q I r ⟨x, p, cs, t, ws, b, h1, h2, clsVs_ok h3, tyV_ok h4 h5, h6, h7⟩
theorem kitAny_t {K : PySem.W.Frag} {t c : Value} {r : List Value} (h : PySem.W.kitOne K t c = some true) : PySem.W.kitAny K t (c :: r) = some true := by
  unfold PySem.W.kitAny
  rw [h]
theorem kitAny_f {K : PySem.W.Frag} {t c : Value} {r : List Value} (h : PySem.W.kitOne K t c = some false) : PySem.W.kitAny K t (c :: r) = PySem.W.kitAny K t r := by
  rw [PySem.W.kitAny]
  rw [h]
theorem kit_self {K : PySem.W.Frag} {t : Value} : PySem.W.kitOne K t t = some true := by
  unfold PySem.W.kitOne
  rw [if_pos (by simp)]
end
theorem kit_out {K : PySem.W.Frag} {C : Addr} {b : String} {r : Bool} (h : PySem.W.subIn K (.ref C) (.type b) = some r) (hm : PySem.W.kitMeta b = true := by decide) : PySem.W.kitOne K (.ref C) (.type b) = some r := by
  unfold PySem.W.kitOne
  rw [if_neg (by simp)]
  show (if PySem.W.kitMeta b = true then _ else _) = _
  rw [if_pos hm]
  exact h
theorem kit_in {K : PySem.W.Frag} {C : Addr} {t : Value} {r : Bool} (ic : PySem.W.isClsIn K C = true) (ty : PySem.W.typeIn K (.ref C) = some (.type "type")) (h : PySem.W.subIn K t (.ref C) = some r) (ne : t ≠ .ref C) : PySem.W.kitOne K t (.ref C) = some r := by
  unfold PySem.W.kitOne
  rw [if_neg (by simpa using ne)]
  show (if ((PySem.W.clsIn K C).isSome && PySem.W.typeIn K (.ref C) == some (.type "type")) = true then _ else _) = _
  have i2 : (PySem.W.clsIn K C).isSome = true := ic
  rw [if_pos (by rw [i2, ty]; rfl)]
  exact h

/-! ### comparisons with anything on the right; two rules for one node -/
section
variable {X : Cx}
def rOr (r r' : R2) : R2 := fun x y H Q => r x y H Q ∨ r' x y H Q
theorem opOr {f : Value → Value → Sem Value} {r r' : R2} (h : OpR X f r) (h' : OpR X f r') : OpR X f (rOr r r') := fun pins s σ H x y v u Q I rx ry q => by
  rcases q with q | q
  · exact h pins s σ H x y v u Q I rx ry q
  · exact h' pins s σ H x y v u Q I rx ry q
theorem looksTy {M : Model} {pins : List (Addr × Obj)} {σ : St} {H : Hp} {s : Shared} {y : V} {u t : Value} (I : Inv X pins σ H s) (r : RelV y u) (h : tyV H y = some t) : PySem.W.Looks M s.heap (typeOf u) t := by
  cases y with
  | non => cases h; cases r; exact PySem.W.Looks.of_pure rfl
  | bl b => cases h; cases r; exact PySem.W.Looks.of_pure rfl
  | int i => cases h; obtain ⟨_, rfl⟩ := r; exact PySem.W.Looks.of_pure rfl
  | str z => cases h; obtain ⟨_, rfl⟩ := r; exact PySem.W.Looks.of_pure rfl
  | byt b => cases h
  | flt b => cases h
  | ty n => cases h
  | ref a =>
    cases r
    have h : tyO (H a) = some t := h
    cases e : H a with
    | none => rw [e] at h; cases h
    | some o =>
      rw [e] at h
      cases o with
      | lst xs =>
        cases h
        obtain ⟨_, _, n, _, h1⟩ := (show ObjOk X.prog X.w H s.heap a (.lst xs) from I.hok a _ e)
        exact (PySem.W.Looks.ld h1).andThen .now
      | tup xs =>
        cases h
        obtain ⟨_, _, _, o, h1, h2, _⟩ := (show ObjOk X.prog X.w H s.heap a (.tup xs) from I.hok a _ e)
        exact h2 ▸ (PySem.W.Looks.ld h1).andThen .now
      | dK kvs =>
        cases h
        obtain ⟨_, _, vs, _, o, es, ep, h1, h2, _⟩ := (show ObjOk X.prog X.w H s.heap a (.dK kvs) from I.hok a _ e)
        exact h2.1 ▸ (PySem.W.Looks.ld h1).andThen .now
      | ins C dx fs =>
        cases h
        obtain ⟨mA, J, _⟩ := ins_get I.hok e
        obtain ⟨od, J, _⟩ := J.look
        exact J.type
      | _ => cases h
def rOwnA (K : PySem.W.Frag) (C : Addr) (sp : Sp) (E : XK) : R2 := fun x y H Q => ∃ a dx fs t, x = .ref a ∧ H a = some (.ins C dx fs) ∧ tyV H y = some t ∧ PySem.W.notFirst K C t = true ∧ sp [x, y] H Q E
theorem op_ownCA {CX : CXT} {k : Nat} {op : CmpOp} {C f : Addr} {fd : FuncData} {ps : List Str} {sp : Sp} {E : XK} (hop : ∀ a b, compareOp op a b = richCompare op a b) (O : CmF X.K C f op) (F : FnOk X.prog X.w X.K X.mg X.base CX k f fd ps sp) (hr : Room k X.A) (hb : Binds X.K fd ps []) (hx : Passes CX X E) :
    OpR X (compareOp op) (rOwnA X.K C sp E) := fun pins s σ H x y v u Q I rx ry h => by
  obtain ⟨a, dx, fs, t, rfl, ha, hy, hn, q⟩ := h
  cases rx
  obtain ⟨mA, J, _⟩ := ins_get I.hok ha
  obtain ⟨od, J, _⟩ := J.look
  obtain ⟨m, hF⟩ := I.fr
  rw [hop]
  refine PySem.W.cmp_K hr.units0 hF I.ok.mod.kin J (looksTy I ry hy) hn O.hs O.hf ?_
  exact thn (run_fn (vs := [.ref a, y]) F hr hb .nil hx I (.cons rfl (.cons ry .nil)) q) fun _ _ z => cmpBack_of z
end

/-! ### defs that are called where no repr is under way (A.guards = some []): what repr of a list asks -/
structure FnG (P : Program) (w : World) (K : PySem.W.Frag) (mg : Str → Option Value) (base : Heap) (CX : CXT) (k : Nat) (f : Addr) (fd : FuncData) (ps : List Str) (sp : Sp) : Prop where
  len : ∀ vs H Q E, sp vs H Q E → vs.length = ps.length
  run : ∀ (A : Around) (outer : List Env) (s : Shared) (H : Hp) (args : Args) (us : List Value) (vs : List V) (Q : VK) (E : XK), Room k A → A.guards = some [] → Env0 P w K mg base A outer s H → BindsTo s fd args (ps.zip us) → Vals vs us → sp vs H Q E →
    codeAny (model P w) A (.call (.ref f) args) (CR CX outer P w H s Q E) s
theorem fn_g {P : Program} {w : World} {K : PySem.W.Frag} {mg : Str → Option Value} {base : Heap} {CX : CXT} {k : Nat} {f : Addr} {fd : FuncData} {ps : List Str} {sp : Sp} (F : FnOk P w K mg base CX k f fd ps sp) : FnG P w K mg base CX k f fd ps sp :=
  ⟨F.len, fun A o s H ar us vs Q E hr _ => F.run A o s H ar us vs Q E hr⟩
theorem fnG_of {CX : CXT} {P : Program} {w : World} {K : PySem.W.Frag} {mg : Str → Option Value} {base : Heap} {k : Nat} {f : Addr} {name qual : Str} {params : Arguments} {body : List Stmt} {scope : Scope} {dV kV doc pm cdv ct oc : Value} {an od : Option Addr}
    {osl : Array (Option Value)} {N ps : List Str} {sp : Sp} (lk : K.lookup f = some ⟨oc, od, .func (PySem.W.fnOf name qual params body scope dV kV doc pm an cdv ct), osl⟩) (hcd : PySem.W.codeIn K cdv qual = true) (S : FnScope N ps scope)
    (len : ∀ vs H Q E, sp vs H Q E → vs.length = ps.length)
    (hbody : ∀ (A : Around) (outer : List Env) (s : Shared) (H : Hp) (vs : List V) (Q : VK) (E : XK), Room k (A.deeper (PyProof.Rows.envOfC qual scope s.heap.objs.size f cdv)) → A.guards = some [] → sp vs H Q E →
      ∃ t, PSs (cxOf CX P w K mg base N qual scope f cdv A outer s H E) body t ∧ t { nx := fun _ H' => Q .non H', rt := Q } (L2.start N vs) H) :
    FnG P w K mg base CX (k + 1) f (PySem.W.fnOf name qual params body scope dV kV doc pm an cdv ct) ps sp := by
  refine ⟨len, fun A outer s H args us vs Q E hr hg e0 hb r hsp => ?_⟩
  have kp : ∀ b o, base.get? b = some o → s.heap.get? b = some o := fun b o e => (e0.bs b o e).1
  have KX : K.In s.heap := e0.mod.kin.keeps kp
  refine codeAny_call_function hr.depth (KX _ _ lk) rfl S.co S.gen rfl (PySem.W.codeRec_of KX hcd) (hb _ _ _ _ ?_)
  refine wpAny_newFunctionEnv_cells S.kind (fun ⟨n, v⟩ hy => ?_) fun env he s1 x => ?_
  · rcases S.par n (List.of_mem_zip hy).1 with q | q
    · exact .inl q
    · exact .inr ⟨q, PySem.W.cellsFrom_some _ _ _ (.inl q)⟩
  subst he
  refine ⟨(e0.mod.nolimit.keeps kp).keeps x.toInCall.keep, codeAny_func ?_⟩
  obtain ⟨t, ht, hq⟩ := hbody A outer s H vs Q E (hr.deeper _) hg hsp
  refine wpAny_mono (ht.run [] s1 (L2.start N vs) H _ (inv_start S hr.hd e0 (len _ _ _ _ hsp) r x) hq) (fun fl s' hs => ?_) fun e s' hs => hs
  cases fl with
  | ret u =>
    obtain ⟨v, σ', H', J, rv, q⟩ := hs
    exact ⟨v, H', J.os, J.bare, J.base, J.hok, rv, q⟩
  | next =>
    obtain ⟨σ', H', J, q⟩ := hs
    exact ⟨V.non, H', J.os, J.bare, J.base, J.hok, rfl, q⟩
  | brk =>
    obtain ⟨_, _, _, q⟩ := hs
    exact q.elim
  | cont =>
    obtain ⟨_, _, _, q⟩ := hs
    exact q.elim
section
variable {P : Program} {w : World} {K : PySem.W.Frag} {mg : Str → Option Value} {base : Heap}
theorem okG {x qual : Str} {st : Stmt} {f : Addr} {fd : FuncData} {N ps : List Str} {k : Nat} {sp : Sp} (F : Fun K x qual st f fd) (S : FnScope N ps (defScope st)) (len : ∀ vs H Q E, sp vs H Q E → vs.length = ps.length)
    (hbody : ∀ (cdv : Value) (A : Around) (outer : List Env) (s : Shared) (H : Hp) (vs : List V) (Q : VK) (E : XK), Room k (A.deeper (PyProof.Rows.envOfC qual (defScope st) s.heap.objs.size f cdv)) → (cxOf CX0 P w K mg base N qual (defScope st) f cdv A outer s H E).nox.A.guards = some [] → sp vs H Q E →
      ∃ t, PSs (cxOf CX0 P w K mg base N qual (defScope st) f cdv A outer s H E).nox (defBody st) t ∧ t { nx := fun _ H' => Q .non H', rt := Q } (L2.start N vs) H) : FnG P w K mg base CX0 (k + 1) f fd ps sp := by
  obtain ⟨oc, od, kV, doc, pm, an, cdv, ct, osl, rfl, lk, hcd⟩ := F.ex
  refine fnG_of lk hcd S len fun A outer s H vs Q E hr hg hsp => ?_
  obtain ⟨t, h, q⟩ := hbody cdv A outer s H vs Q E hr hg hsp
  exact ⟨t, h.nox, q⟩
end
section
variable {X : Cx} {CX : CXT} {k : Nat} {f C : Addr} {fd : FuncData} {ps : List Str} {sp : Sp} {dvs : List V} {ds : List Value} {E : XK} {x m : Str} {p pos apos : Pos} {e o : Expr} {es : List Expr} {ta : TE} {t : TA}
theorem run_fnG {pins : List (Addr × Obj)} {σ : St} {H : Hp} {s : Shared} {Q : VK} {us : List Value} {vs : List V} (F : FnG X.prog X.w X.K X.mg X.base CX k f fd ps sp) (hr : Room k X.A) (hG : X.A.guards = some []) (hb : Binds X.K fd ps []) (hx : Passes CX X E)
    (I : Inv X pins σ H s) (r : Vals vs us) (h : sp vs H Q E) : wpAny (model X.prog X.w) X.A (call (.ref f) us) (EP X pins σ Q) X.xe s := by
  have hl : us.length = ps.length := by rw [← r.length]; exact F.len _ _ _ _ h
  have hb2 := hb s us I.kIn (by simpa using hl)
  rw [List.append_nil] at hb2
  refine wpAny_call (codeAny_mono (F.run X.A X.stack s H ⟨us, []⟩ us vs Q E hr hG I.env0 hb2 r h) fun r s' hq => ?_)
  cases r with
  | error e => exact hx pins σ H s e s' I hq
  | ok fl =>
    cases fl with
    | ret u => exact I.after hq
    | next => exact False.elim hq
    | brk => exact False.elim hq
    | cont => exact False.elim hq
theorem pe_callG (F : FnG X.prog X.w X.K X.mg X.base CX k f fd ps sp) (hr : Room k X.A) (hG : X.A.guards = some []) (hg : Gl X x) (hm : X.mg x = some (.ref f)) (hk : PySem.W.keepIn X.K (.ref f) = true) (hb : Binds X.K fd ps []) (hx : Passes CX X E)
    (ha : PA X (e :: es) t) (hdb : (x == ("__debug__" : Str)) = false := by decide) (he : starEach (e :: es) X.env = (false, eval e X.env) :: starEach es X.env := by rfl) (hpl : (backTo pos (starEach es X.env)).any (·.1) = false := by rfl) :
    PE X (.Call (.Name x p) (e :: es) [] pos) (tCall sp [] E t) := by
  refine ⟨fun pins s σ H Q I h => ?_⟩
  refine wpAny_Call_Name_kw (ld_glob I hg hm ?_ hdb)
  refine PySem.W.callWith_K (h₀ := X.base) I.ok.mod.kin hk (thn (ha.run pos pins s σ H _ I h) fun us s1 ⟨vs, H1, I1, r, q⟩ => ⟨I1.kIn, ?_⟩) he hpl
  exact run_fnG F hr hG hb hx I1 r (List.append_nil vs ▸ (show sp (vs ++ []) H1 Q E from q))
theorem pe_callG0 (F : FnG X.prog X.w X.K X.mg X.base CX k f fd ps sp) (hr : Room k X.A) (hG : X.A.guards = some []) (hg : Gl X x) (hm : X.mg x = some (.ref f)) (hk : PySem.W.keepIn X.K (.ref f) = true) (hb : Binds X.K fd ps []) (hx : Passes CX X E)
    (hdb : (x == ("__debug__" : Str)) = false := by decide) : PE X (.Call (.Name x p) [] [] pos) (fun _ H Q => sp [] H Q E) := by
  refine ⟨fun pins s σ H Q I h => ?_⟩
  refine wpAny_Call_Name_kw (ld_glob I hg hm ?_ hdb)
  exact PySem.W.callWith_K0 I.kIn hk (run_fnG (us := []) F hr hG hb hx I .nil h)
/-- repr of a list of bools -/
def btx (b : Bool) : Str := if b then "True" else "False"
def reprBs (bs : List Bool) : Str := listText (bs.map btx)
theorem reprs_b {P : Program} {w : World} : ∀ {bs : List Bool} {its : List Value}, Vals (bs.map V.bl) its → ∀ (i : Nat) (y : Value), its[i]? = some y → ∃ t, (bs.map btx)[i]? = some t ∧ ReprIs P w y t
  | [], _, h, i, y, e => by
    cases h
    simp at e
  | b :: bs, _, h, 0, y, e => by
    cases h with
    | cons h1 h2 =>
      cases h1
      have e2 : Value.bool b = y := Option.some.inj e
      subst e2
      exact ⟨btx b, rfl, ReprIs.bool b⟩
  | b :: bs, _, h, i + 1, y, e => by
    cases h with
    | cons h1 h2 => exact reprs_b h2 i y e
def rReprB : List V → Hp → VK → Prop := fun xs H Q => ∃ a b bs, xs = [.ref a] ∧ H a = some (.lst ((b :: bs).map V.bl)) ∧ (reprBs (b :: bs)).length ≤ sizeLine ∧ Q (.str (reprBs (b :: bs))) H
theorem call_reprB (hr : Room k X.A) (hG : X.A.guards = some []) : CallR X (.builtin "repr") rReprB := fun pins s σ H xs us Q I r h => by
  obtain ⟨a, b, bs, rfl, ha, hz, q⟩ := h
  obtain ⟨u, rfl, ru⟩ := vals1 r
  cases ru
  obtain ⟨its, rv, ⟨o, n, ho, hc, hdn, hd⟩, hlen⟩ := I.list (SqL.of ha)
  cases rv with
  | cons r1 r2 =>
    rename_i i1 i2
    have hT : s.TypeIs (.ref a) "list" := ⟨o, ho, hc⟩
    refine call_repr_slot (by have := hr.units; omega) hT PySem.F.slot_list_repr.toG ?_
    refine call_list_repr (g := []) (ts := (b :: bs).map btx) hT hG (fun _ _ _ h => (nomatch h)) ho hd ?_ ?_ (fun h' u tk kp => ?_) hz
    · have e := r2.length
      rw [List.size_toArray, List.length_cons, ← e, List.length_map, List.length_map]
      rfl
    · intro i y e
      exact reprs_b (bs := b :: bs) (.cons r1 r2) i y (by simpa using e)
    · exact ⟨_, u, rfl, V.str (reprBs (b :: bs)), H, I.kept (t' := tk) kp, ⟨u, rfl⟩, q⟩
end
/-! ### the end: the law is called where no repr is under way -/
section
open PySem.Spec PyProof.Rows
theorem law_callG {P : Program} {w : World} {K : PySem.W.Frag} {mg mb : Str → Option Value} {k : Nat} {fa a : Addr} {fd : FuncData} {x : Str} {sp : Sp} {s₁ : Shared} {vs : List Value} {ns : List Int}
    (KX : K.In s₁.heap) (hns : s₁.heap.Ns mainGlobals mg) (hb : s₁.heap.Ns builtinsNs mb) (hbb : ∀ x : Str, x ≠ "__name__" → mb x = bootBuiltins x) (hlim : s₁.heap.NoLimit) (hg : s₁.gens = #[])
    (ha : s₁.heap.get? a = some { cls := .type "list", data := .seq vs.toArray }) (hi : IntsAre vs ns) (hl : ns.length ≤ sizeLine) (hr : Room k callerA)
    (F : ∀ base : Heap, K.In base → base.Ns mainGlobals mg → FnG P w K mg base CX0 k fa fd [x] sp) (hbind : ∀ (s : Shared) (u : Value), BindsTo s fd ⟨[u], []⟩ [(x, u)])
    (hsp : ∀ H : Hp, SqL K H a (ns.map V.int) → sp [.ref a] H (fun v _ => v = .bl true) fun _ _ _ => False) :
    codeAny (model P w) callerA (.call (.ref fa) ⟨[.ref a], []⟩) (fun r s' => r = .ok (.ret (.bool true)) ∧ OldK s₁.heap s'.heap ∧ s'.os = s₁.os ∧ AllBare s'.gens) s₁ := by
  have rv := vals_ints hi
  have core : ∀ H : Hp, SqL K H a (ns.map V.int) → HOk P w H s₁.heap → (∀ b u, H b = some u → b = a ∧ K.lookup a = none ∧ ∃ o ys, u = .frz o ys) →
      codeAny (model P w) callerA (.call (.ref fa) ⟨[.ref a], []⟩) (fun r s' => r = .ok (.ret (.bool true)) ∧ OldK s₁.heap s'.heap ∧ s'.os = s₁.os ∧ AllBare s'.gens) s₁ := by
    intro H hS hok hA
    have at_ : ∀ {b : Addr} {o : Obj}, s₁.heap.get? b = some o → (∀ u, H b ≠ some u) → (hidT s₁.heap H).get? b = some o := fun {b o} e n => hidT_get e (by
      cases q : H b with
      | none => rfl
      | some u => exact absurd q (n u))
    have ns_ : ∀ {b : Addr} {m : Str → Option Value}, s₁.heap.Ns b m → (hidT s₁.heap H).Ns b m := fun {b m} ⟨o, es, ep, e, d, r⟩ => ⟨o, es, ep, at_ e (fun u q => by
      obtain ⟨rfl, _⟩ := hA b u q
      rw [ha] at e
      cases e
      have z : Data.seq vs.toArray _ = Data.dict es ep := d
      cases z), d, r⟩
    have hK : K.In (hidT s₁.heap H) := fun b o e => at_ (KX b o e) (fun u q => by
      obtain ⟨rfl, n, _⟩ := hA b u q
      rw [n] at e
      cases e)
    have hM : Mod K mg (hidT s₁.heap H) := ⟨hK, ns_ hns, ⟨mb, ns_ hb, hbb⟩, let ⟨mc, h1, h2⟩ := hlim; ⟨mc, ns_ h1, h2⟩⟩
    have e0 : Env0 P w K mg (hidT s₁.heap H) callerA [] s₁ H := ⟨rfl, hM, fun b o e => of_hidT e, Nat.le_of_eq (hidT_size _ _), trivial, fun b hb => absurd (show b ∈ ([] : List Addr) from hb) (by simp), hok, .of_eq hg⟩
    refine codeAny_mono ((F _ hK (ns_ hns)).run callerA [] s₁ H ⟨[.ref a], []⟩ [.ref a] [.ref a] _ _ hr rfl e0 (hbind s₁ (.ref a)) (.cons rfl .nil) (hsp H hS)) fun r s' h => ?_
    match r, h with
    | .error e, h => exact False.elim h
    | .ok .next, h => exact False.elim h
    | .ok .brk, h => exact False.elim h
    | .ok .cont, h => exact False.elim h
    | .ok (.ret u), h =>
      obtain ⟨v, H', os, bare, un, hok', r', q⟩ := h
      obtain rfl : v = .bl true := q
      obtain rfl : u = Value.bool true := r'
      refine ⟨rfl, OldK.of_keep fun b o e => ?_, os, bare⟩
      cases q : H b with
      | none => exact un.keep b o e q (by intro z; exact absurd (show b ∈ ([] : List Addr) from z) (by simp)) (by simp)
      | some u =>
        obtain ⟨_, _, o', ys, rfl⟩ := hA b u q
        have q2 := un.frzs b o' _ q
        obtain ⟨e1, _⟩ := hok b _ q
        obtain ⟨e2, _⟩ := hok' b _ q2
        rw [e] at e1
        cases e1
        exact e2
  cases hk : K.lookup a with
  | some o =>
    have e := KX a o hk
    rw [ha] at e
    cases e
    exact core (fun _ => none) (.inr ⟨_, vs.toArray, _, hk, rfl, rfl, rfl, by rw [List.size_toArray, hi.length]; exact hl, by simpa using rv⟩) (fun b u z => nomatch z) (fun b u z => nomatch z)
  | none =>
    refine core (fun b => if b = a then some (.frz { cls := .type "list", data := .seq vs.toArray } (.lst (ns.map V.int))) else none) (.inl (.inr ⟨{ cls := .type "list", data := .seq vs.toArray }, if_pos rfl⟩)) (fun b u z => ?_) (fun b u z => ?_)
    · by_cases hb : b = a
      · have z' := (if_pos hb).symm.trans z
        cases z'
        subst hb
        exact ⟨ha, by rw [List.length_map]; exact hl, vs, _, rv, ha⟩
      · exact nomatch (if_neg hb).symm.trans z
    · by_cases hb : b = a
      · exact ⟨hb, hk, _, _, (Option.some.inj ((if_pos hb).symm.trans z)).symm⟩
      · exact nomatch (if_neg hb).symm.trans z
theorem walk_ofG {l : PySem.W.OpenLaw} {n k : Nat} {q : Program} {loose : List Str} {XP : (Str → Option Value) → Heap → Prop} {YP : World → Heap → Prop} {d : DefRec} {K : Params → PySem.W.Frag} {sp : PySem.W.Frag → Sp} {x : Str}
    (hn : l.most = some n) (hn2 : n ≤ sizeLine) (hdf : d.params.defaults = []) (hr : Room k callerA)
    (hY : ∀ (w : World) (h : Heap), YP w h → (K w.params).In h)
    (F : ∀ (w : World) (mg : Str → Option Value) (fa : Addr) (h : Heap), (K w.params).In h → h.Ns mainGlobals mg → mg d.name = some (.ref fa) →
      ∃ fd : FuncData, (∀ (s : Shared) (u : Value), BindsTo s fd ⟨[u], []⟩ [(x, u)]) ∧
        ∀ base : Heap, (K w.params).In base → base.Ns mainGlobals mg → FnG l.prog w (K w.params) mg base CX0 k fa fd [x] (sp (K w.params)))
    (hsp : ∀ (K : PySem.W.Frag) (H : Hp) (a : Addr) (ns : List Int), ns.length ≤ n → SqL K H a (ns.map V.int) → sp K [.ref a] H (fun v _ => v = .bl true) fun _ _ _ => False) :
    PySem.W.WalkO q loose XP YP l.row.toRowW d [] (fun f vs => PySem.call f vs) := by
  refine Att.attach_call hn hdf fun w s₀ s₁ mg mb fa o pm cd doc a vs ns G Y ho hd hcd hmg hobj hints hlen hg => ?_
  have KX := hY w _ Y
  obtain ⟨fd, hb, hF⟩ := F w mg fa _ KX G.T.g hmg
  exact law_callG KX G.T.g G.T.b G.T.builtins G.T.nolimit hg hobj hints (Nat.le_trans hlen hn2) hr hF hb (fun H hS => hsp _ H a ns hlen hS)
end

/-! ### isinstance(e, C), e.value of a kept exception; repr of data; lists of texts compared -/
structure XIs (K : PySem.W.Frag) (D : Addr) : Prop where
  cl : (PySem.W.clsIn K D).isSome = true
  ga : PySem.W.findIn K (.ref D) "__getattribute__" = some (some (.builtin "BaseException.__getattribute__"))
  gg : PySem.W.findIn K (.ref D) "__getattr__" = some none
  ex : PySem.W.subIn K (.ref D) (.type "BaseException") = some true
  ha : PySem.W.findIn K (.ref D) "__class__" = some (some (.builtin "object.__class__"))
  hn : PySem.W.specialIn K (.builtin "object.__class__") "__get__" = some (some (.builtin "getset_descriptor.__get__"))
  tk : PySem.W.takesIn K (.builtin "object.__class__") = some true
  hm : PySem.W.mroIn K D (.type "object") = some true
  hd : PySem.W.hasDictIn K D = true
  no : PySem.W.findIn K (.ref D) "value" = some none
section
variable {X : Cx}
theorem xo_inst {pins : List (Addr × Obj)} {σ : St} {H : Hp} {s : Shared} {D a dd : Addr} {fs : List (Str × V)} (I : Inv X pins σ H s) (ha : H a = some (XO (.ref D) (some dd) a)) (hd : H dd = some (.xd fs)) :
    ∃ oe od, PySem.W.InstAt s.heap a oe D (some od) ∧ ∃ mA, s.heap.Ns1 dd mA ∧ s.heap.get? dd = some od ∧ ∀ f, RelO (fs.lookup f) (mA f) := by
  obtain ⟨oe, vs, e1, z, e2⟩ := xo_at I.hok ha
  obtain ⟨mA, hns, hr⟩ := (show ObjOk X.prog X.w H s.heap dd (.xd fs) from I.hok dd _ hd)
  obtain ⟨od, es, ep, ho, _⟩ := id hns
  exact ⟨oe, od, ⟨e1, z.1, by unfold PySem.W.notCls; rw [e2] <;> rfl, by rw [z.2]; exact ho⟩, mA, hns, ho, hr⟩
def rIsX (K : PySem.W.Frag) : List V → Hp → VK → Prop := fun xs H Q => ∃ (a D dd : Addr) (fs : List (Str × V)) (c : V) (u : Value) (b : Bool), xs = [.ref a, c] ∧ H a = some (XO (.ref D) (some dd) a) ∧ H dd = some (.xd fs) ∧ XIs K D ∧ clsV c = some u ∧ PySem.W.kitOne K (.ref D) u = some b ∧ Q (.bl b) H
theorem call_isX : CallR X (.builtin "isinstance") (rIsX X.K) := fun pins s σ H xs us Q I r h => by
  obtain ⟨a, D, dd, fs, c, u, b, rfl, ha, hd, C, hc, e, q⟩ := h
  cases r with
  | cons rx rr =>
    cases rr with
    | cons rt rr =>
      cases rr
      cases rx
      have ec := (clsV_ok hc).eq rt
      subst ec
      obtain ⟨oe, od, J, _⟩ := xo_inst I ha hd
      exact PySem.W.kia_one (PySem.W.kitx_exc C.cl C.ga C.gg C.ex C.ha C.hn C.tk C.hm) I.kIn J e (fun z => nomatch z) fun tk => ⟨.bl b, H, I.kept (t' := tk) fun _ _ z => z, rfl, q⟩
def tXV (K : PySem.W.Frag) (te : TE) : TE := fun σ H Q => te σ H fun x H1 => ∃ (a D dd : Addr) (v : V), x = .ref a ∧ H1 a = some (XO (.ref D) (some dd) a) ∧ H1 dd = some (.xd [("value", v)]) ∧ XIs K D ∧ Q v H1
theorem pe_xv {e : Expr} {te : TE} {pos : Pos} (he : PE X e te) (hb : attributeBase e "value" X.env (eval e X.env) = eval e X.env := by rfl) : PE X (.Attribute e "value" pos) (tXV X.K te) := by
  refine ⟨fun pins s σ H Q I h => ?_⟩
  refine attr_of hb (thn (he.run pins s σ H _ I h) fun u s1 ⟨x, H1, I1, rx, a, D, dd, v, ex, ha, hd, C, q⟩ => ?_)
  subst ex
  obtain rfl : u = Value.ref a := rx
  obtain ⟨oe, od, J, mA, hns, ho, hr⟩ := xo_inst I1 ha hd
  obtain ⟨od', ho', hl⟩ := lookIn_ns hns
  rw [ho] at ho'
  cases ho'
  have l : List.lookup ("value" : Str) [(("value" : Str), v)] = some v := List.lookup_cons_self
  obtain ⟨u, hu, ru⟩ := RelO.some_of (v := v) (o := mA "value") (by rw [← l]; exact hr "value")
  exact HandSPX.exc_get I1.kIn J C.ga C.gg C.ex (PySem.W.findObj_own C.hd C.no rfl (by rw [hl, hu])) (handed_of ru) ⟨v, H1, I1.tok _, ru, q⟩
/-- repr of data (lists, tuples, scalars; {}) -/
def Dx (K : PySem.W.Frag) (H : Hp) (v : V) (d : PyData) : Prop := (Dp K H v d ∧ d.hasDict = false) ∨ ∃ a, v = .ref a ∧ H a = some (.dK []) ∧ d = .dict []
def rReprD (K : PySem.W.Frag) : List V → Hp → VK → Prop := fun xs H Q => ∃ v d, xs = [v] ∧ Dx K H v d ∧ d.showable = true ∧ d.shown.length ≤ sizeLine ∧ d.depth ≤ 20 ∧ Q (.str d.shown) H
theorem call_reprD {k : Nat} (hr : Room k X.A) (hG : X.A.guards = some []) : CallR X (.builtin "repr") (rReprD X.K) := fun pins s σ H xs us Q I r h => by
  obtain ⟨v, d, rfl, hd, hs, hz, hdep, q⟩ := h
  obtain ⟨u, rfl, ru⟩ := vals1 r
  have hu := hr.units
  have fin : ∀ (a : Addr) (as : List Addr), u = .ref a → Reads s.heap u d as → (d.hasDict = true → sysModules ∉ as) → wpAny (model X.prog X.w) X.A (call (.builtin "repr") [u]) (EP X pins σ Q) X.xe s := fun a as e rd hsm => by
    subst e
    exact repr_of_reads' rd hs hsm hG (by omega) (fun _ _ e => e) (fun h' u tk k => ⟨.str d.shown, H, I.kept (t' := tk) k, ⟨u, rfl⟩, q⟩) hz
  rcases hd with ⟨hd, hn⟩ | ⟨a, rfl, ha, rfl⟩
  · obtain ⟨as, rd⟩ := Dp.reads I d v u hd ru
    have hsm : d.hasDict = true → sysModules ∉ as := PyData.noDict_hsm hn
    cases hd with
    | non =>
      cases ru
      exact PySem.P.repr_of_none ⟨.str "None", H, I.tok _, ⟨_, rfl⟩, by simpa [PyData.shown] using q⟩
    | bl b =>
      cases ru
      exact PySem.P.repr_of_bool ⟨.str _, H, I.tok _, ⟨_, rfl⟩, by simpa [PyData.shown] using q⟩
    | int i =>
      obtain ⟨t, rfl⟩ := ru
      exact PySem.P.repr_of_int (by simpa [PyData.showable] using hs) ⟨.str _, H, I.tok _, ⟨_, rfl⟩, by simpa [PyData.shown] using q⟩
    | str x =>
      obtain ⟨t, rfl⟩ := ru
      exact PySem.P.repr_of_str ⟨.str _, H, I.tok _, ⟨_, rfl⟩, by simpa [PyData.shown] using q⟩ (by simpa [PyData.shown] using hz)
    | lst h1 h2 => exact fin _ as ru rd hsm
    | tup h1 h2 => exact fin _ as ru rd hsm
  · cases ru
    obtain ⟨_, hsys, vs, kv, o, es, ep, h1, h2, h3, h4, h5, h6⟩ := (show ObjOk X.prog X.w H s.heap a (.dK []) from I.hok a _ ha)
    cases kv
    have e0 : es.toList = [] := by
      generalize es.toList = l at h5
      cases h5
      rfl
    refine fin a [a] rfl (.dict (as := []) (bs := []) h1 h2.1 h3 (by rw [e0]; exact .nil) (by rw [e0]; exact .nil)) fun _ hm => ?_
    rw [List.mem_singleton] at hm
    rw [← hm] at hsys
    simp at hsys
/-- lists of texts, == and != -/
theorem strs_item : ∀ {zs : List Str} {its : List Value}, Vals (zs.map V.str) its → ∀ (j : Nat) (h : j < its.toArray.size), ∃ z t, zs[j]? = some z ∧ its.toArray[j] = .str z t
  | [], _, h, j, hj => by cases h; simp at hj
  | z :: zs, _, h, 0, hj => by
    cases h with
    | cons h1 h2 =>
      obtain ⟨t, rfl⟩ := h1
      exact ⟨z, t, rfl, rfl⟩
  | z :: zs, _, h, j + 1, hj => by
    cases h with
    | cons h1 h2 =>
      obtain ⟨z', t, e1, e2⟩ := strs_item h2 j (by simpa using hj)
      exact ⟨z', t, e1, by simpa using e2⟩
def eqJ (zs ws : List Str) (j : Nat) : Bool := match zs[j]?, ws[j]? with
  | some z, some w => z == w
  | _, _ => false
theorem eqJ_all : ∀ {zs ws : List Str}, zs.length = ws.length → (List.range zs.length).all (eqJ zs ws) = decide (zs = ws)
  | [], [], _ => rfl
  | z :: zs, w :: ws, h => by
    have ih := eqJ_all (zs := zs) (ws := ws) (by simpa using h)
    rw [List.length_cons, List.range_succ_eq_map, List.all_cons, List.all_map]
    have e : (List.range zs.length).all (eqJ (z :: zs) (w :: ws) ∘ Nat.succ) = (List.range zs.length).all (eqJ zs ws) := rfl
    rw [e, ih]
    show ((z == w) && decide (zs = ws)) = decide (z :: zs = w :: ws)
    rw [Bool.eq_iff_iff]
    simp
def rEqSs : R2 := fun x y H Q => ∃ (a b : Addr) (zs ws : List Str), x = .ref a ∧ y = .ref b ∧ H a = some (.lst (zs.map V.str)) ∧ H b = some (.lst (ws.map V.str)) ∧ Q (.bl (decide (zs = ws))) H
def rNeSs : R2 := fun x y H Q => ∃ (a b : Addr) (zs ws : List Str), x = .ref a ∧ y = .ref b ∧ H a = some (.lst (zs.map V.str)) ∧ H b = some (.lst (ws.map V.str)) ∧ Q (.bl (!decide (zs = ws))) H
theorem ss_core {pins : List (Addr × Obj)} {σ : St} {H : Hp} {s : Shared} {a b : Addr} {zs ws : List Str} (hu : X.A.units < cLine) (I : Inv X pins σ H s) (ha : H a = some (.lst (zs.map V.str))) (hb : H b = some (.lst (ws.map V.str))) :
    ∃ its its2 : List Value, s.heap.IsList a its.toArray ∧ s.heap.IsList b its2.toArray ∧ its.toArray.size = zs.length ∧ its2.toArray.size = ws.length ∧ ∀ j (h1 : j < its.toArray.size) (h2 : j < its2.toArray.size), SeqAt.EqAt X.A.in1 s its.toArray[j] its2.toArray[j] (eqJ zs ws j) := by
  obtain ⟨its, r, pl, hz⟩ := I.list (SqL.of ha)
  obtain ⟨its2, r2, pl2, hz2⟩ := I.list (SqL.of hb)
  refine ⟨its, its2, pl.isList, pl2.isList, ?_, ?_, fun j h1 h2 => ?_⟩
  · rw [List.size_toArray, ← r.length, List.length_map]
  · rw [List.size_toArray, ← r2.length, List.length_map]
  · obtain ⟨z, t, e1, e2⟩ := strs_item r j h1
    obtain ⟨w', t', e3, e4⟩ := strs_item r2 j h2
    rw [e2, e4]
    unfold eqJ
    rw [e1, e3]
    exact SeqAt.EqAt.str_str _ _ _ _
theorem op_eqSs (hu : X.A.units + 64 < cLine) : OpR X (compareOp .Eq) rEqSs := fun pins s σ H x y v u Q I rx ry h => by
  obtain ⟨a, b, zs, ws, rfl, rfl, ha, hb, q⟩ := h
  cases rx
  cases ry
  obtain ⟨its, its2, l1, l2, n1, n2, he⟩ := ss_core (by omega) I ha hb
  by_cases hl : zs.length = ws.length
  · refine SeqAt.eq_listAt l1 l2 (by omega) (by omega) he ⟨.bl _, H, I, rfl, ?_⟩
    rw [n1, eqJ_all hl]
    exact q
  · refine SeqAt.eq_list_lengthsAt l1 l2 (by rw [n1, n2]; simpa using hl) (by omega) ⟨.bl false, H, I, rfl, ?_⟩
    rw [decide_eq_false (fun z => hl (by rw [z]))] at q
    exact q
theorem op_neSs (hu : X.A.units + 64 < cLine) : OpR X (compareOp .NotEq) rNeSs := fun pins s σ H x y v u Q I rx ry h => by
  obtain ⟨a, b, zs, ws, rfl, rfl, ha, hb, q⟩ := h
  cases rx
  cases ry
  obtain ⟨its, its2, l1, l2, n1, n2, he⟩ := ss_core (by omega) I ha hb
  by_cases hl : zs.length = ws.length
  · refine SeqAt.RcNeAt.lists l1 l2 (by omega) (by omega) he X.prog X.w X.xe _ ⟨.bl _, H, I, rfl, ?_⟩
    rw [n1, eqJ_all hl]
    exact q
  · refine SeqAt.RcNeAt.lists_lengths l1 l2 (by rw [n1, n2]; simpa using hl) (by omega) X.prog X.w X.xe _ ⟨.bl true, H, I, rfl, ?_⟩
    rw [decide_eq_false (fun z => hl (by rw [z]))] at q
    exact q
end



/-! ### the end with tables of code objects, where no repr is under way -/
section
open PySem.Spec PyProof.Rows LamX
theorem law_callGT {P : Program} {w : World} {K : PySem.W.Frag} {mg mb : Str → Option Value} {k : Nat} {fa a : Addr} {cs : List (Addr × Addr)} {fd : FuncData} {x : Str} {sp : Sp} {s₁ : Shared} {vs : List Value} {ns : List Int}
    (KX : K.In s₁.heap) (hns : s₁.heap.Ns mainGlobals mg) (hb : s₁.heap.Ns builtinsNs mb) (hbb : ∀ x : Str, x ≠ "__name__" → mb x = bootBuiltins x) (hlim : s₁.heap.NoLimit) (hg : s₁.gens = #[])
    (hT : ∀ p ∈ cs, s₁.heap.get? p.2 = some { cls := .none, data := .fields #[] }) (nT : ∀ p ∈ cs, K.lookup p.2 = none) (C : ∀ p ∈ cs, PySem.W.CodeHd s₁.heap p.1 p.2)
    (hbm : ∃ (bm : Addr) (ob : Obj), mg "__builtins__" = some (.ref bm) ∧ bm ≠ builtinsNs ∧ s₁.heap.get? bm = some ob ∧ ob.cls = .type "module" ∧ ob.dict = some builtinsNs ∧ ob.data = .plain)
    (ha : s₁.heap.get? a = some { cls := .type "list", data := .seq vs.toArray }) (hi : IntsAre vs ns) (hl : ns.length ≤ sizeLine) (hr : Room k callerA)
    (F : ∀ base : Heap, K.In base → base.Ns mainGlobals mg → (∀ p ∈ cs, TabB base mg p.1 p.2) → FnG P w K mg base CX0 k fa fd [x] sp) (hbind : ∀ (s : Shared) (u : Value), BindsTo s fd ⟨[u], []⟩ [(x, u)])
    (hsp : ∀ H : Hp, (∀ p ∈ cs, H p.2 = some (.tbl #[])) → SqL K H a (ns.map V.int) → sp [.ref a] H (fun v _ => v = .bl true) fun _ _ _ => False) :
    codeAny (model P w) callerA (.call (.ref fa) ⟨[.ref a], []⟩) (fun r s' => r = .ok (.ret (.bool true)) ∧ OldK s₁.heap s'.heap ∧ s'.os = s₁.os ∧ AllBare s'.gens) s₁ := by
  have rv := vals_ints hi
  let tb : List Addr := cs.map (·.2)
  have isT : ∀ b ∈ tb, s₁.heap.get? b = some { cls := .none, data := .fields #[] } := fun b hb => by
    obtain ⟨p, hp, rfl⟩ := List.mem_map.mp hb
    exact hT p hp
  have inT : ∀ p ∈ cs, p.2 ∈ tb := fun p hp => List.mem_map.mpr ⟨p, hp, rfl⟩
  have aT : a ∉ tb := fun z => by
    have q := isT a z
    rw [ha] at q
    exact nomatch (congrArg Obj.data (Option.some.inj q) : Data.seq vs.toArray _ = Data.fields #[])
  have core : ∀ H : Hp, (∀ b ∈ tb, H b = some (.tbl #[])) → SqL K H a (ns.map V.int) → HOk P w H s₁.heap →
      (∀ b u, H b = some u → b ∈ tb ∨ (b = a ∧ K.lookup a = none ∧ ∃ o ys, u = .frz o ys)) →
      codeAny (model P w) callerA (.call (.ref fa) ⟨[.ref a], []⟩) (fun r s' => r = .ok (.ret (.bool true)) ∧ OldK s₁.heap s'.heap ∧ s'.os = s₁.os ∧ AllBare s'.gens) s₁ := by
    intro H hH hS hok hA
    -- what is neither the script nor a table is not tracked
    have out : ∀ {b : Addr} {o : Obj}, s₁.heap.get? b = some o → o.data ≠ .fields #[] → (∀ xs n, o.data ≠ .seq xs n) → H b = none := fun {b o} e n1 n2 => by
      cases q : H b with
      | none => rfl
      | some u =>
        rcases hA b u q with h | ⟨h, _⟩
        · rw [isT b h] at e
          cases e
          exact absurd rfl n1
        · rw [h, ha] at e
          cases e
          exact absurd rfl (n2 _ _)
    have lay : ∀ {b : Addr} {o : Obj}, s₁.heap.get? b = some o → H b = none → (hidT s₁.heap H).get? b = some o := fun e n => hidT_get e n
    have ns_ : ∀ {b : Addr} {m : Str → Option Value}, s₁.heap.Ns b m → (hidT s₁.heap H).Ns b m := fun {b m} ⟨o, es, ep, e, d, r⟩ =>
      ⟨o, es, ep, lay e (out e (fun z => by rw [d] at z; cases z) (fun xs n z => by rw [d] at z; cases z)), d, r⟩
    have hK : K.In (hidT s₁.heap H) := fun b o e => lay (KX b o e) (by
      cases q : H b with
      | none => rfl
      | some u =>
        rcases hA b u q with h | ⟨h, n, _⟩
        · obtain ⟨p, hp, rfl⟩ := List.mem_map.mp h
          rw [nT p hp] at e
          cases e
        · rw [h, n] at e
          cases e)
    have hM : Mod K mg (hidT s₁.heap H) := ⟨hK, ns_ hns, ⟨mb, ns_ hb, hbb⟩, let ⟨mc, h1, h2⟩ := hlim; ⟨mc, ns_ h1, h2⟩⟩
    have TB : ∀ p ∈ cs, TabB (hidT s₁.heap H) mg p.1 p.2 := fun p hp => by
      refine ⟨?_, ?_, fun z => ?_⟩
      · obtain ⟨o, us, file, tf, flags, tg, inF, text, tt, e1, r1, r2, r3, rest⟩ := C p hp
        refine ⟨o, us, file, tf, flags, tg, inF, text, tt, lay e1 (out e1 (fun z => ?_) fun xs n z => ?_), r1, r2, r3, rest⟩
        · rw [r2] at z
          cases z
          simp at r3
        · rw [r2] at z
          cases z
      · obtain ⟨bm, ob, b1, b2, b3, b4, b5, b6⟩ := hbm
        refine ⟨bm, ob, b1, b2, fun q => ?_, fun q => ?_, lay b3 (out b3 (fun z => ?_) fun xs n z => ?_), b4, b5, b6⟩
        · obtain ⟨o, es, ep, e, hd, _⟩ := hns
          rw [q, e] at b3
          cases b3
          rw [hd] at b6
          cases b6
        · rw [q, hT p hp] at b3
          cases b3
          cases b6
        · rw [b6] at z
          cases z
        · rw [b6] at z
          cases z
      · obtain ⟨o, es, ep, e, hd, _⟩ := hns
        rw [z, hT p hp] at e
        cases e
        cases hd
    have e0 : Env0 P w K mg (hidT s₁.heap H) callerA [] s₁ H := ⟨rfl, hM, fun b o e => of_hidT e, Nat.le_of_eq (hidT_size _ _), trivial, fun b hb => absurd (show b ∈ ([] : List Addr) from hb) (by simp), hok, .of_eq hg⟩
    refine codeAny_mono ((F _ hK (ns_ hns) TB).run callerA [] s₁ H ⟨[.ref a], []⟩ [.ref a] [.ref a] _ _ hr rfl e0 (hbind s₁ (.ref a)) (.cons rfl .nil) (hsp H (fun p hp => hH _ (inT p hp)) hS)) fun r s' h => ?_
    match r, h with
    | .error e, h => exact False.elim h
    | .ok .next, h => exact False.elim h
    | .ok .brk, h => exact False.elim h
    | .ok .cont, h => exact False.elim h
    | .ok (.ret u), h =>
      obtain ⟨v, H', os, bare, un, hok', r', q⟩ := h
      obtain rfl : v = .bl true := q
      obtain rfl : u = Value.bool true := r'
      have old : ∀ b o, b ∉ tb → s₁.heap.get? b = some o → s'.heap.get? b = some o := fun b o nb e => by
        cases q : H b with
        | none => exact un.keep b o e q (by intro z; exact absurd (show b ∈ ([] : List Addr) from z) (by simp)) (by simp)
        | some u =>
          rcases hA b u q with h | ⟨_, _, o', ys, rfl⟩
          · exact absurd h nb
          · obtain ⟨e1, _⟩ := hok b _ q
            obtain ⟨e2, _⟩ := hok' b _ (un.frzs b o' _ q)
            rw [e] at e1
            cases e1
            exact e2
      have grown : ∀ b ∈ tb, ∃ more : Array Value, s'.heap.get? b = some { cls := .none, data := .fields more } := fun b hb => by
        obtain ⟨more, z⟩ := un.tbls b #[] (hH b hb)
        exact ⟨_, hok' b _ z⟩
      refine ⟨rfl, ⟨fun b o e => ?_, fun b o e => ?_⟩, os, bare⟩
      · by_cases hb : b ∈ tb
        · obtain ⟨more, hm⟩ := grown b hb
          obtain ⟨p, hp, rfl⟩ := List.mem_map.mp hb
          rw [hT p hp] at e
          cases e
          exact .inr (.inl ⟨((C p hp).tab (hT p hp)).isCodeTable, rfl, #[], more, rfl, by rw [Array.empty_append]; exact hm⟩)
        · exact .inl (old b o hb e)
      · by_cases hb : b ∈ tb
        · obtain ⟨more, hm⟩ := grown b hb
          exact ⟨_, hm⟩
        · exact ⟨o, old b o hb e⟩
  cases hk : K.lookup a with
  | some o =>
    have e := KX a o hk
    rw [ha] at e
    cases e
    refine core (fun b => if b ∈ tb then some (.tbl #[]) else none) (fun b h => if_pos h) (.inr ⟨_, vs.toArray, _, hk, rfl, rfl, rfl, by rw [List.size_toArray, hi.length]; exact hl, by simpa using rv⟩) (fun b u z => ?_) (fun b u z => ?_)
    · by_cases hb : b ∈ tb
      · have z' := (if_pos hb).symm.trans z
        cases z'
        exact isT b hb
      · exact nomatch (if_neg hb).symm.trans z
    · by_cases hb : b ∈ tb
      · exact .inl hb
      · exact nomatch (if_neg hb).symm.trans z
  | none =>
    refine core (fun b => if b ∈ tb then some (.tbl #[]) else if b = a then some (.frz { cls := .type "list", data := .seq vs.toArray } (.lst (ns.map V.int))) else none) (fun b h => if_pos h)
      (.inl (.inr ⟨{ cls := .type "list", data := .seq vs.toArray }, (if_neg aT).trans (if_pos rfl)⟩)) (fun b u z => ?_) (fun b u z => ?_)
    · by_cases hb : b ∈ tb
      · have z' := (if_pos hb).symm.trans z
        cases z'
        exact isT b hb
      · have z' := (if_neg hb).symm.trans z
        by_cases hba : b = a
        · have z'' := (if_pos hba).symm.trans z'
          cases z''
          rw [hba]
          exact ⟨ha, by rw [List.length_map]; exact hl, vs, _, rv, ha⟩
        · exact nomatch (if_neg hba).symm.trans z'
    · by_cases hb : b ∈ tb
      · exact .inl hb
      · have z' := (if_neg hb).symm.trans z
        by_cases hba : b = a
        · have z'' := (if_pos hba).symm.trans z'
          exact .inr ⟨hba, hk, _, _, (Option.some.inj z'').symm⟩
        · exact nomatch (if_neg hba).symm.trans z'
theorem walk_ofGT {l : PySem.W.OpenLaw} {n k : Nat} {q : Program} {loose : List Str} {XP : (Str → Option Value) → Heap → Prop} {YP : World → Heap → Prop} {d : DefRec} {K : Params → PySem.W.Frag} {sp : PySem.W.Frag → List (Addr × Addr) → Sp} {x : Str} (names : List Str)
    (hn : l.most = some n) (hn2 : n ≤ sizeLine) (hdf : d.params.defaults = []) (hr : Room k callerA)
    (hY : ∀ (w : World) (h : Heap), YP w h → (K w.params).In h) (hrec : ∀ y ∈ names, ((recsOf q).find? fun e => e.name == y).isSome = true)
    (F : ∀ (w : World) (mg : Str → Option Value) (fa : Addr) (h : Heap), (K w.params).In h → h.Ns mainGlobals mg → mg d.name = some (.ref fa) →
      ∃ (fd : FuncData) (cs : List (Addr × Addr)), (∀ p ∈ cs, ∃ y ∈ names, PySem.W.tabIn (K w.params) y = some p) ∧ (∀ p ∈ cs, (K w.params).lookup p.2 = none) ∧ (∀ (s : Shared) (u : Value), BindsTo s fd ⟨[u], []⟩ [(x, u)]) ∧
        ∀ base : Heap, (K w.params).In base → base.Ns mainGlobals mg → (∀ p ∈ cs, TabB base mg p.1 p.2) → FnG l.prog w (K w.params) mg base CX0 k fa fd [x] (sp (K w.params) cs))
    (hsp : ∀ (K : PySem.W.Frag) (cs : List (Addr × Addr)) (H : Hp) (a : Addr) (ns : List Int), ns.length ≤ n → (∀ p ∈ cs, H p.2 = some (.tbl #[])) → SqL K H a (ns.map V.int) → sp K cs [.ref a] H (fun v _ => v = .bl true) fun _ _ _ => False) :
    PySem.W.WalkO q loose XP YP l.row.toRowW d [] (fun f vs => PySem.call f vs) := by
  refine Att.attach_call hn hdf fun w s₀ s₁ mg mb fa o pm cd doc a vs ns G Y ho hd hcd hmg hobj hints hlen hg => ?_
  have KX := hY w _ Y
  obtain ⟨fd, cs, ht, nt, hb, hF⟩ := F w mg fa _ KX G.T.g hmg
  have tabs : ∀ p ∈ cs, PySem.W.CodeHd s₁.heap p.1 p.2 ∧ s₁.heap.get? p.2 = some { cls := .none, data := .fields #[] } := fun p hp => by
    obtain ⟨y, hy, e⟩ := ht p hp
    obtain ⟨dr, hdr⟩ := Option.isSome_iff_exists.mp (hrec y hy)
    exact PySem.W.tab_of G.T KX hdr e
  exact law_callGT KX G.T.g G.T.b G.T.builtins G.T.nolimit hg (fun p hp => (tabs p hp).2) nt (fun p hp => (tabs p hp).1) G.T.bmain hobj hints (Nat.le_trans hlen hn2) hr hF hb (fun H hH hS => hsp _ cs H a ns hlen hH hS)
end
section
open PySem.Spec PyProof.Rows LamX
/-- the same over a head by facts: the written part is told by what the heap says -/
theorem walk_ofGTE {l : PySem.W.OpenLaw} {n k : Nat} {q : Program} {loose : List Str} {XP : (Str → Option Value) → Heap → Prop} {YP : World → Heap → Prop} {d : DefRec} {sp : PySem.W.Frag → List (Addr × Addr) → Sp} {x : Str} (names : List Str)
    (hn : l.most = some n) (hn2 : n ≤ sizeLine) (hdf : d.params.defaults = []) (hr : Room k callerA) (hrec : ∀ y ∈ names, ((recsOf q).find? fun e => e.name == y).isSome = true)
    (F : ∀ (w : World) (mg : Str → Option Value) (fa : Addr) (h : Heap), YP w h → h.Ns mainGlobals mg → mg d.name = some (.ref fa) →
      ∃ (K : PySem.W.Frag) (fd : FuncData) (cs : List (Addr × Addr)), K.In h ∧ (∀ p ∈ cs, ∃ y ∈ names, PySem.W.tabIn K y = some p) ∧ (∀ p ∈ cs, K.lookup p.2 = none) ∧ (∀ (s : Shared) (u : Value), BindsTo s fd ⟨[u], []⟩ [(x, u)]) ∧
        ∀ base : Heap, K.In base → base.Ns mainGlobals mg → (∀ p ∈ cs, TabB base mg p.1 p.2) → FnG l.prog w K mg base CX0 k fa fd [x] (sp K cs))
    (hsp : ∀ (K : PySem.W.Frag) (cs : List (Addr × Addr)) (H : Hp) (a : Addr) (ns : List Int), ns.length ≤ n → (∀ p ∈ cs, H p.2 = some (.tbl #[])) → SqL K H a (ns.map V.int) → sp K cs [.ref a] H (fun v _ => v = .bl true) fun _ _ _ => False) :
    PySem.W.WalkO q loose XP YP l.row.toRowW d [] (fun f vs => PySem.call f vs) := by
  refine Att.attach_call hn hdf fun w s₀ s₁ mg mb fa o pm cd doc a vs ns G Y ho hd hcd hmg hobj hints hlen hg => ?_
  obtain ⟨K, fd, cs, KX, ht, nt, hb, hF⟩ := F w mg fa _ Y G.T.g hmg
  have tabs : ∀ p ∈ cs, PySem.W.CodeHd s₁.heap p.1 p.2 ∧ s₁.heap.get? p.2 = some { cls := .none, data := .fields #[] } := fun p hp => by
    obtain ⟨y, hy, e⟩ := ht p hp
    obtain ⟨dr, hdr⟩ := Option.isSome_iff_exists.mp (hrec y hy)
    exact PySem.W.tab_of G.T KX hdr e
  exact law_callGT KX G.T.g G.T.b G.T.builtins G.T.nolimit hg (fun p hp => (tabs p hp).2) nt (fun p hp => (tabs p hp).1) G.T.bmain hobj hints (Nat.le_trans hlen hn2) hr hF hb (fun H hH hS => hsp _ cs H a ns hlen hH hS)
end



/-! ### f(lambda: ..): the def that calls what it got, where what is raised is told at its own slots -/
section
open PySem.Spec PyProof.Rows LamX
variable {X : Cx} {pins : List (Addr × Obj)} {σ : L2.St} {H : Hp} {s : Shared}
/-- the def's context, entered at s from X -/
abbrev cxC (X : Cx) (Ng : List Str) (x : Str) (sg : Scope) (g : Addr) (cdg : Value) (s : Shared) (H : Hp) : Cx := cxOf CX0 X.prog X.w X.K X.mg X.base Ng x sg g cdg X.A X.stack s H E0
theorem pe_actS {Ng : List Str} {x : Str} {sg : Scope} {g f c' : Addr} {cdg pm ctv : Value} {params : Arguments} {body : Expr} {scope : Scope} {k i : Nat} {a : Str} {pn : List (Addr × Obj)} {xe : Value → Shared → Prop} {W : WX} {tb : XK → TE} {p1 p2 : Pos}
    (I : Inv X pins σ H s) (L : LamS X.env.scope scope) (hf : s.heap.get? f = some (PySem.W.kla_obj "<lambda>" (X.env.qual ++ "<lambda>") params body scope (cloFrom X.env.cells scope.names []) pm c' ctv)) (hfn : H f = none) (hfr : f ∉ frs X.stack)
    (hbind : bindArgs (PySem.W.kla_fn "<lambda>" (X.env.qual ++ "<lambda>") params body scope (cloFrom X.env.cells scope.names []) pm (.ref c') ctv) ⟨[], []⟩ = pure [])
    (tk : Takes ((cxC X Ng x sg g cdg s H).tr pn xe) W) (hr : Room (k + 1) (X.A.deeper (envOfC x sg s.heap.objs.size g cdg)))
    (hbody : ∀ (A : Around) (outer : List Env) (s : Shared) (H : Hp) (E : XK), Room k (A.deeper (lamEnv X scope s.heap.objs.size f c')) → A.guards = X.A.guards → PE (lamCx X A outer s H E scope f c') body (tb E))
    (hN : Ng[i]? = some a) (hv : Vis sg a) (hd : (a == ("__debug__" : Str)) = false := by decide) (hcd : (a == ("__classdict__" : Str)) = false := by decide) :
    PE ((cxC X Ng x sg g cdg s H).tr pn xe) (.Call (.Name a p1) [] [] p2) (fun σZ HZ Q => σZ[i]? = some (some (.ref f)) ∧ HZ c' = some (CodeO c' (X.env.qual ++ "<lambda>")) ∧ ∃ (E : XK) (Q' : VK), (∀ cls d H', E cls d H' → W cls d σZ H') ∧ (∀ v H', Q' v H' → Q v H') ∧ tb E σ HZ Q') := by
  refine ⟨fun pinsZ sZ σZ HZ Q IZ ⟨hs, hc, E, Q', hW, hQ, ht⟩ => ?_⟩
  refine wpAny_Call_Name_kw (thn ((pe_var (pos := p1) (i := i) hN hv hd hcd).run pinsZ sZ σZ HZ (fun v H1 => v = .ref f ∧ H1 = HZ) IZ ⟨.ref f, hs, rfl, rfl⟩) fun u s1 ⟨v, H1, I1, r1, ev, eH⟩ => ?_)
  subst ev eH
  obtain rfl : u = Value.ref f := r1
  have of1 := I1.base.keep f _ hf hfn hfr (fun z => nomatch (show f ∈ ([] : List Addr) from z))
  refine PySem.W.callWith_F0 ⟨_, _, _, _, of1⟩ ?_
  obtain ⟨⟨oc, vs, t, hoc, hdc, hvc⟩, _, _⟩ := I1.hok c' _ hc
  refine wpAny_call ?_
  refine codeAny_mono (R := CR (L2.CX X.prog X.w) (envOfC x sg s.heap.objs.size g cdg :: X.stack) X.prog X.w H1 s1 Q' E) ?_ fun r s' hq => ?_
  · refine PySem.W.kla_callFunE hr.depth of1 rfl L.co L.gen rfl ⟨c', oc, vs, t, rfl, hoc, hdc, hvc⟩ ?_
    show wpAny _ _ (bindArgs _ ⟨[], []⟩) _ _ _
    rw [hbind]
    refine wpAny_pure (wpAny_newFunctionEnv (fun y hy => (L.own y hy).2) (fun y hy => absurd hy (by simp)) (fun h₁ hns hsb => ⟨I1.nolimit.fresh _ hsb, ?_⟩) L.kind)
    have kp : ∀ b o, s1.heap.get? b = some o → h₁.get? b = some o := fun b o e => hsb.extBut b o (Nat.ne_of_lt (Heap.lt_size e)) (Heap.get?_push_of_some _ e)
    have J : Inv (lamCx X (X.A.deeper (envOfC x sg s.heap.objs.size g cdg)) (envOfC x sg s.heap.objs.size g cdg :: X.stack) s1 H1 E scope f c') [] σ H1 { s1 with heap := h₁, toks := s1.toks + ([] : List (Str × Value)).length } :=
      lam_start2 I L I1.env0 hr.hd I1.base hns kp
    refine PySem.W.kla_codeExpr (wpAny_mono ((hbody _ _ s1 H1 E (hr.deeper _) rfl).run [] _ _ H1 Q' J ht) (fun v s' ⟨w', H', J', rv, q⟩ => ?_) fun e s' hq => hq)
    exact ⟨w', H', J'.os, J'.bare, J'.base, J'.hok, rv, q⟩
  · cases r with
    | error e => exact tk e s' (XE.of_call I1 hW hq)
    | ok fl =>
      cases fl with
      | ret u =>
        obtain ⟨v, H', I', r, q⟩ := I1.after hq
        exact ⟨v, H', I', r, hQ _ _ q⟩
      | next => exact False.elim hq
      | brk => exact False.elim hq
      | cont => exact False.elim hq
/-- what the def (x at g) makes of what it got: TT of the lambda's reading -/
def GivesC (X : Cx) (Ng : List Str) (x : Str) (sg : Scope) (g : Addr) (cdg : Value) (bg : List Stmt) (a : Str) (q : Str) (TT : (XK → Hp → VK → Prop) → Hp → VK → Prop) : Prop :=
  ∀ (f c' : Addr) (s : Shared) (H : Hp) (Q : VK) (tl : XK → Hp → VK → Prop),
    (∀ (W : WX) (pn : List (Addr × Obj)) (xe : Value → Shared → Prop) (p1 p2 : Pos), Takes ((cxC X Ng x sg g cdg s H).tr pn xe) W →
      PE ((cxC X Ng x sg g cdg s H).tr pn xe) (.Call (.Name a p1) [] [] p2) (fun σZ HZ Q => σZ[0]? = some (some (.ref f)) ∧ HZ c' = some (CodeO c' q) ∧ ∃ (E : XK) (Q' : VK), (∀ cls d H', E cls d H' → W cls d σZ H') ∧ (∀ v H', Q' v H' → Q v H') ∧ tl E HZ Q')) →
    H c' = some (CodeO c' q) → TT tl H Q → ∃ t, PSs (cxC X Ng x sg g cdg s H).nox bg t ∧ t { nx := fun _ H' => Q .non H', rt := Q } (L2.start Ng [.ref f]) H
/-- x(lambda: body) -/
theorem pe_lamC {T : List (Addr × Str)} {TT : (XK → Hp → VK → Prop) → Hp → VK → Prop} {x a : Str} {g c P : Addr} {k : Nat} {pg : Arguments} {bg : List Stmt} {sg : Scope} {dV kV doc pm cdv ct oc : Value} {an od : Option Addr} {osl : Array (Option Value)} {Ng : List Str}
    {params : Arguments} {body : Expr} {scope : Scope} {t : XK → TE} {p lpos pos : Pos} (hg : Gl X x) (hm : X.mg x = some (.ref g)) (hk : PySem.W.keepIn X.K (.ref g) = true)
    (lk : X.K.lookup g = some ⟨oc, od, .func (PySem.W.fnOf x x pg bg sg dV kV doc pm an cdv ct), osl⟩) (hcg : PySem.W.codeIn X.K cdv x = true) (hb : L2.Binds X.K (PySem.W.fnOf x x pg bg sg dV kV doc pm an cdv ct) [a] []) (Sg : FnScope Ng [a] sg) (hNg : Ng[0]? = some a) (hva : Vis sg a)
    (hG : GivesC X Ng x sg g cdv bg a (X.env.qual ++ "<lambda>") TT)
    (TB : TabB X.base X.mg c P) (hcode : X.env.code = .ref c) (hmT : (P, X.env.qual ++ "<lambda>") ∈ T) (hu : ∀ p ∈ T, p.1 = P → p.2 = X.env.qual ++ "<lambda>") (hr : Room (k + 2) X.A) (L : LamS X.env.scope scope) (hdef : defaultsOf params X.env = ([], []))
    (hbind : ∀ (q : Str) (cl : List (Str × Addr)) (pm cv ctv : Value), bindArgs (PySem.W.kla_fn "<lambda>" q params body scope cl pm cv ctv) ⟨[], []⟩ = pure [])
    (hbody : ∀ (A : Around) (outer : List Env) (s : Shared) (H : Hp) (E : XK) (f c' : Addr), Room k (A.deeper (lamEnv X scope s.heap.objs.size f c')) → A.guards = X.A.guards → PE (lamCx X A outer s H E scope f c') body (t E))
    (hdb : (x == ("__debug__" : Str)) = false := by decide) (hd : (a == ("__debug__" : Str)) = false := by decide) (hcd : (a == ("__classdict__" : Str)) = false := by decide) :
    PE X (.Call (.Name x p) [.Lambda params body scope lpos] [] pos) (tLam T TT t) := by
  refine ⟨fun pins s σ H Q I ⟨hT, h⟩ => ?_⟩
  refine wpAny_Call_Name_kw (ld_glob I hg hm ?_ hdb)
  refine PySem.W.callWith_K (h₀ := X.base) I.ok.mod.kin hk ?_ (by rfl) (by rfl)
  show wpAny _ _ (spliced ((false, eval (.Lambda params body scope lpos) X.env) :: backTo pos (starEach [] X.env))) _ _ s
  refine Calls.spliced_cons (lam_make2 I TB hcode hmT hu hT hdef (L.has I.ok) fun f c' pm' ctv H1 s' I1 eN T1 hf hfn hfr hco => ?_)
  refine Calls.spliced_nil ⟨I1.kIn, ?_⟩
  refine wpAny_call (codeAny_mono (R := CR CX0 X.stack X.prog X.w H1 s' Q E0) ?_ fun r s2 hq => ?_)
  · refine run_ofS (N := Ng) (ps := [a]) (us := [.ref f]) (vs := [.ref f]) lk hcg Sg hr I1.env0 (hb s' [.ref f] I1.kIn rfl) (.cons rfl .nil) rfl fun hr' => ?_
    obtain ⟨t', ht', hq'⟩ := hG f c' s' H1 Q (fun E H' Q' => t E σ H' Q') (fun W pn xe p1 p2 tk => pe_actS (i := 0) I1 L hf hfn hfr (hbind _ _ _ _ _) tk hr' (fun A outer s H E hr2 hg2 => hbody A outer s H E f c' hr2 hg2) hNg hva hd hcd) hco (h H1 eN T1)
    exact ⟨t', ht'.nox, hq'⟩
  · cases r with
    | error e => exact (show False from hq).elim
    | ok fl =>
      cases fl with
      | ret u => exact I1.after hq
      | next => exact False.elim hq
      | brk => exact False.elim hq
      | cont => exact False.elim hq
end



/-! ### the kinds of errors that the laws tell -/
/-- D is the j-th of the classes es (all but the last two over LineError) -/
structure KindAt (K : PySem.W.Frag) (es : Nat → Addr) (l t n D : Addr) (j : Nat) : Prop where
  lt : j < 13
  kit : ∀ i, i < 16 → PySem.W.kitOne K (.ref D) (.ref (es i)) = some (decide (i = j))
  ve : PySem.W.kitOne K (.ref D) (.type "ValueError") = some true
  xi : XIs K D
  ex : PySem.W.exmAny K (.ref D) [.ref l, .ref t, .ref n] = some true
theorem isCls_some {K : PySem.W.Frag} {C : Addr} (h : PySem.W.isClsIn K C = true) : (PySem.W.clsIn K C).isSome = true := h
theorem kit_inR {K : PySem.W.Frag} {C D : Addr} (mc : PySem.W.mroIn K D (.ref D) = some true) (ic : PySem.W.isClsIn K C = true) (ty : PySem.W.typeIn K (.ref C) = some (.type "type")) (h : PySem.W.subIn K (.ref D) (.ref C) = some false) : PySem.W.kitOne K (.ref D) (.ref C) = some false := by
  refine kit_in ic ty h fun e => ?_
  rw [← e] at h
  have h' : PySem.W.mroIn K D (.ref D) = some false := h
  rw [mc] at h'
  cases h'
theorem exm3 {K : PySem.W.Frag} {D c1 c2 c3 : Value} (h1 : PySem.W.exmOne K D c1 = some true) (h2 : PySem.W.exmOne K D c2 = some false) (h3 : PySem.W.exmOne K D c3 = some false) : PySem.W.exmAny K D [c1, c2, c3] = some true := by
  simp [PySem.W.exmAny, h1, h2, h3]
/-- a def of the module, its code object told -/
structure FunC (K : PySem.W.Frag) (x : Str) (st : Stmt) (f : Addr) (fd : FuncData) (c : Addr) : Prop where
  ex : ∃ (oc : Value) (od : Option Addr) (kV doc pm : Value) (an : Option Addr) (ct : Value) (osl : Array (Option Value)),
    fd = PySem.W.fnOf x x (defArgs st) (defBody st) (defScope st) .none kV doc pm an (.ref c) ct ∧ K.lookup f = some ⟨oc, od, .func fd, osl⟩ ∧ PySem.W.codeIn K (.ref c) x = true
  kp : PySem.W.keepIn K (.ref f) = true
theorem tab_mk {K : PySem.W.Frag} {x : Str} {f c P : Addr} {oc cl : Value} {od cld : Option Addr} {fd : FuncData} {sl csl : Array (Option Value)} {vs : Array Value} (a : PySem.W.nsIn K mainGlobals x = some (some (.ref f))) (l : K.lookup f = some ⟨oc, od, .func fd, sl⟩) (e : fd.code = .ref c)
    (lk : K.lookup c = some ⟨cl, cld, .fields vs, csl⟩) (v : vs[11]? = some (.ref P)) : PySem.W.tabIn K x = some (c, P) := by
  unfold PySem.W.tabIn
  rw [a]
  dsimp only
  rw [l]
  dsimp only
  rw [e]
  dsimp only
  rw [lk]
  dsimp only
  rw [v]
section
variable {P : Program} {w : World} {K : PySem.W.Frag} {mg : Str → Option Value} {base : Heap}
theorem okGC {x : Str} {st : Stmt} {f c : Addr} {fd : FuncData} {N ps : List Str} {k : Nat} {sp : Sp} (F : FunC K x st f fd c) (S : FnScope N ps (defScope st)) (len : ∀ vs H Q E, sp vs H Q E → vs.length = ps.length)
    (hbody : ∀ (A : Around) (outer : List Env) (s : Shared) (H : Hp) (vs : List V) (Q : VK) (E : XK), Room k (A.deeper (PyProof.Rows.envOfC x (defScope st) s.heap.objs.size f (.ref c))) → (cxOf CX0 P w K mg base N x (defScope st) f (.ref c) A outer s H E).nox.A.guards = some [] → sp vs H Q E →
      ∃ t, PSs (cxOf CX0 P w K mg base N x (defScope st) f (.ref c) A outer s H E).nox (defBody st) t ∧ t { nx := fun _ H' => Q .non H', rt := Q } (L2.start N vs) H) : FnG P w K mg base CX0 (k + 1) f fd ps sp := by
  obtain ⟨oc, od, kV, doc, pm, an, ct, osl, rfl, lk, hcd⟩ := F.ex
  refine fnG_of lk hcd S len fun A outer s H vs Q E hr hg hsp => ?_
  obtain ⟨t, h, q⟩ := hbody A outer s H vs Q E hr hg hsp
  exact ⟨t, h.nox, q⟩
end

/-! ### calls with keywords -/
def pick {α : Type} (is : List Nat) (xs : List α) : List α := is.filterMap fun i => xs[i]?
theorem pick_rel (is : List Nat) {xs : List V} {ys : List Value} (h : Vals xs ys) : Vals (pick is xs) (pick is ys) := by
  have key : ∀ i : Nat, (xs[i]? = none ∧ ys[i]? = none) ∨ ∃ x y, xs[i]? = some x ∧ ys[i]? = some y ∧ RelV x y := by
    induction h with
    | nil => exact fun i => .inl ⟨rfl, rfl⟩
    | cons r t ih =>
      intro i
      cases i with
      | zero => exact .inr ⟨_, _, rfl, rfl, r⟩
      | succ i => exact ih i
  unfold pick
  induction is with
  | nil => exact .nil
  | cons i is ih =>
    rw [List.filterMap_cons, List.filterMap_cons]
    rcases key i with ⟨h1, h2⟩ | ⟨x, y, h1, h2, r⟩
    · rw [h1, h2]
      exact ih
    · rw [h1, h2]
      exact .cons r ih
def mkGoK (C : Addr) (sp : Sp) (gV : List V → List V → List V) (E : XK) (vs zs : List V) (H : Hp) (Q : VK) : Prop := ∀ x dx, H x = none → H dx = none → dx ≠ x → sp (gV (.ref x :: vs) zs) (upd (upd H dx (.own x)) x (.ins C dx [])) (fun v H3 => v = .non ∧ Q (.ref x) H3) E
theorem tMakeK_eq {C : Addr} {n m : Nat} {sp : Sp} {gV : List V → List V → List V} {E : XK} {t tk : TA} {σ : St} {H : Hp} {Q : VK} : tMakeK C n m sp gV E t tk σ H Q = t σ H fun vs H1 => tk σ H1 fun zs H2 => vs.length = n ∧ zs.length = m ∧ mkGoK C sp gV E vs zs H2 Q := rfl
theorem makeK_go {C : Addr} {sp : Sp} {gV : List V → List V → List V} {E : XK} {vs zs ws : List V} {H : Hp} {Q : VK} (h : ∀ x, gV (.ref x :: vs) zs = .ref x :: (ws ++ [])) (k : ∀ x dx, H x = none → H dx = none → dx ≠ x → sp (.ref x :: (ws ++ [])) (upd (upd H dx (.own x)) x (.ins C dx [])) (fun v H3 => v = .non ∧ Q (.ref x) H3) E) : mkGoK C sp gV E vs zs H Q := fun x dx h1 h2 h3 => by
  rw [h]
  exact k x dx h1 h2 h3



/-! ### sets of one-sign texts: set(t), len(set(t)), sorted(set(t)) -/
section
open PySem.Froz PyProof.Rows
def TOk (w : World) (t : SetTable) : Prop := Ris t.place.toList ∧ (w.params.followText "set-order" = true ∨ t.led = true)
theorem TOk.unplain {w : World} {t : SetTable} (d : TOk w t) : TOk w (if t.plain = true then { t with plain := false } else t) := by
  split
  · exact d
  · exact d
theorem TOk.tail {w : World} {ep : Nat} {es1 : Array (Int × Value)} {t2 : SetTable} {wd : Bool} (d : TOk w t2) : TOk w (tailTx ep es1 t2 wd).2.2 := by
  unfold tailTx
  split
  · exact ⟨relayAll_ris _ _ _, by rw [relayAll_led]; exact d.2⟩
  · exact d
theorem TOk.add {w : World} {h : Int} {v : Value} {D : SD} (d : TOk w D.2.2) : TOk w (addTx h v D).2.2 :=
  TOk.tail (TOk.unplain ⟨layNew_ris _ _ _ _ d.1, by rw [layNew_led]; exact d.2⟩)
theorem TOk.run {w : World} : ∀ (cs : List Nat) (tk : Tok) (D : SD), TOk w D.2.2 → TOk w (runD w cs tk D).2.2
  | [], _, _, d => d
  | c :: cs, tk, D, d => TOk.run cs (tk + 2) _ d.add
theorem txOk_run {P : Program} {w : World} : ∀ (cs : List Nat) (tk : Tok) (D : SD) (l : List Str), TxOk P w D l → TxOk P w (runD w cs tk D) ((cs.map sing).reverse ++ l)
  | [], _, _, _, d => d
  | c :: cs, tk, D, l, d => by
    have q := txOk_run cs (tk + 2) _ (sing c :: l) (add_ok tk d)
    rw [List.map_cons, List.reverse_cons, List.append_assoc]
    exact q
theorem perm_of_sub {α : Type} [BEq α] [LawfulBEq α] : ∀ {l m : List α}, l.Nodup → (∀ x ∈ l, x ∈ m) → m.length = l.length → m.Perm l
  | [], m, _, _, h => by rw [List.length_eq_zero_iff.mp h]
  | x :: l, m, hn, hs, h => by
    obtain ⟨h1, h2⟩ := List.nodup_cons.mp hn
    have hx := hs x List.mem_cons_self
    refine (List.perm_cons_erase hx).trans (List.Perm.cons x (perm_of_sub h2 (fun y hy => ?_) ?_))
    · have ne : y ≠ x := fun e => h1 (e ▸ hy)
      exact (List.mem_erase_of_ne ne).mpr (hs y (List.mem_cons_of_mem _ hy))
    · rw [List.length_erase_of_mem hx, h]
      rfl
def addU (l : List Str) (c : Nat) : List Str := if sing c ∈ l then l else sing c :: l
/-- the unlike signs of a text -/
def dist (cs : List Nat) : List Str := cs.foldl addU []
theorem sing_inj {c d : Nat} (h : sing c = sing d) : c = d := by
  have q2 : [c] = [d] := congrArg (fun y : Str => y.cps.toList) h
  exact (List.cons.inj q2).1
theorem addU_len (l : List Str) (c : Nat) : (addU l c).length ≤ l.length + 1 := by
  unfold addU
  split
  · exact Nat.le_succ _
  · exact Nat.le_refl _
theorem foldU_len : ∀ (cs : List Nat) (l : List Str), (cs.foldl addU l).length ≤ l.length + cs.length
  | [], l => Nat.le_refl _
  | c :: cs, l => by
    have q := foldU_len cs (addU l c)
    have q2 := addU_len l c
    show ((cs.foldl addU (addU l c))).length ≤ l.length + (cs.length + 1)
    omega
theorem foldU_full : ∀ (cs : List Nat) (l : List Str), (cs.foldl addU l).length = l.length + cs.length → cs.Nodup ∧ ∀ c ∈ cs, sing c ∉ l
  | [], l, _ => ⟨List.nodup_nil, fun c h => by simp at h⟩
  | c :: cs, l, h => by
    have q := foldU_len cs (addU l c)
    have q2 := addU_len l c
    have h' : (cs.foldl addU (addU l c)).length = l.length + (cs.length + 1) := h
    have hc : sing c ∉ l := fun hm => by
      have e : addU l c = l := if_pos hm
      rw [e] at q h'
      omega
    have e : addU l c = sing c :: l := if_neg hc
    rw [e] at h'
    obtain ⟨a1, a2⟩ := foldU_full cs (sing c :: l) (by rw [h', List.length_cons]; omega)
    refine ⟨List.nodup_cons.mpr ⟨fun hm => a2 c hm List.mem_cons_self, a1⟩, fun d hd => ?_⟩
    rcases List.mem_cons.mp hd with rfl | hd
    · exact hc
    · exact fun hm => a2 d hd (List.mem_cons_of_mem _ hm)
theorem dist_nodup {cs : List Nat} (h : (dist cs).length = cs.length) : cs.Nodup := (foldU_full cs [] (by rw [← dist, h]; simp)).1
theorem foldU_nodup : ∀ (cs : List Nat) (l : List Str), cs.Nodup → (∀ c ∈ cs, sing c ∉ l) → (cs.foldl addU l).length = l.length + cs.length
  | [], l, _, _ => rfl
  | c :: cs, l, hn, h => by
    obtain ⟨h1, h2⟩ := List.nodup_cons.mp hn
    have e : addU l c = sing c :: l := if_neg (h c List.mem_cons_self)
    show (cs.foldl addU (addU l c)).length = l.length + (cs.length + 1)
    rw [e, foldU_nodup cs _ h2 fun d hd hm => ?_, List.length_cons]
    · omega
    · rcases List.mem_cons.mp hm with q | q
      · exact h1 (sing_inj q ▸ hd)
      · exact h d (List.mem_cons_of_mem _ hd) q
theorem dist_len {cs : List Nat} (h : cs.Nodup) : (dist cs).length = cs.length := by
  have q := foldU_nodup cs [] h fun _ _ => by simp
  simpa [dist] using q
theorem dist_le (cs : List Nat) : (dist cs).length ≤ cs.length := by
  have q := foldU_len cs []
  simpa [dist] using q
section
variable {P : Program} {w : World} {A : Around} {R : Result → Shared → Prop}
theorem update_any {a it : Addr} (hne : a ≠ it) {x : Str} {u : Tok} (hh : A.handled = none) : ∀ (cs : List Nat) (i : Nat) (l : List Str) (s : Shared), x.cps.toList.drop i = cs →
    s.heap.SetOf (strKind P w) a (fun k => decide (k ∈ l)) l.length → s.heap.get? it = some (itObj x u i) → l.length + cs.length < scanBound →
    (∀ h' tk, h'.SetOf (strKind P w) a (fun k => decide (k ∈ cs.foldl addU l)) (cs.foldl addU l).length → (∀ b o, b ≠ a → b ≠ it → s.heap.get? b = some o → h'.get? b = some o) → R (.ok (.ret .none)) { s with heap := h', toks := tk }) →
    codeAny (model P w) A (.builtin "set.update.loop" ⟨[.ref a, .ref it], []⟩) R s
  | [], i, l, s, hd, ha, hit, hb, h => by
    refine codeAny_builtin PyProof.Rows.F.entry_set_update_loop ?_
    rw [Around.under_plainId PyProof.Rows.F.plain_set_update_loop _]
    show wpAny _ A.in1 (pyNext (.ref it) >>= _) _ _ s
    refine wpAny_bind (end_x (u := u) (by exact hh) hit (at_end hd) ?_)
    show wpAny _ A.in1 (ret Value.none) _ _ _
    refine wpAny_pure (h _ s.toks ?_ fun b o n1 n2 e => ?_)
    · obtain ⟨o, es, ep, t, ho, rest⟩ := ha
      exact ⟨o, es, ep, t, Heap.get?_push_of_some _ (Heap.get?_push_of_some _ (PySem.Heap.get?_update_of_ne _ (Ne.symm hne) ho)), rest⟩
    · exact Heap.get?_push_of_some _ (Heap.get?_push_of_some _ (PySem.Heap.get?_update_of_ne _ (Ne.symm n2) e))
  | c :: r, i, l, s, hd, ha, hit, hb, h => by
    obtain ⟨hx, hd2⟩ := at_of hd
    have hb2 : l.length + (r.length + 1) < scanBound := hb
    refine codeAny_builtin PyProof.Rows.F.entry_set_update_loop ?_
    rw [Around.under_plainId PyProof.Rows.F.plain_set_update_loop _]
    show wpAny _ A.in1 (pyNext (.ref it) >>= _) _ _ s
    refine wpAny_bind (next_x (u := u) hit hx ?_)
    show wpAny _ A.in1 (holding [Value.str (sing c) s.toks] (setAdd a (.str (sing c) s.toks)) >>= _) _ _ _
    refine wpAny_bind (wpAny_holding ?_)
    unfold setAdd
    refine wpAny_holding ?_
    refine wpAny_bind ((strKind P w).pyHash (k := sing c) (is_str _ _) ?_)
    have ha1 : (s.heap.update it (fun _ => itObj x u (i + 1))).SetOf (strKind P w) a (fun k => decide (k ∈ l)) l.length := by
      obtain ⟨o, es, ep, t, ho, rest⟩ := ha
      exact ⟨o, es, ep, t, PySem.Heap.get?_update_of_ne _ (Ne.symm hne) ho, rest⟩
    refine wpAny_setAddHashed_of (knd := strKind P w) (s := { s with heap := s.heap.update it (fun _ => itObj x u (i + 1)), toks := s.toks + 1 + 1 }) (is_str _ _) rfl ha1 (by omega) fun h' hsb hS => ?_
    have hS2 : h'.SetOf (strKind P w) a (fun k => decide (k ∈ addU l c)) (addU l c).length := by
      refine SetOf_congr hS (fun k => ?_) ?_
      · unfold addU
        by_cases hm : sing c ∈ l
        · rw [if_pos hm]
          by_cases e : k = sing c
          · subst e; simp [hm]
          · simp [e]
        · rw [if_neg hm]
          by_cases e : k = sing c
          · subst e; simp
          · simp [e]
      · unfold addU
        by_cases hm : sing c ∈ l
        · simp [hm]
        · simp [hm]
    refine wpAny_pure ⟨plainId_quiet PyProof.Rows.F.plain_set_update_loop _, update_any (u := u) hne hh r (i + 1) (addU l c) _ hd2 hS2 ?_ ?_ fun h2 tk hF hk => h h2 tk hF fun b o n1 n2 e => hk b o n1 n2 ?_⟩
    · rw [hsb.2 it (Ne.symm hne)]
      exact get_upd _ hit rfl
    · have q2 := addU_len l c
      omega
    · rw [hsb.2 b n1]
      exact PySem.Heap.get?_update_of_ne _ (Ne.symm n2) e
end
section
variable {P : Program} {w : World} {A : Around} {E : Value → Shared → Prop} {s : Shared}
def set0 (w : World) : Obj := { cls := .type "set", dict := none, data := .set #[] 0 (.fresh 0 0 (!w.params.followText "set-order")) }
set_option maxHeartbeats 3200000 in
theorem set_shell {x : Str} {u : Tok} {Q : Value → Shared → Prop} (hh : A.handled = none) (ha : x.cps.all (· < 128) = true) (Φ : Shared → Prop)
    (loop : ∀ (A' : Around) (R : Result → Shared → Prop), A'.handled = none → (∀ s', Φ s' → R (.ok (.ret .none)) s') →
      codeAny (model P w) A' (.builtin "set.update.loop" ⟨[.ref s.heap.objs.size, .ref (s.heap.push (set0 w)).objs.size], []⟩) R { s with heap := (s.heap.push (set0 w)).push (itObj x u 0) })
    (h : ∀ s', Φ s' → Q (.ref s.heap.objs.size) s') : wpAny (model P w) A (call (.type "set") [.str x u]) Q E s := by
  obtain ⟨c, tl, hmro⟩ := F.called_set.mro
  have hmade := F.called_set.made
  have hsub := F.called_set.sub
  refine wpAny_call (codeAny_of_tree ?_)
  show wpAny _ _ (callAny (.type "set") _) _ _ _
  refine wpAny_pure ⟨Code.quiet_builtin _ (by decide +kernel), codeAny_builtin F.entry_type_call ?_⟩
  rw [Around.under_plain (weight_type_call_type "set" [.str x u] []) rfl]
  have h1 := F.called_set.notType
  have h2 := F.called_set.canCreate
  have hct := F.typeCall_set_1 (.str x u)
  repeat (any_goals (first | assumption | wp_step))
  refine codeAny_mono (code_set_led1 (.str x u) (E := E) (Q₁ := fun obj s₁ => obj = .ref s.heap.objs.size ∧ s₁ = { s with heap := s.heap.push (set0 w) }) ⟨rfl, rfl⟩) fun r s₁ hr => ?_
  cases r with
  | error e => exact hr
  | ok fl =>
    cases fl with
    | ret obj =>
      obtain ⟨rfl, rfl⟩ := hr
      have hS : (s.heap.push (set0 w)).get? s.heap.objs.size = some (set0 w) := Heap.get?_push_size _ rfl
      have hT : Shared.TypeIs { s with heap := s.heap.push (set0 w) } (.ref s.heap.objs.size) "set" := ⟨_, hS, rfl⟩
      have hli := F.called_set.init.lookup
      have hbi := F.called_set.init.bind (.ref s.heap.objs.size)
      repeat (any_goals (first | assumption | wp_step))
      refine codeAny_mono (codeAny_call_builtin (R := wants (fun r s₂ => r = .none ∧ Φ s₂) E) F.called_set.init.plain F.entry_set_init (check_set_init_1 hT ?_)) fun r₂ s₂ hr₂ => ?_
      · have hsls := PySem.F.sub_str_set
        have hslf := PySem.F.sub_str_frozenset
        have hne : (Value.type "str" == Value.type "dict") = false := by decide
        have hS' : (s.heap.push (set0 w)).get? s.heap.objs.size = some { cls := .type "set", dict := none, data := .set #[] 0 (.fresh 0 0 (!w.params.followText "set-order")) } := hS
        unfold Builtin.«set.__init__» noKeywords Builtin.Frozenset.updateFrom
        generalize hPI : pyIter = PI
        wp_walk
        subst hPI
        refine wpAny_pyIter_ascii ha ?_
        refine wpAny_bind (wpAny_runValue ?_)
        have hh3 : A.in1.in1.in1.handled = none := by simp [hh]
        refine loop _ _ hh3 fun s' hs' => ?_
        show wpAny _ _ _ _ _ _
        refine wpAny_pure ?_
        show wpAny _ _ (ret Value.none) _ _ _
        exact wpAny_pure ⟨rfl, hs'⟩
      · cases r₂ with
        | error e => exact hr₂
        | ok fl₂ =>
          cases fl₂ with
          | ret r =>
            obtain ⟨rfl, hΦ⟩ := hr₂
            repeat (any_goals (first | assumption | wp_step))
            exact h _ hΦ
          | _ => exact hr₂.elim
    | _ => exact hr.elim
theorem set_any {x : Str} {u : Tok} {Q : Value → Shared → Prop} (hh : A.handled = none) (ha : x.cps.all (· < 128) = true) (hl : x.cps.size < 1000)
    (h : ∀ h' tk, h'.SetOf (strKind P w) s.heap.objs.size (fun k => decide (k ∈ dist x.cps.toList)) (dist x.cps.toList).length → (∀ b o, s.heap.get? b = some o → h'.get? b = some o) → Q (.ref s.heap.objs.size) { s with heap := h', toks := tk }) :
    wpAny (model P w) A (call (.type "set") [.str x u]) Q E s := by
  refine set_shell hh ha (fun s' => ∃ h' tk, s' = { s with heap := h', toks := tk } ∧ h'.SetOf (strKind P w) s.heap.objs.size (fun k => decide (k ∈ dist x.cps.toList)) (dist x.cps.toList).length ∧ ∀ b o, s.heap.get? b = some o → h'.get? b = some o) (fun A' R hA hR => ?_) fun s' ⟨h', tk, e, e1, e2⟩ => by
      subst e
      exact h h' tk e1 e2
  have hS : ((s.heap.push (set0 w)).push (itObj x u 0)).get? s.heap.objs.size = some (set0 w) := Heap.get?_push_of_some _ (Heap.get?_push_size _ rfl)
  refine update_any (by rw [Heap.size_push]; exact Nat.ne_of_lt (Nat.lt_succ_self _)) hA x.cps.toList 0 [] _ rfl ?_ (Heap.get?_push_size _ rfl) (by rw [Array.length_toList]; unfold scanBound; simp; omega) fun h' tk hF hk => hR _ ⟨h', tk, rfl, hF, fun b o e => ?_⟩
  · exact PyProof.Rows.SetOf_congr ((PyProof.Rows.setObjOf_fresh (knd := strKind P w) (!w.params.followText "set-order")).setOf hS (by unfold scanBound; simp)) (fun _ => by simp) rfl
  · have hb0 : b < s.heap.objs.size := Heap.lt_size e
    exact hk b o (Nat.ne_of_lt hb0) (by rw [Heap.size_push]; exact Nat.ne_of_lt (Nat.lt_succ_of_lt hb0)) (Heap.get?_push_of_some _ (Heap.get?_push_of_some _ e))
theorem set_nodup {x : Str} {u : Tok} {Q : Value → Shared → Prop} (hh : A.handled = none) (ha : x.cps.all (· < 128) = true) (hl : x.cps.size < 1000) (hn : x.cps.toList.Nodup)
    (h : ∀ h' tk D, h'.get? s.heap.objs.size = some (sObj "set" D) → TxOk P w D ((x.cps.toList.map sing).reverse) → TOk w D.2.2 → (∀ b o, s.heap.get? b = some o → h'.get? b = some o) → Q (.ref s.heap.objs.size) { s with heap := h', toks := tk }) :
    wpAny (model P w) A (call (.type "set") [.str x u]) Q E s := by
  have hne : s.heap.objs.size ≠ (s.heap.push (set0 w)).objs.size := by rw [Heap.size_push]; exact Nat.ne_of_lt (Nat.lt_succ_self _)
  refine set_shell hh ha (fun s' => ∃ h' tk D, s' = { s with heap := h', toks := tk } ∧ h'.get? s.heap.objs.size = some (sObj "set" D) ∧ TxOk P w D ((x.cps.toList.map sing).reverse) ∧ TOk w D.2.2 ∧ ∀ b o, s.heap.get? b = some o → h'.get? b = some o) (fun A' R hA hR => ?_) fun s' ⟨h', tk, D, e, e1, e2, e3, e4⟩ => by
      subst e
      exact h h' tk D e1 e2 e3 e4
  have hS : ((s.heap.push (set0 w)).push (itObj x u 0)).get? s.heap.objs.size = some (sObj "set" (#[], 0, .fresh 0 0 (!w.params.followText "set-order"))) := Heap.get?_push_of_some _ (Heap.get?_push_size _ rfl)
  have T0 : TxOk P w ((#[], 0, .fresh 0 0 (!w.params.followText "set-order")) : SD) [] := TxOk.nil (by rfl)
  have O0 : TOk w ((#[], 0, .fresh 0 0 (!w.params.followText "set-order")) : SD).2.2 := by
    refine ⟨List.Pairwise.nil, ?_⟩
    show w.params.followText "set-order" = true ∨ (!w.params.followText "set-order") = true
    cases w.params.followText "set-order" <;> simp
  refine code_update hne hA x.cps.toList 0 _ [] _ rfl hS (Heap.get?_push_size _ rfl) T0 (fun _ _ => by simp) hn (by rw [Array.length_toList]; unfold scanBound; simp; omega) (hR _ ?_)
  have T1 := txOk_run (P := P) (w := w) x.cps.toList s.toks _ [] T0
  rw [List.append_nil] at T1
  refine ⟨_, _, runD w x.cps.toList s.toks (#[], 0, .fresh 0 0 (!w.params.followText "set-order")), rfl, ?_, T1, TOk.run _ _ _ O0, fun b o e => ?_⟩
  · refine Heap.get?_push_of_some _ (Heap.get?_push_of_some _ ?_)
    exact PySem.Heap.get?_update_of_ne _ (Ne.symm hne) (get_upd _ hS rfl)
  · have hb0 : b < s.heap.objs.size := Heap.lt_size e
    have n1 : b ≠ s.heap.objs.size := Nat.ne_of_lt hb0
    have n2 : b ≠ (s.heap.push (set0 w)).objs.size := by rw [Heap.size_push]; exact Nat.ne_of_lt (Nat.lt_succ_of_lt hb0)
    refine Heap.get?_push_of_some _ (Heap.get?_push_of_some _ ?_)
    exact PySem.Heap.get?_update_of_ne _ (Ne.symm n2) (PySem.Heap.get?_update_of_ne _ (Ne.symm n1) (Heap.get?_push_of_some _ (Heap.get?_push_of_some _ e)))
end
section
variable {X : Cx} {a : Expr} {ta : TE} {p p2 q pos : Pos}
def tLenSetS (ta : TE) : TE := fun σ H Q => ta σ H fun x H1 => ∃ t, x = V.str t ∧ t.cps.all (· < 128) = true ∧ t.cps.size < 1000 ∧ Q (.int (dist t.cps.toList).length) H1
theorem pe_lenSetS (hc : X.calm = true) (hg : Gl X "len") (hm : X.mg "len" = none) (hg2 : Gl X "set") (hm2 : X.mg "set" = none) (ha : PE X a ta)
    (na : starEach [a] X.env = (false, eval a X.env) :: starEach [] X.env := by rfl) : PE X (.Call (.Name "len" p) [.Call (.Name "set" p2) [a] [] q] [] pos) (tLenSetS ta) := by
  refine ⟨fun pins s σ H Q I h => ?_⟩
  refine Call_ (ld_blt I hg hm PySem.boot_len ?_)
  refine PyProof.Rows.callWith_builtin1 (PyProof.Rows.args_cons ?_ rfl) rfl rfl
  refine Call_ (ld_blt I hg2 hm2 PyProof.Rows.boot_set ?_)
  refine PyProof.Rows.callWith_type1 (PyProof.Rows.args_cons (thn (ha.run pins s σ H _ I h) fun v s1 ⟨x, H1, I1, r1, q1⟩ => PyProof.Rows.args_nil ?_) na) na rfl
  obtain ⟨t, rfl, h1, h2, q1⟩ := q1
  obtain ⟨u, rfl⟩ := r1
  refine set_any (I1.ok.hd hc) h1 h2 fun h' tk hS hk => ?_
  refine PyProof.Rows.args_nil ?_
  obtain ⟨o, es, ep, tb, ho, hex, hd, _, _, _, hf, hn⟩ := hS
  have I2 : Inv X pins σ H1 { s1 with heap := h', toks := tk } := I1.kept hk
  have hle := dist_le t.cps.toList
  rw [Array.length_toList] at hle
  have hle2 : (dist t.cps.toList).length < 1000 := Nat.lt_of_le_of_lt hle h2
  have hle3 : es.size < 1000 := by rw [hn]; exact hle2
  refine call_len_set ho hex hd hf (by omega) ⟨.int (dist t.cps.toList).length, H1, I2.tok _, ⟨_, by rw [hn]⟩, q1⟩
def tSortSetS (ta : TE) : TE := fun σ H Q => ta σ H fun x H1 => ∃ t, x = V.str t ∧ t.cps.all (· < 128) = true ∧ t.cps.size < 64 ∧ t.cps.toList.Nodup ∧
  ∀ ys p, ys.Perm (t.cps.toList.map sing) → sortedS ys = true → H1 p = none → Q (.ref p) (upd H1 p (.lst (ys.map V.str)))
theorem strsAre_of : ∀ (l : List Value), (∀ v ∈ l, ∃ k tk, v = Value.str k tk) → ∃ ks, StrsAre l ks
  | [], _ => ⟨[], .nil⟩
  | v :: l, h => by
    obtain ⟨k, tk, rfl⟩ := h v List.mem_cons_self
    obtain ⟨ks, r⟩ := strsAre_of l fun u hu => h u (List.mem_cons_of_mem _ hu)
    exact ⟨k :: ks, .cons k tk r⟩
theorem strs_mem : ∀ {l : List Value} {ks : List Str}, StrsAre l ks → ∀ k, k ∈ ks ↔ ∃ tk, Value.str k tk ∈ l
  | _, _, .nil, k => by simp
  | _, _, .cons y t r, k => by
    constructor
    · intro h
      rcases List.mem_cons.mp h with e | h
      · exact ⟨t, by rw [e]; exact List.mem_cons_self⟩
      · obtain ⟨tk, m⟩ := (strs_mem r k).mp h
        exact ⟨tk, List.mem_cons_of_mem _ m⟩
    · rintro ⟨tk, h⟩
      rcases List.mem_cons.mp h with e | h
      · cases e
        exact List.mem_cons_self
      · exact List.mem_cons_of_mem _ ((strs_mem r k).mpr ⟨tk, h⟩)
theorem strs_len : ∀ {l : List Value} {ks : List Str}, StrsAre l ks → l.length = ks.length
  | _, _, .nil => rfl
  | _, _, .cons y t r => congrArg (· + 1) (strs_len r)
theorem pe_sortSetS (hc : X.calm = true) (hg : Gl X "sorted") (hm : X.mg "sorted" = none) (hg2 : Gl X "set") (hm2 : X.mg "set" = none) (ha : PE X a ta)
    (na : starEach [a] X.env = (false, eval a X.env) :: starEach [] X.env := by rfl) : PE X (.Call (.Name "sorted" p) [.Call (.Name "set" p2) [a] [] q] [] pos) (tSortSetS ta) := by
  refine ⟨fun pins s σ H Q I h => ?_⟩
  refine Call_ (ld_blt I hg hm PyProof.Rows.boot_sorted ?_)
  refine PyProof.Rows.callWith_builtin1 (PyProof.Rows.args_cons ?_ rfl) rfl rfl
  refine Call_ (ld_blt I hg2 hm2 PyProof.Rows.boot_set ?_)
  refine PyProof.Rows.callWith_type1 (PyProof.Rows.args_cons (thn (ha.run pins s σ H _ I h) fun v s1 ⟨x, H1, I1, r1, q1⟩ => PyProof.Rows.args_nil ?_) na) na rfl
  obtain ⟨t, rfl, h1, h2, hnd, q1⟩ := q1
  obtain ⟨u, rfl⟩ := r1
  refine set_nodup (I1.ok.hd hc) h1 (by omega) hnd fun h' tk D hD T O hk => ?_
  refine PyProof.Rows.args_nil ?_
  have I2 : Inv X pins σ H1 { s1 with heap := h', toks := tk } := I1.kept hk
  obtain ⟨es, ep, tb⟩ := D
  have hsz : es.size = t.cps.size := by
    have e := T.sz
    rw [List.length_reverse, List.length_map, Array.length_toList] at e
    exact e
  refine Calls.call_function_entry kind_sorted plain_sorted entry_sorted (args_sorted1 _) ?_
  unfold Builtin.«sorted»
  refine wpAny_bind (m := checkCount "sorted" 1 1 _) (wpAny_pure ?_)
  refine wpAny_bind (collect_set (A := X.A.in1) (s := { s1 with heap := h', toks := tk }) (I1.ok.hd hc) ⟨_, hD, rfl, rfl⟩ T.fit (by rw [hsz]; unfold scanBound; omega) O.1 O.2 fun s3 vs k1 hz g1 o1 pm => ?_)
  have hvl : vs.length = t.cps.size := by rw [pm.length_eq, List.length_map, Array.length_toList]; exact hsz
  obtain ⟨ks, hS⟩ := strsAre_of vs fun v hv => by
    obtain ⟨e, he, q⟩ := List.mem_map.mp (pm.mem_iff.mp hv)
    obtain ⟨⟨k, hk1, _⟩, _⟩ := T.el e he
    obtain ⟨tt, ev⟩ := Value.isStrOf_shape (x := k) (v := e.2) hk1
    exact ⟨k, tt, by rw [← q]; exact ev⟩
  have hkl : ks.length = t.cps.size := by rw [← strs_len hS]; exact hvl
  have hkp : ks.Perm (t.cps.toList.map sing) := by
    refine perm_of_sub (List.Pairwise.map sing (fun x y hne e => hne (sing_inj e)) hnd) (fun k hk2 => ?_) (by rw [hkl, List.length_map, Array.length_toList])
    obtain ⟨e, he, hi⟩ := (T.mem k).mp (List.mem_reverse.mpr hk2)
    obtain ⟨tt, ev⟩ := Value.isStrOf_shape (x := k) (v := e.2) hi
    exact (strs_mem hS k).mpr ⟨tt, pm.mem_iff.mpr (List.mem_map.mpr ⟨e, he, ev⟩)⟩
  refine wpAny_bind (wpAny_newList ?_ (by rw [hvl, sizeLine_eq]; omega))
  have hoL : (s3.heap.push (seqObj "list" vs.toArray 0)).get? s3.heap.objs.size = some (seqObj "list" vs.toArray 0) := Heap.get?_push_size _ rfl
  refine wpAny_bind (wpAny_holding (wpAny_call_entry slot_list_sort ⟨_, hoL, rfl⟩ entry_list_sort
    (list_sort_treeK strKind_oneLt hoL hS.keysOf (fun v₁ v₂ rest e => keyKind_strs (by rw [← e]; exact hS)) (by rw [hvl]; exact h2) fun st' hp hs => ⟨_, rfl, ?_⟩) (args_list_sort _)))
  obtain ⟨ys, y1, y2, y3⟩ := sorted_out_str hS hp hs
  obtain ⟨e', he'⟩ := PyProof.Rows.sortedHeap_at (vs := vs) (out := (arrOf st').map (·.2)) hoL
  have hlen : (ys.map V.str).length ≤ sizeLine := by
    rw [List.length_map, y2.length_eq, hkl, sizeLine_eq]
    omega
  generalize hh4 : sortedHeap (s3.heap.push (seqObj "list" vs.toArray 0)) s3.heap.objs.size vs ((arrOf st').map (·.2)) = h4 at he'
  have kp : ∀ b o, h'.get? b = some o → h4.get? b = some o := fun b o e => by
    have e3 := k1 b o e
    have hb : b < s3.heap.objs.size := Heap.lt_size e3
    rw [← hh4, PyProof.Rows.sortedHeap_old (Nat.ne_of_lt hb) (by rw [size_push']; exact Nat.lt_succ_of_lt hb)]
    exact Heap.get?_push_of_some _ e3
  have hn4 : H1 s3.heap.objs.size = none := I2.hok.fresh hz
  have J : Inv X pins σ (upd H1 s3.heap.objs.size (.lst (ys.map V.str))) { ({ s1 with heap := h', toks := tk } : Shared) with heap := h4, gens := s3.gens, drawn := s3.drawn, toks := s3.toks } :=
    I2.call (ch := []) (Un.laid kp hz hn4) (I2.hok.laid kp hz (show ObjOk X.prog X.w _ _ _ (.lst (ys.map V.str)) from ⟨hlen, ((arrOf st').map (·.2)).toList, e', vals_of_strs y1, by rw [Array.toArray_toList]; exact he'⟩)) (by rw [g1]; exact I2.bare) (fun _ z => nomatch z)
  have e : ({ s3 with heap := h4 } : Shared) = { ({ s1 with heap := h', toks := tk } : Shared) with heap := h4, gens := s3.gens, drawn := s3.drawn, toks := s3.toks } := by
    cases s3
    cases s1
    cases o1
    rfl
  refine wpAny_pure ⟨_, rfl, ?_⟩
  try dsimp only
  rw [e]
  exact ⟨.ref s3.heap.objs.size, _, J, rfl, q1 ys _ (y2.trans hkp) y3 hn4⟩
end
end



/-! ### x != y by the own __eq__ (no __ne__); x(..), x an instance with __call__ -/
structure NeF (K : PySem.W.Frag) (C f : Addr) : Prop where
  hs : PySem.W.findIn K (.ref C) "__eq__" = some (some (.ref f))
  hf : PySem.W.isFn K (.ref f) = true
  hn : PySem.W.findIn K (.ref C) "__ne__" = some (some (.builtin "object.__ne__"))
  hm : PySem.W.mroIn K C (.type "object") = some true
section
open PySem.W
variable {prog : Program} {w : World} {A : Around} {E : Value → Shared → Prop} {s : Shared} {K : Frag} {x C f : Addr} {ox : Obj} {od : Option Obj}
theorem check_slotK {M : Model} {id owner n : String} {rest : List Value} {Q : Unit → Shared → Prop} (hk : builtinKind id = some .slot) (hs : splitId id = some (owner, n)) (ha : argsOk id ⟨.ref x :: rest, []⟩)
    (X : K.In s.heap) (I : InstAt s.heap x ox C od) (hm : mroIn K C (.type owner) = some true) (hq : Q () s) : wpAny M A (checkBuiltinCall id ⟨.ref x :: rest, []⟩) Q E s := by
  have L0 := I.type (M := M)
  have L1 := looks_mroIn (M := M) X hm
  simp only [checkBuiltinCall, hk, hs]
  refine wpAny_bind ?_
  unfold isInstance
  refine wpAny_bind (L0.here (L1.here ?_))
  cases hsig : Manifest.signature? id with
  | none => exact wpAny_pure hq
  | some sig =>
    simp only [argsOk, hsig] at ha
    have h2 : Bind.checkArgs id sig ⟨.ref x :: rest, []⟩ = pure () := ha
    show wpAny M A (Bind.checkArgs id sig ⟨.ref x :: rest, []⟩) Q E _
    rw [h2]
    exact wpAny_pure hq
theorem ifBound_B {M : Model} {name : Str} {id : String} {args : List Value} {Q : Option Value → Shared → Prop} (X : K.In s.heap) (I : InstAt s.heap x ox C od) (hs : findIn K (.ref C) name = some (some (.builtin id)))
    (hb : bindSpecial (.builtin id) (.ref x) = pure (.builtin id, [.ref x])) (h : wpAny M A (call (.builtin id) (.ref x :: args)) (fun v => Q (some v)) E s) : wpAny M A (callSpecialIfBound? (.ref x) name args) Q E s := by
  simp only [callSpecialIfBound?, bindSpecialIfBound?]
  refine wpAny_holding (wpAny_bind (wpAny_bind (wpAny_bind (I.type.here ((looks_findIn X hs).here ?_)))))
  refine wpAny_bind (wpAny_askSetting (wpAny_ite ?_))
  have fin : wpAny M A (call (.builtin id) ([.ref x] ++ args) >>= fun v => pure (some v)) Q E s := wpAny_bind (wpAny_mono h (fun v s' h' => wpAny_pure h') fun _ _ h' => h')
  split
  · rw [hb]
    exact wpAny_bind (wpAny_pure (wpAny_pure (by exact fin)))
  · rw [hb]
    exact wpAny_tryCatch (wpAny_bind (wpAny_pure (wpAny_pure (by exact fin))))
theorem ne_K {y : Addr} {oy : Obj} {ody : Option Obj} {Q : Value → Shared → Prop} (hu : A.units + 1 < cLine) (X : K.In s.heap) (I : InstAt s.heap x ox C od) (J : InstAt s.heap y oy C ody) (O : NeF K C f)
    (hcall : wpAny (model prog w) A.in1 (call (.ref f) [.ref x, .ref y]) (fun v s' => ∃ b, v = .bool b ∧ Q (.bool (!b)) s') E s) : wpAny (model prog w) A (richCompare .NotEq (.ref x) (.ref y)) Q E s := by
  have one : wpAny (model prog w) A (tryCompare (.ref x) "__ne__" (.ref y)) (fun r s' => ∃ v, r = some v ∧ Q v s') E s := by
    unfold tryCompare
    refine wpAny_bind (ifBound_B X I O.hn (PySem.F.slot_object_ne.bind _) (wpAny_call (codeAny_call_builtin PySem.F.slot_object_ne.plain PySem.F.cmpEntry_ne
      (check_slotK PySem.F.cmpKind_ne PySem.F.cmpSplit_ne (PySem.F.cmpArgs_ne _ _) X I O.hm ?_))))
    unfold Builtin.«object.__ne__»
    refine wpAny_bind (m := slotArgs "__ne__" 1 _) (wpAny_pure ?_)
    refine wpAny_bind (wpAny_cRoomFor hu ?_)
    refine wpAny_bind (m := callSpecialIfBound? (.ref x) (Str.ofString "__eq__") [.ref y]) (ifBound_K X I O.hs O.hf (wpAny_mono hcall (fun v s' hv => ?_) fun _ _ e => e))
    obtain ⟨b, rfl, hq⟩ := hv
    dsimp only
    refine wpAny_bind (m := truthy (.bool b)) (wpAny_truthy_bool ?_)
    exact wpAny_pure (wpAny_pure ⟨_, rfl, hq⟩)
  unfold richCompare
  simp only [oneThing_ref]
  refine wpAny_holding (wpAny_bind (wpAny_cRoomFor (Nat.lt_of_succ_lt hu) ?_))
  rw [cmpInfo_NotEq]
  dsimp only
  refine wpAny_bind (I.type.here (wpAny_bind (J.type.here ?_)))
  rw [show (Value.ref C != Value.ref C) = false from by simp]
  simp only [Bool.false_eq_true, if_false]
  refine wpAny_bind (wpAny_pure ?_)
  simp only [Bool.false_eq_true, if_false]
  refine wpAny_bind (wpAny_mono one (fun r s' z => ?_) fun _ _ e => e)
  obtain ⟨v, rfl, hq⟩ := z
  exact wpAny_pure hq
end
section
open PyProof.Rows
variable {X : Cx} {CX : CXT} {k : Nat} {C f : Addr} {fd : FuncData} {ps : List Str} {sp : Sp} {E : XK}
def rOwnNe (C : Addr) (sp : Sp) (E : XK) : R2 := fun x y H Q => ∃ a dx fs b dy gs, x = .ref a ∧ y = .ref b ∧ H a = some (.ins C dx fs) ∧ H b = some (.ins C dy gs) ∧ sp [x, y] H (fun v H' => ∃ r, v = .bl r ∧ Q (.bl (!r)) H') E
theorem op_ownNe (O : NeF X.K C f) (F : FnOk X.prog X.w X.K X.mg X.base CX k f fd ps sp) (hr : Room (k + 1) X.A) (hb : Binds X.K fd ps []) (hx : Passes CX X E) : OpR X (compareOp .NotEq) (rOwnNe C sp E) := fun pins s σ H x y v u Q I rx ry h => by
  obtain ⟨a, dx, fs, b, dy, gs, rfl, rfl, ha, hb', q⟩ := h
  cases rx
  cases ry
  obtain ⟨mA, J, _⟩ := ins_get I.hok ha
  obtain ⟨od, J, _⟩ := J.look
  obtain ⟨mB, J', _⟩ := ins_get I.hok hb'
  obtain ⟨od', J', _⟩ := J'.look
  show wpAny _ _ (richCompare .NotEq (.ref a) (.ref b)) _ _ _
  refine ne_K (by have := hr.units; omega) I.kIn J J' O ?_
  refine thn (run_fnA (vs := [.ref a, .ref b]) (room_in1 hr) rfl F hb hx I (.cons rfl (.cons rfl .nil)) q) fun w s' z => ?_
  obtain ⟨v', H', I', r', r, rfl, q'⟩ := z
  cases r'
  exact ⟨r, rfl, .bl (!r), H', I', rfl, q'⟩
/-- x(e, ..), x an instance of C -/
def tCallI (C : Addr) (sp : Sp) (E : XK) (tf : TE) (t : TA) : TE := fun σ H Q => tf σ H fun y H1 => ∃ a, y = V.ref a ∧ t σ H1 fun vs H2 => (∃ dx fs, H2 a = some (.ins C dx fs)) ∧ sp (V.ref a :: vs) H2 Q E
theorem pe_callI {fe e : Expr} {es : List Expr} {pos : Pos} {tf : TE} {t : TA} (hf : PE X fe tf) (c : StX.CallO X.K C f) (F : FnOk X.prog X.w X.K X.mg X.base CX k f fd ps sp) (hr : Room k X.A) (hb : Binds X.K fd ps []) (hx : Passes CX X E) (ha : PA X (e :: es) t)
    (ht : eval (.Call fe (e :: es) [] pos) X.env = (do callWith pos (← eval fe X.env) [] (backTo pos (starEach (e :: es) X.env)) (backToKw pos (keywordEach [] X.env))) := by rfl)
    (he : starEach (e :: es) X.env = (false, eval e X.env) :: starEach es X.env := by rfl) (hpl : (backTo pos (starEach es X.env)).any (·.1) = false := by rfl) : PE X (.Call fe (e :: es) [] pos) (tCallI C sp E tf t) := by
  refine ⟨fun pins s σ H Q I h => ?_⟩
  refine Call_ (thn (hf.run pins s σ H _ I h) fun u s1 ⟨y, H1, I1, ry, a, ey, q⟩ => ?_) ht
  subst ey
  obtain rfl : u = Value.ref a := ry
  refine StX.callO_with (thn (ha.run pos pins s1 σ H1 _ I1 q) fun us s2 ⟨vs, H2, I2, r, ⟨dx, fs, hi⟩, q2⟩ => ?_) he hpl
  obtain ⟨mA, J, _⟩ := ins_get I2.hok hi
  obtain ⟨od, J, _⟩ := J.look
  refine ⟨⟨C, _, od, J, rfl⟩, ?_⟩
  have r2 : Vals (V.ref a :: vs) (Value.ref a :: us) := .cons rfl r
  have hl : (Value.ref a :: us).length = ps.length := by rw [← r2.length]; exact F.len _ _ _ _ q2
  have hb2 := hb s2 (Value.ref a :: us) I2.kIn (by simpa using hl)
  rw [List.append_nil] at hb2
  refine wpAny_call (PySem.W.kco_code (a := ⟨[] ++ us, []⟩) I2.kIn J rfl c.at_ c.fn c.fi (codeAny_mono (F.run X.A X.stack s2 H2 ⟨Value.ref a :: us, []⟩ (Value.ref a :: us) (V.ref a :: vs) Q E hr I2.env0 hb2 r2 q2) fun r s' hq => ?_))
  cases r with
  | error e => exact hx pins σ H2 s2 e s' I2 hq
  | ok fl =>
    cases fl with
    | ret u => exact I2.after hq
    | next => exact False.elim hq
    | brk => exact False.elim hq
    | cont => exact False.elim hq
theorem pe_fldK {e : Expr} {ta : TE} {f : Str} {pos : Pos} (K : PySem.W.Frag) (he : PE X e ta) (hb : attributeBase e f X.env (eval e X.env) = eval e X.env) (hK : X.K = K := by rfl) : PE X (.Attribute e f pos) (tFld K ta f) := by
  subst hK
  exact pe_fld he hb
/-! ### z[::-1] -/
def revS (z : Str) : Str := ⟨z.cps.toList.reverse.toArray⟩
theorem rev_indices (z : Str) : (Builtin.Str.strSliceIndices none none (-1) z.length).filterMap (z.cps[·]?) = z.cps.toList.reverse := by
  have e : Builtin.Str.strSliceIndices none none (-1) z.length = (List.range z.length).reverse := by
    rw [← PySem.W.krv_range, ← PySem.W.krv_sliceRange]
    rfl
  rw [e, List.filterMap_reverse]
  exact congrArg List.reverse (PySem.W.krv_all z.cps)
def tRevS (te : TE) : TE := fun σ H Q => te σ H fun x H1 => ∃ z, x = .str z ∧ z.length ≤ sizeLine ∧ Q (.str (revS z)) H1
theorem pe_revS {e : Expr} {te : TE} {j : Nat} {p1 p2 p3 pos : Pos} (he : PE X e te) : PE X (.Subscript e (.Slice none none (some (.UnaryOp .USub (.Constant (.int 1) j p1) p2)) p3) pos) (tRevS te) := by
  refine ⟨fun pins s σ H Q I h => ?_⟩
  refine Subscript_ (thn (he.run pins s σ H _ I h) fun v s1 ⟨x, H1, I1, r1, q1⟩ => ?_)
  obtain ⟨z, ex, hz, q⟩ := q1
  subst ex
  obtain ⟨t, rfl⟩ := r1
  have hst : PO X (some (.UnaryOp .USub (.Constant (.int 1) j p1) p2)) (tPart (tUn (rU fun i => .int (-i)) (tC (.int 1)))) := po_some (pe_un un_neg pe_int)
  refine wpAny_Slice (thn (po_none.run pins s1 σ H1 (fun o H2 => o = none ∧ H2 = H1) I1 ⟨rfl, rfl⟩) fun vl s2 ⟨l, H2, I2, pl, el, e2⟩ => ?_)
  subst el e2
  refine thn (po_none.run pins s2 σ H2 (fun o H3 => o = none ∧ H3 = H2) I2 ⟨rfl, rfl⟩) fun vu s3 ⟨u, H3, I3, pu, eu, e3⟩ => ?_
  subst eu e3
  refine thn (hst.run pins s3 σ H3 (fun o H4 => o = some (-1) ∧ H4 = H3) I3 ⟨1, rfl, -1, rfl, rfl, rfl⟩) fun vs s4 ⟨o, H4, I4, ps, eo, e4⟩ => ?_
  subst eo e4
  have I5 : Inv X pins σ H4 { s4 with heap := s4.heap.push { cls := .type "slice", data := .fields #[vl, vu, vs] } } := I4.kept (t' := s4.toks) fun b ob q => Heap.get?_push_of_some _ q
  show wpAny (model X.prog X.w) X.A (subscriptTail e (.Slice none none (some (.UnaryOp .USub (.Constant (.int 1) j p1) p2)) p3) (.str z t) (.ref s4.heap.objs.size)) (EP X pins σ Q) X.xe { s4 with heap := s4.heap.push { cls := .type "slice", data := .fields #[vl, vu, vs] } }
  refine tail_any (T := "str") (ops := [.str z t, .ref s4.heap.objs.size]) (typeIs_str _ _ _) (PySem.F.slot_str_getitem.lookup) ?_ (by with_unfolding_all rfl)
  obtain ⟨l, rfl, hl⟩ := IsPart.raw pl
  obtain ⟨u, rfl, hu⟩ := IsPart.raw pu
  obtain ⟨st, rfl, hst'⟩ := IsPart.raw ps
  cases l with
  | some _ => cases hl
  | none =>
    cases u with
    | some _ => cases hu
    | none =>
      cases st with
      | none => cases hst'
      | some m =>
        obtain ⟨i, tk⟩ := m
        have ei : i = -1 := Option.some.inj hst'
        subst ei
        refine wpAny_getItem_str_slice (l := none) (u := none) (st := some (-1, tk)) ⟨_, Heap.get?_push_size _ rfl, rfl, rfl⟩ rfl ?_
        show Made.post (if ((-1 : Int) == 1 && (Builtin.Str.strSliceIndices none none (-1) z.length).length == z.length) = true then Made.val (.str z t) else Made.str ⟨((Builtin.Str.strSliceIndices none none (-1) z.length).filterMap (z.cps[·]?)).toArray⟩) _ _
        rw [if_neg (by simp), rev_indices]
        refine ⟨?_, .str (revS z), H4, I5.tok _, ⟨_, rfl⟩, q⟩
        show (z.cps.toList.reverse.toArray).size ≤ sizeLine
        rw [List.size_toArray, List.length_reverse, Array.length_toList]
        exact hz
end



/-! ### len(x), v in x, x[i] of an own class -/
section
open PyProof.Rows
variable {X : Cx} {CX : CXT} {k : Nat} {C f : Addr} {fd : FuncData} {ps : List Str} {sp : Sp} {E : XK}
def rLenO (C : Addr) (sp : Sp) (E : XK) : List V → Hp → VK → Prop := fun vs H Q => ∃ a dx fs, vs = [.ref a] ∧ H a = some (.ins C dx fs) ∧ sp vs H (fun v H' => ∃ n : Nat, v = .int (n : Int) ∧ n ≤ 1000000 ∧ Q (.int (n : Int)) H') E
theorem call_lenO (O : UnF X.K C f "__len__") (F : FnOk X.prog X.w X.K X.mg X.base CX k f fd ps sp) (hr : Room (k + 1) X.A) (hb : Binds X.K fd ps []) (hx : Passes CX X E) : CallR X (.builtin "len") (rLenO C sp E) := fun pins s σ H xs us Q I r h => by
  obtain ⟨a, dx, fs, rfl, ha, q⟩ := h
  obtain ⟨u, rfl, ru⟩ := vals1 r
  cases ru
  obtain ⟨mA, J, _⟩ := ins_get I.hok ha
  obtain ⟨od, J, _⟩ := J.look
  obtain ⟨m, hF⟩ := I.fr
  refine PySem.W.len_K hF I.ok.mod.kin J O.hs O.hf ?_
  refine thn (run_fnA (vs := [.ref a]) (room_in1 hr) rfl F hb hx I (.cons rfl .nil) q) fun v s' z => ?_
  obtain ⟨v', H', I', r', n, rfl, hn, q'⟩ := z
  obtain ⟨t, rfl⟩ := r'
  exact ⟨⟨by omega, by omega⟩, .int (n : Int), H', I'.tok _, ⟨_, rfl⟩, q'⟩
def rInO (C : Addr) (sp : Sp) (E : XK) (g : Bool → Bool) : R2 := fun x y H Q => ∃ a dx fs, y = .ref a ∧ H a = some (.ins C dx fs) ∧ sp [y, x] H (fun v H' => ∃ b, v = .bl b ∧ Q (.bl (g b)) H') E
theorem op_inO (O : UnF X.K C f "__contains__") (F : FnOk X.prog X.w X.K X.mg X.base CX k f fd ps sp) (hr : Room k X.A) (hb : Binds X.K fd ps []) (hx : Passes CX X E) : OpR X (compareOp .In) (rInO C sp E id) := fun pins s σ H x y v u Q I rx ry h => by
  obtain ⟨a, dx, fs, rfl, ha, q⟩ := h
  cases ry
  obtain ⟨mA, J, _⟩ := ins_get I.hok ha
  obtain ⟨od, J, _⟩ := J.look
  obtain ⟨m, hF⟩ := I.fr
  refine PySem.W.in_K hF I.ok.mod.kin J O.hs O.hf ?_
  refine thn (run_fn (vs := [.ref a, x]) F hr hb .nil hx I (.cons rfl (.cons rx .nil)) q) fun v s' z => ?_
  obtain ⟨v', H', I', r', b, rfl, q'⟩ := z
  cases r'
  exact wpAny_truthy_bool ⟨.bl b, H', I', rfl, q'⟩
theorem op_notInO (O : UnF X.K C f "__contains__") (F : FnOk X.prog X.w X.K X.mg X.base CX k f fd ps sp) (hr : Room k X.A) (hb : Binds X.K fd ps []) (hx : Passes CX X E) : OpR X (compareOp .NotIn) (rInO C sp E Bool.not) := fun pins s σ H x y v u Q I rx ry h => by
  obtain ⟨a, dx, fs, rfl, ha, q⟩ := h
  cases ry
  obtain ⟨mA, J, _⟩ := ins_get I.hok ha
  obtain ⟨od, J, _⟩ := J.look
  obtain ⟨m, hF⟩ := I.fr
  refine PySem.W.notIn_K hF I.ok.mod.kin J O.hs O.hf ?_
  refine thn (run_fn (vs := [.ref a, x]) F hr hb .nil hx I (.cons rfl (.cons rx .nil)) q) fun v s' z => ?_
  obtain ⟨v', H', I', r', b, rfl, q'⟩ := z
  cases r'
  exact wpAny_truthy_bool ⟨.bl (!b), H', I', rfl, q'⟩
def rIxO (C : Addr) (sp : Sp) (E : XK) : R2 := fun x y H Q => ∃ a dx fs, x = .ref a ∧ H a = some (.ins C dx fs) ∧ sp [x, y] H Q E
theorem pe_ixO {a b : Expr} {ta tb : TE} {pos : Pos} (O : UnF X.K C f "__getitem__") (fi : PySem.W.fnIn X.K f = true) (F : FnOk X.prog X.w X.K X.mg X.base CX k f fd ps sp) (hr : Room (k + 1) X.A) (hb : Binds X.K fd ps []) (hx : Passes CX X E) (ha : PE X a ta) (hb' : PE X b tb)
    (hs : ∀ (x : Addr) (i : Value), subscripted b true (.ref x) i = runValue (.builtin "lifetime.subscript" ⟨[.ref x, i], []⟩) := by intro _ _; with_unfolding_all rfl) : PE X (.Subscript a b pos) (tOp (rIxO C sp E) ta tb) := by
  refine ⟨fun pins s σ H Q I h => ?_⟩
  refine Subscript_ (binT ha hb' I h fun v u s2 x y H2 I2 rx ry q => ?_)
  obtain ⟨c, dx, fs, rfl, hc, q⟩ := q
  cases rx
  obtain ⟨mA, J, _⟩ := ins_get I2.hok hc
  obtain ⟨od, J, _⟩ := J.look
  obtain ⟨m, hF⟩ := I2.fr
  exact PySem.W.sub_K hF I2.ok.mod.kin J O.hs fi O.hf (run_fnA (vs := [.ref c, y]) (room_in1 hr) rfl F hb hx I2 (.cons rfl (.cons ry .nil)) q) (hs _ _)
end



/-! ### sets of ints out of a list or a tuple: len(set(xs)), sorted(set(xs)) -/
section
open PySem.Froz PyProof.Rows
variable {P : Program} {w : World} {A : Around} {E : Value → Shared → Prop} {s : Shared}
set_option maxHeartbeats 3200000 in
theorem shellL {l : Addr} {items : Array Value} {Q : Value → Shared → Prop} (hh : A.handled = none) (hl : s.heap.IsList l items) (Φ : Shared → Prop)
    (loop : ∀ (A' : Around) (R : Result → Shared → Prop), A'.handled = none → (∀ s', Φ s' → R (.ok (.ret .none)) s') →
      codeAny (model P w) A' (.builtin "set.update.loop" ⟨[.ref s.heap.objs.size, .ref (s.heap.push (set0 w)).objs.size], []⟩) R { s with heap := (s.heap.push (set0 w)).push { cls := .type "list_iterator", data := .fields #[.ref l, .int 0 0] } })
    (h : ∀ s', Φ s' → Q (.ref s.heap.objs.size) s') : wpAny (model P w) A (call (.type "set") [.ref l]) Q E s := by
  obtain ⟨c, tl, hmro⟩ := F.called_set.mro
  have hmade := F.called_set.made
  have hsub := F.called_set.sub
  refine wpAny_call (codeAny_of_tree ?_)
  show wpAny _ _ (callAny (.type "set") _) _ _ _
  refine wpAny_pure ⟨Code.quiet_builtin _ (by decide +kernel), codeAny_builtin F.entry_type_call ?_⟩
  rw [Around.under_plain (weight_type_call_type "set" [.ref l] []) rfl]
  have h1 := F.called_set.notType
  have h2 := F.called_set.canCreate
  have hct := F.typeCall_set_1 (.ref l)
  repeat (any_goals (first | assumption | wp_step))
  refine codeAny_mono (code_set_led1 (.ref l) (E := E) (Q₁ := fun obj s₁ => obj = .ref s.heap.objs.size ∧ s₁ = { s with heap := s.heap.push (set0 w) }) ⟨rfl, rfl⟩) fun r s₁ hr => ?_
  cases r with
  | error e => exact hr
  | ok fl =>
    cases fl with
    | ret obj =>
      obtain ⟨rfl, rfl⟩ := hr
      have hS : (s.heap.push (set0 w)).get? s.heap.objs.size = some (set0 w) := Heap.get?_push_size _ rfl
      have hT : Shared.TypeIs { s with heap := s.heap.push (set0 w) } (.ref s.heap.objs.size) "set" := ⟨_, hS, rfl⟩
      have hli := F.called_set.init.lookup
      have hbi := F.called_set.init.bind (.ref s.heap.objs.size)
      repeat (any_goals (first | assumption | wp_step))
      refine codeAny_mono (codeAny_call_builtin (R := wants (fun r s₂ => r = .none ∧ Φ s₂) E) F.called_set.init.plain F.entry_set_init (check_set_init_1 hT ?_)) fun r₂ s₂ hr₂ => ?_
      · obtain ⟨ol, hol, hcl, nl, hdl⟩ := hl
        obtain ⟨ocls, odict, odata, oslots⟩ := ol
        simp only at hcl hdl
        subst hcl
        subst hdl
        have hol' : (s.heap.push (set0 w)).get? l = some { cls := .type "list", dict := odict, data := .seq items nl, slots := oslots } := Heap.get?_push_of_some _ hol
        have hsls := F.sub_list_set
        have hslf := F.sub_list_frozenset
        have hne : (Value.type "list" == Value.type "dict") = false := by decide
        have hl1 : (s.heap.push (set0 w)).IsList l items := ⟨_, hol', rfl, nl, rfl⟩
        have hS' : (s.heap.push (set0 w)).get? s.heap.objs.size = some { cls := .type "set", dict := none, data := .set #[] 0 (.fresh 0 0 (!w.params.followText "set-order")) } := hS
        unfold Builtin.«set.__init__» noKeywords Builtin.Frozenset.updateFrom
        generalize hPI : pyIter = PI
        wp_walk
        subst hPI
        refine wpAny_pyIter_list hl1 ?_
        refine wpAny_bind (wpAny_runValue ?_)
        have hh3 : A.in1.in1.in1.handled = none := by simp [hh]
        refine loop _ _ hh3 fun s' hs' => ?_
        show wpAny _ _ _ _ _ _
        refine wpAny_pure ?_
        show wpAny _ _ (ret Value.none) _ _ _
        exact wpAny_pure ⟨rfl, hs'⟩
      · cases r₂ with
        | error e => exact hr₂
        | ok fl₂ =>
          cases fl₂ with
          | ret r =>
            obtain ⟨rfl, hΦ⟩ := hr₂
            repeat (any_goals (first | assumption | wp_step))
            exact h _ hΦ
          | _ => exact hr₂.elim
    | _ => exact hr.elim
theorem set_listI {l : Addr} {items : Array Value} (ns : List Int) {Q : Value → Shared → Prop} (hh : A.handled = none) (hl : s.heap.IsList l items) (hit : IntsAre items.toList ns) (hb : ns.length + 1 < scanBound)
    (h : ∀ (h' : Heap) (tk c : Nat), SetR w h' s.heap.objs.size (fun j => decide (j ∈ ns)) c → (∀ b o, s.heap.get? b = some o → h'.get? b = some o) → Q (.ref s.heap.objs.size) { s with heap := h', toks := tk }) :
    wpAny (model P w) A (call (.type "set") [.ref l]) Q E s := by
  have hisz : items.size = ns.length := by
    have q := IntsAre.length hit
    rw [Array.length_toList] at q
    exact q
  have hlS : l < s.heap.objs.size := by
    obtain ⟨ol, hol, _⟩ := hl
    exact Heap.lt_size hol
  refine shellL hh hl (fun s' => ∃ h' tk c, s' = { s with heap := h', toks := tk } ∧ SetR w h' s.heap.objs.size (fun j => decide (j ∈ ns)) c ∧ ∀ b o, s.heap.get? b = some o → h'.get? b = some o) (fun A' R hA hR => ?_) fun s' ⟨h', tk, c, e, e1, e2⟩ => by
      subst e
      exact h h' tk c e1 e2
  have hl1 : (s.heap.push (set0 w)).IsList l items := by
    obtain ⟨ol, hol, r⟩ := hl
    exact ⟨ol, Heap.get?_push_of_some _ hol, r⟩
  have hneI : l ≠ (s.heap.push (set0 w)).objs.size := by rw [Heap.size_push]; exact Nat.ne_of_lt (Nat.lt_succ_of_lt hlS)
  have hSf : s.heap.objs.size ∉ [(s.heap.push (set0 w)).objs.size, l] := by
    rw [Heap.size_push]
    simp only [List.mem_cons, List.mem_singleton, List.not_mem_nil, or_false, not_or]
    exact ⟨Nat.ne_of_lt (Nat.lt_succ_self _), Nat.ne_of_gt hlS⟩
  have hval : ∀ (i : Nat) (v : Value), items[i]? = some v → ∃ k t, ns[i]? = some k ∧ v = .int k t := fun i v hv => by
    have hi : i < ns.length := by rw [← hisz]; exact (Array.getElem?_eq_some_iff.mp hv).1
    obtain ⟨t, e⟩ := PyProof.Rows.IntsAre.int_at hit i v (by rw [Array.getElem?_toList]; exact hv)
    refine ⟨ns[i], t, List.getElem?_eq_getElem hi, ?_⟩
    rw [e, List.getD_eq_getElem?_getD, List.getElem?_eq_getElem hi] <;> rfl
  have hS : ((s.heap.push (set0 w)).push { cls := .type "list_iterator", data := .fields #[.ref l, .int 0 0] }).get? s.heap.objs.size = some { cls := .type "set", dict := none, data := .set #[] 0 (.fresh 0 0 (!w.params.followText "set-order")) } := Heap.get?_push_of_some _ (Heap.get?_push_size _ rfl)
  refine set_update_ints ((Walks.list (A := A'.in1) (by simpa using hA) _ l hneI items).toS) s.heap.objs.size hSf ns hisz hb hval (items.size - 0) 0 _ (by omega) (Nat.zero_le _)
    ⟨⟨_, Heap.get?_push_size _ rfl, rfl, rfl⟩, (hl1.push _)⟩ ⟨0, Nat.le_refl 0, setR_new_at hS⟩ fun s' c' hm hc' hS' => hR _ ?_
  obtain ⟨h', g2, d', tk', os'⟩ := s'
  have eg : g2 = s.gens := hm.gens
  have ed : d' = s.drawn := hm.drawn
  have eo : os' = s.os := hm.os
  subst eg
  subst ed
  subst eo
  refine ⟨h', tk', c', rfl, hS', fun b o e => ?_⟩
  have hb0 : b < s.heap.objs.size := Heap.lt_size e
  refine hm.heap b o ?_ (Heap.get?_push_of_some _ (Heap.get?_push_of_some _ e))
  simp only [List.mem_cons, List.mem_singleton, List.not_mem_nil, or_false, not_or]
  exact ⟨Nat.ne_of_lt hb0, by rw [Heap.size_push]; exact Nat.ne_of_lt (Nat.lt_succ_of_lt hb0)⟩
end



/-- each once -/
def nd : List Int → List Int
  | [] => []
  | x :: r => if x ∈ r then nd r else x :: nd r
theorem mem_nd {k : Int} : ∀ {l : List Int}, k ∈ nd l ↔ k ∈ l
  | [] => Iff.rfl
  | x :: r => by
    unfold nd
    by_cases h : x ∈ r
    · rw [if_pos h, mem_nd (l := r)]
      refine ⟨fun z => List.mem_cons_of_mem _ z, fun z => ?_⟩
      rcases List.mem_cons.mp z with e | e
      · rw [e]; exact h
      · exact e
    · rw [if_neg h, List.mem_cons, List.mem_cons, mem_nd (l := r)]
theorem nodup_nd : ∀ (l : List Int), (nd l).Nodup
  | [] => List.nodup_nil
  | x :: r => by
    unfold nd
    by_cases h : x ∈ r
    · rw [if_pos h]; exact nodup_nd r
    · rw [if_neg h]; exact List.nodup_cons.mpr ⟨fun z => h (mem_nd.mp z), nodup_nd r⟩
theorem nd_le : ∀ (l : List Int), (nd l).length ≤ l.length
  | [] => Nat.le_refl _
  | x :: r => by
    have q := nd_le r
    unfold nd
    by_cases h : x ∈ r
    · rw [if_pos h, List.length_cons]; omega
    · rw [if_neg h, List.length_cons, List.length_cons]; omega
theorem nd_full : ∀ {l : List Int}, (nd l).length = l.length → l.Nodup
  | [], _ => List.nodup_nil
  | x :: r, h => by
    have q := nd_le r
    unfold nd at h
    by_cases hx : x ∈ r
    · rw [if_pos hx, List.length_cons] at h; omega
    · rw [if_neg hx, List.length_cons, List.length_cons] at h
      exact List.nodup_cons.mpr ⟨hx, nd_full (by omega)⟩
theorem nd_nodup : ∀ {l : List Int}, l.Nodup → (nd l).length = l.length
  | [], _ => rfl
  | x :: r, h => by
    obtain ⟨h1, h2⟩ := List.nodup_cons.mp h
    unfold nd
    rw [if_neg h1, List.length_cons, List.length_cons, nd_nodup h2]
theorem len_sub {α : Type} [BEq α] [LawfulBEq α] : ∀ {l m : List α}, l.Nodup → (∀ x ∈ l, x ∈ m) → l.length ≤ m.length
  | [], _, _, _ => Nat.zero_le _
  | x :: l, m, hn, hs => by
    obtain ⟨h1, h2⟩ := List.nodup_cons.mp hn
    have hx := hs x List.mem_cons_self
    have q := len_sub (m := m.erase x) h2 fun y hy => by
      have ne : y ≠ x := fun e => h1 (e ▸ hy)
      exact (List.mem_erase_of_ne ne).mpr (hs y (List.mem_cons_of_mem _ hy))
    rw [List.length_erase_of_mem hx] at q
    have p : 0 < m.length := List.length_pos_of_mem hx
    rw [List.length_cons]
    omega
theorem setR_count {w : World} {h : Heap} {a : Addr} {ns : List Int} {c : Nat} (R : SetR w h a (fun j => decide (j ∈ ns)) c) : c = (nd ns).length := by
  obtain ⟨o, es, ep, t, ho, hex, hdt, g, dn, hm, hb, hf, hn, hr, hl⟩ := R
  have hm' : ∀ k, k ∈ ns ↔ k ∈ es.toList.map keyOf := fun k => by
    have q := hm k
    rw [decide_eq_true_eq] at q
    exact q
  have hk : (es.toList.map keyOf).length = c := by rw [List.length_map, Array.length_toList]; exact hn
  have a1 := len_sub (nodup_nd ns) fun x hx => (hm' x).mp (mem_nd.mp hx)
  have a2 := len_sub dn fun x hx => mem_nd.mpr ((hm' x).mpr hx)
  omega
section
open PyProof.Rows
variable {X : Cx}
/-- x is a list or a tuple of these ints -/
def SqI (K : PySem.W.Frag) (H : Hp) (x : V) (ns : List Int) : Prop := ∃ a, x = .ref a ∧ (SqL K H a (ns.map V.int) ∨ SqT K H a (ns.map V.int))
theorem set_seqI {pins : List (Addr × Obj)} {σ : L2.St} {H : Hp} {s : Shared} {x : V} {u : Value} {ns : List Int} {Q : Value → Shared → Prop} (hc : X.calm = true) (I : Inv X pins σ H s) (r : RelV x u) (hq : SqI X.K H x ns) (hl : ns.length ≤ 1000)
    (h : ∀ (h' : Heap) (tk c : Nat), SetR X.w h' s.heap.objs.size (fun j => decide (j ∈ ns)) c → (∀ b o, s.heap.get? b = some o → h'.get? b = some o) → Q (.ref s.heap.objs.size) { s with heap := h', toks := tk }) :
    wpAny (model X.prog X.w) X.A (call (.type "set") [u]) Q X.xe s := by
  obtain ⟨a, rfl, hq⟩ := hq
  cases r
  rcases hq with hq | hq
  · obtain ⟨its, rv, pl, hz⟩ := I.list hq
    exact set_listI ns (I.ok.hd hc) pl.isList (by simpa using rv.ints) (by unfold scanBound; omega) h
  · obtain ⟨its, rv, pt, hz⟩ := I.tuple hq
    exact call_set_tupI ns (I.ok.hd hc) (show s.heap.IsTuple a its.toArray from pt) (ints_of_vals rv) (by unfold scanBound; omega) fun h' tk c R _ k => h h' tk c R k
variable {a : Expr} {ta : TE} {p p2 q pos : Pos}
def tLenSetI2 (K : PySem.W.Frag) (ta : TE) : TE := fun σ H Q => ta σ H fun x H1 => ∃ ns, SqI K H1 x ns ∧ ns.length ≤ 1000 ∧ Q (.int (nd ns).length) H1
theorem pe_lenSetI2 (hc : X.calm = true) (hg : Gl X "len") (hm : X.mg "len" = none) (hg2 : Gl X "set") (hm2 : X.mg "set" = none) (ha : PE X a ta)
    (na : starEach [a] X.env = (false, eval a X.env) :: starEach [] X.env := by rfl) : PE X (.Call (.Name "len" p) [.Call (.Name "set" p2) [a] [] q] [] pos) (tLenSetI2 X.K ta) := by
  refine ⟨fun pins s σ H Q I h => ?_⟩
  refine Call_ (ld_blt I hg hm PySem.boot_len ?_)
  refine PyProof.Rows.callWith_builtin1 (PyProof.Rows.args_cons ?_ rfl) rfl rfl
  refine Call_ (ld_blt I hg2 hm2 PyProof.Rows.boot_set ?_)
  refine PyProof.Rows.callWith_type1 (PyProof.Rows.args_cons (thn (ha.run pins s σ H _ I h) fun v s1 ⟨x, H1, I1, r1, q1⟩ => PyProof.Rows.args_nil ?_) na) na rfl
  obtain ⟨ns, hq, hl, q1⟩ := q1
  refine set_seqI hc I1 r1 hq hl fun h' tk c R hk => ?_
  refine PyProof.Rows.args_nil ?_
  have ec := setR_count R
  have hle := nd_le ns
  obtain ⟨o, es, ep, t, ho, hex, hd, _, _, _, _, hf, hn, _⟩ := R
  have I2 : Inv X pins σ H1 { s1 with heap := h', toks := tk } := I1.kept hk
  have hz : es.size = (nd ns).length := hn.trans ec
  refine call_len_set ho hex hd hf (by omega) ⟨.int (nd ns).length, H1, I2.tok _, ⟨_, by rw [hz]⟩, q1⟩
def tSortSetI2 (K : PySem.W.Frag) (ta : TE) : TE := fun σ H Q => ta σ H fun x H1 => ∃ ns, SqI K H1 x ns ∧ ns.length < 64 ∧
  ∀ (ms : List Int) (p : Addr), ms.Pairwise (· < ·) → (∀ k : Int, k ∈ ms ↔ k ∈ ns) → H1 p = none → Q (.ref p) (upd H1 p (.lst (ms.map V.int)))
theorem pe_sortSetI2 (hc : X.calm = true) (hg : Gl X "sorted") (hm : X.mg "sorted" = none) (hg2 : Gl X "set") (hm2 : X.mg "set" = none) (ha : PE X a ta)
    (na : starEach [a] X.env = (false, eval a X.env) :: starEach [] X.env := by rfl) : PE X (.Call (.Name "sorted" p) [.Call (.Name "set" p2) [a] [] q] [] pos) (tSortSetI2 X.K ta) := by
  refine ⟨fun pins s σ H Q I h => ?_⟩
  refine Call_ (ld_blt I hg hm PyProof.Rows.boot_sorted ?_)
  refine PyProof.Rows.callWith_builtin1 (PyProof.Rows.args_cons ?_ rfl) rfl rfl
  refine Call_ (ld_blt I hg2 hm2 PyProof.Rows.boot_set ?_)
  refine PyProof.Rows.callWith_type1 (PyProof.Rows.args_cons (thn (ha.run pins s σ H _ I h) fun v s1 ⟨x, H1, I1, r1, q1⟩ => PyProof.Rows.args_nil ?_) na) na rfl
  obtain ⟨ns, hq, hl, q1⟩ := q1
  refine set_seqI hc I1 r1 hq (by omega) fun h' tk c R hk => ?_
  refine PyProof.Rows.args_nil ?_
  have ec := setR_count R
  have hle := nd_le ns
  have I2 : Inv X pins σ H1 { s1 with heap := h', toks := tk } := I1.kept hk
  refine sorted_set (s := { s1 with heap := h', toks := tk }) R (I1.ok.hd hc) (by omega) fun s' p out c2 ms k g o hp hg hi hs hm hl2 => ?_
  have hlen : (ms.map V.int).length ≤ sizeLine := by rw [List.length_map, hl2, sizeLine_eq]; omega
  have hn : H1 p = none := I2.hok.fresh hp
  have J : Inv X pins σ (upd H1 p (.lst (ms.map V.int))) { ({ s1 with heap := h', toks := tk } : Shared) with heap := s'.heap, gens := s'.gens, drawn := s'.drawn, toks := s'.toks } :=
    I2.call (ch := []) (Un.laid k hp hn) (I2.hok.laid k hp ⟨hlen, out.toList, c2, vals_of_ints hi, hg⟩) (by rw [g]; exact I2.bare) (fun _ z => nomatch z)
  have e : s' = { ({ s1 with heap := h', toks := tk } : Shared) with heap := s'.heap, gens := s'.gens, drawn := s'.drawn, toks := s'.toks } := by
    cases s'
    cases s1
    cases o
    rfl
  rw [e]
  exact ⟨.ref p, _, J, rfl, q1 ms p hs (fun k => by rw [hm k, decide_eq_true_eq]) hn⟩
end



/-! ### lists of instances compared, item by item, by their own __eq__ -/
section
open PySem.SeqAt MeetsSeq MeetsSeq2 MeetsSeq3 SeqRoads2
open AutoSeq1 (wpAny_loadPart')
variable {prog : Program} {w : World}
theorem eq_loopJ (l b : Addr) (items items2 : Array Value) (hsz : items.size = items2.size) (A : Around) (R : Result → Shared → Prop) (J : Nat → Shared → Prop)
    (hh : ∀ i s, J i s → s.heap.IsList l items ∧ s.heap.IsList b items2)
    (ht : ∀ i (h1 : i < items.size) (h2 : i < items2.size) s, J i s → wpAny (model prog w) A.in1 (eqBool items[i] items2[i]) (fun c s' => s'.heap.IsList l items ∧ s'.heap.IsList b items2 ∧ if c = true then J (i + 1) s' else R (.ok (.ret (.bool false))) s') (fun e s' => R (.error e) s') s)
    (hd : ∀ s, J items.size s → R (.ok (.ret (.bool true))) s) (k : Nat) :
    ∀ (i : Nat) (s : Shared), items.size - i = k → i ≤ items.size → J i s →
      wpAny (model prog w) A.in1 (Builtin.«list.__eq__.loop» ⟨[.ref l, .ref b, rawInt i, rawInt 2], []⟩) (fun fin s' => match fin with | .done f => R (.ok f) s' | .again c' => c'.quiet = true ∧ codeAny (model prog w) A c' R s') (fun e s' => R (.error e) s') s := by
  induction k with
  | zero =>
    intro i s hk hi hJ
    obtain ⟨⟨⟨cls, dd, data, sl⟩, hl, hc, n, hd1⟩, ⟨⟨cls2, dd2, data2, sl2⟩, hb, hc2, n2, hd2⟩⟩ := hh i s hJ
    simp only at hc hd1 hc2 hd2
    subst hc hd1 hc2 hd2
    have e : i = items.size := by omega
    have hR := hd s (e ▸ hJ)
    obtain ⟨hp, g, d, tk, os⟩ := s
    wp_walk using wpAny_loadPart' hl, wpAny_loadPart' hb
    have hi1 : items[((i : Nat) : Int).toNat]? = none := by simp; omega
    have hi2 : items2[((i : Nat) : Int).toNat]? = none := by simp; omega
    rw [hi1, hi2]
    wp_walk using wpAny_loadPart' hl, wpAny_loadPart' hb
    show R (.ok (.ret (.bool (items.size == items2.size)))) _
    rw [hsz]
    simpa using hR
  | succ k ih =>
    intro i s hk hi hJ
    obtain ⟨⟨⟨cls, dd, data, sl⟩, hl, hc, n, hd1⟩, ⟨⟨cls2, dd2, data2, sl2⟩, hb, hc2, n2, hd2⟩⟩ := hh i s hJ
    simp only at hc hd1 hc2 hd2
    subst hc hd1 hc2 hd2
    have hlt : i < items.size := by omega
    have hlt2 : i < items2.size := by omega
    have hT := ht i hlt hlt2 s hJ
    obtain ⟨hp, g, d, tk, os⟩ := s
    wp_walk using wpAny_loadPart' hl, wpAny_loadPart' hb
    have hi1 : items[((i : Nat) : Int).toNat]? = some items[i] := by simp [hlt]
    have hi2 : items2[((i : Nat) : Int).toNat]? = some items2[i] := by simp [hlt2]
    have hc : ((i : Int) + 1) = ((i + 1 : Nat) : Int) := by push_cast; rfl
    rw [hi1, hi2]
    refine wpAny_bind (wpAny_mono hT (fun c s' h => ?_) fun _ _ x => x)
    obtain ⟨⟨⟨cls, dd, data, sl⟩, hl, hc1, n, hd1⟩, ⟨⟨cls2, dd2, data2, sl2⟩, hb, hc2, n2, hd2⟩, h⟩ := h
    simp only at hc1 hd1 hc2 hd2
    subst hc1 hd1 hc2 hd2
    obtain ⟨hp, g, d, tk, os⟩ := s'
    cases c with
    | true =>
      rw [if_pos rfl] at h
      wp_walk
      rw [hc]
      exact ⟨plainId_quiet plain_eq_loop _, codeAny_builtin entry_eq_loop (by
        rw [Around.under_plainId plain_eq_loop _]
        exact ih (i + 1) _ (by omega) (by omega) h)⟩
    | false =>
      rw [if_neg (by decide)] at h
      wp_walk using wpAny_loadPart' hl, wpAny_loadPart' hb
      rw [hi1, hi2]
      wp_walk
      exact h
theorem rc_listJ {l b : Addr} {items items2 : Array Value} {A : Around} {E : Value → Shared → Prop} {Q : Value → Shared → Prop} {s : Shared} (hsz : items.size = items2.size) (hu : A.units < cLine) (J : Nat → Shared → Prop) (h0 : J 0 s)
    (hh : ∀ i s, J i s → s.heap.IsList l items ∧ s.heap.IsList b items2)
    (ht : ∀ i (h1 : i < items.size) (h2 : i < items2.size) s, J i s → wpAny (model prog w) A.in1 (eqBool items[i] items2[i]) (fun c s' => s'.heap.IsList l items ∧ s'.heap.IsList b items2 ∧ if c = true then J (i + 1) s' else Q (.bool false) s') E s)
    (hd : ∀ s, J items.size s → Q (.bool true) s) : wpAny (model prog w) A (richCompare .Eq (.ref l) (.ref b)) Q E s := by
  obtain ⟨⟨⟨cls, dd, data, sl⟩, hl, hc, n, hd1⟩, ⟨⟨cls2, dd2, data2, sl2⟩, hb, hc2, n2, hd2⟩⟩ := hh 0 s h0
  simp only at hc hd1 hc2 hd2
  subst hc hd1 hc2 hd2
  have hT : s.TypeIs (.ref l) "list" := ⟨_, hl, rfl⟩
  have hT2 : s.TypeIs (.ref b) "list" := ⟨_, hb, rfl⟩
  have nn : ∀ c : Bool, Value.bool c ≠ Value.notImplemented := fun c x => nomatch x
  refine wpAny_richCompare_same_room hT hT2 F.slot_list_eq ?_ hu
  refine wpAny_call (codeAny_call_builtin F.slot_list_eq.plain F.entry_list_eq (F.slot_list_eq.check _ _ _ _ _ _ _ _ hT (F.args_list_eq_2 _ _) ?_))
  have main := eq_loopJ (prog := prog) (w := w) l b items items2 hsz A (wants (fun v s' => v ≠ .notImplemented ∧ Q v s') E) J hh (fun i h1 h2 s hJ => wpAny_mono (ht i h1 h2 s hJ) (fun c s' ⟨a1, a2, a3⟩ => ⟨a1, a2, by
    cases c with
    | true => exact a3
    | false => exact ⟨nn _, a3⟩⟩) fun _ _ x => x) (fun s hJ => ⟨nn _, hd s hJ⟩) _ 0 s rfl (Nat.zero_le _) h0
  obtain ⟨hp, g, d, tk, os⟩ := s
  have f3 := AutoSeq1.sub_list_list
  have hne : ¬ (items.size != items2.size) = true := by simp [hsz]
  wp_walk using wpAny_loadPart' hl, wpAny_loadPart' hb
  exact ⟨plainId_quiet plain_eq_loop _, codeAny_builtin entry_eq_loop (by
    rw [Around.under_plainId plain_eq_loop _]
    exact main)⟩
end
section
variable {X : Cx} {CX : CXT} {k : Nat} {C f : Addr} {fd : FuncData} {ps : List Str} {sp : Sp} {E : XK}
/-- item by item: the same object, or the own __eq__ asked -/
def eqGo (C : Addr) (sp : Sp) (E : XK) : List V → List V → Hp → VK → Prop
  | x :: xs, y :: ys, H, Q => (x = y ∧ eqGo C sp E xs ys H Q) ∨ (∃ p q dx fs dy gs, x = .ref p ∧ y = .ref q ∧ p ≠ q ∧ H p = some (.ins C dx fs) ∧ H q = some (.ins C dy gs) ∧ sp [x, y] H (fun v H' => Same H H' ∧ ∃ c, v = .bl c ∧ (c = true → eqGo C sp E xs ys H' Q) ∧ (c = false → Q (.bl false) H')) E)
  | _, _, H, Q => Q (.bl true) H
def rEqOL (C : Addr) (sp : Sp) (E : XK) : R2 := fun x y H Q => ∃ a b xs ys, x = .ref a ∧ y = .ref b ∧ H a = some (.lst xs) ∧ H b = some (.lst ys) ∧ (∀ v ∈ xs, ∃ p, v = .ref p) ∧ (∀ v ∈ ys, ∃ p, v = .ref p) ∧ ((xs.length ≠ ys.length ∧ Q (.bl false) H) ∨ (xs.length = ys.length ∧ eqGo C sp E xs ys H Q))
def refV : V → Value
  | .ref p => .ref p
  | _ => .none
theorem vals_refs : ∀ {xs : List V} {its : List Value}, (∀ v ∈ xs, ∃ p, v = .ref p) → Vals xs its → its = xs.map refV
  | [], _, _, h => by cases h; rfl
  | x :: xs, _, hx, h => by
    cases h with
    | cons h1 h2 =>
      obtain ⟨p, rfl⟩ := hx x List.mem_cons_self
      cases h1
      rw [List.map_cons, ← vals_refs (fun v hv => hx v (List.mem_cons_of_mem _ hv)) h2]
      rfl
theorem op_eqOL (O : CmF X.K C f .Eq) (F : FnOk X.prog X.w X.K X.mg X.base CX k f fd ps sp) (hr : Room (k + 1) X.A) (hb : Binds X.K fd ps []) (hx : Passes CX X E) : OpR X (compareOp .Eq) (rEqOL C sp E) := fun pins s σ H x y v u Q I rx ry h => by
  obtain ⟨a, b, xs, ys, rfl, rfl, ha, hb', hxs, hys, h⟩ := h
  cases rx
  cases ry
  have hu : X.A.units < cLine := by have := hr.units0; omega
  have ls : ∀ {s' : Shared} {H' : Hp}, Inv X pins σ H' s' → H' a = some (.lst xs) → H' b = some (.lst ys) → s'.heap.IsList a (xs.map refV).toArray ∧ s'.heap.IsList b (ys.map refV).toArray := fun {s' H'} I' ha' hb'' => by
    obtain ⟨its, r, pl, hz⟩ := I'.list (SqL.of ha')
    obtain ⟨its2, r2, pl2, hz2⟩ := I'.list (SqL.of hb'')
    rw [vals_refs hxs r] at pl
    rw [vals_refs hys r2] at pl2
    exact ⟨pl.isList, pl2.isList⟩
  obtain ⟨l1, l2⟩ := ls I ha hb'
  rcases h with ⟨hne, q⟩ | ⟨hl, h⟩
  · refine SeqAt.eq_list_lengthsAt l1 l2 ?_ hu ⟨.bl false, H, I, rfl, q⟩
    simp only [List.size_toArray, List.length_map]
    simpa using hne
  · show wpAny (model X.prog X.w) X.A (richCompare .Eq (.ref a) (.ref b)) _ _ _
    have hsz : (xs.map refV).toArray.size = (ys.map refV).toArray.size := by simpa using hl
    refine rc_listJ hsz hu (fun i s => ∃ H', Inv X pins σ H' s ∧ H' a = some (.lst xs) ∧ H' b = some (.lst ys) ∧ eqGo C sp E (xs.drop i) (ys.drop i) H' Q) ⟨H, I, ha, hb', h⟩ (fun i s ⟨H', I', ha', hb'', _⟩ => ls I' ha' hb'') (fun i h1 h2 s ⟨H', I', ha', hb'', g⟩ => ?_) (fun s ⟨H', I', _, _, g⟩ => ?_)
    · have h1' : i < xs.length := by simpa using h1
      have h2' : i < ys.length := by simpa using h2
      rw [List.drop_eq_getElem_cons h1', List.drop_eq_getElem_cons h2'] at g
      have e1 : (xs.map refV).toArray[i] = refV xs[i] := by simp
      have e2 : (ys.map refV).toArray[i] = refV ys[i] := by simp
      rw [e1, e2]
      unfold eqGo at g
      rcases g with ⟨e, g⟩ | ⟨p, q, dx, fs, dy, gs, ep, eq, npq, hp, hq, g⟩
      · rw [e]
        obtain ⟨l1, l2⟩ := ls I' ha' hb''
        exact SeqAt.EqAt.same (A := X.A.in1) (s := s) (refV ys[i]) X.prog X.w X.xe _ ⟨l1, l2, by rw [if_pos rfl]; exact ⟨H', I', ha', hb'', g⟩⟩
      · rw [ep, eq]
        show wpAny _ _ (eqBool (.ref p) (.ref q)) _ _ _
        unfold eqBool
        refine wpAny_holding ?_
        refine wpAny_ite_split (fun hab => absurd (by have := eq_of_beq hab; injection this) npq) (fun _ => ?_)
        obtain ⟨mA, J, _⟩ := ins_get I'.hok hp
        obtain ⟨od, J, _⟩ := J.look
        obtain ⟨mB, J2, _⟩ := ins_get I'.hok hq
        obtain ⟨od2, J2, _⟩ := J2.look
        obtain ⟨m, hF⟩ := I'.fr
        refine wpAny_bind (PySem.W.cmp_K (room_in1 hr).units0 hF I'.ok.mod.kin J J2.type notFirst_self O.hs O.hf ?_)
        rw [ep, eq] at g
        refine thn (run_fnA (vs := [.ref p, .ref q]) (room_in1 hr) rfl F hb hx I' (.cons rfl (.cons rfl .nil)) g) fun v s2 z => ?_
        obtain ⟨v', H2, I2, r2, sm, c, rfl, gt, gf⟩ := z
        cases r2
        obtain ⟨l1, l2⟩ := ls I2 (sm _ _ ha') (sm _ _ hb'')
        refine wpAny_truthy_bool ⟨l1, l2, ?_⟩
        cases c with
        | true =>
          rw [if_pos rfl]
          exact ⟨H2, I2, sm _ _ ha', sm _ _ hb'', gt rfl⟩
        | false =>
          rw [if_neg (by decide)]
          exact ⟨.bl false, H2, I2, rfl, gf rfl⟩
    · rw [List.drop_of_length_le (by simp), List.drop_of_length_le (by simp; omega)] at g
      exact ⟨.bl true, H', I', rfl, g⟩
end



/-! ### enumerate(tuple); int(bool); != of lists of the same objects -/
section
open PyProof.Rows
open AutoSeq1 (wpAny_loadPart')
theorem meets_enumerate_newT (l : Addr) (items : Array Value) (n : Nat) (dct : Option Addr) (sl : Array (Option Value)) :
    Meets (Builtin.«enumerate.__new__» ⟨[.type "enumerate", .ref l], []⟩) (fun _ R s => s.heap.get? l = some { cls := .type "tuple", dict := dct, data := .seq items n, slots := sl } ∧
      R (.ok (.ret (.ref (s.heap.push { cls := .type "tuple_iterator", data := .fields #[.ref l, .int 0 0] }).objs.size)))
        { s with heap := (s.heap.push { cls := .type "tuple_iterator", data := .fields #[.ref l, .int 0 0] }).push { cls := .type "enumerate", data := .fields #[.none, .bool false, .ref s.heap.objs.size, rawInt 0, .none, .none] } }) :=
  .of_wp fun prog w A R s h => by
    obtain ⟨hp, g, d, tk, os⟩ := s
    obtain ⟨hl, h⟩ := h
    have hsub := sub_enumerate
    have hL : Heap.IsTuple (Shared.heap ⟨hp, g, d, tk, os⟩) l items := ⟨_, hl, rfl, n, rfl⟩
    wp_walk using wpAny_loadPart' hl
    refine wpAny_stack_any fun st => wpAny_pure ?_
    split
    · rename_i c _ _ _ _ _
      cases (c == Value.type "enumerate")
      · wp_walk using wpAny_loadPart' hl, wpAny_pyIter_tuple hL
        exact ⟨_, rfl, h⟩
      · wp_walk using wpAny_loadPart' hl, wpAny_pyIter_tuple hL
        exact ⟨_, rfl, h⟩
    · wp_walk using wpAny_loadPart' hl, wpAny_pyIter_tuple hL
      exact ⟨_, rfl, h⟩
theorem call_enumerate_tup {prog : Program} {w : World} {A : Around} {E : Value → Shared → Prop} {s : Shared} {l : Addr} {items : Array Value} {Q : Value → Shared → Prop} (hL : s.heap.IsTuple l items)
    (h : ∀ h', IsEnum h' (s.heap.objs.size + 1) s.heap.objs.size 0 .none → h'.IsTupleIter s.heap.objs.size l 0 → h'.objs.size = s.heap.objs.size + 2 →
      (∀ b o, s.heap.get? b = some o → h'.get? b = some o) → Q (.ref (s.heap.objs.size + 1)) { s with heap := h' }) :
    wpAny (model prog w) A (call (.type "enumerate") [.ref l]) Q E s := by
  obtain ⟨⟨c, dct, dt, sl⟩, hl, hc, n, hd⟩ := hL
  replace hc : c = .type "tuple" := hc
  replace hd : dt = .seq items n := hd
  subst hc hd
  refine callType_new F.called_enumerate (by decide) (F.typeCall_enumerate_1 _) (F.newCall_enumerate_1 _) (fun obj => F.args_object_init_2 obj _) F.entry_enumerate_new
    (meets_enumerate_newT l items n dct sl) ⟨hl, ?_⟩
  have hz : (s.heap.push { cls := .type "tuple_iterator", data := .fields #[.ref l, .int 0 0] }).objs.size = s.heap.objs.size + 1 := Heap.size_push ..
  show _ ∧ _
  rw [hz]
  have he : IsEnum ((s.heap.push { cls := .type "tuple_iterator", data := .fields #[.ref l, .int 0 0] }).push
      { cls := .type "enumerate", data := .fields #[.none, .bool false, .ref s.heap.objs.size, rawInt 0, .none, .none] }) (s.heap.objs.size + 1) s.heap.objs.size 0 .none := by
    have := Heap.get?_push_size (s.heap.push { cls := .type "tuple_iterator", data := .fields #[.ref l, .int 0 0] })
      (o := { cls := .type "enumerate", data := .fields #[.none, .bool false, .ref s.heap.objs.size, rawInt 0, .none, .none] }) rfl
    rw [hz] at this
    exact this
  refine ⟨⟨_, he, rfl⟩, h _ he ⟨_, Heap.get?_push_of_some _ (Heap.get?_push_size _ rfl), rfl, rfl⟩ (by rw [Heap.size_push, hz]) fun b o x => Heap.get?_push_of_some _ (Heap.get?_push_of_some _ x)⟩
/-- the tuple at a, each item in a new pair -/
def IteT (K : PySem.W.Frag) (a : Addr) : It :=
  ⟨fun i H => ∃ (xs : List V) (x : V), SqT K H a xs ∧ xs[i]? = some x, fun i H v H' => ∃ T x, v = .ref T ∧ H T = none ∧ H' = upd H T (.tup [.int (i : Nat), x]) ∧ ∀ xs, SqT K H a xs → xs[i]? = some x, fun i H => ∃ xs : List V, SqT K H a xs ∧ xs.length = i⟩
theorem turn_enumT {P : Program} {w : World} {K : PySem.W.Frag} {elts : List Expr} {kk : Nat} {tpos : Pos} (a e it : Addr) :
    Turn P w K (.Tuple elts kk tpos) (IteT K a) [e, it] e (fun i h => (∃ old, IsEnum h e it ((i : Nat) : Int) old) ∧ h.IsTupleIter it a i ∧ e ≠ it) where
  mem := by simp
  obj := fun i h st b hb => by
    obtain ⟨⟨old, he⟩, ⟨o, ho, hc, hd⟩, _⟩ := st
    have e' : b = e ∨ b = it := by simpa using hb
    rcases e' with z | z
    · rw [z]; exact ⟨_, he, fun v q => nomatch q⟩
    · rw [z]; exact ⟨o, ho, fun v q => by rw [hd] at q; cases q⟩
  keep := fun i h h' st k => let ⟨⟨old, he⟩, hi, hne⟩ := st; ⟨⟨old, k e (by simp) _ he⟩, hi.at fun o q => k it (by simp) o q, hne⟩
  item := by
    intro X hP hw hK hc i pins s σ H E I hf st hg
    subst hP hw hK
    obtain ⟨⟨old, he⟩, hit, hne⟩ := st
    obtain ⟨xs, x, hq, hx⟩ := hg
    obtain ⟨its, rv, p, hz⟩ := I.tuple hq
    obtain ⟨u, hu, ru⟩ := rv.get hx
    have hel : e < s.heap.objs.size := Heap.lt_size he
    have hil : it < s.heap.objs.size := by obtain ⟨_, q, _⟩ := hit; exact Heap.lt_size q
    have pt : s.heap.IsTuple a its.toArray := p
    have nai : a ≠ it := fun z => by
      obtain ⟨o1, h1, c1, _⟩ := pt
      obtain ⟨o2, h2, c2, _⟩ := hit
      rw [z, h2] at h1
      cases h1
      rw [c2] at c1
      exact absurd c1 (by decide)
    have nea : e ≠ a := fun z => by
      obtain ⟨o1, h1, c1, _⟩ := pt
      rw [← z] at h1
      have he2 : s.heap.get? e = _ := he
      rw [he2] at h1
      cases h1
      exact absurd (show Value.type "enumerate" = Value.type "tuple" from c1) (by decide)
    have hlt : i < its.toArray.size := by
      have := (List.getElem?_eq_some_iff.mp hu).1
      simpa using this
    refine wpAny_pyNext_enum_itemD (Draws.tuple (A := X.A.in1) (I.ok.hd hc) it a nai its.toArray) he ⟨hit, pt⟩ hlt hne (by simp; exact ⟨hne, nea⟩) fun x' h' tk hP ho hst hT hsz hk => ?_
    have ex : x' = u := by
      have e2 : its.toArray[i]? = some u := by simpa using hu
      rw [e2] at hP
      exact (Option.some.inj hP).symm
    subst ex
    obtain ⟨hit', _⟩ := hst
    refine ⟨_, rfl, wpAny_letOwnedTupleGo_enum (s := { s with heap := h', toks := tk + 1 }) ho fun h'' he' sb => ?_⟩
    have hT2 : h''.get? s.heap.objs.size = some { cls := .type "tuple", data := .seq #[.int i tk, x'] } := (sb.2 _ (Nat.ne_of_gt hel)).trans hT
    have new : ObjOk X.prog X.w (upd H s.heap.objs.size (.tup [.int (i : Nat), x])) h'' s.heap.objs.size (.tup [.int (i : Nat), x]) :=
      ⟨by show 2 ≤ sizeLine; decide, [.int i tk, x'], .cons ⟨_, rfl⟩ (.cons ru .nil), ⟨_, hT2, rfl, _, rfl⟩⟩
    have I1 : Inv X pins σ (upd H s.heap.objs.size (.tup [.int (i : Nat), x])) { s with heap := h'', toks := tk + 1 } :=
      I.turnedNew (ch := [e, it]) (fun b ob hb q => (sb.2 b (fun z => hb (by simp [z]))).trans (hk b ob (fun z => hb (by simp [z])) (fun z => hb (by simp [z])) q)) hf (Nat.le_refl _) new
    refine ⟨.ref s.heap.objs.size, _, I1, rfl, ⟨_, x, rfl, I.hok.fresh (Nat.le_refl _), rfl, fun ys hy => by rw [I.tuple_inj hy hq]; exact hx⟩, ⟨⟨x', ?_⟩, hit'.at fun o q => (sb.2 it (Ne.symm hne)).trans q, hne⟩, fun b hb => ?_⟩
    · have e1 : ((i + 1 : Nat) : Int) = (i : Int) + 1 := by omega
      rw [e1]; exact he'
    · have hb' : b < s.heap.objs.size := by
        have e' : b = e ∨ b = it := by simpa using hb
        rcases e' with z | z
        · rw [z]; exact hel
        · rw [z]; exact hil
      rw [upd_ne (Nat.ne_of_lt hb')]
      exact (hf b hb).1
  done := by
    intro X hP hw hK hc i pins s σ H E I hf st hg
    subst hP hw hK
    obtain ⟨⟨old, he⟩, hit, hne⟩ := st
    obtain ⟨xs, hq, hx⟩ := hg
    obtain ⟨its, rv, p, hz⟩ := I.tuple hq
    obtain ⟨f0, f1, f2, f3, f4, f5⟩ := hf it (by simp)
    have hl := rv.length
    have pt : s.heap.IsTuple a its.toArray := p
    have nai : a ≠ it := fun z => by
      obtain ⟨o1, h1, c1, _⟩ := pt
      obtain ⟨o2, h2, c2, _⟩ := hit
      rw [z, h2] at h1
      cases h1
      rw [c2] at c1
      exact absurd c1 (by decide)
    have ei : i = its.toArray.size := by simp; omega
    exact wpAny_pyNext_enum_endD (Draws.tuple (A := X.A.in1) (I.ok.hd hc) it a nai its.toArray) he ⟨ei ▸ hit, pt⟩ fun h' eb => ⟨rfl, I.turned (t' := s.toks) (fun b o hb q => eb b o hb q) f0 f1 f3 f4 f5⟩
  self := fun A i s Q E st h => let ⟨⟨_, he⟩, _⟩ := st; wpAny_pyIter_enum he h
def iEnumT (K : PySem.W.Frag) (ta : TA) : TI := fun σ H R => ta σ H fun vs H1 => ∃ a xs, vs = [.ref a] ∧ SqT K H1 a xs ∧ R (IteT K a) H1
theorem pi_enumT {X : Cx} {e : Expr} {ta : TA} {p pos tpos : Pos} {elts : List Expr} {kk : Nat} (hg : Gl X "enumerate") (hm : X.mg "enumerate" = none) (ha : PA X [e] ta) (hs : starEach [e] X.env = [(false, eval e X.env)] := by rfl) :
    PI X (.Tuple elts kk tpos) (.Call (.Name "enumerate" p) [e] [] pos) (iEnumT X.K ta) := by
  refine ⟨fun pins s σ H R I h => ?_⟩
  refine Call_ (ld_blt I hg hm PyProof.Rows.boot_enumerate (PyProof.Rows.callWith_type1 (thn (ha.run pos pins s σ H _ I h) fun us s1 ⟨vs, H1, I1, r1, q1⟩ => ?_) hs rfl))
  obtain ⟨a, xs, ex, hq, q⟩ := q1
  subst ex
  cases r1 with
  | cons r rr =>
    cases rr
    cases r
    obtain ⟨its, rv, p', hz⟩ := I1.tuple hq
    refine call_enumerate_tup (show s1.heap.IsTuple a its.toArray from p') fun h' he hit hsz hk => wpAny_pyIter_enum he ?_
    have I2 : Inv X pins σ H1 { s1 with heap := h' } := I1.kept (t' := s1.toks) hk
    refine ⟨s1.heap.objs.size + 1, [s1.heap.objs.size + 1, s1.heap.objs.size], _, _, H1, rfl, I2, turn_enumT a (s1.heap.objs.size + 1) s1.heap.objs.size, ⟨⟨.none, he⟩, hit, Nat.succ_ne_self _⟩, fun b hb => ?_, q⟩
    have e' : b = s1.heap.objs.size + 1 ∨ b = s1.heap.objs.size := by simpa using hb
    have hle : s1.heap.objs.size ≤ b := by
      rcases e' with z | z
      · rw [z]; exact Nat.le_add_right _ _
      · rw [z]; exact Nat.le_refl _
    exact I1.fpOk hle (I1.hok.fresh hle)
theorem walk_enumT {K : PySem.W.Frag} {a : Addr} {xs : List V} : Walk (IteT K a) xs.length (fun H => SqT K H a xs) (YPair (fun i => some (.int (i : Nat))) (fun i => xs[i]?)) := by
  refine ⟨fun i _ hi q => ⟨xs, xs[i], q, by simp [hi]⟩, fun _ q => ⟨xs, q, rfl⟩, fun i H v H' _ q y => ?_⟩
  obtain ⟨T, x, h1, h2, h3, h4⟩ := y
  exact ⟨T, .int (i : Nat), x, h1, h2, h3, rfl, h4 xs q⟩
variable {X : Cx}
def rIntB : List V → Hp → VK → Prop := fun vs H Q => ∃ b, vs = [.bl b] ∧ Q (.int (if b then 1 else 0)) H
theorem call_intB : CallR X (.type "int") rIntB := fun pins s σ H xs us Q I r h => call_int1 pins s σ H xs us Q I r (Or.inr h)
def rNeSame : R2 := fun x y H Q => ∃ a b xs, x = .ref a ∧ y = .ref b ∧ H a = some (.lst xs) ∧ H b = some (.lst xs) ∧ (∀ v ∈ xs, ∃ p, v = .ref p) ∧ Q (.bl false) H
theorem op_neSame (hu : X.A.units + 64 < cLine) : OpR X (compareOp .NotEq) rNeSame := fun pins s σ H x y v u Q I rx ry h => by
  obtain ⟨a, b, xs, rfl, rfl, ha, hb, hr, q⟩ := h
  cases rx
  cases ry
  obtain ⟨its, r, pl, hz⟩ := I.list (SqL.of ha)
  obtain ⟨its2, r2, pl2, hz2⟩ := I.list (SqL.of hb)
  have e1 := vals_refs hr r
  have e2 := vals_refs hr r2
  subst e1 e2
  have hu' : X.A.units < cLine := by omega
  refine SeqAt.RcNeAt.lists (e := fun _ => true) pl.isList pl2.isList rfl hu' (fun j h1 h2 => SeqAt.EqAt.same _) X.prog X.w X.xe _ ?_
  refine ⟨.bl false, H, I, ?_, q⟩
  show Value.bool _ = Value.bool false
  simp
end



/-! ### for x in o, o of an own class whose __iter__ tells iter(list) -/
section
variable {X : Cx}
/-- iter(xs): the iterator is younger than a thing that is known -/
def rIterB (K : PySem.W.Frag) : List V → Hp → VK → Prop := fun xs H Q => ∃ (l : Addr) (zs : List V) (b : Addr) (u : HO), xs = [.ref l] ∧ SqL K H l zs ∧ H b = some u ∧ ∀ it, H it = none → b < it → Q (.ref it) (upd H it (ItO l it 0))
theorem call_iterB : CallR X (.builtin "iter") (rIterB X.K) := by
  intro pins s σ H xs us Q I r h
  obtain ⟨l, zs, b, u, rfl, hq, hb, q⟩ := h
  obtain rfl := Vals.ref1 r
  obtain ⟨its, rv, pl, hz⟩ := I.list hq
  have hlt : b < s.heap.objs.size := by
    rcases Nat.lt_or_ge b s.heap.objs.size with h | h
    · exact h
    · rw [I.hok.fresh h] at hb; cases hb
  refine GNX.call_iter pl.isList ?_
  exact ⟨.ref s.heap.objs.size, _, I.laid (t' := s.toks) (fun b u e => Heap.get?_push_of_some _ e) (Nat.le_refl _) (itO_ok (Heap.get?_push_size _ rfl)), rfl, q _ (I.hok.fresh (Nat.le_refl _)) hlt⟩
/-- [..], younger than the call -/
def tLstN (n : Nat) (t : TA) : TE := fun σ H Q => t σ H fun xs H1 => xs.length ≤ sizeLine ∧ ∀ p, H1 p = none → n ≤ p → Q (.ref p) (upd H1 p (.lst xs))
theorem pe_lstN {es : List Expr} {t : TA} {pos : Pos} (h : PA X es t) : PE X (.List es pos) (tLstN X.s_0.heap.objs.size t) := by
  refine ⟨fun pins s σ H Q I hq => ?_⟩
  refine wpAny_List_spliced (thn (h.run pos pins s σ H _ I hq) fun us s1 ⟨xs, H1, I1, r, z, q⟩ => ⟨by rw [← r.length]; exact z, ?_⟩)
  have hf : H1 s1.heap.objs.size = none := I1.hok.fresh (Nat.le_refl _)
  refine ⟨.ref s1.heap.objs.size, upd H1 s1.heap.objs.size (.lst xs), I1.laid (t' := s1.toks) (fun b u e => Heap.get?_push_of_some _ e) (Nat.le_refl _) ?_, rfl, q _ hf I1.sz⟩
  exact ⟨z, us, 0, r, Heap.get?_push_size _ rfl⟩
variable {CX : CXT} {k : Nat} {C f : Addr} {fd : FuncData} {ps : List Str} {sp : Sp} {E : XK}
def iOwnIt (K : PySem.W.Frag) (C : Addr) (sp : Sp) (E : XK) (n : Nat) (te : TE) : TI := fun σ H R => te σ H fun x H1 => ∃ a dx fs, x = .ref a ∧ H1 a = some (.ins C dx fs) ∧ sp [x] H1 (fun v H2 => ∃ it l, v = .ref it ∧ H2 it = some (ItO l it 0) ∧ n ≤ it ∧ R (ItX.ItlF K l 0) (ItX.dropH H2 it)) E
theorem pi_ownIt {e tg : Expr} {te : TE} (O : UnF X.K C f "__iter__") (F : FnOk X.prog X.w X.K X.mg X.base CX k f fd ps sp) (hr : Room k X.A) (hb : Binds X.K fd ps []) (hx : Passes CX X E) (he : PE X e te) : PI X tg e (iOwnIt X.K C sp E X.s_0.heap.objs.size te) := by
  refine ⟨fun pins s σ H R I h => ?_⟩
  refine thn (he.run pins s σ H _ I h) fun v s1 ⟨x, H1, I1, r1, a, dx, fs, ex, ha, q⟩ => ?_
  subst ex
  cases r1
  obtain ⟨mA, J, _⟩ := ins_get I1.hok ha
  obtain ⟨od, J, _⟩ := J.look
  obtain ⟨m, hF⟩ := I1.fr
  refine PySem.W.owit_iter hF I1.ok.mod.kin J O.hs O.hf ?_
  refine thn (run_fn (vs := [.ref a]) F hr hb .nil hx I1 (.cons rfl .nil) q) fun u s2 ⟨v, H2, I2, r2, it, l, ev, hi, hn, q2⟩ => ?_
  subst ev
  cases r2
  have eo := itO_get I2 hi
  have hT : s2.TypeIs (.ref it) "list_iterator" := ⟨_, eo, rfl⟩
  have st : s2.heap.IsListIter it l (0 + 0) := ⟨_, eo, rfl, rfl⟩
  show wpAny _ _ (specialOf (.ref it) "__next__") _ _ _
  refine wpAny_specialOf hT PySem.slot_listiter_next.lookup ?_
  have hi' := hi
  unfold ItO at hi'
  refine ⟨it, [it], _, _, ItX.dropH H2 it, rfl, ItX.inv_drop I2 hi', ItX.turn_listF l it 0, st, fun b hb => ?_, q2⟩
  have e : b = it := by simpa using hb
  rw [e]
  exact ItX.inv_fp I2 hi hn
end



/-! ### == and != of nested lists and tuples, item by item, an own == at the leaves (printed by eqs.py) -/
section
open PySem.SeqAt MeetsSeq MeetsSeq2 MeetsSeq3 SeqRoads2
open AutoSeq1 (wpAny_loadPart')
variable {prog : Program} {w : World}
theorem Y_loopG (l b : Addr) (N : Nat) (A : Around) (R : Result → Shared → Prop) (J : Nat → Shared → Prop)
    (ht : ∀ i s, J i s → ∃ items items2 : Array Value, s.heap.IsList l items ∧ s.heap.IsList b items2 ∧ items.size = N ∧ items2.size = N ∧ ∀ (h1 : i < items.size) (h2 : i < items2.size), wpAny (model prog w) A.in1 (eqBool items[i] items2[i]) (fun c s' => (∃ it it2 : Array Value, s'.heap.IsList l it ∧ s'.heap.IsList b it2 ∧ it.size = N ∧ it2.size = N) ∧ if c = true then J (i + 1) s' else R (.ok (.ret (.bool false))) s') (fun e s' => R (.error e) s') s)
    (hd : ∀ s, J N s → R (.ok (.ret (.bool true))) s) (k : Nat) :
    ∀ (i : Nat) (s : Shared), N - i = k → i ≤ N → J i s →
      wpAny (model prog w) A.in1 (Builtin.«list.__eq__.loop» ⟨[.ref l, .ref b, rawInt i, rawInt 2], []⟩) (fun fin s' => match fin with | .done f => R (.ok f) s' | .again c' => c'.quiet = true ∧ codeAny (model prog w) A c' R s') (fun e s' => R (.error e) s') s := by
  induction k with
  | zero =>
    intro i s hk hi hJ
    obtain ⟨items, items2, ⟨⟨cls, dd, data, sl⟩, hl, hc, n, hd1⟩, ⟨⟨cls2, dd2, data2, sl2⟩, hb, hc2, n2, hd2⟩, z1, z2, _⟩ := ht i s hJ
    simp only at hc hd1 hc2 hd2
    subst hc hd1 hc2 hd2
    have e : i = N := by omega
    have hR := hd s (e ▸ hJ)
    obtain ⟨hp, g, d, tk, os⟩ := s
    wp_walk using wpAny_loadPart' hl, wpAny_loadPart' hb
    have hi1 : items[((i : Nat) : Int).toNat]? = none := by simp; omega
    have hi2 : items2[((i : Nat) : Int).toNat]? = none := by simp; omega
    rw [hi1, hi2]
    wp_walk using wpAny_loadPart' hl, wpAny_loadPart' hb
    show R (.ok (.ret (.bool (items.size == items2.size)))) _
    rw [z1, z2]
    simpa using hR
  | succ k ih =>
    intro i s hk hi hJ
    obtain ⟨items, items2, ⟨⟨cls, dd, data, sl⟩, hl, hc, n, hd1⟩, ⟨⟨cls2, dd2, data2, sl2⟩, hb, hc2, n2, hd2⟩, z1, z2, hT⟩ := ht i s hJ
    simp only at hc hd1 hc2 hd2
    subst hc hd1 hc2 hd2
    have hlt : i < items.size := by omega
    have hlt2 : i < items2.size := by omega
    have hT := hT hlt hlt2
    obtain ⟨hp, g, d, tk, os⟩ := s
    wp_walk using wpAny_loadPart' hl, wpAny_loadPart' hb
    have hi1 : items[((i : Nat) : Int).toNat]? = some items[i] := by simp [hlt]
    have hi2 : items2[((i : Nat) : Int).toNat]? = some items2[i] := by simp [hlt2]
    have hc : ((i : Int) + 1) = ((i + 1 : Nat) : Int) := by push_cast; rfl
    rw [hi1, hi2]
    refine wpAny_bind (wpAny_mono hT (fun c s' h => ?_) fun _ _ x => x)
    obtain ⟨⟨it, it2, ⟨⟨cls, dd, data, sl⟩, hl, hc1, n, hd1⟩, ⟨⟨cls2, dd2, data2, sl2⟩, hb, hc2, n2, hd2⟩, y1, y2⟩, h⟩ := h
    simp only at hc1 hd1 hc2 hd2
    subst hc1 hd1 hc2 hd2
    obtain ⟨hp, g, d, tk, os⟩ := s'
    cases c with
    | true =>
      rw [if_pos rfl] at h
      wp_walk
      rw [hc]
      exact ⟨plainId_quiet plain_eq_loop _, codeAny_builtin entry_eq_loop (by
        rw [Around.under_plainId plain_eq_loop _]
        exact ih (i + 1) _ (by omega) (by omega) h)⟩
    | false =>
      rw [if_neg (by decide)] at h
      wp_walk using wpAny_loadPart' hl, wpAny_loadPart' hb
      have hi3 : it[((i : Nat) : Int).toNat]? = some it[i] := by simp [show i < it.size by omega]
      have hi4 : it2[((i : Nat) : Int).toNat]? = some it2[i] := by simp [show i < it2.size by omega]
      rw [hi3, hi4]
      wp_walk
      exact h
theorem rc_listY {l b : Addr} {N : Nat} {A : Around} {E : Value → Shared → Prop} {Q : Value → Shared → Prop} {s : Shared} (hu : A.units < cLine) (J : Nat → Shared → Prop) (h0 : J 0 s)
    (ht : ∀ i s, J i s → ∃ items items2 : Array Value, s.heap.IsList l items ∧ s.heap.IsList b items2 ∧ items.size = N ∧ items2.size = N ∧ ∀ (h1 : i < items.size) (h2 : i < items2.size), wpAny (model prog w) A.in1 (eqBool items[i] items2[i]) (fun c s' => (∃ it it2 : Array Value, s'.heap.IsList l it ∧ s'.heap.IsList b it2 ∧ it.size = N ∧ it2.size = N) ∧ if c = true then J (i + 1) s' else Q (.bool false) s') E s)
    (hd : ∀ s, J N s → Q (.bool true) s) : wpAny (model prog w) A (richCompare .Eq (.ref l) (.ref b)) Q E s := by
  obtain ⟨items, items2, ⟨⟨cls, dd, data, sl⟩, hl, hc, n, hd1⟩, ⟨⟨cls2, dd2, data2, sl2⟩, hb, hc2, n2, hd2⟩, z1, z2, _⟩ := ht 0 s h0
  simp only at hc hd1 hc2 hd2
  subst hc hd1 hc2 hd2
  have hT : s.TypeIs (.ref l) "list" := ⟨_, hl, rfl⟩
  have hT2 : s.TypeIs (.ref b) "list" := ⟨_, hb, rfl⟩
  have nn : ∀ c : Bool, Value.bool c ≠ Value.notImplemented := fun c x => nomatch x
  refine wpAny_richCompare_same_room hT hT2 F.slot_list_eq ?_ hu
  refine wpAny_call (codeAny_call_builtin F.slot_list_eq.plain F.entry_list_eq (F.slot_list_eq.check _ _ _ _ _ _ _ _ hT (F.args_list_eq_2 _ _) ?_))
  have main := Y_loopG (prog := prog) (w := w) l b N A (wants (fun v s' => v ≠ .notImplemented ∧ Q v s') E) J (fun i s hJ => by
    obtain ⟨it, it2, a1, a2, a3, a4, a5⟩ := ht i s hJ
    exact ⟨it, it2, a1, a2, a3, a4, fun h1 h2 => wpAny_mono (a5 h1 h2) (fun c s' ⟨b1, b2⟩ => ⟨b1, by
      cases c with
      | true => exact b2
      | false => exact ⟨nn _, b2⟩⟩) fun _ _ x => x⟩) (fun s hJ => ⟨nn _, hd s hJ⟩) _ 0 s rfl (Nat.zero_le _) h0
  obtain ⟨hp, g, d, tk, os⟩ := s
  have f3 := AutoSeq1.sub_list_list
  have hne : ¬ (items.size != items2.size) = true := by simp [z1, z2]
  wp_walk using wpAny_loadPart' hl, wpAny_loadPart' hb
  exact ⟨plainId_quiet plain_eq_loop _, codeAny_builtin entry_eq_loop (by
    rw [Around.under_plainId plain_eq_loop _]
    exact main)⟩
theorem N_loopG (l b : Addr) (N : Nat) (A : Around) (R : Result → Shared → Prop) (J : Nat → Shared → Prop)
    (ht : ∀ i s, J i s → ∃ items items2 : Array Value, s.heap.IsList l items ∧ s.heap.IsList b items2 ∧ items.size = N ∧ items2.size = N ∧ ∀ (h1 : i < items.size) (h2 : i < items2.size), wpAny (model prog w) A.in1 (eqBool items[i] items2[i]) (fun c s' => (∃ it it2 : Array Value, s'.heap.IsList l it ∧ s'.heap.IsList b it2 ∧ it.size = N ∧ it2.size = N) ∧ if c = true then J (i + 1) s' else R (.ok (.ret (.bool true))) s') (fun e s' => R (.error e) s') s)
    (hd : ∀ s, J N s → R (.ok (.ret (.bool false))) s) (k : Nat) :
    ∀ (i : Nat) (s : Shared), N - i = k → i ≤ N → J i s →
      wpAny (model prog w) A.in1 (Builtin.«list.__eq__.loop» ⟨[.ref l, .ref b, rawInt i, rawInt 3], []⟩) (fun fin s' => match fin with | .done f => R (.ok f) s' | .again c' => c'.quiet = true ∧ codeAny (model prog w) A c' R s') (fun e s' => R (.error e) s') s := by
  induction k with
  | zero =>
    intro i s hk hi hJ
    obtain ⟨items, items2, ⟨⟨cls, dd, data, sl⟩, hl, hc, n, hd1⟩, ⟨⟨cls2, dd2, data2, sl2⟩, hb, hc2, n2, hd2⟩, z1, z2, _⟩ := ht i s hJ
    simp only at hc hd1 hc2 hd2
    subst hc hd1 hc2 hd2
    have e : i = N := by omega
    have hR := hd s (e ▸ hJ)
    obtain ⟨hp, g, d, tk, os⟩ := s
    wp_walk using wpAny_loadPart' hl, wpAny_loadPart' hb
    have hi1 : items[((i : Nat) : Int).toNat]? = none := by simp; omega
    have hi2 : items2[((i : Nat) : Int).toNat]? = none := by simp; omega
    rw [hi1, hi2]
    wp_walk using wpAny_loadPart' hl, wpAny_loadPart' hb
    show R (.ok (.ret (.bool (items.size != items2.size)))) _
    rw [z1, z2]
    simpa using hR
  | succ k ih =>
    intro i s hk hi hJ
    obtain ⟨items, items2, ⟨⟨cls, dd, data, sl⟩, hl, hc, n, hd1⟩, ⟨⟨cls2, dd2, data2, sl2⟩, hb, hc2, n2, hd2⟩, z1, z2, hT⟩ := ht i s hJ
    simp only at hc hd1 hc2 hd2
    subst hc hd1 hc2 hd2
    have hlt : i < items.size := by omega
    have hlt2 : i < items2.size := by omega
    have hT := hT hlt hlt2
    obtain ⟨hp, g, d, tk, os⟩ := s
    wp_walk using wpAny_loadPart' hl, wpAny_loadPart' hb
    have hi1 : items[((i : Nat) : Int).toNat]? = some items[i] := by simp [hlt]
    have hi2 : items2[((i : Nat) : Int).toNat]? = some items2[i] := by simp [hlt2]
    have hc : ((i : Int) + 1) = ((i + 1 : Nat) : Int) := by push_cast; rfl
    rw [hi1, hi2]
    refine wpAny_bind (wpAny_mono hT (fun c s' h => ?_) fun _ _ x => x)
    obtain ⟨⟨it, it2, ⟨⟨cls, dd, data, sl⟩, hl, hc1, n, hd1⟩, ⟨⟨cls2, dd2, data2, sl2⟩, hb, hc2, n2, hd2⟩, y1, y2⟩, h⟩ := h
    simp only at hc1 hd1 hc2 hd2
    subst hc1 hd1 hc2 hd2
    obtain ⟨hp, g, d, tk, os⟩ := s'
    cases c with
    | true =>
      rw [if_pos rfl] at h
      wp_walk
      rw [hc]
      exact ⟨plainId_quiet plain_eq_loop _, codeAny_builtin entry_eq_loop (by
        rw [Around.under_plainId plain_eq_loop _]
        exact ih (i + 1) _ (by omega) (by omega) h)⟩
    | false =>
      rw [if_neg (by decide)] at h
      wp_walk using wpAny_loadPart' hl, wpAny_loadPart' hb
      have hi3 : it[((i : Nat) : Int).toNat]? = some it[i] := by simp [show i < it.size by omega]
      have hi4 : it2[((i : Nat) : Int).toNat]? = some it2[i] := by simp [show i < it2.size by omega]
      rw [hi3, hi4]
      wp_walk
      exact h
theorem rc_listN {l b : Addr} {N : Nat} {A : Around} {E : Value → Shared → Prop} {Q : Value → Shared → Prop} {s : Shared} (hu : A.units < cLine) (J : Nat → Shared → Prop) (h0 : J 0 s)
    (ht : ∀ i s, J i s → ∃ items items2 : Array Value, s.heap.IsList l items ∧ s.heap.IsList b items2 ∧ items.size = N ∧ items2.size = N ∧ ∀ (h1 : i < items.size) (h2 : i < items2.size), wpAny (model prog w) A.in1 (eqBool items[i] items2[i]) (fun c s' => (∃ it it2 : Array Value, s'.heap.IsList l it ∧ s'.heap.IsList b it2 ∧ it.size = N ∧ it2.size = N) ∧ if c = true then J (i + 1) s' else Q (.bool true) s') E s)
    (hd : ∀ s, J N s → Q (.bool false) s) : wpAny (model prog w) A (richCompare .NotEq (.ref l) (.ref b)) Q E s := by
  obtain ⟨items, items2, ⟨⟨cls, dd, data, sl⟩, hl, hc, n, hd1⟩, ⟨⟨cls2, dd2, data2, sl2⟩, hb, hc2, n2, hd2⟩, z1, z2, _⟩ := ht 0 s h0
  simp only at hc hd1 hc2 hd2
  subst hc hd1 hc2 hd2
  have hT : s.TypeIs (.ref l) "list" := ⟨_, hl, rfl⟩
  have hT2 : s.TypeIs (.ref b) "list" := ⟨_, hb, rfl⟩
  have nn : ∀ c : Bool, Value.bool c ≠ Value.notImplemented := fun c x => nomatch x
  refine wpAny_richCompare_same_room hT hT2 F.slot_list_ne ?_ hu
  refine wpAny_call (codeAny_call_builtin F.slot_list_ne.plain F.entry_list_ne (F.slot_list_ne.check _ _ _ _ _ _ _ _ hT (F.args_list_ne_2 _ _) ?_))
  have main := N_loopG (prog := prog) (w := w) l b N A (wants (fun v s' => v ≠ .notImplemented ∧ Q v s') E) J (fun i s hJ => by
    obtain ⟨it, it2, a1, a2, a3, a4, a5⟩ := ht i s hJ
    exact ⟨it, it2, a1, a2, a3, a4, fun h1 h2 => wpAny_mono (a5 h1 h2) (fun c s' ⟨b1, b2⟩ => ⟨b1, by
      cases c with
      | true => exact b2
      | false => exact ⟨nn _, b2⟩⟩) fun _ _ x => x⟩) (fun s hJ => ⟨nn _, hd s hJ⟩) _ 0 s rfl (Nat.zero_le _) h0
  obtain ⟨hp, g, d, tk, os⟩ := s
  have f3 := AutoSeq1.sub_list_list
  have hne : ¬ (items.size != items2.size) = true := by simp [z1, z2]
  wp_walk using wpAny_loadPart' hl, wpAny_loadPart' hb
  exact ⟨plainId_quiet plain_eq_loop _, codeAny_builtin entry_eq_loop (by
    rw [Around.under_plainId plain_eq_loop _]
    exact main)⟩
theorem rc_tupY {l b : Addr} {items items2 : Array Value} {A : Around} {E : Value → Shared → Prop} {Q : Value → Shared → Prop} {s : Shared} (hu : A.units < cLine) (J : Nat → Shared → Prop) (h0 : J 0 s)
    (hl : s.heap.IsTuple l items) (hb : s.heap.IsTuple b items2)
    (ht : ∀ i (h1 : i < items.size) (h2 : i < items2.size) s, J i s → wpAny (model prog w) A.in1 (eqBool items[i] items2[i]) (fun c s' => if c = true then J (i + 1) s' else Q (.bool false) s') E s)
    (hd : ∀ s, J (min items.size items2.size) s → Q (.bool (items.size == items2.size)) s) : wpAny (model prog w) A (richCompare .Eq (.ref l) (.ref b)) Q E s := by
  obtain ⟨⟨cls, dd, data, sl⟩, hl, hc, n, hd1⟩ := hl
  obtain ⟨⟨cls2, dd2, data2, sl2⟩, hb, hc2, n2, hd2⟩ := hb
  simp only at hc hd1 hc2 hd2
  subst hc hd1 hc2 hd2
  have hT : s.TypeIs (.ref l) "tuple" := ⟨_, hl, rfl⟩
  have hT2 : s.TypeIs (.ref b) "tuple" := ⟨_, hb, rfl⟩
  have nn : ∀ c : Bool, Value.bool c ≠ Value.notImplemented := fun c x => nomatch x
  refine wpAny_richCompare_same_room hT hT2 F.slot_tuple_eq ?_ hu
  refine wpAny_call (codeAny_call_builtin F.slot_tuple_eq.plain F.entry_tuple_eq (F.slot_tuple_eq.check _ _ _ _ _ _ _ _ hT (F.args_tuple_eq_2 _ _) ?_))
  have f2 := AutoSeq1.sub_tuple_tuple
  have hZ : (items.toList.zip items2.toList).length = min items.size items2.size := by simp
  obtain ⟨hp, g, d, tk, os⟩ := s
  wp_walk using wpAny_loadPart' hl, wpAny_loadPart' hb, wpAny_forIn_list _ (fun rest b s' => b.1 = none ∧ ∃ i, rest = (items.toList.zip items2.toList).drop i ∧ i ≤ min items.size items2.size ∧ J i s') _
  case turn =>
    rintro ⟨y, x⟩ rest b s' ⟨hb', i, hz, hi, hJ⟩
    have hlt : i < (items.toList.zip items2.toList).length := by
      rcases Nat.lt_or_ge i (items.toList.zip items2.toList).length with h' | h'
      · exact h'
      · rw [List.drop_of_length_le h'] at hz; cases hz
    have hm : i < min items.size items2.size := hZ ▸ hlt
    have h1 : i < items.size := Nat.lt_of_lt_of_le hm (Nat.min_le_left _ _)
    have h2 : i < items2.size := Nat.lt_of_lt_of_le hm (Nat.min_le_right _ _)
    rw [List.drop_eq_getElem_cons hlt] at hz
    injection hz with hyx hrest
    have hy : y = items[i] := by have := congrArg Prod.fst hyx; simpa using this
    have hx : x = items2[i] := by have := congrArg Prod.snd hyx; simpa using this
    subst hy hx
    refine wpAny_bind (wpAny_mono (ht i h1 h2 s' hJ) (fun c s2 h => ?_) fun _ _ x => x)
    cases c with
    | true =>
      rw [if_pos rfl] at h
      wp_walk
      exact ⟨rfl, i + 1, hrest, hm, h⟩
    | false =>
      rw [if_neg (by decide)] at h
      wp_walk
      first | exact ⟨_, rfl, nn _, h⟩ | exact ⟨nn _, h⟩ | exact h
  case fin =>
    rintro ⟨b1, b2⟩ s' ⟨hb', i, hz, hi, hJ⟩
    simp only at hb'
    subst hb'
    have hge : min items.size items2.size ≤ i := by
      rcases Nat.lt_or_ge i (items.toList.zip items2.toList).length with h' | h'
      · rw [List.drop_eq_getElem_cons h'] at hz; cases hz
      · exact hZ ▸ h'
    have ei : i = min items.size items2.size := by omega
    have h := hd s' (ei ▸ hJ)
    wp_walk
    first | exact ⟨_, rfl, nn _, by simpa [Builtin.Tuple.tupleCompareSizes] using h⟩ | exact ⟨nn _, by simpa [Builtin.Tuple.tupleCompareSizes] using h⟩ | simpa [Builtin.Tuple.tupleCompareSizes] using h
  case h =>
    exact ⟨rfl, 0, rfl, Nat.zero_le _, h0⟩
theorem rc_tupN {l b : Addr} {items items2 : Array Value} {A : Around} {E : Value → Shared → Prop} {Q : Value → Shared → Prop} {s : Shared} (hu : A.units < cLine) (J : Nat → Shared → Prop) (h0 : J 0 s)
    (hl : s.heap.IsTuple l items) (hb : s.heap.IsTuple b items2)
    (ht : ∀ i (h1 : i < items.size) (h2 : i < items2.size) s, J i s → wpAny (model prog w) A.in1 (eqBool items[i] items2[i]) (fun c s' => if c = true then J (i + 1) s' else Q (.bool true) s') E s)
    (hd : ∀ s, J (min items.size items2.size) s → Q (.bool (items.size != items2.size)) s) : wpAny (model prog w) A (richCompare .NotEq (.ref l) (.ref b)) Q E s := by
  obtain ⟨⟨cls, dd, data, sl⟩, hl, hc, n, hd1⟩ := hl
  obtain ⟨⟨cls2, dd2, data2, sl2⟩, hb, hc2, n2, hd2⟩ := hb
  simp only at hc hd1 hc2 hd2
  subst hc hd1 hc2 hd2
  have hT : s.TypeIs (.ref l) "tuple" := ⟨_, hl, rfl⟩
  have hT2 : s.TypeIs (.ref b) "tuple" := ⟨_, hb, rfl⟩
  have nn : ∀ c : Bool, Value.bool c ≠ Value.notImplemented := fun c x => nomatch x
  refine wpAny_richCompare_same_room hT hT2 F.slot_tuple_ne ?_ hu
  refine wpAny_call (codeAny_call_builtin F.slot_tuple_ne.plain F.entry_tuple_ne (F.slot_tuple_ne.check _ _ _ _ _ _ _ _ hT (F.args_tuple_ne_2 _ _) ?_))
  have f2 := AutoSeq1.sub_tuple_tuple
  have hZ : (items.toList.zip items2.toList).length = min items.size items2.size := by simp
  obtain ⟨hp, g, d, tk, os⟩ := s
  wp_walk using wpAny_loadPart' hl, wpAny_loadPart' hb, wpAny_forIn_list _ (fun rest b s' => b.1 = none ∧ ∃ i, rest = (items.toList.zip items2.toList).drop i ∧ i ≤ min items.size items2.size ∧ J i s') _
  case turn =>
    rintro ⟨y, x⟩ rest b s' ⟨hb', i, hz, hi, hJ⟩
    have hlt : i < (items.toList.zip items2.toList).length := by
      rcases Nat.lt_or_ge i (items.toList.zip items2.toList).length with h' | h'
      · exact h'
      · rw [List.drop_of_length_le h'] at hz; cases hz
    have hm : i < min items.size items2.size := hZ ▸ hlt
    have h1 : i < items.size := Nat.lt_of_lt_of_le hm (Nat.min_le_left _ _)
    have h2 : i < items2.size := Nat.lt_of_lt_of_le hm (Nat.min_le_right _ _)
    rw [List.drop_eq_getElem_cons hlt] at hz
    injection hz with hyx hrest
    have hy : y = items[i] := by have := congrArg Prod.fst hyx; simpa using this
    have hx : x = items2[i] := by have := congrArg Prod.snd hyx; simpa using this
    subst hy hx
    refine wpAny_bind (wpAny_mono (ht i h1 h2 s' hJ) (fun c s2 h => ?_) fun _ _ x => x)
    cases c with
    | true =>
      rw [if_pos rfl] at h
      wp_walk
      exact ⟨rfl, i + 1, hrest, hm, h⟩
    | false =>
      rw [if_neg (by decide)] at h
      wp_walk
      first | exact ⟨_, rfl, nn _, h⟩ | exact ⟨nn _, h⟩ | exact h
  case fin =>
    rintro ⟨b1, b2⟩ s' ⟨hb', i, hz, hi, hJ⟩
    simp only at hb'
    subst hb'
    have hge : min items.size items2.size ≤ i := by
      rcases Nat.lt_or_ge i (items.toList.zip items2.toList).length with h' | h'
      · rw [List.drop_eq_getElem_cons h'] at hz; cases hz
      · exact hZ ▸ h'
    have ei : i = min items.size items2.size := by omega
    have h := hd s' (ei ▸ hJ)
    wp_walk
    first | exact ⟨_, rfl, nn _, by simpa [Builtin.Tuple.tupleCompareSizes] using h⟩ | exact ⟨nn _, by simpa [Builtin.Tuple.tupleCompareSizes] using h⟩ | simpa [Builtin.Tuple.tupleCompareSizes] using h
  case h =>
    exact ⟨rfl, 0, rfl, Nat.zero_le _, h0⟩
end



/-! ### the readings -/
def eqSs (e : R2) : List V → List V → Hp → VK → Prop
  | [], [], H, Q => Q (.bl true) H
  | x :: xs, y :: ys, H, Q => e x y H fun v H' => Same H H' ∧ ((v = .bl true ∧ eqSs e xs ys H' Q) ∨ (v = .bl false ∧ Q (.bl false) H'))
  | _, _, H, Q => Q (.bl false) H
def seqS (K : PySem.W.Frag) (e : R2) (a b : Addr) (H : Hp) (Q : VK) : Prop := ∃ xs ys, (SqT K H a xs ∧ SqT K H b ys ∧ eqSs e xs ys H Q) ∨ (SqL K H a xs ∧ SqL K H b ys ∧ ((xs.length ≠ ys.length ∧ Q (.bl false) H) ∨ (xs.length = ys.length ∧ eqSs e xs ys H Q)))
def eqS (K : PySem.W.Frag) (r : R2) : Nat → R2
  | 0 => fun _ _ _ _ => False
  | n + 1 => fun x y H Q => (∃ a, x = .ref a ∧ y = .ref a ∧ Q (.bl true) H) ∨ (scal x y = true ∧ (∀ b, x ≠ .byt b) ∧ Q (.bl (decide (x = y))) H) ∨ (∃ a b, x = .ref a ∧ y = .ref b ∧ a ≠ b ∧ seqS K (eqS K r n) a b H Q) ∨ (∃ a, x = .ref a ∧ y ≠ .ref a ∧ r x y H fun v H' => Same H H' ∧ ∃ c, v = .bl c ∧ Q v H')
/-- as items are compared -/
def EbR (X : Cx) (k : Nat) (e : R2) : Prop := ∀ (A : Around), Room k A → A.frames = X.A.frames → ∀ (pins : List (Addr × Obj)) (s : Shared) (σ : St) (H : Hp) (x y : V) (v u : Value) (Q : VK), Inv X pins σ H s → RelV x v → RelV y u → e x y H Q →
  wpAny (model X.prog X.w) A (eqBool v u) (fun c s' => ∃ H', Inv X pins σ H' s' ∧ Q (.bl c) H') X.xe s
def RcR (X : Cx) (k : Nat) (r : R2) : Prop := ∀ (A : Around), Room k A → A.frames = X.A.frames → ∀ (pins : List (Addr × Obj)) (s : Shared) (σ : St) (H : Hp) (x y : V) (v u : Value) (Q : VK), Inv X pins σ H s → RelV x v → RelV y u → r x y H Q →
  wpAny (model X.prog X.w) A (richCompare .Eq v u) (EP X pins σ Q) X.xe s
theorem eqSs_len {e : R2} : ∀ {xs ys : List V} {H : Hp} {Q : VK} (_ : xs = [] ∨ ys = []), eqSs e xs ys H Q → Q (.bl (xs.length == ys.length)) H
  | [], [], _, _, _, h => h
  | [], _ :: _, _, _, _, h => h
  | _ :: _, [], _, _, _, h => h
  | _ :: _, _ :: _, _, _, z, _ => by rcases z with z | z <;> cases z
section
variable {X : Cx} {k : Nat} {e r : R2}
theorem seq_rc (he : EbR X k e) {A : Around} (hr : Room (k + 1) A) (fr : A.frames = X.A.frames) {pins : List (Addr × Obj)} {s : Shared} {σ : St} {H : Hp} {a b : Addr} {Q : VK} (I : Inv X pins σ H s) (h : seqS X.K e a b H Q) :
    wpAny (model X.prog X.w) A (richCompare .Eq (.ref a) (.ref b)) (fun v s' => ∃ c H', v = .bool c ∧ Inv X pins σ H' s' ∧ Q (.bl c) H') X.xe s := by
  have hu : A.units < cLine := by have := hr.un; omega
  have hr1 : Room k A.in1 := hr.in1
  obtain ⟨xs, ys, ⟨ha, hb, h⟩ | ⟨ha, hb, ⟨hne, q⟩ | ⟨hl, h⟩⟩⟩ := h
  · obtain ⟨its, rv, pl, _⟩ := I.tuple ha
    obtain ⟨its2, rv2, pl2, _⟩ := I.tuple hb
    have l1 := rv.length
    have l2 := rv2.length
    refine rc_tupY hu (fun i s => ∃ H', Inv X pins σ H' s ∧ eqSs e (xs.drop i) (ys.drop i) H' Q) ⟨H, I, h⟩ pl pl2 (fun i h1 h2 s ⟨H', I', g⟩ => ?_) (fun s ⟨H', I', g⟩ => ?_)
    · have h1' : i < xs.length := by simpa [l1] using h1
      have h2' : i < ys.length := by simpa [l2] using h2
      rw [List.drop_eq_getElem_cons h1', List.drop_eq_getElem_cons h2'] at g
      obtain ⟨u1, e1, r1⟩ := rv.get (List.getElem?_eq_getElem h1')
      obtain ⟨u2, e2, r2⟩ := rv2.get (List.getElem?_eq_getElem h2')
      have q1 : its.toArray[i] = u1 := by simpa [List.getElem?_eq_getElem (show i < its.length by omega)] using e1
      have q2 : its2.toArray[i] = u2 := by simpa [List.getElem?_eq_getElem (show i < its2.length by omega)] using e2
      rw [q1, q2]
      unfold eqSs at g
      refine wpAny_mono (he A.in1 hr1 fr pins s σ H' _ _ u1 u2 _ I' r1 r2 g) (fun c s' z => ?_) fun _ _ x => x
      obtain ⟨H2, I2, sm, ⟨z, g2⟩ | ⟨z, q⟩⟩ := z
      · cases z
        rw [if_pos rfl]
        exact ⟨H2, I2, g2⟩
      · cases z
        rw [if_neg (by decide)]
        exact ⟨false, H2, rfl, I2, q⟩
    · have ez : (its.toArray.size == its2.toArray.size) = ((xs.drop (min its.toArray.size its2.toArray.size)).length == (ys.drop (min its.toArray.size its2.toArray.size)).length) := by
        simp only [List.size_toArray, List.length_drop, ← l1, ← l2]
        rw [Bool.eq_iff_iff]
        simp only [beq_iff_eq]
        omega
      rw [ez]
      refine ⟨_, H', rfl, I', eqSs_len ?_ g⟩
      simp only [List.size_toArray, ← l1, ← l2, List.drop_eq_nil_iff]
      omega
  · obtain ⟨its, rv, pl, _⟩ := I.list ha
    obtain ⟨its2, rv2, pl2, _⟩ := I.list hb
    have l1 := rv.length
    have l2 := rv2.length
    refine SeqAt.RcAt.lists_lengths (A := A) pl.isList pl2.isList ?_ hu X.prog X.w X.xe _ ⟨false, H, rfl, I, q⟩
    simp only [List.size_toArray, ← l1, ← l2]
    simpa using hne
  · refine rc_listY (N := xs.length) hu (fun i s => ∃ H', Inv X pins σ H' s ∧ SqL X.K H' a xs ∧ SqL X.K H' b ys ∧ eqSs e (xs.drop i) (ys.drop i) H' Q) ⟨H, I, ha, hb, h⟩ (fun i s ⟨H', I', ha', hb', g⟩ => ?_) (fun s ⟨H', I', _, _, g⟩ => ?_)
    · obtain ⟨its, rv, pl, _⟩ := I'.list ha'
      obtain ⟨its2, rv2, pl2, _⟩ := I'.list hb'
      have l1 := rv.length
      have l2 := rv2.length
      refine ⟨its.toArray, its2.toArray, pl.isList, pl2.isList, by simp [← l1], by simp [← l2, hl], fun h1 h2 => ?_⟩
      have h1' : i < xs.length := by simpa [l1] using h1
      have h2' : i < ys.length := by simpa [l2] using h2
      rw [List.drop_eq_getElem_cons h1', List.drop_eq_getElem_cons h2'] at g
      obtain ⟨u1, e1, r1⟩ := rv.get (List.getElem?_eq_getElem h1')
      obtain ⟨u2, e2, r2⟩ := rv2.get (List.getElem?_eq_getElem h2')
      have q1 : its.toArray[i] = u1 := by simpa [List.getElem?_eq_getElem (show i < its.length by omega)] using e1
      have q2 : its2.toArray[i] = u2 := by simpa [List.getElem?_eq_getElem (show i < its2.length by omega)] using e2
      rw [q1, q2]
      unfold eqSs at g
      refine wpAny_mono (he A.in1 hr1 fr pins s σ H' _ _ u1 u2 _ I' r1 r2 g) (fun c s' z => ?_) fun _ _ x => x
      obtain ⟨H2, I2, sm, z⟩ := z
      have ha2 := sm.seq ha'
      have hb2 := sm.seq hb'
      refine ⟨?_, ?_⟩
      · obtain ⟨jts, jv, pj, _⟩ := I2.list ha2
        obtain ⟨jts2, jv2, pj2, _⟩ := I2.list hb2
        exact ⟨jts.toArray, jts2.toArray, pj.isList, pj2.isList, by simp [← jv.length], by simp [← jv2.length, hl]⟩
      · rcases z with ⟨z, g2⟩ | ⟨z, q⟩
        · cases z
          rw [if_pos rfl]
          exact ⟨H2, I2, ha2, hb2, g2⟩
        · cases z
          rw [if_neg (by decide)]
          exact ⟨false, H2, rfl, I2, q⟩
    · rw [List.drop_of_length_le (Nat.le_refl _), List.drop_of_length_le (by omega)] at g
      exact ⟨true, H', rfl, I', g⟩
theorem seq_rcN (he : EbR X k e) {A : Around} (hr : Room (k + 1) A) (fr : A.frames = X.A.frames) {pins : List (Addr × Obj)} {s : Shared} {σ : St} {H : Hp} {a b : Addr} {Q : VK} (I : Inv X pins σ H s) (h : seqS X.K e a b H fun v H' => ∃ c, v = .bl c ∧ Q (.bl (!c)) H') :
    wpAny (model X.prog X.w) A (richCompare .NotEq (.ref a) (.ref b)) (fun v s' => ∃ c H', v = .bool c ∧ Inv X pins σ H' s' ∧ Q (.bl c) H') X.xe s := by
  have hu : A.units < cLine := by have := hr.un; omega
  have hr1 : Room k A.in1 := hr.in1
  obtain ⟨xs, ys, ⟨ha, hb, h⟩ | ⟨ha, hb, ⟨hne, q⟩ | ⟨hl, h⟩⟩⟩ := h
  · obtain ⟨its, rv, pl, _⟩ := I.tuple ha
    obtain ⟨its2, rv2, pl2, _⟩ := I.tuple hb
    have l1 := rv.length
    have l2 := rv2.length
    refine rc_tupN hu (fun i s => ∃ H', Inv X pins σ H' s ∧ eqSs e (xs.drop i) (ys.drop i) H' (fun v H' => ∃ c, v = .bl c ∧ Q (.bl (!c)) H')) ⟨H, I, h⟩ pl pl2 (fun i h1 h2 s ⟨H', I', g⟩ => ?_) (fun s ⟨H', I', g⟩ => ?_)
    · have h1' : i < xs.length := by simpa [l1] using h1
      have h2' : i < ys.length := by simpa [l2] using h2
      rw [List.drop_eq_getElem_cons h1', List.drop_eq_getElem_cons h2'] at g
      obtain ⟨u1, e1, r1⟩ := rv.get (List.getElem?_eq_getElem h1')
      obtain ⟨u2, e2, r2⟩ := rv2.get (List.getElem?_eq_getElem h2')
      have q1 : its.toArray[i] = u1 := by simpa [List.getElem?_eq_getElem (show i < its.length by omega)] using e1
      have q2 : its2.toArray[i] = u2 := by simpa [List.getElem?_eq_getElem (show i < its2.length by omega)] using e2
      rw [q1, q2]
      unfold eqSs at g
      refine wpAny_mono (he A.in1 hr1 fr pins s σ H' _ _ u1 u2 _ I' r1 r2 g) (fun c s' z => ?_) fun _ _ x => x
      obtain ⟨H2, I2, sm, ⟨z, g2⟩ | ⟨z, q⟩⟩ := z
      · cases z
        rw [if_pos rfl]
        exact ⟨H2, I2, g2⟩
      · cases z
        rw [if_neg (by decide)]
        obtain ⟨c, z, q⟩ := q; cases z; exact ⟨true, H2, rfl, I2, q⟩
    · have ez : (its.toArray.size != its2.toArray.size) = !((xs.drop (min its.toArray.size its2.toArray.size)).length == (ys.drop (min its.toArray.size its2.toArray.size)).length) := by
        simp only [List.size_toArray, List.length_drop, ← l1, ← l2]
        rw [Bool.eq_iff_iff]
        simp only [bne_iff_ne, Bool.not_eq_true', beq_eq_false_iff_ne, ne_eq]
        omega
      rw [ez]
      have g2 := eqSs_len (Q := fun v H' => ∃ c, v = .bl c ∧ Q (.bl (!c)) H') ?_ g
      · obtain ⟨c, z, q⟩ := g2
        injection z with z
        rw [z]
        exact ⟨_, H', rfl, I', q⟩
      simp only [List.size_toArray, ← l1, ← l2, List.drop_eq_nil_iff]
      omega
  · obtain ⟨its, rv, pl, _⟩ := I.list ha
    obtain ⟨its2, rv2, pl2, _⟩ := I.list hb
    have l1 := rv.length
    have l2 := rv2.length
    refine SeqAt.RcNeAt.lists_lengths (A := A) pl.isList pl2.isList ?_ hu X.prog X.w X.xe _ (by obtain ⟨c, z, q⟩ := q; cases z; exact ⟨true, H, rfl, I, q⟩)
    simp only [List.size_toArray, ← l1, ← l2]
    simpa using hne
  · refine rc_listN (N := xs.length) hu (fun i s => ∃ H', Inv X pins σ H' s ∧ SqL X.K H' a xs ∧ SqL X.K H' b ys ∧ eqSs e (xs.drop i) (ys.drop i) H' (fun v H' => ∃ c, v = .bl c ∧ Q (.bl (!c)) H')) ⟨H, I, ha, hb, h⟩ (fun i s ⟨H', I', ha', hb', g⟩ => ?_) (fun s ⟨H', I', _, _, g⟩ => ?_)
    · obtain ⟨its, rv, pl, _⟩ := I'.list ha'
      obtain ⟨its2, rv2, pl2, _⟩ := I'.list hb'
      have l1 := rv.length
      have l2 := rv2.length
      refine ⟨its.toArray, its2.toArray, pl.isList, pl2.isList, by simp [← l1], by simp [← l2, hl], fun h1 h2 => ?_⟩
      have h1' : i < xs.length := by simpa [l1] using h1
      have h2' : i < ys.length := by simpa [l2] using h2
      rw [List.drop_eq_getElem_cons h1', List.drop_eq_getElem_cons h2'] at g
      obtain ⟨u1, e1, r1⟩ := rv.get (List.getElem?_eq_getElem h1')
      obtain ⟨u2, e2, r2⟩ := rv2.get (List.getElem?_eq_getElem h2')
      have q1 : its.toArray[i] = u1 := by simpa [List.getElem?_eq_getElem (show i < its.length by omega)] using e1
      have q2 : its2.toArray[i] = u2 := by simpa [List.getElem?_eq_getElem (show i < its2.length by omega)] using e2
      rw [q1, q2]
      unfold eqSs at g
      refine wpAny_mono (he A.in1 hr1 fr pins s σ H' _ _ u1 u2 _ I' r1 r2 g) (fun c s' z => ?_) fun _ _ x => x
      obtain ⟨H2, I2, sm, z⟩ := z
      have ha2 := sm.seq ha'
      have hb2 := sm.seq hb'
      refine ⟨?_, ?_⟩
      · obtain ⟨jts, jv, pj, _⟩ := I2.list ha2
        obtain ⟨jts2, jv2, pj2, _⟩ := I2.list hb2
        exact ⟨jts.toArray, jts2.toArray, pj.isList, pj2.isList, by simp [← jv.length], by simp [← jv2.length, hl]⟩
      · rcases z with ⟨z, g2⟩ | ⟨z, q⟩
        · cases z
          rw [if_pos rfl]
          exact ⟨H2, I2, ha2, hb2, g2⟩
        · cases z
          rw [if_neg (by decide)]
          obtain ⟨c, z, q⟩ := q; cases z; exact ⟨true, H2, rfl, I2, q⟩
    · rw [List.drop_of_length_le (Nat.le_refl _), List.drop_of_length_le (by omega)] at g
      obtain ⟨c, z, q⟩ := g; cases z; exact ⟨false, H', rfl, I', q⟩
theorem scal_eb {A : Around} {s : Shared} {x y : V} {v u : Value} (rx : RelV x v) (ry : RelV y u) (h : scal x y = true) (hb : ∀ b, x ≠ .byt b) : SeqAt.EqAt A s v u (decide (x = y)) := by
  have nd : ∀ {p q : V}, p ≠ q → decide (p = q) = false := fun n => decide_eq_false n
  cases x with
  | non =>
    obtain rfl : v = Value.none := rx
    cases y with
    | non => obtain rfl : u = Value.none := ry; rw [decide_eq_true rfl]; exact SeqAt.EqAt.same _
    | bl q => obtain rfl : u = Value.bool q := ry; rw [nd (fun z => by cases z)]; exact SeqAt.EqAt.none_bool _
    | int q => obtain ⟨t2, rfl⟩ : ∃ t, u = Value.int q t := ry; rw [nd (fun z => by cases z)]; exact SeqAt.EqAt.none_int _ _
    | str q => obtain ⟨t2, rfl⟩ : ∃ t, u = Value.str q t := ry; rw [nd (fun z => by cases z)]; exact SeqAt.EqAt.none_str _ _
    | _ => cases h
  | bl p =>
    obtain rfl : v = Value.bool p := rx
    cases y with
    | non => obtain rfl : u = Value.none := ry; rw [nd (fun z => by cases z)]; exact SeqAt.EqAt.bool_none _
    | bl q => obtain rfl : u = Value.bool q := ry; rw [show decide (V.bl p = V.bl q) = (p == q) from by cases p <;> cases q <;> rfl]; exact SeqAt.EqAt.bool_bool _ _
    | int q => cases h
    | str q => obtain ⟨t2, rfl⟩ : ∃ t, u = Value.str q t := ry; rw [nd (fun z => by cases z)]; exact SeqAt.EqAt.bool_str _ _ _
    | _ => cases h
  | int p =>
    obtain ⟨t1, rfl⟩ : ∃ t, v = Value.int p t := rx
    cases y with
    | non => obtain rfl : u = Value.none := ry; rw [nd (fun z => by cases z)]; exact SeqAt.EqAt.int_none _ _
    | bl q => cases h
    | int q => obtain ⟨t2, rfl⟩ : ∃ t, u = Value.int q t := ry; rw [dec_int]; exact SeqAt.EqAt.int_int _ _ _ _
    | str q => obtain ⟨t2, rfl⟩ : ∃ t, u = Value.str q t := ry; rw [nd (fun z => by cases z)]; exact SeqAt.EqAt.int_str _ _ _ _
    | _ => cases h
  | str p =>
    obtain ⟨t1, rfl⟩ : ∃ t, v = Value.str p t := rx
    cases y with
    | non => obtain rfl : u = Value.none := ry; rw [nd (fun z => by cases z)]; exact SeqAt.EqAt.str_none _ _
    | bl q => obtain rfl : u = Value.bool q := ry; rw [nd (fun z => by cases z)]; exact SeqAt.EqAt.str_bool _ _ _
    | int q => obtain ⟨t2, rfl⟩ : ∃ t, u = Value.int q t := ry; rw [nd (fun z => by cases z)]; exact SeqAt.EqAt.str_int _ _ _ _
    | str q => obtain ⟨t2, rfl⟩ : ∃ t, u = Value.str q t := ry; rw [show decide (V.str p = V.str q) = (p == q) from by rw [Bool.eq_iff_iff, decide_eq_true_iff, beq_iff_eq, V.str.injEq]]; exact SeqAt.EqAt.str_str _ _ _ _
    | _ => cases h
  | byt b => exact absurd rfl (hb b)
  | _ => cases y <;> cases h
theorem eqS_ok (hr : RcR X k r) : ∀ n, EbR X (k + n) (eqS X.K r n)
  | 0 => fun A room fr pins s σ H x y v u Q I rx ry h => h.elim
  | n + 1 => fun A room fr pins s σ H x y v u Q I rx ry h => by
    unfold eqS at h
    rcases h with ⟨a, rfl, rfl, q⟩ | ⟨hs, hb, q⟩ | ⟨a, b, rfl, rfl, hne, g⟩ | ⟨a, rfl, hne, g⟩
    · cases rx
      cases ry
      exact SeqAt.EqAt.same (A := A) (s := s) (.ref a) X.prog X.w X.xe _ ⟨H, I, q⟩
    · exact scal_eb rx ry hs hb X.prog X.w X.xe _ ⟨H, I, q⟩
    · cases rx
      cases ry
      unfold eqBool
      refine wpAny_holding ?_
      refine wpAny_ite_split (fun hab => absurd (by have := eq_of_beq hab; injection this) hne) (fun _ => ?_)
      refine wpAny_bind (wpAny_mono (seq_rc (eqS_ok hr n) room fr I g) (fun v s' z => ?_) fun _ _ x => x)
      obtain ⟨c, H', rfl, I', q⟩ := z
      exact wpAny_truthy_bool ⟨H', I', q⟩
    · cases rx
      unfold eqBool
      refine wpAny_holding ?_
      refine wpAny_ite_split (fun hab => absurd (by
        have e := eq_of_beq hab
        subst e
        cases y with
        | ref b => have z : Value.ref a = Value.ref b := ry; injection z with z; rw [z]
        | _ => first | (obtain ⟨t, z⟩ := ry; cases z) | cases ry) hne) (fun _ => ?_)
      refine wpAny_bind (wpAny_mono (hr A (room.mono (by omega)) fr pins s σ H (.ref a) y (.ref a) u _ I rfl ry g) (fun v s' z => ?_) fun _ _ x => x)
      obtain ⟨v', H', I', rv, sm, c, rfl, q⟩ := z
      cases rv
      exact wpAny_truthy_bool ⟨H', I', q⟩
/-- x == y, x and y two lists, or two tuples -/
def rEqN (K : PySem.W.Frag) (r : R2) (n : Nat) : R2 := fun x y H Q => ∃ a b, x = .ref a ∧ y = .ref b ∧ seqS K (eqS K r n) a b H Q
theorem op_eqN {n : Nat} (h : RcR X k r) (hr : Room (k + n + 1) X.A) : OpR X (compareOp .Eq) (rEqN X.K r n) := fun pins s σ H x y v u Q I rx ry q => by
  obtain ⟨a, b, rfl, rfl, g⟩ := q
  cases rx
  cases ry
  refine wpAny_mono (seq_rc (eqS_ok h n) hr rfl I g) (fun v s' z => ?_) fun _ _ x => x
  obtain ⟨c, H', rfl, I', q⟩ := z
  exact ⟨.bl c, H', I', rfl, q⟩
def rNeN (K : PySem.W.Frag) (r : R2) (n : Nat) : R2 := fun x y H Q => ∃ a b, x = .ref a ∧ y = .ref b ∧ seqS K (eqS K r n) a b H fun v H' => ∃ c, v = .bl c ∧ Q (.bl (!c)) H'
theorem op_neN {n : Nat} (h : RcR X k r) (hr : Room (k + n + 1) X.A) : OpR X (compareOp .NotEq) (rNeN X.K r n) := fun pins s σ H x y v u Q I rx ry q => by
  obtain ⟨a, b, rfl, rfl, g⟩ := q
  cases rx
  cases ry
  refine wpAny_mono (seq_rcN (eqS_ok h n) hr rfl I g) (fun v s' z => ?_) fun _ _ x => x
  obtain ⟨c, H', rfl, I', q⟩ := z
  exact ⟨.bl c, H', I', rfl, q⟩
/-- a list != [] -/
def rNeNil : R2 := fun x y H Q => ∃ a b xs ys, x = .ref a ∧ y = .ref b ∧ H a = some (.lst xs) ∧ H b = some (.lst ys) ∧ ys = [] ∧ Q (.bl (!xs.isEmpty)) H
theorem op_neNil (hu : X.A.units + 64 < cLine) : OpR X (compareOp .NotEq) rNeNil := fun pins s σ H x y v u Q I rx ry h => by
  obtain ⟨a, b, xs, ys, rfl, rfl, ha, hb, rfl, q⟩ := h
  cases rx
  cases ry
  obtain ⟨its, r, pl, hz⟩ := I.list (SqL.of ha)
  obtain ⟨its2, r2, pl2, hz2⟩ := I.list (SqL.of hb)
  have hl := r.length
  have hl2 := r2.length
  have hu' : X.A.units < cLine := by omega
  cases xs with
  | nil =>
    have e1 : its = [] := List.eq_nil_of_length_eq_zero hl.symm
    have e2 : its2 = [] := List.eq_nil_of_length_eq_zero hl2.symm
    subst e1 e2
    exact SeqAt.RcNeAt.lists (e := fun _ => true) pl.isList pl2.isList rfl hu' (fun j h1 _ => absurd h1 (by simp)) X.prog X.w X.xe _ ⟨.bl false, H, I, rfl, q⟩
  | cons x r' =>
    refine SeqAt.RcNeAt.lists_lengths pl.isList pl2.isList ?_ hu' X.prog X.w X.xe _ ⟨.bl true, H, I, rfl, q⟩
    simp only [List.size_toArray, ← hl, ← hl2, List.length_cons, List.length_nil]
    simp
theorem rc_own {CX : CXT} {C f : Addr} {fd : FuncData} {ps : List Str} {sp : Sp} {E : XK} (O : CmF X.K C f .Eq) (F : FnOk X.prog X.w X.K X.mg X.base CX k f fd ps sp) (hb : Binds X.K fd ps []) (hx : Passes CX X E) : RcR X k (rOwnA X.K C sp E) := fun A hr fr pins s σ H x y v u Q I rx ry h => by
  obtain ⟨a, dx, fs, t, rfl, ha, hy, hn, q⟩ := h
  cases rx
  obtain ⟨mA, J, _⟩ := ins_get I.hok ha
  obtain ⟨od, J, _⟩ := J.look
  obtain ⟨m, hF⟩ := I.fr
  refine PySem.W.cmp_K hr.units0 hF I.ok.mod.kin J (looksTy I ry hy) hn O.hs O.hf ?_
  exact thn (run_fnA (vs := [.ref a, y]) hr fr F hb hx I (.cons rfl (.cons ry .nil)) q) fun _ _ z => cmpBack_of z
end



/-! ### C.m(..) of a classmethod, cls(..) of a class kept in a name -/
theorem FnOk.rr {P : Program} {w : World} {K : PySem.W.Frag} {mg : Str → Option Value} {base : Heap} {CX : CXT} {k : Nat} {f : Addr} {fd : FuncData} {ps : List Str} {sp : Sp} (F : FnOk P w K mg base CX k f fd ps sp) (hb : Binds K fd ps []) : FnR P w K mg base CX k f sp := (F.raw hb .nil).imp fun vs H Q E h => by rw [List.append_nil]; exact h
section
open PySem.Spec PyProof.Rows
variable {X : Cx} {CX : CXT} {k : Nat} {C p g f : Addr} {fd : FuncData} {ps : List Str} {mc : Value} {sp : Sp} {E : XK} {o e fe : Expr} {es : List Expr} {m : Str} {pos apos : Pos} {ta tf : TE} {t : TA} {pl : Sem Bool} {ds : List Value} {dvs : List V}
theorem pe_cmeth0 (he : PE X o ta) (r : ClX.CRead X.K C mc) (c : ClX.CMet X.K C mc m p g) (F : FnR X.prog X.w X.K X.mg X.base CX k g sp) (hr : Room k X.A) (hx : Passes CX X E)
    (ht : eval (.Call (.Attribute o m apos) [] [] pos) X.env = (do
      let ov ← eval o X.env
      standAt apos.atName
      let (f, first) ← holding [ov] (getMethod ov m pl)
      callWith pos f first (backTo pos (starEach [] X.env)) (backToKw pos (keywordEach [] X.env))) := by rfl) :
    PE X (.Call (.Attribute o m apos) [] [] pos) (ClX.tCMeth C sp E ta tNil) := by
  refine ⟨fun pins s σ H Q I h => ?_⟩
  refine PySem.W.methodCall_KW (pl := pl) (thn (he.run pins s σ H _ I h) fun u s1 ⟨x, H1, I1, rx, ex, q⟩ => ?_) ht
  subst ex
  obtain rfl : u = Value.ref C := rx
  refine ClX.getmethcm_ok I1 r c fun s2 I2 => ?_
  refine PySem.W.callWith_M0 (first := []) ⟨ClX.pin_at I2, I2.kIn⟩ c.fi ?_
  exact ClX.run_cm F hr hx I2 .nil q
def tMakeV (C : Addr) (sp : Sp) (dvs : List V) (E : XK) (tf : TE) (t : TA) : TE := fun σ H Q => tf σ H fun y H1 => y = V.ref C ∧ tMake C sp dvs E t σ H1 Q
theorem pe_makeV (hf : PE X fe tf) (M : Mk X.K C f) (F : FnOk X.prog X.w X.K X.mg X.base CX k f fd ps sp) (hr : Room (k + 1) X.A) (hb : Binds X.K fd ps ds) (hd : Vals dvs ds) (hx : Passes CX X E) (ha : PA X (e :: es) t)
    (ht : eval (.Call fe (e :: es) [] pos) X.env = (do callWith pos (← eval fe X.env) [] (backTo pos (starEach (e :: es) X.env)) (backToKw pos (keywordEach [] X.env))) := by rfl)
    (he : starEach (e :: es) X.env = (false, eval e X.env) :: starEach es X.env := by rfl) (hpl : (backTo pos (starEach es X.env)).any (·.1) = false := by rfl) : PE X (.Call fe (e :: es) [] pos) (tMakeV C sp dvs E tf t) := by
  refine ⟨fun pins s σ H Q I h => ?_⟩
  refine Call_ (thn (hf.run pins s σ H _ I h) fun u s1 ⟨y, H1, I1, ry, ey, q⟩ => ?_) ht
  subst ey
  obtain rfl : u = Value.ref C := ry
  refine PySem.W.callWith_K (h₀ := X.base) (first := []) I1.ok.mod.kin M.kp (thn (ha.run pos pins s1 σ H1 _ I1 q) fun us s2 ⟨vs, H2, I2, r, q2⟩ => ⟨I2.kIn, ?_⟩) he hpl
  exact run_make M F hr hb hd hx I2 r q2
end



/-! ### list(o) of an own class with __iter__ (iter of a list) and __len__ -/
section
open PyProof.Rows
variable {X : Cx}
section
variable {k : Nat} {f : Addr} {fd : FuncData} {ps : List Str} {sp : Sp} {E : XK}
theorem run_fn0 {pins : List (Addr × Obj)} {σ : L2.St} {H : Hp} {s : Shared} {Q : VK} {us : List Value} {vs : List V} {A : Around} {Er : Value → Shared → Prop} (room : Room k A) (fr : A.frames = X.A.frames) (F : FnOk X.prog X.w X.K X.mg X.base CX0 k f fd ps sp) (hb : Binds X.K fd ps [])
    (I : Inv X pins σ H s) (r : Vals vs us) (h : sp vs H Q E) : wpAny (model X.prog X.w) A (call (.ref f) us) (EP X pins σ Q) Er s := by
  have e0 : Env0 X.prog X.w X.K X.mg X.base A X.stack s H := by
    have e := I.env0
    exact ⟨by rw [fr]; exact e.frames, e.mod, e.bs, e.bsz, e.funs, e.frf, e.hok, e.bare⟩
  have hl : us.length = ps.length := by rw [← r.length]; exact F.len _ _ _ _ h
  refine wpAny_call (codeAny_mono (F.run A X.stack s H ⟨us, []⟩ us vs Q E room e0 (by
    have := hb s us I.kIn (by simpa using hl)
    simpa using this) r h) fun r s' hq => ?_)
  cases r with
  | error e => exact False.elim hq
  | ok fl =>
    cases fl with
    | ret u => exact I.after hq
    | next => exact False.elim hq
    | brk => exact False.elim hq
    | cont => exact False.elim hq
end
section
variable {pins : List (Addr × Obj)} {σ : L2.St} {H : Hp} {s : Shared} {h' : Heap}
/-- records of ours have turned, a list has been written -/
theorem turnW {t' : Nat} {ch : List Addr} {S : Addr} {xs ys : List V} (I : Inv X pins σ H s) (hS : H S = some (.lst xs)) (k : ∀ b o, b ∉ ch → b ≠ S → s.heap.get? b = some o → h'.get? b = some o) (hf : ∀ b ∈ ch, FpOk X pins H b) (heo : ∃ u, h'.get? S = some u)
    (new : ObjOk X.prog X.w (upd H S (.lst ys)) h' S (.lst ys)) : Inv X pins σ (upd H S (.lst ys)) { s with heap := h', toks := t' } := by
  have nit : ∀ b u, H b = some u → b ∉ ch := fun b u e z => by
    have q := (hf b z).1
    rw [q] at e; cases e
  have nS : ∀ {b : Addr}, H b = none → b ≠ S := fun e z => by rw [z, hS] at e; cases e
  have nS2 : ∀ {b : Addr} {u : HO}, H b = some u → (∀ zs, u ≠ .lst zs) → b ≠ S := fun e n z => by rw [z, hS] at e; exact n _ (Option.some.inj e).symm
  refine I.step (g' := s.gens) (d' := s.drawn) (ch := ch) (fun b hb => ⟨(hf b hb).2.2.2.1, (hf b hb).2.1, (hf b hb).2.2.2.2.1, (hf b hb).2.2.2.2.2⟩) (fun b o _ _ hc e n => k b o hc (nS n) e) (fun b o _ _ hc e n => ⟨o.slots, k b o hc (nS n) e⟩)
    (fun b o _ e n => by rw [upd_ne (nS n)]; exact n) (fun b o hc e => ?_) (fun b xs e => by rw [upd_ne (nS2 e (fun zs z => by cases z))]; exact e) (fun b o u e => by rw [upd_ne (nS2 e (fun zs z => by cases z))]; exact e)
    (fun b ps e => ⟨#[], by rw [upd_ne (nS2 e (fun zs z => by cases z)), e]; simp⟩) (fun m hm => ?_) (fun b u e => ?_) I.bare
  · by_cases hb : b = S
    · rw [hb]; exact heo
    · exact ⟨o, k b o hc hb e⟩
  · obtain ⟨o, es, ep, ho, r⟩ := hm
    exact ⟨o, es, ep, k _ o (fun z => (hf _ z).2.1 rfl) (nS I.free) ho, r⟩
  · by_cases hb : b = S
    · subst hb
      rw [upd_same] at e
      cases e
      exact new
    · rw [upd_ne hb] at e
      refine (I.hok b u e).stay (fun c v hc q => k c v ?_ ?_ q) (fun c q => ?_) fun c xs q => ?_
      · rcases hc with z | z
        · rw [z]; exact nit b u e
        · exact nit c _ z
      · rcases hc with z | z
        · rw [z]; exact hb
        · exact nS2 z (fun zs z => by cases z)
      · rw [upd_ne (nS2 q (fun zs z => by cases z))]; exact q
      · rw [upd_ne (nS2 q (fun zs z => by cases z))]; exact q
end
variable {k k2 : Nat} {C f f2 : Addr} {fd fd2 : FuncData} {ps ps2 : List Str} {sp sp2 : Sp} {E E2 : XK}
def rListIt (n : Nat) (C : Addr) (sp sp2 : Sp) (E E2 : XK) : List V → Hp → VK → Prop := fun vs H Q => ∃ a dx fs, vs = [.ref a] ∧ H a = some (.ins C dx fs) ∧ ∀ S, H S = none → n ≤ S →
  sp [.ref a] (upd H S (.lst [])) (fun v H2 => ∃ it l xs dx2 fs2, v = .ref it ∧ n ≤ it ∧ l ≠ S ∧ H2 it = some (ItO l it 0) ∧ H2 S = some (.lst []) ∧ H2 a = some (.ins C dx2 fs2) ∧ xs.length ≤ 100000 ∧
    sp2 [.ref a] H2 (fun v H3 => ∃ m : Nat, v = .int (m : Int) ∧ m ≤ 1000000 ∧ H3 it = some (ItO l it 0) ∧ H3 l = some (.lst xs) ∧ H3 S = some (.lst []) ∧ Q (.ref S) (upd (ItX.dropH H3 it) S (.lst xs))) E2) E
theorem call_listIt (O : UnF X.K C f "__iter__") (F : FnOk X.prog X.w X.K X.mg X.base CX0 k f fd ps sp) (hr : Room (k + 2) X.A) (hb : Binds X.K fd ps []) (O2 : UnF X.K C f2 "__len__") (F2 : FnOk X.prog X.w X.K X.mg X.base CX0 k2 f2 fd2 ps2 sp2) (hr2 : Room (k2 + 3) X.A) (hb2 : Binds X.K fd2 ps2 []) (hc : X.calm = true) :
    CallR X (.type "list") (rListIt X.s_0.heap.objs.size C sp sp2 E E2) := by
  intro pins s σ H xs us Q I r h
  have hh := I.ok.hd hc
  obtain ⟨a, dx, fs, rfl, ha, q⟩ := h
  obtain ⟨u, rfl, rx⟩ := vals1 r
  cases rx
  have nS := I.hok.fresh (Nat.le_refl s.heap.objs.size)
  have q := q _ nS I.sz
  refine callType_codes (Q₁ := fun obj s₁ => obj = .ref s.heap.objs.size ∧ s₁ = { s with heap := s.heap.push { cls := .type "list", data := .seq #[] } }) PySem.F.called_list (PySem.F.typeCall_list_1 _) PySem.F.entry_list_init
    (code_list_new _ ⟨rfl, rfl⟩) fun obj s₁ h₁ => ?_
  obtain ⟨rfl, rfl⟩ := h₁
  have hSz : a ≠ s.heap.objs.size := fun z => by rw [z, nS] at ha; cases ha
  have hS : (s.heap.push { cls := .type "list", data := .seq #[] }).get? s.heap.objs.size = some { cls := .type "list", data := .seq #[] } := Heap.get?_push_size _ rfl
  have I1 : Inv X pins σ (upd H s.heap.objs.size (.lst [])) { s with heap := s.heap.push { cls := .type "list", data := .seq #[] } } := I.laid (t' := s.toks) (fun b u e => Heap.get?_push_of_some _ e) (Nat.le_refl _) ⟨Nat.zero_le _, [], 0, .nil, hS⟩
  generalize s.heap.objs.size = S at *
  generalize hs1 : ({ s with heap := s.heap.push { cls := .type "list", data := .seq #[] } } : Shared) = s1 at *
  have hS1 : s1.heap.get? S = some { cls := .type "list", data := .seq #[] } := by rw [← hs1]; exact hS
  have q : sp [.ref a] (upd H S (.lst [])) _ E := q
  have ha1 : upd H S (.lst []) a = some (.ins C dx fs) := by rw [upd_ne hSz]; exact ha
  have hS1' : upd H S (.lst []) S = some (.lst []) := upd_same
  generalize upd H S (.lst []) = H1 at q I1 ha1 hS1'
  refine ⟨⟨_, hS1, rfl⟩, PySem.F.args_list_init_2 _ _, ?_⟩
  show wpAny _ _ (do let old ← Builtin.List.listItems (.ref S); Builtin.List.listUpdate (.ref S) (fun _ => #[]); letGo old.toList.reverse; Builtin.List.listExtendWith (.ref S) (.ref a) .none) _ _ _
  refine wpAny_bind ?_
  unfold Builtin.List.listItems
  refine wpAny_bind (wpAny_seqItems hS1 rfl (wpAny_pure ?_))
  show wpAny _ _ (updateSeq S (fun _ => #[]) >>= fun _ => letGo (#[] : Array Value).toList.reverse >>= fun _ => Builtin.List.listExtendWith (.ref S) (.ref a) .none) _ _ _
  refine wpAny_bind (wpAny_updateSeq hS1 rfl ?_)
  have hS2 := Heap.get?_update_self (Obj.mapSeq (fun _ => (#[] : Array Value))) hS1 rfl
  refine wpAny_bind (wpAny_letGo ?_)
  have wr : ∀ {s' : Shared} {H' : Hp} {zs : List V} {fo : Obj → Obj} {o : Obj} {c : Nat}, Inv X pins σ H' s' → H' S = some (.lst zs) → s'.heap.get? S = some o → (s'.heap.update S fo).get? S = some { cls := .type "list", data := .seq #[] c } → Inv X pins σ (upd H' S (.lst [])) { s' with heap := s'.heap.update S fo } := fun {s' H' zs fo o c} J hz _ e =>
    J.write (t' := s'.toks) (x := S) (e := S) (by rw [hz]; trivial) (.inl rfl) (fun b u nb e => (Heap.get?_update_other _ _ (Ne.symm nb)).trans e) ⟨_, e⟩ ⟨Nat.zero_le _, [], c, .nil, e⟩
  have eH : ∀ {H' : Hp}, H' S = some (.lst []) → upd H' S (.lst []) = H' := fun {H'} e => by
    funext b
    by_cases hb : b = S
    · rw [hb, upd_same, e]
    · rw [upd_ne hb]
  have I2 := wr I1 hS1' hS1 hS2
  rw [eH hS1'] at I2
  generalize hs2 : ({ s1 with heap := s1.heap.update S (Obj.mapSeq fun _ => #[]) } : Shared) = s2 at *
  obtain ⟨mA, J, _⟩ := ins_get I2.hok ha1
  obtain ⟨od, J, _⟩ := J.look
  obtain ⟨m, hF⟩ := I2.fr
  unfold Builtin.List.listExtendWith
  refine wpAny_bind (J.type.here ?_)
  have h1 : Builtin.List.listSameRef (.ref S) (.ref a) = false := by simp [Builtin.List.listSameRef, hSz.symm]
  have h2 : (Value.ref C == Value.type "list") = false := by simp
  have h3 : (Value.ref C == Value.type "tuple") = false := by simp
  simp only [h1, h2, h3, Bool.or_false, Bool.false_eq_true, if_false]
  refine wpAny_bind (PySem.W.owit_iter hF I2.ok.mod.kin J O.hs O.hf ?_)
  refine wpAny_mono (run_fn0 (vs := [.ref a]) (X := X) (room_in1 (room_in1 hr)) rfl F hb I2 (.cons rfl .nil) q) (fun u3 s3 hz => ?_) fun _ _ z => z
  obtain ⟨v3, H3, I3, r3, it, l, zs, dx2, fs2, rfl, hn3, hlS, hi3, hS3, ha3, hl3, q3⟩ := hz
  cases r3
  have eo := itO_get I3 hi3
  have hT : s3.TypeIs (.ref it) "list_iterator" := ⟨_, eo, rfl⟩
  show wpAny _ _ (specialOf (.ref it) "__next__") _ _ _
  refine wpAny_specialOf hT PySem.slot_listiter_next.lookup ?_
  show wpAny _ _ (holding [.ref it] (Builtin.List.listLengthHint (.ref a)) >>= _) _ _ _
  obtain ⟨mA3, J3, _⟩ := ins_get I3.hok ha3
  obtain ⟨od3, J3, _⟩ := J3.look
  obtain ⟨m3, hF3⟩ := I3.fr
  have X3 := I3.kIn
  refine wpAny_bind (wpAny_holding ?_)
  unfold Builtin.List.listLengthHint
  refine wpAny_bind (wpAny_bind (J3.type.here ((PySem.W.looks_findIn X3 O2.hs).here ?_)))
  refine wpAny_ite_split (fun z => absurd z (show ¬ (false = true) from Bool.false_ne_true)) (fun _ => ?_)
  refine wpAny_ite_split (fun _ => ?_) (fun z => absurd rfl z)
  refine wpAny_bind (wpAny_rule ?_)
  refine wpAny_bind (wpAny_attempt ?_)
  refine PySem.W.len_K hF3 I3.ok.mod.kin J3 O2.hs O2.hf ?_
  refine wpAny_mono (run_fn0 (vs := [.ref a]) (X := X) (room_in1 (room_in1 (room_in1 hr2))) rfl F2 hb2 I3 (.cons rfl .nil) q3) (fun u4 s4 hz => ?_) fun _ _ z => z
  obtain ⟨v4, H4, I4, r4, n, rfl, hn4, hi4, hl4, hS4, q4⟩ := hz
  obtain ⟨t4, rfl⟩ := r4
  refine ⟨⟨by omega, by omega⟩, ?_⟩
  show wpAny _ _ (asInt? (Value.int (n : Int) s4.toks) >>= _) _ _ _
  refine wpAny_bind (m := asInt? _) (wpAny_pure ?_)
  have tl : ¬ Builtin.List.listTooLong (n : Int).toNat = true := by
    unfold Builtin.List.listTooLong
    simp only [Int.toNat_natCast, decide_eq_true_eq]
    have : 1000000 ≤ sizeLine := by decide
    omega
  refine wpAny_ite_split (fun z => absurd z tl) (fun _ => wpAny_pure ?_)
  have itS : it ≠ S := fun z => by
    rw [z, hS4] at hi4
    unfold ItO at hi4
    cases hi4
  have itl : l ≠ it := fun z => by
    rw [z] at hl4
    rw [hi4] at hl4
    unfold ItO at hl4
    cases hl4
  have key : ∀ (s5 : Shared) (c : Nat), Inv X pins σ H4 s5 → s5.heap.get? S = some { cls := .type "list", data := .seq #[] c } →
      codeAny (model X.prog X.w) X.A.in1 (.builtin "list.extend.loop" ⟨[.ref S, .ref it, .none], []⟩) (wants (fun r s₂ => r = Value.none ∧ EP X pins σ Q (Value.ref S) s₂) X.xe) s5 := by
    intro s5 c I5 hS5
    obtain ⟨its, rv, pl, hz⟩ := I5.list (SqL.of hl4)
    have eo5 := itO_get I5 hi4
    have st : s5.heap.IsListIter it l 0 := ⟨_, eo5, rfl, rfl⟩
    have W := Walks.list (prog := X.prog) (w := X.w) (A := X.A.in1.in1) hh it l itl its.toArray
    have hSf : S ∉ [it, l] := by
      simp only [List.mem_cons, List.not_mem_nil, or_false, not_or]
      exact ⟨itS.symm, hlS.symm⟩
    have hlen := rv.length
    refine codeAny_extend_loopS W.toS (by rw [List.size_toArray, ← hlen]; exact hz) S hSf .none _ 0 _ #[] c rfl (Nat.zero_le _) ⟨st, pl.isList⟩ hS5 (ItemsOf.nil _) fun s' acc' c' hm hS' hacc => ?_
    have ea : acc' = its.toArray := by
      refine Array.ext (by rw [hacc.1]) fun j h1 h2 => ?_
      have : its.toArray[j]? = some acc'[j] := hacc.2 j acc'[j] (by simp [h1])
      rw [Array.getElem?_eq_getElem h2] at this
      exact (Option.some.inj this).symm
    subst ea
    have I6 := ItX.inv_drop I5 (show H4 it = some (.ext _) from hi4)
    have hS6 : ItX.dropH H4 it S = some (.lst []) := by rw [ItX.dropH_ne itS.symm]; exact hS4
    have J6 := turnW (t' := s'.toks) (h' := s'.heap) (ys := zs) (ch := [it]) I6 hS6 (fun b o h1 h2 e => hm.heap b o (by
      simp only [List.mem_cons, List.not_mem_nil, or_false, not_or] at h1 ⊢
      exact ⟨h2, h1⟩) e) (fun b hb => by rw [List.mem_singleton.mp hb]; exact ItX.inv_fp I5 hi4 hn3) ⟨_, hS'⟩ ⟨hz, its, c', rv, hS'⟩
    have es : s' = { s5 with heap := s'.heap, toks := s'.toks } := Moved.eq_with hm
    rw [es]
    exact ⟨rfl, .ref S, _, J6, rfl, q4⟩
  have I4t : Inv X pins σ H4 { s4 with toks := s4.toks + 1 } := I4.tok _
  obtain ⟨c4, hS4'⟩ : ∃ c, s4.heap.get? S = some { cls := .type "list", data := .seq #[] c } := by
    obtain ⟨its, n, rv, _, e⟩ := (I4.lstM hS4).2
    have e0 : its = [] := List.eq_nil_of_length_eq_zero rv.length.symm
    subst e0
    exact ⟨n, e⟩
  generalize hs5 : ({ s4 with toks := s4.toks + 1 } : Shared) = s5 at *
  have hS5 : s5.heap.get? S = some { cls := .type "list", data := .seq #[] c4 } := by rw [← hs5]; exact hS4'
  refine wpAny_ite_split (fun _ => ?_) (fun _ => wpAny_pure ⟨plainId_quiet PySem.F.plain_extend_loop _, key _ c4 I4t hS5⟩)
  refine wpAny_bind (wpAny_rule ?_)
  refine wpAny_bind ?_
  show wpAny _ _ (updateSeq S (·.push .none) >>= fun _ => updateSeq S (·.pop)) _ _ _
  refine wpAny_bind (wpAny_updateSeq hS5 rfl ?_)
  have hS7 := Heap.get?_update_self (Obj.mapSeq (·.push Value.none)) hS5 rfl
  refine wpAny_updateSeq (hz := by seq_fits) hS7 rfl ?_
  have hS8 := Heap.get?_update_self (Obj.mapSeq (·.pop)) hS7 rfl
  refine wpAny_pure ⟨plainId_quiet PySem.F.plain_extend_loop _, key _ _ ?_ hS8⟩
  have := I4t.write (t' := s5.toks) (x := S) (e := S) (o := .lst []) (h' := (s5.heap.update S (Obj.mapSeq (·.push Value.none))).update S (Obj.mapSeq (·.pop))) (by rw [hS4]; trivial) (.inl rfl) (fun b u nb e => (Heap.get?_update_other _ _ (Ne.symm nb)).trans ((Heap.get?_update_other _ _ (Ne.symm nb)).trans e)) ⟨_, hS8⟩ ⟨Nat.zero_le _, [], _, .nil, hS8⟩
  rw [eH hS4] at this
  exact this
end



abbrev PW : Program := PySem.Challenge.pw_lineorigins_k57_ranges_in_common_and_joi
def top (i : Nat) : Stmt := PySem.Challenge.pw_lineorigins_k57_ranges_in_common_and_joi.main.body.getD i (.Pass ⟨0, 0, 0, 0⟩)
abbrev sIsInteger : Stmt := top 6
abbrev nIsInteger : List Str := ["value"]
theorem scIsInteger : FnScope nIsInteger ["value"] (defScope sIsInteger) := ⟨rfl, rfl, rfl, by decide +kernel, rfl, by decide +kernel, by decide +kernel⟩
abbrev sCommonDivisor : Stmt := top 7
abbrev nCommonDivisor : List Str := ["first", "second", "one", "other"]
theorem scCommonDivisor : FnScope nCommonDivisor ["first", "second"] (defScope sCommonDivisor) := ⟨rfl, rfl, rfl, by decide +kernel, rfl, by decide +kernel, by decide +kernel⟩
abbrev sRatioInit : Stmt := inClass (top 8) 0
abbrev nRatioInit : List Str := ["self", "top", "bottom", "divisor"]
theorem scRatioInit : FnScope nRatioInit ["self", "top", "bottom"] (defScope sRatioInit) := ⟨rfl, rfl, rfl, by decide +kernel, rfl, by decide +kernel, by decide +kernel⟩
abbrev sRatioTop : Stmt := inClass (top 8) 1
abbrev nRatioTop : List Str := ["self"]
theorem scRatioTop : FnScope nRatioTop ["self"] (defScope sRatioTop) := ⟨rfl, rfl, rfl, by decide +kernel, rfl, by decide +kernel, by decide +kernel⟩
abbrev sRatioBottom : Stmt := inClass (top 8) 2
abbrev nRatioBottom : List Str := ["self"]
theorem scRatioBottom : FnScope nRatioBottom ["self"] (defScope sRatioBottom) := ⟨rfl, rfl, rfl, by decide +kernel, rfl, by decide +kernel, by decide +kernel⟩
abbrev sRatioMiddle : Stmt := inClass (top 8) 5
abbrev nRatioMiddle : List Str := ["first", "second"]
theorem scRatioMiddle : FnScope nRatioMiddle ["first", "second"] (defScope sRatioMiddle) := ⟨rfl, rfl, rfl, by decide +kernel, rfl, by decide +kernel, by decide +kernel⟩
abbrev sRatioDivided : Stmt := inClass (top 8) 6
abbrev nRatioDivided : List Str := ["self", "other", "value"]
theorem scRatioDivided : FnScope nRatioDivided ["self", "other"] (defScope sRatioDivided) := ⟨rfl, rfl, rfl, by decide +kernel, rfl, by decide +kernel, by decide +kernel⟩
abbrev sRatioAdd : Stmt := inClass (top 8) 7
abbrev nRatioAdd : List Str := ["self", "other", "value", "top"]
theorem scRatioAdd : FnScope nRatioAdd ["self", "other"] (defScope sRatioAdd) := ⟨rfl, rfl, rfl, by decide +kernel, rfl, by decide +kernel, by decide +kernel⟩
abbrev sRatioRadd : Stmt := inClass (top 8) 8
abbrev nRatioRadd : List Str := ["self", "other"]
theorem scRatioRadd : FnScope nRatioRadd ["self", "other"] (defScope sRatioRadd) := ⟨rfl, rfl, rfl, by decide +kernel, rfl, by decide +kernel, by decide +kernel⟩
abbrev sRatioSub : Stmt := inClass (top 8) 9
abbrev nRatioSub : List Str := ["self", "other", "value", "top"]
theorem scRatioSub : FnScope nRatioSub ["self", "other"] (defScope sRatioSub) := ⟨rfl, rfl, rfl, by decide +kernel, rfl, by decide +kernel, by decide +kernel⟩
abbrev sRatioRsub : Stmt := inClass (top 8) 10
abbrev nRatioRsub : List Str := ["self", "other"]
theorem scRatioRsub : FnScope nRatioRsub ["self", "other"] (defScope sRatioRsub) := ⟨rfl, rfl, rfl, by decide +kernel, rfl, by decide +kernel, by decide +kernel⟩
abbrev sRatioMul : Stmt := inClass (top 8) 11
abbrev nRatioMul : List Str := ["self", "other", "value"]
theorem scRatioMul : FnScope nRatioMul ["self", "other"] (defScope sRatioMul) := ⟨rfl, rfl, rfl, by decide +kernel, rfl, by decide +kernel, by decide +kernel⟩
abbrev sRatioRmul : Stmt := inClass (top 8) 12
abbrev nRatioRmul : List Str := ["self", "other"]
theorem scRatioRmul : FnScope nRatioRmul ["self", "other"] (defScope sRatioRmul) := ⟨rfl, rfl, rfl, by decide +kernel, rfl, by decide +kernel, by decide +kernel⟩
abbrev sRatioEq : Stmt := inClass (top 8) 16
abbrev nRatioEq : List Str := ["self", "other", "value"]
theorem scRatioEq : FnScope nRatioEq ["self", "other"] (defScope sRatioEq) := ⟨rfl, rfl, rfl, by decide +kernel, rfl, by decide +kernel, by decide +kernel⟩
abbrev sRatioLt : Stmt := inClass (top 8) 18
abbrev nRatioLt : List Str := ["self", "other", "value"]
theorem scRatioLt : FnScope nRatioLt ["self", "other"] (defScope sRatioLt) := ⟨rfl, rfl, rfl, by decide +kernel, rfl, by decide +kernel, by decide +kernel⟩
abbrev sRatioLe : Stmt := inClass (top 8) 19
abbrev nRatioLe : List Str := ["self", "other", "value"]
theorem scRatioLe : FnScope nRatioLe ["self", "other"] (defScope sRatioLe) := ⟨rfl, rfl, rfl, by decide +kernel, rfl, by decide +kernel, by decide +kernel⟩
abbrev sRatioGt : Stmt := inClass (top 8) 20
abbrev nRatioGt : List Str := ["self", "other", "value"]
theorem scRatioGt : FnScope nRatioGt ["self", "other"] (defScope sRatioGt) := ⟨rfl, rfl, rfl, by decide +kernel, rfl, by decide +kernel, by decide +kernel⟩
abbrev sRatioGe : Stmt := inClass (top 8) 21
abbrev nRatioGe : List Str := ["self", "other", "value"]
theorem scRatioGe : FnScope nRatioGe ["self", "other"] (defScope sRatioGe) := ⟨rfl, rfl, rfl, by decide +kernel, rfl, by decide +kernel, by decide +kernel⟩
abbrev sIsNumber : Stmt := top 9
abbrev nIsNumber : List Str := ["value"]
theorem scIsNumber : FnScope nIsNumber ["value"] (defScope sIsNumber) := ⟨rfl, rfl, rfl, by decide +kernel, rfl, by decide +kernel, by decide +kernel⟩
abbrev sRatioOf : Stmt := top 10
abbrev nRatioOf : List Str := ["number"]
theorem scRatioOf : FnScope nRatioOf ["number"] (defScope sRatioOf) := ⟨rfl, rfl, rfl, by decide +kernel, rfl, by decide +kernel, by decide +kernel⟩
abbrev sIsRange : Stmt := top 12
abbrev nIsRange : List Str := ["value", "low", "high"]
theorem scIsRange : FnScope nIsRange ["value"] (defScope sIsRange) := ⟨rfl, rfl, rfl, by decide +kernel, rfl, by decide +kernel, by decide +kernel⟩
abbrev sAscend : Stmt := top 13
abbrev nAscend : List Str := ["parts", "one", "other"]
theorem scAscend : FnScope nAscend ["parts"] (defScope sAscend) := ⟨rfl, rfl, rfl, by decide +kernel, rfl, by decide +kernel, by decide +kernel⟩
abbrev sInRatios : Stmt := top 14
abbrev nInRatios : List Str := ["part"]
theorem scInRatios : FnScope nInRatios ["part"] (defScope sInRatios) := ⟨rfl, rfl, rfl, by decide +kernel, rfl, by decide +kernel, by decide +kernel⟩
abbrev sCommonPart : Stmt := top 15
abbrev nCommonPart : List Str := ["one", "other", "low", "high"]
theorem scCommonPart : FnScope nCommonPart ["one", "other"] (defScope sCommonPart) := ⟨rfl, rfl, rfl, by decide +kernel, rfl, by decide +kernel, by decide +kernel⟩
abbrev sMerged : Stmt := top 16
abbrev nMerged : List Str := ["parts", "found", "low", "high"]
theorem scMerged : FnScope nMerged ["parts"] (defScope sMerged) := ⟨rfl, rfl, rfl, by decide +kernel, rfl, by decide +kernel, by decide +kernel⟩
abbrev sInOrder : Stmt := top 17
abbrev nInOrder : List Str := ["one", "other", "found", "at", "part"]
theorem scInOrder : FnScope nInOrder ["one", "other"] (defScope sInOrder) := ⟨rfl, rfl, rfl, by decide +kernel, rfl, by decide +kernel, by decide +kernel⟩
abbrev sRangesInit : Stmt := inClass (top 18) 0
abbrev nRangesInit : List Str := ["self", "parts", "part"]
theorem scRangesInit : FnScope nRangesInit ["self", "parts"] (defScope sRangesInit) := ⟨rfl, rfl, rfl, by decide +kernel, rfl, by decide +kernel, by decide +kernel⟩
abbrev sRangesParts : Stmt := inClass (top 18) 1
abbrev nRangesParts : List Str := ["self"]
theorem scRangesParts : FnScope nRangesParts ["self"] (defScope sRangesParts) := ⟨rfl, rfl, rfl, by decide +kernel, rfl, by decide +kernel, by decide +kernel⟩
abbrev sRangesLen : Stmt := inClass (top 18) 3
abbrev nRangesLen : List Str := ["self"]
theorem scRangesLen : FnScope nRangesLen ["self"] (defScope sRangesLen) := ⟨rfl, rfl, rfl, by decide +kernel, rfl, by decide +kernel, by decide +kernel⟩
abbrev sRangesBool : Stmt := inClass (top 18) 4
abbrev nRangesBool : List Str := ["self"]
theorem scRangesBool : FnScope nRangesBool ["self"] (defScope sRangesBool) := ⟨rfl, rfl, rfl, by decide +kernel, rfl, by decide +kernel, by decide +kernel⟩
abbrev sRangesContains : Stmt := inClass (top 18) 5
abbrev nRangesContains : List Str := ["self", "number", "low", "high"]
theorem scRangesContains : FnScope nRangesContains ["self", "number"] (defScope sRangesContains) := ⟨rfl, rfl, rfl, by decide +kernel, rfl, by decide +kernel, by decide +kernel⟩
abbrev sRangesIter : Stmt := inClass (top 18) 2
abbrev nRangesIter : List Str := ["self"]
theorem scRangesIter : FnScope nRangesIter ["self"] (defScope sRangesIter) := ⟨rfl, rfl, rfl, by decide +kernel, rfl, by decide +kernel, by decide +kernel⟩
abbrev sRangesEq : Stmt := inClass (top 18) 6
abbrev nRangesEq : List Str := ["self", "other"]
theorem scRangesEq : FnScope nRangesEq ["self", "other"] (defScope sRangesEq) := ⟨rfl, rfl, rfl, by decide +kernel, rfl, by decide +kernel, by decide +kernel⟩
abbrev sRangesCommon : Stmt := inClass (top 18) 7
abbrev nRangesCommon : List Str := ["self", "other", "found", "one", "part"]
theorem scRangesCommon : FnScope nRangesCommon ["self", "other"] (defScope sRangesCommon) := ⟨rfl, rfl, rfl, by decide +kernel, rfl, by decide +kernel, by decide +kernel⟩
abbrev sRangesJoined : Stmt := inClass (top 18) 8
abbrev nRangesJoined : List Str := ["self", "other"]
theorem scRangesJoined : FnScope nRangesJoined ["self", "other"] (defScope sRangesJoined) := ⟨rfl, rfl, rfl, by decide +kernel, rfl, by decide +kernel, by decide +kernel⟩
abbrev sRangesWhole : Stmt := inClass (top 18) 9
abbrev nRangesWhole : List Str := ["cls"]
theorem scRangesWhole : FnScope nRangesWhole ["cls"] (defScope sRangesWhole) := ⟨rfl, rfl, rfl, by decide +kernel, rfl, by decide +kernel, by decide +kernel⟩
abbrev sLawPool : Stmt := top 20
abbrev nLawPool : List Str := ["_law_script", "_law_numbers", "_law_seed", "_law_cell"]
theorem scLawPool : FnScope nLawPool ["_law_script"] (defScope sLawPool) := ⟨rfl, rfl, rfl, by decide +kernel, rfl, by decide +kernel, by decide +kernel⟩
abbrev sLawMixed : Stmt := top 21
abbrev nLawMixed : List Str := ["_law_number", "_law_count", "_law_many"]
theorem scLawMixed : FnScope nLawMixed ["_law_number", "_law_count", "_law_many"] (defScope sLawMixed) := ⟨rfl, rfl, rfl, by decide +kernel, rfl, by decide +kernel, by decide +kernel⟩
abbrev sLawDraw : Stmt := top 22
abbrev nLawDraw : List Str := ["_law_pool_here", "_law_many", "_law_at", "_law_numbers", "_law_cell"]
theorem scLawDraw : FnScope nLawDraw ["_law_pool_here", "_law_many"] (defScope sLawDraw) := ⟨rfl, rfl, rfl, by decide +kernel, rfl, by decide +kernel, by decide +kernel⟩
abbrev sLawLowest : Stmt := top 23
abbrev nLawLowest : List Str := ["_law_upper", "_law_lower", "_law_one", "_law_other"]
theorem scLawLowest : FnScope nLawLowest ["_law_upper", "_law_lower"] (defScope sLawLowest) := ⟨rfl, rfl, rfl, by decide +kernel, rfl, by decide +kernel, by decide +kernel⟩
abbrev sLawPrice : Stmt := top 24
abbrev nLawPrice : List Str := ["_law_pool_here", "_law_floor"]
theorem scLawPrice : FnScope nLawPrice ["_law_pool_here", "_law_floor"] (defScope sLawPrice) := ⟨rfl, rfl, rfl, by decide +kernel, rfl, by decide +kernel, by decide +kernel⟩
abbrev sLawRangesDrawn : Stmt := top 25
abbrev nLawRangesDrawn : List Str := ["_law_pool_here", "_law_some", "_law_low", "_law_k", "_law_pair", "_law_gap", "_law_high"]
theorem scLawRangesDrawn : FnScope nLawRangesDrawn ["_law_pool_here"] (defScope sLawRangesDrawn) := ⟨rfl, rfl, rfl, by decide +kernel, rfl, by decide +kernel, by decide +kernel⟩
abbrev sLawHolds : Stmt := top 26
abbrev nLawHolds : List Str := ["_law_some", "_law_number", "_law_low", "_law_high"]
theorem scLawHolds : FnScope nLawHolds ["_law_some", "_law_number"] (defScope sLawHolds) := ⟨rfl, rfl, rfl, by decide +kernel, rfl, by decide +kernel, by decide +kernel⟩
abbrev sLawProbes : Stmt := top 27
abbrev nLawProbes : List Str := ["_law_some", "_law_found", "_law_part", "_law_end", "_law_other", "_law_one"]
theorem scLawProbes : FnScope nLawProbes ["_law_some"] (defScope sLawProbes) := ⟨rfl, rfl, rfl, by decide +kernel, rfl, by decide +kernel, by decide +kernel⟩
abbrev sLawApart : Stmt := top 28
abbrev nLawApart : List Str := ["_law_ranges", "_law_some", "_law_one", "_law_other"]
theorem scLawApart : FnScope nLawApart ["_law_ranges"] (defScope sLawApart) := ⟨rfl, rfl, rfl, by decide +kernel, rfl, by decide +kernel, by decide +kernel⟩
abbrev sLawRight : Stmt := top 29
abbrev nLawRight : List Str := ["_law_first", "_law_second", "_law_one", "_law_other", "_law_both", "_law_either", "_law_number", "_law_here", "_law_there"]
theorem scLawRight : FnScope nLawRight ["_law_first", "_law_second"] (defScope sLawRight) := ⟨rfl, rfl, rfl, by decide +kernel, rfl, by decide +kernel, by decide +kernel⟩
abbrev sLawShifted : Stmt := top 30
abbrev nLawShifted : List Str := ["_law_pool_here", "_law_some", "_law_found", "_law_low", "_law_high", "_law_way"]
theorem scLawShifted : FnScope nLawShifted ["_law_pool_here", "_law_some"] (defScope sLawShifted) := ⟨rfl, rfl, rfl, by decide +kernel, rfl, by decide +kernel, by decide +kernel⟩
abbrev sLaw : Stmt := top 31
abbrev nLaw : List Str := ["_law_script", "_law_pool_here", "_law_k", "_law_first", "_law_second", "_law_one", "_law_halves"]
theorem scLaw : FnScope nLaw ["_law_script"] (defScope sLaw) := ⟨rfl, rfl, rfl, by decide +kernel, rfl, by decide +kernel, by decide +kernel⟩
structure Adr where
  k_Ratio : Addr
  k_Ranges : Addr
  a_IsInteger : Addr
  d_IsInteger : FuncData
  a_CommonDivisor : Addr
  d_CommonDivisor : FuncData
  a_RatioInit : Addr
  d_RatioInit : FuncData
  a_RatioTop : Addr
  d_RatioTop : FuncData
  p_RatioTop : Addr
  a_RatioBottom : Addr
  d_RatioBottom : FuncData
  p_RatioBottom : Addr
  a_RatioMiddle : Addr
  d_RatioMiddle : FuncData
  p_RatioMiddle : Addr
  a_RatioDivided : Addr
  d_RatioDivided : FuncData
  a_RatioAdd : Addr
  d_RatioAdd : FuncData
  a_RatioRadd : Addr
  d_RatioRadd : FuncData
  a_RatioSub : Addr
  d_RatioSub : FuncData
  a_RatioRsub : Addr
  d_RatioRsub : FuncData
  a_RatioMul : Addr
  d_RatioMul : FuncData
  a_RatioRmul : Addr
  d_RatioRmul : FuncData
  a_RatioEq : Addr
  d_RatioEq : FuncData
  a_RatioLt : Addr
  d_RatioLt : FuncData
  a_RatioLe : Addr
  d_RatioLe : FuncData
  a_RatioGt : Addr
  d_RatioGt : FuncData
  a_RatioGe : Addr
  d_RatioGe : FuncData
  a_IsNumber : Addr
  d_IsNumber : FuncData
  a_RatioOf : Addr
  d_RatioOf : FuncData
  a_IsRange : Addr
  d_IsRange : FuncData
  a_Ascend : Addr
  d_Ascend : FuncData
  a_InRatios : Addr
  d_InRatios : FuncData
  a_CommonPart : Addr
  d_CommonPart : FuncData
  a_Merged : Addr
  d_Merged : FuncData
  a_InOrder : Addr
  d_InOrder : FuncData
  a_RangesInit : Addr
  d_RangesInit : FuncData
  u0_RangesInit : Addr
  a_RangesParts : Addr
  d_RangesParts : FuncData
  p_RangesParts : Addr
  a_RangesLen : Addr
  d_RangesLen : FuncData
  a_RangesBool : Addr
  d_RangesBool : FuncData
  a_RangesContains : Addr
  d_RangesContains : FuncData
  a_RangesIter : Addr
  d_RangesIter : FuncData
  a_RangesEq : Addr
  d_RangesEq : FuncData
  a_RangesCommon : Addr
  d_RangesCommon : FuncData
  a_RangesJoined : Addr
  d_RangesJoined : FuncData
  a_RangesWhole : Addr
  d_RangesWhole : FuncData
  p_RangesWhole : Addr
  a_LawPool : Addr
  d_LawPool : FuncData
  a_LawMixed : Addr
  d_LawMixed : FuncData
  a_LawDraw : Addr
  d_LawDraw : FuncData
  a_LawLowest : Addr
  d_LawLowest : FuncData
  a_LawPrice : Addr
  d_LawPrice : FuncData
  a_LawRangesDrawn : Addr
  d_LawRangesDrawn : FuncData
  a_LawHolds : Addr
  d_LawHolds : FuncData
  a_LawProbes : Addr
  d_LawProbes : FuncData
  a_LawApart : Addr
  d_LawApart : FuncData
  a_LawRight : Addr
  d_LawRight : FuncData
  a_LawShifted : Addr
  d_LawShifted : FuncData
  a_Law : Addr
  d_Law : FuncData
structure Txt (K : PySem.W.Frag) (mg : Str → Option Value) (A : Adr) : Prop where
  k_Ratio : mg "Ratio" = some (.ref A.k_Ratio)
  t_Ratio : TyF K A.k_Ratio
  mk_Ratio : Mk K A.k_Ratio A.a_RatioInit
  n_Ratio_kept_top : NoAttr K A.k_Ratio "kept_top"
  n_Ratio_kept_bottom : NoAttr K A.k_Ratio "kept_bottom"
  q_Ratio_int : PySem.W.kitOne K (.ref A.k_Ratio) (.type "int") = some false
  q_Ratio_bool : PySem.W.kitOne K (.ref A.k_Ratio) (.type "bool") = some false
  q_int_Ratio : PySem.W.kitOne K (.type "int") (.ref A.k_Ratio) = some false
  q_bool_Ratio : PySem.W.kitOne K (.type "bool") (.ref A.k_Ratio) = some false
  q_str_Ratio : PySem.W.kitOne K (.type "str") (.ref A.k_Ratio) = some false
  q_list_Ratio : PySem.W.kitOne K (.type "list") (.ref A.k_Ratio) = some false
  q_tuple_Ratio : PySem.W.kitOne K (.type "tuple") (.ref A.k_Ratio) = some false
  q_dict_Ratio : PySem.W.kitOne K (.type "dict") (.ref A.k_Ratio) = some false
  q_NoneType_Ratio : PySem.W.kitOne K (.type "NoneType") (.ref A.k_Ratio) = some false
  cr_Ratio : ClX.CRead K A.k_Ratio (.type "type")
  w_Ratio_int : PySem.W.notFirst K A.k_Ratio (.type "int") = true
  w_Ratio_bool : PySem.W.notFirst K A.k_Ratio (.type "bool") = true
  w_Ratio_str : PySem.W.notFirst K A.k_Ratio (.type "str") = true
  w_Ratio_list : PySem.W.notFirst K A.k_Ratio (.type "list") = true
  w_Ratio_tuple : PySem.W.notFirst K A.k_Ratio (.type "tuple") = true
  w_Ratio_dict : PySem.W.notFirst K A.k_Ratio (.type "dict") = true
  w_Ratio_NoneType : PySem.W.notFirst K A.k_Ratio (.type "NoneType") = true
  k_Ranges : mg "Ranges" = some (.ref A.k_Ranges)
  t_Ranges : TyF K A.k_Ranges
  mk_Ranges : Mk K A.k_Ranges A.a_RangesInit
  n_Ranges_kept_parts : NoAttr K A.k_Ranges "kept_parts"
  q_Ranges_int : PySem.W.kitOne K (.ref A.k_Ranges) (.type "int") = some false
  q_Ranges_bool : PySem.W.kitOne K (.ref A.k_Ranges) (.type "bool") = some false
  q_int_Ranges : PySem.W.kitOne K (.type "int") (.ref A.k_Ranges) = some false
  q_bool_Ranges : PySem.W.kitOne K (.type "bool") (.ref A.k_Ranges) = some false
  q_str_Ranges : PySem.W.kitOne K (.type "str") (.ref A.k_Ranges) = some false
  q_list_Ranges : PySem.W.kitOne K (.type "list") (.ref A.k_Ranges) = some false
  q_tuple_Ranges : PySem.W.kitOne K (.type "tuple") (.ref A.k_Ranges) = some false
  q_dict_Ranges : PySem.W.kitOne K (.type "dict") (.ref A.k_Ranges) = some false
  q_NoneType_Ranges : PySem.W.kitOne K (.type "NoneType") (.ref A.k_Ranges) = some false
  cr_Ranges : ClX.CRead K A.k_Ranges (.type "type")
  w_Ranges_int : PySem.W.notFirst K A.k_Ranges (.type "int") = true
  w_Ranges_bool : PySem.W.notFirst K A.k_Ranges (.type "bool") = true
  w_Ranges_str : PySem.W.notFirst K A.k_Ranges (.type "str") = true
  w_Ranges_list : PySem.W.notFirst K A.k_Ranges (.type "list") = true
  w_Ranges_tuple : PySem.W.notFirst K A.k_Ranges (.type "tuple") = true
  w_Ranges_dict : PySem.W.notFirst K A.k_Ranges (.type "dict") = true
  w_Ranges_NoneType : PySem.W.notFirst K A.k_Ranges (.type "NoneType") = true
  f_IsInteger : Fun K "is_integer" "is_integer" sIsInteger A.a_IsInteger A.d_IsInteger
  m_IsInteger : mg "is_integer" = some (.ref A.a_IsInteger)
  b_IsInteger : Binds K A.d_IsInteger ["value"] []
  f_CommonDivisor : Fun K "common_divisor" "common_divisor" sCommonDivisor A.a_CommonDivisor A.d_CommonDivisor
  m_CommonDivisor : mg "common_divisor" = some (.ref A.a_CommonDivisor)
  b_CommonDivisor : Binds K A.d_CommonDivisor ["first", "second"] []
  f_RatioInit : FunD K "__init__" "Ratio.__init__" (defArgs sRatioInit) (defBody sRatioInit) (defScope sRatioInit) [.int 1] [] A.a_RatioInit A.d_RatioInit
  e1_RatioInit : ∃ ds, Vals [.int 1] ds ∧ Binds K A.d_RatioInit ["self", "top", "bottom"] ds
  h_RatioInit : Meth K A.k_Ratio "__init__" A.a_RatioInit
  b_RatioInit : Binds K A.d_RatioInit ["self", "top", "bottom"] []
  f_RatioTop : Fun K "top" "Ratio.top" sRatioTop A.a_RatioTop A.d_RatioTop
  h_RatioTop : PropOf K A.k_Ratio "top" A.p_RatioTop A.a_RatioTop
  b_RatioTop : Binds K A.d_RatioTop ["self"] []
  f_RatioBottom : Fun K "bottom" "Ratio.bottom" sRatioBottom A.a_RatioBottom A.d_RatioBottom
  h_RatioBottom : PropOf K A.k_Ratio "bottom" A.p_RatioBottom A.a_RatioBottom
  b_RatioBottom : Binds K A.d_RatioBottom ["self"] []
  f_RatioMiddle : Fun K "middle" "Ratio.middle" sRatioMiddle A.a_RatioMiddle A.d_RatioMiddle
  h_RatioMiddle : SMet K A.k_Ratio (.type "type") "middle" A.p_RatioMiddle A.a_RatioMiddle
  b_RatioMiddle : Binds K A.d_RatioMiddle ["first", "second"] []
  f_RatioDivided : Fun K "divided" "Ratio.divided" sRatioDivided A.a_RatioDivided A.d_RatioDivided
  h_RatioDivided : Meth K A.k_Ratio "divided" A.a_RatioDivided
  b_RatioDivided : Binds K A.d_RatioDivided ["self", "other"] []
  f_RatioAdd : Fun K "__add__" "Ratio.__add__" sRatioAdd A.a_RatioAdd A.d_RatioAdd
  h_RatioAdd : Meth K A.k_Ratio "__add__" A.a_RatioAdd
  o_RatioAdd : OpF K A.k_Ratio A.a_RatioAdd .Add
  b_RatioAdd : Binds K A.d_RatioAdd ["self", "other"] []
  f_RatioRadd : Fun K "__radd__" "Ratio.__radd__" sRatioRadd A.a_RatioRadd A.d_RatioRadd
  h_RatioRadd : Meth K A.k_Ratio "__radd__" A.a_RatioRadd
  o_RatioRadd : OpI K A.k_Ratio A.a_RatioRadd .Add "int.__add__"
  b_RatioRadd : Binds K A.d_RatioRadd ["self", "other"] []
  f_RatioSub : Fun K "__sub__" "Ratio.__sub__" sRatioSub A.a_RatioSub A.d_RatioSub
  h_RatioSub : Meth K A.k_Ratio "__sub__" A.a_RatioSub
  o_RatioSub : OpF K A.k_Ratio A.a_RatioSub .Sub
  b_RatioSub : Binds K A.d_RatioSub ["self", "other"] []
  f_RatioRsub : Fun K "__rsub__" "Ratio.__rsub__" sRatioRsub A.a_RatioRsub A.d_RatioRsub
  h_RatioRsub : Meth K A.k_Ratio "__rsub__" A.a_RatioRsub
  o_RatioRsub : OpI K A.k_Ratio A.a_RatioRsub .Sub "int.__sub__"
  b_RatioRsub : Binds K A.d_RatioRsub ["self", "other"] []
  f_RatioMul : Fun K "__mul__" "Ratio.__mul__" sRatioMul A.a_RatioMul A.d_RatioMul
  h_RatioMul : Meth K A.k_Ratio "__mul__" A.a_RatioMul
  o_RatioMul : OpF K A.k_Ratio A.a_RatioMul .Mult
  b_RatioMul : Binds K A.d_RatioMul ["self", "other"] []
  f_RatioRmul : Fun K "__rmul__" "Ratio.__rmul__" sRatioRmul A.a_RatioRmul A.d_RatioRmul
  h_RatioRmul : Meth K A.k_Ratio "__rmul__" A.a_RatioRmul
  o_RatioRmul : OpI K A.k_Ratio A.a_RatioRmul .Mult "int.__mul__"
  b_RatioRmul : Binds K A.d_RatioRmul ["self", "other"] []
  f_RatioEq : Fun K "__eq__" "Ratio.__eq__" sRatioEq A.a_RatioEq A.d_RatioEq
  h_RatioEq : Meth K A.k_Ratio "__eq__" A.a_RatioEq
  o_RatioEq : CmF K A.k_Ratio A.a_RatioEq .Eq
  r_RatioEq : CmI K A.k_Ratio A.a_RatioEq .Eq
  b_RatioEq : Binds K A.d_RatioEq ["self", "other"] []
  f_RatioLt : Fun K "__lt__" "Ratio.__lt__" sRatioLt A.a_RatioLt A.d_RatioLt
  h_RatioLt : Meth K A.k_Ratio "__lt__" A.a_RatioLt
  o_RatioLt : CmF K A.k_Ratio A.a_RatioLt .Lt
  r_RatioLt : CmI K A.k_Ratio A.a_RatioLt .Gt
  b_RatioLt : Binds K A.d_RatioLt ["self", "other"] []
  f_RatioLe : Fun K "__le__" "Ratio.__le__" sRatioLe A.a_RatioLe A.d_RatioLe
  h_RatioLe : Meth K A.k_Ratio "__le__" A.a_RatioLe
  o_RatioLe : CmF K A.k_Ratio A.a_RatioLe .LtE
  r_RatioLe : CmI K A.k_Ratio A.a_RatioLe .GtE
  b_RatioLe : Binds K A.d_RatioLe ["self", "other"] []
  f_RatioGt : Fun K "__gt__" "Ratio.__gt__" sRatioGt A.a_RatioGt A.d_RatioGt
  h_RatioGt : Meth K A.k_Ratio "__gt__" A.a_RatioGt
  o_RatioGt : CmF K A.k_Ratio A.a_RatioGt .Gt
  r_RatioGt : CmI K A.k_Ratio A.a_RatioGt .Lt
  b_RatioGt : Binds K A.d_RatioGt ["self", "other"] []
  f_RatioGe : Fun K "__ge__" "Ratio.__ge__" sRatioGe A.a_RatioGe A.d_RatioGe
  h_RatioGe : Meth K A.k_Ratio "__ge__" A.a_RatioGe
  o_RatioGe : CmF K A.k_Ratio A.a_RatioGe .GtE
  r_RatioGe : CmI K A.k_Ratio A.a_RatioGe .LtE
  b_RatioGe : Binds K A.d_RatioGe ["self", "other"] []
  f_IsNumber : Fun K "is_number" "is_number" sIsNumber A.a_IsNumber A.d_IsNumber
  m_IsNumber : mg "is_number" = some (.ref A.a_IsNumber)
  b_IsNumber : Binds K A.d_IsNumber ["value"] []
  f_RatioOf : Fun K "ratio_of" "ratio_of" sRatioOf A.a_RatioOf A.d_RatioOf
  m_RatioOf : mg "ratio_of" = some (.ref A.a_RatioOf)
  b_RatioOf : Binds K A.d_RatioOf ["number"] []
  f_IsRange : Fun K "is_range" "is_range" sIsRange A.a_IsRange A.d_IsRange
  m_IsRange : mg "is_range" = some (.ref A.a_IsRange)
  b_IsRange : Binds K A.d_IsRange ["value"] []
  f_Ascend : Fun K "ascend" "ascend" sAscend A.a_Ascend A.d_Ascend
  m_Ascend : mg "ascend" = some (.ref A.a_Ascend)
  b_Ascend : Binds K A.d_Ascend ["parts"] []
  f_InRatios : Fun K "in_ratios" "in_ratios" sInRatios A.a_InRatios A.d_InRatios
  m_InRatios : mg "in_ratios" = some (.ref A.a_InRatios)
  b_InRatios : Binds K A.d_InRatios ["part"] []
  f_CommonPart : Fun K "common_part" "common_part" sCommonPart A.a_CommonPart A.d_CommonPart
  m_CommonPart : mg "common_part" = some (.ref A.a_CommonPart)
  b_CommonPart : Binds K A.d_CommonPart ["one", "other"] []
  f_Merged : Fun K "merged" "merged" sMerged A.a_Merged A.d_Merged
  m_Merged : mg "merged" = some (.ref A.a_Merged)
  b_Merged : Binds K A.d_Merged ["parts"] []
  f_InOrder : Fun K "in_order" "in_order" sInOrder A.a_InOrder A.d_InOrder
  m_InOrder : mg "in_order" = some (.ref A.a_InOrder)
  b_InOrder : Binds K A.d_InOrder ["one", "other"] []
  f_RangesInit : FunD K "__init__" "Ranges.__init__" (defArgs sRangesInit) (defBody sRangesInit) (defScope sRangesInit) [.ref A.u0_RangesInit] [] A.a_RangesInit A.d_RangesInit
  ut0_RangesInit : ∀ H, SqT K H A.u0_RangesInit []
  uk0_RangesInit : ∃ o, K.lookup A.u0_RangesInit = some o ∧ o.cls = .type "tuple"
  e1_RangesInit : ∃ ds, Vals [.ref A.u0_RangesInit] ds ∧ Binds K A.d_RangesInit ["self", "parts"] ds
  h_RangesInit : Meth K A.k_Ranges "__init__" A.a_RangesInit
  b_RangesInit : Binds K A.d_RangesInit ["self", "parts"] []
  f_RangesParts : Fun K "parts" "Ranges.parts" sRangesParts A.a_RangesParts A.d_RangesParts
  h_RangesParts : PropOf K A.k_Ranges "parts" A.p_RangesParts A.a_RangesParts
  b_RangesParts : Binds K A.d_RangesParts ["self"] []
  f_RangesLen : Fun K "__len__" "Ranges.__len__" sRangesLen A.a_RangesLen A.d_RangesLen
  h_RangesLen : Meth K A.k_Ranges "__len__" A.a_RangesLen
  o_RangesLen : UnF K A.k_Ranges A.a_RangesLen "__len__"
  b_RangesLen : Binds K A.d_RangesLen ["self"] []
  f_RangesBool : Fun K "__bool__" "Ranges.__bool__" sRangesBool A.a_RangesBool A.d_RangesBool
  h_RangesBool : Meth K A.k_Ranges "__bool__" A.a_RangesBool
  o_RangesBool : UnF K A.k_Ranges A.a_RangesBool "__bool__"
  b_RangesBool : Binds K A.d_RangesBool ["self"] []
  f_RangesContains : Fun K "__contains__" "Ranges.__contains__" sRangesContains A.a_RangesContains A.d_RangesContains
  h_RangesContains : Meth K A.k_Ranges "__contains__" A.a_RangesContains
  o_RangesContains : UnF K A.k_Ranges A.a_RangesContains "__contains__"
  b_RangesContains : Binds K A.d_RangesContains ["self", "number"] []
  f_RangesIter : Fun K "__iter__" "Ranges.__iter__" sRangesIter A.a_RangesIter A.d_RangesIter
  h_RangesIter : Meth K A.k_Ranges "__iter__" A.a_RangesIter
  o_RangesIter : UnF K A.k_Ranges A.a_RangesIter "__iter__"
  b_RangesIter : Binds K A.d_RangesIter ["self"] []
  f_RangesEq : Fun K "__eq__" "Ranges.__eq__" sRangesEq A.a_RangesEq A.d_RangesEq
  h_RangesEq : Meth K A.k_Ranges "__eq__" A.a_RangesEq
  w_RangesEq : NeF K A.k_Ranges A.a_RangesEq
  o_RangesEq : CmF K A.k_Ranges A.a_RangesEq .Eq
  r_RangesEq : CmI K A.k_Ranges A.a_RangesEq .Eq
  b_RangesEq : Binds K A.d_RangesEq ["self", "other"] []
  f_RangesCommon : Fun K "common" "Ranges.common" sRangesCommon A.a_RangesCommon A.d_RangesCommon
  h_RangesCommon : Meth K A.k_Ranges "common" A.a_RangesCommon
  b_RangesCommon : Binds K A.d_RangesCommon ["self", "other"] []
  f_RangesJoined : Fun K "joined" "Ranges.joined" sRangesJoined A.a_RangesJoined A.d_RangesJoined
  h_RangesJoined : Meth K A.k_Ranges "joined" A.a_RangesJoined
  b_RangesJoined : Binds K A.d_RangesJoined ["self", "other"] []
  f_RangesWhole : Fun K "whole" "Ranges.whole" sRangesWhole A.a_RangesWhole A.d_RangesWhole
  h_RangesWhole : ClX.CMet K A.k_Ranges (.type "type") "whole" A.p_RangesWhole A.a_RangesWhole
  b_RangesWhole : Binds K A.d_RangesWhole ["cls"] []
  f_LawPool : Fun K "_law_pool" "_law_pool" sLawPool A.a_LawPool A.d_LawPool
  m_LawPool : mg "_law_pool" = some (.ref A.a_LawPool)
  b_LawPool : Binds K A.d_LawPool ["_law_script"] []
  f_LawMixed : Fun K "_law_mixed" "_law_mixed" sLawMixed A.a_LawMixed A.d_LawMixed
  m_LawMixed : mg "_law_mixed" = some (.ref A.a_LawMixed)
  b_LawMixed : Binds K A.d_LawMixed ["_law_number", "_law_count", "_law_many"] []
  f_LawDraw : Fun K "_law_draw" "_law_draw" sLawDraw A.a_LawDraw A.d_LawDraw
  m_LawDraw : mg "_law_draw" = some (.ref A.a_LawDraw)
  b_LawDraw : Binds K A.d_LawDraw ["_law_pool_here", "_law_many"] []
  f_LawLowest : Fun K "_law_lowest" "_law_lowest" sLawLowest A.a_LawLowest A.d_LawLowest
  m_LawLowest : mg "_law_lowest" = some (.ref A.a_LawLowest)
  b_LawLowest : Binds K A.d_LawLowest ["_law_upper", "_law_lower"] []
  f_LawPrice : Fun K "_law_price" "_law_price" sLawPrice A.a_LawPrice A.d_LawPrice
  m_LawPrice : mg "_law_price" = some (.ref A.a_LawPrice)
  b_LawPrice : Binds K A.d_LawPrice ["_law_pool_here", "_law_floor"] []
  f_LawRangesDrawn : Fun K "_law_ranges_drawn" "_law_ranges_drawn" sLawRangesDrawn A.a_LawRangesDrawn A.d_LawRangesDrawn
  m_LawRangesDrawn : mg "_law_ranges_drawn" = some (.ref A.a_LawRangesDrawn)
  b_LawRangesDrawn : Binds K A.d_LawRangesDrawn ["_law_pool_here"] []
  f_LawHolds : Fun K "_law_holds" "_law_holds" sLawHolds A.a_LawHolds A.d_LawHolds
  m_LawHolds : mg "_law_holds" = some (.ref A.a_LawHolds)
  b_LawHolds : Binds K A.d_LawHolds ["_law_some", "_law_number"] []
  f_LawProbes : Fun K "_law_probes" "_law_probes" sLawProbes A.a_LawProbes A.d_LawProbes
  m_LawProbes : mg "_law_probes" = some (.ref A.a_LawProbes)
  b_LawProbes : Binds K A.d_LawProbes ["_law_some"] []
  f_LawApart : Fun K "_law_apart" "_law_apart" sLawApart A.a_LawApart A.d_LawApart
  m_LawApart : mg "_law_apart" = some (.ref A.a_LawApart)
  b_LawApart : Binds K A.d_LawApart ["_law_ranges"] []
  f_LawRight : Fun K "_law_right" "_law_right" sLawRight A.a_LawRight A.d_LawRight
  m_LawRight : mg "_law_right" = some (.ref A.a_LawRight)
  b_LawRight : Binds K A.d_LawRight ["_law_first", "_law_second"] []
  f_LawShifted : Fun K "_law_shifted" "_law_shifted" sLawShifted A.a_LawShifted A.d_LawShifted
  m_LawShifted : mg "_law_shifted" = some (.ref A.a_LawShifted)
  b_LawShifted : Binds K A.d_LawShifted ["_law_pool_here", "_law_some"] []
  f_Law : Fun K "law" "law" sLaw A.a_Law A.d_Law
  m_Law : mg "law" = some (.ref A.a_Law)
  b_Law : Binds K A.d_Law ["_law_script"] []
  z_isinstance : mg "isinstance" = none
  z_int : mg "int" = none
  z_bool : mg "bool" = none
  z_abs : mg "abs" = none
  z_property : mg "property" = none
  z_staticmethod : mg "staticmethod" = none
  z_NotImplemented : mg "NotImplemented" = none
  z_tuple : mg "tuple" = none
  z_len : mg "len" = none
  z_zip : mg "zip" = none
  z_all : mg "all" = none
  z_list : mg "list" = none
  z_iter : mg "iter" = none
  z_classmethod : mg "classmethod" = none
  z_range : mg "range" = none
/-! ## small words over the hand layer (own work) -/
section
variable {X : Cx}
/-- a list's item, a tuple's item, by the tracked object -/
def rIxH : R2 := fun x y H Q => ∃ p xs i v, x = .ref p ∧ y = .int i ∧ H p = some (.lst xs) ∧ atI xs i = some v ∧ Q v H
def rIxU : R2 := fun x y H Q => ∃ p xs i v, x = .ref p ∧ y = .int i ∧ H p = some (.tup xs) ∧ atI xs i = some v ∧ Q v H
theorem ix_lstH : IxR X rIxH := fun value slice pins s σ H x y v u Q I rx ry h hs => by
  obtain ⟨p, xs, i, z, h1, h2, h3, h4, h5⟩ := h
  exact ix_list value slice pins s σ H x y v u Q I rx ry ⟨p, xs, i, z, h1, h2, SqL.of h3, h4, h5⟩ hs
theorem ix_tupH : IxR X rIxU := fun value slice pins s σ H x y v u Q I rx ry h hs => by
  obtain ⟨p, xs, i, z, h1, h2, h3, h4, h5⟩ := h
  exact ix_tup value slice pins s σ H x y v u Q I rx ry ⟨p, xs, i, z, h1, h2, SqT.of h3, h4, h5⟩ hs
def rLenH : List V → Hp → VK → Prop := fun vs H Q => ∃ p ys, vs = [.ref p] ∧ H p = some (.lst ys) ∧ Q (.int ys.length) H
theorem call_lenH : CallR X (.builtin "len") rLenH := fun pins s σ H xs us Q I r h => by
  obtain ⟨p, ys, h1, h2, h3⟩ := h
  exact call_len_seq pins s σ H xs us Q I r ⟨p, ys, h1, Or.inl (SqL.of h2), h3⟩
def rLenU : List V → Hp → VK → Prop := fun vs H Q => ∃ p ys, vs = [.ref p] ∧ H p = some (.tup ys) ∧ Q (.int ys.length) H
theorem call_lenU : CallR X (.builtin "len") rLenU := fun pins s σ H xs us Q I r h => by
  obtain ⟨p, ys, h1, h2, h3⟩ := h
  exact call_len_seq pins s σ H xs us Q I r ⟨p, ys, h1, Or.inr (SqT.of h2), h3⟩
def rLenS : List V → Hp → VK → Prop := fun vs H Q => ∃ z, vs = [.str z] ∧ z.length ≤ sizeLine ∧ Q (.int z.length) H
theorem call_lenS : CallR X (.builtin "len") rLenS := call_len_str
/-- int(i) of an int -/
def rInt1 : List V → Hp → VK → Prop := fun vs H Q => ∃ i, vs = [.int i] ∧ Q (.int i) H
theorem call_intI : CallR X (.type "int") rInt1 := fun pins s σ H xs us Q I r h => call_int1 pins s σ H xs us Q I r (Or.inl h)
end
section
variable {α : Type} {a b c d e f g h : α} {r : List α}
theorem at0 : atI (a :: r) 0 = some a := by
  have q : ixN (a :: r).length 0 = some 0 := by
    unfold ixN
    rw [if_pos (by decide), if_pos (by rw [List.length_cons]; omega)]
    rfl
  unfold atI
  rw [q]
  rfl
theorem atN (n : Nat) {xs : List α} {v : α} (h : xs[n]? = some v) : atI xs (OfNat.ofNat n) = some v := atI_nat h
theorem at1 : atI (a :: b :: r) 1 = some b := atI_nat (j := 1) rfl
theorem at2 : atI (a :: b :: c :: r) 2 = some c := atI_nat (j := 2) rfl
theorem at3 : atI (a :: b :: c :: d :: r) 3 = some d := atI_nat (j := 3) rfl
theorem at4 : atI (a :: b :: c :: d :: e :: r) 4 = some e := atI_nat (j := 4) rfl
theorem at5 : atI (a :: b :: c :: d :: e :: f :: r) 5 = some f := atI_nat (j := 5) rfl
theorem ix51 : ixN 5 1 = some 1 := rfl
theorem ix52 : ixN 5 2 = some 2 := rfl
theorem ix54 : ixN 5 4 = some 4 := rfl
end
theorem scal_int {a b : Int} : scal (.int a) (.int b) = true := rfl
theorem scal_str {a b : Str} : scal (.str a) (.str b) = true := rfl
theorem scal_bl {a b : Bool} : scal (.bl a) (.bl b) = true := rfl
/-! ### loops -/
/-- the turns of a for, of a comprehension, as one word each (never opened by simp) -/
def forGo (J : It) (g : TG) (tb : TS) (D : Ends) (σ : St) (H1 : Hp) : Prop := ∃ W : Nat → Nat → St → Hp → Prop, (∃ m, W 0 m σ H1) ∧ ∀ i m σ H, W i m σ H →
  (J.stop i H ∧ D.nx σ H) ∨ (J.go i H ∧ ∃ N : St → Hp → Prop, (∀ σ' H', N σ' H' → ∃ m', m' < m ∧ W (i + 1) m' σ' H') ∧ ∀ x H', J.yld i H x H' → g x σ H' fun σ2 H2 => tb { D with nx := N, ct := N, bk := D.nx } σ2 H2)
theorem tFor_eq {wi : TI} {g : TG} {tb : TS} {D : Ends} {σ : St} {H : Hp} : tFor wi g tb D σ H = wi σ H fun J H1 => forGo J g tb D σ H1 := rfl
def lcGo (J : It) (g : TG) (tt : TT) (te : TE) (vs : List Nat) (σ : St) (D : Addr) (Q : VK) (H1 : Hp) : Prop := ∃ W : Nat → Nat → Hp → Prop, (∃ m, W 0 m (upd H1 D (.lst []))) ∧ ∀ i m H, W i m H →
  (J.stop i H ∧ Q (.ref D) H) ∨ (J.go i H ∧ ∃ Nx : Hp → Prop, (∀ H', Nx H' → ∃ m', m' < m ∧ W (i + 1) m' H') ∧ ∀ x H', J.yld i H x H' → g x (wipe σ vs) H' fun σ2 H2 => wipe σ2 vs = wipe σ vs ∧ tt σ2 H2 fun b H3 =>
    if b = true then te σ2 H3 fun y H4 => ∃ acc, H4 D = some (.lst acc) ∧ acc.length < sizeLine ∧ Nx (upd H4 D (.lst (acc ++ [y]))) else Nx H3)
theorem tLc_eq {wi : TI} {g : TG} {tt : TT} {te : TE} {vs : List Nat} {σ : St} {H : Hp} {Q : VK} : tLc wi g tt te vs σ H Q = wi σ H fun J H1 => ∀ D, H1 D = none → lcGo J g tt te vs σ D Q H1 := rfl
/-- what a walk gives, as a list -/
def sgn (c : Nat) : V := .str ⟨#[c]⟩
theorem walk_strY {z : Str} : Walk (Its z) (z.cps.toList.map sgn).length (fun _ => True) (YAt (z.cps.toList.map sgn)) := by
  have e : (z.cps.toList.map sgn).length = z.cps.size := by simp
  rw [e]
  refine walk_str.mono (fun _ h => h) fun i H x H' hi _ y => ?_
  obtain ⟨h1, c, h2, h3⟩ := y
  refine ⟨h1, ?_⟩
  rw [List.getElem?_map]
  have q : z.cps.toList[i]? = some c := by simpa using h2
  rw [q, h3]
  rfl
def rngV (lo : Int) (n : Nat) : List V := (List.range n).map fun i => V.int (lo + (i : Nat))
theorem rngV_len {lo : Int} {n : Nat} : (rngV lo n).length = n := by simp [rngV]
theorem walk_rangeY {lo : Int} {n : Nat} : Walk (Itr lo n) (rngV lo n).length (fun _ => True) (YAt (rngV lo n)) := by
  rw [rngV_len]
  refine walk_range.mono (fun _ h => h) fun i H x H' hi _ y => ?_
  obtain ⟨h1, h2⟩ := y
  refine ⟨h1, ?_⟩
  unfold rngV
  rw [List.getElem?_map, List.getElem?_range hi, h2]
  rfl
theorem take_get {α : Type} {l : List α} {i : Nat} {x : α} (h : l[i]? = some x) : l.take (i + 1) = l.take i ++ [x] := by
  rw [List.take_add_one, h]
  rfl
/-- a comprehension whose turns leave all that is tracked: what it chooses, what it gives -/
theorem lc_same {J : It} {xs : List V} {G : Hp → Prop} (w : Walk J xs.length G (YAt xs)) {g : TG} {tt : TT} {te : TE} {vs : List Nat} {σ : St} {D : Addr} {Q : VK} {H1 : Hp} (sel : V → Bool) (val : V → V)
    (hD : H1 D = none) (hG : ∀ H, Same H1 H → G H) (hz : xs.length ≤ 100000)
    (turn : ∀ x, x ∈ xs → ∀ H, Same H1 H → ∀ (R : VK) (R0 : Hp → Prop), (∀ H', Same H H' → sel x = true → R (val x) H') → (∀ H', Same H H' → sel x = false → R0 H') → g x (wipe σ vs) H fun σ2 H2 => wipe σ2 vs = wipe σ vs ∧ tt σ2 H2 fun b H3 => if b = true then te σ2 H3 R else R0 H3)
    (done : ∀ H, Same H1 H → H D = some (.lst ((xs.filter sel).map val)) → Q (.ref D) H) : lcGo J g tt te vs σ D Q H1 := by
  refine lc_it w (fun i H => Same H1 H ∧ H D = some (.lst (((xs.take i).filter sel).map val))) ⟨fun b o e => by rw [upd_ne (ne_of_none e hD)]; exact e, by rw [upd_same]; rfl⟩ (fun i H _ p => hG H p.1) (fun i x H H' hi p y => ?_) (fun H p => ?_)
  · obtain ⟨rfl, hx⟩ := y
    obtain ⟨s1, hacc⟩ := p
    have hm : x ∈ xs := List.mem_of_getElem? hx
    refine turn x hm _ s1 _ _ (fun H2 s2 hs => ?_) (fun H2 s2 hs => ?_)
    · refine ⟨_, s2 _ _ hacc, ?_, fun b o e => ?_, ?_⟩
      · rw [List.length_map]
        have q1 := List.length_filter_le sel (xs.take i)
        rw [List.length_take] at q1
        exact Nat.lt_of_le_of_lt (m := 100000) (by omega) (by decide)
      · rw [upd_ne (ne_of_none e hD)]
        exact s2 _ _ (s1 _ _ e)
      · rw [upd_same, take_get hx, List.filter_append, List.map_append, List.filter_cons, if_pos hs]
        rfl
    · refine ⟨s1.trans s2, ?_⟩
      rw [s2 _ _ hacc, take_get hx, List.filter_append, List.map_append, List.filter_cons, if_neg (by rw [hs]; decide)]
      simp
  · rw [List.take_length] at p
    exact done H p.1 p.2
theorem same_new {H : Hp} {p : Addr} {o : HO} (h : H p = none) : Same H (upd H p o) := fun b x e => by
  rw [upd_ne (ne_of_none e h)]
  exact e
theorem Same.tup {K : PySem.W.Frag} {H H' : Hp} {a : Addr} {xs : List V} (e : Same H H') (h : SqT K H a xs) : SqT K H' a xs := by
  rcases h with (h | ⟨o, h⟩) | h
  · exact .inl (.inl (e _ _ h))
  · exact .inl (.inr ⟨o, e _ _ h⟩)
  · exact .inr h
theorem cxOf_K {CX : CXT} {P : Program} {w : World} {K : PySem.W.Frag} {mg : Str → Option Value} {base : Heap} {N : List Str} {qual : Str} {scope : Scope} {f : Addr} {cd : Value} {A : Around} {outer : List Env} {s : Shared} {H : Hp} {E : XK} :
    (cxOf CX P w K mg base N qual scope f cd A outer s H E).K = K := rfl
theorem cut_to {xs : List V} {n : Nat} : cutV xs none (some (n : Int)) = xs.take n := by
  unfold cutV
  rw [HT.sIx_none, HT.sIx_nat]
  show List.take (min n xs.length - 0) xs = _
  rw [Nat.sub_zero]
  by_cases h : n ≤ xs.length
  · rw [Nat.min_eq_left h]
  · rw [Nat.min_eq_right (by omega), List.take_of_length_le (by omega), List.take_of_length_le (by omega)]
theorem cut_from {xs : List V} {n : Nat} : cutV xs (some (n : Int)) none = xs.drop n := by
  unfold cutV
  rw [HT.sIx_none, HT.sIx_nat]
  by_cases h : n ≤ xs.length
  · rw [Nat.min_eq_left h, List.take_of_length_le (by rw [List.length_drop]; omega)]
  · rw [Nat.min_eq_right (by omega), List.drop_of_length_le (by omega), List.drop_of_length_le (by omega), List.take_nil]
theorem cut_from1 {xs : List V} {n : Nat} : cutV xs (some ((n : Int) + 1)) none = xs.drop (n + 1) := cut_from (n := n + 1)
theorem mem_int {v : V} {ns : List Int} (h : v ∈ ns.map V.int) : ∃ i, v = .int i := by
  obtain ⟨i, _, e⟩ := List.mem_map.mp h
  exact ⟨i, e.symm⟩
/-- a for over what a walk gives -/
theorem for_go {J : It} {xs : List V} {G : Hp → Prop} (w : Walk J xs.length G (YAt xs)) {g : TG} {tb : TS} {D : Ends} {σ : St} {H : Hp} (Pv : Nat → St → Hp → Prop) (h0 : Pv 0 σ H) (hG : ∀ i σ H, i ≤ xs.length → Pv i σ H → G H)
    (hs : ∀ i x σ H, xs[i]? = some x → Pv i σ H → g x σ H fun σ2 H2 => tb { D with nx := Pv (i + 1), ct := Pv (i + 1), bk := D.nx } σ2 H2) (hd : ∀ σ H, Pv xs.length σ H → D.nx σ H) : forGo J g tb D σ H := by
  refine for_it w Pv h0 hG (fun i x σ H H' hi p y => ?_) hd
  obtain ⟨rfl, hx⟩ := y
  exact hs i x σ _ hx p
theorem new_facts {H H1 : Hp} {p : Addr} {o : HO} (hp : H p = none) (hG : upd H p o = H1) : Same H H1 ∧ H1 p = some o := by
  subst hG
  exact ⟨same_new hp, upd_same⟩

/-! ## the pool of draws -/
def spLawMixed : Sp := fun vs H Q _ => ∃ (n c m : Int), vs = [.int n, .int c, .int m] ∧ 0 ≤ n ∧ n < 4294967296 ∧ 0 ≤ c ∧ c ≤ 100000000 ∧ 0 < m ∧ ∀ v, 0 ≤ v → v < m → Q (.int v) H
theorem pow_ok {n c : Int} (h0 : 0 ≤ n) (h1 : n < 4294967296) (h2 : 0 ≤ c) (h3 : c ≤ 100000000) : (n + 7919 * c).natAbs < 2 ^ 64 := by
  have : (2 : Nat) ^ 64 = 18446744073709551616 := by decide
  omega
theorem nat_lt_of {c : Int} {a m : Nat} (h0 : 0 ≤ c) (h : c < (m : Int)) (hm : m ≤ 2 ^ a) : c.natAbs < 2 ^ a := Nat.lt_of_lt_of_le (by omega) hm
section
variable {P : Program} {w : World} {K : PySem.W.Frag} {mg : Str → Option Value} {base : Heap} {A : Adr}
theorem ok_mixed (T : Txt K mg A) : FnOk P w K mg base CX0 1 A.a_LawMixed A.d_LawMixed ["_law_number", "_law_count", "_law_many"] spLawMixed := by
  refine T.f_LawMixed.ok scLawMixed (fun vs H Q E h => ?_) (fun cdv A' outer s H vs Q E hr h => ?_)
  · obtain ⟨n, c, m, rfl, _⟩ := h
    rfl
  · obtain ⟨n, c, m, rfl, h0, h1, h2, h3, h4, k⟩ := h
    refine ⟨_, (pss_one (ps_ret (pe_op op_mod (pe_op op_fdivW (pe_callTy call_intI (by rfl) T.z_int (by decide +kernel) (pa_cons (pe_op op_mod (pe_op op_pow (pe_callTy call_intI (by rfl) T.z_int (by decide +kernel) (pa_cons (pe_op op_add (pv 0) (pe_op op_mulW pe_int (pv 1))) pa_nil)) pe_int) pe_int) pa_nil)) pe_int) (pv 2)))), ?_⟩
    simp only [tSeq, tNext, tRet, tRetN, tAsg, gName, gSub, tDrop, tIfS, tOp, tUn, tCB, tCons, tNil, tC, tVar, rI, rI0, rU, tAnd, tOr, tNot, tAndV, tOrV, tNotV, tIf, tTest, tB, tCall, tChain, tLst, tTup, tYes, rIxH, rIxU, rLenH, rLenU, rLenS, rInt1, rSetL, rEq, rNe, rCat, L2.start, List.map, List.length, List.length_cons, List.length_nil, List.replicate, List.getElem?_cons_zero, List.getElem?_cons_succ, List.set_cons_zero, List.set_cons_succ, List.set_nil, List.cons_append, List.nil_append, List.append_nil, Option.some.injEq, V.int.injEq, V.ref.injEq, V.str.injEq, V.bl.injEq, HO.lst.injEq, HO.tup.injEq, exists_eq_left', exists_and_left, exists_eq_left, List.cons.injEq, and_true, true_and, and_false, false_and, and_self, reduceCtorEq, exists_false, or_false, false_or, exists_const, at0, at1, at2, at3, at4, at5, ix51, ix52, ix54, upd_same, Nat.reduceAdd, Nat.reduceSub, Nat.zero_add, Int.reduceToNat, Int.reduceLE, Int.reduceLT, decide_eq_true_eq, Bool.not_eq_true, if_true, if_false, Bool.false_eq_true, ite_true, ite_false, Bool.not_true, Bool.not_false, decide_true, decide_false, tFor_eq, tLc_eq, iList, iTup, iRng1, iRng2, iStr, tSl, tPart, tNoPart, rSlL, cxOf_K, wipe]
    refine ⟨wide_mul (a := 13) (b := 27) (by decide) (nat_lt_of (m := 134217728) h2 (by omega) (by decide)) (by decide) (by decide) (by decide), ⟨by decide, by decide, pow_ok h0 h1 h2 h3⟩, wide_div (b := 5) (by decide) (by decide) (by decide) (by decide), h4, k _ (Int.emod_nonneg _ (by omega)) (Int.emod_lt_of_pos _ h4)⟩
/-- the pool's list stands at p, its numbers at l; at most c draws so far -/
def PoolAt (p l : Addr) (c : Nat) (H : Hp) : Prop := ∃ (ns : List Int) (t n z y : Int), H p = some (.lst [.ref l, .int t, .int n, .int z, .int y]) ∧ H l = some (.lst (ns.map V.int)) ∧ 0 ≤ t ∧ ns.length ≤ 63 ∧ 0 ≤ n ∧ n ≤ (c : Int) ∧ 0 ≤ z ∧ z < 2147483647
/-- all but the pool's two lists is as it was -/
def Off (p l : Addr) (H H' : Hp) : Prop := ∀ b, b ≠ p → b ≠ l → H' b = H b
def spLawDraw : Sp := fun vs H Q _ => ∃ (p l : Addr) (m : Int) (c : Nat), vs = [.ref p, .int m] ∧ 0 < m ∧ m < 1000000000000000000000000000000000000000 ∧ PoolAt p l c H ∧ c ≤ 90000000 ∧ ∀ v H', 0 ≤ v → v < m → PoolAt p l (c + 1) H' → Off p l H H' → Q (.int v) H'
theorem ok_draw (T : Txt K mg A) (gLawMixed : FnOk P w K mg base CX0 1 A.a_LawMixed A.d_LawMixed ["_law_number", "_law_count", "_law_many"] spLawMixed) : FnOk P w K mg base CX0 2 A.a_LawDraw A.d_LawDraw ["_law_pool_here", "_law_many"] spLawDraw := by
  refine T.f_LawDraw.ok scLawDraw (fun vs H Q E h => ?_) (fun cdv A' outer s H vs Q E hr h => ?_)
  · obtain ⟨p, l, m, c, rfl, _⟩ := h
    rfl
  · obtain ⟨p, l, m, c, rfl, m0, m1, ⟨ns, t, n, z, y, hp, hl, t0, nl, n0, n1, z0, z1⟩, c1, k⟩ := h
    have npl : p ≠ l := ne_of hp hl (by intro q; cases ns with | nil => cases q | cons _ _ => cases q)
    have e1 : ∀ (G : Hp) (o : HO), upd G p o l = G l := fun G o => upd_ne npl.symm
    have e2 : ∀ (G : Hp) (o : HO), upd G l o p = G p := fun G o => upd_ne npl
    have hm : CDivW 0 m := wide_div (b := 130) m0 (nat_lt_of (m := 1000000000000000000000000000000000000000) (by omega) (by omega) (by decide)) (by decide) (by decide)
    refine ⟨_, (pss_cons (ps_asg (pe_op op_add (pe_ix ix_lstH (pv 0) pe_int (fun _ _ => rfl)) pe_int) (pg_sub (pv 0) pe_int set_list))
      (pss_cons (ps_if (pt_cmpR (op_ge) (pe_ix ix_lstH (pv 0) pe_int (fun _ _ => rfl)) (pe_callB call_lenH (by rfl) T.z_len (by decide +kernel) (pa_cons (pe_ix ix_lstH (pv 0) pe_int (fun _ _ => rfl)) pa_nil)) (nomark _)) (pss_one (ps_ret (pe_call gLawMixed (hr.mono (by decide)) (by rfl) T.m_LawMixed T.f_LawMixed.kp T.b_LawMixed .nil pass0 (pa_cons (pe_ix ix_lstH (pv 0) pe_int (fun _ _ => rfl)) (pa_cons (pe_ix ix_lstH (pv 0) pe_int (fun _ _ => rfl)) (pa_cons (pv 1) pa_nil)))))) pss_nil)
      (pss_cons (ps_set (i := 2) scLawDraw.nd rfl (Or.inl rfl) (pe_ix ix_lstH (pv 0) pe_int (fun _ _ => rfl)))
      (pss_cons (ps_set (i := 3) scLawDraw.nd rfl (Or.inl rfl) (pe_ix ix_lstH (pv 0) pe_int (fun _ _ => rfl)))
      (pss_cons (ps_set (i := 4) scLawDraw.nd rfl (Or.inl rfl) (pe_ix ix_lstH (pv 3) (pv 2) (fun _ _ => rfl)))
      (pss_cons (ps_if (PW.pt (pw_and (pt_cmpR (op_ne) (pe_ix ix_lstH (pv 0) pe_int (fun _ _ => rfl)) pe_int (nomark _)) (pw_and1 (pt_cmpR (op_lt) (pv 4) (pe_op op_pow pe_int pe_int) (nomark _))))) (pss_cons (ps_asg (pe_op op_add (pe_ix ix_lstH (pv 0) pe_int (fun _ _ => rfl)) pe_int) (pg_sub (pv 0) pe_int set_list))
      (pss_cons (ps_if (pt_cmpR (op_eq) (pe_ix ix_lstH (pv 0) pe_int (fun _ _ => rfl)) pe_int (nomark _)) (pss_cons (ps_asg (pe_op op_add (pv 2) pe_int) (pg_sub (pv 0) pe_int set_list))
      (pss_one (ps_asg pe_int (pg_sub (pv 0) pe_int set_list)))) pss_nil)
      (pss_one (ps_ret (pe_call gLawMixed (hr.mono (by decide)) (by rfl) T.m_LawMixed T.f_LawMixed.kp T.b_LawMixed .nil pass0 (pa_cons (pe_op op_mod (pe_callTy call_intI (by rfl) T.z_int (by decide +kernel) (pa_cons (pv 4) pa_nil)) pe_int) (pa_cons (pe_ix ix_lstH (pv 0) pe_int (fun _ _ => rfl)) (pa_cons (pv 1) pa_nil)))))))) pss_nil)
      (pss_cons (ps_asg pe_int (pg_sub (pv 0) pe_int set_list))
      (pss_cons (ps_asg (pe_op op_fdivW (pe_callTy call_intI (by rfl) T.z_int (by decide +kernel) (pa_cons (pv 4) pa_nil)) (pv 1)) (pg_sub (pv 3) (pv 2) set_list))
      (pss_cons (ps_if (pt_cmpR (op_eq) (pe_ix ix_lstH (pv 3) (pv 2) (fun _ _ => rfl)) pe_int (nomark _)) (pss_cons (ps_asg (pe_op op_add (pv 2) pe_int) (pg_sub (pv 0) pe_int set_list))
      (pss_one (ps_asg pe_int (pg_sub (pv 0) pe_int set_list)))) pss_nil)
      (pss_one (ps_ret (pe_op op_mod (pe_callTy call_intI (by rfl) T.z_int (by decide +kernel) (pa_cons (pv 4) pa_nil)) (pv 1))))))))))))), ?_⟩
    have p10 : CPow 10 18 := ⟨by decide, by decide, by decide⟩
    have off : ∀ o o', Off p l H (upd (upd H p o) l o') := fun o o' b hb hb' => by rw [upd_ne hb', upd_ne hb]
    have off2 : ∀ o o', Off p l H (upd (upd H l o) p o') := fun o o' b hb hb' => by rw [upd_ne hb, upd_ne hb']
    have off1 : ∀ o, Off p l H (upd H p o) := fun o b hb hb' => by rw [upd_ne hb]
    have pool : ∀ (t' y' : Int), 0 ≤ t' → PoolAt p l (c + 1) (upd H p (.lst [.ref l, .int t', .int (n + 1), .int z, .int y'])) := fun t' y' h => ⟨ns, t', n + 1, z, y', upd_same, by rw [e1]; exact hl, h, nl, by omega, by omega, z0, z1⟩
    by_cases ht : t < (ns.length : Int)
    · have q : t = ((t.toNat : Nat) : Int) := (Int.toNat_of_nonneg t0).symm
      have q2 : t.toNat < ns.length := by omega
      have ha : atI (ns.map V.int) t = some (.int ns[t.toNat]) := at_of q (by rw [List.getElem?_map, List.getElem?_eq_getElem q2]; rfl)
      have hix : ixN ns.length t = some t.toNat := by
        unfold ixN
        rw [if_pos t0, if_pos ht]
      have hnt : ¬ ((ns.length : Int) ≤ t) := by omega
      have hset : ∀ v, (ns.map V.int).set t.toNat (.int v) = (ns.set t.toNat v).map V.int := fun v => by rw [List.map_set]
      have ha2 : ∀ v, atI ((ns.set t.toNat v).map V.int) t = some (.int v) := fun v => at_of q (by rw [List.getElem?_map, List.getElem?_set_self q2]; rfl)
      generalize ns[t.toNat] = v at ha
      simp only [tSeq, tNext, tRet, tRetN, tAsg, gName, gSub, tDrop, tIfS, tOp, tUn, tCB, tCons, tNil, tC, tVar, rI, rI0, rU, tAnd, tOr, tNot, tAndV, tOrV, tNotV, tIf, tTest, tB, tCall, tChain, tLst, tTup, tYes, rIxH, rIxU, rLenH, rLenU, rLenS, rInt1, rSetL, rEq, rNe, rCat, L2.start, List.map, List.length, List.length_cons, List.length_nil, List.replicate, List.getElem?_cons_zero, List.getElem?_cons_succ, List.set_cons_zero, List.set_cons_succ, List.set_nil, List.cons_append, List.nil_append, List.append_nil, Option.some.injEq, V.int.injEq, V.ref.injEq, V.str.injEq, V.bl.injEq, HO.lst.injEq, HO.tup.injEq, exists_eq_left', exists_and_left, exists_eq_left, List.cons.injEq, and_true, true_and, and_false, false_and, and_self, reduceCtorEq, exists_false, or_false, false_or, exists_const, at0, at1, at2, at3, at4, at5, ix51, ix52, ix54, upd_same, Nat.reduceAdd, Nat.reduceSub, Nat.zero_add, Int.reduceToNat, Int.reduceLE, Int.reduceLT, decide_eq_true_eq, Bool.not_eq_true, if_true, if_false, Bool.false_eq_true, ite_true, ite_false, Bool.not_true, Bool.not_false, decide_true, decide_false, tFor_eq, tLc_eq, iList, iTup, iRng1, iRng2, iStr, tSl, tPart, tNoPart, rSlL, cxOf_K, wipe, hp, hl, e1, e2, upd_upd, ha, hix, hnt, hset, ha2, scal_int, p10, List.length_map]
      have hv0 : 0 ≤ v % 2147483647 := Int.emod_nonneg _ (by decide)
      have hv1 : v % 2147483647 < 2147483647 := Int.emod_lt_of_pos _ (by decide)
      have r0 : 0 ≤ v % m := Int.emod_nonneg _ (by omega)
      have r1 : v % m < m := Int.emod_lt_of_pos _ m0
      have hd : CDivW v m := hm
      have mk : ∀ (t' y' : Int), 0 ≤ t' → spLawMixed [.int (v % 2147483647), .int (n + 1), .int m] (upd H p (.lst [.ref l, .int t', .int (n + 1), .int z, .int y'])) Q E0 := fun t' y' h =>
        ⟨_, _, _, rfl, hv0, by omega, by omega, by omega, m0, fun u u0 u1 => k u _ u0 u1 (pool t' y' h) (off1 _)⟩
      have hB : ∀ (ms : List Int), ms.length = ns.length → ∀ o, PoolAt p l (c + 1) (upd (upd (upd H p o) l (.lst (ms.map V.int))) p (.lst [.ref l, .int (t + 1), .int (n + 1), .int z, .int 0])) := fun ms hms o =>
        ⟨ms, t + 1, n + 1, z, 0, upd_same, by rw [e1, upd_same], by omega, by omega, by omega, by omega, z0, z1⟩
      have hC : ∀ (ms : List Int), ms.length = ns.length → PoolAt p l (c + 1) (upd (upd H p (.lst [.ref l, .int t, .int (n + 1), .int z, .int 2])) l (.lst (ms.map V.int))) := fun ms hms =>
        ⟨ms, t, n + 1, z, 2, by rw [e2, upd_same], upd_same, t0, by omega, by omega, by omega, z0, z1⟩
      have off3 : ∀ o o' o'', Off p l H (upd (upd (upd H p o) l o') p o'') := fun o o' o'' b hb hb' => by rw [upd_ne hb, upd_ne hb', upd_ne hb]
      have fin : CDivW v m ∧ if v / m = 0 then 0 < m ∧ Q (V.int (v % m)) (upd (upd (upd H p (HO.lst [V.ref l, V.int t, V.int (n + 1), V.int z, V.int 2])) l (HO.lst (List.map V.int (ns.set t.toNat (v / m))))) p (HO.lst [V.ref l, V.int (t + 1), V.int (n + 1), V.int z, V.int 0]))
          else 0 < m ∧ Q (V.int (v % m)) (upd (upd H p (HO.lst [V.ref l, V.int t, V.int (n + 1), V.int z, V.int 2])) l (HO.lst (List.map V.int (ns.set t.toNat (v / m))))) := by
        refine ⟨hd, ite2 (fun _ => ⟨m0, k _ _ r0 r1 (hB _ (by rw [List.length_set]) _) (off3 _ _ _)⟩) (fun _ => ⟨m0, k _ _ r0 r1 (hC _ (by rw [List.length_set])) (off _ _)⟩)⟩
      refine ite2 (fun _ => ?_) (fun _ => fin)
      refine ite2 (fun _ => ?_) (fun _ => fin)
      exact ite2 (fun _ => mk (t + 1) 0 (by omega)) (fun _ => mk t (y + 1) t0)
    · have hnt : (ns.length : Int) ≤ t := by omega
      simp only [tSeq, tNext, tRet, tRetN, tAsg, gName, gSub, tDrop, tIfS, tOp, tUn, tCB, tCons, tNil, tC, tVar, rI, rI0, rU, tAnd, tOr, tNot, tAndV, tOrV, tNotV, tIf, tTest, tB, tCall, tChain, tLst, tTup, tYes, rIxH, rIxU, rLenH, rLenU, rLenS, rInt1, rSetL, rEq, rNe, rCat, L2.start, List.map, List.length, List.length_cons, List.length_nil, List.replicate, List.getElem?_cons_zero, List.getElem?_cons_succ, List.set_cons_zero, List.set_cons_succ, List.set_nil, List.cons_append, List.nil_append, List.append_nil, Option.some.injEq, V.int.injEq, V.ref.injEq, V.str.injEq, V.bl.injEq, HO.lst.injEq, HO.tup.injEq, exists_eq_left', exists_and_left, exists_eq_left, List.cons.injEq, and_true, true_and, and_false, false_and, and_self, reduceCtorEq, exists_false, or_false, false_or, exists_const, at0, at1, at2, at3, at4, at5, ix51, ix52, ix54, upd_same, Nat.reduceAdd, Nat.reduceSub, Nat.zero_add, Int.reduceToNat, Int.reduceLE, Int.reduceLT, decide_eq_true_eq, Bool.not_eq_true, if_true, if_false, Bool.false_eq_true, ite_true, ite_false, Bool.not_true, Bool.not_false, decide_true, decide_false, tFor_eq, tLc_eq, iList, iTup, iRng1, iRng2, iStr, tSl, tPart, tNoPart, rSlL, cxOf_K, wipe, hp, hl, e1, e2, upd_upd, hnt, List.length_map]
      exact ⟨_, _, _, rfl, z0, by omega, by omega, by omega, m0, fun u u0 u1 => k u _ u0 u1 (pool t y t0) (off1 _)⟩
def spLawPool (K : PySem.W.Frag) : Sp := fun vs H Q _ => ∃ (a : Addr) (ns : List Int), vs = [.ref a] ∧ SqL K H a (ns.map V.int) ∧ ns.length ≤ 63 ∧ ∀ p l H', PoolAt p l 0 H' → H p = none → H l = none → Same H H' → Q (.ref p) H'
theorem ok_pool (T : Txt K mg A) : FnOk P w K mg base CX0 1 A.a_LawPool A.d_LawPool ["_law_script"] (spLawPool K) := by
  refine T.f_LawPool.ok scLawPool (fun vs H Q E h => ?_) (fun cdv A' outer s H vs Q E hr h => ?_)
  · obtain ⟨a, ns, rfl, _⟩ := h
    rfl
  · obtain ⟨a, ns, rfl, hS, nl, k⟩ := h
    refine ⟨_, (pss_cons (ps_setLc (i := 1) (own := [("_law_cell", 3)]) (g := gName 3) (tt := tYes) (by rfl) scLawPool.nd rfl rfl (sw_true rfl rfl rfl (by decide +kernel)) (pi_list (pe_slice sl_list (pv 0) po_none (po_some pe_int))) (blkOk_by (own := [("_law_cell", 3)]) (N := nLawPool) (sc := defScope sLawPool) (by decide +kernel)) (fun _ _ _ _ _ => pg_name (i := 3) scLawPool.nd rfl (Or.inl rfl)) (fun _ _ _ _ _ => pts_nil) (fun _ _ _ _ _ => (pe_callTy call_intI (by rfl) T.z_int (by decide +kernel) (pa_cons (pv 3) pa_nil))))
      (pss_cons (ps_set (i := 2) scLawPool.nd rfl (Or.inl rfl) pe_int)
      (pss_cons (ps_for PassesOwn.never rfl (pi_list (pv 1)) (pg_name (i := 3) scLawPool.nd rfl (Or.inl rfl)) (pss_one (ps_set (i := 2) scLawPool.nd rfl (Or.inl rfl) (pe_op op_mod (pe_callTy call_intI (by rfl) T.z_int (by decide +kernel) (pa_cons (pe_op op_add (pe_op op_mulW (pv 2) pe_int) (pv 3)) pa_nil)) pe_int))))
      (pss_one (ps_ret (pe_lst (pa_cons (pv 1) (pa_cons pe_int (pa_cons pe_int (pa_cons (pv 2) (pa_cons pe_int pa_nil))))))))))), ?_⟩
    simp only [tSeq, tNext, tRet, tRetN, tAsg, gName, gSub, tDrop, tIfS, tOp, tUn, tCB, tCons, tNil, tC, tVar, rI, rI0, rU, tAnd, tOr, tNot, tAndV, tOrV, tNotV, tIf, tTest, tB, tCall, tChain, tLst, tTup, tYes, rIxH, rIxU, rLenH, rLenU, rLenS, rInt1, rSetL, rEq, rNe, rCat, L2.start, List.map, List.length, List.length_cons, List.length_nil, List.replicate, List.getElem?_cons_zero, List.getElem?_cons_succ, List.set_cons_zero, List.set_cons_succ, List.set_nil, List.cons_append, List.nil_append, List.append_nil, Option.some.injEq, V.int.injEq, V.ref.injEq, V.str.injEq, V.bl.injEq, HO.lst.injEq, HO.tup.injEq, exists_eq_left', exists_and_left, exists_eq_left, List.cons.injEq, and_true, true_and, and_false, false_and, and_self, reduceCtorEq, exists_false, or_false, false_or, exists_const, at0, at1, at2, at3, at4, at5, ix51, ix52, ix54, upd_same, Nat.reduceAdd, Nat.reduceSub, Nat.zero_add, Int.reduceToNat, Int.reduceLE, Int.reduceLT, decide_eq_true_eq, Bool.not_eq_true, if_true, if_false, Bool.false_eq_true, ite_true, ite_false, Bool.not_true, Bool.not_false, decide_true, decide_false, tFor_eq, tLc_eq, iList, iTup, iRng1, iRng2, iStr, tSl, tPart, tNoPart, rSlL, cxOf_K, wipe]
    refine ⟨_, hS, fun p hp => ⟨⟨_, SqL.of upd_same⟩, fun D hD => ?_⟩⟩
    have hc : cutV (ns.map V.int) none (some 63) = ns.map V.int := by
      rw [show (63 : Int) = ((63 : Nat) : Int) from rfl, cut_to, List.take_of_length_le (by rw [List.length_map]; exact nl)]
    rw [hc] at hD ⊢
    have hDn : H D = none := (same_new hp).free hD
    refine lc_same (walk_list (K := K) (xs := ns.map V.int)) (fun _ => true) id hD (fun H2 s2 => s2.seq (SqL.of upd_same)) (by rw [List.length_map]; omega) (fun x hx H2 s2 R R0 h1 _ => ?_) (fun H2 s2 h2 => ?_)
    · obtain ⟨i, rfl⟩ := mem_int hx
      simp only [tSeq, tNext, tRet, tRetN, tAsg, gName, gSub, tDrop, tIfS, tOp, tUn, tCB, tCons, tNil, tC, tVar, rI, rI0, rU, tAnd, tOr, tNot, tAndV, tOrV, tNotV, tIf, tTest, tB, tCall, tChain, tLst, tTup, tYes, rIxH, rIxU, rLenH, rLenU, rLenS, rInt1, rSetL, rEq, rNe, rCat, L2.start, List.map, List.length, List.length_cons, List.length_nil, List.replicate, List.getElem?_cons_zero, List.getElem?_cons_succ, List.set_cons_zero, List.set_cons_succ, List.set_nil, List.cons_append, List.nil_append, List.append_nil, Option.some.injEq, V.int.injEq, V.ref.injEq, V.str.injEq, V.bl.injEq, HO.lst.injEq, HO.tup.injEq, exists_eq_left', exists_and_left, exists_eq_left, List.cons.injEq, and_true, true_and, and_false, false_and, and_self, reduceCtorEq, exists_false, or_false, false_or, exists_const, at0, at1, at2, at3, at4, at5, ix51, ix52, ix54, upd_same, Nat.reduceAdd, Nat.reduceSub, Nat.zero_add, Int.reduceToNat, Int.reduceLE, Int.reduceLT, decide_eq_true_eq, Bool.not_eq_true, if_true, if_false, Bool.false_eq_true, ite_true, ite_false, Bool.not_true, Bool.not_false, decide_true, decide_false, tFor_eq, tLc_eq, iList, iTup, iRng1, iRng2, iStr, tSl, tPart, tNoPart, rSlL, cxOf_K, wipe]
      exact h1 H2 (Same.refl _) rfl
    · have h2 : H2 D = some (.lst (ns.map V.int)) := by
        rw [h2, List.map_id, List.filter_eq_self.mpr fun _ _ => rfl]
      have sm : Same H H2 := (same_new hp).trans s2
      refine ⟨D, rfl, ⟨_, SqL.of h2⟩, for_go (walk_list (K := K) (xs := ns.map V.int)) (fun i σ H' => H' = H2 ∧ ∃ (z : Int) (v : Option V), σ = [some (.ref a), some (.ref D), some (.int z), v] ∧ 0 ≤ z ∧ z < 2147483647) ⟨rfl, 11, _, rfl, by decide, by decide⟩ (fun i σ H' _ q => by rw [q.1]; exact SqL.of h2) (fun i x σ H' hx q => ?_) (fun σ H' q => ?_)⟩
      · obtain ⟨rfl, z, v, rfl, z0, z1⟩ := q
        obtain ⟨u, rfl⟩ := mem_int (List.mem_of_getElem? hx)
        simp only [tSeq, tNext, tRet, tRetN, tAsg, gName, gSub, tDrop, tIfS, tOp, tUn, tCB, tCons, tNil, tC, tVar, rI, rI0, rU, tAnd, tOr, tNot, tAndV, tOrV, tNotV, tIf, tTest, tB, tCall, tChain, tLst, tTup, tYes, rIxH, rIxU, rLenH, rLenU, rLenS, rInt1, rSetL, rEq, rNe, rCat, L2.start, List.map, List.length, List.length_cons, List.length_nil, List.replicate, List.getElem?_cons_zero, List.getElem?_cons_succ, List.set_cons_zero, List.set_cons_succ, List.set_nil, List.cons_append, List.nil_append, List.append_nil, Option.some.injEq, V.int.injEq, V.ref.injEq, V.str.injEq, V.bl.injEq, HO.lst.injEq, HO.tup.injEq, exists_eq_left', exists_and_left, exists_eq_left, List.cons.injEq, and_true, true_and, and_false, false_and, and_self, reduceCtorEq, exists_false, or_false, false_or, exists_const, at0, at1, at2, at3, at4, at5, ix51, ix52, ix54, upd_same, Nat.reduceAdd, Nat.reduceSub, Nat.zero_add, Int.reduceToNat, Int.reduceLE, Int.reduceLT, decide_eq_true_eq, Bool.not_eq_true, if_true, if_false, Bool.false_eq_true, ite_true, ite_false, Bool.not_true, Bool.not_false, decide_true, decide_false, tFor_eq, tLc_eq, iList, iTup, iRng1, iRng2, iStr, tSl, tPart, tNoPart, rSlL, cxOf_K, wipe]
        exact ⟨wide_mul (a := 31) (b := 16) (nat_lt_of (m := 2147483648) z0 (by omega) (by decide)) (by decide) (by decide) (by decide) (by decide), _, _, ⟨rfl, rfl⟩, Int.emod_nonneg _ (by decide), Int.emod_lt_of_pos _ (by decide)⟩
      · obtain ⟨rfl, z, v, rfl, z0, z1⟩ := q
        simp only [tSeq, tNext, tRet, tRetN, tAsg, gName, gSub, tDrop, tIfS, tOp, tUn, tCB, tCons, tNil, tC, tVar, rI, rI0, rU, tAnd, tOr, tNot, tAndV, tOrV, tNotV, tIf, tTest, tB, tCall, tChain, tLst, tTup, tYes, rIxH, rIxU, rLenH, rLenU, rLenS, rInt1, rSetL, rEq, rNe, rCat, L2.start, List.map, List.length, List.length_cons, List.length_nil, List.replicate, List.getElem?_cons_zero, List.getElem?_cons_succ, List.set_cons_zero, List.set_cons_succ, List.set_nil, List.cons_append, List.nil_append, List.append_nil, Option.some.injEq, V.int.injEq, V.ref.injEq, V.str.injEq, V.bl.injEq, HO.lst.injEq, HO.tup.injEq, exists_eq_left', exists_and_left, exists_eq_left, List.cons.injEq, and_true, true_and, and_false, false_and, and_self, reduceCtorEq, exists_false, or_false, false_or, exists_const, at0, at1, at2, at3, at4, at5, ix51, ix52, ix54, upd_same, Nat.reduceAdd, Nat.reduceSub, Nat.zero_add, Int.reduceToNat, Int.reduceLE, Int.reduceLT, decide_eq_true_eq, Bool.not_eq_true, if_true, if_false, Bool.false_eq_true, ite_true, ite_false, Bool.not_true, Bool.not_false, decide_true, decide_false, tFor_eq, tLc_eq, iList, iTup, iRng1, iRng2, iStr, tSl, tPart, tNoPart, rSlL, cxOf_K, wipe]
        refine ⟨by decide, fun q hq => ?_⟩
        have nq : D ≠ q := ne_of_none h2 hq
        exact k q D _ ⟨ns, 0, 0, z, 0, upd_same, by rw [upd_ne nq]; exact h2, by omega, nl, by omega, by omega, z0, z1⟩ (sm.free hq) hDn (sm.trans (same_new hq))
end



/-! ### kinds of things -/
def kdO : Option HO → String
  | some (.lst _) => "list"
  | some (.tup _) => "tuple"
  | some (.dK _) => "dict"
  | _ => "?"
def kd (H : Hp) : V → String
  | .non => "NoneType"
  | .bl _ => "bool"
  | .int _ => "int"
  | .str _ => "str"
  | .ref a => kdO (H a)
  | _ => "?"
theorem kd_non {H : Hp} : kd H .non = "NoneType" := rfl
theorem kd_bl {H : Hp} {b : Bool} : kd H (.bl b) = "bool" := rfl
theorem kd_int {H : Hp} {i : Int} : kd H (.int i) = "int" := rfl
theorem kd_str {H : Hp} {z : Str} : kd H (.str z) = "str" := rfl
theorem kd_ref {H : Hp} {a : Addr} : kd H (.ref a) = kdO (H a) := rfl
theorem kdO_lst {xs : List V} : kdO (some (.lst xs)) = "list" := rfl
theorem kdO_tup {xs : List V} : kdO (some (.tup xs)) = "tuple" := rfl
theorem kdO_dK {kvs : List (Key × V)} : kdO (some (.dK kvs)) = "dict" := rfl
theorem nq_n : "NoneType" ≠ "?" := by decide
theorem nq_b : "bool" ≠ "?" := by decide
theorem nq_i : "int" ≠ "?" := by decide
theorem nq_s : "str" ≠ "?" := by decide
theorem nq_l : "list" ≠ "?" := by decide
theorem nq_t : "tuple" ≠ "?" := by decide
theorem nq_d : "dict" ≠ "?" := by decide
theorem kd_ty {K : PySem.W.Frag} {H : Hp} {v : V} (h : kd H v ≠ "?") : TyX K H v (.type (kd H v)) := by
  cases v with
  | non => exact .base .non
  | bl b => exact .base (.bl b)
  | int i => exact .base (.int i)
  | str z => exact .base (.str z)
  | byt b => exact absurd rfl h
  | flt b => exact absurd rfl h
  | ty n => exact absurd rfl h
  | ref a =>
    have h : kdO (H a) ≠ "?" := h
    show TyX K H (.ref a) (.type (kdO (H a)))
    cases e : H a with
    | none => rw [e] at h; exact absurd rfl h
    | some o =>
      rw [e] at h
      cases o with
      | lst xs => exact .base (.lst e)
      | tup xs => exact .base (.tup e)
      | dK kvs => exact .base (.dK e)
      | _ => exact absurd rfl h
def kitAnyB (t : String) : List String → Option Bool
  | [] => some false
  | c :: r => match kitB t c with
    | some true => some true
    | some false => kitAnyB t r
    | none => none
theorem kitAnyB_ok {K : PySem.W.Frag} {t : String} : ∀ {cs : List String} {b : Bool}, kitAnyB t cs = some b → PySem.W.kitAny K (.type t) (cs.map Value.type) = some b
  | [], b, h => h
  | c :: r, b, h => by
    unfold kitAnyB at h
    show PySem.W.kitAny K (.type t) (Value.type c :: r.map Value.type) = some b
    unfold PySem.W.kitAny
    cases e : kitB t c with
    | none => rw [e] at h; cases h
    | some d =>
      rw [kit_ty e]
      rw [e] at h
      cases d with
      | true => exact h
      | false => exact kitAnyB_ok h
theorem clsV_all : ∀ (cs : List String), Paired ClsV (cs.map V.ty) (cs.map Value.type)
  | [] => .nil
  | c :: r => .cons (.ty c) (clsV_all r)
section
variable {X : Cx}
/-- isinstance(x, T), T a built-in class; a tuple of such -/
def rIsB : List V → Hp → VK → Prop := fun vs H Q => ∃ x T b, vs = [x, .ty T] ∧ kd H x ≠ "?" ∧ kitB (kd H x) T = some b ∧ Q (.bl b) H
theorem call_isB : CallR X (.builtin "isinstance") rIsB := fun pins s σ H xs us Q I r h => by
  obtain ⟨x, T, b, h1, h2, h3, h4⟩ := h
  exact call_isi pins s σ H xs us Q I r ⟨x, .ty T, _, _, b, h1, .ty T, kd_ty h2, kit_ty h3, h4⟩
def rIsBT : List V → Hp → VK → Prop := fun vs H Q => ∃ x p ts cs b, vs = [x, .ref p] ∧ H p = some (.tup ts) ∧ ts = List.map V.ty cs ∧ kd H x ≠ "?" ∧ kitAnyB (kd H x) cs = some b ∧ Q (.bl b) H
theorem call_isBT : CallR X (.builtin "isinstance") rIsBT := fun pins s σ H xs us Q I r h => by
  obtain ⟨x, p, ts, cs, b, h1, h2, rfl, h3, h4, h5⟩ := h
  exact call_isiT pins s σ H xs us Q I r ⟨x, p, _, _, _, b, h1, h2, clsV_all cs, kd_ty h3, kitAnyB_ok h4, h5⟩
theorem ex_ty2 {a b : String} {P : List String → Prop} : (∃ cs, [V.ty a, V.ty b] = List.map V.ty cs ∧ P cs) ↔ P [a, b] := by
  constructor
  · rintro ⟨cs, h, p⟩
    match cs, h with
    | [c, d], h =>
      injection h with h1 h2
      injection h1 with h1
      injection h2 with h2 _
      injection h2 with h2
      subst h1 h2
      exact p
  · exact fun p => ⟨[a, b], rfl, p⟩
def rMulS : R2 := fun x y H Q => ∃ z n, x = .str z ∧ y = .int n ∧ MulOk z n ∧ Q (.str (Txt.mul z n)) H
theorem op_mul_str : OpR X (binaryOp .Mult) rMulS := fun pins s σ H x y v u Q I rx ry h => by
  obtain ⟨z, n, rfl, rfl, h1, q⟩ := h
  obtain ⟨t, rfl⟩ := rx
  obtain ⟨t', rfl⟩ := ry
  exact PySem.SB.mul h1 fun t2 k => ⟨.str _, H, I.tok k, ⟨_, rfl⟩, q⟩
end
theorem kit_ss : kitB "str" "str" = some true := by decide +kernel
theorem kit_ns : kitB "NoneType" "str" = some false := by decide +kernel
theorem kit_bs : kitB "bool" "str" = some false := by decide +kernel
theorem kit_is : kitB "int" "str" = some false := by decide +kernel
theorem kit_ls : kitB "list" "str" = some false := by decide +kernel
theorem kit_ts : kitB "tuple" "str" = some false := by decide +kernel
theorem kit_ds : kitB "dict" "str" = some false := by decide +kernel
theorem kit_bb : kitB "bool" "bool" = some true := by decide +kernel
theorem kit_LTl : kitAnyB "list" ["list", "tuple"] = some true := by decide +kernel
theorem kit_LTt : kitAnyB "tuple" ["list", "tuple"] = some true := by decide +kernel
theorem kit_LTd : kitAnyB "dict" ["list", "tuple"] = some false := by decide +kernel
theorem kit_LTs : kitAnyB "str" ["list", "tuple"] = some false := by decide +kernel
theorem kit_LTn : kitAnyB "NoneType" ["list", "tuple"] = some false := by decide +kernel
theorem kit_LTb : kitAnyB "bool" ["list", "tuple"] = some false := by decide +kernel
theorem kit_LTi : kitAnyB "int" ["list", "tuple"] = some false := by decide +kernel
/-- a small text -/
def Sm (z : Str) : Prop := z.length ≤ 1000 ∧ ∀ c ∈ z.cps.toList, c < 128
/-- a thing that the laws hand about -/
inductive Thg (H : Hp) : V → Prop
  | non : Thg H .non
  | bl (b : Bool) : Thg H (.bl b)
  | int (i : Int) : Thg H (.int i)
  | str {z : Str} (h : Sm z) : Thg H (.str z)
  | lst {a : Addr} {xs : List V} (e : H a = some (.lst xs)) : Thg H (.ref a)
  | tup {a : Addr} {xs : List V} (e : H a = some (.tup xs)) : Thg H (.ref a)
  | dic {a : Addr} {kvs : List (Key × V)} (e : H a = some (.dK kvs)) : Thg H (.ref a)
theorem Thg.mono {H H' : Hp} {v : V} (s : Same H H') (h : Thg H v) : Thg H' v := by
  cases h with
  | non => exact .non
  | bl b => exact .bl b
  | int i => exact .int i
  | str h => exact .str h
  | lst e => exact .lst (s _ _ e)
  | tup e => exact .tup (s _ _ e)
  | dic e => exact .dic (s _ _ e)
def codeOf : V → Nat
  | .str z => z.cps.toList.headD 0
  | _ => 0
theorem codeOf_sgn {c : Nat} : codeOf (sgn c) = c := rfl
theorem mem_sgn {x : V} {l : List Nat} (h : x ∈ l.map sgn) : ∃ c, c ∈ l ∧ x = sgn c := by
  obtain ⟨c, h1, h2⟩ := List.mem_map.mp h
  exact ⟨c, h1, h2.symm⟩
theorem filter_all {α : Type} {l : List α} : l.filter (fun _ => true) = l := List.filter_eq_self.mpr fun _ _ => rfl
theorem size1000 {n : Nat} (h : n ≤ 1000) : n ≤ sizeLine := Nat.le_trans h (by decide)
theorem lt1p {a b : Nat} : ([a] < [b]) ↔ a < b := by
  refine ⟨fun h => ?_, fun h => List.cons_lt_cons_iff.mpr (.inl h)⟩
  rcases List.cons_lt_cons_iff.mp h with h | ⟨_, h⟩
  · exact h
  · exact absurd h (List.not_lt_nil _)
section
variable {X : Cx}
/-- a list == [] -/
def rEqNil : R2 := fun x y H Q => ∃ a b xs ys, x = .ref a ∧ y = .ref b ∧ H a = some (.lst xs) ∧ H b = some (.lst ys) ∧ ys = [] ∧ Q (.bl xs.isEmpty) H
theorem op_eqNil (hu : X.A.units + 64 < cLine) : OpR X (compareOp .Eq) rEqNil := fun pins s σ H x y v u Q I rx ry h => by
  obtain ⟨a, b, xs, ys, rfl, rfl, ha, hb, rfl, q⟩ := h
  cases rx
  cases ry
  obtain ⟨its, r, pl, hz⟩ := I.list (SqL.of ha)
  obtain ⟨its2, r2, pl2, hz2⟩ := I.list (SqL.of hb)
  have hl := r.length
  have hl2 := r2.length
  have hu' : X.A.units < cLine := by omega
  cases xs with
  | nil =>
    have e1 : its = [] := List.eq_nil_of_length_eq_zero hl.symm
    have e2 : its2 = [] := List.eq_nil_of_length_eq_zero hl2.symm
    subst e1 e2
    exact SeqAt.eq_listAt (e := fun _ => true) pl.isList pl2.isList rfl hu' (fun j h1 _ => absurd h1 (by simp)) ⟨.bl true, H, I, rfl, q⟩
  | cons x r' =>
    refine SeqAt.eq_list_lengthsAt pl.isList pl2.isList ?_ hu' ⟨.bl false, H, I, rfl, q⟩
    simp only [List.size_toArray, ← hl, ← hl2, List.length_cons, List.length_nil]
    simp
end

/-! ### the world of a law: the pool, and what is known beside it -/
def OffS (p l : Addr) (H H' : Hp) : Prop := ∀ b o, b ≠ p → b ≠ l → H b = some o → H' b = some o
theorem OffS.refl {p l : Addr} {H : Hp} : OffS p l H H := fun _ _ _ _ h => h
theorem OffS.trans {p l : Addr} {H H1 H2 : Hp} (a : OffS p l H H1) (b : OffS p l H1 H2) : OffS p l H H2 := fun x o h1 h2 h => b x o h1 h2 (a x o h1 h2 h)
theorem Off.s {p l : Addr} {H H' : Hp} (h : Off p l H H') : OffS p l H H' := fun b o h1 h2 e => by rw [h b h1 h2]; exact e
theorem same_off {p l : Addr} {H H' : Hp} (h : Same H H') : OffS p l H H' := fun b o _ _ e => h b o e
theorem PoolAt.mono {p l : Addr} {c c' : Nat} {H : Hp} (h : PoolAt p l c H) (hc : c ≤ c') : PoolAt p l c' H := by
  obtain ⟨ns, t, n, z, y, h1, h2, h3, h4, h5, h6, h7⟩ := h
  exact ⟨ns, t, n, z, y, h1, h2, h3, h4, h5, by omega, h7⟩
theorem PoolAt.same {p l : Addr} {c : Nat} {H H' : Hp} (s : Same H H') (h : PoolAt p l c H) : PoolAt p l c H' := by
  obtain ⟨ns, t, n, z, y, h1, h2, h3⟩ := h
  exact ⟨ns, t, n, z, y, s _ _ h1, s _ _ h2, h3⟩
theorem PoolAt.np {p l : Addr} {c : Nat} {H : Hp} {q : Addr} (h : PoolAt p l c H) (hq : H q = none) : q ≠ p ∧ q ≠ l := by
  obtain ⟨ns, t, n, z, y, h1, h2, h3⟩ := h
  exact ⟨(ne_of_none h1 hq).symm, (ne_of_none h2 hq).symm⟩
/-- G: what is known, all of it in H, nothing of it the pool's -/
structure Wd (p l : Addr) (c : Nat) (G H : Hp) : Prop where
  pool : PoolAt p l c H
  kn : Same G H
  gp : G p = none
  gl : G l = none
theorem Wd.mono {p l : Addr} {c c' : Nat} {G H : Hp} (h : Wd p l c G H) (hc : c ≤ c') : Wd p l c' G H := ⟨h.pool.mono hc, h.kn, h.gp, h.gl⟩
theorem Wd.ne {p l : Addr} {c : Nat} {G H : Hp} (h : Wd p l c G H) {b : Addr} {o : HO} (e : G b = some o) : b ≠ p ∧ b ≠ l := ⟨ne_of_none e h.gp, ne_of_none e h.gl⟩
/-- all but the pool kept, the pool as it is now -/
theorem Wd.turn {p l : Addr} {c c' : Nat} {G H H' : Hp} (h : Wd p l c G H) (hp : PoolAt p l c' H') (off : OffS p l H H') : Wd p l c' G H' :=
  ⟨hp, fun b o e => off b o (h.ne e).1 (h.ne e).2 (h.kn b o e), h.gp, h.gl⟩
theorem Wd.same {p l : Addr} {c : Nat} {G H H' : Hp} (h : Wd p l c G H) (s : Same H H') : Wd p l c G H' := h.turn (h.pool.same s) (same_off s)
theorem Wd.add {p l : Addr} {c : Nat} {G H H' : Hp} {q : Addr} {o : HO} (h : Wd p l c G H) (s : OffS p l H H') (hp : PoolAt p l c H') (hq : H q = none) (e : H' q = some o) : Wd p l c (upd G q o) H' := by
  have n := h.pool.np hq
  refine ⟨hp, fun b u hb => ?_, by rw [upd_ne n.1.symm]; exact h.gp, by rw [upd_ne n.2.symm]; exact h.gl⟩
  by_cases hbq : b = q
  · subst hbq
    rw [upd_same] at hb
    rw [← Option.some.inj hb]
    exact e
  · rw [upd_ne hbq] at hb
    exact (h.turn hp s).kn b u hb
theorem Wd.new {p l : Addr} {c : Nat} {G H : Hp} {q : Addr} {o : HO} (h : Wd p l c G H) (hq : H q = none) : Wd p l c (upd G q o) (upd H q o) :=
  h.add (same_off (same_new hq)) (h.pool.same (same_new hq)) hq upd_same
theorem Wd.free {p l : Addr} {c : Nat} {G H : Hp} {q : Addr} (h : Wd p l c G H) (hq : H q = none) : G q = none := h.kn.free hq
theorem Wd.alloc {p l : Addr} {c : Nat} {G H H1 : Hp} {q : Addr} {o : HO} (h : Wd p l c G H) (hq : H q = none) (s : Same H H1) (e : H1 q = some o) : ∃ G1, Wd p l c G1 H1 ∧ Same G G1 ∧ G1 q = some o :=
  ⟨_, h.add (same_off s) (h.pool.same s) hq e, same_new (h.free hq), upd_same⟩
/-- what has come: more is known, all but the pool is kept, what is newly known was free -/
structure Gw (p l : Addr) (G H G' H' : Hp) : Prop where
  gg : Same G G'
  off : OffS p l H H'
  fr : ∀ b o, G' b = some o → G b = some o ∨ H b = none
theorem Gw.refl {p l : Addr} {G H : Hp} : Gw p l G H G H := ⟨Same.refl _, OffS.refl, fun _ _ h => .inl h⟩
theorem Gw.trans {p l : Addr} {c : Nat} {G H G1 H1 G2 H2 : Hp} (a : Gw p l G H G1 H1) (w1 : PoolAt p l c H1) (b : Gw p l G1 H1 G2 H2) : Gw p l G H G2 H2 := by
  refine ⟨a.gg.trans b.gg, a.off.trans b.off, fun x o h => ?_⟩
  rcases b.fr x o h with h1 | h1
  · exact a.fr x o h1
  · refine .inr ?_
    cases q : H x with
    | none => rfl
    | some u =>
      have n := w1.np h1
      rw [a.off x u n.1 n.2 q] at h1
      cases h1
theorem Gw.same {p l : Addr} {G H H' : Hp} (s : Same H H') : Gw p l G H G H' := ⟨Same.refl _, same_off s, fun _ _ h => .inl h⟩
theorem Gw.of {p l : Addr} {G H H' : Hp} (s : OffS p l H H') : Gw p l G H G H' := ⟨Same.refl _, s, fun _ _ h => .inl h⟩
theorem Gw.add {p l : Addr} {G H H' : Hp} {q : Addr} {o : HO} (s : OffS p l H H') (hq : H q = none) (hg : G q = none) : Gw p l G H (upd G q o) H' := by
  refine ⟨same_new hg, s, fun b u h => ?_⟩
  by_cases e : b = q
  · subst e
    exact .inr hq
  · rw [upd_ne e] at h
    exact .inl h
/-- a comprehension whose turns draw: at most k draws a turn, each item is as Pz says -/
theorem lc_pool {J : It} {xs : List V} {Gd : Hp → Prop} (w : Walk J xs.length Gd (YAt xs)) {g : TG} {tt : TT} {te : TE} {vs : List Nat} {σ : St} {D : Addr} {Q : VK} {H1 G : Hp} {p l : Addr} {c k : Nat} (Pz : V → Hp → Prop) (hmono : ∀ v G G', Same G G' → Pz v G → Pz v G')
    (hw : Wd p l c G H1) (hD : H1 D = none) (hGd : ∀ H, OffS p l H1 H → Gd H) (hz : xs.length ≤ 100000)
    (turn : ∀ x, x ∈ xs → ∀ G2 H2 c2, Gw p l G H1 G2 H2 → Wd p l c2 G2 H2 → c2 ≤ c + k * xs.length → ∀ (R : VK) (R0 : Hp → Prop), (∀ v G3 H3, Pz v G3 → Wd p l (c2 + k) G3 H3 → Gw p l G2 H2 G3 H3 → R v H3) → g x (wipe σ vs) H2 fun σ2 H3 => wipe σ2 vs = wipe σ vs ∧ tt σ2 H3 fun b H4 => if b = true then te σ2 H4 R else R0 H4)
    (done : ∀ acc G' H', acc.length = xs.length → (∀ v ∈ acc, Pz v G') → Gw p l G H1 G' H' → Wd p l (c + k * xs.length) G' H' → G' D = some (.lst acc) → Q (.ref D) H') : lcGo J g tt te vs σ D Q H1 := by
  have nD := hw.pool.np hD
  have offD : ∀ {H2 H3 : Hp} {o : HO}, OffS p l H1 H2 → OffS p l H2 H3 → OffS p l H1 (upd H3 D o) := fun a b x o h1 h2 e => by
    rw [upd_ne (ne_of_none e hD)]
    exact b x o h1 h2 (a x o h1 h2 e)
  refine lc_it w (fun i H => ∃ G' acc, acc.length = i ∧ (∀ v ∈ acc, Pz v G') ∧ Gw p l G H1 G' H ∧ Wd p l (c + k * i) G' H ∧ G' D = none ∧ H D = some (.lst acc)) ?_ (fun i H _ q => ?_) (fun i x H H' hi q y => ?_) (fun H q => ?_)
  · exact ⟨G, [], rfl, fun _ h => (nomatch h), Gw.same (same_new hD), (hw.same (same_new hD)), hw.free hD, upd_same⟩
  · obtain ⟨G', acc, _, _, gw, _⟩ := q
    exact hGd H gw.off
  · obtain ⟨rfl, hx⟩ := y
    obtain ⟨G2, acc, ha, hP, gw, hw2, gD, hacc⟩ := q
    have hk : k * i ≤ k * xs.length := Nat.mul_le_mul_left k (by omega)
    refine turn x (List.mem_of_getElem? hx) G2 _ (c + k * i) gw hw2 (by omega) _ _ fun v G3 H3 hv hw3 g3 => ?_
    have hD3 : H3 D = some (.lst acc) := g3.off D _ nD.1 nD.2 hacc
    have gD3 : G3 D = none := by
      cases e : G3 D with
      | none => rfl
      | some o =>
        rcases g3.fr D o e with h | h
        · rw [gD] at h; cases h
        · rw [hacc] at h; cases h
    have gw3 : Gw p l G H1 G3 H3 := gw.trans hw2.pool g3
    refine ⟨acc, hD3, Nat.lt_of_le_of_lt (m := 100000) (by omega) (by decide), G3, acc ++ [v], by rw [List.length_append, ha]; rfl, fun u hu => ?_, ⟨gw3.gg, offD gw3.off OffS.refl, gw3.fr⟩, ?_, gD3, upd_same⟩
    · rcases List.mem_append.mp hu with h | h
      · exact hmono u _ _ g3.gg (hP u h)
      · rw [List.mem_singleton.mp h]
        exact hv
    · have e : c + k * (i + 1) = c + k * i + k := by rw [Nat.mul_add, Nat.mul_one, Nat.add_assoc]
      rw [e]
      obtain ⟨ns, t, n, z, y, h1, h2, h3⟩ := hw3.pool
      refine ⟨⟨ns, t, n, z, y, by rw [upd_ne nD.1.symm]; exact h1, by rw [upd_ne nD.2.symm]; exact h2, h3⟩, fun b o hb => ?_, hw3.gp, hw3.gl⟩
      rw [upd_ne (ne_of_none hb gD3)]
      exact hw3.kn b o hb
  · obtain ⟨G', acc, ha, hP, gw, hw2, gD, hacc⟩ := q
    have sg : Same G' (upd G' D (.lst acc)) := same_new gD
    refine done acc (upd G' D (.lst acc)) H ha (fun v hv => hmono v _ _ sg (hP v hv)) ⟨gw.gg.trans sg, gw.off, fun b o hb => ?_⟩ ⟨hw2.pool, fun b o hb => ?_, by rw [upd_ne nD.1.symm]; exact hw2.gp, by rw [upd_ne nD.2.symm]; exact hw2.gl⟩ upd_same
    · by_cases e : b = D
      · subst e
        exact .inr hD
      · rw [upd_ne e] at hb
        exact gw.fr b o hb
    · by_cases e : b = D
      · subst e
        rw [upd_same] at hb
        rw [← Option.some.inj hb]
        exact hacc
      · rw [upd_ne e] at hb
        exact hw2.kn b o hb
/-! ### data compared -/
theorem dp_strs {K : PySem.W.Frag} {H : Hp} : ∀ (zs : List Str), DpAll K H (zs.map V.str) (zs.map PyData.str)
  | [] => .nil
  | z :: r => .cons (.str z) (dp_strs r)
theorem lay_strs : ∀ (zs : List Str), (∀ z ∈ zs, ∀ c ∈ z.cps.toList, c < 128) → PyData.canLayAll0 (zs.map PyData.str) = true
  | [], _ => rfl
  | z :: r, h => by
    have h1 : PyData.strOk z = true := by
      unfold PyData.strOk
      rw [Array.all_eq_true']
      intro c hc
      exact decide_eq_true (Nat.lt_trans (h z List.mem_cons_self c (by simpa using hc)) (by decide))
    show (PyData.canLay0 (.str z) && PyData.canLayAll0 (r.map PyData.str)) = true
    rw [lay_strs r fun y hy => h y (List.mem_cons_of_mem _ hy), Bool.and_true]
    exact h1
theorem dep_strs : ∀ (zs : List Str), PyData.depthAll (zs.map PyData.str) ≤ 1
  | [] => by simp [PyData.depthAll]
  | z :: r => by
    have := dep_strs r
    simp only [List.map_cons, PyData.depthAll, PyData.depth]
    omega
theorem shaped_strs {zs : List Str} (h : ∀ z ∈ zs, ∀ c ∈ z.cps.toList, c < 128) : SeqAt.shaped (.list (zs.map PyData.str)) = true := by
  unfold SeqAt.shaped
  have h1 := dep_strs zs
  have h2 : PyData.canLay0 (.list (zs.map PyData.str)) = true := lay_strs zs h
  rw [h2, Bool.true_and]
  refine decide_eq_true ?_
  simp only [PyData.depth]
  omega
theorem shaped_nil : SeqAt.shaped (.list []) = true := by decide
theorem eqv_nil {ds : List PyData} : PyData.eqv (.list ds) (.list []) = ds.isEmpty := by
  cases ds <;> simp [PyData.eqv, PyData.eqvAll]
theorem strs_of {xs : List V} (h : ∀ x ∈ xs, ∃ z, x = V.str z) : ∃ zs : List Str, xs = zs.map V.str := by
  induction xs with
  | nil => exact ⟨[], rfl⟩
  | cons x r ih =>
    obtain ⟨z, rfl⟩ := h x List.mem_cons_self
    obtain ⟨zs, rfl⟩ := ih fun y hy => h y (List.mem_cons_of_mem _ hy)
    exact ⟨z :: zs, rfl⟩
/-- texts == [] -/
theorem eqD_nil {K : PySem.W.Frag} {H : Hp} {a b : Addr} {zs : List Str} {Q : VK} (ha : H a = some (.lst (zs.map V.str))) (hb : H b = some (.lst [])) (h : ∀ z ∈ zs, ∀ c ∈ z.cps.toList, c < 128) (k : Q (.bl zs.isEmpty) H) : rEqD K (.ref a) (.ref b) H Q := by
  refine ⟨.list (zs.map PyData.str), .list [], .lst (SqL.of ha) (dp_strs zs), .lst (SqL.of hb) .nil, shaped_strs h, shaped_nil, ?_⟩
  rw [eqv_nil]
  cases zs <;> exact k
theorem eqD_nn {K : PySem.W.Frag} {H : Hp} {a b : Addr} {Q : VK} (ha : H a = some (.lst [])) (hb : H b = some (.lst [])) (k : Q (.bl true) H) : rEqD K (.ref a) (.ref b) H Q := eqD_nil (zs := []) ha hb (fun _ h => (nomatch h)) k
theorem neD_nn {K : PySem.W.Frag} {H : Hp} {a b : Addr} {Q : VK} (ha : H a = some (.lst [])) (hb : H b = some (.lst [])) (k : Q (.bl false) H) : rNeD K (.ref a) (.ref b) H Q := by
  refine ⟨.list [], .list [], .lst (SqL.of ha) .nil, .lst (SqL.of hb) .nil, shaped_nil, shaped_nil, ?_⟩
  rw [eqv_nil]
  exact k
/-! ### texts -/
theorem join_sm {ys : List Str} (h1 : ∀ y ∈ ys, y.length = 1) (h2 : ∀ y ∈ ys, ∀ c ∈ y.cps.toList, c < 128) : (Txt.join Str.empty ys).length ≤ ys.length ∧ ∀ c ∈ (Txt.join Str.empty ys).cps.toList, c < 128 := by
  have e : Txt.join Str.empty ys = Str.join Str.empty ys := StrLaws.glued_eq_join _ _
  rw [e]
  refine ⟨?_, fun c hc => ?_⟩
  · refine Nat.le_trans (StrLaws.join_length_le _ _) ?_
    have e2 : ys.map (·.length) = ys.map (fun _ => 1) := List.map_congr_left h1
    rw [e2, List.map_const', List.sum_replicate_nat]
    show ys.length * 1 + ys.length * 0 ≤ ys.length
    omega
  · rcases (PyProof.Rows.mem_join _ c ys).mp hc with ⟨t, ht, h⟩ | ⟨_, h⟩
    · exact h2 t ht c h
    · exact absurd (show c ∈ ([] : List Nat) from h) List.not_mem_nil
theorem at_of' {α : Type} {xs : List α} {z : Int} {j : Nat} {v : α} (e : z = (j : Int)) (h : xs[j]? = some v) : atI xs z = some v := by
  rw [e]
  exact atI_nat h
theorem atI_ex {α : Type} {xs : List α} {i : Int} (h0 : 0 ≤ i) (h1 : i < (xs.length : Int)) : ∃ v, atI xs i = some v ∧ v ∈ xs ∧ xs[i.toNat]? = some v := by
  have q : i = ((i.toNat : Nat) : Int) := (Int.toNat_of_nonneg h0).symm
  have q2 : i.toNat < xs.length := by omega
  have q3 : xs[i.toNat]? = some xs[i.toNat] := List.getElem?_eq_getElem q2
  exact ⟨xs[i.toNat], at_of' q q3, List.getElem_mem q2, q3⟩
theorem int62 {m : Int} (h0 : 0 ≤ m) (h : m ≤ 100000) : -2 ^ 62 ≤ m ∧ m < 2 ^ 62 := by
  have e : (2 : Int) ^ 62 = 4611686018427387904 := by decide
  omega
theorem wd0 {p l : Addr} {c : Nat} {H : Hp} (h : PoolAt p l c H) : Wd p l c (fun _ => none) H := ⟨h, fun _ _ e => (nomatch e), rfl, rfl⟩
theorem filter_empty {α : Type} {l : List α} {f : α → Bool} : (l.filter fun c => !f c).isEmpty = l.all f := by
  induction l with
  | nil => rfl
  | cons a r ih =>
    rw [List.filter_cons, List.all_cons]
    cases e : f a with
    | true => simpa [e] using ih
    | false => simp [e]
theorem rng_item {lo : Int} {n i : Nat} {x : V} (h : (rngV lo n)[i]? = some x) : x = .int (lo + (i : Int)) ∧ i < n := by
  have hi : i < n := by
    have := (List.getElem?_eq_some_iff.mp h).1
    rw [rngV_len] at this
    exact this
  unfold rngV at h
  rw [List.getElem?_map, List.getElem?_range hi] at h
  exact ⟨(Option.some.inj h).symm, hi⟩
theorem cutS_sm {z : Str} {lo hi : Option Int} (h : ∀ c ∈ z.cps.toList, c < 128) : ∀ c ∈ (cutS z lo hi).cps.toList, c < 128 := fun c hc => by
  unfold cutS at hc
  have hc : c ∈ (z.cps.toList.drop (HT.sIx z.length 0 lo)).take (HT.sIx z.length z.length hi - HT.sIx z.length 0 lo) := by simpa using hc
  exact h c (List.mem_of_mem_drop (List.mem_of_mem_take hc))
theorem app_sm {x y : Str} (h1 : ∀ c ∈ x.cps.toList, c < 128) (h2 : ∀ c ∈ y.cps.toList, c < 128) : ∀ c ∈ (x ++ y).cps.toList, c < 128 := fun c hc => by
  have e : (x ++ y).cps.toList = x.cps.toList ++ y.cps.toList := by
    show (x.cps ++ y.cps).toList = _
    rw [Array.toList_append]
  rw [e] at hc
  rcases List.mem_append.mp hc with h | h
  · exact h1 c h
  · exact h2 c h
theorem app_len {x y : Str} : (x ++ y).length = x.length + y.length := by
  show (x.cps ++ y.cps).size = _
  rw [Array.size_append]
  rfl

/-- one statement at a time: what follows is N -/
theorem seq_gen {t v : TS} {D : Ends} {σ : St} {H : Hp} (h : ∀ N : St → Hp → Prop, (∀ σ H, N σ H = v D σ H) → t { D with nx := N } σ H) : tSeq t v D σ H := h (v D) fun _ _ => rfl
theorem join {J : St → Hp → Prop} {t v : TS} {D : Ends} {σ : St} {H : Hp} (k : ∀ σ H, J σ H → v D σ H) (h : ∀ N : St → Hp → Prop, (∀ σ H, J σ H → N σ H) → t { D with nx := N } σ H) : tSeq t v D σ H := h (v D) k
theorem ty_same {H H' : Hp} {v : V} {t : Value} (s : Same H H') (h : tyV H v = some t) : tyV H' v = some t := by
  cases v with
  | ref a =>
    have h : tyO (H a) = some t := h
    show tyO (H' a) = some t
    cases e : H a with
    | none => rw [e] at h; cases h
    | some o => rw [s _ _ e, ← e]; exact h
  | _ => exact h
/-- where a new tuple is told, the pool's world goes on -/
theorem Wd.told {p l : Addr} {c c' : Nat} {G H H' : Hp} {q : Addr} {o : HO} (h : Wd p l c G H) (nq : H q = none) (hq : H' q = some o) (hp : PoolAt p l c' H') (off : OffS p l H H') : ∃ G1, Wd p l c' G1 H' ∧ Same G G1 ∧ G1 q = some o := by
  have np := h.pool.np nq
  have w5 := h.turn hp off
  refine ⟨upd G q o, ⟨hp, fun x u e => ?_, by rw [upd_ne np.1.symm]; exact h.gp, by rw [upd_ne np.2.symm]; exact h.gl⟩, same_new (h.free nq), upd_same⟩
  by_cases ex : x = q
  · subst ex
    rw [upd_same] at e
    rw [← Option.some.inj e]
    exact hq
  · rw [upd_ne ex] at e
    exact w5.kn x u e

/-! ### plain: fractions -/
section
variable {X : Cx}
def CDivZ (_ j : Int) : Prop := j ≠ 0 ∧ j.natAbs.log2 < 9000
theorem op_fdivZ : OpR X (binaryOp .FloorDiv) (rI CDivZ fun i j => .int (i.fdiv j)) := opI fun i j _ _ _ _ _ hc q => PyProof.Rows.floordiv_int hc.1 q (.inl (PyProof.noPylong_of_log2 hc.2))
end
theorem log2_of {j : Int} {n : Nat} (h : j.natAbs < 2 ^ n) (hn : n ≤ 9000) : j.natAbs.log2 < 9000 := by
  by_cases h0 : j.natAbs = 0
  · rw [h0]; decide
  · exact Nat.lt_of_lt_of_le ((Nat.log2_lt h0).mpr h) hn
/-- the divisor that Ratio takes out -/
def dv (t b : Int) : Int := if b < 0 then -((Int.gcd t b : Nat) : Int) else (Int.gcd t b : Nat)
theorem gcd_pos_of {t b : Int} (hb : b ≠ 0) : 0 < Int.gcd t b := Int.gcd_pos_of_ne_zero_right _ hb
theorem dv_ne {t b : Int} (hb : b ≠ 0) : dv t b ≠ 0 := by
  have := gcd_pos_of (t := t) hb
  unfold dv
  split <;> omega
theorem dv_abs {t b : Int} : (dv t b).natAbs = Int.gcd t b := by
  unfold dv
  split <;> omega
theorem fdiv_exact {x d q : Int} (hd : d ≠ 0) (h : x = d * q) : x.fdiv d = q := by
  rw [h, Int.mul_comm]
  exact Int.mul_fdiv_cancel _ hd
theorem num_of {t b : Int} (hb : b ≠ 0) : t.fdiv (dv t b) = (Rat.divInt t b).num := by
  rw [Rat.num_divInt]
  have hg := gcd_pos_of (t := t) hb
  obtain ⟨k, hk⟩ : (Int.gcd t b : Int) ∣ t := Int.gcd_dvd_left ..
  refine fdiv_exact (dv_ne hb) ?_
  rw [Int.gcd_comm b t]
  unfold dv
  by_cases h : b < 0
  · rw [if_pos h, Int.sign_eq_neg_one_of_neg h]
    have e : (-1 : Int) * t = (Int.gcd t b : Int) * (-k) := by grind
    rw [e, Int.mul_ediv_cancel_left _ (by omega)]
    grind
  · rw [if_neg h, Int.sign_eq_one_of_pos (by omega), Int.one_mul]
    have e : t / (Int.gcd t b : Int) = k := Int.ediv_eq_of_eq_mul_right (by omega) hk
    rw [e]
    exact hk
theorem den_of {t b : Int} (hb : b ≠ 0) : b.fdiv (dv t b) = ((Rat.divInt t b).den : Int) := by
  rw [Rat.den_divInt, if_neg hb]
  have hg := gcd_pos_of (t := t) hb
  obtain ⟨k, hk⟩ : (Int.gcd t b : Int) ∣ b := Int.gcd_dvd_right ..
  refine fdiv_exact (dv_ne hb) ?_
  rw [Int.gcd_comm b t, Int.natCast_ediv]
  unfold dv
  by_cases h : b < 0
  · rw [if_pos h]
    have e : ((b.natAbs : Nat) : Int) = (Int.gcd t b : Int) * (-k) := by
      have : ((b.natAbs : Nat) : Int) = -b := by omega
      rw [this]
      grind
    rw [e, Int.mul_ediv_cancel_left _ (by omega)]
    grind
  · rw [if_neg h]
    have e : ((b.natAbs : Nat) : Int) = b := by omega
    have e2 : b / (Int.gcd t b : Int) = k := Int.ediv_eq_of_eq_mul_right (by omega) hk
    rw [e, e2]
    exact hk
theorem gcd_step {a b : Int} (ha : 0 ≤ a) (hb : 0 ≤ b) : Int.gcd (b % a) a = Int.gcd a b := by
  obtain ⟨n, rfl⟩ := Int.eq_ofNat_of_zero_le ha
  obtain ⟨m, rfl⟩ := Int.eq_ofNat_of_zero_le hb
  rw [← Int.natCast_emod, Int.gcd_natCast_natCast, Int.gcd_natCast_natCast]
  exact (Nat.gcd_rec n m).symm
def Bd (n : Nat) (q : Rat) : Prop := q.num.natAbs < 2 ^ n ∧ q.den < 2 ^ n
theorem bd_divInt {t b : Int} {n : Nat} (h1 : t.natAbs < 2 ^ n) (h2 : b.natAbs < 2 ^ n) (hb : b ≠ 0) : Bd n (Rat.divInt t b) := by
  have hg := gcd_pos_of (t := t) hb
  refine ⟨?_, ?_⟩
  · rw [← num_of hb]
    refine Nat.lt_of_le_of_lt ?_ h1
    obtain ⟨k, hk⟩ : (Int.gcd t b : Int) ∣ t := Int.gcd_dvd_left ..
    obtain ⟨k', hk'⟩ : ∃ k', t = dv t b * k' := by
      unfold dv
      split
      · exact ⟨-k, by grind⟩
      · exact ⟨k, hk⟩
    rw [fdiv_exact (dv_ne hb) hk']
    have e : t.natAbs = (dv t b).natAbs * k'.natAbs := by rw [← Int.natAbs_mul, ← hk']
    rw [e, dv_abs]
    exact Nat.le_mul_of_pos_left _ hg
  · rw [Rat.den_divInt, if_neg hb]
    exact Nat.lt_of_le_of_lt (Nat.div_le_self ..) h2
theorem mul_lt_pow {a b n m : Nat} (h1 : a < 2 ^ n) (h2 : b < 2 ^ m) : a * b < 2 ^ (n + m) := by
  rw [Nat.pow_add]
  exact Nat.mul_lt_mul'' h1 h2
theorem abs_mul {a b : Int} {n m : Nat} (h1 : a.natAbs < 2 ^ n) (h2 : b.natAbs < 2 ^ m) : (a * b).natAbs < 2 ^ (n + m) := by
  rw [Int.natAbs_mul]
  exact mul_lt_pow h1 h2
theorem abs_add {a b : Int} {n : Nat} (h1 : a.natAbs < 2 ^ n) (h2 : b.natAbs < 2 ^ n) : (a + b).natAbs < 2 ^ (n + 1) := by
  rw [Nat.pow_succ]
  omega
theorem abs_sub {a b : Int} {n : Nat} (h1 : a.natAbs < 2 ^ n) (h2 : b.natAbs < 2 ^ n) : (a - b).natAbs < 2 ^ (n + 1) := by
  rw [Nat.pow_succ]
  omega
theorem abs_mono {a : Int} {n m : Nat} (h1 : a.natAbs < 2 ^ n) (h : n ≤ m) : a.natAbs < 2 ^ m := Nat.lt_of_lt_of_le h1 (Nat.pow_le_pow_right (by decide) h)
theorem Bd.mono {q : Rat} {n m : Nat} (h : Bd n q) (l : n ≤ m) : Bd m q := ⟨abs_mono h.1 l, Nat.lt_of_lt_of_le h.2 (Nat.pow_le_pow_right (by decide) l)⟩
theorem add_num (p q : Rat) : Rat.divInt (p.num * q.den + q.num * p.den) (p.den * q.den) = p + q := by
  have hp : (p.den : Int) ≠ 0 := by have := p.den_nz; omega
  have hq : (q.den : Int) ≠ 0 := by have := q.den_nz; omega
  conv => rhs; rw [← Rat.num_divInt_den p, ← Rat.num_divInt_den q, Rat.divInt_add_divInt _ _ hp hq]
theorem sub_num (p q : Rat) : Rat.divInt (p.num * q.den - q.num * p.den) (p.den * q.den) = p - q := by
  have hp : (p.den : Int) ≠ 0 := by have := p.den_nz; omega
  have hq : (q.den : Int) ≠ 0 := by have := q.den_nz; omega
  conv => rhs; rw [← Rat.num_divInt_den p, ← Rat.num_divInt_den q, Rat.divInt_sub_divInt _ _ hp hq]
theorem mul_num (p q : Rat) : Rat.divInt (p.num * q.num) (p.den * q.den) = p * q := by
  conv => rhs; rw [← Rat.num_divInt_den p, ← Rat.num_divInt_den q, Rat.divInt_mul_divInt]
theorem lt_num (p q : Rat) : (p.num * q.den < q.num * p.den) = (p < q) := propext (Rat.lt_iff p q).symm
theorem le_num (p q : Rat) : (p.num * q.den ≤ q.num * p.den) = (p ≤ q) := propext (Rat.le_iff p q).symm
theorem eq_num (p q : Rat) : (p.num = q.num ∧ (p.den : Int) = q.den) = (p = q) := by
  apply propext
  constructor
  · rintro ⟨h1, h2⟩
    exact Rat.ext h1 (by omega)
  · rintro rfl
    exact ⟨rfl, rfl⟩
theorem of_num (i : Int) : Rat.divInt i 1 = (i : Rat) := Rat.num_divInt_den (i : Rat)
theorem neg_num (p : Rat) : Rat.divInt (-p.num) p.den = -p := by
  conv => rhs; rw [← Rat.num_divInt_den p, Rat.neg_divInt]
theorem div_num (p q : Rat) : Rat.divInt (p.num * q.den) (p.den * q.num) = p / q := by
  conv => rhs; rw [← Rat.num_divInt_den p, ← Rat.num_divInt_den q, Rat.div_def, Rat.inv_divInt, Rat.divInt_mul_divInt]
theorem abs_num (p : Rat) : Rat.divInt (if p.num < 0 then -p.num else p.num) p.den = p.abs := by
  by_cases h : p.num < 0
  · rw [if_pos h, neg_num]
    have h' : ¬ 0 ≤ p := fun z => by have := Rat.num_nonneg.mpr z; omega
    exact (Rat.abs_of_nonpos (by rcases Rat.le_total (a := 0) (b := p) with z | z; exact absurd z h'; exact z)).symm
  · rw [if_neg h, Rat.num_divInt_den]
    exact (Rat.abs_of_nonneg (Rat.num_nonneg.mp (by omega))).symm
theorem zero_num (p : Rat) : (p.num = 0) = (p = 0) := propext Rat.num_eq_zero
theorem radd_num (p : Rat) (i : Int) : Rat.divInt (p.num + i * p.den) p.den = (i : Rat) + p := by
  rw [Rat.add_comm, ← add_num p (i : Rat)]
  show _ = Rat.divInt (p.num * ((1 : Nat) : Int) + i * p.den) (p.den * ((1 : Nat) : Int))
  simp
theorem rsub_num (p : Rat) (i : Int) : Rat.divInt (i * p.den - p.num) p.den = (i : Rat) - p := by
  rw [← sub_num (i : Rat) p]
  show _ = Rat.divInt (i * p.den - p.num * ((1 : Nat) : Int)) (((1 : Nat) : Int) * p.den)
  simp
theorem rmul_num (p : Rat) (i : Int) : Rat.divInt (p.num * i) p.den = (i : Rat) * p := by
  rw [Rat.mul_comm, ← mul_num p (i : Rat)]
  show _ = Rat.divInt (p.num * i) (p.den * ((1 : Nat) : Int))
  simp

/-! ### a Ratio in the heap -/
theorem nox_K {X : Cx} : X.nox.K = X.K := rfl
def tNever : TS := fun _ _ _ => False
theorem ps_never {X : Cx} {st : Stmt} : PS X st tNever := ⟨fun _ _ _ _ _ _ h => h.elim⟩
def rf (q : Rat) : List (Str × V) := [("kept_top", .int q.num), ("kept_bottom", .int q.den)]
theorem kt_kb : ¬ (("kept_bottom" : Str) = "kept_top") := by decide +kernel
theorem rf_top {q : Rat} : (rf q).lookup ("kept_top" : Str) = some (V.int q.num) := by
  unfold rf
  rw [List.lookup_cons_self]
theorem rf_bot {q : Rat} : (rf q).lookup ("kept_bottom" : Str) = some (V.int q.den) := by
  unfold rf
  rw [List.lookup_cons, show (("kept_bottom" : Str) == "kept_top") = false from by simpa using kt_kb]
  rw [List.lookup_cons_self]
theorem rf_no {q : Rat} {m : Str} (h1 : ¬ m = "kept_top") (h2 : ¬ m = "kept_bottom") : (rf q).lookup m = (none : Option V) := by
  unfold rf
  rw [List.lookup_cons, show (m == ("kept_top" : Str)) = false from by simpa using h1]
  rw [List.lookup_cons, show (m == ("kept_bottom" : Str)) = false from by simpa using h2]
  rfl
theorem rf_put {t b : Int} {q : Rat} (h1 : t = q.num) (h2 : b = q.den) : putF "kept_bottom" (.int b) (putF "kept_top" (.int t) []) = rf q := by
  subst h1
  rw [h2]
  show (if ("kept_top" : Str) = "kept_bottom" then _ else (("kept_top" : Str), V.int q.num) :: putF "kept_bottom" (.int q.den) []) = rf q
  rw [if_neg (fun z => kt_kb z.symm)]
  rfl
def RatAt (C : Addr) (H : Hp) (v : V) (q : Rat) (n : Nat) : Prop := (∃ a dx, v = .ref a ∧ H a = some (.ins C dx (rf q))) ∧ Bd n q
def NumAt (C : Addr) (H : Hp) (v : V) (q : Rat) (n : Nat) : Prop := RatAt C H v q n ∨ ((∃ i : Int, v = .int i ∧ q = i) ∧ Bd n q)
theorem RatAt.same {C : Addr} {H H' : Hp} {v : V} {q : Rat} {n : Nat} (h : RatAt C H v q n) (s : Same H H') : RatAt C H' v q n := by
  obtain ⟨⟨a, dx, e, h⟩, b⟩ := h
  exact ⟨⟨a, dx, e, s _ _ h⟩, b⟩
theorem NumAt.same {C : Addr} {H H' : Hp} {v : V} {q : Rat} {n : Nat} (h : NumAt C H v q n) (s : Same H H') : NumAt C H' v q n := by
  rcases h with h | h
  · exact .inl (h.same s)
  · exact .inr h
def mkGo (C : Addr) (sp : Sp) (dvs : List V) (E : XK) (vs : List V) (H1 : Hp) (Q : VK) : Prop := ∀ x dx, H1 x = none → H1 dx = none → dx ≠ x → sp (.ref x :: (vs ++ dvs)) (upd (upd H1 dx (.own x)) x (.ins C dx [])) (fun v H2 => v = .non ∧ Q (.ref x) H2) E
theorem tMake_eq {C : Addr} {sp : Sp} {dvs : List V} {E : XK} {t : TA} {σ : St} {H : Hp} {Q : VK} : tMake C sp dvs E t σ H Q = t σ H fun vs H1 => mkGo C sp dvs E vs H1 Q := rfl
def spInit (C : Addr) : Sp := fun vs H Q _ => ∃ x dx t b, vs = [.ref x, .int t, .int b] ∧ b ≠ 0 ∧ b.natAbs < 2 ^ 9000 ∧ H x = some (.ins C dx []) ∧ Q .non (upd H x (.ins C dx (rf (Rat.divInt t b))))
theorem make_go {C : Addr} {E : XK} {vs dvs : List V} {H : Hp} {Q : VK} {t b : Int} {n : Nat} (e : vs ++ dvs = [.int t, .int b]) (hb : b ≠ 0) (h1 : t.natAbs < 2 ^ n) (h2 : b.natAbs < 2 ^ n) (hn : n ≤ 9000)
    (k : ∀ H' v, Same H H' → RatAt C H' v (Rat.divInt t b) n → Q v H') : mkGo C (spInit C) dvs E vs H Q := by
  intro x dx nx nd ne
  rw [e]
  refine ⟨x, dx, t, b, rfl, hb, abs_mono h2 hn, upd_same, rfl, ?_⟩
  refine k _ _ (fun c o hc => ?_) ⟨⟨x, dx, rfl, upd_same⟩, bd_divInt h1 h2 hb⟩
  have c1 : c ≠ x := fun z => by rw [z, nx] at hc; cases hc
  have c2 : c ≠ dx := fun z => by rw [z, nd] at hc; cases hc
  rw [upd_ne c1, upd_ne c1, upd_ne c2]
  exact hc
theorem mulw {i j : Int} {n m : Nat} (h1 : i.natAbs < 2 ^ n) (h2 : j.natAbs < 2 ^ m) (h : n + m ≤ 20000) : CMulW i j := wide_mul (a := n + 1) (b := m + 1) (abs_mono h1 (by omega)) (abs_mono h2 (by omega)) (by omega) (by omega) (by omega)
theorem mulws {p q : Rat} {n m : Nat} (h1 : Bd n p) (h2 : Bd m q) (h : n + m ≤ 20000) : CMulW p.num q.den ∧ CMulW q.num p.den ∧ CMulW p.den q.den ∧ CMulW p.num q.num ∧ CMulW p.den q.num :=
  ⟨mulw h1.1 (by simpa using h2.2) h, mulw h2.1 (by simpa using h1.2) (by omega), mulw (by simpa using h1.2) (by simpa using h2.2) h, mulw h1.1 h2.1 h, mulw (by simpa using h1.2) h2.1 h⟩
theorem den_ne (p : Rat) : (p.den : Int) ≠ 0 := by have := p.den_nz; omega
theorem den_lt {p : Rat} {n : Nat} (h : Bd n p) : (p.den : Int).natAbs < 2 ^ n := by simpa using h.2
/-! ### promises -/
def tys (C : Addr) : List Value := [.type "int", .type "bool", .type "str", .type "list", .type "tuple", .type "dict", .type "NoneType", .ref C]
def spIsInt (C : Addr) : Sp := fun vs H Q _ => ∃ v t, vs = [v] ∧ tyV H v = some t ∧ t ∈ tys C ∧ Q (.bl (decide (t = .type "int"))) H
def spIsNum (C : Addr) : Sp := fun vs H Q _ => ∃ v t, vs = [v] ∧ tyV H v = some t ∧ t ∈ tys C ∧ Q (.bl (decide (t = .type "int") || decide (t = .ref C))) H
def spGcd : Sp := fun vs H Q _ => ∃ t b : Int, vs = [.int t, .int b] ∧ 0 ≤ b ∧ Q (.int (Int.gcd t b : Nat)) H
def spOf (C : Addr) : Sp := fun vs H Q _ => ∃ v q n, vs = [v] ∧ NumAt C H v q n ∧ n ≤ 9000 ∧ ∀ H' v', Same H H' → RatAt C H' v' q n → Q v' H'
def spBin (C : Addr) (f : Rat → Rat → Rat) : Sp := fun vs H Q _ => ∃ x y p q n m, vs = [x, y] ∧ RatAt C H x p n ∧ NumAt C H y q m ∧ n + m + 1 ≤ 9000 ∧ ∀ H' v, Same H H' → RatAt C H' v (f p q) (n + m + 1) → Q v H'
def spRBin (C : Addr) (f : Rat → Rat → Rat) : Sp := fun vs H Q _ => ∃ (x : V) (i : Int) (p : Rat) (n m : Nat), vs = [x, .int i] ∧ RatAt C H x p n ∧ Bd m i ∧ n + m + 1 ≤ 9000 ∧ ∀ H' v, Same H H' → RatAt C H' v (f i p) (n + m + 1) → Q v H'
def spUn (C : Addr) (f : Rat → Rat) : Sp := fun vs H Q _ => ∃ x p n, vs = [x] ∧ RatAt C H x p n ∧ n ≤ 9000 ∧ ∀ H' v, Same H H' → RatAt C H' v (f p) n → Q v H'
def spCmp (C : Addr) (r : Rat → Rat → Bool) : Sp := fun vs H Q _ => ∃ x y p q n m, vs = [x, y] ∧ RatAt C H x p n ∧ NumAt C H y q m ∧ n + m ≤ 9000 ∧ ∀ H', Same H H' → Q (.bl (r p q)) H'
def spCmpA (C : Addr) (r : Rat → Rat → Bool) (b0 : Bool) : Sp := fun vs H Q E => spCmp C r vs H Q E ∨ ∃ x y t, vs = [x, y] ∧ tyV H y = some t ∧ t ∈ tys C ∧ t ≠ .type "int" ∧ t ≠ .ref C ∧ Q (.bl b0) H
def spDiv (C : Addr) : Sp := fun vs H Q _ => ∃ x y p q n m, vs = [x, y] ∧ RatAt C H x p n ∧ NumAt C H y q m ∧ q ≠ 0 ∧ n + m + 1 ≤ 9000 ∧ ∀ H' v, Same H H' → RatAt C H' v (p / q) (n + m + 1) → Q v H'
def spMid (C : Addr) : Sp := fun vs H Q _ => ∃ x y p q n m, vs = [x, y] ∧ RatAt C H x p n ∧ RatAt C H y q m ∧ n + m + 10 ≤ 9000 ∧ ∀ H' v, Same H H' → RatAt C H' v ((p + q) / 2) (n + m + 4) → Q v H'
def spTru (C : Addr) : Sp := fun vs H Q _ => ∃ x p n, vs = [x] ∧ RatAt C H x p n ∧ Q (.bl (decide (p ≠ 0))) H
section
variable {P : Program} {w : World} {K : PySem.W.Frag} {mg : Str → Option Value} {base : Heap} {A : Adr}
theorem numTy (T : Txt K mg A) {H : Hp} {y : V} {q : Rat} {m : Nat} (h : NumAt A.k_Ratio H y q m) : ∃ t, tyV H y = some t ∧ (∀ C', t = .ref C' → TyF K C') ∧ PySem.W.kitAny K t [.type "int", .ref A.k_Ratio] = some true ∧ t ∈ tys A.k_Ratio ∧ (decide (t = .type "int") || decide (t = .ref A.k_Ratio)) = true := by
  rcases h with ⟨⟨a, dx, rfl, h⟩, _⟩ | ⟨⟨i, rfl, _⟩, _⟩
  · refine ⟨.ref A.k_Ratio, by rw [tyV_ref, h]; rfl, fun C' z => by cases z; exact T.t_Ratio, ?_, by simp [tys], by simp⟩
    rw [kitAny_f T.q_Ratio_int, kitAny_t kit_self]
  · exact ⟨.type "int", rfl, fun C' z => (by cases z), kitAny_t kit_self, by simp [tys], by simp⟩
theorem ok_isint (T : Txt K mg A) : FnOk P w K mg base CX0 1 A.a_IsInteger A.d_IsInteger ["value"] (spIsInt A.k_Ratio) := by
  refine T.f_IsInteger.ok scIsInteger (fun vs H Q E h => ?_) (fun cdv A' outer s H vs Q E hr h => ?_)
  · obtain ⟨v, t, rfl, _⟩ := h
    rfl
  · obtain ⟨v, t, rfl, ht, hm, k⟩ := h
    refine ⟨_, (pss_one (ps_ret (pe_and (pe_callB call_isW (by rfl) T.z_isinstance (by decide +kernel) (pa_cons (pv 0) (pa_cons (pe_bltn (v := .ty "int") (by rfl) T.z_int (by decide +kernel) rfl) pa_nil))) (pe_one (pe_not (pe_callB call_isW (by rfl) T.z_isinstance (by decide +kernel) (pa_cons (pv 0) (pa_cons (pe_bltn (v := .ty "bool") (by rfl) T.z_bool (by decide +kernel) rfl) pa_nil)))))))), ?_⟩
    have e1 : PySem.W.kitOne K (.type "int") (.type "int") = some true := kit_self
    have e2 : PySem.W.kitOne K (.type "int") (.type "bool") = some false := kit_ty (by decide +kernel)
    have e3 : PySem.W.kitOne K (.type "bool") (.type "int") = some true := kit_ty (by decide +kernel)
    have e4 : PySem.W.kitOne K (.type "bool") (.type "bool") = some true := kit_self
    have e5 : PySem.W.kitOne K (.type "str") (.type "int") = some false := kit_ty (by decide +kernel)
    have e6 : PySem.W.kitOne K (.type "list") (.type "int") = some false := kit_ty (by decide +kernel)
    have e7 : PySem.W.kitOne K (.type "tuple") (.type "int") = some false := kit_ty (by decide +kernel)
    have e8 : PySem.W.kitOne K (.type "dict") (.type "int") = some false := kit_ty (by decide +kernel)
    have e9 : PySem.W.kitOne K (.type "NoneType") (.type "int") = some false := kit_ty (by decide +kernel)
    unfold tys at hm
    rcases (by simpa using hm) with rfl | rfl | rfl | rfl | rfl | rfl | rfl | rfl
    all_goals (try simp only [tSeq, tNext, tRet, tRetN, tAsg, gName, gSub, tDrop, tIfS, tOp, tUn, tCB, tCons, tNil, tC, tVar, rI, rI0, rU, tAnd, tOr, tNot, tAndV, tOrV, tNotV, tIf, tTest, tB, tCall, tChain, tLst, tTup, tYes, rIxH, rIsB, rIsBT, rMulS, kd_non, kd_bl, kd_int, kd_str, kd_ref, kdO_lst, kdO_tup, kdO_dK, nq_n, nq_b, nq_i, nq_s, nq_l, nq_t, nq_d, ne_eq, not_false_eq_true, kit_ss, kit_ns, kit_bs, kit_is, kit_ls, kit_ts, kit_ds, kit_bb, V.ty.injEq, and_assoc, rIxU, rLenH, rLenU, rLenS, rInt1, rSetL, rEq, rNe, rCat, L2.start, List.map, List.length, List.length_cons, List.length_nil, List.replicate, List.getElem?_cons_zero, List.getElem?_cons_succ, List.set_cons_zero, List.set_cons_succ, List.set_nil, List.cons_append, List.nil_append, List.append_nil, Option.some.injEq, V.int.injEq, V.ref.injEq, V.str.injEq, V.bl.injEq, HO.lst.injEq, HO.tup.injEq, exists_eq_left', exists_and_left, exists_eq_left, List.cons.injEq, and_true, true_and, and_false, false_and, and_self, reduceCtorEq, exists_false, or_false, false_or, exists_const, at0, at1, at2, at3, at4, at5, ix51, ix52, ix54, upd_same, Nat.reduceAdd, Nat.reduceSub, Nat.zero_add, Int.reduceToNat, Int.reduceLE, Int.reduceLT, decide_eq_true_eq, Bool.not_eq_true, if_true, if_false, Bool.false_eq_true, ite_true, ite_false, Bool.not_true, Bool.not_false, decide_true, decide_false, tFor_eq, tLc_eq, iList, iTup, iRng1, iRng2, iStr, tSl, tPart, tNoPart, rSlL, cxOf_K, wipe, ex_ty2, kit_LTl, kit_LTt, kit_LTd, kit_LTs, kit_LTn, kit_LTb, kit_LTi, tM1, rIxS, exists_eq', lt1p, tDNewK, rSlS, rEqNil, nox_K, rIsW, clsV_ty, clsV_ref, ht, e1, e2, e3, e4, e5, e6, e7, e8, e9, T.q_Ratio_int, Value.ref.injEq, forall_eq', T.t_Ratio, implies_true, forall_const, false_implies]; simpa using k)
theorem ok_isnum (T : Txt K mg A) (gIsInteger : FnOk P w K mg base CX0 1 A.a_IsInteger A.d_IsInteger ["value"] (spIsInt A.k_Ratio)) : FnOk P w K mg base CX0 2 A.a_IsNumber A.d_IsNumber ["value"] (spIsNum A.k_Ratio) := by
  refine T.f_IsNumber.ok scIsNumber (fun vs H Q E h => ?_) (fun cdv A' outer s H vs Q E hr h => ?_)
  · obtain ⟨v, t, rfl, _⟩ := h
    rfl
  · obtain ⟨v, t, rfl, ht, hm, k⟩ := h
    refine ⟨_, (pss_one (ps_ret (pe_or (pe_call gIsInteger (hr.mono (by decide)) (by rfl) T.m_IsInteger T.f_IsInteger.kp T.b_IsInteger .nil pass0 (pa_cons (pv 0) pa_nil)) (pe_one (pe_callB call_isW (by rfl) T.z_isinstance (by decide +kernel) (pa_cons (pv 0) (pa_cons (pe_glob (v := .ref A.k_Ratio) (by rfl) T.k_Ratio rfl) pa_nil))))))), ?_⟩
    have e1 : PySem.W.kitOne K (.ref A.k_Ratio) (.ref A.k_Ratio) = some true := kit_self
    try simp only [tSeq, tNext, tRet, tRetN, tAsg, gName, gSub, tDrop, tIfS, tOp, tUn, tCB, tCons, tNil, tC, tVar, rI, rI0, rU, tAnd, tOr, tNot, tAndV, tOrV, tNotV, tIf, tTest, tB, tCall, tChain, tLst, tTup, tYes, rIxH, rIsB, rIsBT, rMulS, kd_non, kd_bl, kd_int, kd_str, kd_ref, kdO_lst, kdO_tup, kdO_dK, nq_n, nq_b, nq_i, nq_s, nq_l, nq_t, nq_d, ne_eq, not_false_eq_true, kit_ss, kit_ns, kit_bs, kit_is, kit_ls, kit_ts, kit_ds, kit_bb, V.ty.injEq, and_assoc, rIxU, rLenH, rLenU, rLenS, rInt1, rSetL, rEq, rNe, rCat, L2.start, List.map, List.length, List.length_cons, List.length_nil, List.replicate, List.getElem?_cons_zero, List.getElem?_cons_succ, List.set_cons_zero, List.set_cons_succ, List.set_nil, List.cons_append, List.nil_append, List.append_nil, Option.some.injEq, V.int.injEq, V.ref.injEq, V.str.injEq, V.bl.injEq, HO.lst.injEq, HO.tup.injEq, exists_eq_left', exists_and_left, exists_eq_left, List.cons.injEq, and_true, true_and, and_false, false_and, and_self, reduceCtorEq, exists_false, or_false, false_or, exists_const, at0, at1, at2, at3, at4, at5, ix51, ix52, ix54, upd_same, Nat.reduceAdd, Nat.reduceSub, Nat.zero_add, Int.reduceToNat, Int.reduceLE, Int.reduceLT, decide_eq_true_eq, Bool.not_eq_true, if_true, if_false, Bool.false_eq_true, ite_true, ite_false, Bool.not_true, Bool.not_false, decide_true, decide_false, tFor_eq, tLc_eq, iList, iTup, iRng1, iRng2, iStr, tSl, tPart, tNoPart, rSlL, cxOf_K, wipe, ex_ty2, kit_LTl, kit_LTt, kit_LTd, kit_LTs, kit_LTn, kit_LTb, kit_LTi, tM1, rIxS, exists_eq', lt1p, tDNewK, rSlS, rEqNil]
    refine ⟨v, t, rfl, ht, hm, ?_⟩
    unfold tys at hm
    rcases (by simpa using hm) with rfl | rfl | rfl | rfl | rfl | rfl | rfl | rfl
    all_goals (try simp only [tSeq, tNext, tRet, tRetN, tAsg, gName, gSub, tDrop, tIfS, tOp, tUn, tCB, tCons, tNil, tC, tVar, rI, rI0, rU, tAnd, tOr, tNot, tAndV, tOrV, tNotV, tIf, tTest, tB, tCall, tChain, tLst, tTup, tYes, rIxH, rIsB, rIsBT, rMulS, kd_non, kd_bl, kd_int, kd_str, kd_ref, kdO_lst, kdO_tup, kdO_dK, nq_n, nq_b, nq_i, nq_s, nq_l, nq_t, nq_d, ne_eq, not_false_eq_true, kit_ss, kit_ns, kit_bs, kit_is, kit_ls, kit_ts, kit_ds, kit_bb, V.ty.injEq, and_assoc, rIxU, rLenH, rLenU, rLenS, rInt1, rSetL, rEq, rNe, rCat, L2.start, List.map, List.length, List.length_cons, List.length_nil, List.replicate, List.getElem?_cons_zero, List.getElem?_cons_succ, List.set_cons_zero, List.set_cons_succ, List.set_nil, List.cons_append, List.nil_append, List.append_nil, Option.some.injEq, V.int.injEq, V.ref.injEq, V.str.injEq, V.bl.injEq, HO.lst.injEq, HO.tup.injEq, exists_eq_left', exists_and_left, exists_eq_left, List.cons.injEq, and_true, true_and, and_false, false_and, and_self, reduceCtorEq, exists_false, or_false, false_or, exists_const, at0, at1, at2, at3, at4, at5, ix51, ix52, ix54, upd_same, Nat.reduceAdd, Nat.reduceSub, Nat.zero_add, Int.reduceToNat, Int.reduceLE, Int.reduceLT, decide_eq_true_eq, Bool.not_eq_true, if_true, if_false, Bool.false_eq_true, ite_true, ite_false, Bool.not_true, Bool.not_false, decide_true, decide_false, tFor_eq, tLc_eq, iList, iTup, iRng1, iRng2, iStr, tSl, tPart, tNoPart, rSlL, cxOf_K, wipe, ex_ty2, kit_LTl, kit_LTt, kit_LTd, kit_LTs, kit_LTn, kit_LTb, kit_LTi, tM1, rIxS, exists_eq', lt1p, tDNewK, rSlS, rEqNil, nox_K, rIsW, clsV_ty, clsV_ref, ht, e1, T.q_int_Ratio, T.q_bool_Ratio, T.q_str_Ratio, T.q_list_Ratio, T.q_tuple_Ratio, T.q_dict_Ratio, T.q_NoneType_Ratio, Value.ref.injEq, forall_eq', T.t_Ratio, implies_true, forall_const, false_implies]; simpa using k)
def GcdP (t b : Int) (H : Hp) : St → Hp → Prop := fun σ H' => ∃ a c : Int, σ = [some (.int t), some (.int b), some (.int a), some (.int c)] ∧ 0 ≤ a ∧ 0 ≤ c ∧ Int.gcd a c = Int.gcd t b ∧ H' = H
def gcdM : St → Hp → Nat := fun σ _ => match σ with
  | [_, _, some (.int a), _] => a.toNat
  | _ => 0
theorem ok_gcd (T : Txt K mg A) : FnOk P w K mg base CX0 1 A.a_CommonDivisor A.d_CommonDivisor ["first", "second"] spGcd := by
  refine T.f_CommonDivisor.ok scCommonDivisor (fun vs H Q E h => ?_) (fun cdv A' outer s H vs Q E hr h => ?_)
  · obtain ⟨t, b, rfl, _⟩ := h
    rfl
  · obtain ⟨t, b, rfl, hb, k⟩ := h
    refine ⟨_, (pss_cons (ps_par (i := 2) (j := 3) (by rfl) scCommonDivisor.nd rfl rfl (by decide) rfl rfl (pa_cons (pe_callB call_abs (by rfl) T.z_abs (by decide +kernel) (pa_cons (pv 0) pa_nil)) (pa_cons (pv 1) pa_nil)) (by rfl))
      (pss_cons (ps_while PassesOwn.never (pt_cmpR (op_gt) (pv 2) pe_int (nomark _)) (pss_one (ps_par (i := 2) (j := 3) (by rfl) scCommonDivisor.nd rfl rfl (by decide) rfl rfl (pa_cons (pe_op op_mod (pv 3) (pv 2)) (pa_cons (pv 2) pa_nil)) (by rfl))))
      (pss_one (ps_ret (pv 3))))), ?_⟩
    refine ⟨_, rfl, _, rfl, _, rfl, _, _, rfl, ?_⟩
    refine while_by (GcdP t b H) gcdM ⟨_, _, rfl, ?_, hb, ?_, rfl⟩ ?_ ?_
    · split <;> omega
    · split
      · rw [Int.neg_gcd]
      · rfl
    · rintro σ H' ⟨a, c, rfl, ha, hc, hg, rfl⟩
      refine ⟨_, rfl, _, _, rfl, rfl, _, rfl, ?_⟩
      show ite (decide (0 < a) = true) _ _
      by_cases h0 : 0 < a
      · rw [if_pos (decide_eq_true h0)]
        refine ⟨_, rfl, _, rfl, _, _, rfl, rfl, h0, _, rfl, _, _, rfl, ?_⟩
        refine ⟨⟨c % a, a, rfl, Int.emod_nonneg _ (by omega), by omega, by rw [gcd_step ha hc]; exact hg, rfl⟩, ?_⟩
        show (c % a).toNat < a.toNat
        have := Int.emod_lt_of_pos c h0
        omega
      · rw [if_neg (by simpa using h0)]
        have a0 : a = 0 := by omega
        subst a0
        refine ⟨_, rfl, ?_⟩
        rw [Int.zero_gcd] at hg
        rw [← hg] at k
        have e : ((c.natAbs : Nat) : Int) = c := by omega
        rw [e] at k
        exact k
    · rintro σ H' Q1 Q2 h ⟨v, e, i, j, e1, e2, l, e3, q⟩
      exact ⟨v, e, i, j, e1, e2, l, e3, h _ _ q⟩
end



section
variable {P : Program} {w : World} {K : PySem.W.Frag} {mg : Str → Option Value} {base : Heap} {A : Adr}

theorem ok_init (T : Txt K mg A) (gIsInteger : FnOk P w K mg base CX0 1 A.a_IsInteger A.d_IsInteger ["value"] (spIsInt A.k_Ratio)) (gCommonDivisor : FnOk P w K mg base CX0 1 A.a_CommonDivisor A.d_CommonDivisor ["first", "second"] spGcd) : FnOk P w K mg base CX0 2 A.a_RatioInit A.d_RatioInit ["self", "top", "bottom"] (spInit A.k_Ratio) := by
  refine T.f_RatioInit.ok scRatioInit (fun vs H Q E h => ?_) (fun cdv A' outer s H vs Q E hr h => ?_)
  · obtain ⟨x, dx, t, b, rfl, _⟩ := h
    rfl
  · obtain ⟨x, dx, t, b, rfl, hb, hB, hx, k⟩ := h
    refine ⟨_, (pss_cons (ps_if (pt_not (pt_val (pe_call gIsInteger (hr.mono (by decide)) (by rfl) T.m_IsInteger T.f_IsInteger.kp T.b_IsInteger .nil pass0 (pa_cons (pv 1) pa_nil)))) (pss_one ps_never) pss_nil)
      (pss_cons (ps_if (PW.pt (pw_or (pt_not (pt_val (pe_call gIsInteger (hr.mono (by decide)) (by rfl) T.m_IsInteger T.f_IsInteger.kp T.b_IsInteger .nil pass0 (pa_cons (pv 2) pa_nil)))) (pw_or1 (pt_cmpR (op_eq) (pv 2) pe_int (nomark _))))) (pss_one ps_never) pss_nil)
      (pss_cons (ps_set (i := 3) scRatioInit.nd rfl (Or.inl rfl) (pe_call gCommonDivisor (hr.mono (by decide)) (by rfl) T.m_CommonDivisor T.f_CommonDivisor.kp T.b_CommonDivisor .nil pass0 (pa_cons (pv 1) (pa_cons (pe_callB call_abs (by rfl) T.z_abs (by decide +kernel) (pa_cons (pv 2) pa_nil)) pa_nil))))
      (pss_cons (ps_if (pt_cmpR (op_lt) (pv 2) pe_int (nomark _)) (pss_one (ps_set (i := 3) scRatioInit.nd rfl (Or.inl rfl) (pe_un un_neg (pv 3)))) pss_nil)
      (pss_cons (ps_fld (pv 0) (pe_op op_fdivZ (pv 1) (pv 3)) rfl)
      (pss_one (ps_fld (pv 0) (pe_op op_fdivZ (pv 2) (pv 3)) rfl))))))), ?_⟩
    try simp only [tSeq, tNext, tRet, tRetN, tAsg, gName, gSub, tDrop, tIfS, tOp, tUn, tCB, tCons, tNil, tC, tVar, rI, rI0, rU, tAnd, tOr, tNot, tAndV, tOrV, tNotV, tIf, tTest, tB, tCall, tChain, tLst, tTup, tYes, rIxH, rIsB, rIsBT, rMulS, kd_non, kd_bl, kd_int, kd_str, kd_ref, kdO_lst, kdO_tup, kdO_dK, nq_n, nq_b, nq_i, nq_s, nq_l, nq_t, nq_d, ne_eq, not_false_eq_true, kit_ss, kit_ns, kit_bs, kit_is, kit_ls, kit_ts, kit_ds, kit_bb, V.ty.injEq, and_assoc, rIxU, rLenH, rLenU, rLenS, rInt1, rSetL, rEq, rNe, rCat, L2.start, List.map, List.length, List.length_cons, List.length_nil, List.replicate, List.getElem?_cons_zero, List.getElem?_cons_succ, List.set_cons_zero, List.set_cons_succ, List.set_nil, List.cons_append, List.nil_append, List.append_nil, Option.some.injEq, V.int.injEq, V.ref.injEq, V.str.injEq, V.bl.injEq, HO.lst.injEq, HO.tup.injEq, exists_eq_left', exists_and_left, exists_eq_left, List.cons.injEq, and_true, true_and, and_false, false_and, and_self, reduceCtorEq, exists_false, or_false, false_or, exists_const, at0, at1, at2, at3, at4, at5, ix51, ix52, ix54, upd_same, Nat.reduceAdd, Nat.reduceSub, Nat.zero_add, Int.reduceToNat, Int.reduceLE, Int.reduceLT, decide_eq_true_eq, Bool.not_eq_true, if_true, if_false, Bool.false_eq_true, ite_true, ite_false, Bool.not_true, Bool.not_false, decide_true, decide_false, tFor_eq, tLc_eq, iList, iTup, iRng1, iRng2, iStr, tSl, tPart, tNoPart, rSlL, cxOf_K, wipe, ex_ty2, kit_LTl, kit_LTt, kit_LTd, kit_LTs, kit_LTn, kit_LTb, kit_LTi, tM1, rIxS, exists_eq', lt1p, tDNewK, rSlS, rEqNil, nox_K, tNever]
    refine ⟨.int t, .type "int", rfl, rfl, by simp [tys], ?_⟩
    try simp only [tSeq, tNext, tRet, tRetN, tAsg, gName, gSub, tDrop, tIfS, tOp, tUn, tCB, tCons, tNil, tC, tVar, rI, rI0, rU, tAnd, tOr, tNot, tAndV, tOrV, tNotV, tIf, tTest, tB, tCall, tChain, tLst, tTup, tYes, rIxH, rIsB, rIsBT, rMulS, kd_non, kd_bl, kd_int, kd_str, kd_ref, kdO_lst, kdO_tup, kdO_dK, nq_n, nq_b, nq_i, nq_s, nq_l, nq_t, nq_d, ne_eq, not_false_eq_true, kit_ss, kit_ns, kit_bs, kit_is, kit_ls, kit_ts, kit_ds, kit_bb, V.ty.injEq, and_assoc, rIxU, rLenH, rLenU, rLenS, rInt1, rSetL, rEq, rNe, rCat, L2.start, List.map, List.length, List.length_cons, List.length_nil, List.replicate, List.getElem?_cons_zero, List.getElem?_cons_succ, List.set_cons_zero, List.set_cons_succ, List.set_nil, List.cons_append, List.nil_append, List.append_nil, Option.some.injEq, V.int.injEq, V.ref.injEq, V.str.injEq, V.bl.injEq, HO.lst.injEq, HO.tup.injEq, exists_eq_left', exists_and_left, exists_eq_left, List.cons.injEq, and_true, true_and, and_false, false_and, and_self, reduceCtorEq, exists_false, or_false, false_or, exists_const, at0, at1, at2, at3, at4, at5, ix51, ix52, ix54, upd_same, Nat.reduceAdd, Nat.reduceSub, Nat.zero_add, Int.reduceToNat, Int.reduceLE, Int.reduceLT, decide_eq_true_eq, Bool.not_eq_true, if_true, if_false, Bool.false_eq_true, ite_true, ite_false, Bool.not_true, Bool.not_false, decide_true, decide_false, tFor_eq, tLc_eq, iList, iTup, iRng1, iRng2, iStr, tSl, tPart, tNoPart, rSlL, cxOf_K, wipe, ex_ty2, kit_LTl, kit_LTt, kit_LTd, kit_LTs, kit_LTn, kit_LTb, kit_LTi, tM1, rIxS, exists_eq', lt1p, tDNewK, rSlS, rEqNil, nox_K, tNever]
    refine ⟨.int b, .type "int", rfl, rfl, by simp [tys], ?_⟩
    try simp only [tSeq, tNext, tRet, tRetN, tAsg, gName, gSub, tDrop, tIfS, tOp, tUn, tCB, tCons, tNil, tC, tVar, rI, rI0, rU, tAnd, tOr, tNot, tAndV, tOrV, tNotV, tIf, tTest, tB, tCall, tChain, tLst, tTup, tYes, rIxH, rIsB, rIsBT, rMulS, kd_non, kd_bl, kd_int, kd_str, kd_ref, kdO_lst, kdO_tup, kdO_dK, nq_n, nq_b, nq_i, nq_s, nq_l, nq_t, nq_d, ne_eq, not_false_eq_true, kit_ss, kit_ns, kit_bs, kit_is, kit_ls, kit_ts, kit_ds, kit_bb, V.ty.injEq, and_assoc, rIxU, rLenH, rLenU, rLenS, rInt1, rSetL, rEq, rNe, rCat, L2.start, List.map, List.length, List.length_cons, List.length_nil, List.replicate, List.getElem?_cons_zero, List.getElem?_cons_succ, List.set_cons_zero, List.set_cons_succ, List.set_nil, List.cons_append, List.nil_append, List.append_nil, Option.some.injEq, V.int.injEq, V.ref.injEq, V.str.injEq, V.bl.injEq, HO.lst.injEq, HO.tup.injEq, exists_eq_left', exists_and_left, exists_eq_left, List.cons.injEq, and_true, true_and, and_false, false_and, and_self, reduceCtorEq, exists_false, or_false, false_or, exists_const, at0, at1, at2, at3, at4, at5, ix51, ix52, ix54, upd_same, Nat.reduceAdd, Nat.reduceSub, Nat.zero_add, Int.reduceToNat, Int.reduceLE, Int.reduceLT, decide_eq_true_eq, Bool.not_eq_true, if_true, if_false, Bool.false_eq_true, ite_true, ite_false, Bool.not_true, Bool.not_false, decide_true, decide_false, tFor_eq, tLc_eq, iList, iTup, iRng1, iRng2, iStr, tSl, tPart, tNoPart, rSlL, cxOf_K, wipe, ex_ty2, kit_LTl, kit_LTt, kit_LTd, kit_LTs, kit_LTn, kit_LTb, kit_LTi, tM1, rIxS, exists_eq', lt1p, tDNewK, rSlS, rEqNil, nox_K, tNever, scal_int, hb]
    refine ⟨t, _, rfl, by split <;> omega, ?_⟩
    have e : ((Int.gcd t (if b < 0 then -b else b) : Nat) : Int) = (Int.gcd t b : Nat) := by
      split
      · rw [Int.gcd_neg]
      · rfl
    rw [e]
    have hl : (dv t b).natAbs.log2 < 9000 := log2_of (n := 9000) (Nat.lt_of_le_of_lt (by rw [dv_abs]; exact Nat.le_of_dvd (by omega) (Int.gcd_dvd_natAbs_right t b)) hB) (Nat.le_refl _)
    have c1 : CDivZ t (dv t b) := ⟨dv_ne hb, hl⟩
    have c2 : CDivZ b (dv t b) := ⟨dv_ne hb, hl⟩
    by_cases h0 : b < 0
    · have ed : -((Int.gcd t b : Nat) : Int) = dv t b := by unfold dv; rw [if_pos h0]
      try simp only [tSeq, tNext, tRet, tRetN, tAsg, gName, gSub, tDrop, tIfS, tOp, tUn, tCB, tCons, tNil, tC, tVar, rI, rI0, rU, tAnd, tOr, tNot, tAndV, tOrV, tNotV, tIf, tTest, tB, tCall, tChain, tLst, tTup, tYes, rIxH, rIsB, rIsBT, rMulS, kd_non, kd_bl, kd_int, kd_str, kd_ref, kdO_lst, kdO_tup, kdO_dK, nq_n, nq_b, nq_i, nq_s, nq_l, nq_t, nq_d, ne_eq, not_false_eq_true, kit_ss, kit_ns, kit_bs, kit_is, kit_ls, kit_ts, kit_ds, kit_bb, V.ty.injEq, and_assoc, rIxU, rLenH, rLenU, rLenS, rInt1, rSetL, rEq, rNe, rCat, L2.start, List.map, List.length, List.length_cons, List.length_nil, List.replicate, List.getElem?_cons_zero, List.getElem?_cons_succ, List.set_cons_zero, List.set_cons_succ, List.set_nil, List.cons_append, List.nil_append, List.append_nil, Option.some.injEq, V.int.injEq, V.ref.injEq, V.str.injEq, V.bl.injEq, HO.lst.injEq, HO.tup.injEq, exists_eq_left', exists_and_left, exists_eq_left, List.cons.injEq, and_true, true_and, and_false, false_and, and_self, reduceCtorEq, exists_false, or_false, false_or, exists_const, at0, at1, at2, at3, at4, at5, ix51, ix52, ix54, upd_same, Nat.reduceAdd, Nat.reduceSub, Nat.zero_add, Int.reduceToNat, Int.reduceLE, Int.reduceLT, decide_eq_true_eq, Bool.not_eq_true, if_true, if_false, Bool.false_eq_true, ite_true, ite_false, Bool.not_true, Bool.not_false, decide_true, decide_false, tFor_eq, tLc_eq, iList, iTup, iRng1, iRng2, iStr, tSl, tPart, tNoPart, rSlL, cxOf_K, wipe, ex_ty2, kit_LTl, kit_LTt, kit_LTd, kit_LTs, kit_LTn, kit_LTb, kit_LTi, tM1, rIxS, exists_eq', lt1p, tDNewK, rSlS, rEqNil, nox_K, sFld, hx, h0, ed, c1, c2, T.t_Ratio.cl, T.n_Ratio_kept_top, T.n_Ratio_kept_bottom, HO.ins.injEq, upd_upd, num_of hb, den_of hb]
      exact ⟨by decide, by show 1 < 1000; decide, by rw [rf_put rfl rfl]; exact k⟩
    · have ed : ((Int.gcd t b : Nat) : Int) = dv t b := by unfold dv; rw [if_neg h0]
      try simp only [tSeq, tNext, tRet, tRetN, tAsg, gName, gSub, tDrop, tIfS, tOp, tUn, tCB, tCons, tNil, tC, tVar, rI, rI0, rU, tAnd, tOr, tNot, tAndV, tOrV, tNotV, tIf, tTest, tB, tCall, tChain, tLst, tTup, tYes, rIxH, rIsB, rIsBT, rMulS, kd_non, kd_bl, kd_int, kd_str, kd_ref, kdO_lst, kdO_tup, kdO_dK, nq_n, nq_b, nq_i, nq_s, nq_l, nq_t, nq_d, ne_eq, not_false_eq_true, kit_ss, kit_ns, kit_bs, kit_is, kit_ls, kit_ts, kit_ds, kit_bb, V.ty.injEq, and_assoc, rIxU, rLenH, rLenU, rLenS, rInt1, rSetL, rEq, rNe, rCat, L2.start, List.map, List.length, List.length_cons, List.length_nil, List.replicate, List.getElem?_cons_zero, List.getElem?_cons_succ, List.set_cons_zero, List.set_cons_succ, List.set_nil, List.cons_append, List.nil_append, List.append_nil, Option.some.injEq, V.int.injEq, V.ref.injEq, V.str.injEq, V.bl.injEq, HO.lst.injEq, HO.tup.injEq, exists_eq_left', exists_and_left, exists_eq_left, List.cons.injEq, and_true, true_and, and_false, false_and, and_self, reduceCtorEq, exists_false, or_false, false_or, exists_const, at0, at1, at2, at3, at4, at5, ix51, ix52, ix54, upd_same, Nat.reduceAdd, Nat.reduceSub, Nat.zero_add, Int.reduceToNat, Int.reduceLE, Int.reduceLT, decide_eq_true_eq, Bool.not_eq_true, if_true, if_false, Bool.false_eq_true, ite_true, ite_false, Bool.not_true, Bool.not_false, decide_true, decide_false, tFor_eq, tLc_eq, iList, iTup, iRng1, iRng2, iStr, tSl, tPart, tNoPart, rSlL, cxOf_K, wipe, ex_ty2, kit_LTl, kit_LTt, kit_LTd, kit_LTs, kit_LTn, kit_LTb, kit_LTi, tM1, rIxS, exists_eq', lt1p, tDNewK, rSlS, rEqNil, nox_K, sFld, hx, h0, ed, c1, c2, T.t_Ratio.cl, T.n_Ratio_kept_top, T.n_Ratio_kept_bottom, HO.ins.injEq, upd_upd, num_of hb, den_of hb]
      exact ⟨by decide, by show 1 < 1000; decide, by rw [rf_put rfl rfl]; exact k⟩

theorem ok_of (T : Txt K mg A) (gRatioInit : FnOk P w K mg base CX0 2 A.a_RatioInit A.d_RatioInit ["self", "top", "bottom"] (spInit A.k_Ratio)) : FnOk P w K mg base CX0 4 A.a_RatioOf A.d_RatioOf ["number"] (spOf A.k_Ratio) := by
  refine T.f_RatioOf.ok scRatioOf (fun vs H Q E h => ?_) (fun cdv A' outer s H vs Q E hr h => ?_)
  · obtain ⟨v, q, n, rfl, _⟩ := h
    rfl
  · obtain ⟨v, q, n, rfl, hv, hn, k⟩ := h
    refine ⟨_, (pss_cons (ps_if (pt_val (pe_callB call_isW (by rfl) T.z_isinstance (by decide +kernel) (pa_cons (pv 0) (pa_cons (pe_glob (v := .ref A.k_Ratio) (by rfl) T.k_Ratio rfl) pa_nil)))) (pss_one (ps_ret (pv 0))) pss_nil)
      (pss_one (ps_ret (pe_make T.mk_Ratio gRatioInit (hr.mono (by decide)) (by rfl) T.k_Ratio T.e1_RatioInit.choose_spec.2 T.e1_RatioInit.choose_spec.1 pass0 (pa_cons (pv 0) pa_nil))))), ?_⟩
    have e1 : PySem.W.kitOne K (.ref A.k_Ratio) (.ref A.k_Ratio) = some true := kit_self
    rcases hv with hv | hv
    · have hv0 := hv
      obtain ⟨⟨a, dx, rfl, ha⟩, bd⟩ := hv
      try simp only [tSeq, tNext, tRet, tRetN, tAsg, gName, gSub, tDrop, tIfS, tOp, tUn, tCB, tCons, tNil, tC, tVar, rI, rI0, rU, tAnd, tOr, tNot, tAndV, tOrV, tNotV, tIf, tTest, tB, tCall, tChain, tLst, tTup, tYes, rIxH, rIsB, rIsBT, rMulS, kd_non, kd_bl, kd_int, kd_str, kd_ref, kdO_lst, kdO_tup, kdO_dK, nq_n, nq_b, nq_i, nq_s, nq_l, nq_t, nq_d, ne_eq, not_false_eq_true, kit_ss, kit_ns, kit_bs, kit_is, kit_ls, kit_ts, kit_ds, kit_bb, V.ty.injEq, and_assoc, rIxU, rLenH, rLenU, rLenS, rInt1, rSetL, rEq, rNe, rCat, L2.start, List.map, List.length, List.length_cons, List.length_nil, List.replicate, List.getElem?_cons_zero, List.getElem?_cons_succ, List.set_cons_zero, List.set_cons_succ, List.set_nil, List.cons_append, List.nil_append, List.append_nil, Option.some.injEq, V.int.injEq, V.ref.injEq, V.str.injEq, V.bl.injEq, HO.lst.injEq, HO.tup.injEq, exists_eq_left', exists_and_left, exists_eq_left, List.cons.injEq, and_true, true_and, and_false, false_and, and_self, reduceCtorEq, exists_false, or_false, false_or, exists_const, at0, at1, at2, at3, at4, at5, ix51, ix52, ix54, upd_same, Nat.reduceAdd, Nat.reduceSub, Nat.zero_add, Int.reduceToNat, Int.reduceLE, Int.reduceLT, decide_eq_true_eq, Bool.not_eq_true, if_true, if_false, Bool.false_eq_true, ite_true, ite_false, Bool.not_true, Bool.not_false, decide_true, decide_false, tFor_eq, tLc_eq, iList, iTup, iRng1, iRng2, iStr, tSl, tPart, tNoPart, rSlL, cxOf_K, wipe, ex_ty2, kit_LTl, kit_LTt, kit_LTd, kit_LTs, kit_LTn, kit_LTb, kit_LTi, tM1, rIxS, exists_eq', lt1p, tDNewK, rSlS, rEqNil, nox_K, tMake_eq, rIsW, clsV_ty, clsV_ref, tyV_ref, tyO_ins, ha, e1, Value.ref.injEq, forall_eq', T.t_Ratio, implies_true, forall_const, false_implies]
      exact k H _ (Same.refl H) hv0
    · obtain ⟨⟨i, rfl, rfl⟩, bd⟩ := hv
      try simp only [tSeq, tNext, tRet, tRetN, tAsg, gName, gSub, tDrop, tIfS, tOp, tUn, tCB, tCons, tNil, tC, tVar, rI, rI0, rU, tAnd, tOr, tNot, tAndV, tOrV, tNotV, tIf, tTest, tB, tCall, tChain, tLst, tTup, tYes, rIxH, rIsB, rIsBT, rMulS, kd_non, kd_bl, kd_int, kd_str, kd_ref, kdO_lst, kdO_tup, kdO_dK, nq_n, nq_b, nq_i, nq_s, nq_l, nq_t, nq_d, ne_eq, not_false_eq_true, kit_ss, kit_ns, kit_bs, kit_is, kit_ls, kit_ts, kit_ds, kit_bb, V.ty.injEq, and_assoc, rIxU, rLenH, rLenU, rLenS, rInt1, rSetL, rEq, rNe, rCat, L2.start, List.map, List.length, List.length_cons, List.length_nil, List.replicate, List.getElem?_cons_zero, List.getElem?_cons_succ, List.set_cons_zero, List.set_cons_succ, List.set_nil, List.cons_append, List.nil_append, List.append_nil, Option.some.injEq, V.int.injEq, V.ref.injEq, V.str.injEq, V.bl.injEq, HO.lst.injEq, HO.tup.injEq, exists_eq_left', exists_and_left, exists_eq_left, List.cons.injEq, and_true, true_and, and_false, false_and, and_self, reduceCtorEq, exists_false, or_false, false_or, exists_const, at0, at1, at2, at3, at4, at5, ix51, ix52, ix54, upd_same, Nat.reduceAdd, Nat.reduceSub, Nat.zero_add, Int.reduceToNat, Int.reduceLE, Int.reduceLT, decide_eq_true_eq, Bool.not_eq_true, if_true, if_false, Bool.false_eq_true, ite_true, ite_false, Bool.not_true, Bool.not_false, decide_true, decide_false, tFor_eq, tLc_eq, iList, iTup, iRng1, iRng2, iStr, tSl, tPart, tNoPart, rSlL, cxOf_K, wipe, ex_ty2, kit_LTl, kit_LTt, kit_LTd, kit_LTs, kit_LTn, kit_LTb, kit_LTi, tM1, rIxS, exists_eq', lt1p, tDNewK, rSlS, rEqNil, nox_K, tMake_eq, rIsW, clsV_ty, clsV_ref, tyV_int, T.q_int_Ratio, Value.ref.injEq, forall_eq', T.t_Ratio, implies_true, forall_const, false_implies]
      exact make_go (t := i) (b := 1) rfl (by decide) bd.1 bd.2 hn fun H' v s' hv => k H' v s' (by rw [of_num] at hv; exact hv)

theorem ok_RatioAdd (T : Txt K mg A) (gRatioInit : FnOk P w K mg base CX0 2 A.a_RatioInit A.d_RatioInit ["self", "top", "bottom"] (spInit A.k_Ratio)) (gRatioOf : FnOk P w K mg base CX0 4 A.a_RatioOf A.d_RatioOf ["number"] (spOf A.k_Ratio)) : FnOk P w K mg base CX0 5 A.a_RatioAdd A.d_RatioAdd ["self", "other"] (spBin A.k_Ratio (· + ·)) := by
  refine T.f_RatioAdd.ok scRatioAdd (fun vs H Q E h => ?_) (fun cdv A' outer s H vs Q E hr h => ?_)
  · obtain ⟨x, y, p, q, n, m, rfl, _⟩ := h
    rfl
  · obtain ⟨x, y, p, q, n, m, rfl, hx, hy, hn, k⟩ := h
    refine ⟨_, (pss_cons (ps_if (pt_not (pt_val (pe_callB call_isWT (by rfl) T.z_isinstance (by decide +kernel) (pa_cons (pv 1) (pa_cons (pe_tup (pa_cons (pe_bltn (v := .ty "int") (by rfl) T.z_int (by decide +kernel) rfl) (pa_cons (pe_glob (v := .ref A.k_Ratio) (by rfl) T.k_Ratio rfl) pa_nil))) pa_nil))))) (pss_one ps_never) pss_nil)
      (pss_cons (ps_set (i := 2) scRatioAdd.nd rfl (Or.inl rfl) (pe_call gRatioOf (hr.mono (by decide)) (by rfl) T.m_RatioOf T.f_RatioOf.kp T.b_RatioOf .nil pass0 (pa_cons (pv 1) pa_nil)))
      (pss_cons (ps_set (i := 3) scRatioAdd.nd rfl (Or.inl rfl) (pe_op op_add (pe_op op_mulW (pe_fld (pv 0) rfl) (pe_fld (pv 2) rfl)) (pe_op op_mulW (pe_fld (pv 2) rfl) (pe_fld (pv 0) rfl))))
      (pss_one (ps_ret (pe_make T.mk_Ratio gRatioInit (hr.mono (by decide)) (by rfl) T.k_Ratio T.b_RatioInit .nil pass0 (pa_cons (pv 3) (pa_cons (pe_op op_mulW (pe_fld (pv 0) rfl) (pe_fld (pv 2) rfl)) pa_nil)))))))), ?_⟩
    try simp only [tSeq, tNext, tRet, tRetN, tAsg, gName, gSub, tDrop, tIfS, tOp, tUn, tCB, tCons, tNil, tC, tVar, rI, rI0, rU, tAnd, tOr, tNot, tAndV, tOrV, tNotV, tIf, tTest, tB, tCall, tChain, tLst, tTup, tYes, rIxH, rIsB, rIsBT, rMulS, kd_non, kd_bl, kd_int, kd_str, kd_ref, kdO_lst, kdO_tup, kdO_dK, nq_n, nq_b, nq_i, nq_s, nq_l, nq_t, nq_d, ne_eq, not_false_eq_true, kit_ss, kit_ns, kit_bs, kit_is, kit_ls, kit_ts, kit_ds, kit_bb, V.ty.injEq, and_assoc, rIxU, rLenH, rLenU, rLenS, rInt1, rSetL, rEq, rNe, rCat, L2.start, List.map, List.length, List.length_cons, List.length_nil, List.replicate, List.getElem?_cons_zero, List.getElem?_cons_succ, List.set_cons_zero, List.set_cons_succ, List.set_nil, List.cons_append, List.nil_append, List.append_nil, Option.some.injEq, V.int.injEq, V.ref.injEq, V.str.injEq, V.bl.injEq, HO.lst.injEq, HO.tup.injEq, exists_eq_left', exists_and_left, exists_eq_left, List.cons.injEq, and_true, true_and, and_false, false_and, and_self, reduceCtorEq, exists_false, or_false, false_or, exists_const, at0, at1, at2, at3, at4, at5, ix51, ix52, ix54, upd_same, Nat.reduceAdd, Nat.reduceSub, Nat.zero_add, Int.reduceToNat, Int.reduceLE, Int.reduceLT, decide_eq_true_eq, Bool.not_eq_true, if_true, if_false, Bool.false_eq_true, ite_true, ite_false, Bool.not_true, Bool.not_false, decide_true, decide_false, tFor_eq, tLc_eq, iList, iTup, iRng1, iRng2, iStr, tSl, tPart, tNoPart, rSlL, cxOf_K, wipe, ex_ty2, kit_LTl, kit_LTt, kit_LTd, kit_LTs, kit_LTn, kit_LTb, kit_LTi, tM1, rIxS, exists_eq', lt1p, tDNewK, rSlS, rEqNil, nox_K]
    refine ⟨by decide, ?_⟩
    intro tp n_tp; generalize g_H1 : upd H tp _ = H1; obtain ⟨s_H1, h_tp⟩ := new_facts n_tp g_H1; clear g_H1
    have hy1 := hy.same s_H1
    obtain ⟨ty, t1, t2, t3, _, _⟩ := numTy T hy1
    try simp only [tSeq, tNext, tRet, tRetN, tAsg, gName, gSub, tDrop, tIfS, tOp, tUn, tCB, tCons, tNil, tC, tVar, rI, rI0, rU, tAnd, tOr, tNot, tAndV, tOrV, tNotV, tIf, tTest, tB, tCall, tChain, tLst, tTup, tYes, rIxH, rIsB, rIsBT, rMulS, kd_non, kd_bl, kd_int, kd_str, kd_ref, kdO_lst, kdO_tup, kdO_dK, nq_n, nq_b, nq_i, nq_s, nq_l, nq_t, nq_d, ne_eq, not_false_eq_true, kit_ss, kit_ns, kit_bs, kit_is, kit_ls, kit_ts, kit_ds, kit_bb, V.ty.injEq, and_assoc, rIxU, rLenH, rLenU, rLenS, rInt1, rSetL, rEq, rNe, rCat, L2.start, List.map, List.length, List.length_cons, List.length_nil, List.replicate, List.getElem?_cons_zero, List.getElem?_cons_succ, List.set_cons_zero, List.set_cons_succ, List.set_nil, List.cons_append, List.nil_append, List.append_nil, Option.some.injEq, V.int.injEq, V.ref.injEq, V.str.injEq, V.bl.injEq, HO.lst.injEq, HO.tup.injEq, exists_eq_left', exists_and_left, exists_eq_left, List.cons.injEq, and_true, true_and, and_false, false_and, and_self, reduceCtorEq, exists_false, or_false, false_or, exists_const, at0, at1, at2, at3, at4, at5, ix51, ix52, ix54, upd_same, Nat.reduceAdd, Nat.reduceSub, Nat.zero_add, Int.reduceToNat, Int.reduceLE, Int.reduceLT, decide_eq_true_eq, Bool.not_eq_true, if_true, if_false, Bool.false_eq_true, ite_true, ite_false, Bool.not_true, Bool.not_false, decide_true, decide_false, tFor_eq, tLc_eq, iList, iTup, iRng1, iRng2, iStr, tSl, tPart, tNoPart, rSlL, cxOf_K, wipe, ex_ty2, kit_LTl, kit_LTt, kit_LTd, kit_LTs, kit_LTn, kit_LTb, kit_LTi, tM1, rIxS, exists_eq', lt1p, tDNewK, rSlS, rEqNil, nox_K, tNever, rIsWT, clsVs_ty, clsVs_ref, clsVs_nil, Option.map_some, h_tp, t1, t3]
    refine ⟨t2, y, q, m, rfl, hy1, by omega, fun H2 v s2 hv => ?_⟩
    have hx2 := hx.same (s_H1.trans s2)
    obtain ⟨⟨b, db, rfl, hb⟩, bq⟩ := hv
    obtain ⟨⟨a, da, rfl, ha⟩, bp⟩ := hx2
    obtain ⟨c1, c2, c3, c4, c5⟩ := mulws bp bq (by omega)
    try simp only [tSeq, tNext, tRet, tRetN, tAsg, gName, gSub, tDrop, tIfS, tOp, tUn, tCB, tCons, tNil, tC, tVar, rI, rI0, rU, tAnd, tOr, tNot, tAndV, tOrV, tNotV, tIf, tTest, tB, tCall, tChain, tLst, tTup, tYes, rIxH, rIsB, rIsBT, rMulS, kd_non, kd_bl, kd_int, kd_str, kd_ref, kdO_lst, kdO_tup, kdO_dK, nq_n, nq_b, nq_i, nq_s, nq_l, nq_t, nq_d, ne_eq, not_false_eq_true, kit_ss, kit_ns, kit_bs, kit_is, kit_ls, kit_ts, kit_ds, kit_bb, V.ty.injEq, and_assoc, rIxU, rLenH, rLenU, rLenS, rInt1, rSetL, rEq, rNe, rCat, L2.start, List.map, List.length, List.length_cons, List.length_nil, List.replicate, List.getElem?_cons_zero, List.getElem?_cons_succ, List.set_cons_zero, List.set_cons_succ, List.set_nil, List.cons_append, List.nil_append, List.append_nil, Option.some.injEq, V.int.injEq, V.ref.injEq, V.str.injEq, V.bl.injEq, HO.lst.injEq, HO.tup.injEq, exists_eq_left', exists_and_left, exists_eq_left, List.cons.injEq, and_true, true_and, and_false, false_and, and_self, reduceCtorEq, exists_false, or_false, false_or, exists_const, at0, at1, at2, at3, at4, at5, ix51, ix52, ix54, upd_same, Nat.reduceAdd, Nat.reduceSub, Nat.zero_add, Int.reduceToNat, Int.reduceLE, Int.reduceLT, decide_eq_true_eq, Bool.not_eq_true, if_true, if_false, Bool.false_eq_true, ite_true, ite_false, Bool.not_true, Bool.not_false, decide_true, decide_false, tFor_eq, tLc_eq, iList, iTup, iRng1, iRng2, iStr, tSl, tPart, tNoPart, rSlL, cxOf_K, wipe, ex_ty2, kit_LTl, kit_LTt, kit_LTd, kit_LTs, kit_LTn, kit_LTb, kit_LTi, tM1, rIxS, exists_eq', lt1p, tDNewK, rSlS, rEqNil, nox_K, tNever, tFld, sFld, tMake_eq, rf_top, rf_bot, T.t_Ratio.cl, T.n_Ratio_kept_top, T.n_Ratio_kept_bottom, List.lookup, exists_and_left, List.length_nil, ha, hb, HO.ins.injEq, c1, c2, c3, c4, c5]
    refine make_go (t := p.num * q.den + q.num * p.den) (b := p.den * q.den) (n := n + m + 1) rfl (Int.mul_ne_zero (den_ne p) (den_ne q)) (abs_mono (abs_add (abs_mono (abs_mul bp.1 (den_lt bq)) (Nat.le_refl (n + m))) (abs_mono (abs_mul bq.1 (den_lt bp)) (by omega))) (by omega)) (abs_mono (abs_mul (den_lt bp) (den_lt bq)) (by omega)) hn fun H' v s' hv => k H' v ((s_H1.trans s2).trans s') (by rw [add_num] at hv; exact hv)

theorem ok_RatioSub (T : Txt K mg A) (gRatioInit : FnOk P w K mg base CX0 2 A.a_RatioInit A.d_RatioInit ["self", "top", "bottom"] (spInit A.k_Ratio)) (gRatioOf : FnOk P w K mg base CX0 4 A.a_RatioOf A.d_RatioOf ["number"] (spOf A.k_Ratio)) : FnOk P w K mg base CX0 5 A.a_RatioSub A.d_RatioSub ["self", "other"] (spBin A.k_Ratio (· - ·)) := by
  refine T.f_RatioSub.ok scRatioSub (fun vs H Q E h => ?_) (fun cdv A' outer s H vs Q E hr h => ?_)
  · obtain ⟨x, y, p, q, n, m, rfl, _⟩ := h
    rfl
  · obtain ⟨x, y, p, q, n, m, rfl, hx, hy, hn, k⟩ := h
    refine ⟨_, (pss_cons (ps_if (pt_not (pt_val (pe_callB call_isWT (by rfl) T.z_isinstance (by decide +kernel) (pa_cons (pv 1) (pa_cons (pe_tup (pa_cons (pe_bltn (v := .ty "int") (by rfl) T.z_int (by decide +kernel) rfl) (pa_cons (pe_glob (v := .ref A.k_Ratio) (by rfl) T.k_Ratio rfl) pa_nil))) pa_nil))))) (pss_one ps_never) pss_nil)
      (pss_cons (ps_set (i := 2) scRatioSub.nd rfl (Or.inl rfl) (pe_call gRatioOf (hr.mono (by decide)) (by rfl) T.m_RatioOf T.f_RatioOf.kp T.b_RatioOf .nil pass0 (pa_cons (pv 1) pa_nil)))
      (pss_cons (ps_set (i := 3) scRatioSub.nd rfl (Or.inl rfl) (pe_op op_sub (pe_op op_mulW (pe_fld (pv 0) rfl) (pe_fld (pv 2) rfl)) (pe_op op_mulW (pe_fld (pv 2) rfl) (pe_fld (pv 0) rfl))))
      (pss_one (ps_ret (pe_make T.mk_Ratio gRatioInit (hr.mono (by decide)) (by rfl) T.k_Ratio T.b_RatioInit .nil pass0 (pa_cons (pv 3) (pa_cons (pe_op op_mulW (pe_fld (pv 0) rfl) (pe_fld (pv 2) rfl)) pa_nil)))))))), ?_⟩
    try simp only [tSeq, tNext, tRet, tRetN, tAsg, gName, gSub, tDrop, tIfS, tOp, tUn, tCB, tCons, tNil, tC, tVar, rI, rI0, rU, tAnd, tOr, tNot, tAndV, tOrV, tNotV, tIf, tTest, tB, tCall, tChain, tLst, tTup, tYes, rIxH, rIsB, rIsBT, rMulS, kd_non, kd_bl, kd_int, kd_str, kd_ref, kdO_lst, kdO_tup, kdO_dK, nq_n, nq_b, nq_i, nq_s, nq_l, nq_t, nq_d, ne_eq, not_false_eq_true, kit_ss, kit_ns, kit_bs, kit_is, kit_ls, kit_ts, kit_ds, kit_bb, V.ty.injEq, and_assoc, rIxU, rLenH, rLenU, rLenS, rInt1, rSetL, rEq, rNe, rCat, L2.start, List.map, List.length, List.length_cons, List.length_nil, List.replicate, List.getElem?_cons_zero, List.getElem?_cons_succ, List.set_cons_zero, List.set_cons_succ, List.set_nil, List.cons_append, List.nil_append, List.append_nil, Option.some.injEq, V.int.injEq, V.ref.injEq, V.str.injEq, V.bl.injEq, HO.lst.injEq, HO.tup.injEq, exists_eq_left', exists_and_left, exists_eq_left, List.cons.injEq, and_true, true_and, and_false, false_and, and_self, reduceCtorEq, exists_false, or_false, false_or, exists_const, at0, at1, at2, at3, at4, at5, ix51, ix52, ix54, upd_same, Nat.reduceAdd, Nat.reduceSub, Nat.zero_add, Int.reduceToNat, Int.reduceLE, Int.reduceLT, decide_eq_true_eq, Bool.not_eq_true, if_true, if_false, Bool.false_eq_true, ite_true, ite_false, Bool.not_true, Bool.not_false, decide_true, decide_false, tFor_eq, tLc_eq, iList, iTup, iRng1, iRng2, iStr, tSl, tPart, tNoPart, rSlL, cxOf_K, wipe, ex_ty2, kit_LTl, kit_LTt, kit_LTd, kit_LTs, kit_LTn, kit_LTb, kit_LTi, tM1, rIxS, exists_eq', lt1p, tDNewK, rSlS, rEqNil, nox_K]
    refine ⟨by decide, ?_⟩
    intro tp n_tp; generalize g_H1 : upd H tp _ = H1; obtain ⟨s_H1, h_tp⟩ := new_facts n_tp g_H1; clear g_H1
    have hy1 := hy.same s_H1
    obtain ⟨ty, t1, t2, t3, _, _⟩ := numTy T hy1
    try simp only [tSeq, tNext, tRet, tRetN, tAsg, gName, gSub, tDrop, tIfS, tOp, tUn, tCB, tCons, tNil, tC, tVar, rI, rI0, rU, tAnd, tOr, tNot, tAndV, tOrV, tNotV, tIf, tTest, tB, tCall, tChain, tLst, tTup, tYes, rIxH, rIsB, rIsBT, rMulS, kd_non, kd_bl, kd_int, kd_str, kd_ref, kdO_lst, kdO_tup, kdO_dK, nq_n, nq_b, nq_i, nq_s, nq_l, nq_t, nq_d, ne_eq, not_false_eq_true, kit_ss, kit_ns, kit_bs, kit_is, kit_ls, kit_ts, kit_ds, kit_bb, V.ty.injEq, and_assoc, rIxU, rLenH, rLenU, rLenS, rInt1, rSetL, rEq, rNe, rCat, L2.start, List.map, List.length, List.length_cons, List.length_nil, List.replicate, List.getElem?_cons_zero, List.getElem?_cons_succ, List.set_cons_zero, List.set_cons_succ, List.set_nil, List.cons_append, List.nil_append, List.append_nil, Option.some.injEq, V.int.injEq, V.ref.injEq, V.str.injEq, V.bl.injEq, HO.lst.injEq, HO.tup.injEq, exists_eq_left', exists_and_left, exists_eq_left, List.cons.injEq, and_true, true_and, and_false, false_and, and_self, reduceCtorEq, exists_false, or_false, false_or, exists_const, at0, at1, at2, at3, at4, at5, ix51, ix52, ix54, upd_same, Nat.reduceAdd, Nat.reduceSub, Nat.zero_add, Int.reduceToNat, Int.reduceLE, Int.reduceLT, decide_eq_true_eq, Bool.not_eq_true, if_true, if_false, Bool.false_eq_true, ite_true, ite_false, Bool.not_true, Bool.not_false, decide_true, decide_false, tFor_eq, tLc_eq, iList, iTup, iRng1, iRng2, iStr, tSl, tPart, tNoPart, rSlL, cxOf_K, wipe, ex_ty2, kit_LTl, kit_LTt, kit_LTd, kit_LTs, kit_LTn, kit_LTb, kit_LTi, tM1, rIxS, exists_eq', lt1p, tDNewK, rSlS, rEqNil, nox_K, tNever, rIsWT, clsVs_ty, clsVs_ref, clsVs_nil, Option.map_some, h_tp, t1, t3]
    refine ⟨t2, y, q, m, rfl, hy1, by omega, fun H2 v s2 hv => ?_⟩
    have hx2 := hx.same (s_H1.trans s2)
    obtain ⟨⟨b, db, rfl, hb⟩, bq⟩ := hv
    obtain ⟨⟨a, da, rfl, ha⟩, bp⟩ := hx2
    obtain ⟨c1, c2, c3, c4, c5⟩ := mulws bp bq (by omega)
    try simp only [tSeq, tNext, tRet, tRetN, tAsg, gName, gSub, tDrop, tIfS, tOp, tUn, tCB, tCons, tNil, tC, tVar, rI, rI0, rU, tAnd, tOr, tNot, tAndV, tOrV, tNotV, tIf, tTest, tB, tCall, tChain, tLst, tTup, tYes, rIxH, rIsB, rIsBT, rMulS, kd_non, kd_bl, kd_int, kd_str, kd_ref, kdO_lst, kdO_tup, kdO_dK, nq_n, nq_b, nq_i, nq_s, nq_l, nq_t, nq_d, ne_eq, not_false_eq_true, kit_ss, kit_ns, kit_bs, kit_is, kit_ls, kit_ts, kit_ds, kit_bb, V.ty.injEq, and_assoc, rIxU, rLenH, rLenU, rLenS, rInt1, rSetL, rEq, rNe, rCat, L2.start, List.map, List.length, List.length_cons, List.length_nil, List.replicate, List.getElem?_cons_zero, List.getElem?_cons_succ, List.set_cons_zero, List.set_cons_succ, List.set_nil, List.cons_append, List.nil_append, List.append_nil, Option.some.injEq, V.int.injEq, V.ref.injEq, V.str.injEq, V.bl.injEq, HO.lst.injEq, HO.tup.injEq, exists_eq_left', exists_and_left, exists_eq_left, List.cons.injEq, and_true, true_and, and_false, false_and, and_self, reduceCtorEq, exists_false, or_false, false_or, exists_const, at0, at1, at2, at3, at4, at5, ix51, ix52, ix54, upd_same, Nat.reduceAdd, Nat.reduceSub, Nat.zero_add, Int.reduceToNat, Int.reduceLE, Int.reduceLT, decide_eq_true_eq, Bool.not_eq_true, if_true, if_false, Bool.false_eq_true, ite_true, ite_false, Bool.not_true, Bool.not_false, decide_true, decide_false, tFor_eq, tLc_eq, iList, iTup, iRng1, iRng2, iStr, tSl, tPart, tNoPart, rSlL, cxOf_K, wipe, ex_ty2, kit_LTl, kit_LTt, kit_LTd, kit_LTs, kit_LTn, kit_LTb, kit_LTi, tM1, rIxS, exists_eq', lt1p, tDNewK, rSlS, rEqNil, nox_K, tNever, tFld, sFld, tMake_eq, rf_top, rf_bot, T.t_Ratio.cl, T.n_Ratio_kept_top, T.n_Ratio_kept_bottom, List.lookup, exists_and_left, List.length_nil, ha, hb, HO.ins.injEq, c1, c2, c3, c4, c5]
    refine make_go (t := p.num * q.den - q.num * p.den) (b := p.den * q.den) (n := n + m + 1) rfl (Int.mul_ne_zero (den_ne p) (den_ne q)) (abs_mono (abs_sub (abs_mono (abs_mul bp.1 (den_lt bq)) (Nat.le_refl (n + m))) (abs_mono (abs_mul bq.1 (den_lt bp)) (by omega))) (by omega)) (abs_mono (abs_mul (den_lt bp) (den_lt bq)) (by omega)) hn fun H' v s' hv => k H' v ((s_H1.trans s2).trans s') (by rw [sub_num] at hv; exact hv)

theorem ok_RatioMul (T : Txt K mg A) (gRatioInit : FnOk P w K mg base CX0 2 A.a_RatioInit A.d_RatioInit ["self", "top", "bottom"] (spInit A.k_Ratio)) (gRatioOf : FnOk P w K mg base CX0 4 A.a_RatioOf A.d_RatioOf ["number"] (spOf A.k_Ratio)) : FnOk P w K mg base CX0 5 A.a_RatioMul A.d_RatioMul ["self", "other"] (spBin A.k_Ratio (· * ·)) := by
  refine T.f_RatioMul.ok scRatioMul (fun vs H Q E h => ?_) (fun cdv A' outer s H vs Q E hr h => ?_)
  · obtain ⟨x, y, p, q, n, m, rfl, _⟩ := h
    rfl
  · obtain ⟨x, y, p, q, n, m, rfl, hx, hy, hn, k⟩ := h
    refine ⟨_, (pss_cons (ps_if (pt_not (pt_val (pe_callB call_isWT (by rfl) T.z_isinstance (by decide +kernel) (pa_cons (pv 1) (pa_cons (pe_tup (pa_cons (pe_bltn (v := .ty "int") (by rfl) T.z_int (by decide +kernel) rfl) (pa_cons (pe_glob (v := .ref A.k_Ratio) (by rfl) T.k_Ratio rfl) pa_nil))) pa_nil))))) (pss_one ps_never) pss_nil)
      (pss_cons (ps_set (i := 2) scRatioMul.nd rfl (Or.inl rfl) (pe_call gRatioOf (hr.mono (by decide)) (by rfl) T.m_RatioOf T.f_RatioOf.kp T.b_RatioOf .nil pass0 (pa_cons (pv 1) pa_nil)))
      (pss_one (ps_ret (pe_make T.mk_Ratio gRatioInit (hr.mono (by decide)) (by rfl) T.k_Ratio T.b_RatioInit .nil pass0 (pa_cons (pe_op op_mulW (pe_fld (pv 0) rfl) (pe_fld (pv 2) rfl)) (pa_cons (pe_op op_mulW (pe_fld (pv 0) rfl) (pe_fld (pv 2) rfl)) pa_nil))))))), ?_⟩
    try simp only [tSeq, tNext, tRet, tRetN, tAsg, gName, gSub, tDrop, tIfS, tOp, tUn, tCB, tCons, tNil, tC, tVar, rI, rI0, rU, tAnd, tOr, tNot, tAndV, tOrV, tNotV, tIf, tTest, tB, tCall, tChain, tLst, tTup, tYes, rIxH, rIsB, rIsBT, rMulS, kd_non, kd_bl, kd_int, kd_str, kd_ref, kdO_lst, kdO_tup, kdO_dK, nq_n, nq_b, nq_i, nq_s, nq_l, nq_t, nq_d, ne_eq, not_false_eq_true, kit_ss, kit_ns, kit_bs, kit_is, kit_ls, kit_ts, kit_ds, kit_bb, V.ty.injEq, and_assoc, rIxU, rLenH, rLenU, rLenS, rInt1, rSetL, rEq, rNe, rCat, L2.start, List.map, List.length, List.length_cons, List.length_nil, List.replicate, List.getElem?_cons_zero, List.getElem?_cons_succ, List.set_cons_zero, List.set_cons_succ, List.set_nil, List.cons_append, List.nil_append, List.append_nil, Option.some.injEq, V.int.injEq, V.ref.injEq, V.str.injEq, V.bl.injEq, HO.lst.injEq, HO.tup.injEq, exists_eq_left', exists_and_left, exists_eq_left, List.cons.injEq, and_true, true_and, and_false, false_and, and_self, reduceCtorEq, exists_false, or_false, false_or, exists_const, at0, at1, at2, at3, at4, at5, ix51, ix52, ix54, upd_same, Nat.reduceAdd, Nat.reduceSub, Nat.zero_add, Int.reduceToNat, Int.reduceLE, Int.reduceLT, decide_eq_true_eq, Bool.not_eq_true, if_true, if_false, Bool.false_eq_true, ite_true, ite_false, Bool.not_true, Bool.not_false, decide_true, decide_false, tFor_eq, tLc_eq, iList, iTup, iRng1, iRng2, iStr, tSl, tPart, tNoPart, rSlL, cxOf_K, wipe, ex_ty2, kit_LTl, kit_LTt, kit_LTd, kit_LTs, kit_LTn, kit_LTb, kit_LTi, tM1, rIxS, exists_eq', lt1p, tDNewK, rSlS, rEqNil, nox_K]
    refine ⟨by decide, ?_⟩
    intro tp n_tp; generalize g_H1 : upd H tp _ = H1; obtain ⟨s_H1, h_tp⟩ := new_facts n_tp g_H1; clear g_H1
    have hy1 := hy.same s_H1
    obtain ⟨ty, t1, t2, t3, _, _⟩ := numTy T hy1
    try simp only [tSeq, tNext, tRet, tRetN, tAsg, gName, gSub, tDrop, tIfS, tOp, tUn, tCB, tCons, tNil, tC, tVar, rI, rI0, rU, tAnd, tOr, tNot, tAndV, tOrV, tNotV, tIf, tTest, tB, tCall, tChain, tLst, tTup, tYes, rIxH, rIsB, rIsBT, rMulS, kd_non, kd_bl, kd_int, kd_str, kd_ref, kdO_lst, kdO_tup, kdO_dK, nq_n, nq_b, nq_i, nq_s, nq_l, nq_t, nq_d, ne_eq, not_false_eq_true, kit_ss, kit_ns, kit_bs, kit_is, kit_ls, kit_ts, kit_ds, kit_bb, V.ty.injEq, and_assoc, rIxU, rLenH, rLenU, rLenS, rInt1, rSetL, rEq, rNe, rCat, L2.start, List.map, List.length, List.length_cons, List.length_nil, List.replicate, List.getElem?_cons_zero, List.getElem?_cons_succ, List.set_cons_zero, List.set_cons_succ, List.set_nil, List.cons_append, List.nil_append, List.append_nil, Option.some.injEq, V.int.injEq, V.ref.injEq, V.str.injEq, V.bl.injEq, HO.lst.injEq, HO.tup.injEq, exists_eq_left', exists_and_left, exists_eq_left, List.cons.injEq, and_true, true_and, and_false, false_and, and_self, reduceCtorEq, exists_false, or_false, false_or, exists_const, at0, at1, at2, at3, at4, at5, ix51, ix52, ix54, upd_same, Nat.reduceAdd, Nat.reduceSub, Nat.zero_add, Int.reduceToNat, Int.reduceLE, Int.reduceLT, decide_eq_true_eq, Bool.not_eq_true, if_true, if_false, Bool.false_eq_true, ite_true, ite_false, Bool.not_true, Bool.not_false, decide_true, decide_false, tFor_eq, tLc_eq, iList, iTup, iRng1, iRng2, iStr, tSl, tPart, tNoPart, rSlL, cxOf_K, wipe, ex_ty2, kit_LTl, kit_LTt, kit_LTd, kit_LTs, kit_LTn, kit_LTb, kit_LTi, tM1, rIxS, exists_eq', lt1p, tDNewK, rSlS, rEqNil, nox_K, tNever, rIsWT, clsVs_ty, clsVs_ref, clsVs_nil, Option.map_some, h_tp, t1, t3]
    refine ⟨t2, y, q, m, rfl, hy1, by omega, fun H2 v s2 hv => ?_⟩
    have hx2 := hx.same (s_H1.trans s2)
    obtain ⟨⟨b, db, rfl, hb⟩, bq⟩ := hv
    obtain ⟨⟨a, da, rfl, ha⟩, bp⟩ := hx2
    obtain ⟨c1, c2, c3, c4, c5⟩ := mulws bp bq (by omega)
    try simp only [tSeq, tNext, tRet, tRetN, tAsg, gName, gSub, tDrop, tIfS, tOp, tUn, tCB, tCons, tNil, tC, tVar, rI, rI0, rU, tAnd, tOr, tNot, tAndV, tOrV, tNotV, tIf, tTest, tB, tCall, tChain, tLst, tTup, tYes, rIxH, rIsB, rIsBT, rMulS, kd_non, kd_bl, kd_int, kd_str, kd_ref, kdO_lst, kdO_tup, kdO_dK, nq_n, nq_b, nq_i, nq_s, nq_l, nq_t, nq_d, ne_eq, not_false_eq_true, kit_ss, kit_ns, kit_bs, kit_is, kit_ls, kit_ts, kit_ds, kit_bb, V.ty.injEq, and_assoc, rIxU, rLenH, rLenU, rLenS, rInt1, rSetL, rEq, rNe, rCat, L2.start, List.map, List.length, List.length_cons, List.length_nil, List.replicate, List.getElem?_cons_zero, List.getElem?_cons_succ, List.set_cons_zero, List.set_cons_succ, List.set_nil, List.cons_append, List.nil_append, List.append_nil, Option.some.injEq, V.int.injEq, V.ref.injEq, V.str.injEq, V.bl.injEq, HO.lst.injEq, HO.tup.injEq, exists_eq_left', exists_and_left, exists_eq_left, List.cons.injEq, and_true, true_and, and_false, false_and, and_self, reduceCtorEq, exists_false, or_false, false_or, exists_const, at0, at1, at2, at3, at4, at5, ix51, ix52, ix54, upd_same, Nat.reduceAdd, Nat.reduceSub, Nat.zero_add, Int.reduceToNat, Int.reduceLE, Int.reduceLT, decide_eq_true_eq, Bool.not_eq_true, if_true, if_false, Bool.false_eq_true, ite_true, ite_false, Bool.not_true, Bool.not_false, decide_true, decide_false, tFor_eq, tLc_eq, iList, iTup, iRng1, iRng2, iStr, tSl, tPart, tNoPart, rSlL, cxOf_K, wipe, ex_ty2, kit_LTl, kit_LTt, kit_LTd, kit_LTs, kit_LTn, kit_LTb, kit_LTi, tM1, rIxS, exists_eq', lt1p, tDNewK, rSlS, rEqNil, nox_K, tNever, tFld, sFld, tMake_eq, rf_top, rf_bot, T.t_Ratio.cl, T.n_Ratio_kept_top, T.n_Ratio_kept_bottom, List.lookup, exists_and_left, List.length_nil, ha, hb, HO.ins.injEq, c1, c2, c3, c4, c5]
    refine make_go (t := p.num * q.num) (b := p.den * q.den) (n := n + m + 1) rfl (Int.mul_ne_zero (den_ne p) (den_ne q)) (abs_mono (abs_mul bp.1 bq.1) (by omega)) (abs_mono (abs_mul (den_lt bp) (den_lt bq)) (by omega)) hn fun H' v s' hv => k H' v ((s_H1.trans s2).trans s') (by rw [mul_num] at hv; exact hv)

theorem ok_RatioLt (T : Txt K mg A) (gRatioOf : FnOk P w K mg base CX0 4 A.a_RatioOf A.d_RatioOf ["number"] (spOf A.k_Ratio)) : FnOk P w K mg base CX0 5 A.a_RatioLt A.d_RatioLt ["self", "other"] (spCmp A.k_Ratio (fun p q => decide (p < q))) := by
  refine T.f_RatioLt.ok scRatioLt (fun vs H Q E h => ?_) (fun cdv A' outer s H vs Q E hr h => ?_)
  · obtain ⟨x, y, p, q, n, m, rfl, _⟩ := h
    rfl
  · obtain ⟨x, y, p, q, n, m, rfl, hx, hy, hn, k⟩ := h
    refine ⟨_, (pss_cons (ps_if (pt_not (pt_val (pe_callB call_isWT (by rfl) T.z_isinstance (by decide +kernel) (pa_cons (pv 1) (pa_cons (pe_tup (pa_cons (pe_bltn (v := .ty "int") (by rfl) T.z_int (by decide +kernel) rfl) (pa_cons (pe_glob (v := .ref A.k_Ratio) (by rfl) T.k_Ratio rfl) pa_nil))) pa_nil))))) (pss_one ps_never) pss_nil)
      (pss_cons (ps_set (i := 2) scRatioLt.nd rfl (Or.inl rfl) (pe_call gRatioOf (hr.mono (by decide)) (by rfl) T.m_RatioOf T.f_RatioOf.kp T.b_RatioOf .nil pass0 (pa_cons (pv 1) pa_nil)))
      (pss_one (ps_ret (pe_cmpR (op_lt) (pe_op op_mulW (pe_fld (pv 0) rfl) (pe_fld (pv 2) rfl)) (pe_op op_mulW (pe_fld (pv 2) rfl) (pe_fld (pv 0) rfl)) (nomark _)))))), ?_⟩
    try simp only [tSeq, tNext, tRet, tRetN, tAsg, gName, gSub, tDrop, tIfS, tOp, tUn, tCB, tCons, tNil, tC, tVar, rI, rI0, rU, tAnd, tOr, tNot, tAndV, tOrV, tNotV, tIf, tTest, tB, tCall, tChain, tLst, tTup, tYes, rIxH, rIsB, rIsBT, rMulS, kd_non, kd_bl, kd_int, kd_str, kd_ref, kdO_lst, kdO_tup, kdO_dK, nq_n, nq_b, nq_i, nq_s, nq_l, nq_t, nq_d, ne_eq, not_false_eq_true, kit_ss, kit_ns, kit_bs, kit_is, kit_ls, kit_ts, kit_ds, kit_bb, V.ty.injEq, and_assoc, rIxU, rLenH, rLenU, rLenS, rInt1, rSetL, rEq, rNe, rCat, L2.start, List.map, List.length, List.length_cons, List.length_nil, List.replicate, List.getElem?_cons_zero, List.getElem?_cons_succ, List.set_cons_zero, List.set_cons_succ, List.set_nil, List.cons_append, List.nil_append, List.append_nil, Option.some.injEq, V.int.injEq, V.ref.injEq, V.str.injEq, V.bl.injEq, HO.lst.injEq, HO.tup.injEq, exists_eq_left', exists_and_left, exists_eq_left, List.cons.injEq, and_true, true_and, and_false, false_and, and_self, reduceCtorEq, exists_false, or_false, false_or, exists_const, at0, at1, at2, at3, at4, at5, ix51, ix52, ix54, upd_same, Nat.reduceAdd, Nat.reduceSub, Nat.zero_add, Int.reduceToNat, Int.reduceLE, Int.reduceLT, decide_eq_true_eq, Bool.not_eq_true, if_true, if_false, Bool.false_eq_true, ite_true, ite_false, Bool.not_true, Bool.not_false, decide_true, decide_false, tFor_eq, tLc_eq, iList, iTup, iRng1, iRng2, iStr, tSl, tPart, tNoPart, rSlL, cxOf_K, wipe, ex_ty2, kit_LTl, kit_LTt, kit_LTd, kit_LTs, kit_LTn, kit_LTb, kit_LTi, tM1, rIxS, exists_eq', lt1p, tDNewK, rSlS, rEqNil, nox_K]
    refine ⟨by decide, ?_⟩
    intro tp n_tp; generalize g_H1 : upd H tp _ = H1; obtain ⟨s_H1, h_tp⟩ := new_facts n_tp g_H1; clear g_H1
    have hy1 := hy.same s_H1
    obtain ⟨ty, t1, t2, t3, _, _⟩ := numTy T hy1
    try simp only [tSeq, tNext, tRet, tRetN, tAsg, gName, gSub, tDrop, tIfS, tOp, tUn, tCB, tCons, tNil, tC, tVar, rI, rI0, rU, tAnd, tOr, tNot, tAndV, tOrV, tNotV, tIf, tTest, tB, tCall, tChain, tLst, tTup, tYes, rIxH, rIsB, rIsBT, rMulS, kd_non, kd_bl, kd_int, kd_str, kd_ref, kdO_lst, kdO_tup, kdO_dK, nq_n, nq_b, nq_i, nq_s, nq_l, nq_t, nq_d, ne_eq, not_false_eq_true, kit_ss, kit_ns, kit_bs, kit_is, kit_ls, kit_ts, kit_ds, kit_bb, V.ty.injEq, and_assoc, rIxU, rLenH, rLenU, rLenS, rInt1, rSetL, rEq, rNe, rCat, L2.start, List.map, List.length, List.length_cons, List.length_nil, List.replicate, List.getElem?_cons_zero, List.getElem?_cons_succ, List.set_cons_zero, List.set_cons_succ, List.set_nil, List.cons_append, List.nil_append, List.append_nil, Option.some.injEq, V.int.injEq, V.ref.injEq, V.str.injEq, V.bl.injEq, HO.lst.injEq, HO.tup.injEq, exists_eq_left', exists_and_left, exists_eq_left, List.cons.injEq, and_true, true_and, and_false, false_and, and_self, reduceCtorEq, exists_false, or_false, false_or, exists_const, at0, at1, at2, at3, at4, at5, ix51, ix52, ix54, upd_same, Nat.reduceAdd, Nat.reduceSub, Nat.zero_add, Int.reduceToNat, Int.reduceLE, Int.reduceLT, decide_eq_true_eq, Bool.not_eq_true, if_true, if_false, Bool.false_eq_true, ite_true, ite_false, Bool.not_true, Bool.not_false, decide_true, decide_false, tFor_eq, tLc_eq, iList, iTup, iRng1, iRng2, iStr, tSl, tPart, tNoPart, rSlL, cxOf_K, wipe, ex_ty2, kit_LTl, kit_LTt, kit_LTd, kit_LTs, kit_LTn, kit_LTb, kit_LTi, tM1, rIxS, exists_eq', lt1p, tDNewK, rSlS, rEqNil, nox_K, tNever, rIsWT, clsVs_ty, clsVs_ref, clsVs_nil, Option.map_some, h_tp, t1, t3]
    refine ⟨t2, y, q, m, rfl, hy1, by omega, fun H2 v s2 hv => ?_⟩
    have hx2 := hx.same (s_H1.trans s2)
    obtain ⟨⟨b, db, rfl, hb⟩, bq⟩ := hv
    obtain ⟨⟨a, da, rfl, ha⟩, bp⟩ := hx2
    obtain ⟨c1, c2, c3, c4, c5⟩ := mulws bp bq (by omega)
    have k2 := k H2 (s_H1.trans s2)
    try simp only [tSeq, tNext, tRet, tRetN, tAsg, gName, gSub, tDrop, tIfS, tOp, tUn, tCB, tCons, tNil, tC, tVar, rI, rI0, rU, tAnd, tOr, tNot, tAndV, tOrV, tNotV, tIf, tTest, tB, tCall, tChain, tLst, tTup, tYes, rIxH, rIsB, rIsBT, rMulS, kd_non, kd_bl, kd_int, kd_str, kd_ref, kdO_lst, kdO_tup, kdO_dK, nq_n, nq_b, nq_i, nq_s, nq_l, nq_t, nq_d, ne_eq, not_false_eq_true, kit_ss, kit_ns, kit_bs, kit_is, kit_ls, kit_ts, kit_ds, kit_bb, V.ty.injEq, and_assoc, rIxU, rLenH, rLenU, rLenS, rInt1, rSetL, rEq, rNe, rCat, L2.start, List.map, List.length, List.length_cons, List.length_nil, List.replicate, List.getElem?_cons_zero, List.getElem?_cons_succ, List.set_cons_zero, List.set_cons_succ, List.set_nil, List.cons_append, List.nil_append, List.append_nil, Option.some.injEq, V.int.injEq, V.ref.injEq, V.str.injEq, V.bl.injEq, HO.lst.injEq, HO.tup.injEq, exists_eq_left', exists_and_left, exists_eq_left, List.cons.injEq, and_true, true_and, and_false, false_and, and_self, reduceCtorEq, exists_false, or_false, false_or, exists_const, at0, at1, at2, at3, at4, at5, ix51, ix52, ix54, upd_same, Nat.reduceAdd, Nat.reduceSub, Nat.zero_add, Int.reduceToNat, Int.reduceLE, Int.reduceLT, decide_eq_true_eq, Bool.not_eq_true, if_true, if_false, Bool.false_eq_true, ite_true, ite_false, Bool.not_true, Bool.not_false, decide_true, decide_false, tFor_eq, tLc_eq, iList, iTup, iRng1, iRng2, iStr, tSl, tPart, tNoPart, rSlL, cxOf_K, wipe, ex_ty2, kit_LTl, kit_LTt, kit_LTd, kit_LTs, kit_LTn, kit_LTb, kit_LTi, tM1, rIxS, exists_eq', lt1p, tDNewK, rSlS, rEqNil, nox_K, tNever, tFld, sFld, tMake_eq, rf_top, rf_bot, T.t_Ratio.cl, T.n_Ratio_kept_top, T.n_Ratio_kept_bottom, List.lookup, exists_and_left, List.length_nil, ha, hb, HO.ins.injEq, c1, c2, c3, c4, c5, lt_num, le_num]
    exact k2

theorem ok_RatioLe (T : Txt K mg A) (gRatioOf : FnOk P w K mg base CX0 4 A.a_RatioOf A.d_RatioOf ["number"] (spOf A.k_Ratio)) : FnOk P w K mg base CX0 5 A.a_RatioLe A.d_RatioLe ["self", "other"] (spCmp A.k_Ratio (fun p q => decide (p ≤ q))) := by
  refine T.f_RatioLe.ok scRatioLe (fun vs H Q E h => ?_) (fun cdv A' outer s H vs Q E hr h => ?_)
  · obtain ⟨x, y, p, q, n, m, rfl, _⟩ := h
    rfl
  · obtain ⟨x, y, p, q, n, m, rfl, hx, hy, hn, k⟩ := h
    refine ⟨_, (pss_cons (ps_if (pt_not (pt_val (pe_callB call_isWT (by rfl) T.z_isinstance (by decide +kernel) (pa_cons (pv 1) (pa_cons (pe_tup (pa_cons (pe_bltn (v := .ty "int") (by rfl) T.z_int (by decide +kernel) rfl) (pa_cons (pe_glob (v := .ref A.k_Ratio) (by rfl) T.k_Ratio rfl) pa_nil))) pa_nil))))) (pss_one ps_never) pss_nil)
      (pss_cons (ps_set (i := 2) scRatioLe.nd rfl (Or.inl rfl) (pe_call gRatioOf (hr.mono (by decide)) (by rfl) T.m_RatioOf T.f_RatioOf.kp T.b_RatioOf .nil pass0 (pa_cons (pv 1) pa_nil)))
      (pss_one (ps_ret (pe_cmpR (op_le) (pe_op op_mulW (pe_fld (pv 0) rfl) (pe_fld (pv 2) rfl)) (pe_op op_mulW (pe_fld (pv 2) rfl) (pe_fld (pv 0) rfl)) (nomark _)))))), ?_⟩
    try simp only [tSeq, tNext, tRet, tRetN, tAsg, gName, gSub, tDrop, tIfS, tOp, tUn, tCB, tCons, tNil, tC, tVar, rI, rI0, rU, tAnd, tOr, tNot, tAndV, tOrV, tNotV, tIf, tTest, tB, tCall, tChain, tLst, tTup, tYes, rIxH, rIsB, rIsBT, rMulS, kd_non, kd_bl, kd_int, kd_str, kd_ref, kdO_lst, kdO_tup, kdO_dK, nq_n, nq_b, nq_i, nq_s, nq_l, nq_t, nq_d, ne_eq, not_false_eq_true, kit_ss, kit_ns, kit_bs, kit_is, kit_ls, kit_ts, kit_ds, kit_bb, V.ty.injEq, and_assoc, rIxU, rLenH, rLenU, rLenS, rInt1, rSetL, rEq, rNe, rCat, L2.start, List.map, List.length, List.length_cons, List.length_nil, List.replicate, List.getElem?_cons_zero, List.getElem?_cons_succ, List.set_cons_zero, List.set_cons_succ, List.set_nil, List.cons_append, List.nil_append, List.append_nil, Option.some.injEq, V.int.injEq, V.ref.injEq, V.str.injEq, V.bl.injEq, HO.lst.injEq, HO.tup.injEq, exists_eq_left', exists_and_left, exists_eq_left, List.cons.injEq, and_true, true_and, and_false, false_and, and_self, reduceCtorEq, exists_false, or_false, false_or, exists_const, at0, at1, at2, at3, at4, at5, ix51, ix52, ix54, upd_same, Nat.reduceAdd, Nat.reduceSub, Nat.zero_add, Int.reduceToNat, Int.reduceLE, Int.reduceLT, decide_eq_true_eq, Bool.not_eq_true, if_true, if_false, Bool.false_eq_true, ite_true, ite_false, Bool.not_true, Bool.not_false, decide_true, decide_false, tFor_eq, tLc_eq, iList, iTup, iRng1, iRng2, iStr, tSl, tPart, tNoPart, rSlL, cxOf_K, wipe, ex_ty2, kit_LTl, kit_LTt, kit_LTd, kit_LTs, kit_LTn, kit_LTb, kit_LTi, tM1, rIxS, exists_eq', lt1p, tDNewK, rSlS, rEqNil, nox_K]
    refine ⟨by decide, ?_⟩
    intro tp n_tp; generalize g_H1 : upd H tp _ = H1; obtain ⟨s_H1, h_tp⟩ := new_facts n_tp g_H1; clear g_H1
    have hy1 := hy.same s_H1
    obtain ⟨ty, t1, t2, t3, _, _⟩ := numTy T hy1
    try simp only [tSeq, tNext, tRet, tRetN, tAsg, gName, gSub, tDrop, tIfS, tOp, tUn, tCB, tCons, tNil, tC, tVar, rI, rI0, rU, tAnd, tOr, tNot, tAndV, tOrV, tNotV, tIf, tTest, tB, tCall, tChain, tLst, tTup, tYes, rIxH, rIsB, rIsBT, rMulS, kd_non, kd_bl, kd_int, kd_str, kd_ref, kdO_lst, kdO_tup, kdO_dK, nq_n, nq_b, nq_i, nq_s, nq_l, nq_t, nq_d, ne_eq, not_false_eq_true, kit_ss, kit_ns, kit_bs, kit_is, kit_ls, kit_ts, kit_ds, kit_bb, V.ty.injEq, and_assoc, rIxU, rLenH, rLenU, rLenS, rInt1, rSetL, rEq, rNe, rCat, L2.start, List.map, List.length, List.length_cons, List.length_nil, List.replicate, List.getElem?_cons_zero, List.getElem?_cons_succ, List.set_cons_zero, List.set_cons_succ, List.set_nil, List.cons_append, List.nil_append, List.append_nil, Option.some.injEq, V.int.injEq, V.ref.injEq, V.str.injEq, V.bl.injEq, HO.lst.injEq, HO.tup.injEq, exists_eq_left', exists_and_left, exists_eq_left, List.cons.injEq, and_true, true_and, and_false, false_and, and_self, reduceCtorEq, exists_false, or_false, false_or, exists_const, at0, at1, at2, at3, at4, at5, ix51, ix52, ix54, upd_same, Nat.reduceAdd, Nat.reduceSub, Nat.zero_add, Int.reduceToNat, Int.reduceLE, Int.reduceLT, decide_eq_true_eq, Bool.not_eq_true, if_true, if_false, Bool.false_eq_true, ite_true, ite_false, Bool.not_true, Bool.not_false, decide_true, decide_false, tFor_eq, tLc_eq, iList, iTup, iRng1, iRng2, iStr, tSl, tPart, tNoPart, rSlL, cxOf_K, wipe, ex_ty2, kit_LTl, kit_LTt, kit_LTd, kit_LTs, kit_LTn, kit_LTb, kit_LTi, tM1, rIxS, exists_eq', lt1p, tDNewK, rSlS, rEqNil, nox_K, tNever, rIsWT, clsVs_ty, clsVs_ref, clsVs_nil, Option.map_some, h_tp, t1, t3]
    refine ⟨t2, y, q, m, rfl, hy1, by omega, fun H2 v s2 hv => ?_⟩
    have hx2 := hx.same (s_H1.trans s2)
    obtain ⟨⟨b, db, rfl, hb⟩, bq⟩ := hv
    obtain ⟨⟨a, da, rfl, ha⟩, bp⟩ := hx2
    obtain ⟨c1, c2, c3, c4, c5⟩ := mulws bp bq (by omega)
    have k2 := k H2 (s_H1.trans s2)
    try simp only [tSeq, tNext, tRet, tRetN, tAsg, gName, gSub, tDrop, tIfS, tOp, tUn, tCB, tCons, tNil, tC, tVar, rI, rI0, rU, tAnd, tOr, tNot, tAndV, tOrV, tNotV, tIf, tTest, tB, tCall, tChain, tLst, tTup, tYes, rIxH, rIsB, rIsBT, rMulS, kd_non, kd_bl, kd_int, kd_str, kd_ref, kdO_lst, kdO_tup, kdO_dK, nq_n, nq_b, nq_i, nq_s, nq_l, nq_t, nq_d, ne_eq, not_false_eq_true, kit_ss, kit_ns, kit_bs, kit_is, kit_ls, kit_ts, kit_ds, kit_bb, V.ty.injEq, and_assoc, rIxU, rLenH, rLenU, rLenS, rInt1, rSetL, rEq, rNe, rCat, L2.start, List.map, List.length, List.length_cons, List.length_nil, List.replicate, List.getElem?_cons_zero, List.getElem?_cons_succ, List.set_cons_zero, List.set_cons_succ, List.set_nil, List.cons_append, List.nil_append, List.append_nil, Option.some.injEq, V.int.injEq, V.ref.injEq, V.str.injEq, V.bl.injEq, HO.lst.injEq, HO.tup.injEq, exists_eq_left', exists_and_left, exists_eq_left, List.cons.injEq, and_true, true_and, and_false, false_and, and_self, reduceCtorEq, exists_false, or_false, false_or, exists_const, at0, at1, at2, at3, at4, at5, ix51, ix52, ix54, upd_same, Nat.reduceAdd, Nat.reduceSub, Nat.zero_add, Int.reduceToNat, Int.reduceLE, Int.reduceLT, decide_eq_true_eq, Bool.not_eq_true, if_true, if_false, Bool.false_eq_true, ite_true, ite_false, Bool.not_true, Bool.not_false, decide_true, decide_false, tFor_eq, tLc_eq, iList, iTup, iRng1, iRng2, iStr, tSl, tPart, tNoPart, rSlL, cxOf_K, wipe, ex_ty2, kit_LTl, kit_LTt, kit_LTd, kit_LTs, kit_LTn, kit_LTb, kit_LTi, tM1, rIxS, exists_eq', lt1p, tDNewK, rSlS, rEqNil, nox_K, tNever, tFld, sFld, tMake_eq, rf_top, rf_bot, T.t_Ratio.cl, T.n_Ratio_kept_top, T.n_Ratio_kept_bottom, List.lookup, exists_and_left, List.length_nil, ha, hb, HO.ins.injEq, c1, c2, c3, c4, c5, lt_num, le_num]
    exact k2

theorem ok_RatioGt (T : Txt K mg A) (gRatioOf : FnOk P w K mg base CX0 4 A.a_RatioOf A.d_RatioOf ["number"] (spOf A.k_Ratio)) : FnOk P w K mg base CX0 5 A.a_RatioGt A.d_RatioGt ["self", "other"] (spCmp A.k_Ratio (fun p q => decide (q < p))) := by
  refine T.f_RatioGt.ok scRatioGt (fun vs H Q E h => ?_) (fun cdv A' outer s H vs Q E hr h => ?_)
  · obtain ⟨x, y, p, q, n, m, rfl, _⟩ := h
    rfl
  · obtain ⟨x, y, p, q, n, m, rfl, hx, hy, hn, k⟩ := h
    refine ⟨_, (pss_cons (ps_if (pt_not (pt_val (pe_callB call_isWT (by rfl) T.z_isinstance (by decide +kernel) (pa_cons (pv 1) (pa_cons (pe_tup (pa_cons (pe_bltn (v := .ty "int") (by rfl) T.z_int (by decide +kernel) rfl) (pa_cons (pe_glob (v := .ref A.k_Ratio) (by rfl) T.k_Ratio rfl) pa_nil))) pa_nil))))) (pss_one ps_never) pss_nil)
      (pss_cons (ps_set (i := 2) scRatioGt.nd rfl (Or.inl rfl) (pe_call gRatioOf (hr.mono (by decide)) (by rfl) T.m_RatioOf T.f_RatioOf.kp T.b_RatioOf .nil pass0 (pa_cons (pv 1) pa_nil)))
      (pss_one (ps_ret (pe_cmpR (op_gt) (pe_op op_mulW (pe_fld (pv 0) rfl) (pe_fld (pv 2) rfl)) (pe_op op_mulW (pe_fld (pv 2) rfl) (pe_fld (pv 0) rfl)) (nomark _)))))), ?_⟩
    try simp only [tSeq, tNext, tRet, tRetN, tAsg, gName, gSub, tDrop, tIfS, tOp, tUn, tCB, tCons, tNil, tC, tVar, rI, rI0, rU, tAnd, tOr, tNot, tAndV, tOrV, tNotV, tIf, tTest, tB, tCall, tChain, tLst, tTup, tYes, rIxH, rIsB, rIsBT, rMulS, kd_non, kd_bl, kd_int, kd_str, kd_ref, kdO_lst, kdO_tup, kdO_dK, nq_n, nq_b, nq_i, nq_s, nq_l, nq_t, nq_d, ne_eq, not_false_eq_true, kit_ss, kit_ns, kit_bs, kit_is, kit_ls, kit_ts, kit_ds, kit_bb, V.ty.injEq, and_assoc, rIxU, rLenH, rLenU, rLenS, rInt1, rSetL, rEq, rNe, rCat, L2.start, List.map, List.length, List.length_cons, List.length_nil, List.replicate, List.getElem?_cons_zero, List.getElem?_cons_succ, List.set_cons_zero, List.set_cons_succ, List.set_nil, List.cons_append, List.nil_append, List.append_nil, Option.some.injEq, V.int.injEq, V.ref.injEq, V.str.injEq, V.bl.injEq, HO.lst.injEq, HO.tup.injEq, exists_eq_left', exists_and_left, exists_eq_left, List.cons.injEq, and_true, true_and, and_false, false_and, and_self, reduceCtorEq, exists_false, or_false, false_or, exists_const, at0, at1, at2, at3, at4, at5, ix51, ix52, ix54, upd_same, Nat.reduceAdd, Nat.reduceSub, Nat.zero_add, Int.reduceToNat, Int.reduceLE, Int.reduceLT, decide_eq_true_eq, Bool.not_eq_true, if_true, if_false, Bool.false_eq_true, ite_true, ite_false, Bool.not_true, Bool.not_false, decide_true, decide_false, tFor_eq, tLc_eq, iList, iTup, iRng1, iRng2, iStr, tSl, tPart, tNoPart, rSlL, cxOf_K, wipe, ex_ty2, kit_LTl, kit_LTt, kit_LTd, kit_LTs, kit_LTn, kit_LTb, kit_LTi, tM1, rIxS, exists_eq', lt1p, tDNewK, rSlS, rEqNil, nox_K]
    refine ⟨by decide, ?_⟩
    intro tp n_tp; generalize g_H1 : upd H tp _ = H1; obtain ⟨s_H1, h_tp⟩ := new_facts n_tp g_H1; clear g_H1
    have hy1 := hy.same s_H1
    obtain ⟨ty, t1, t2, t3, _, _⟩ := numTy T hy1
    try simp only [tSeq, tNext, tRet, tRetN, tAsg, gName, gSub, tDrop, tIfS, tOp, tUn, tCB, tCons, tNil, tC, tVar, rI, rI0, rU, tAnd, tOr, tNot, tAndV, tOrV, tNotV, tIf, tTest, tB, tCall, tChain, tLst, tTup, tYes, rIxH, rIsB, rIsBT, rMulS, kd_non, kd_bl, kd_int, kd_str, kd_ref, kdO_lst, kdO_tup, kdO_dK, nq_n, nq_b, nq_i, nq_s, nq_l, nq_t, nq_d, ne_eq, not_false_eq_true, kit_ss, kit_ns, kit_bs, kit_is, kit_ls, kit_ts, kit_ds, kit_bb, V.ty.injEq, and_assoc, rIxU, rLenH, rLenU, rLenS, rInt1, rSetL, rEq, rNe, rCat, L2.start, List.map, List.length, List.length_cons, List.length_nil, List.replicate, List.getElem?_cons_zero, List.getElem?_cons_succ, List.set_cons_zero, List.set_cons_succ, List.set_nil, List.cons_append, List.nil_append, List.append_nil, Option.some.injEq, V.int.injEq, V.ref.injEq, V.str.injEq, V.bl.injEq, HO.lst.injEq, HO.tup.injEq, exists_eq_left', exists_and_left, exists_eq_left, List.cons.injEq, and_true, true_and, and_false, false_and, and_self, reduceCtorEq, exists_false, or_false, false_or, exists_const, at0, at1, at2, at3, at4, at5, ix51, ix52, ix54, upd_same, Nat.reduceAdd, Nat.reduceSub, Nat.zero_add, Int.reduceToNat, Int.reduceLE, Int.reduceLT, decide_eq_true_eq, Bool.not_eq_true, if_true, if_false, Bool.false_eq_true, ite_true, ite_false, Bool.not_true, Bool.not_false, decide_true, decide_false, tFor_eq, tLc_eq, iList, iTup, iRng1, iRng2, iStr, tSl, tPart, tNoPart, rSlL, cxOf_K, wipe, ex_ty2, kit_LTl, kit_LTt, kit_LTd, kit_LTs, kit_LTn, kit_LTb, kit_LTi, tM1, rIxS, exists_eq', lt1p, tDNewK, rSlS, rEqNil, nox_K, tNever, rIsWT, clsVs_ty, clsVs_ref, clsVs_nil, Option.map_some, h_tp, t1, t3]
    refine ⟨t2, y, q, m, rfl, hy1, by omega, fun H2 v s2 hv => ?_⟩
    have hx2 := hx.same (s_H1.trans s2)
    obtain ⟨⟨b, db, rfl, hb⟩, bq⟩ := hv
    obtain ⟨⟨a, da, rfl, ha⟩, bp⟩ := hx2
    obtain ⟨c1, c2, c3, c4, c5⟩ := mulws bp bq (by omega)
    have k2 := k H2 (s_H1.trans s2)
    try simp only [tSeq, tNext, tRet, tRetN, tAsg, gName, gSub, tDrop, tIfS, tOp, tUn, tCB, tCons, tNil, tC, tVar, rI, rI0, rU, tAnd, tOr, tNot, tAndV, tOrV, tNotV, tIf, tTest, tB, tCall, tChain, tLst, tTup, tYes, rIxH, rIsB, rIsBT, rMulS, kd_non, kd_bl, kd_int, kd_str, kd_ref, kdO_lst, kdO_tup, kdO_dK, nq_n, nq_b, nq_i, nq_s, nq_l, nq_t, nq_d, ne_eq, not_false_eq_true, kit_ss, kit_ns, kit_bs, kit_is, kit_ls, kit_ts, kit_ds, kit_bb, V.ty.injEq, and_assoc, rIxU, rLenH, rLenU, rLenS, rInt1, rSetL, rEq, rNe, rCat, L2.start, List.map, List.length, List.length_cons, List.length_nil, List.replicate, List.getElem?_cons_zero, List.getElem?_cons_succ, List.set_cons_zero, List.set_cons_succ, List.set_nil, List.cons_append, List.nil_append, List.append_nil, Option.some.injEq, V.int.injEq, V.ref.injEq, V.str.injEq, V.bl.injEq, HO.lst.injEq, HO.tup.injEq, exists_eq_left', exists_and_left, exists_eq_left, List.cons.injEq, and_true, true_and, and_false, false_and, and_self, reduceCtorEq, exists_false, or_false, false_or, exists_const, at0, at1, at2, at3, at4, at5, ix51, ix52, ix54, upd_same, Nat.reduceAdd, Nat.reduceSub, Nat.zero_add, Int.reduceToNat, Int.reduceLE, Int.reduceLT, decide_eq_true_eq, Bool.not_eq_true, if_true, if_false, Bool.false_eq_true, ite_true, ite_false, Bool.not_true, Bool.not_false, decide_true, decide_false, tFor_eq, tLc_eq, iList, iTup, iRng1, iRng2, iStr, tSl, tPart, tNoPart, rSlL, cxOf_K, wipe, ex_ty2, kit_LTl, kit_LTt, kit_LTd, kit_LTs, kit_LTn, kit_LTb, kit_LTi, tM1, rIxS, exists_eq', lt1p, tDNewK, rSlS, rEqNil, nox_K, tNever, tFld, sFld, tMake_eq, rf_top, rf_bot, T.t_Ratio.cl, T.n_Ratio_kept_top, T.n_Ratio_kept_bottom, List.lookup, exists_and_left, List.length_nil, ha, hb, HO.ins.injEq, c1, c2, c3, c4, c5, lt_num, le_num]
    exact k2

theorem ok_RatioGe (T : Txt K mg A) (gRatioOf : FnOk P w K mg base CX0 4 A.a_RatioOf A.d_RatioOf ["number"] (spOf A.k_Ratio)) : FnOk P w K mg base CX0 5 A.a_RatioGe A.d_RatioGe ["self", "other"] (spCmp A.k_Ratio (fun p q => decide (q ≤ p))) := by
  refine T.f_RatioGe.ok scRatioGe (fun vs H Q E h => ?_) (fun cdv A' outer s H vs Q E hr h => ?_)
  · obtain ⟨x, y, p, q, n, m, rfl, _⟩ := h
    rfl
  · obtain ⟨x, y, p, q, n, m, rfl, hx, hy, hn, k⟩ := h
    refine ⟨_, (pss_cons (ps_if (pt_not (pt_val (pe_callB call_isWT (by rfl) T.z_isinstance (by decide +kernel) (pa_cons (pv 1) (pa_cons (pe_tup (pa_cons (pe_bltn (v := .ty "int") (by rfl) T.z_int (by decide +kernel) rfl) (pa_cons (pe_glob (v := .ref A.k_Ratio) (by rfl) T.k_Ratio rfl) pa_nil))) pa_nil))))) (pss_one ps_never) pss_nil)
      (pss_cons (ps_set (i := 2) scRatioGe.nd rfl (Or.inl rfl) (pe_call gRatioOf (hr.mono (by decide)) (by rfl) T.m_RatioOf T.f_RatioOf.kp T.b_RatioOf .nil pass0 (pa_cons (pv 1) pa_nil)))
      (pss_one (ps_ret (pe_cmpR (op_ge) (pe_op op_mulW (pe_fld (pv 0) rfl) (pe_fld (pv 2) rfl)) (pe_op op_mulW (pe_fld (pv 2) rfl) (pe_fld (pv 0) rfl)) (nomark _)))))), ?_⟩
    try simp only [tSeq, tNext, tRet, tRetN, tAsg, gName, gSub, tDrop, tIfS, tOp, tUn, tCB, tCons, tNil, tC, tVar, rI, rI0, rU, tAnd, tOr, tNot, tAndV, tOrV, tNotV, tIf, tTest, tB, tCall, tChain, tLst, tTup, tYes, rIxH, rIsB, rIsBT, rMulS, kd_non, kd_bl, kd_int, kd_str, kd_ref, kdO_lst, kdO_tup, kdO_dK, nq_n, nq_b, nq_i, nq_s, nq_l, nq_t, nq_d, ne_eq, not_false_eq_true, kit_ss, kit_ns, kit_bs, kit_is, kit_ls, kit_ts, kit_ds, kit_bb, V.ty.injEq, and_assoc, rIxU, rLenH, rLenU, rLenS, rInt1, rSetL, rEq, rNe, rCat, L2.start, List.map, List.length, List.length_cons, List.length_nil, List.replicate, List.getElem?_cons_zero, List.getElem?_cons_succ, List.set_cons_zero, List.set_cons_succ, List.set_nil, List.cons_append, List.nil_append, List.append_nil, Option.some.injEq, V.int.injEq, V.ref.injEq, V.str.injEq, V.bl.injEq, HO.lst.injEq, HO.tup.injEq, exists_eq_left', exists_and_left, exists_eq_left, List.cons.injEq, and_true, true_and, and_false, false_and, and_self, reduceCtorEq, exists_false, or_false, false_or, exists_const, at0, at1, at2, at3, at4, at5, ix51, ix52, ix54, upd_same, Nat.reduceAdd, Nat.reduceSub, Nat.zero_add, Int.reduceToNat, Int.reduceLE, Int.reduceLT, decide_eq_true_eq, Bool.not_eq_true, if_true, if_false, Bool.false_eq_true, ite_true, ite_false, Bool.not_true, Bool.not_false, decide_true, decide_false, tFor_eq, tLc_eq, iList, iTup, iRng1, iRng2, iStr, tSl, tPart, tNoPart, rSlL, cxOf_K, wipe, ex_ty2, kit_LTl, kit_LTt, kit_LTd, kit_LTs, kit_LTn, kit_LTb, kit_LTi, tM1, rIxS, exists_eq', lt1p, tDNewK, rSlS, rEqNil, nox_K]
    refine ⟨by decide, ?_⟩
    intro tp n_tp; generalize g_H1 : upd H tp _ = H1; obtain ⟨s_H1, h_tp⟩ := new_facts n_tp g_H1; clear g_H1
    have hy1 := hy.same s_H1
    obtain ⟨ty, t1, t2, t3, _, _⟩ := numTy T hy1
    try simp only [tSeq, tNext, tRet, tRetN, tAsg, gName, gSub, tDrop, tIfS, tOp, tUn, tCB, tCons, tNil, tC, tVar, rI, rI0, rU, tAnd, tOr, tNot, tAndV, tOrV, tNotV, tIf, tTest, tB, tCall, tChain, tLst, tTup, tYes, rIxH, rIsB, rIsBT, rMulS, kd_non, kd_bl, kd_int, kd_str, kd_ref, kdO_lst, kdO_tup, kdO_dK, nq_n, nq_b, nq_i, nq_s, nq_l, nq_t, nq_d, ne_eq, not_false_eq_true, kit_ss, kit_ns, kit_bs, kit_is, kit_ls, kit_ts, kit_ds, kit_bb, V.ty.injEq, and_assoc, rIxU, rLenH, rLenU, rLenS, rInt1, rSetL, rEq, rNe, rCat, L2.start, List.map, List.length, List.length_cons, List.length_nil, List.replicate, List.getElem?_cons_zero, List.getElem?_cons_succ, List.set_cons_zero, List.set_cons_succ, List.set_nil, List.cons_append, List.nil_append, List.append_nil, Option.some.injEq, V.int.injEq, V.ref.injEq, V.str.injEq, V.bl.injEq, HO.lst.injEq, HO.tup.injEq, exists_eq_left', exists_and_left, exists_eq_left, List.cons.injEq, and_true, true_and, and_false, false_and, and_self, reduceCtorEq, exists_false, or_false, false_or, exists_const, at0, at1, at2, at3, at4, at5, ix51, ix52, ix54, upd_same, Nat.reduceAdd, Nat.reduceSub, Nat.zero_add, Int.reduceToNat, Int.reduceLE, Int.reduceLT, decide_eq_true_eq, Bool.not_eq_true, if_true, if_false, Bool.false_eq_true, ite_true, ite_false, Bool.not_true, Bool.not_false, decide_true, decide_false, tFor_eq, tLc_eq, iList, iTup, iRng1, iRng2, iStr, tSl, tPart, tNoPart, rSlL, cxOf_K, wipe, ex_ty2, kit_LTl, kit_LTt, kit_LTd, kit_LTs, kit_LTn, kit_LTb, kit_LTi, tM1, rIxS, exists_eq', lt1p, tDNewK, rSlS, rEqNil, nox_K, tNever, rIsWT, clsVs_ty, clsVs_ref, clsVs_nil, Option.map_some, h_tp, t1, t3]
    refine ⟨t2, y, q, m, rfl, hy1, by omega, fun H2 v s2 hv => ?_⟩
    have hx2 := hx.same (s_H1.trans s2)
    obtain ⟨⟨b, db, rfl, hb⟩, bq⟩ := hv
    obtain ⟨⟨a, da, rfl, ha⟩, bp⟩ := hx2
    obtain ⟨c1, c2, c3, c4, c5⟩ := mulws bp bq (by omega)
    have k2 := k H2 (s_H1.trans s2)
    try simp only [tSeq, tNext, tRet, tRetN, tAsg, gName, gSub, tDrop, tIfS, tOp, tUn, tCB, tCons, tNil, tC, tVar, rI, rI0, rU, tAnd, tOr, tNot, tAndV, tOrV, tNotV, tIf, tTest, tB, tCall, tChain, tLst, tTup, tYes, rIxH, rIsB, rIsBT, rMulS, kd_non, kd_bl, kd_int, kd_str, kd_ref, kdO_lst, kdO_tup, kdO_dK, nq_n, nq_b, nq_i, nq_s, nq_l, nq_t, nq_d, ne_eq, not_false_eq_true, kit_ss, kit_ns, kit_bs, kit_is, kit_ls, kit_ts, kit_ds, kit_bb, V.ty.injEq, and_assoc, rIxU, rLenH, rLenU, rLenS, rInt1, rSetL, rEq, rNe, rCat, L2.start, List.map, List.length, List.length_cons, List.length_nil, List.replicate, List.getElem?_cons_zero, List.getElem?_cons_succ, List.set_cons_zero, List.set_cons_succ, List.set_nil, List.cons_append, List.nil_append, List.append_nil, Option.some.injEq, V.int.injEq, V.ref.injEq, V.str.injEq, V.bl.injEq, HO.lst.injEq, HO.tup.injEq, exists_eq_left', exists_and_left, exists_eq_left, List.cons.injEq, and_true, true_and, and_false, false_and, and_self, reduceCtorEq, exists_false, or_false, false_or, exists_const, at0, at1, at2, at3, at4, at5, ix51, ix52, ix54, upd_same, Nat.reduceAdd, Nat.reduceSub, Nat.zero_add, Int.reduceToNat, Int.reduceLE, Int.reduceLT, decide_eq_true_eq, Bool.not_eq_true, if_true, if_false, Bool.false_eq_true, ite_true, ite_false, Bool.not_true, Bool.not_false, decide_true, decide_false, tFor_eq, tLc_eq, iList, iTup, iRng1, iRng2, iStr, tSl, tPart, tNoPart, rSlL, cxOf_K, wipe, ex_ty2, kit_LTl, kit_LTt, kit_LTd, kit_LTs, kit_LTn, kit_LTb, kit_LTi, tM1, rIxS, exists_eq', lt1p, tDNewK, rSlS, rEqNil, nox_K, tNever, tFld, sFld, tMake_eq, rf_top, rf_bot, T.t_Ratio.cl, T.n_Ratio_kept_top, T.n_Ratio_kept_bottom, List.lookup, exists_and_left, List.length_nil, ha, hb, HO.ins.injEq, c1, c2, c3, c4, c5, lt_num, le_num]
    exact k2

theorem ok_RatioEq_A (T : Txt K mg A) (gIsNumber : FnOk P w K mg base CX0 2 A.a_IsNumber A.d_IsNumber ["value"] (spIsNum A.k_Ratio)) (gRatioOf : FnOk P w K mg base CX0 4 A.a_RatioOf A.d_RatioOf ["number"] (spOf A.k_Ratio)) : FnOk P w K mg base CX0 5 A.a_RatioEq A.d_RatioEq ["self", "other"] (spCmpA A.k_Ratio (fun p q => decide (p = q)) false) := by
  refine T.f_RatioEq.ok scRatioEq (fun vs H Q E h => ?_) (fun cdv A' outer s H vs Q E hr h => ?_)
  · rcases h with ⟨x, y, p, q, n, m, rfl, _⟩ | ⟨x, y, t, rfl, _⟩ <;> rfl
  · refine ⟨_, (pss_cons (ps_if (pt_not (pt_val (pe_call gIsNumber (hr.mono (by decide)) (by rfl) T.m_IsNumber T.f_IsNumber.kp T.b_IsNumber .nil pass0 (pa_cons (pv 1) pa_nil)))) (pss_one (ps_ret pe_bl)) pss_nil)
      (pss_cons (ps_set (i := 2) scRatioEq.nd rfl (Or.inl rfl) (pe_call gRatioOf (hr.mono (by decide)) (by rfl) T.m_RatioOf T.f_RatioOf.kp T.b_RatioOf .nil pass0 (pa_cons (pv 1) pa_nil)))
      (pss_one (ps_ret (pe_and (pe_cmpR (op_eq) (pe_fld (pv 0) rfl) (pe_fld (pv 2) rfl) (nomark _)) (pe_one (pe_cmpR (op_eq) (pe_fld (pv 0) rfl) (pe_fld (pv 2) rfl) (nomark _)))))))), ?_⟩
    rcases h with ⟨x, y, p, q, n, m, rfl, hx, hy, hn, k⟩ | ⟨x, y, t, rfl, h1, h2, h3, h4, k⟩
    · obtain ⟨ty, t1, t2, t3, t4, t5⟩ := numTy T hy
      try simp only [tSeq, tNext, tRet, tRetN, tAsg, gName, gSub, tDrop, tIfS, tOp, tUn, tCB, tCons, tNil, tC, tVar, rI, rI0, rU, tAnd, tOr, tNot, tAndV, tOrV, tNotV, tIf, tTest, tB, tCall, tChain, tLst, tTup, tYes, rIxH, rIsB, rIsBT, rMulS, kd_non, kd_bl, kd_int, kd_str, kd_ref, kdO_lst, kdO_tup, kdO_dK, nq_n, nq_b, nq_i, nq_s, nq_l, nq_t, nq_d, ne_eq, not_false_eq_true, kit_ss, kit_ns, kit_bs, kit_is, kit_ls, kit_ts, kit_ds, kit_bb, V.ty.injEq, and_assoc, rIxU, rLenH, rLenU, rLenS, rInt1, rSetL, rEq, rNe, rCat, L2.start, List.map, List.length, List.length_cons, List.length_nil, List.replicate, List.getElem?_cons_zero, List.getElem?_cons_succ, List.set_cons_zero, List.set_cons_succ, List.set_nil, List.cons_append, List.nil_append, List.append_nil, Option.some.injEq, V.int.injEq, V.ref.injEq, V.str.injEq, V.bl.injEq, HO.lst.injEq, HO.tup.injEq, exists_eq_left', exists_and_left, exists_eq_left, List.cons.injEq, and_true, true_and, and_false, false_and, and_self, reduceCtorEq, exists_false, or_false, false_or, exists_const, at0, at1, at2, at3, at4, at5, ix51, ix52, ix54, upd_same, Nat.reduceAdd, Nat.reduceSub, Nat.zero_add, Int.reduceToNat, Int.reduceLE, Int.reduceLT, decide_eq_true_eq, Bool.not_eq_true, if_true, if_false, Bool.false_eq_true, ite_true, ite_false, Bool.not_true, Bool.not_false, decide_true, decide_false, tFor_eq, tLc_eq, iList, iTup, iRng1, iRng2, iStr, tSl, tPart, tNoPart, rSlL, cxOf_K, wipe, ex_ty2, kit_LTl, kit_LTt, kit_LTd, kit_LTs, kit_LTn, kit_LTb, kit_LTi, tM1, rIxS, exists_eq', lt1p, tDNewK, rSlS, rEqNil, nox_K, tNever]
      refine ⟨y, ty, rfl, t1, t4, ?_⟩
      rw [t5]
      try simp only [tSeq, tNext, tRet, tRetN, tAsg, gName, gSub, tDrop, tIfS, tOp, tUn, tCB, tCons, tNil, tC, tVar, rI, rI0, rU, tAnd, tOr, tNot, tAndV, tOrV, tNotV, tIf, tTest, tB, tCall, tChain, tLst, tTup, tYes, rIxH, rIsB, rIsBT, rMulS, kd_non, kd_bl, kd_int, kd_str, kd_ref, kdO_lst, kdO_tup, kdO_dK, nq_n, nq_b, nq_i, nq_s, nq_l, nq_t, nq_d, ne_eq, not_false_eq_true, kit_ss, kit_ns, kit_bs, kit_is, kit_ls, kit_ts, kit_ds, kit_bb, V.ty.injEq, and_assoc, rIxU, rLenH, rLenU, rLenS, rInt1, rSetL, rEq, rNe, rCat, L2.start, List.map, List.length, List.length_cons, List.length_nil, List.replicate, List.getElem?_cons_zero, List.getElem?_cons_succ, List.set_cons_zero, List.set_cons_succ, List.set_nil, List.cons_append, List.nil_append, List.append_nil, Option.some.injEq, V.int.injEq, V.ref.injEq, V.str.injEq, V.bl.injEq, HO.lst.injEq, HO.tup.injEq, exists_eq_left', exists_and_left, exists_eq_left, List.cons.injEq, and_true, true_and, and_false, false_and, and_self, reduceCtorEq, exists_false, or_false, false_or, exists_const, at0, at1, at2, at3, at4, at5, ix51, ix52, ix54, upd_same, Nat.reduceAdd, Nat.reduceSub, Nat.zero_add, Int.reduceToNat, Int.reduceLE, Int.reduceLT, decide_eq_true_eq, Bool.not_eq_true, if_true, if_false, Bool.false_eq_true, ite_true, ite_false, Bool.not_true, Bool.not_false, decide_true, decide_false, tFor_eq, tLc_eq, iList, iTup, iRng1, iRng2, iStr, tSl, tPart, tNoPart, rSlL, cxOf_K, wipe, ex_ty2, kit_LTl, kit_LTt, kit_LTd, kit_LTs, kit_LTn, kit_LTb, kit_LTi, tM1, rIxS, exists_eq', lt1p, tDNewK, rSlS, rEqNil, nox_K, tNever]
      refine ⟨y, q, m, rfl, hy, by omega, fun H2 v s2 hv => ?_⟩
      have hx2 := hx.same s2
      obtain ⟨⟨b, db, rfl, hb⟩, bq⟩ := hv
      obtain ⟨⟨a, da, rfl, ha⟩, bp⟩ := hx2
      have k2 := k H2 s2
      try simp only [tSeq, tNext, tRet, tRetN, tAsg, gName, gSub, tDrop, tIfS, tOp, tUn, tCB, tCons, tNil, tC, tVar, rI, rI0, rU, tAnd, tOr, tNot, tAndV, tOrV, tNotV, tIf, tTest, tB, tCall, tChain, tLst, tTup, tYes, rIxH, rIsB, rIsBT, rMulS, kd_non, kd_bl, kd_int, kd_str, kd_ref, kdO_lst, kdO_tup, kdO_dK, nq_n, nq_b, nq_i, nq_s, nq_l, nq_t, nq_d, ne_eq, not_false_eq_true, kit_ss, kit_ns, kit_bs, kit_is, kit_ls, kit_ts, kit_ds, kit_bb, V.ty.injEq, and_assoc, rIxU, rLenH, rLenU, rLenS, rInt1, rSetL, rEq, rNe, rCat, L2.start, List.map, List.length, List.length_cons, List.length_nil, List.replicate, List.getElem?_cons_zero, List.getElem?_cons_succ, List.set_cons_zero, List.set_cons_succ, List.set_nil, List.cons_append, List.nil_append, List.append_nil, Option.some.injEq, V.int.injEq, V.ref.injEq, V.str.injEq, V.bl.injEq, HO.lst.injEq, HO.tup.injEq, exists_eq_left', exists_and_left, exists_eq_left, List.cons.injEq, and_true, true_and, and_false, false_and, and_self, reduceCtorEq, exists_false, or_false, false_or, exists_const, at0, at1, at2, at3, at4, at5, ix51, ix52, ix54, upd_same, Nat.reduceAdd, Nat.reduceSub, Nat.zero_add, Int.reduceToNat, Int.reduceLE, Int.reduceLT, decide_eq_true_eq, Bool.not_eq_true, if_true, if_false, Bool.false_eq_true, ite_true, ite_false, Bool.not_true, Bool.not_false, decide_true, decide_false, tFor_eq, tLc_eq, iList, iTup, iRng1, iRng2, iStr, tSl, tPart, tNoPart, rSlL, cxOf_K, wipe, ex_ty2, kit_LTl, kit_LTt, kit_LTd, kit_LTs, kit_LTn, kit_LTb, kit_LTi, tM1, rIxS, exists_eq', lt1p, tDNewK, rSlS, rEqNil, nox_K, tNever, tFld, sFld, tMake_eq, rf_top, rf_bot, T.t_Ratio.cl, T.n_Ratio_kept_top, T.n_Ratio_kept_bottom, List.lookup, exists_and_left, List.length_nil, ha, hb, HO.ins.injEq, scal_int]
      have e := eq_num p q
      by_cases h1 : p.num = q.num
      · by_cases h2 : (p.den : Int) = q.den
        · have h3 : p = q := e ▸ ⟨h1, h2⟩
          simpa [h1, h2, h3] using k2
        · have h3 : ¬ p = q := fun z => h2 (by rw [z])
          simpa [h1, h2, h3] using k2
      · have h3 : ¬ p = q := fun z => h1 (by rw [z])
        simpa [h1, h3] using k2
    · try simp only [tSeq, tNext, tRet, tRetN, tAsg, gName, gSub, tDrop, tIfS, tOp, tUn, tCB, tCons, tNil, tC, tVar, rI, rI0, rU, tAnd, tOr, tNot, tAndV, tOrV, tNotV, tIf, tTest, tB, tCall, tChain, tLst, tTup, tYes, rIxH, rIsB, rIsBT, rMulS, kd_non, kd_bl, kd_int, kd_str, kd_ref, kdO_lst, kdO_tup, kdO_dK, nq_n, nq_b, nq_i, nq_s, nq_l, nq_t, nq_d, ne_eq, not_false_eq_true, kit_ss, kit_ns, kit_bs, kit_is, kit_ls, kit_ts, kit_ds, kit_bb, V.ty.injEq, and_assoc, rIxU, rLenH, rLenU, rLenS, rInt1, rSetL, rEq, rNe, rCat, L2.start, List.map, List.length, List.length_cons, List.length_nil, List.replicate, List.getElem?_cons_zero, List.getElem?_cons_succ, List.set_cons_zero, List.set_cons_succ, List.set_nil, List.cons_append, List.nil_append, List.append_nil, Option.some.injEq, V.int.injEq, V.ref.injEq, V.str.injEq, V.bl.injEq, HO.lst.injEq, HO.tup.injEq, exists_eq_left', exists_and_left, exists_eq_left, List.cons.injEq, and_true, true_and, and_false, false_and, and_self, reduceCtorEq, exists_false, or_false, false_or, exists_const, at0, at1, at2, at3, at4, at5, ix51, ix52, ix54, upd_same, Nat.reduceAdd, Nat.reduceSub, Nat.zero_add, Int.reduceToNat, Int.reduceLE, Int.reduceLT, decide_eq_true_eq, Bool.not_eq_true, if_true, if_false, Bool.false_eq_true, ite_true, ite_false, Bool.not_true, Bool.not_false, decide_true, decide_false, tFor_eq, tLc_eq, iList, iTup, iRng1, iRng2, iStr, tSl, tPart, tNoPart, rSlL, cxOf_K, wipe, ex_ty2, kit_LTl, kit_LTt, kit_LTd, kit_LTs, kit_LTn, kit_LTb, kit_LTi, tM1, rIxS, exists_eq', lt1p, tDNewK, rSlS, rEqNil, nox_K, tNever]
      refine ⟨y, t, rfl, h1, h2, ?_⟩
      rw [decide_eq_false h3, decide_eq_false h4]
      try simp only [tSeq, tNext, tRet, tRetN, tAsg, gName, gSub, tDrop, tIfS, tOp, tUn, tCB, tCons, tNil, tC, tVar, rI, rI0, rU, tAnd, tOr, tNot, tAndV, tOrV, tNotV, tIf, tTest, tB, tCall, tChain, tLst, tTup, tYes, rIxH, rIsB, rIsBT, rMulS, kd_non, kd_bl, kd_int, kd_str, kd_ref, kdO_lst, kdO_tup, kdO_dK, nq_n, nq_b, nq_i, nq_s, nq_l, nq_t, nq_d, ne_eq, not_false_eq_true, kit_ss, kit_ns, kit_bs, kit_is, kit_ls, kit_ts, kit_ds, kit_bb, V.ty.injEq, and_assoc, rIxU, rLenH, rLenU, rLenS, rInt1, rSetL, rEq, rNe, rCat, L2.start, List.map, List.length, List.length_cons, List.length_nil, List.replicate, List.getElem?_cons_zero, List.getElem?_cons_succ, List.set_cons_zero, List.set_cons_succ, List.set_nil, List.cons_append, List.nil_append, List.append_nil, Option.some.injEq, V.int.injEq, V.ref.injEq, V.str.injEq, V.bl.injEq, HO.lst.injEq, HO.tup.injEq, exists_eq_left', exists_and_left, exists_eq_left, List.cons.injEq, and_true, true_and, and_false, false_and, and_self, reduceCtorEq, exists_false, or_false, false_or, exists_const, at0, at1, at2, at3, at4, at5, ix51, ix52, ix54, upd_same, Nat.reduceAdd, Nat.reduceSub, Nat.zero_add, Int.reduceToNat, Int.reduceLE, Int.reduceLT, decide_eq_true_eq, Bool.not_eq_true, if_true, if_false, Bool.false_eq_true, ite_true, ite_false, Bool.not_true, Bool.not_false, decide_true, decide_false, tFor_eq, tLc_eq, iList, iTup, iRng1, iRng2, iStr, tSl, tPart, tNoPart, rSlL, cxOf_K, wipe, ex_ty2, kit_LTl, kit_LTt, kit_LTd, kit_LTs, kit_LTn, kit_LTb, kit_LTi, tM1, rIxS, exists_eq', lt1p, tDNewK, rSlS, rEqNil, nox_K, tNever, Bool.or_self]
      exact k

theorem ok_RatioDivided (T : Txt K mg A) (gRatioInit : FnOk P w K mg base CX0 2 A.a_RatioInit A.d_RatioInit ["self", "top", "bottom"] (spInit A.k_Ratio)) (gIsNumber : FnOk P w K mg base CX0 2 A.a_IsNumber A.d_IsNumber ["value"] (spIsNum A.k_Ratio)) (gRatioOf : FnOk P w K mg base CX0 4 A.a_RatioOf A.d_RatioOf ["number"] (spOf A.k_Ratio)) : FnOk P w K mg base CX0 5 A.a_RatioDivided A.d_RatioDivided ["self", "other"] (spDiv A.k_Ratio) := by
  refine T.f_RatioDivided.ok scRatioDivided (fun vs H Q E h => ?_) (fun cdv A' outer s H vs Q E hr h => ?_)
  · obtain ⟨x, y, p, q, n, m, rfl, _⟩ := h
    rfl
  · obtain ⟨x, y, p, q, n, m, rfl, hx, hy, hq, hn, k⟩ := h
    refine ⟨_, (pss_cons (ps_if (pt_not (pt_val (pe_call gIsNumber (hr.mono (by decide)) (by rfl) T.m_IsNumber T.f_IsNumber.kp T.b_IsNumber .nil pass0 (pa_cons (pv 1) pa_nil)))) (pss_one ps_never) pss_nil)
      (pss_cons (ps_set (i := 2) scRatioDivided.nd rfl (Or.inl rfl) (pe_call gRatioOf (hr.mono (by decide)) (by rfl) T.m_RatioOf T.f_RatioOf.kp T.b_RatioOf .nil pass0 (pa_cons (pv 1) pa_nil)))
      (pss_cons (ps_if (pt_cmpR (op_eq) (pe_fld (pv 2) rfl) pe_int (nomark _)) (pss_one ps_never) pss_nil)
      (pss_one (ps_ret (pe_make T.mk_Ratio gRatioInit (hr.mono (by decide)) (by rfl) T.k_Ratio T.b_RatioInit .nil pass0 (pa_cons (pe_op op_mulW (pe_fld (pv 0) rfl) (pe_fld (pv 2) rfl)) (pa_cons (pe_op op_mulW (pe_fld (pv 0) rfl) (pe_fld (pv 2) rfl)) pa_nil)))))))), ?_⟩
    obtain ⟨ty, t1, t2, t3, t4, t5⟩ := numTy T hy
    try simp only [tSeq, tNext, tRet, tRetN, tAsg, gName, gSub, tDrop, tIfS, tOp, tUn, tCB, tCons, tNil, tC, tVar, rI, rI0, rU, tAnd, tOr, tNot, tAndV, tOrV, tNotV, tIf, tTest, tB, tCall, tChain, tLst, tTup, tYes, rIxH, rIsB, rIsBT, rMulS, kd_non, kd_bl, kd_int, kd_str, kd_ref, kdO_lst, kdO_tup, kdO_dK, nq_n, nq_b, nq_i, nq_s, nq_l, nq_t, nq_d, ne_eq, not_false_eq_true, kit_ss, kit_ns, kit_bs, kit_is, kit_ls, kit_ts, kit_ds, kit_bb, V.ty.injEq, and_assoc, rIxU, rLenH, rLenU, rLenS, rInt1, rSetL, rEq, rNe, rCat, L2.start, List.map, List.length, List.length_cons, List.length_nil, List.replicate, List.getElem?_cons_zero, List.getElem?_cons_succ, List.set_cons_zero, List.set_cons_succ, List.set_nil, List.cons_append, List.nil_append, List.append_nil, Option.some.injEq, V.int.injEq, V.ref.injEq, V.str.injEq, V.bl.injEq, HO.lst.injEq, HO.tup.injEq, exists_eq_left', exists_and_left, exists_eq_left, List.cons.injEq, and_true, true_and, and_false, false_and, and_self, reduceCtorEq, exists_false, or_false, false_or, exists_const, at0, at1, at2, at3, at4, at5, ix51, ix52, ix54, upd_same, Nat.reduceAdd, Nat.reduceSub, Nat.zero_add, Int.reduceToNat, Int.reduceLE, Int.reduceLT, decide_eq_true_eq, Bool.not_eq_true, if_true, if_false, Bool.false_eq_true, ite_true, ite_false, Bool.not_true, Bool.not_false, decide_true, decide_false, tFor_eq, tLc_eq, iList, iTup, iRng1, iRng2, iStr, tSl, tPart, tNoPart, rSlL, cxOf_K, wipe, ex_ty2, kit_LTl, kit_LTt, kit_LTd, kit_LTs, kit_LTn, kit_LTb, kit_LTi, tM1, rIxS, exists_eq', lt1p, tDNewK, rSlS, rEqNil, nox_K, tNever]
    refine ⟨y, ty, rfl, t1, t4, ?_⟩
    rw [t5]
    try simp only [tSeq, tNext, tRet, tRetN, tAsg, gName, gSub, tDrop, tIfS, tOp, tUn, tCB, tCons, tNil, tC, tVar, rI, rI0, rU, tAnd, tOr, tNot, tAndV, tOrV, tNotV, tIf, tTest, tB, tCall, tChain, tLst, tTup, tYes, rIxH, rIsB, rIsBT, rMulS, kd_non, kd_bl, kd_int, kd_str, kd_ref, kdO_lst, kdO_tup, kdO_dK, nq_n, nq_b, nq_i, nq_s, nq_l, nq_t, nq_d, ne_eq, not_false_eq_true, kit_ss, kit_ns, kit_bs, kit_is, kit_ls, kit_ts, kit_ds, kit_bb, V.ty.injEq, and_assoc, rIxU, rLenH, rLenU, rLenS, rInt1, rSetL, rEq, rNe, rCat, L2.start, List.map, List.length, List.length_cons, List.length_nil, List.replicate, List.getElem?_cons_zero, List.getElem?_cons_succ, List.set_cons_zero, List.set_cons_succ, List.set_nil, List.cons_append, List.nil_append, List.append_nil, Option.some.injEq, V.int.injEq, V.ref.injEq, V.str.injEq, V.bl.injEq, HO.lst.injEq, HO.tup.injEq, exists_eq_left', exists_and_left, exists_eq_left, List.cons.injEq, and_true, true_and, and_false, false_and, and_self, reduceCtorEq, exists_false, or_false, false_or, exists_const, at0, at1, at2, at3, at4, at5, ix51, ix52, ix54, upd_same, Nat.reduceAdd, Nat.reduceSub, Nat.zero_add, Int.reduceToNat, Int.reduceLE, Int.reduceLT, decide_eq_true_eq, Bool.not_eq_true, if_true, if_false, Bool.false_eq_true, ite_true, ite_false, Bool.not_true, Bool.not_false, decide_true, decide_false, tFor_eq, tLc_eq, iList, iTup, iRng1, iRng2, iStr, tSl, tPart, tNoPart, rSlL, cxOf_K, wipe, ex_ty2, kit_LTl, kit_LTt, kit_LTd, kit_LTs, kit_LTn, kit_LTb, kit_LTi, tM1, rIxS, exists_eq', lt1p, tDNewK, rSlS, rEqNil, nox_K, tNever]
    refine ⟨y, q, m, rfl, hy, by omega, fun H2 v s2 hv => ?_⟩
    have hx2 := hx.same s2
    obtain ⟨⟨b, db, rfl, hb⟩, bq⟩ := hv
    obtain ⟨⟨a, da, rfl, ha⟩, bp⟩ := hx2
    obtain ⟨c1, c2, c3, c4, c5⟩ := mulws bp bq (by omega)
    have hq0 : ¬ q.num = 0 := fun z => hq (Rat.num_eq_zero.mp z)
    try simp only [tSeq, tNext, tRet, tRetN, tAsg, gName, gSub, tDrop, tIfS, tOp, tUn, tCB, tCons, tNil, tC, tVar, rI, rI0, rU, tAnd, tOr, tNot, tAndV, tOrV, tNotV, tIf, tTest, tB, tCall, tChain, tLst, tTup, tYes, rIxH, rIsB, rIsBT, rMulS, kd_non, kd_bl, kd_int, kd_str, kd_ref, kdO_lst, kdO_tup, kdO_dK, nq_n, nq_b, nq_i, nq_s, nq_l, nq_t, nq_d, ne_eq, not_false_eq_true, kit_ss, kit_ns, kit_bs, kit_is, kit_ls, kit_ts, kit_ds, kit_bb, V.ty.injEq, and_assoc, rIxU, rLenH, rLenU, rLenS, rInt1, rSetL, rEq, rNe, rCat, L2.start, List.map, List.length, List.length_cons, List.length_nil, List.replicate, List.getElem?_cons_zero, List.getElem?_cons_succ, List.set_cons_zero, List.set_cons_succ, List.set_nil, List.cons_append, List.nil_append, List.append_nil, Option.some.injEq, V.int.injEq, V.ref.injEq, V.str.injEq, V.bl.injEq, HO.lst.injEq, HO.tup.injEq, exists_eq_left', exists_and_left, exists_eq_left, List.cons.injEq, and_true, true_and, and_false, false_and, and_self, reduceCtorEq, exists_false, or_false, false_or, exists_const, at0, at1, at2, at3, at4, at5, ix51, ix52, ix54, upd_same, Nat.reduceAdd, Nat.reduceSub, Nat.zero_add, Int.reduceToNat, Int.reduceLE, Int.reduceLT, decide_eq_true_eq, Bool.not_eq_true, if_true, if_false, Bool.false_eq_true, ite_true, ite_false, Bool.not_true, Bool.not_false, decide_true, decide_false, tFor_eq, tLc_eq, iList, iTup, iRng1, iRng2, iStr, tSl, tPart, tNoPart, rSlL, cxOf_K, wipe, ex_ty2, kit_LTl, kit_LTt, kit_LTd, kit_LTs, kit_LTn, kit_LTb, kit_LTi, tM1, rIxS, exists_eq', lt1p, tDNewK, rSlS, rEqNil, nox_K, tNever, tFld, sFld, tMake_eq, rf_top, rf_bot, T.t_Ratio.cl, T.n_Ratio_kept_top, T.n_Ratio_kept_bottom, List.lookup, exists_and_left, List.length_nil, ha, hb, HO.ins.injEq, scal_int, hq0, c1, c2, c3, c4, c5]
    refine make_go (t := p.num * q.den) (b := p.den * q.num) (n := n + m + 1) rfl (Int.mul_ne_zero (den_ne p) hq0) (abs_mono (abs_mul bp.1 (den_lt bq)) (by omega)) (abs_mono (abs_mul (den_lt bp) bq.1) (by omega)) hn fun H' v s' hv => k H' v (s2.trans s') (by rw [div_num] at hv; exact hv)

end

/-! ### values of expressions over Ratios -/
def EvR (C : Addr) (t : TE) (σ : St) (H : Hp) (q : Rat) (n : Nat) : Prop := ∀ H1, Same H H1 → ∀ Q : VK, (∀ H2 v, Same H1 H2 → RatAt C H2 v q n → Q v H2) → t σ H1 Q
def EvN (C : Addr) (t : TE) (σ : St) (H : Hp) (q : Rat) (n : Nat) : Prop := ∀ H1, Same H H1 → ∀ Q : VK, (∀ H2 v, Same H1 H2 → NumAt C H2 v q n → Q v H2) → t σ H1 Q
def EvI (t : TE) (σ : St) (H : Hp) (i : Int) : Prop := ∀ H1, Same H H1 → ∀ Q : VK, Q (.int i) H1 → t σ H1 Q
def EvB (t : TE) (σ : St) (H : Hp) (b : Bool) : Prop := ∀ H1, Same H H1 → ∀ Q : VK, (∀ H2, Same H1 H2 → Q (.bl b) H2) → t σ H1 Q
def EvT (t : TT) (σ : St) (H : Hp) (b : Bool) : Prop := ∀ H1, Same H H1 → ∀ Q : Bool → Hp → Prop, (∀ H2, Same H1 H2 → Q b H2) → t σ H1 Q
section
variable {C : Addr} {σ : St} {H : Hp} {p q : Rat} {n m : Nat} {t t1 t2 t3 : TE} {E : XK} {b b1 b2 : Bool} {v : V} {i : Nat}
theorem EvR.var (h : σ[i]? = some (some v)) (hv : RatAt C H v q n) : EvR C (tVar i) σ H q n := fun H1 s1 Q k => ⟨v, h, k H1 v (Same.refl _) (hv.same s1)⟩
theorem EvR.num (h : EvR C t σ H q n) : EvN C t σ H q n := fun H1 s1 Q k => h H1 s1 Q fun H2 v s2 hv => k H2 v s2 (.inl hv)
theorem bd_int {z : Int} {n : Nat} (h : z.natAbs < 2 ^ n) (hn : 0 < n) : Bd n (z : Rat) := ⟨h, Nat.one_lt_two_pow (by omega)⟩
theorem EvN.int {z : Int} (h : z.natAbs < 2 ^ 2) : EvN C (tC (.int z)) σ H (z : Rat) 2 := fun H1 s1 Q k => k H1 _ (Same.refl _) (.inr ⟨⟨z, rfl, rfl⟩, bd_int h (by decide)⟩)
theorem EvN.var {z : Int} (h : σ[i]? = some (some (.int z))) (hv : Bd n (z : Rat)) : EvN C (tVar i) σ H (z : Rat) n := fun H1 s1 Q k => ⟨_, h, k H1 _ (Same.refl _) (.inr ⟨⟨z, rfl, rfl⟩, hv⟩)⟩
theorem EvI.var {z : Int} (h : σ[i]? = some (some (.int z))) : EvI (tVar i) σ H z := fun H1 s1 Q k => ⟨_, h, k⟩
theorem NumAt.own {y : V} (h : NumAt C H y q n) : (∃ i, y = .int i) ∨ ∃ b dy gs, y = .ref b ∧ H b = some (.ins C dy gs) := by
  rcases h with ⟨⟨a, dx, rfl, h⟩, _⟩ | ⟨⟨i, rfl, _⟩, _⟩
  · exact .inr ⟨a, dx, _, rfl, h⟩
  · exact .inl ⟨i, rfl⟩
theorem EvR.bin {f : Rat → Rat → Rat} (h1 : EvR C t1 σ H p n) (h2 : EvN C t2 σ H q m) (hn : n + m + 1 ≤ 9000) : EvR C (tOp (rOwn C (spBin C f) E) t1 t2) σ H (f p q) (n + m + 1) := fun H1 s1 Q k =>
  h1 H1 s1 _ fun H2 v s2 hv => h2 H2 (s1.trans s2) _ fun H3 u s3 hu => by
    have hv3 := hv.same s3
    obtain ⟨⟨a, dx, rfl, ha⟩, _⟩ := id hv3
    exact ⟨a, dx, _, rfl, ha, hu.own, _, _, p, q, n, m, rfl, hv3, hu, hn, fun H4 w s4 hw => k H4 w ((s2.trans s3).trans s4) hw⟩
theorem EvR.rbin {f : Rat → Rat → Rat} {z : Int} (h1 : EvI t1 σ H z) (hz : Bd m (z : Rat)) (h2 : EvR C t2 σ H p n) (hn : n + m + 1 ≤ 9000) : EvR C (tOp (rOwnI C (spRBin C f) E) t1 t2) σ H (f z p) (n + m + 1) := fun H1 s1 Q k =>
  h1 H1 s1 _ (h2 H1 s1 _ fun H3 u s3 hu => by
    obtain ⟨⟨a, dx, rfl, ha⟩, _⟩ := id hu
    exact ⟨z, a, dx, _, rfl, rfl, ha, _, z, p, n, m, rfl, hu, hz, hn, fun H4 w s4 hw => k H4 w (s3.trans s4) hw⟩)
theorem EvR.un {f : Rat → Rat} (h1 : EvR C t σ H p n) (hn : n ≤ 9000) : EvR C (tUn (rOwn1 C (spUn C f) E) t) σ H (f p) n := fun H1 s1 Q k =>
  h1 H1 s1 _ fun H2 v s2 hv => by
    obtain ⟨⟨a, dx, rfl, ha⟩, _⟩ := id hv
    exact ⟨a, dx, _, rfl, ha, _, p, n, rfl, hv, hn, fun H4 w s4 hw => k H4 w (s2.trans s4) hw⟩
theorem EvR.abs {f : Rat → Rat} (h1 : EvR C t σ H p n) (hn : n ≤ 9000) : EvR C (tCB (rOwnC1 C (spUn C f) E) (tCons t tNil)) σ H (f p) n := fun H1 s1 Q k =>
  h1 H1 s1 _ fun H2 v s2 hv => by
    obtain ⟨⟨a, dx, rfl, ha⟩, _⟩ := id hv
    exact ⟨a, dx, _, rfl, ha, _, p, n, rfl, hv, hn, fun H4 w s4 hw => k H4 w (s2.trans s4) hw⟩
theorem EvB.tru (h1 : EvR C t σ H p n) : EvB (tCB (rOwnB C (spTru C) E) (tCons t tNil)) σ H (decide (p ≠ 0)) := fun H1 s1 Q k =>
  h1 H1 s1 _ fun H2 v s2 hv => by
    obtain ⟨⟨a, dx, rfl, ha⟩, _⟩ := id hv
    exact ⟨a, dx, _, rfl, ha, _, p, n, rfl, hv, ⟨_, rfl⟩, k H2 s2⟩
theorem EvB.cmp {r : Rat → Rat → Bool} (h1 : EvR C t1 σ H p n) (h2 : EvN C t2 σ H q m) (hn : n + m ≤ 9000) : EvB (tOp (rOwn C (spCmp C r) E) t1 t2) σ H (r p q) := fun H1 s1 Q k =>
  h1 H1 s1 _ fun H2 v s2 hv => h2 H2 (s1.trans s2) _ fun H3 u s3 hu => by
    have hv3 := hv.same s3
    obtain ⟨⟨a, dx, rfl, ha⟩, _⟩ := id hv3
    exact ⟨a, dx, _, rfl, ha, hu.own, _, _, p, q, n, m, rfl, hv3, hu, hn, fun H4 s4 => k H4 ((s2.trans s3).trans s4)⟩
theorem EvB.cmpI {r : Rat → Rat → Bool} {z : Int} (h1 : EvI t1 σ H z) (hz : Bd m (z : Rat)) (h2 : EvR C t2 σ H p n) (hn : n + m ≤ 9000) : EvB (tOp (rOwnI C (spCmp C r) E) t1 t2) σ H (r p z) := fun H1 s1 Q k =>
  h1 H1 s1 _ (h2 H1 s1 _ fun H3 u s3 hu => by
    obtain ⟨⟨a, dx, rfl, ha⟩, _⟩ := id hu
    exact ⟨z, a, dx, _, rfl, rfl, ha, _, _, p, z, n, m, rfl, hu, .inr ⟨⟨z, rfl, rfl⟩, hz⟩, hn, fun H4 s4 => k H4 (s3.trans s4)⟩)
theorem dvd_no : ¬ (("divided" : Str) = "kept_top") := by decide +kernel
theorem dvd_no2 : ¬ (("divided" : Str) = "kept_bottom") := by decide +kernel
theorem EvR.div (h1 : EvR C t1 σ H p n) (h2 : EvN C t2 σ H q m) (hq : q ≠ 0) (hn : n + m + 1 ≤ 9000) : EvR C (tMeth C "divided" (spDiv C) [] E t1 (tCons t2 tNil)) σ H (p / q) (n + m + 1) := fun H1 s1 Q k =>
  h1 H1 s1 _ fun H2 v s2 hv => by
    obtain ⟨⟨a, dx, rfl, ha⟩, _⟩ := id hv
    refine ⟨a, dx, _, rfl, ha, rf_no dvd_no dvd_no2, h2 H2 (s1.trans s2) _ fun H3 u s3 hu => ?_⟩
    exact ⟨_, _, p, q, n, m, rfl, hv.same s3, hu, hq, hn, fun H4 w s4 hw => k H4 w ((s2.trans s3).trans s4) hw⟩
theorem EvR.mid (h1 : EvR C t1 σ H p n) (h2 : EvR C t2 σ H q m) (hn : n + m + 10 ≤ 9000) : EvR C (tSMeth C (spMid C) E (tC (.ref C)) (tCons t1 (tCons t2 tNil))) σ H ((p + q) / 2) (n + m + 4) := fun H1 s1 Q k =>
  ⟨rfl, h1 H1 s1 _ fun H2 v s2 hv => h2 H2 (s1.trans s2) _ fun H3 u s3 hu => ⟨_, _, p, q, n, m, rfl, hv.same s3, hu, hn, fun H4 w s4 hw => k H4 w ((s2.trans s3).trans s4) hw⟩⟩
theorem EvR.of (h1 : EvN C t σ H p n) (hn : n ≤ 9000) : EvR C (tCall (spOf C) [] E (tCons t tNil)) σ H p n := fun H1 s1 Q k =>
  h1 H1 s1 _ fun H2 v s2 hv => ⟨v, p, n, rfl, hv, hn, fun H4 w s4 hw => k H4 w (s2.trans s4) hw⟩
theorem EvB.notV (h : EvB t σ H b) : EvB (tNotV t) σ H (!b) := fun H1 s1 Q k => h H1 s1 _ fun H2 s2 => ⟨b, rfl, k H2 s2⟩
theorem EvB.andV (h1 : EvB t1 σ H b1) (h2 : b1 = true → EvB t2 σ H b2) : EvB (tAndV t1 t2) σ H (b1 && b2) := fun H1 s1 Q k => h1 H1 s1 _ fun H2 s2 => by
  refine ⟨b1, rfl, ?_⟩
  cases b1 with
  | true => exact h2 rfl H2 (s1.trans s2) Q fun H3 s3 => k H3 (s2.trans s3)
  | false => exact k H2 s2
theorem EvB.ne (h1 : EvB t1 σ H b1) (h2 : EvB t2 σ H b2) : EvB (tOp rNe t1 t2) σ H (b1 != b2) := fun H1 s1 Q k => h1 H1 s1 _ fun H2 s2 => h2 H2 (s1.trans s2) _ fun H3 s3 => by
  refine ⟨rfl, ?_⟩
  have e : (!decide (V.bl b1 = V.bl b2)) = (b1 != b2) := by cases b1 <;> cases b2 <;> rfl
  rw [e]
  exact k H3 (s2.trans s3)
theorem EvB.eqB (h1 : EvB t1 σ H b1) (h2 : EvB t2 σ H b2) : EvB (tOp rEq t1 t2) σ H (b1 == b2) := fun H1 s1 Q k => h1 H1 s1 _ fun H2 s2 => h2 H2 (s1.trans s2) _ fun H3 s3 => by
  refine ⟨rfl, ?_⟩
  have e : (decide (V.bl b1 = V.bl b2)) = (b1 == b2) := by cases b1 <;> cases b2 <;> rfl
  rw [e]
  exact k H3 (s2.trans s3)
theorem EvT.test (h : EvB t σ H b) : EvT (tTest t) σ H b := fun H1 s1 Q k => h H1 s1 _ fun H2 s2 => ⟨b, rfl, k H2 s2⟩
theorem EvT.bb (h : EvB t σ H b) : EvT (tB t) σ H b := fun H1 s1 Q k => h H1 s1 _ fun H2 s2 => ⟨b, rfl, k H2 s2⟩
theorem EvT.not {c : TT} (h : EvT c σ H b) : EvT (tNot c) σ H (!b) := fun H1 s1 Q k => h H1 s1 _ fun H2 s2 => k H2 s2
theorem EvT.and {c d : TT} (h1 : EvT c σ H b1) (h2 : b1 = true → EvT d σ H b2) : EvT (tAnd c d) σ H (b1 && b2) := fun H1 s1 Q k => h1 H1 s1 _ fun H2 s2 => by
  show ite (b1 = true) _ _
  cases b1 with
  | true => rw [if_pos rfl]; exact h2 rfl H2 (s1.trans s2) Q fun H3 s3 => k H3 (s2.trans s3)
  | false => rw [if_neg (by decide)]; exact k H2 s2
theorem EvT.or {c d : TT} (h1 : EvT c σ H b1) (h2 : b1 = false → EvT d σ H b2) : EvT (tOr c d) σ H (b1 || b2) := fun H1 s1 Q k => h1 H1 s1 _ fun H2 s2 => by
  show ite (b1 = true) _ _
  cases b1 with
  | true => rw [if_pos rfl]; exact k H2 s2
  | false => rw [if_neg (by decide)]; exact h2 rfl H2 (s1.trans s2) Q fun H3 s3 => k H3 (s2.trans s3)
/-- if test: .. (the test is false); what comes behind -/
theorem if_no {c : TT} {u v : TS} {D : Ends} (h : EvT c σ H b) (hb : b = false) (k : ∀ H2, Same H H2 → v D σ H2) : tIfS c u v D σ H := h H (Same.refl _) _ fun H2 s2 => by
  show ite (b = true) _ _
  rw [hb, if_neg (by decide)]
  exact k H2 s2
theorem if_yes {c : TT} {u v : TS} {D : Ends} (h : EvT c σ H b) (hb : b = true) (k : ∀ H2, Same H H2 → u D σ H2) : tIfS c u v D σ H := h H (Same.refl _) _ fun H2 s2 => by
  show ite (b = true) _ _
  rw [hb, if_pos rfl]
  exact k H2 s2
theorem EvT.mono {c : TT} {H0 : Hp} (h : EvT c σ H0 b) (s : Same H0 H) : EvT c σ H b := fun H1 s1 => h H1 (s.trans s1)
theorem EvB.mono {H0 : Hp} (h : EvB t σ H0 b) (s : Same H0 H) : EvB t σ H b := fun H1 s1 => h H1 (s.trans s1)
theorem seq_no {c : TT} {u v : TS} {D : Ends} {H0 : Hp} (s : Same H0 H) (h : EvT c σ H0 b) (hb : b = false) (k : ∀ H2, Same H0 H2 → v D σ H2) : tSeq (tIfS c u tNext) v D σ H := if_no (h.mono s) hb fun H2 s2 => k H2 (s.trans s2)
theorem seq_yes {c : TT} {u v v0 : TS} {D : Ends} {H0 : Hp} (s : Same H0 H) (h : EvT c σ H0 b) (hb : b = true) (k : ∀ H2, Same H0 H2 → u { D with nx := v D } σ H2) : tSeq (tIfS c u v0) v D σ H := if_yes (h.mono s) hb fun H2 s2 => k H2 (s.trans s2)
theorem if_noB {c : TT} {u : TS} {D : Ends} {H0 : Hp} (s : Same H0 H) (h : EvT c σ H0 b) (hb : b = false) (k : ∀ H2, Same H0 H2 → D.nx σ H2) : tIfS c u tNext D σ H := if_no (h.mono s) hb fun H2 s2 => k H2 (s.trans s2)
theorem ret_b {D : Ends} {H0 : Hp} (s : Same H0 H) (h : EvB t σ H0 b) (k : ∀ H2, Same H0 H2 → D.rt (.bl b) H2) : tRet t D σ H := (h.mono s) H (Same.refl _) _ fun H2 s2 => k H2 (s.trans s2)
theorem ret_ev {D : Ends} (h : EvB t σ H b) (k : ∀ H2, Same H H2 → D.rt (.bl b) H2) : tRet t D σ H := h H (Same.refl _) _ k
end
section
variable {X : Cx}
theorem mem_bools {hp : Heap} : ∀ {bs : List Bool} {its : List Value}, Vals (bs.map V.bl) its → ReadsAll hp its (bs.map PyData.bool) []
  | [], _, h => by cases h; exact .nil
  | b :: r, _, h => by
    cases h with
    | cons h1 h2 =>
      cases h1
      exact .cons (as := []) (.bool b) (mem_bools h2)
theorem count_bools (k : Bool) : ∀ bs : List Bool, Spec.countIn (.bool k) (bs.map PyData.bool) = (bs.count k : Nat)
  | [] => rfl
  | b :: r => by
    rw [List.map_cons, Spec.countIn, count_bools k r, List.count_cons]
    cases b <;> cases k <;> simp [Spec.same] <;> omega
def rCountB : V → List V → Hp → VK → Prop := fun x xs H Q => ∃ (a : Addr) (bs : List Bool) (k : Bool), x = V.ref a ∧ xs = [.bl k] ∧ H a = some (.lst (bs.map V.bl)) ∧ Q (.int (bs.count k : Nat)) H
theorem mt_countB : MtR X "list.count" rCountB := by
  intro pins s σ H x xs v us Q I rx rxs h
  obtain ⟨a, bs, k, rfl, rfl, hs, q⟩ := h
  cases rx
  cases rxs with
  | cons ry rt =>
    cases ry
    cases rt
    obtain ⟨its, rv, ⟨o, n, ho, hc, hdn, hd⟩, hlen⟩ := I.list (SqL.of hs)
    refine PyProof.Rows.count_list_bools (vs := its) (xs := bs.map PyData.bool) (as := []) (hp := s.heap) ⟨o, ho, hc, n, hd⟩ (mem_bools rv) (by simp [Spec.Shape.has]) ?_
    rw [count_bools]
    exact ⟨.int (bs.count k : Nat), H, I.tok _, ⟨_, rfl⟩, q⟩
end

theorem EvB.count3 {K : PySem.W.Frag} {σ : St} {H : Hp} {t1 t2 t3 : TE} {b1 b2 b3 : Bool} {z : Int} (h1 : EvB t1 σ H b1) (h2 : EvB t2 σ H b2) (h3 : EvB t3 σ H b3) :
    EvB (tOp rNe (tBM K "list" rCountB (tLst (tCons t1 (tCons t2 (tCons t3 tNil)))) (tCons (tC (.bl true)) tNil)) (tC (.int z))) σ H (!decide ((([b1, b2, b3].count true : Nat) : Int) = z)) := fun H1 s1 Q k =>
  h1 H1 s1 _ fun H2 s2 => h2 H2 (s1.trans s2) _ fun H3 s3 => h3 H3 ((s1.trans s2).trans s3) _ fun H4 s4 => by
    refine ⟨(by decide : 3 ≤ sizeLine), fun p hp => ?_⟩
    obtain ⟨s5, h5⟩ := new_facts hp (rfl : upd H4 p (.lst [.bl b1, .bl b2, .bl b3]) = _)
    refine ⟨Or.inl ⟨rfl, _, SqL.of h5⟩, ?_⟩
    refine ⟨p, [b1, b2, b3], true, rfl, rfl, h5, rfl, ?_⟩
    have e : decide (V.int (([b1, b2, b3].count true : Nat) : Int) = V.int z) = decide ((([b1, b2, b3].count true : Nat) : Int) = z) := decide_eq_decide.mpr (by rw [V.int.injEq])
    rw [e]
    exact k _ (((s2.trans s3).trans s4).trans s5)
theorem set_ev {C : Addr} {σ : St} {H H0 : Hp} {t : TE} {q : Rat} {n : Nat} {i : Nat} {D : Ends} {v : TS} (s : Same H0 H) (h : EvR C t σ H0 q n) (k : ∀ H2 x, Same H0 H2 → RatAt C H2 x q n → v D (σ.set i (some x)) H2) : tSeq (tAsg t (gName i)) v D σ H :=
  h H s _ fun H2 x s2 hx => k H2 x (s.trans s2) hx



/-! ### ranges: parts -/
abbrev Pt := Rat × Option Rat
def NHi (C : Addr) (H : Hp) (y : V) (n : Nat) : Option Rat → Prop
  | none => y = .non
  | some q => NumAt C H y q n
def RHi (C : Addr) (H : Hp) (y : V) (n : Nat) : Option Rat → Prop
  | none => y = .non
  | some q => RatAt C H y q n
theorem NHi.same {C : Addr} {H H' : Hp} {y : V} {n : Nat} {h : Option Rat} (x : NHi C H y n h) (s : Same H H') : NHi C H' y n h := by
  cases h with
  | none => exact x
  | some q => exact NumAt.same (show NumAt C H y q n from x) s
theorem RHi.same {C : Addr} {H H' : Hp} {y : V} {n : Nat} {h : Option Rat} (x : RHi C H y n h) (s : Same H H') : RHi C H' y n h := by
  cases h with
  | none => exact x
  | some q => exact RatAt.same (show RatAt C H y q n from x) s
def NPart (C : Addr) (H : Hp) (v : V) (n : Nat) (p : Pt) : Prop := ∃ t x y, v = .ref t ∧ H t = some (.tup [x, y]) ∧ NumAt C H x p.1 n ∧ NHi C H y n p.2
def RPart (C : Addr) (H : Hp) (v : V) (n : Nat) (p : Pt) : Prop := ∃ t x y, v = .ref t ∧ H t = some (.tup [x, y]) ∧ RatAt C H x p.1 n ∧ RHi C H y n p.2
theorem NPart.same {C : Addr} {H H' : Hp} {v : V} {n : Nat} {p : Pt} (h : NPart C H v n p) (s : Same H H') : NPart C H' v n p := by
  obtain ⟨t, x, y, e, h1, h2, h3⟩ := h
  exact ⟨t, x, y, e, s _ _ h1, h2.same s, h3.same s⟩
theorem RPart.same {C : Addr} {H H' : Hp} {v : V} {n : Nat} {p : Pt} (h : RPart C H v n p) (s : Same H H') : RPart C H' v n p := by
  obtain ⟨t, x, y, e, h1, h2, h3⟩ := h
  exact ⟨t, x, y, e, s _ _ h1, h2.same s, h3.same s⟩
theorem RPart.num {C : Addr} {H : Hp} {v : V} {n : Nat} {p : Pt} (h : RPart C H v n p) : NPart C H v n p := by
  obtain ⟨t, x, y, e, h1, h2, h3⟩ := h
  refine ⟨t, x, y, e, h1, .inl h2, ?_⟩
  obtain ⟨lo, hi⟩ := p
  cases hi with
  | none => exact h3
  | some q => exact .inl h3
structure NPs (C : Addr) (H : Hp) (xs : List V) (n : Nat) (ps : List Pt) : Prop where
  len : xs.length = ps.length
  ea : ∀ (i : Nat) (v : V) (p : Pt), xs[i]? = some v → ps[i]? = some p → NPart C H v n p
structure RPs (C : Addr) (H : Hp) (xs : List V) (n : Nat) (ps : List Pt) : Prop where
  len : xs.length = ps.length
  ea : ∀ (i : Nat) (v : V) (p : Pt), xs[i]? = some v → ps[i]? = some p → RPart C H v n p
theorem NPs.same {C : Addr} {H H' : Hp} {xs : List V} {n : Nat} {ps : List Pt} (h : NPs C H xs n ps) (s : Same H H') : NPs C H' xs n ps := ⟨h.len, fun i v p h1 h2 => (h.ea i v p h1 h2).same s⟩
theorem RPs.same {C : Addr} {H H' : Hp} {xs : List V} {n : Nat} {ps : List Pt} (h : RPs C H xs n ps) (s : Same H H') : RPs C H' xs n ps := ⟨h.len, fun i v p h1 h2 => (h.ea i v p h1 h2).same s⟩
theorem RPs.num {C : Addr} {H : Hp} {xs : List V} {n : Nat} {ps : List Pt} (h : RPs C H xs n ps) : NPs C H xs n ps := ⟨h.len, fun i v p h1 h2 => (h.ea i v p h1 h2).num⟩
/-- a range -/
def Okp (p : Pt) : Prop := 0 ≤ p.1 ∧ ∀ h, p.2 = some h → 0 < h ∧ p.1 ≤ h
/-- each begins above the end of the one before -/
def AscP (ps : List Pt) : Prop := ∀ (i : Nat) (p q : Pt), ps[i]? = some p → ps[i + 1]? = some q → ∃ h, p.2 = some h ∧ h < q.1
section
variable {C : Addr} {H : Hp} {x y : V} {p q : Rat} {n m : Nat} {E E' : XK}
theorem num_cmp {r r' : Rat → Rat → Bool} {ri : R2} (hx : NumAt C H x p n) (hy : NumAt C H y q m) (hn : n + m ≤ 9000) (hr : r' q p = r p q) {Q : VK} (hi : ∀ i j : Int, x = .int i → y = .int j → p = i → q = j → (∀ H', Same H H' → Q (.bl (r p q)) H') → ri x y H Q)
    (k : ∀ H', Same H H' → Q (.bl (r p q)) H') : rOr (rOwn C (spCmp C r) E) (rOr (rOwnI C (spCmp C r') E') ri) x y H Q := by
  rcases hx with hx | ⟨⟨i, rfl, ep⟩, bx⟩
  · obtain ⟨⟨a, dx, rfl, ha⟩, _⟩ := id hx
    exact .inl ⟨a, dx, _, rfl, ha, hy.own, _, _, p, q, n, m, rfl, hx, hy, hn, k⟩
  · rcases hy with hy | ⟨⟨j, rfl, eq⟩, bj⟩
    · obtain ⟨⟨a, dx, rfl, ha⟩, _⟩ := id hy
      refine .inr (.inl ⟨i, a, dx, _, rfl, rfl, ha, _, _, q, p, m, n, rfl, hy, .inr ⟨⟨i, rfl, ep⟩, bx⟩, by omega, fun H4 s4 => ?_⟩)
      show Q (.bl (r' q p)) H4
      rw [hr]
      exact k H4 s4
    · exact .inr (.inr (hi i j rfl rfl ep eq k))
theorem num_cmp0 {r : Rat → Rat → Bool} {ri : R2} (hx : NumAt C H x p n) (hy : NumAt C H y q m) (hn : n + m ≤ 9000) {Q : VK} (hi : ∀ i : Int, x = .int i → p = i → (∀ H', Same H H' → Q (.bl (r p q)) H') → ri x y H Q)
    (k : ∀ H', Same H H' → Q (.bl (r p q)) H') : rOr (rOwn C (spCmp C r) E) ri x y H Q := by
  rcases hx with hx | ⟨⟨i, rfl, ep⟩, bx⟩
  · obtain ⟨⟨a, dx, rfl, ha⟩, _⟩ := id hx
    exact .inl ⟨a, dx, _, rfl, ha, hy.own, _, _, p, q, n, m, rfl, hx, hy, hn, k⟩
  · exact .inr (hi i rfl ep k)
end
theorem num_int {C : Addr} {H : Hp} {z : Int} (h : z.natAbs < 2 ^ 2) : NumAt C H (.int z) (z : Rat) 2 := .inr ⟨⟨z, rfl, rfl⟩, bd_int h (by decide)⟩
theorem NumAt.nn {C : Addr} {H : Hp} {y : V} {q : Rat} {n : Nat} (h : NumAt C H y q n) : ¬ y = .non := fun z => by
  rcases h with ⟨⟨a, dx, e, _⟩, _⟩ | ⟨⟨i, e, _⟩, _⟩ <;> (rw [z] at e; cases e)
def spRange (C : Addr) : Sp := fun vs H Q _ => ∃ v n p, vs = [v] ∧ NPart C H v n p ∧ Okp p ∧ n ≤ 4000 ∧ ∀ H', Same H H' → Q (.bl true) H'
def spInR (C : Addr) : Sp := fun vs H Q _ => ∃ v n p, vs = [v] ∧ NPart C H v n p ∧ n ≤ 4000 ∧ ∀ H' v', Same H H' → RPart C H' v' n p → Q v' H'
section
variable {P : Program} {w : World} {K : PySem.W.Frag} {mg : Str → Option Value} {base : Heap} {A : Adr}
theorem ok_isrange (T : Txt K mg A) (gIsNumber : FnOk P w K mg base CX0 2 A.a_IsNumber A.d_IsNumber ["value"] (spIsNum A.k_Ratio))
    (gRatioLt : FnOk P w K mg base CX0 5 A.a_RatioLt A.d_RatioLt ["self", "other"] (spCmp A.k_Ratio (fun p q => decide (p < q)))) (gRatioLe : FnOk P w K mg base CX0 5 A.a_RatioLe A.d_RatioLe ["self", "other"] (spCmp A.k_Ratio (fun p q => decide (p ≤ q)))) (gRatioGe : FnOk P w K mg base CX0 5 A.a_RatioGe A.d_RatioGe ["self", "other"] (spCmp A.k_Ratio (fun p q => decide (q ≤ p)))) :
    FnOk P w K mg base CX0 6 A.a_IsRange A.d_IsRange ["value"] (spRange A.k_Ratio) := by
  refine T.f_IsRange.ok scIsRange (fun vs H Q E h => ?_) (fun cdv A' outer s H vs Q E hr h => ?_)
  · obtain ⟨v, n, p, rfl, _⟩ := h
    rfl
  · obtain ⟨v, n, ⟨lo, hi⟩, rfl, ⟨t, x, y, rfl, ht, hx, hy⟩, ⟨ok1, ok2⟩, hn, k⟩ := h
    refine ⟨_, (pss_cons (ps_if (PW.pt (pw_or (pt_not (pt_val (pe_callB call_isW (by rfl) T.z_isinstance (by decide +kernel) (pa_cons (pv 0) (pa_cons (pe_bltn (v := .ty "tuple") (by rfl) T.z_tuple (by decide +kernel) rfl) pa_nil))))) (pw_or (pt_cmpR (op_ne) (pe_callB call_lenU (by rfl) T.z_len (by decide +kernel) (pa_cons (pv 0) pa_nil)) pe_int (nomark _)) (pw_or (pt_not (pt_val (pe_call gIsNumber (hr.mono (by decide)) (by rfl) T.m_IsNumber T.f_IsNumber.kp T.b_IsNumber .nil pass0 (pa_cons (pe_ix ix_tupH (pv 0) pe_int (fun _ _ => rfl)) pa_nil)))) (pw_or1 (pt_cmpR (opOr (op_ownC (fun _ _ => rfl) T.o_RatioLt gRatioLt (hr.mono (by decide)) T.b_RatioLt pass0) op_lt) (pe_ix ix_tupH (pv 0) pe_int (fun _ _ => rfl)) pe_int (nomark _))))))) (pss_one (ps_ret pe_bl)) pss_nil)
      (pss_cons (ps_asg (pv 0) (pg_tup rfl (pgs_cons (pg_name (i := 1) scIsRange.nd rfl (Or.inl rfl)) (pgs_cons (pg_name (i := 2) scIsRange.nd rfl (Or.inl rfl)) pgs_nil))))
      (pss_cons (ps_if (pt_cmpR (op_isN) (pv 2) pe_non (nomark _)) (pss_one (ps_ret pe_bl)) pss_nil)
      (pss_cons (ps_if (PW.pt (pw_or (pt_not (pt_val (pe_call gIsNumber (hr.mono (by decide)) (by rfl) T.m_IsNumber T.f_IsNumber.kp T.b_IsNumber .nil pass0 (pa_cons (pv 2) pa_nil)))) (pw_or1 (pt_cmpR (opOr (op_ownC (fun _ _ => rfl) T.o_RatioLe gRatioLe (hr.mono (by decide)) T.b_RatioLe pass0) op_le) (pv 2) pe_int (nomark _))))) (pss_one (ps_ret pe_bl)) pss_nil)
      (pss_one (ps_ret (pe_cmpR (opOr (op_ownC (fun _ _ => rfl) T.o_RatioLe gRatioLe (hr.mono (by decide)) T.b_RatioLe pass0) (opOr (op_ownCI int_le T.r_RatioGe gRatioGe (hr.mono (by decide)) T.b_RatioGe pass0) op_le)) (pv 1) (pv 2) (nomark _)))))))), ?_⟩
    refine seq_gen fun N eN => ?_
    have et : tyV H (.ref t) = some (.type "tuple") := by rw [tyV_ref, ht]; rfl
    have e1 : PySem.W.kitOne K (.type "tuple") (.type "tuple") = some true := kit_self
    try simp only [tSeq, tNext, tRet, tRetN, tAsg, gName, gSub, tDrop, tIfS, tOp, tUn, tCB, tCons, tNil, tC, tVar, rI, rI0, rU, tAnd, tOr, tNot, tAndV, tOrV, tNotV, tIf, tTest, tB, tCall, tChain, tLst, tTup, tYes, rIxH, rIsB, rIsBT, rMulS, kd_non, kd_bl, kd_int, kd_str, kd_ref, kdO_lst, kdO_tup, kdO_dK, nq_n, nq_b, nq_i, nq_s, nq_l, nq_t, nq_d, ne_eq, not_false_eq_true, kit_ss, kit_ns, kit_bs, kit_is, kit_ls, kit_ts, kit_ds, kit_bb, V.ty.injEq, and_assoc, rIxU, rLenH, rLenU, rLenS, rInt1, rSetL, rEq, rNe, rCat, L2.start, List.map, List.length, List.length_cons, List.length_nil, List.replicate, List.getElem?_cons_zero, List.getElem?_cons_succ, List.set_cons_zero, List.set_cons_succ, List.set_nil, List.cons_append, List.nil_append, List.append_nil, Option.some.injEq, V.int.injEq, V.ref.injEq, V.str.injEq, V.bl.injEq, HO.lst.injEq, HO.tup.injEq, exists_eq_left', exists_and_left, exists_eq_left, List.cons.injEq, and_true, true_and, and_false, false_and, and_self, reduceCtorEq, exists_false, or_false, false_or, exists_const, at0, at1, at2, at3, at4, at5, ix51, ix52, ix54, upd_same, Nat.reduceAdd, Nat.reduceSub, Nat.zero_add, Int.reduceToNat, Int.reduceLE, Int.reduceLT, decide_eq_true_eq, Bool.not_eq_true, if_true, if_false, Bool.false_eq_true, ite_true, ite_false, Bool.not_true, Bool.not_false, decide_true, decide_false, tFor_eq, tLc_eq, iList, iTup, iRng1, iRng2, iStr, tSl, tPart, tNoPart, rSlL, cxOf_K, wipe, ex_ty2, kit_LTl, kit_LTt, kit_LTd, kit_LTs, kit_LTn, kit_LTb, kit_LTi, tM1, rIxS, exists_eq', lt1p, tDNewK, rSlS, rEqNil, nox_K, rIsW, clsV_ty, clsV_ref, et, e1, ht, implies_true, forall_const, false_implies]
    refine ⟨scal_int, ?_⟩
    rw [if_neg (by decide)]
    obtain ⟨ty, t1, t2, t3, t4, t5⟩ := numTy T hx
    refine ⟨x, ty, rfl, t1, t4, _, rfl, ?_⟩
    rw [t5, if_neg (by decide)]
    refine ⟨_, ht, x, at0, ?_⟩
    have z0 : ((0 : Int) : Rat) = 0 := rfl
    refine num_cmp0 (m := 2) hx (num_int (z := 0) (by decide)) (by omega) (fun i ei ep kk => ?_) (fun H1 s1 => ?_)
    · subst ei
      refine ⟨i, 0, rfl, rfl, ?_⟩
      have e := kk H (Same.refl _)
      rw [ep] at e
      have e2 : decide ((i : Rat) < ((0 : Int) : Rat)) = decide (i < 0) := decide_eq_decide.mpr Rat.intCast_lt_intCast
      rw [e2] at e
      exact e
    · refine ⟨_, rfl, ?_⟩
      rw [z0, decide_eq_false (by exact Rat.not_lt.mpr ok1), if_neg (by decide)]
      rw [eN]
      clear eN N
      have ht1 := s1 _ _ ht
      have hx1 := hx.same s1
      have hy1 := hy.same s1
      refine seq_gen fun N eN => ?_
      try simp only [tSeq, tNext, tRet, tRetN, tAsg, gName, gSub, tDrop, tIfS, tOp, tUn, tCB, tCons, tNil, tC, tVar, rI, rI0, rU, tAnd, tOr, tNot, tAndV, tOrV, tNotV, tIf, tTest, tB, tCall, tChain, tLst, tTup, tYes, rIxH, rIsB, rIsBT, rMulS, kd_non, kd_bl, kd_int, kd_str, kd_ref, kdO_lst, kdO_tup, kdO_dK, nq_n, nq_b, nq_i, nq_s, nq_l, nq_t, nq_d, ne_eq, not_false_eq_true, kit_ss, kit_ns, kit_bs, kit_is, kit_ls, kit_ts, kit_ds, kit_bb, V.ty.injEq, and_assoc, rIxU, rLenH, rLenU, rLenS, rInt1, rSetL, rEq, rNe, rCat, L2.start, List.map, List.length, List.length_cons, List.length_nil, List.replicate, List.getElem?_cons_zero, List.getElem?_cons_succ, List.set_cons_zero, List.set_cons_succ, List.set_nil, List.cons_append, List.nil_append, List.append_nil, Option.some.injEq, V.int.injEq, V.ref.injEq, V.str.injEq, V.bl.injEq, HO.lst.injEq, HO.tup.injEq, exists_eq_left', exists_and_left, exists_eq_left, List.cons.injEq, and_true, true_and, and_false, false_and, and_self, reduceCtorEq, exists_false, or_false, false_or, exists_const, at0, at1, at2, at3, at4, at5, ix51, ix52, ix54, upd_same, Nat.reduceAdd, Nat.reduceSub, Nat.zero_add, Int.reduceToNat, Int.reduceLE, Int.reduceLT, decide_eq_true_eq, Bool.not_eq_true, if_true, if_false, Bool.false_eq_true, ite_true, ite_false, Bool.not_true, Bool.not_false, decide_true, decide_false, tFor_eq, tLc_eq, iList, iTup, iRng1, iRng2, iStr, tSl, tPart, tNoPart, rSlL, cxOf_K, wipe, ex_ty2, kit_LTl, kit_LTt, kit_LTd, kit_LTs, kit_LTn, kit_LTb, kit_LTi, tM1, rIxS, exists_eq', lt1p, tDNewK, rSlS, rEqNil, nox_K]
      refine ⟨t, _, rfl, SqT.of ht1, rfl, _, _, rfl, _, _, rfl, rfl, ?_⟩
      rw [eN]
      clear eN N
      refine seq_gen fun N eN => ?_
      cases hi with
      | none =>
        have hy0 : y = .non := hy1
        subst hy0
        try simp only [tSeq, tNext, tRet, tRetN, tAsg, gName, gSub, tDrop, tIfS, tOp, tUn, tCB, tCons, tNil, tC, tVar, rI, rI0, rU, tAnd, tOr, tNot, tAndV, tOrV, tNotV, tIf, tTest, tB, tCall, tChain, tLst, tTup, tYes, rIxH, rIsB, rIsBT, rMulS, kd_non, kd_bl, kd_int, kd_str, kd_ref, kdO_lst, kdO_tup, kdO_dK, nq_n, nq_b, nq_i, nq_s, nq_l, nq_t, nq_d, ne_eq, not_false_eq_true, kit_ss, kit_ns, kit_bs, kit_is, kit_ls, kit_ts, kit_ds, kit_bb, V.ty.injEq, and_assoc, rIxU, rLenH, rLenU, rLenS, rInt1, rSetL, rEq, rNe, rCat, L2.start, List.map, List.length, List.length_cons, List.length_nil, List.replicate, List.getElem?_cons_zero, List.getElem?_cons_succ, List.set_cons_zero, List.set_cons_succ, List.set_nil, List.cons_append, List.nil_append, List.append_nil, Option.some.injEq, V.int.injEq, V.ref.injEq, V.str.injEq, V.bl.injEq, HO.lst.injEq, HO.tup.injEq, exists_eq_left', exists_and_left, exists_eq_left, List.cons.injEq, and_true, true_and, and_false, false_and, and_self, reduceCtorEq, exists_false, or_false, false_or, exists_const, at0, at1, at2, at3, at4, at5, ix51, ix52, ix54, upd_same, Nat.reduceAdd, Nat.reduceSub, Nat.zero_add, Int.reduceToNat, Int.reduceLE, Int.reduceLT, decide_eq_true_eq, Bool.not_eq_true, if_true, if_false, Bool.false_eq_true, ite_true, ite_false, Bool.not_true, Bool.not_false, decide_true, decide_false, tFor_eq, tLc_eq, iList, iTup, iRng1, iRng2, iStr, tSl, tPart, tNoPart, rSlL, cxOf_K, wipe, ex_ty2, kit_LTl, kit_LTt, kit_LTd, kit_LTs, kit_LTn, kit_LTb, kit_LTi, tM1, rIxS, exists_eq', lt1p, tDNewK, rSlS, rEqNil, nox_K]
        exact k H1 s1
      | some h =>
        have hy1 : NumAt A.k_Ratio H1 y h n := hy1
        obtain ⟨o3, o4⟩ := ok2 h rfl
        try simp only [tSeq, tNext, tRet, tRetN, tAsg, gName, gSub, tDrop, tIfS, tOp, tUn, tCB, tCons, tNil, tC, tVar, rI, rI0, rU, tAnd, tOr, tNot, tAndV, tOrV, tNotV, tIf, tTest, tB, tCall, tChain, tLst, tTup, tYes, rIxH, rIsB, rIsBT, rMulS, kd_non, kd_bl, kd_int, kd_str, kd_ref, kdO_lst, kdO_tup, kdO_dK, nq_n, nq_b, nq_i, nq_s, nq_l, nq_t, nq_d, ne_eq, not_false_eq_true, kit_ss, kit_ns, kit_bs, kit_is, kit_ls, kit_ts, kit_ds, kit_bb, V.ty.injEq, and_assoc, rIxU, rLenH, rLenU, rLenS, rInt1, rSetL, rEq, rNe, rCat, L2.start, List.map, List.length, List.length_cons, List.length_nil, List.replicate, List.getElem?_cons_zero, List.getElem?_cons_succ, List.set_cons_zero, List.set_cons_succ, List.set_nil, List.cons_append, List.nil_append, List.append_nil, Option.some.injEq, V.int.injEq, V.ref.injEq, V.str.injEq, V.bl.injEq, HO.lst.injEq, HO.tup.injEq, exists_eq_left', exists_and_left, exists_eq_left, List.cons.injEq, and_true, true_and, and_false, false_and, and_self, reduceCtorEq, exists_false, or_false, false_or, exists_const, at0, at1, at2, at3, at4, at5, ix51, ix52, ix54, upd_same, Nat.reduceAdd, Nat.reduceSub, Nat.zero_add, Int.reduceToNat, Int.reduceLE, Int.reduceLT, decide_eq_true_eq, Bool.not_eq_true, if_true, if_false, Bool.false_eq_true, ite_true, ite_false, Bool.not_true, Bool.not_false, decide_true, decide_false, tFor_eq, tLc_eq, iList, iTup, iRng1, iRng2, iStr, tSl, tPart, tNoPart, rSlL, cxOf_K, wipe, ex_ty2, kit_LTl, kit_LTt, kit_LTd, kit_LTs, kit_LTn, kit_LTb, kit_LTi, tM1, rIxS, exists_eq', lt1p, tDNewK, rSlS, rEqNil, nox_K]
        rw [if_neg hy1.nn]
        rw [eN]
        clear eN N
        refine seq_gen fun N eN => ?_
        try simp only [tSeq, tNext, tRet, tRetN, tAsg, gName, gSub, tDrop, tIfS, tOp, tUn, tCB, tCons, tNil, tC, tVar, rI, rI0, rU, tAnd, tOr, tNot, tAndV, tOrV, tNotV, tIf, tTest, tB, tCall, tChain, tLst, tTup, tYes, rIxH, rIsB, rIsBT, rMulS, kd_non, kd_bl, kd_int, kd_str, kd_ref, kdO_lst, kdO_tup, kdO_dK, nq_n, nq_b, nq_i, nq_s, nq_l, nq_t, nq_d, ne_eq, not_false_eq_true, kit_ss, kit_ns, kit_bs, kit_is, kit_ls, kit_ts, kit_ds, kit_bb, V.ty.injEq, and_assoc, rIxU, rLenH, rLenU, rLenS, rInt1, rSetL, rEq, rNe, rCat, L2.start, List.map, List.length, List.length_cons, List.length_nil, List.replicate, List.getElem?_cons_zero, List.getElem?_cons_succ, List.set_cons_zero, List.set_cons_succ, List.set_nil, List.cons_append, List.nil_append, List.append_nil, Option.some.injEq, V.int.injEq, V.ref.injEq, V.str.injEq, V.bl.injEq, HO.lst.injEq, HO.tup.injEq, exists_eq_left', exists_and_left, exists_eq_left, List.cons.injEq, and_true, true_and, and_false, false_and, and_self, reduceCtorEq, exists_false, or_false, false_or, exists_const, at0, at1, at2, at3, at4, at5, ix51, ix52, ix54, upd_same, Nat.reduceAdd, Nat.reduceSub, Nat.zero_add, Int.reduceToNat, Int.reduceLE, Int.reduceLT, decide_eq_true_eq, Bool.not_eq_true, if_true, if_false, Bool.false_eq_true, ite_true, ite_false, Bool.not_true, Bool.not_false, decide_true, decide_false, tFor_eq, tLc_eq, iList, iTup, iRng1, iRng2, iStr, tSl, tPart, tNoPart, rSlL, cxOf_K, wipe, ex_ty2, kit_LTl, kit_LTt, kit_LTd, kit_LTs, kit_LTn, kit_LTb, kit_LTi, tM1, rIxS, exists_eq', lt1p, tDNewK, rSlS, rEqNil, nox_K]
        obtain ⟨uy, u1, u2, u3, u4, u5⟩ := numTy T hy1
        refine ⟨y, uy, rfl, u1, u4, _, rfl, ?_⟩
        rw [u5, if_neg (by decide)]
        refine num_cmp0 (m := 2) hy1 (num_int (z := 0) (by decide)) (by omega) (fun i ei ep kk => ?_) (fun H2 s2 => ?_)
        · subst ei
          refine ⟨i, 0, rfl, rfl, ?_⟩
          have e := kk H1 (Same.refl _)
          rw [ep] at e
          have e2 : decide ((i : Rat) ≤ ((0 : Int) : Rat)) = decide (i ≤ 0) := decide_eq_decide.mpr Rat.intCast_le_intCast
          rw [e2] at e
          exact e
        · refine ⟨_, rfl, ?_⟩
          rw [z0, decide_eq_false (by exact Rat.not_le.mpr o3), if_neg (by decide)]
          rw [eN]
          clear eN N
          try simp only [tSeq, tNext, tRet, tRetN, tAsg, gName, gSub, tDrop, tIfS, tOp, tUn, tCB, tCons, tNil, tC, tVar, rI, rI0, rU, tAnd, tOr, tNot, tAndV, tOrV, tNotV, tIf, tTest, tB, tCall, tChain, tLst, tTup, tYes, rIxH, rIsB, rIsBT, rMulS, kd_non, kd_bl, kd_int, kd_str, kd_ref, kdO_lst, kdO_tup, kdO_dK, nq_n, nq_b, nq_i, nq_s, nq_l, nq_t, nq_d, ne_eq, not_false_eq_true, kit_ss, kit_ns, kit_bs, kit_is, kit_ls, kit_ts, kit_ds, kit_bb, V.ty.injEq, and_assoc, rIxU, rLenH, rLenU, rLenS, rInt1, rSetL, rEq, rNe, rCat, L2.start, List.map, List.length, List.length_cons, List.length_nil, List.replicate, List.getElem?_cons_zero, List.getElem?_cons_succ, List.set_cons_zero, List.set_cons_succ, List.set_nil, List.cons_append, List.nil_append, List.append_nil, Option.some.injEq, V.int.injEq, V.ref.injEq, V.str.injEq, V.bl.injEq, HO.lst.injEq, HO.tup.injEq, exists_eq_left', exists_and_left, exists_eq_left, List.cons.injEq, and_true, true_and, and_false, false_and, and_self, reduceCtorEq, exists_false, or_false, false_or, exists_const, at0, at1, at2, at3, at4, at5, ix51, ix52, ix54, upd_same, Nat.reduceAdd, Nat.reduceSub, Nat.zero_add, Int.reduceToNat, Int.reduceLE, Int.reduceLT, decide_eq_true_eq, Bool.not_eq_true, if_true, if_false, Bool.false_eq_true, ite_true, ite_false, Bool.not_true, Bool.not_false, decide_true, decide_false, tFor_eq, tLc_eq, iList, iTup, iRng1, iRng2, iStr, tSl, tPart, tNoPart, rSlL, cxOf_K, wipe, ex_ty2, kit_LTl, kit_LTt, kit_LTd, kit_LTs, kit_LTn, kit_LTb, kit_LTi, tM1, rIxS, exists_eq', lt1p, tDNewK, rSlS, rEqNil, nox_K]
          refine num_cmp (hx1.same s2) (hy1.same s2) (by omega) rfl (fun i j ei ej ep eq kk => ?_) (fun H3 s3 => ?_)
          · subst ei ej
            refine ⟨i, j, rfl, rfl, ?_⟩
            have e := kk H2 (Same.refl _)
            rw [ep, eq] at e
            have e2 : decide ((i : Rat) ≤ (j : Rat)) = decide (i ≤ j) := decide_eq_decide.mpr Rat.intCast_le_intCast
            rw [e2] at e
            exact e
          · rw [decide_eq_true (by exact o4)]
            exact k H3 ((s1.trans s2).trans s3)
theorem ok_inratios (T : Txt K mg A) (gRatioOf : FnOk P w K mg base CX0 4 A.a_RatioOf A.d_RatioOf ["number"] (spOf A.k_Ratio)) : FnOk P w K mg base CX0 5 A.a_InRatios A.d_InRatios ["part"] (spInR A.k_Ratio) := by
  refine T.f_InRatios.ok scInRatios (fun vs H Q E h => ?_) (fun cdv A' outer s H vs Q E hr h => ?_)
  · obtain ⟨v, n, p, rfl, _⟩ := h
    rfl
  · obtain ⟨v, n, ⟨lo, hi⟩, rfl, ⟨t, x, y, rfl, ht, hx, hy⟩, hn, k⟩ := h
    refine ⟨_, (pss_cons (ps_if (pt_cmpR (op_isN) (pe_ix ix_tupH (pv 0) pe_int (fun _ _ => rfl)) pe_non (nomark _)) (pss_one (ps_ret (pe_tup (pa_cons (pe_call gRatioOf (hr.mono (by decide)) (by rfl) T.m_RatioOf T.f_RatioOf.kp T.b_RatioOf .nil pass0 (pa_cons (pe_ix ix_tupH (pv 0) pe_int (fun _ _ => rfl)) pa_nil)) (pa_cons pe_non pa_nil))))) pss_nil)
      (pss_one (ps_ret (pe_tup (pa_cons (pe_call gRatioOf (hr.mono (by decide)) (by rfl) T.m_RatioOf T.f_RatioOf.kp T.b_RatioOf .nil pass0 (pa_cons (pe_ix ix_tupH (pv 0) pe_int (fun _ _ => rfl)) pa_nil)) (pa_cons (pe_call gRatioOf (hr.mono (by decide)) (by rfl) T.m_RatioOf T.f_RatioOf.kp T.b_RatioOf .nil pass0 (pa_cons (pe_ix ix_tupH (pv 0) pe_int (fun _ _ => rfl)) pa_nil)) pa_nil)))))), ?_⟩
    refine seq_gen fun N eN => ?_
    try simp only [tSeq, tNext, tRet, tRetN, tAsg, gName, gSub, tDrop, tIfS, tOp, tUn, tCB, tCons, tNil, tC, tVar, rI, rI0, rU, tAnd, tOr, tNot, tAndV, tOrV, tNotV, tIf, tTest, tB, tCall, tChain, tLst, tTup, tYes, rIxH, rIsB, rIsBT, rMulS, kd_non, kd_bl, kd_int, kd_str, kd_ref, kdO_lst, kdO_tup, kdO_dK, nq_n, nq_b, nq_i, nq_s, nq_l, nq_t, nq_d, ne_eq, not_false_eq_true, kit_ss, kit_ns, kit_bs, kit_is, kit_ls, kit_ts, kit_ds, kit_bb, V.ty.injEq, and_assoc, rIxU, rLenH, rLenU, rLenS, rInt1, rSetL, rEq, rNe, rCat, L2.start, List.map, List.length, List.length_cons, List.length_nil, List.replicate, List.getElem?_cons_zero, List.getElem?_cons_succ, List.set_cons_zero, List.set_cons_succ, List.set_nil, List.cons_append, List.nil_append, List.append_nil, Option.some.injEq, V.int.injEq, V.ref.injEq, V.str.injEq, V.bl.injEq, HO.lst.injEq, HO.tup.injEq, exists_eq_left', exists_and_left, exists_eq_left, List.cons.injEq, and_true, true_and, and_false, false_and, and_self, reduceCtorEq, exists_false, or_false, false_or, exists_const, at0, at1, at2, at3, at4, at5, ix51, ix52, ix54, upd_same, Nat.reduceAdd, Nat.reduceSub, Nat.zero_add, Int.reduceToNat, Int.reduceLE, Int.reduceLT, decide_eq_true_eq, Bool.not_eq_true, if_true, if_false, Bool.false_eq_true, ite_true, ite_false, Bool.not_true, Bool.not_false, decide_true, decide_false, tFor_eq, tLc_eq, iList, iTup, iRng1, iRng2, iStr, tSl, tPart, tNoPart, rSlL, cxOf_K, wipe, ex_ty2, kit_LTl, kit_LTt, kit_LTd, kit_LTs, kit_LTn, kit_LTb, kit_LTi, tM1, rIxS, exists_eq', lt1p, tDNewK, rSlS, rEqNil, nox_K, ht]
    cases hi with
    | none =>
      have hy0 : y = .non := hy
      subst hy0
      try simp only [tSeq, tNext, tRet, tRetN, tAsg, gName, gSub, tDrop, tIfS, tOp, tUn, tCB, tCons, tNil, tC, tVar, rI, rI0, rU, tAnd, tOr, tNot, tAndV, tOrV, tNotV, tIf, tTest, tB, tCall, tChain, tLst, tTup, tYes, rIxH, rIsB, rIsBT, rMulS, kd_non, kd_bl, kd_int, kd_str, kd_ref, kdO_lst, kdO_tup, kdO_dK, nq_n, nq_b, nq_i, nq_s, nq_l, nq_t, nq_d, ne_eq, not_false_eq_true, kit_ss, kit_ns, kit_bs, kit_is, kit_ls, kit_ts, kit_ds, kit_bb, V.ty.injEq, and_assoc, rIxU, rLenH, rLenU, rLenS, rInt1, rSetL, rEq, rNe, rCat, L2.start, List.map, List.length, List.length_cons, List.length_nil, List.replicate, List.getElem?_cons_zero, List.getElem?_cons_succ, List.set_cons_zero, List.set_cons_succ, List.set_nil, List.cons_append, List.nil_append, List.append_nil, Option.some.injEq, V.int.injEq, V.ref.injEq, V.str.injEq, V.bl.injEq, HO.lst.injEq, HO.tup.injEq, exists_eq_left', exists_and_left, exists_eq_left, List.cons.injEq, and_true, true_and, and_false, false_and, and_self, reduceCtorEq, exists_false, or_false, false_or, exists_const, at0, at1, at2, at3, at4, at5, ix51, ix52, ix54, upd_same, Nat.reduceAdd, Nat.reduceSub, Nat.zero_add, Int.reduceToNat, Int.reduceLE, Int.reduceLT, decide_eq_true_eq, Bool.not_eq_true, if_true, if_false, Bool.false_eq_true, ite_true, ite_false, Bool.not_true, Bool.not_false, decide_true, decide_false, tFor_eq, tLc_eq, iList, iTup, iRng1, iRng2, iStr, tSl, tPart, tNoPart, rSlL, cxOf_K, wipe, ex_ty2, kit_LTl, kit_LTt, kit_LTd, kit_LTs, kit_LTn, kit_LTb, kit_LTi, tM1, rIxS, exists_eq', lt1p, tDNewK, rSlS, rEqNil, nox_K]
      refine ⟨x, lo, n, rfl, hx, by omega, fun H1 v1 s1 hv1 => ?_⟩
      try simp only [tSeq, tNext, tRet, tRetN, tAsg, gName, gSub, tDrop, tIfS, tOp, tUn, tCB, tCons, tNil, tC, tVar, rI, rI0, rU, tAnd, tOr, tNot, tAndV, tOrV, tNotV, tIf, tTest, tB, tCall, tChain, tLst, tTup, tYes, rIxH, rIsB, rIsBT, rMulS, kd_non, kd_bl, kd_int, kd_str, kd_ref, kdO_lst, kdO_tup, kdO_dK, nq_n, nq_b, nq_i, nq_s, nq_l, nq_t, nq_d, ne_eq, not_false_eq_true, kit_ss, kit_ns, kit_bs, kit_is, kit_ls, kit_ts, kit_ds, kit_bb, V.ty.injEq, and_assoc, rIxU, rLenH, rLenU, rLenS, rInt1, rSetL, rEq, rNe, rCat, L2.start, List.map, List.length, List.length_cons, List.length_nil, List.replicate, List.getElem?_cons_zero, List.getElem?_cons_succ, List.set_cons_zero, List.set_cons_succ, List.set_nil, List.cons_append, List.nil_append, List.append_nil, Option.some.injEq, V.int.injEq, V.ref.injEq, V.str.injEq, V.bl.injEq, HO.lst.injEq, HO.tup.injEq, exists_eq_left', exists_and_left, exists_eq_left, List.cons.injEq, and_true, true_and, and_false, false_and, and_self, reduceCtorEq, exists_false, or_false, false_or, exists_const, at0, at1, at2, at3, at4, at5, ix51, ix52, ix54, upd_same, Nat.reduceAdd, Nat.reduceSub, Nat.zero_add, Int.reduceToNat, Int.reduceLE, Int.reduceLT, decide_eq_true_eq, Bool.not_eq_true, if_true, if_false, Bool.false_eq_true, ite_true, ite_false, Bool.not_true, Bool.not_false, decide_true, decide_false, tFor_eq, tLc_eq, iList, iTup, iRng1, iRng2, iStr, tSl, tPart, tNoPart, rSlL, cxOf_K, wipe, ex_ty2, kit_LTl, kit_LTt, kit_LTd, kit_LTs, kit_LTn, kit_LTb, kit_LTi, tM1, rIxS, exists_eq', lt1p, tDNewK, rSlS, rEqNil, nox_K]
      refine ⟨by decide, ?_⟩
      intro q n_q; generalize g_H2 : upd H1 q _ = H2; obtain ⟨s_H2, h_q⟩ := new_facts n_q g_H2; clear g_H2
      exact k H2 _ (s1.trans s_H2) ⟨q, _, _, rfl, h_q, hv1.same s_H2, rfl⟩
    | some h =>
      have hy1 : NumAt A.k_Ratio H y h n := hy
      rw [if_neg hy1.nn]
      rw [eN]
      clear eN N
      try simp only [tSeq, tNext, tRet, tRetN, tAsg, gName, gSub, tDrop, tIfS, tOp, tUn, tCB, tCons, tNil, tC, tVar, rI, rI0, rU, tAnd, tOr, tNot, tAndV, tOrV, tNotV, tIf, tTest, tB, tCall, tChain, tLst, tTup, tYes, rIxH, rIsB, rIsBT, rMulS, kd_non, kd_bl, kd_int, kd_str, kd_ref, kdO_lst, kdO_tup, kdO_dK, nq_n, nq_b, nq_i, nq_s, nq_l, nq_t, nq_d, ne_eq, not_false_eq_true, kit_ss, kit_ns, kit_bs, kit_is, kit_ls, kit_ts, kit_ds, kit_bb, V.ty.injEq, and_assoc, rIxU, rLenH, rLenU, rLenS, rInt1, rSetL, rEq, rNe, rCat, L2.start, List.map, List.length, List.length_cons, List.length_nil, List.replicate, List.getElem?_cons_zero, List.getElem?_cons_succ, List.set_cons_zero, List.set_cons_succ, List.set_nil, List.cons_append, List.nil_append, List.append_nil, Option.some.injEq, V.int.injEq, V.ref.injEq, V.str.injEq, V.bl.injEq, HO.lst.injEq, HO.tup.injEq, exists_eq_left', exists_and_left, exists_eq_left, List.cons.injEq, and_true, true_and, and_false, false_and, and_self, reduceCtorEq, exists_false, or_false, false_or, exists_const, at0, at1, at2, at3, at4, at5, ix51, ix52, ix54, upd_same, Nat.reduceAdd, Nat.reduceSub, Nat.zero_add, Int.reduceToNat, Int.reduceLE, Int.reduceLT, decide_eq_true_eq, Bool.not_eq_true, if_true, if_false, Bool.false_eq_true, ite_true, ite_false, Bool.not_true, Bool.not_false, decide_true, decide_false, tFor_eq, tLc_eq, iList, iTup, iRng1, iRng2, iStr, tSl, tPart, tNoPart, rSlL, cxOf_K, wipe, ex_ty2, kit_LTl, kit_LTt, kit_LTd, kit_LTs, kit_LTn, kit_LTb, kit_LTi, tM1, rIxS, exists_eq', lt1p, tDNewK, rSlS, rEqNil, nox_K, ht]
      refine ⟨x, lo, n, rfl, hx, by omega, fun H1 v1 s1 hv1 => ?_⟩
      have ht1 := s1 _ _ ht
      try simp only [tSeq, tNext, tRet, tRetN, tAsg, gName, gSub, tDrop, tIfS, tOp, tUn, tCB, tCons, tNil, tC, tVar, rI, rI0, rU, tAnd, tOr, tNot, tAndV, tOrV, tNotV, tIf, tTest, tB, tCall, tChain, tLst, tTup, tYes, rIxH, rIsB, rIsBT, rMulS, kd_non, kd_bl, kd_int, kd_str, kd_ref, kdO_lst, kdO_tup, kdO_dK, nq_n, nq_b, nq_i, nq_s, nq_l, nq_t, nq_d, ne_eq, not_false_eq_true, kit_ss, kit_ns, kit_bs, kit_is, kit_ls, kit_ts, kit_ds, kit_bb, V.ty.injEq, and_assoc, rIxU, rLenH, rLenU, rLenS, rInt1, rSetL, rEq, rNe, rCat, L2.start, List.map, List.length, List.length_cons, List.length_nil, List.replicate, List.getElem?_cons_zero, List.getElem?_cons_succ, List.set_cons_zero, List.set_cons_succ, List.set_nil, List.cons_append, List.nil_append, List.append_nil, Option.some.injEq, V.int.injEq, V.ref.injEq, V.str.injEq, V.bl.injEq, HO.lst.injEq, HO.tup.injEq, exists_eq_left', exists_and_left, exists_eq_left, List.cons.injEq, and_true, true_and, and_false, false_and, and_self, reduceCtorEq, exists_false, or_false, false_or, exists_const, at0, at1, at2, at3, at4, at5, ix51, ix52, ix54, upd_same, Nat.reduceAdd, Nat.reduceSub, Nat.zero_add, Int.reduceToNat, Int.reduceLE, Int.reduceLT, decide_eq_true_eq, Bool.not_eq_true, if_true, if_false, Bool.false_eq_true, ite_true, ite_false, Bool.not_true, Bool.not_false, decide_true, decide_false, tFor_eq, tLc_eq, iList, iTup, iRng1, iRng2, iStr, tSl, tPart, tNoPart, rSlL, cxOf_K, wipe, ex_ty2, kit_LTl, kit_LTt, kit_LTd, kit_LTs, kit_LTn, kit_LTb, kit_LTi, tM1, rIxS, exists_eq', lt1p, tDNewK, rSlS, rEqNil, nox_K, ht1]
      refine ⟨y, h, n, rfl, hy1.same s1, by omega, fun H2 v2 s2 hv2 => ?_⟩
      try simp only [tSeq, tNext, tRet, tRetN, tAsg, gName, gSub, tDrop, tIfS, tOp, tUn, tCB, tCons, tNil, tC, tVar, rI, rI0, rU, tAnd, tOr, tNot, tAndV, tOrV, tNotV, tIf, tTest, tB, tCall, tChain, tLst, tTup, tYes, rIxH, rIsB, rIsBT, rMulS, kd_non, kd_bl, kd_int, kd_str, kd_ref, kdO_lst, kdO_tup, kdO_dK, nq_n, nq_b, nq_i, nq_s, nq_l, nq_t, nq_d, ne_eq, not_false_eq_true, kit_ss, kit_ns, kit_bs, kit_is, kit_ls, kit_ts, kit_ds, kit_bb, V.ty.injEq, and_assoc, rIxU, rLenH, rLenU, rLenS, rInt1, rSetL, rEq, rNe, rCat, L2.start, List.map, List.length, List.length_cons, List.length_nil, List.replicate, List.getElem?_cons_zero, List.getElem?_cons_succ, List.set_cons_zero, List.set_cons_succ, List.set_nil, List.cons_append, List.nil_append, List.append_nil, Option.some.injEq, V.int.injEq, V.ref.injEq, V.str.injEq, V.bl.injEq, HO.lst.injEq, HO.tup.injEq, exists_eq_left', exists_and_left, exists_eq_left, List.cons.injEq, and_true, true_and, and_false, false_and, and_self, reduceCtorEq, exists_false, or_false, false_or, exists_const, at0, at1, at2, at3, at4, at5, ix51, ix52, ix54, upd_same, Nat.reduceAdd, Nat.reduceSub, Nat.zero_add, Int.reduceToNat, Int.reduceLE, Int.reduceLT, decide_eq_true_eq, Bool.not_eq_true, if_true, if_false, Bool.false_eq_true, ite_true, ite_false, Bool.not_true, Bool.not_false, decide_true, decide_false, tFor_eq, tLc_eq, iList, iTup, iRng1, iRng2, iStr, tSl, tPart, tNoPart, rSlL, cxOf_K, wipe, ex_ty2, kit_LTl, kit_LTt, kit_LTd, kit_LTs, kit_LTn, kit_LTb, kit_LTi, tM1, rIxS, exists_eq', lt1p, tDNewK, rSlS, rEqNil, nox_K]
      refine ⟨by decide, ?_⟩
      intro q n_q; generalize g_H3 : upd H2 q _ = H3; obtain ⟨s_H3, h_q⟩ := new_facts n_q g_H3; clear g_H3
      exact k H3 _ ((s1.trans s2).trans s_H3) ⟨q, _, _, rfl, h_q, (hv1.same s2).same s_H3, hv2.same s_H3⟩
end

/-! ### ascend, Ranges -/
theorem walk_zipT {K : PySem.W.Frag} {a b : Addr} {xs ys : List V} {n : Nat} (hn : n = min xs.length ys.length) : Walk (RZ.ItzT K a b) n (fun H => SqT K H a xs ∧ SqT K H b ys) (YPair (fun i => xs[i]?) (fun i => ys[i]?)) := by
  subst hn
  refine ⟨fun i _ hi q => ?_, fun _ q => ⟨xs, ys, q.1, q.2, by omega⟩, fun i H v H' _ q y => ?_⟩
  · have h1 : i < xs.length := by omega
    have h2 : i < ys.length := by omega
    exact ⟨xs, ys, xs[i], ys[i], q.1, q.2, by simp [h1], by simp [h2]⟩
  · obtain ⟨T, x, z, h1, h2, h3, h4, h5⟩ := y
    exact ⟨T, x, z, h1, h2, h3, h4 xs q.1, h5 ys q.2⟩
def spAsc (K : PySem.W.Frag) (C : Addr) : Sp := fun vs H Q _ => ∃ a xs n ps, vs = [.ref a] ∧ (H a = some (.lst xs) ∨ SqT K H a xs) ∧ NPs C H xs n ps ∧ AscP ps ∧ n ≤ 4000 ∧ xs.length ≤ 1000 ∧ ∀ H', Same H H' → Q (.bl true) H'
def LAsc (a : Addr) (H0 : Hp) (i : Nat) (σ : St) (H : Hp) : Prop := ∃ v1 v2 : Option V, σ = [some (.ref a), v1, v2] ∧ Same H0 H
section
variable {P : Program} {w : World} {K : PySem.W.Frag} {mg : Str → Option Value} {base : Heap} {A : Adr}
theorem asc_turn {C : Addr} {xs : List V} {n : Nat} {ps : List Pt} {H : Hp} {i : Nat} {x1 y1 : V} (np : NPs C H xs n ps) (as : AscP ps) (e1 : xs[i]? = some x1) (e2 : (xs.drop 1)[i]? = some y1) : ∃ t1 u1 w1 t2 u2 w2 lo h lo2, x1 = .ref t1 ∧ y1 = .ref t2 ∧ H t1 = some (.tup [u1, w1]) ∧ H t2 = some (.tup [u2, w2]) ∧ NumAt C H u1 lo n ∧ NumAt C H w1 h n ∧ NumAt C H u2 lo2 n ∧ h < lo2 := by
  rw [List.getElem?_drop, Nat.add_comm] at e2
  have l1 := (List.getElem?_eq_some_iff.mp e1).1
  have l2 := (List.getElem?_eq_some_iff.mp e2).1
  have ll := np.len
  have p1 : ps[i]? = some ps[i] := List.getElem?_eq_getElem (by omega)
  have p2 : ps[i + 1]? = some ps[i + 1] := List.getElem?_eq_getElem (by omega)
  obtain ⟨t1, u1, w1, rfl, h1, h2, h3⟩ := np.ea i x1 _ e1 p1
  obtain ⟨t2, u2, w2, rfl, h4, h5, h6⟩ := np.ea (i + 1) y1 _ e2 p2
  obtain ⟨h, eh, lt⟩ := as i _ _ p1 p2
  rw [eh] at h3
  exact ⟨t1, u1, w1, t2, u2, w2, _, h, _, rfl, rfl, h1, h4, h2, h3, h5, lt⟩
theorem ok_ascend (T : Txt K mg A)
    (gRatioLt : FnOk P w K mg base CX0 5 A.a_RatioLt A.d_RatioLt ["self", "other"] (spCmp A.k_Ratio (fun p q => decide (p < q)))) (gRatioGt : FnOk P w K mg base CX0 5 A.a_RatioGt A.d_RatioGt ["self", "other"] (spCmp A.k_Ratio (fun p q => decide (q < p)))) :
    FnOk P w K mg base CX0 6 A.a_Ascend A.d_Ascend ["parts"] (spAsc K A.k_Ratio) := by
  refine T.f_Ascend.ok scAscend (fun vs H Q E h => ?_) (fun cdv A' outer s H vs Q E hr h => ?_)
  · obtain ⟨a, xs, n, ps, rfl, _⟩ := h
    rfl
  · obtain ⟨a, xs, n, ps, rfl, hb, np, as, hn, hl, k⟩ := h
    have fin : ∀ {t1 t2 : Addr} {u1 w1 u2 w2 : V} {lo h lo2 : Rat} {H2 : Hp} {Q2 : VK}, NumAt A.k_Ratio H2 w1 h n → NumAt A.k_Ratio H2 u2 lo2 n → h < lo2 → (∀ H3, Same H2 H3 → Q2 (.bl true) H3) → rOr (rOwn A.k_Ratio (spCmp A.k_Ratio fun p q => decide (q < p)) E0) (rOr (rOwnI A.k_Ratio (spCmp A.k_Ratio fun p q => decide (p < q)) E0) (rI0 fun i j => V.bl (decide (j < i)))) u2 w1 H2 Q2 := by
      intro t1 t2 u1 w1 u2 w2 lo h lo2 H2 Q2 h1 h2 lt kk
      refine num_cmp h2 h1 (by omega) rfl (fun i j ei ej ep eq kk => ?_) (fun H3 s3 => ?_)
      · subst ei ej
        refine ⟨i, j, rfl, rfl, ?_⟩
        have e := kk H2 (Same.refl _)
        rw [ep, eq] at e
        have e2 : decide ((j : Rat) < (i : Rat)) = decide (j < i) := decide_eq_decide.mpr Rat.intCast_lt_intCast
        rw [e2] at e
        exact e
      · rw [decide_eq_true (by exact lt)]
        exact kk H3 s3
    rcases hb with hb | hb
    · refine ⟨_, (pss_cons (ps_for PassesOwn.never rfl (RZ.pi_zipA (by rfl) T.z_zip (pa_cons (pv 0) (pa_cons (pe_slice sl_list (pv 0) (po_some pe_int) po_none) pa_nil))) (pg_tup rfl (pgs_cons (pg_name (i := 1) scAscend.nd rfl (Or.inl rfl)) (pgs_cons (pg_name (i := 2) scAscend.nd rfl (Or.inl rfl)) pgs_nil))) (pss_one (ps_if (PW.pt (pw_or (pt_cmpR (op_isN) (pe_ix ix_tupH (pv 1) pe_int (fun _ _ => rfl)) pe_non (nomark _)) (pw_or1 (pt_not (pt_cmpR (opOr (op_ownC (fun _ _ => rfl) T.o_RatioGt gRatioGt (hr.mono (by decide)) T.b_RatioGt pass0) (opOr (op_ownCI int_gt T.r_RatioLt gRatioLt (hr.mono (by decide)) T.b_RatioLt pass0) op_gt)) (pe_ix ix_tupH (pv 2) pe_int (fun _ _ => rfl)) (pe_ix ix_tupH (pv 1) pe_int (fun _ _ => rfl)) (nomark _)))))) (pss_one (ps_ret pe_bl)) pss_nil)))
      (pss_one (ps_ret pe_bl))), ?_⟩
      refine seq_gen fun N eN => ?_
      try simp only [tSeq, tNext, tRet, tRetN, tAsg, gName, gSub, tDrop, tIfS, tOp, tUn, tCB, tCons, tNil, tC, tVar, rI, rI0, rU, tAnd, tOr, tNot, tAndV, tOrV, tNotV, tIf, tTest, tB, tCall, tChain, tLst, tTup, tYes, rIxH, rIsB, rIsBT, rMulS, kd_non, kd_bl, kd_int, kd_str, kd_ref, kdO_lst, kdO_tup, kdO_dK, nq_n, nq_b, nq_i, nq_s, nq_l, nq_t, nq_d, ne_eq, not_false_eq_true, kit_ss, kit_ns, kit_bs, kit_is, kit_ls, kit_ts, kit_ds, kit_bb, V.ty.injEq, and_assoc, rIxU, rLenH, rLenU, rLenS, rInt1, rSetL, rEq, rNe, rCat, L2.start, List.map, List.length, List.length_cons, List.length_nil, List.replicate, List.getElem?_cons_zero, List.getElem?_cons_succ, List.set_cons_zero, List.set_cons_succ, List.set_nil, List.cons_append, List.nil_append, List.append_nil, Option.some.injEq, V.int.injEq, V.ref.injEq, V.str.injEq, V.bl.injEq, HO.lst.injEq, HO.tup.injEq, exists_eq_left', exists_and_left, exists_eq_left, List.cons.injEq, and_true, true_and, and_false, false_and, and_self, reduceCtorEq, exists_false, or_false, false_or, exists_const, at0, at1, at2, at3, at4, at5, ix51, ix52, ix54, upd_same, Nat.reduceAdd, Nat.reduceSub, Nat.zero_add, Int.reduceToNat, Int.reduceLE, Int.reduceLT, decide_eq_true_eq, Bool.not_eq_true, if_true, if_false, Bool.false_eq_true, ite_true, ite_false, Bool.not_true, Bool.not_false, decide_true, decide_false, tFor_eq, tLc_eq, iList, iTup, iRng1, iRng2, iStr, tSl, tPart, tNoPart, rSlL, cxOf_K, wipe, ex_ty2, kit_LTl, kit_LTt, kit_LTd, kit_LTs, kit_LTn, kit_LTb, kit_LTi, tM1, rIxS, exists_eq', lt1p, tDNewK, rSlS, rEqNil, nox_K, hb, RZ.iZipA]
      refine ⟨xs, SqL.of hb, fun p np1 => ?_⟩
      generalize g_H1 : upd H p _ = H1
      obtain ⟨s_H1, h_p⟩ := new_facts np1 g_H1
      clear g_H1
      rw [show cutV xs (some 1) none = xs.drop 1 from cut_from (n := 1)] at h_p
      have hb1 := s_H1 _ _ hb
      refine ⟨xs, xs.drop 1, .inl ⟨SqL.of hb1, SqL.of h_p, for_it (walk_zip (K := K) (a := a) (b := p) (xs := xs) (ys := xs.drop 1) rfl) (LAsc a H1) ⟨_, _, rfl, Same.refl _⟩ (fun i σ H2 _ q => ?_) (fun i v σ H2 H3 hi q y => ?_) (fun σ H2 q => ?_)⟩⟩
      · obtain ⟨_, _, _, s2⟩ := q
        exact ⟨SqL.of (s2 _ _ hb1), SqL.of (s2 _ _ h_p)⟩
      · obtain ⟨v1, v2, rfl, s2⟩ := q
        obtain ⟨t, x1, y1, rfl, nt, rfl, e1, e2⟩ := y
        obtain ⟨t1, u1, w1, t2, u2, w2, lo, h, lo2, rfl, rfl, h1, h4, h2, h3, h5, lt⟩ := asc_turn ((np.same s_H1).same s2) as e1 e2
        have s3 := same_new (o := HO.tup [V.ref t1, V.ref t2]) nt
        refine ⟨t, _, rfl, SqT.of upd_same, rfl, _, _, rfl, _, _, rfl, rfl, ?_⟩
        have g1 := s3 _ _ h1
        have g4 := s3 _ _ h4
        try simp only [tSeq, tNext, tRet, tRetN, tAsg, gName, gSub, tDrop, tIfS, tOp, tUn, tCB, tCons, tNil, tC, tVar, rI, rI0, rU, tAnd, tOr, tNot, tAndV, tOrV, tNotV, tIf, tTest, tB, tCall, tChain, tLst, tTup, tYes, rIxH, rIsB, rIsBT, rMulS, kd_non, kd_bl, kd_int, kd_str, kd_ref, kdO_lst, kdO_tup, kdO_dK, nq_n, nq_b, nq_i, nq_s, nq_l, nq_t, nq_d, ne_eq, not_false_eq_true, kit_ss, kit_ns, kit_bs, kit_is, kit_ls, kit_ts, kit_ds, kit_bb, V.ty.injEq, and_assoc, rIxU, rLenH, rLenU, rLenS, rInt1, rSetL, rEq, rNe, rCat, L2.start, List.map, List.length, List.length_cons, List.length_nil, List.replicate, List.getElem?_cons_zero, List.getElem?_cons_succ, List.set_cons_zero, List.set_cons_succ, List.set_nil, List.cons_append, List.nil_append, List.append_nil, Option.some.injEq, V.int.injEq, V.ref.injEq, V.str.injEq, V.bl.injEq, HO.lst.injEq, HO.tup.injEq, exists_eq_left', exists_and_left, exists_eq_left, List.cons.injEq, and_true, true_and, and_false, false_and, and_self, reduceCtorEq, exists_false, or_false, false_or, exists_const, at0, at1, at2, at3, at4, at5, ix51, ix52, ix54, upd_same, Nat.reduceAdd, Nat.reduceSub, Nat.zero_add, Int.reduceToNat, Int.reduceLE, Int.reduceLT, decide_eq_true_eq, Bool.not_eq_true, if_true, if_false, Bool.false_eq_true, ite_true, ite_false, Bool.not_true, Bool.not_false, decide_true, decide_false, tFor_eq, tLc_eq, iList, iTup, iRng1, iRng2, iStr, tSl, tPart, tNoPart, rSlL, cxOf_K, wipe, ex_ty2, kit_LTl, kit_LTt, kit_LTd, kit_LTs, kit_LTn, kit_LTb, kit_LTi, tM1, rIxS, exists_eq', lt1p, tDNewK, rSlS, rEqNil, nox_K, g1, g4]
        rw [if_neg h3.nn]
        refine fin (t1 := t1) (t2 := t2) (u1 := u1) (w2 := w2) (lo := lo) (h3.same s3) (h5.same s3) lt fun H4 s4 => ?_
        try simp only [tSeq, tNext, tRet, tRetN, tAsg, gName, gSub, tDrop, tIfS, tOp, tUn, tCB, tCons, tNil, tC, tVar, rI, rI0, rU, tAnd, tOr, tNot, tAndV, tOrV, tNotV, tIf, tTest, tB, tCall, tChain, tLst, tTup, tYes, rIxH, rIsB, rIsBT, rMulS, kd_non, kd_bl, kd_int, kd_str, kd_ref, kdO_lst, kdO_tup, kdO_dK, nq_n, nq_b, nq_i, nq_s, nq_l, nq_t, nq_d, ne_eq, not_false_eq_true, kit_ss, kit_ns, kit_bs, kit_is, kit_ls, kit_ts, kit_ds, kit_bb, V.ty.injEq, and_assoc, rIxU, rLenH, rLenU, rLenS, rInt1, rSetL, rEq, rNe, rCat, L2.start, List.map, List.length, List.length_cons, List.length_nil, List.replicate, List.getElem?_cons_zero, List.getElem?_cons_succ, List.set_cons_zero, List.set_cons_succ, List.set_nil, List.cons_append, List.nil_append, List.append_nil, Option.some.injEq, V.int.injEq, V.ref.injEq, V.str.injEq, V.bl.injEq, HO.lst.injEq, HO.tup.injEq, exists_eq_left', exists_and_left, exists_eq_left, List.cons.injEq, and_true, true_and, and_false, false_and, and_self, reduceCtorEq, exists_false, or_false, false_or, exists_const, at0, at1, at2, at3, at4, at5, ix51, ix52, ix54, upd_same, Nat.reduceAdd, Nat.reduceSub, Nat.zero_add, Int.reduceToNat, Int.reduceLE, Int.reduceLT, decide_eq_true_eq, Bool.not_eq_true, if_true, if_false, Bool.false_eq_true, ite_true, ite_false, Bool.not_true, Bool.not_false, decide_true, decide_false, tFor_eq, tLc_eq, iList, iTup, iRng1, iRng2, iStr, tSl, tPart, tNoPart, rSlL, cxOf_K, wipe, ex_ty2, kit_LTl, kit_LTt, kit_LTd, kit_LTs, kit_LTn, kit_LTb, kit_LTi, tM1, rIxS, exists_eq', lt1p, tDNewK, rSlS, rEqNil, nox_K]
        exact ⟨_, _, rfl, (s2.trans s3).trans s4⟩
      · obtain ⟨v1, v2, rfl, s2⟩ := q
        dsimp only
        rw [eN]
        clear eN N
        try simp only [tSeq, tNext, tRet, tRetN, tAsg, gName, gSub, tDrop, tIfS, tOp, tUn, tCB, tCons, tNil, tC, tVar, rI, rI0, rU, tAnd, tOr, tNot, tAndV, tOrV, tNotV, tIf, tTest, tB, tCall, tChain, tLst, tTup, tYes, rIxH, rIsB, rIsBT, rMulS, kd_non, kd_bl, kd_int, kd_str, kd_ref, kdO_lst, kdO_tup, kdO_dK, nq_n, nq_b, nq_i, nq_s, nq_l, nq_t, nq_d, ne_eq, not_false_eq_true, kit_ss, kit_ns, kit_bs, kit_is, kit_ls, kit_ts, kit_ds, kit_bb, V.ty.injEq, and_assoc, rIxU, rLenH, rLenU, rLenS, rInt1, rSetL, rEq, rNe, rCat, L2.start, List.map, List.length, List.length_cons, List.length_nil, List.replicate, List.getElem?_cons_zero, List.getElem?_cons_succ, List.set_cons_zero, List.set_cons_succ, List.set_nil, List.cons_append, List.nil_append, List.append_nil, Option.some.injEq, V.int.injEq, V.ref.injEq, V.str.injEq, V.bl.injEq, HO.lst.injEq, HO.tup.injEq, exists_eq_left', exists_and_left, exists_eq_left, List.cons.injEq, and_true, true_and, and_false, false_and, and_self, reduceCtorEq, exists_false, or_false, false_or, exists_const, at0, at1, at2, at3, at4, at5, ix51, ix52, ix54, upd_same, Nat.reduceAdd, Nat.reduceSub, Nat.zero_add, Int.reduceToNat, Int.reduceLE, Int.reduceLT, decide_eq_true_eq, Bool.not_eq_true, if_true, if_false, Bool.false_eq_true, ite_true, ite_false, Bool.not_true, Bool.not_false, decide_true, decide_false, tFor_eq, tLc_eq, iList, iTup, iRng1, iRng2, iStr, tSl, tPart, tNoPart, rSlL, cxOf_K, wipe, ex_ty2, kit_LTl, kit_LTt, kit_LTd, kit_LTs, kit_LTn, kit_LTb, kit_LTi, tM1, rIxS, exists_eq', lt1p, tDNewK, rSlS, rEqNil, nox_K]
        exact k H2 (s_H1.trans s2)
    · refine ⟨_, (pss_cons (ps_for PassesOwn.never rfl (RZ.pi_zipA (by rfl) T.z_zip (pa_cons (pv 0) (pa_cons (pe_slice sl_tupA (pv 0) (po_some pe_int) po_none) pa_nil))) (pg_tup rfl (pgs_cons (pg_name (i := 1) scAscend.nd rfl (Or.inl rfl)) (pgs_cons (pg_name (i := 2) scAscend.nd rfl (Or.inl rfl)) pgs_nil))) (pss_one (ps_if (PW.pt (pw_or (pt_cmpR (op_isN) (pe_ix ix_tupH (pv 1) pe_int (fun _ _ => rfl)) pe_non (nomark _)) (pw_or1 (pt_not (pt_cmpR (opOr (op_ownC (fun _ _ => rfl) T.o_RatioGt gRatioGt (hr.mono (by decide)) T.b_RatioGt pass0) (opOr (op_ownCI int_gt T.r_RatioLt gRatioLt (hr.mono (by decide)) T.b_RatioLt pass0) op_gt)) (pe_ix ix_tupH (pv 2) pe_int (fun _ _ => rfl)) (pe_ix ix_tupH (pv 1) pe_int (fun _ _ => rfl)) (nomark _)))))) (pss_one (ps_ret pe_bl)) pss_nil)))
      (pss_one (ps_ret pe_bl))), ?_⟩
      refine seq_gen fun N eN => ?_
      try simp only [tSeq, tNext, tRet, tRetN, tAsg, gName, gSub, tDrop, tIfS, tOp, tUn, tCB, tCons, tNil, tC, tVar, rI, rI0, rU, tAnd, tOr, tNot, tAndV, tOrV, tNotV, tIf, tTest, tB, tCall, tChain, tLst, tTup, tYes, rIxH, rIsB, rIsBT, rMulS, kd_non, kd_bl, kd_int, kd_str, kd_ref, kdO_lst, kdO_tup, kdO_dK, nq_n, nq_b, nq_i, nq_s, nq_l, nq_t, nq_d, ne_eq, not_false_eq_true, kit_ss, kit_ns, kit_bs, kit_is, kit_ls, kit_ts, kit_ds, kit_bb, V.ty.injEq, and_assoc, rIxU, rLenH, rLenU, rLenS, rInt1, rSetL, rEq, rNe, rCat, L2.start, List.map, List.length, List.length_cons, List.length_nil, List.replicate, List.getElem?_cons_zero, List.getElem?_cons_succ, List.set_cons_zero, List.set_cons_succ, List.set_nil, List.cons_append, List.nil_append, List.append_nil, Option.some.injEq, V.int.injEq, V.ref.injEq, V.str.injEq, V.bl.injEq, HO.lst.injEq, HO.tup.injEq, exists_eq_left', exists_and_left, exists_eq_left, List.cons.injEq, and_true, true_and, and_false, false_and, and_self, reduceCtorEq, exists_false, or_false, false_or, exists_const, at0, at1, at2, at3, at4, at5, ix51, ix52, ix54, upd_same, Nat.reduceAdd, Nat.reduceSub, Nat.zero_add, Int.reduceToNat, Int.reduceLE, Int.reduceLT, decide_eq_true_eq, Bool.not_eq_true, if_true, if_false, Bool.false_eq_true, ite_true, ite_false, Bool.not_true, Bool.not_false, decide_true, decide_false, tFor_eq, tLc_eq, iList, iTup, iRng1, iRng2, iStr, tSl, tPart, tNoPart, rSlL, cxOf_K, wipe, ex_ty2, kit_LTl, kit_LTt, kit_LTd, kit_LTs, kit_LTn, kit_LTb, kit_LTi, tM1, rIxS, exists_eq', lt1p, tDNewK, rSlS, rEqNil, nox_K, RZ.iZipA, rSlA]
      refine ⟨xs, hb, fun hw => ?_, fun hw p np1 => ?_⟩
      · have e0 : xs = [] := by
          have h1 : min 1 xs.length = 0 := hw.1
          exact List.eq_nil_of_length_eq_zero (by omega)
        subst e0
        refine ⟨[], [], .inr ⟨hb, hb, for_it (walk_zipT (K := K) (a := a) (b := a) (xs := []) (ys := []) rfl) (LAsc a H) ⟨_, _, rfl, Same.refl _⟩ (fun i σ H2 _ q => ?_) (fun i v σ H2 H3 hi q y => ?_) (fun σ H2 q => ?_)⟩⟩
        · obtain ⟨_, _, _, s2⟩ := q
          exact ⟨Same.tup s2 hb, Same.tup s2 hb⟩
        · exact absurd hi (by simp)
        · obtain ⟨v1, v2, rfl, s2⟩ := q
          dsimp only
          rw [eN]
          clear eN N
          try simp only [tSeq, tNext, tRet, tRetN, tAsg, gName, gSub, tDrop, tIfS, tOp, tUn, tCB, tCons, tNil, tC, tVar, rI, rI0, rU, tAnd, tOr, tNot, tAndV, tOrV, tNotV, tIf, tTest, tB, tCall, tChain, tLst, tTup, tYes, rIxH, rIsB, rIsBT, rMulS, kd_non, kd_bl, kd_int, kd_str, kd_ref, kdO_lst, kdO_tup, kdO_dK, nq_n, nq_b, nq_i, nq_s, nq_l, nq_t, nq_d, ne_eq, not_false_eq_true, kit_ss, kit_ns, kit_bs, kit_is, kit_ls, kit_ts, kit_ds, kit_bb, V.ty.injEq, and_assoc, rIxU, rLenH, rLenU, rLenS, rInt1, rSetL, rEq, rNe, rCat, L2.start, List.map, List.length, List.length_cons, List.length_nil, List.replicate, List.getElem?_cons_zero, List.getElem?_cons_succ, List.set_cons_zero, List.set_cons_succ, List.set_nil, List.cons_append, List.nil_append, List.append_nil, Option.some.injEq, V.int.injEq, V.ref.injEq, V.str.injEq, V.bl.injEq, HO.lst.injEq, HO.tup.injEq, exists_eq_left', exists_and_left, exists_eq_left, List.cons.injEq, and_true, true_and, and_false, false_and, and_self, reduceCtorEq, exists_false, or_false, false_or, exists_const, at0, at1, at2, at3, at4, at5, ix51, ix52, ix54, upd_same, Nat.reduceAdd, Nat.reduceSub, Nat.zero_add, Int.reduceToNat, Int.reduceLE, Int.reduceLT, decide_eq_true_eq, Bool.not_eq_true, if_true, if_false, Bool.false_eq_true, ite_true, ite_false, Bool.not_true, Bool.not_false, decide_true, decide_false, tFor_eq, tLc_eq, iList, iTup, iRng1, iRng2, iStr, tSl, tPart, tNoPart, rSlL, cxOf_K, wipe, ex_ty2, kit_LTl, kit_LTt, kit_LTd, kit_LTs, kit_LTn, kit_LTb, kit_LTi, tM1, rIxS, exists_eq', lt1p, tDNewK, rSlS, rEqNil, nox_K]
          exact k H2 s2
      generalize g_H1 : upd H p _ = H1
      obtain ⟨s_H1, h_p⟩ := new_facts np1 g_H1
      clear g_H1
      rw [show cutV xs (some 1) none = xs.drop 1 from cut_from (n := 1)] at h_p
      have hb1 := Same.tup s_H1 hb
      refine ⟨xs, xs.drop 1, .inr ⟨hb1, SqT.of h_p, for_it (walk_zipT (K := K) (a := a) (b := p) (xs := xs) (ys := xs.drop 1) rfl) (LAsc a H1) ⟨_, _, rfl, Same.refl _⟩ (fun i σ H2 _ q => ?_) (fun i v σ H2 H3 hi q y => ?_) (fun σ H2 q => ?_)⟩⟩
      · obtain ⟨_, _, _, s2⟩ := q
        exact ⟨Same.tup s2 hb1, SqT.of (s2 _ _ h_p)⟩
      · obtain ⟨v1, v2, rfl, s2⟩ := q
        obtain ⟨t, x1, y1, rfl, nt, rfl, e1, e2⟩ := y
        obtain ⟨t1, u1, w1, t2, u2, w2, lo, h, lo2, rfl, rfl, h1, h4, h2, h3, h5, lt⟩ := asc_turn ((np.same s_H1).same s2) as e1 e2
        have s3 := same_new (o := HO.tup [V.ref t1, V.ref t2]) nt
        refine ⟨t, _, rfl, SqT.of upd_same, rfl, _, _, rfl, _, _, rfl, rfl, ?_⟩
        have g1 := s3 _ _ h1
        have g4 := s3 _ _ h4
        try simp only [tSeq, tNext, tRet, tRetN, tAsg, gName, gSub, tDrop, tIfS, tOp, tUn, tCB, tCons, tNil, tC, tVar, rI, rI0, rU, tAnd, tOr, tNot, tAndV, tOrV, tNotV, tIf, tTest, tB, tCall, tChain, tLst, tTup, tYes, rIxH, rIsB, rIsBT, rMulS, kd_non, kd_bl, kd_int, kd_str, kd_ref, kdO_lst, kdO_tup, kdO_dK, nq_n, nq_b, nq_i, nq_s, nq_l, nq_t, nq_d, ne_eq, not_false_eq_true, kit_ss, kit_ns, kit_bs, kit_is, kit_ls, kit_ts, kit_ds, kit_bb, V.ty.injEq, and_assoc, rIxU, rLenH, rLenU, rLenS, rInt1, rSetL, rEq, rNe, rCat, L2.start, List.map, List.length, List.length_cons, List.length_nil, List.replicate, List.getElem?_cons_zero, List.getElem?_cons_succ, List.set_cons_zero, List.set_cons_succ, List.set_nil, List.cons_append, List.nil_append, List.append_nil, Option.some.injEq, V.int.injEq, V.ref.injEq, V.str.injEq, V.bl.injEq, HO.lst.injEq, HO.tup.injEq, exists_eq_left', exists_and_left, exists_eq_left, List.cons.injEq, and_true, true_and, and_false, false_and, and_self, reduceCtorEq, exists_false, or_false, false_or, exists_const, at0, at1, at2, at3, at4, at5, ix51, ix52, ix54, upd_same, Nat.reduceAdd, Nat.reduceSub, Nat.zero_add, Int.reduceToNat, Int.reduceLE, Int.reduceLT, decide_eq_true_eq, Bool.not_eq_true, if_true, if_false, Bool.false_eq_true, ite_true, ite_false, Bool.not_true, Bool.not_false, decide_true, decide_false, tFor_eq, tLc_eq, iList, iTup, iRng1, iRng2, iStr, tSl, tPart, tNoPart, rSlL, cxOf_K, wipe, ex_ty2, kit_LTl, kit_LTt, kit_LTd, kit_LTs, kit_LTn, kit_LTb, kit_LTi, tM1, rIxS, exists_eq', lt1p, tDNewK, rSlS, rEqNil, nox_K, g1, g4]
        rw [if_neg h3.nn]
        refine fin (t1 := t1) (t2 := t2) (u1 := u1) (w2 := w2) (lo := lo) (h3.same s3) (h5.same s3) lt fun H4 s4 => ?_
        try simp only [tSeq, tNext, tRet, tRetN, tAsg, gName, gSub, tDrop, tIfS, tOp, tUn, tCB, tCons, tNil, tC, tVar, rI, rI0, rU, tAnd, tOr, tNot, tAndV, tOrV, tNotV, tIf, tTest, tB, tCall, tChain, tLst, tTup, tYes, rIxH, rIsB, rIsBT, rMulS, kd_non, kd_bl, kd_int, kd_str, kd_ref, kdO_lst, kdO_tup, kdO_dK, nq_n, nq_b, nq_i, nq_s, nq_l, nq_t, nq_d, ne_eq, not_false_eq_true, kit_ss, kit_ns, kit_bs, kit_is, kit_ls, kit_ts, kit_ds, kit_bb, V.ty.injEq, and_assoc, rIxU, rLenH, rLenU, rLenS, rInt1, rSetL, rEq, rNe, rCat, L2.start, List.map, List.length, List.length_cons, List.length_nil, List.replicate, List.getElem?_cons_zero, List.getElem?_cons_succ, List.set_cons_zero, List.set_cons_succ, List.set_nil, List.cons_append, List.nil_append, List.append_nil, Option.some.injEq, V.int.injEq, V.ref.injEq, V.str.injEq, V.bl.injEq, HO.lst.injEq, HO.tup.injEq, exists_eq_left', exists_and_left, exists_eq_left, List.cons.injEq, and_true, true_and, and_false, false_and, and_self, reduceCtorEq, exists_false, or_false, false_or, exists_const, at0, at1, at2, at3, at4, at5, ix51, ix52, ix54, upd_same, Nat.reduceAdd, Nat.reduceSub, Nat.zero_add, Int.reduceToNat, Int.reduceLE, Int.reduceLT, decide_eq_true_eq, Bool.not_eq_true, if_true, if_false, Bool.false_eq_true, ite_true, ite_false, Bool.not_true, Bool.not_false, decide_true, decide_false, tFor_eq, tLc_eq, iList, iTup, iRng1, iRng2, iStr, tSl, tPart, tNoPart, rSlL, cxOf_K, wipe, ex_ty2, kit_LTl, kit_LTt, kit_LTd, kit_LTs, kit_LTn, kit_LTb, kit_LTi, tM1, rIxS, exists_eq', lt1p, tDNewK, rSlS, rEqNil, nox_K]
        exact ⟨_, _, rfl, (s2.trans s3).trans s4⟩
      · obtain ⟨v1, v2, rfl, s2⟩ := q
        dsimp only
        rw [eN]
        clear eN N
        try simp only [tSeq, tNext, tRet, tRetN, tAsg, gName, gSub, tDrop, tIfS, tOp, tUn, tCB, tCons, tNil, tC, tVar, rI, rI0, rU, tAnd, tOr, tNot, tAndV, tOrV, tNotV, tIf, tTest, tB, tCall, tChain, tLst, tTup, tYes, rIxH, rIsB, rIsBT, rMulS, kd_non, kd_bl, kd_int, kd_str, kd_ref, kdO_lst, kdO_tup, kdO_dK, nq_n, nq_b, nq_i, nq_s, nq_l, nq_t, nq_d, ne_eq, not_false_eq_true, kit_ss, kit_ns, kit_bs, kit_is, kit_ls, kit_ts, kit_ds, kit_bb, V.ty.injEq, and_assoc, rIxU, rLenH, rLenU, rLenS, rInt1, rSetL, rEq, rNe, rCat, L2.start, List.map, List.length, List.length_cons, List.length_nil, List.replicate, List.getElem?_cons_zero, List.getElem?_cons_succ, List.set_cons_zero, List.set_cons_succ, List.set_nil, List.cons_append, List.nil_append, List.append_nil, Option.some.injEq, V.int.injEq, V.ref.injEq, V.str.injEq, V.bl.injEq, HO.lst.injEq, HO.tup.injEq, exists_eq_left', exists_and_left, exists_eq_left, List.cons.injEq, and_true, true_and, and_false, false_and, and_self, reduceCtorEq, exists_false, or_false, false_or, exists_const, at0, at1, at2, at3, at4, at5, ix51, ix52, ix54, upd_same, Nat.reduceAdd, Nat.reduceSub, Nat.zero_add, Int.reduceToNat, Int.reduceLE, Int.reduceLT, decide_eq_true_eq, Bool.not_eq_true, if_true, if_false, Bool.false_eq_true, ite_true, ite_false, Bool.not_true, Bool.not_false, decide_true, decide_false, tFor_eq, tLc_eq, iList, iTup, iRng1, iRng2, iStr, tSl, tPart, tNoPart, rSlL, cxOf_K, wipe, ex_ty2, kit_LTl, kit_LTt, kit_LTd, kit_LTs, kit_LTn, kit_LTb, kit_LTi, tM1, rIxS, exists_eq', lt1p, tDNewK, rSlS, rEqNil, nox_K]
        exact k H2 (s_H1.trans s2)
end



/-! ### Ranges(..) -/
/-! ### parents -/
section
variable {X : Cx}
/-- isinstance(x, (.., ..)) where x is a tuple of the text itself -/
def rIsKT (K : PySem.W.Frag) : List V → Hp → VK → Prop := fun vs H Q => ∃ a p ts cs b o, vs = [.ref a, .ref p] ∧ H p = some (.tup ts) ∧ ts = List.map V.ty cs ∧ K.lookup a = some o ∧ o.cls = .type "tuple" ∧ kitAnyB "tuple" cs = some b ∧ Q (.bl b) H
theorem call_isKT : CallR X (.builtin "isinstance") (rIsKT X.K) := fun pins s σ H xs us Q I r h => by
  obtain ⟨a, p, ts, cs, b, o, h1, h2, rfl, h3, h4, h5, h6⟩ := h
  exact call_isiT pins s σ H xs us Q I r ⟨.ref a, p, _, _, _, b, h1, h2, clsV_all cs, .kTuple h3 h4, kitAnyB_ok h5, h6⟩
end
/-- the empty tuple of the text -/
structure KT0 (K : PySem.W.Frag) (a : Addr) : Prop where
  sq : ∀ H, SqT K H a []
  lk : ∃ o, K.lookup a = some o ∧ o.cls = .type "tuple"

/-- a comprehension that makes an object a turn -/
theorem lc_rel {J : It} {xs : List V} {G : Hp → Prop} (w : Walk J xs.length G (YAt xs)) {g : TG} {tt : TT} {te : TE} {vs : List Nat} {σ : St} {D : Addr} {Q : VK} {H1 : Hp} (R : Nat → V → Hp → Prop)
    (mono : ∀ i y H H', Same H H' → R i y H → R i y H') (mutd : ∀ i y H zs us, R i y H → H D = some (.lst zs) → R i y (upd H D (.lst us)))
    (hD : H1 D = none) (hG : ∀ H, Same H1 H → G H) (hz : xs.length ≤ 100000)
    (turn : ∀ i x, xs[i]? = some x → ∀ H, Same H1 H → ∀ (P : VK) (R0 : Hp → Prop), (∀ y H', Same H H' → R i y H' → P y H') → g x (wipe σ vs) H fun σ2 H2 => wipe σ2 vs = wipe σ vs ∧ tt σ2 H2 fun b H3 => if b = true then te σ2 H3 P else R0 H3)
    (done : ∀ ys H, Same H1 H → ys.length = xs.length → (∀ i y, ys[i]? = some y → R i y H) → H D = some (.lst ys) → Q (.ref D) H) : lcGo J g tt te vs σ D Q H1 := by
  refine lc_it w (fun i H => Same H1 H ∧ ∃ acc, acc.length = i ∧ H D = some (.lst acc) ∧ ∀ j y, acc[j]? = some y → R j y H) ⟨fun b o e => by rw [upd_ne (ne_of_none e hD)]; exact e, [], rfl, upd_same, fun j y h => by cases h⟩ (fun i H _ p => hG H p.1) (fun i x H H' hi p y => ?_) (fun H p => ?_)
  · obtain ⟨rfl, hx⟩ := y
    obtain ⟨s1, acc, hl, hacc, hR⟩ := p
    refine turn i x hx _ s1 _ _ (fun v H2 s2 r2 => ?_)
    have hacc2 := s2 _ _ hacc
    refine ⟨acc, hacc2, Nat.lt_of_le_of_lt (m := 100000) (by omega) (by decide), fun b o e => ?_, acc ++ [v], by rw [List.length_append, hl]; rfl, upd_same, fun j y hj => ?_⟩
    · rw [upd_ne (ne_of_none e hD)]
      exact s2 _ _ (s1 _ _ e)
    · rcases Nat.lt_or_ge j acc.length with hlt | hge
      · rw [List.getElem?_append_left hlt] at hj
        exact mutd _ _ _ _ _ (mono _ _ _ _ s2 (hR j y hj)) hacc2
      · rw [List.getElem?_append_right hge] at hj
        obtain ⟨j0, rfl⟩ : ∃ j0, j = acc.length + j0 := ⟨j - acc.length, by omega⟩
        rw [Nat.add_sub_cancel_left] at hj
        cases j0 with
        | zero =>
          cases hj
          rw [Nat.add_zero, hl]
          exact mutd _ _ _ _ _ r2 hacc2
        | succ j0 => cases hj
  · obtain ⟨s1, acc, hl, hacc, hR⟩ := p
    exact done acc H s1 hl hR hacc
theorem refs_list : ∀ {ys : List V}, (∀ y ∈ ys, ∃ a, y = .ref a) → ∃ vas : List Addr, ys = vas.map V.ref
  | [], _ => ⟨[], rfl⟩
  | y :: ys, h => by
    obtain ⟨a, rfl⟩ := h y List.mem_cons_self
    obtain ⟨vas, rfl⟩ := refs_list fun z hz => h z (List.mem_cons_of_mem _ hz)
    exact ⟨a :: vas, rfl⟩

def gF (k : Addr) : List (Str × V) := [("kept_parts", .ref k)]
theorem gf_k {k : Addr} : (gF k).lookup ("kept_parts" : Str) = some (V.ref k) := by
  unfold gF
  rw [List.lookup_cons_self]
theorem gf_no {k : Addr} {m : Str} (h : (m == ("kept_parts" : Str)) = false) : (gF k).lookup m = none := by
  unfold gF
  rw [List.lookup_cons, h]
  rfl
structure RgAt (CG C : Addr) (H : Hp) (g : Addr) (n : Nat) (ps : List Pt) : Prop where
  ex : ∃ dx k xs, H g = some (.ins CG dx (gF k)) ∧ H k = some (.lst xs) ∧ RPs C H xs n ps
  l : ps.length ≤ 1000
  n4 : n ≤ 4000
theorem RgAt.same {CG C : Addr} {H H' : Hp} {g : Addr} {n : Nat} {ps : List Pt} (h : RgAt CG C H g n ps) (s : Same H H') : RgAt CG C H' g n ps := by
  obtain ⟨⟨dx, k, xs, h1, h2, h3⟩, l, n4⟩ := h
  exact ⟨⟨dx, k, xs, s _ _ h1, s _ _ h2, h3.same s⟩, l, n4⟩
def GvAt (K : PySem.W.Frag) (H : Hp) (b : Addr) (xs : List V) : Prop := H b = some (.lst xs) ∨ H b = some (.tup xs) ∨ (KT0 K b ∧ xs = [])
def spRg (K : PySem.W.Frag) (CG C : Addr) : Sp := fun vs H Q _ => ∃ x dx b xs n ps, vs = [.ref x, .ref b] ∧ H x = some (.ins CG dx []) ∧ GvAt K H b xs ∧ NPs C H xs n ps ∧ (∀ p ∈ ps, Okp p) ∧ AscP ps ∧ n ≤ 4000 ∧ xs.length ≤ 1000 ∧
  ∀ H' k ys, H k = none → (∀ c o, c ≠ x → H c = some o → H' c = some o) → H' x = some (.ins CG dx (gF k)) → H' k = some (.lst ys) → RPs C H' ys n ps → Q .non H'
theorem NPs.mut {C D : Addr} {H : Hp} {xs zs us : List V} {n : Nat} {ps : List Pt} (h : RPs C H xs n ps) (e : H D = some (.lst zs)) : RPs C (upd H D (.lst us)) xs n ps := ⟨h.len, fun i v p h1 h2 => by
  have ne : ∀ {b : Addr} {o : HO}, H b = some o → (∀ xs, o ≠ .lst xs) → upd H D (.lst us) b = some o := fun {b o} q nn => by rw [upd_ne (fun z => by rw [z, e] at q; exact nn _ (Option.some.inj q).symm)]; exact q
  obtain ⟨t, x, y, rfl, q1, ⟨⟨a, dx, rfl, q2⟩, bd⟩, q3⟩ := h.ea i v p h1 h2
  refine ⟨t, _, y, rfl, ne q1 (fun xs z => by cases z), ⟨⟨a, dx, rfl, ne q2 (fun xs z => by cases z)⟩, bd⟩, ?_⟩
  cases e2 : p.2 with
  | none => rw [e2] at q3; exact q3
  | some q =>
    rw [e2] at q3
    obtain ⟨⟨a, dx, rfl, q4⟩, bd⟩ := q3
    exact ⟨⟨a, dx, rfl, ne q4 (fun xs z => by cases z)⟩, bd⟩⟩
theorem rpart_mut {C D : Addr} {H : Hp} {v : V} {zs us : List V} {n : Nat} {p : Pt} (h : RPart C H v n p) (e : H D = some (.lst zs)) : RPart C (upd H D (.lst us)) v n p := (NPs.mut (xs := [v]) (ps := [p]) ⟨rfl, fun i v' p' h1 h2 => by
  cases i with
  | zero => cases h1; cases h2; exact h
  | succ i => cases h1⟩ e).ea 0 v p rfl rfl
theorem RPs.keep {C CG x dx : Addr} {H H' : Hp} {xs : List V} {n : Nat} {ps : List Pt} (h : RPs C H xs n ps) (hx : H x = some (.ins CG dx [])) (s : ∀ c o, c ≠ x → H c = some o → H' c = some o) : RPs C H' xs n ps := ⟨h.len, fun i v p h1 h2 => by
  have ne : ∀ {b : Addr} {o : HO}, H b = some o → o ≠ .ins CG dx [] → H' b = some o := fun {b o} q nn => s b o (fun z => by rw [z, hx] at q; exact nn (Option.some.inj q).symm) q
  obtain ⟨t, x, y, rfl, q1, ⟨⟨a, dx, rfl, q2⟩, bd⟩, q3⟩ := h.ea i v p h1 h2
  refine ⟨t, _, y, rfl, ne q1 (fun z => by cases z), ⟨⟨a, dx, rfl, ne q2 (fun z => by cases z)⟩, bd⟩, ?_⟩
  cases e2 : p.2 with
  | none => rw [e2] at q3; exact q3
  | some q =>
    rw [e2] at q3
    obtain ⟨⟨a, dx, rfl, q4⟩, bd⟩ := q3
    exact ⟨⟨a, dx, rfl, ne q4 (fun z => by cases z)⟩, bd⟩⟩
section
variable {P : Program} {w : World} {K : PySem.W.Frag} {mg : Str → Option Value} {base : Heap} {A : Adr}
theorem ok_rg (T : Txt K mg A) (gIsRange : FnOk P w K mg base CX0 6 A.a_IsRange A.d_IsRange ["value"] (spRange A.k_Ratio)) (gAscend : FnOk P w K mg base CX0 6 A.a_Ascend A.d_Ascend ["parts"] (spAsc K A.k_Ratio)) (gInRatios : FnOk P w K mg base CX0 5 A.a_InRatios A.d_InRatios ["part"] (spInR A.k_Ratio)) :
    FnOk P w K mg base CX0 7 A.a_RangesInit A.d_RangesInit ["self", "parts"] (spRg K A.k_Ranges A.k_Ratio) := by
  refine T.f_RangesInit.ok scRangesInit (fun vs H Q E h => ?_) (fun cdv A' outer s H vs Q E hr h => ?_)
  · obtain ⟨x, dx, b, xs, n, ps, rfl, _⟩ := h
    rfl
  · obtain ⟨x, dx, b, xs, n, ps, rfl, hx, hb, np, ok, as, hn, hl, k⟩ := h
    have e1 : PySem.W.kitOne K (.type "list") (.type "list") = some true := kit_self
    have e2 : PySem.W.kitAny K (.type "list") [.type "list", .type "tuple"] = some true := kitAny_t kit_self
    have e3 : PySem.W.kitAny K (.type "tuple") [.type "list", .type "tuple"] = some true := kitAnyB_ok (cs := ["list", "tuple"]) kit_LTt
    rcases hb with hb | hb | ⟨kt, rfl⟩
    · refine ⟨_, (pss_cons (ps_if (PW.pt (pw_or (pt_not (pt_val (pe_callB call_isWT (by rfl) T.z_isinstance (by decide +kernel) (pa_cons (pv 1) (pa_cons (pe_tup (pa_cons (pe_bltn (v := .ty "list") (by rfl) T.z_list (by decide +kernel) rfl) (pa_cons (pe_bltn (v := .ty "tuple") (by rfl) T.z_tuple (by decide +kernel) rfl) pa_nil))) pa_nil))))) (pw_or1 (pt_not (pt_val (pe_callB (cr_all rfl) (by rfl) T.z_all (by decide +kernel) (pa_cons (pe_lc (own := [("part", 2)]) (g := gName 2) (tt := tYes) (by rfl) scRangesInit.nd (pi_list (pv 1)) (blkOk_by (own := [("part", 2)]) (N := nRangesInit) (sc := defScope sRangesInit) (by decide +kernel)) (fun _ _ _ _ _ => pg_name (i := 2) scRangesInit.nd rfl (Or.inl rfl)) (fun _ _ _ _ _ => pts_nil) (fun _ _ _ _ _ => (pe_call gIsRange (hr.mono (by decide)) (by rfl) T.m_IsRange T.f_IsRange.kp T.b_IsRange .nil pass0 (pa_cons (pv 2) pa_nil)))) pa_nil))))))) (pss_one ps_never) pss_nil)
      (pss_cons (ps_if (pt_not (pt_val (pe_call gAscend (hr.mono (by decide)) (by rfl) T.m_Ascend T.f_Ascend.kp T.b_Ascend .nil pass0 (pa_cons (pv 1) pa_nil)))) (pss_one ps_never) pss_nil)
      (pss_one (ps_fld (pv 0) (pe_lc (own := [("part", 2)]) (g := gName 2) (tt := tYes) (by rfl) scRangesInit.nd (pi_list (pv 1)) (blkOk_by (own := [("part", 2)]) (N := nRangesInit) (sc := defScope sRangesInit) (by decide +kernel)) (fun _ _ _ _ _ => pg_name (i := 2) scRangesInit.nd rfl (Or.inl rfl)) (fun _ _ _ _ _ => pts_nil) (fun _ _ _ _ _ => (pe_call gInRatios (hr.mono (by decide)) (by rfl) T.m_InRatios T.f_InRatios.kp T.b_InRatios .nil pass0 (pa_cons (pv 2) pa_nil)))) rfl)))), ?_⟩
      refine seq_gen fun N eN => ?_
      have et : tyV H (.ref b) = some (.type "list") := by rw [tyV_ref, hb]; rfl
      try simp only [tSeq, tNext, tRet, tRetN, tAsg, gName, gSub, tDrop, tIfS, tOp, tUn, tCB, tCons, tNil, tC, tVar, rI, rI0, rU, tAnd, tOr, tNot, tAndV, tOrV, tNotV, tIf, tTest, tB, tCall, tChain, tLst, tTup, tYes, rIxH, rIsB, rIsBT, rMulS, kd_non, kd_bl, kd_int, kd_str, kd_ref, kdO_lst, kdO_tup, kdO_dK, nq_n, nq_b, nq_i, nq_s, nq_l, nq_t, nq_d, ne_eq, not_false_eq_true, kit_ss, kit_ns, kit_bs, kit_is, kit_ls, kit_ts, kit_ds, kit_bb, V.ty.injEq, and_assoc, rIxU, rLenH, rLenU, rLenS, rInt1, rSetL, rEq, rNe, rCat, L2.start, List.map, List.length, List.length_cons, List.length_nil, List.replicate, List.getElem?_cons_zero, List.getElem?_cons_succ, List.set_cons_zero, List.set_cons_succ, List.set_nil, List.cons_append, List.nil_append, List.append_nil, Option.some.injEq, V.int.injEq, V.ref.injEq, V.str.injEq, V.bl.injEq, HO.lst.injEq, HO.tup.injEq, exists_eq_left', exists_and_left, exists_eq_left, List.cons.injEq, and_true, true_and, and_false, false_and, and_self, reduceCtorEq, exists_false, or_false, false_or, exists_const, at0, at1, at2, at3, at4, at5, ix51, ix52, ix54, upd_same, Nat.reduceAdd, Nat.reduceSub, Nat.zero_add, Int.reduceToNat, Int.reduceLE, Int.reduceLT, decide_eq_true_eq, Bool.not_eq_true, if_true, if_false, Bool.false_eq_true, ite_true, ite_false, Bool.not_true, Bool.not_false, decide_true, decide_false, tFor_eq, tLc_eq, iList, iTup, iRng1, iRng2, iStr, tSl, tPart, tNoPart, rSlL, cxOf_K, wipe, ex_ty2, kit_LTl, kit_LTt, kit_LTd, kit_LTs, kit_LTn, kit_LTb, kit_LTi, tM1, rIxS, exists_eq', lt1p, tDNewK, rSlS, rEqNil, nox_K, hb]
      refine ⟨by decide, ?_⟩
      intro p n_p; generalize g_H1 : upd H p _ = H1; obtain ⟨s_H1, h_p⟩ := new_facts n_p g_H1; clear g_H1
      have hb1 := s_H1 _ _ hb
      have et1 : tyV H1 (.ref b) = some (.type "list") := by rw [tyV_ref, hb1]; rfl
      try simp only [tSeq, tNext, tRet, tRetN, tAsg, gName, gSub, tDrop, tIfS, tOp, tUn, tCB, tCons, tNil, tC, tVar, rI, rI0, rU, tAnd, tOr, tNot, tAndV, tOrV, tNotV, tIf, tTest, tB, tCall, tChain, tLst, tTup, tYes, rIxH, rIsB, rIsBT, rMulS, kd_non, kd_bl, kd_int, kd_str, kd_ref, kdO_lst, kdO_tup, kdO_dK, nq_n, nq_b, nq_i, nq_s, nq_l, nq_t, nq_d, ne_eq, not_false_eq_true, kit_ss, kit_ns, kit_bs, kit_is, kit_ls, kit_ts, kit_ds, kit_bb, V.ty.injEq, and_assoc, rIxU, rLenH, rLenU, rLenS, rInt1, rSetL, rEq, rNe, rCat, L2.start, List.map, List.length, List.length_cons, List.length_nil, List.replicate, List.getElem?_cons_zero, List.getElem?_cons_succ, List.set_cons_zero, List.set_cons_succ, List.set_nil, List.cons_append, List.nil_append, List.append_nil, Option.some.injEq, V.int.injEq, V.ref.injEq, V.str.injEq, V.bl.injEq, HO.lst.injEq, HO.tup.injEq, exists_eq_left', exists_and_left, exists_eq_left, List.cons.injEq, and_true, true_and, and_false, false_and, and_self, reduceCtorEq, exists_false, or_false, false_or, exists_const, at0, at1, at2, at3, at4, at5, ix51, ix52, ix54, upd_same, Nat.reduceAdd, Nat.reduceSub, Nat.zero_add, Int.reduceToNat, Int.reduceLE, Int.reduceLT, decide_eq_true_eq, Bool.not_eq_true, if_true, if_false, Bool.false_eq_true, ite_true, ite_false, Bool.not_true, Bool.not_false, decide_true, decide_false, tFor_eq, tLc_eq, iList, iTup, iRng1, iRng2, iStr, tSl, tPart, tNoPart, rSlL, cxOf_K, wipe, ex_ty2, kit_LTl, kit_LTt, kit_LTd, kit_LTs, kit_LTn, kit_LTb, kit_LTi, tM1, rIxS, exists_eq', lt1p, tDNewK, rSlS, rEqNil, nox_K, rIsWT, clsVs_ty, clsVs_ref, clsVs_nil, Option.map_some, h_p, hb1, et1, e2, implies_true, forall_const, false_implies]
      refine ⟨⟨_, SqL.of (hb1)⟩, fun D1 nD1 => ?_⟩
      refine lc_same (walk_list (K := K) (a := b) (xs := xs)) (fun _ => true) (fun _ => .bl true) nD1 (fun H2 s2 => SqL.of (s2 _ _ hb1)) (by omega) (fun v hv H2 s2 R R0 h1 _ => ?_) (fun H2 s2 hD1 => ?_)
      · obtain ⟨i, hi⟩ := List.mem_iff_getElem?.mp hv
        have hi' : i < ps.length := by rw [← np.len]; exact (List.getElem?_eq_some_iff.mp hi).1
        try simp only [tSeq, tNext, tRet, tRetN, tAsg, gName, gSub, tDrop, tIfS, tOp, tUn, tCB, tCons, tNil, tC, tVar, rI, rI0, rU, tAnd, tOr, tNot, tAndV, tOrV, tNotV, tIf, tTest, tB, tCall, tChain, tLst, tTup, tYes, rIxH, rIsB, rIsBT, rMulS, kd_non, kd_bl, kd_int, kd_str, kd_ref, kdO_lst, kdO_tup, kdO_dK, nq_n, nq_b, nq_i, nq_s, nq_l, nq_t, nq_d, ne_eq, not_false_eq_true, kit_ss, kit_ns, kit_bs, kit_is, kit_ls, kit_ts, kit_ds, kit_bb, V.ty.injEq, and_assoc, rIxU, rLenH, rLenU, rLenS, rInt1, rSetL, rEq, rNe, rCat, L2.start, List.map, List.length, List.length_cons, List.length_nil, List.replicate, List.getElem?_cons_zero, List.getElem?_cons_succ, List.set_cons_zero, List.set_cons_succ, List.set_nil, List.cons_append, List.nil_append, List.append_nil, Option.some.injEq, V.int.injEq, V.ref.injEq, V.str.injEq, V.bl.injEq, HO.lst.injEq, HO.tup.injEq, exists_eq_left', exists_and_left, exists_eq_left, List.cons.injEq, and_true, true_and, and_false, false_and, and_self, reduceCtorEq, exists_false, or_false, false_or, exists_const, at0, at1, at2, at3, at4, at5, ix51, ix52, ix54, upd_same, Nat.reduceAdd, Nat.reduceSub, Nat.zero_add, Int.reduceToNat, Int.reduceLE, Int.reduceLT, decide_eq_true_eq, Bool.not_eq_true, if_true, if_false, Bool.false_eq_true, ite_true, ite_false, Bool.not_true, Bool.not_false, decide_true, decide_false, tFor_eq, tLc_eq, iList, iTup, iRng1, iRng2, iStr, tSl, tPart, tNoPart, rSlL, cxOf_K, wipe, ex_ty2, kit_LTl, kit_LTt, kit_LTd, kit_LTs, kit_LTn, kit_LTb, kit_LTi, tM1, rIxS, exists_eq', lt1p, tDNewK, rSlS, rEqNil, nox_K]
        exact ⟨v, n, ps[i], rfl, ((np.same s_H1).same s2).ea i v _ hi (List.getElem?_eq_getElem hi'), ok _ (List.getElem_mem hi'), hn, fun H3 s3 => h1 H3 s3 rfl⟩
      rw [filter_all] at hD1
      have eall : (List.map (fun _ => V.bl true) xs) = (List.map (fun _ : V => true) xs).map V.bl := by rw [List.map_map]; rfl
      rw [eall] at hD1
      refine ⟨D1, _, rfl, SqL.of hD1, _, rfl, ?_⟩
      rw [show (List.map (fun _ : V => true) xs).all id = true from by simp, if_neg (by decide)]
      rw [eN]
      clear eN N
      refine seq_gen fun N eN => ?_
      have s02 := s_H1.trans s2
      have np2 := np.same s02
      try simp only [tSeq, tNext, tRet, tRetN, tAsg, gName, gSub, tDrop, tIfS, tOp, tUn, tCB, tCons, tNil, tC, tVar, rI, rI0, rU, tAnd, tOr, tNot, tAndV, tOrV, tNotV, tIf, tTest, tB, tCall, tChain, tLst, tTup, tYes, rIxH, rIsB, rIsBT, rMulS, kd_non, kd_bl, kd_int, kd_str, kd_ref, kdO_lst, kdO_tup, kdO_dK, nq_n, nq_b, nq_i, nq_s, nq_l, nq_t, nq_d, ne_eq, not_false_eq_true, kit_ss, kit_ns, kit_bs, kit_is, kit_ls, kit_ts, kit_ds, kit_bb, V.ty.injEq, and_assoc, rIxU, rLenH, rLenU, rLenS, rInt1, rSetL, rEq, rNe, rCat, L2.start, List.map, List.length, List.length_cons, List.length_nil, List.replicate, List.getElem?_cons_zero, List.getElem?_cons_succ, List.set_cons_zero, List.set_cons_succ, List.set_nil, List.cons_append, List.nil_append, List.append_nil, Option.some.injEq, V.int.injEq, V.ref.injEq, V.str.injEq, V.bl.injEq, HO.lst.injEq, HO.tup.injEq, exists_eq_left', exists_and_left, exists_eq_left, List.cons.injEq, and_true, true_and, and_false, false_and, and_self, reduceCtorEq, exists_false, or_false, false_or, exists_const, at0, at1, at2, at3, at4, at5, ix51, ix52, ix54, upd_same, Nat.reduceAdd, Nat.reduceSub, Nat.zero_add, Int.reduceToNat, Int.reduceLE, Int.reduceLT, decide_eq_true_eq, Bool.not_eq_true, if_true, if_false, Bool.false_eq_true, ite_true, ite_false, Bool.not_true, Bool.not_false, decide_true, decide_false, tFor_eq, tLc_eq, iList, iTup, iRng1, iRng2, iStr, tSl, tPart, tNoPart, rSlL, cxOf_K, wipe, ex_ty2, kit_LTl, kit_LTt, kit_LTd, kit_LTs, kit_LTn, kit_LTb, kit_LTi, tM1, rIxS, exists_eq', lt1p, tDNewK, rSlS, rEqNil, nox_K]
      refine ⟨b, xs, n, ps, rfl, .inl (s02 _ _ hb), np2, as, hn, hl, fun H3 s3 => ?_⟩
      try simp only [tSeq, tNext, tRet, tRetN, tAsg, gName, gSub, tDrop, tIfS, tOp, tUn, tCB, tCons, tNil, tC, tVar, rI, rI0, rU, tAnd, tOr, tNot, tAndV, tOrV, tNotV, tIf, tTest, tB, tCall, tChain, tLst, tTup, tYes, rIxH, rIsB, rIsBT, rMulS, kd_non, kd_bl, kd_int, kd_str, kd_ref, kdO_lst, kdO_tup, kdO_dK, nq_n, nq_b, nq_i, nq_s, nq_l, nq_t, nq_d, ne_eq, not_false_eq_true, kit_ss, kit_ns, kit_bs, kit_is, kit_ls, kit_ts, kit_ds, kit_bb, V.ty.injEq, and_assoc, rIxU, rLenH, rLenU, rLenS, rInt1, rSetL, rEq, rNe, rCat, L2.start, List.map, List.length, List.length_cons, List.length_nil, List.replicate, List.getElem?_cons_zero, List.getElem?_cons_succ, List.set_cons_zero, List.set_cons_succ, List.set_nil, List.cons_append, List.nil_append, List.append_nil, Option.some.injEq, V.int.injEq, V.ref.injEq, V.str.injEq, V.bl.injEq, HO.lst.injEq, HO.tup.injEq, exists_eq_left', exists_and_left, exists_eq_left, List.cons.injEq, and_true, true_and, and_false, false_and, and_self, reduceCtorEq, exists_false, or_false, false_or, exists_const, at0, at1, at2, at3, at4, at5, ix51, ix52, ix54, upd_same, Nat.reduceAdd, Nat.reduceSub, Nat.zero_add, Int.reduceToNat, Int.reduceLE, Int.reduceLT, decide_eq_true_eq, Bool.not_eq_true, if_true, if_false, Bool.false_eq_true, ite_true, ite_false, Bool.not_true, Bool.not_false, decide_true, decide_false, tFor_eq, tLc_eq, iList, iTup, iRng1, iRng2, iStr, tSl, tPart, tNoPart, rSlL, cxOf_K, wipe, ex_ty2, kit_LTl, kit_LTt, kit_LTd, kit_LTs, kit_LTn, kit_LTb, kit_LTi, tM1, rIxS, exists_eq', lt1p, tDNewK, rSlS, rEqNil, nox_K]
      rw [eN]
      clear eN N
      have s03 := s02.trans s3
      have hb3 := s03 _ _ hb
      try simp only [tSeq, tNext, tRet, tRetN, tAsg, gName, gSub, tDrop, tIfS, tOp, tUn, tCB, tCons, tNil, tC, tVar, rI, rI0, rU, tAnd, tOr, tNot, tAndV, tOrV, tNotV, tIf, tTest, tB, tCall, tChain, tLst, tTup, tYes, rIxH, rIsB, rIsBT, rMulS, kd_non, kd_bl, kd_int, kd_str, kd_ref, kdO_lst, kdO_tup, kdO_dK, nq_n, nq_b, nq_i, nq_s, nq_l, nq_t, nq_d, ne_eq, not_false_eq_true, kit_ss, kit_ns, kit_bs, kit_is, kit_ls, kit_ts, kit_ds, kit_bb, V.ty.injEq, and_assoc, rIxU, rLenH, rLenU, rLenS, rInt1, rSetL, rEq, rNe, rCat, L2.start, List.map, List.length, List.length_cons, List.length_nil, List.replicate, List.getElem?_cons_zero, List.getElem?_cons_succ, List.set_cons_zero, List.set_cons_succ, List.set_nil, List.cons_append, List.nil_append, List.append_nil, Option.some.injEq, V.int.injEq, V.ref.injEq, V.str.injEq, V.bl.injEq, HO.lst.injEq, HO.tup.injEq, exists_eq_left', exists_and_left, exists_eq_left, List.cons.injEq, and_true, true_and, and_false, false_and, and_self, reduceCtorEq, exists_false, or_false, false_or, exists_const, at0, at1, at2, at3, at4, at5, ix51, ix52, ix54, upd_same, Nat.reduceAdd, Nat.reduceSub, Nat.zero_add, Int.reduceToNat, Int.reduceLE, Int.reduceLT, decide_eq_true_eq, Bool.not_eq_true, if_true, if_false, Bool.false_eq_true, ite_true, ite_false, Bool.not_true, Bool.not_false, decide_true, decide_false, tFor_eq, tLc_eq, iList, iTup, iRng1, iRng2, iStr, tSl, tPart, tNoPart, rSlL, cxOf_K, wipe, ex_ty2, kit_LTl, kit_LTt, kit_LTd, kit_LTs, kit_LTn, kit_LTb, kit_LTi, tM1, rIxS, exists_eq', lt1p, tDNewK, rSlS, rEqNil, nox_K, sFld]
      refine ⟨⟨_, SqL.of (hb3)⟩, fun D2 nD2 => ?_⟩
      refine lc_rel (walk_list (K := K) (a := b) (xs := xs)) (fun j y H' => ∃ p, ps[j]? = some p ∧ RPart A.k_Ratio H' y n p) (fun j y H4 H5 s ⟨p, e, h⟩ => ⟨p, e, h.same s⟩) (fun j y H4 zs us ⟨p, e, h⟩ e2 => ⟨p, e, rpart_mut h e2⟩) nD2 (fun H4 s4 => SqL.of (s4 _ _ hb3)) (by omega) (fun j v hv H4 s4 Pk R0 pk => ?_) (fun ys H4 s4 yl hys hD2 => ?_)
      · have hi' : j < ps.length := by rw [← np.len]; exact (List.getElem?_eq_some_iff.mp hv).1
        try simp only [tSeq, tNext, tRet, tRetN, tAsg, gName, gSub, tDrop, tIfS, tOp, tUn, tCB, tCons, tNil, tC, tVar, rI, rI0, rU, tAnd, tOr, tNot, tAndV, tOrV, tNotV, tIf, tTest, tB, tCall, tChain, tLst, tTup, tYes, rIxH, rIsB, rIsBT, rMulS, kd_non, kd_bl, kd_int, kd_str, kd_ref, kdO_lst, kdO_tup, kdO_dK, nq_n, nq_b, nq_i, nq_s, nq_l, nq_t, nq_d, ne_eq, not_false_eq_true, kit_ss, kit_ns, kit_bs, kit_is, kit_ls, kit_ts, kit_ds, kit_bb, V.ty.injEq, and_assoc, rIxU, rLenH, rLenU, rLenS, rInt1, rSetL, rEq, rNe, rCat, L2.start, List.map, List.length, List.length_cons, List.length_nil, List.replicate, List.getElem?_cons_zero, List.getElem?_cons_succ, List.set_cons_zero, List.set_cons_succ, List.set_nil, List.cons_append, List.nil_append, List.append_nil, Option.some.injEq, V.int.injEq, V.ref.injEq, V.str.injEq, V.bl.injEq, HO.lst.injEq, HO.tup.injEq, exists_eq_left', exists_and_left, exists_eq_left, List.cons.injEq, and_true, true_and, and_false, false_and, and_self, reduceCtorEq, exists_false, or_false, false_or, exists_const, at0, at1, at2, at3, at4, at5, ix51, ix52, ix54, upd_same, Nat.reduceAdd, Nat.reduceSub, Nat.zero_add, Int.reduceToNat, Int.reduceLE, Int.reduceLT, decide_eq_true_eq, Bool.not_eq_true, if_true, if_false, Bool.false_eq_true, ite_true, ite_false, Bool.not_true, Bool.not_false, decide_true, decide_false, tFor_eq, tLc_eq, iList, iTup, iRng1, iRng2, iStr, tSl, tPart, tNoPart, rSlL, cxOf_K, wipe, ex_ty2, kit_LTl, kit_LTt, kit_LTd, kit_LTs, kit_LTn, kit_LTb, kit_LTi, tM1, rIxS, exists_eq', lt1p, tDNewK, rSlS, rEqNil, nox_K]
        exact ⟨v, n, ps[j], rfl, ((np.same s03).same s4).ea j v _ hv (List.getElem?_eq_getElem hi'), hn, fun H5 v' s5 hv' => pk _ _ s5 ⟨_, List.getElem?_eq_getElem hi', hv'⟩⟩
      have s04 := s03.trans s4
      have hx4 := s04 _ _ hx
      have nxD : x ≠ D2 := fun z => by rw [z, hD2] at hx4; cases hx4
      refine ⟨A.k_Ranges, dx, [], hx4, T.t_Ranges.cl, T.n_Ranges_kept_parts, by decide, ?_⟩
      have rp : RPs A.k_Ratio H4 ys n ps := ⟨by rw [yl, np.len], fun j v p h1 h2 => by
        obtain ⟨p', e, h⟩ := hys j v h1
        rw [h2] at e
        cases e
        exact h⟩
      refine k _ D2 ys (s03.free nD2) (fun c o hc e => by rw [upd_ne hc]; exact s04 _ _ e) (by rw [upd_same]; rfl) (by rw [upd_ne nxD.symm]; exact hD2) (rp.keep hx4 fun c o hc e => by rw [upd_ne hc]; exact e)
    · refine ⟨_, (pss_cons (ps_if (PW.pt (pw_or (pt_not (pt_val (pe_callB call_isWT (by rfl) T.z_isinstance (by decide +kernel) (pa_cons (pv 1) (pa_cons (pe_tup (pa_cons (pe_bltn (v := .ty "list") (by rfl) T.z_list (by decide +kernel) rfl) (pa_cons (pe_bltn (v := .ty "tuple") (by rfl) T.z_tuple (by decide +kernel) rfl) pa_nil))) pa_nil))))) (pw_or1 (pt_not (pt_val (pe_callB (cr_all rfl) (by rfl) T.z_all (by decide +kernel) (pa_cons (pe_lc (own := [("part", 2)]) (g := gName 2) (tt := tYes) (by rfl) scRangesInit.nd (pi_tup (pv 1)) (blkOk_by (own := [("part", 2)]) (N := nRangesInit) (sc := defScope sRangesInit) (by decide +kernel)) (fun _ _ _ _ _ => pg_name (i := 2) scRangesInit.nd rfl (Or.inl rfl)) (fun _ _ _ _ _ => pts_nil) (fun _ _ _ _ _ => (pe_call gIsRange (hr.mono (by decide)) (by rfl) T.m_IsRange T.f_IsRange.kp T.b_IsRange .nil pass0 (pa_cons (pv 2) pa_nil)))) pa_nil))))))) (pss_one ps_never) pss_nil)
      (pss_cons (ps_if (pt_not (pt_val (pe_call gAscend (hr.mono (by decide)) (by rfl) T.m_Ascend T.f_Ascend.kp T.b_Ascend .nil pass0 (pa_cons (pv 1) pa_nil)))) (pss_one ps_never) pss_nil)
      (pss_one (ps_fld (pv 0) (pe_lc (own := [("part", 2)]) (g := gName 2) (tt := tYes) (by rfl) scRangesInit.nd (pi_tup (pv 1)) (blkOk_by (own := [("part", 2)]) (N := nRangesInit) (sc := defScope sRangesInit) (by decide +kernel)) (fun _ _ _ _ _ => pg_name (i := 2) scRangesInit.nd rfl (Or.inl rfl)) (fun _ _ _ _ _ => pts_nil) (fun _ _ _ _ _ => (pe_call gInRatios (hr.mono (by decide)) (by rfl) T.m_InRatios T.f_InRatios.kp T.b_InRatios .nil pass0 (pa_cons (pv 2) pa_nil)))) rfl)))), ?_⟩
      refine seq_gen fun N eN => ?_
      have et : tyV H (.ref b) = some (.type "tuple") := by rw [tyV_ref, hb]; rfl
      try simp only [tSeq, tNext, tRet, tRetN, tAsg, gName, gSub, tDrop, tIfS, tOp, tUn, tCB, tCons, tNil, tC, tVar, rI, rI0, rU, tAnd, tOr, tNot, tAndV, tOrV, tNotV, tIf, tTest, tB, tCall, tChain, tLst, tTup, tYes, rIxH, rIsB, rIsBT, rMulS, kd_non, kd_bl, kd_int, kd_str, kd_ref, kdO_lst, kdO_tup, kdO_dK, nq_n, nq_b, nq_i, nq_s, nq_l, nq_t, nq_d, ne_eq, not_false_eq_true, kit_ss, kit_ns, kit_bs, kit_is, kit_ls, kit_ts, kit_ds, kit_bb, V.ty.injEq, and_assoc, rIxU, rLenH, rLenU, rLenS, rInt1, rSetL, rEq, rNe, rCat, L2.start, List.map, List.length, List.length_cons, List.length_nil, List.replicate, List.getElem?_cons_zero, List.getElem?_cons_succ, List.set_cons_zero, List.set_cons_succ, List.set_nil, List.cons_append, List.nil_append, List.append_nil, Option.some.injEq, V.int.injEq, V.ref.injEq, V.str.injEq, V.bl.injEq, HO.lst.injEq, HO.tup.injEq, exists_eq_left', exists_and_left, exists_eq_left, List.cons.injEq, and_true, true_and, and_false, false_and, and_self, reduceCtorEq, exists_false, or_false, false_or, exists_const, at0, at1, at2, at3, at4, at5, ix51, ix52, ix54, upd_same, Nat.reduceAdd, Nat.reduceSub, Nat.zero_add, Int.reduceToNat, Int.reduceLE, Int.reduceLT, decide_eq_true_eq, Bool.not_eq_true, if_true, if_false, Bool.false_eq_true, ite_true, ite_false, Bool.not_true, Bool.not_false, decide_true, decide_false, tFor_eq, tLc_eq, iList, iTup, iRng1, iRng2, iStr, tSl, tPart, tNoPart, rSlL, cxOf_K, wipe, ex_ty2, kit_LTl, kit_LTt, kit_LTd, kit_LTs, kit_LTn, kit_LTb, kit_LTi, tM1, rIxS, exists_eq', lt1p, tDNewK, rSlS, rEqNil, nox_K, hb]
      refine ⟨by decide, ?_⟩
      intro p n_p; generalize g_H1 : upd H p _ = H1; obtain ⟨s_H1, h_p⟩ := new_facts n_p g_H1; clear g_H1
      have hb1 := s_H1 _ _ hb
      have et1 : tyV H1 (.ref b) = some (.type "tuple") := by rw [tyV_ref, hb1]; rfl
      try simp only [tSeq, tNext, tRet, tRetN, tAsg, gName, gSub, tDrop, tIfS, tOp, tUn, tCB, tCons, tNil, tC, tVar, rI, rI0, rU, tAnd, tOr, tNot, tAndV, tOrV, tNotV, tIf, tTest, tB, tCall, tChain, tLst, tTup, tYes, rIxH, rIsB, rIsBT, rMulS, kd_non, kd_bl, kd_int, kd_str, kd_ref, kdO_lst, kdO_tup, kdO_dK, nq_n, nq_b, nq_i, nq_s, nq_l, nq_t, nq_d, ne_eq, not_false_eq_true, kit_ss, kit_ns, kit_bs, kit_is, kit_ls, kit_ts, kit_ds, kit_bb, V.ty.injEq, and_assoc, rIxU, rLenH, rLenU, rLenS, rInt1, rSetL, rEq, rNe, rCat, L2.start, List.map, List.length, List.length_cons, List.length_nil, List.replicate, List.getElem?_cons_zero, List.getElem?_cons_succ, List.set_cons_zero, List.set_cons_succ, List.set_nil, List.cons_append, List.nil_append, List.append_nil, Option.some.injEq, V.int.injEq, V.ref.injEq, V.str.injEq, V.bl.injEq, HO.lst.injEq, HO.tup.injEq, exists_eq_left', exists_and_left, exists_eq_left, List.cons.injEq, and_true, true_and, and_false, false_and, and_self, reduceCtorEq, exists_false, or_false, false_or, exists_const, at0, at1, at2, at3, at4, at5, ix51, ix52, ix54, upd_same, Nat.reduceAdd, Nat.reduceSub, Nat.zero_add, Int.reduceToNat, Int.reduceLE, Int.reduceLT, decide_eq_true_eq, Bool.not_eq_true, if_true, if_false, Bool.false_eq_true, ite_true, ite_false, Bool.not_true, Bool.not_false, decide_true, decide_false, tFor_eq, tLc_eq, iList, iTup, iRng1, iRng2, iStr, tSl, tPart, tNoPart, rSlL, cxOf_K, wipe, ex_ty2, kit_LTl, kit_LTt, kit_LTd, kit_LTs, kit_LTn, kit_LTb, kit_LTi, tM1, rIxS, exists_eq', lt1p, tDNewK, rSlS, rEqNil, nox_K, rIsWT, clsVs_ty, clsVs_ref, clsVs_nil, Option.map_some, h_p, hb1, et1, e3, implies_true, forall_const, false_implies]
      refine ⟨⟨_, SqT.of (hb1)⟩, fun D1 nD1 => ?_⟩
      refine lc_same (walk_tup (K := K) (a := b) (xs := xs)) (fun _ => true) (fun _ => .bl true) nD1 (fun H2 s2 => SqT.of (s2 _ _ hb1)) (by omega) (fun v hv H2 s2 R R0 h1 _ => ?_) (fun H2 s2 hD1 => ?_)
      · obtain ⟨i, hi⟩ := List.mem_iff_getElem?.mp hv
        have hi' : i < ps.length := by rw [← np.len]; exact (List.getElem?_eq_some_iff.mp hi).1
        try simp only [tSeq, tNext, tRet, tRetN, tAsg, gName, gSub, tDrop, tIfS, tOp, tUn, tCB, tCons, tNil, tC, tVar, rI, rI0, rU, tAnd, tOr, tNot, tAndV, tOrV, tNotV, tIf, tTest, tB, tCall, tChain, tLst, tTup, tYes, rIxH, rIsB, rIsBT, rMulS, kd_non, kd_bl, kd_int, kd_str, kd_ref, kdO_lst, kdO_tup, kdO_dK, nq_n, nq_b, nq_i, nq_s, nq_l, nq_t, nq_d, ne_eq, not_false_eq_true, kit_ss, kit_ns, kit_bs, kit_is, kit_ls, kit_ts, kit_ds, kit_bb, V.ty.injEq, and_assoc, rIxU, rLenH, rLenU, rLenS, rInt1, rSetL, rEq, rNe, rCat, L2.start, List.map, List.length, List.length_cons, List.length_nil, List.replicate, List.getElem?_cons_zero, List.getElem?_cons_succ, List.set_cons_zero, List.set_cons_succ, List.set_nil, List.cons_append, List.nil_append, List.append_nil, Option.some.injEq, V.int.injEq, V.ref.injEq, V.str.injEq, V.bl.injEq, HO.lst.injEq, HO.tup.injEq, exists_eq_left', exists_and_left, exists_eq_left, List.cons.injEq, and_true, true_and, and_false, false_and, and_self, reduceCtorEq, exists_false, or_false, false_or, exists_const, at0, at1, at2, at3, at4, at5, ix51, ix52, ix54, upd_same, Nat.reduceAdd, Nat.reduceSub, Nat.zero_add, Int.reduceToNat, Int.reduceLE, Int.reduceLT, decide_eq_true_eq, Bool.not_eq_true, if_true, if_false, Bool.false_eq_true, ite_true, ite_false, Bool.not_true, Bool.not_false, decide_true, decide_false, tFor_eq, tLc_eq, iList, iTup, iRng1, iRng2, iStr, tSl, tPart, tNoPart, rSlL, cxOf_K, wipe, ex_ty2, kit_LTl, kit_LTt, kit_LTd, kit_LTs, kit_LTn, kit_LTb, kit_LTi, tM1, rIxS, exists_eq', lt1p, tDNewK, rSlS, rEqNil, nox_K]
        exact ⟨v, n, ps[i], rfl, ((np.same s_H1).same s2).ea i v _ hi (List.getElem?_eq_getElem hi'), ok _ (List.getElem_mem hi'), hn, fun H3 s3 => h1 H3 s3 rfl⟩
      rw [filter_all] at hD1
      have eall : (List.map (fun _ => V.bl true) xs) = (List.map (fun _ : V => true) xs).map V.bl := by rw [List.map_map]; rfl
      rw [eall] at hD1
      refine ⟨D1, _, rfl, SqL.of hD1, _, rfl, ?_⟩
      rw [show (List.map (fun _ : V => true) xs).all id = true from by simp, if_neg (by decide)]
      rw [eN]
      clear eN N
      refine seq_gen fun N eN => ?_
      have s02 := s_H1.trans s2
      have np2 := np.same s02
      try simp only [tSeq, tNext, tRet, tRetN, tAsg, gName, gSub, tDrop, tIfS, tOp, tUn, tCB, tCons, tNil, tC, tVar, rI, rI0, rU, tAnd, tOr, tNot, tAndV, tOrV, tNotV, tIf, tTest, tB, tCall, tChain, tLst, tTup, tYes, rIxH, rIsB, rIsBT, rMulS, kd_non, kd_bl, kd_int, kd_str, kd_ref, kdO_lst, kdO_tup, kdO_dK, nq_n, nq_b, nq_i, nq_s, nq_l, nq_t, nq_d, ne_eq, not_false_eq_true, kit_ss, kit_ns, kit_bs, kit_is, kit_ls, kit_ts, kit_ds, kit_bb, V.ty.injEq, and_assoc, rIxU, rLenH, rLenU, rLenS, rInt1, rSetL, rEq, rNe, rCat, L2.start, List.map, List.length, List.length_cons, List.length_nil, List.replicate, List.getElem?_cons_zero, List.getElem?_cons_succ, List.set_cons_zero, List.set_cons_succ, List.set_nil, List.cons_append, List.nil_append, List.append_nil, Option.some.injEq, V.int.injEq, V.ref.injEq, V.str.injEq, V.bl.injEq, HO.lst.injEq, HO.tup.injEq, exists_eq_left', exists_and_left, exists_eq_left, List.cons.injEq, and_true, true_and, and_false, false_and, and_self, reduceCtorEq, exists_false, or_false, false_or, exists_const, at0, at1, at2, at3, at4, at5, ix51, ix52, ix54, upd_same, Nat.reduceAdd, Nat.reduceSub, Nat.zero_add, Int.reduceToNat, Int.reduceLE, Int.reduceLT, decide_eq_true_eq, Bool.not_eq_true, if_true, if_false, Bool.false_eq_true, ite_true, ite_false, Bool.not_true, Bool.not_false, decide_true, decide_false, tFor_eq, tLc_eq, iList, iTup, iRng1, iRng2, iStr, tSl, tPart, tNoPart, rSlL, cxOf_K, wipe, ex_ty2, kit_LTl, kit_LTt, kit_LTd, kit_LTs, kit_LTn, kit_LTb, kit_LTi, tM1, rIxS, exists_eq', lt1p, tDNewK, rSlS, rEqNil, nox_K]
      refine ⟨b, xs, n, ps, rfl, .inr (SqT.of (s02 _ _ hb)), np2, as, hn, hl, fun H3 s3 => ?_⟩
      try simp only [tSeq, tNext, tRet, tRetN, tAsg, gName, gSub, tDrop, tIfS, tOp, tUn, tCB, tCons, tNil, tC, tVar, rI, rI0, rU, tAnd, tOr, tNot, tAndV, tOrV, tNotV, tIf, tTest, tB, tCall, tChain, tLst, tTup, tYes, rIxH, rIsB, rIsBT, rMulS, kd_non, kd_bl, kd_int, kd_str, kd_ref, kdO_lst, kdO_tup, kdO_dK, nq_n, nq_b, nq_i, nq_s, nq_l, nq_t, nq_d, ne_eq, not_false_eq_true, kit_ss, kit_ns, kit_bs, kit_is, kit_ls, kit_ts, kit_ds, kit_bb, V.ty.injEq, and_assoc, rIxU, rLenH, rLenU, rLenS, rInt1, rSetL, rEq, rNe, rCat, L2.start, List.map, List.length, List.length_cons, List.length_nil, List.replicate, List.getElem?_cons_zero, List.getElem?_cons_succ, List.set_cons_zero, List.set_cons_succ, List.set_nil, List.cons_append, List.nil_append, List.append_nil, Option.some.injEq, V.int.injEq, V.ref.injEq, V.str.injEq, V.bl.injEq, HO.lst.injEq, HO.tup.injEq, exists_eq_left', exists_and_left, exists_eq_left, List.cons.injEq, and_true, true_and, and_false, false_and, and_self, reduceCtorEq, exists_false, or_false, false_or, exists_const, at0, at1, at2, at3, at4, at5, ix51, ix52, ix54, upd_same, Nat.reduceAdd, Nat.reduceSub, Nat.zero_add, Int.reduceToNat, Int.reduceLE, Int.reduceLT, decide_eq_true_eq, Bool.not_eq_true, if_true, if_false, Bool.false_eq_true, ite_true, ite_false, Bool.not_true, Bool.not_false, decide_true, decide_false, tFor_eq, tLc_eq, iList, iTup, iRng1, iRng2, iStr, tSl, tPart, tNoPart, rSlL, cxOf_K, wipe, ex_ty2, kit_LTl, kit_LTt, kit_LTd, kit_LTs, kit_LTn, kit_LTb, kit_LTi, tM1, rIxS, exists_eq', lt1p, tDNewK, rSlS, rEqNil, nox_K]
      rw [eN]
      clear eN N
      have s03 := s02.trans s3
      have hb3 := s03 _ _ hb
      try simp only [tSeq, tNext, tRet, tRetN, tAsg, gName, gSub, tDrop, tIfS, tOp, tUn, tCB, tCons, tNil, tC, tVar, rI, rI0, rU, tAnd, tOr, tNot, tAndV, tOrV, tNotV, tIf, tTest, tB, tCall, tChain, tLst, tTup, tYes, rIxH, rIsB, rIsBT, rMulS, kd_non, kd_bl, kd_int, kd_str, kd_ref, kdO_lst, kdO_tup, kdO_dK, nq_n, nq_b, nq_i, nq_s, nq_l, nq_t, nq_d, ne_eq, not_false_eq_true, kit_ss, kit_ns, kit_bs, kit_is, kit_ls, kit_ts, kit_ds, kit_bb, V.ty.injEq, and_assoc, rIxU, rLenH, rLenU, rLenS, rInt1, rSetL, rEq, rNe, rCat, L2.start, List.map, List.length, List.length_cons, List.length_nil, List.replicate, List.getElem?_cons_zero, List.getElem?_cons_succ, List.set_cons_zero, List.set_cons_succ, List.set_nil, List.cons_append, List.nil_append, List.append_nil, Option.some.injEq, V.int.injEq, V.ref.injEq, V.str.injEq, V.bl.injEq, HO.lst.injEq, HO.tup.injEq, exists_eq_left', exists_and_left, exists_eq_left, List.cons.injEq, and_true, true_and, and_false, false_and, and_self, reduceCtorEq, exists_false, or_false, false_or, exists_const, at0, at1, at2, at3, at4, at5, ix51, ix52, ix54, upd_same, Nat.reduceAdd, Nat.reduceSub, Nat.zero_add, Int.reduceToNat, Int.reduceLE, Int.reduceLT, decide_eq_true_eq, Bool.not_eq_true, if_true, if_false, Bool.false_eq_true, ite_true, ite_false, Bool.not_true, Bool.not_false, decide_true, decide_false, tFor_eq, tLc_eq, iList, iTup, iRng1, iRng2, iStr, tSl, tPart, tNoPart, rSlL, cxOf_K, wipe, ex_ty2, kit_LTl, kit_LTt, kit_LTd, kit_LTs, kit_LTn, kit_LTb, kit_LTi, tM1, rIxS, exists_eq', lt1p, tDNewK, rSlS, rEqNil, nox_K, sFld]
      refine ⟨⟨_, SqT.of (hb3)⟩, fun D2 nD2 => ?_⟩
      refine lc_rel (walk_tup (K := K) (a := b) (xs := xs)) (fun j y H' => ∃ p, ps[j]? = some p ∧ RPart A.k_Ratio H' y n p) (fun j y H4 H5 s ⟨p, e, h⟩ => ⟨p, e, h.same s⟩) (fun j y H4 zs us ⟨p, e, h⟩ e2 => ⟨p, e, rpart_mut h e2⟩) nD2 (fun H4 s4 => SqT.of (s4 _ _ hb3)) (by omega) (fun j v hv H4 s4 Pk R0 pk => ?_) (fun ys H4 s4 yl hys hD2 => ?_)
      · have hi' : j < ps.length := by rw [← np.len]; exact (List.getElem?_eq_some_iff.mp hv).1
        try simp only [tSeq, tNext, tRet, tRetN, tAsg, gName, gSub, tDrop, tIfS, tOp, tUn, tCB, tCons, tNil, tC, tVar, rI, rI0, rU, tAnd, tOr, tNot, tAndV, tOrV, tNotV, tIf, tTest, tB, tCall, tChain, tLst, tTup, tYes, rIxH, rIsB, rIsBT, rMulS, kd_non, kd_bl, kd_int, kd_str, kd_ref, kdO_lst, kdO_tup, kdO_dK, nq_n, nq_b, nq_i, nq_s, nq_l, nq_t, nq_d, ne_eq, not_false_eq_true, kit_ss, kit_ns, kit_bs, kit_is, kit_ls, kit_ts, kit_ds, kit_bb, V.ty.injEq, and_assoc, rIxU, rLenH, rLenU, rLenS, rInt1, rSetL, rEq, rNe, rCat, L2.start, List.map, List.length, List.length_cons, List.length_nil, List.replicate, List.getElem?_cons_zero, List.getElem?_cons_succ, List.set_cons_zero, List.set_cons_succ, List.set_nil, List.cons_append, List.nil_append, List.append_nil, Option.some.injEq, V.int.injEq, V.ref.injEq, V.str.injEq, V.bl.injEq, HO.lst.injEq, HO.tup.injEq, exists_eq_left', exists_and_left, exists_eq_left, List.cons.injEq, and_true, true_and, and_false, false_and, and_self, reduceCtorEq, exists_false, or_false, false_or, exists_const, at0, at1, at2, at3, at4, at5, ix51, ix52, ix54, upd_same, Nat.reduceAdd, Nat.reduceSub, Nat.zero_add, Int.reduceToNat, Int.reduceLE, Int.reduceLT, decide_eq_true_eq, Bool.not_eq_true, if_true, if_false, Bool.false_eq_true, ite_true, ite_false, Bool.not_true, Bool.not_false, decide_true, decide_false, tFor_eq, tLc_eq, iList, iTup, iRng1, iRng2, iStr, tSl, tPart, tNoPart, rSlL, cxOf_K, wipe, ex_ty2, kit_LTl, kit_LTt, kit_LTd, kit_LTs, kit_LTn, kit_LTb, kit_LTi, tM1, rIxS, exists_eq', lt1p, tDNewK, rSlS, rEqNil, nox_K]
        exact ⟨v, n, ps[j], rfl, ((np.same s03).same s4).ea j v _ hv (List.getElem?_eq_getElem hi'), hn, fun H5 v' s5 hv' => pk _ _ s5 ⟨_, List.getElem?_eq_getElem hi', hv'⟩⟩
      have s04 := s03.trans s4
      have hx4 := s04 _ _ hx
      have nxD : x ≠ D2 := fun z => by rw [z, hD2] at hx4; cases hx4
      refine ⟨A.k_Ranges, dx, [], hx4, T.t_Ranges.cl, T.n_Ranges_kept_parts, by decide, ?_⟩
      have rp : RPs A.k_Ratio H4 ys n ps := ⟨by rw [yl, np.len], fun j v p h1 h2 => by
        obtain ⟨p', e, h⟩ := hys j v h1
        rw [h2] at e
        cases e
        exact h⟩
      refine k _ D2 ys (s03.free nD2) (fun c o hc e => by rw [upd_ne hc]; exact s04 _ _ e) (by rw [upd_same]; rfl) (by rw [upd_ne nxD.symm]; exact hD2) (rp.keep hx4 fun c o hc e => by rw [upd_ne hc]; exact e)
    · refine ⟨_, (pss_cons (ps_if (PW.pt (pw_or (pt_not (pt_val (pe_callB call_isKT (by rfl) T.z_isinstance (by decide +kernel) (pa_cons (pv 1) (pa_cons (pe_tup (pa_cons (pe_bltn (v := .ty "list") (by rfl) T.z_list (by decide +kernel) rfl) (pa_cons (pe_bltn (v := .ty "tuple") (by rfl) T.z_tuple (by decide +kernel) rfl) pa_nil))) pa_nil))))) (pw_or1 (pt_not (pt_val (pe_callB (cr_all rfl) (by rfl) T.z_all (by decide +kernel) (pa_cons (pe_lc (own := [("part", 2)]) (g := gName 2) (tt := tYes) (by rfl) scRangesInit.nd (pi_tup (pv 1)) (blkOk_by (own := [("part", 2)]) (N := nRangesInit) (sc := defScope sRangesInit) (by decide +kernel)) (fun _ _ _ _ _ => pg_name (i := 2) scRangesInit.nd rfl (Or.inl rfl)) (fun _ _ _ _ _ => pts_nil) (fun _ _ _ _ _ => (pe_call gIsRange (hr.mono (by decide)) (by rfl) T.m_IsRange T.f_IsRange.kp T.b_IsRange .nil pass0 (pa_cons (pv 2) pa_nil)))) pa_nil))))))) (pss_one ps_never) pss_nil)
      (pss_cons (ps_if (pt_not (pt_val (pe_call gAscend (hr.mono (by decide)) (by rfl) T.m_Ascend T.f_Ascend.kp T.b_Ascend .nil pass0 (pa_cons (pv 1) pa_nil)))) (pss_one ps_never) pss_nil)
      (pss_one (ps_fld (pv 0) (pe_lc (own := [("part", 2)]) (g := gName 2) (tt := tYes) (by rfl) scRangesInit.nd (pi_tup (pv 1)) (blkOk_by (own := [("part", 2)]) (N := nRangesInit) (sc := defScope sRangesInit) (by decide +kernel)) (fun _ _ _ _ _ => pg_name (i := 2) scRangesInit.nd rfl (Or.inl rfl)) (fun _ _ _ _ _ => pts_nil) (fun _ _ _ _ _ => (pe_call gInRatios (hr.mono (by decide)) (by rfl) T.m_InRatios T.f_InRatios.kp T.b_InRatios .nil pass0 (pa_cons (pv 2) pa_nil)))) rfl)))), ?_⟩
      refine seq_gen fun N eN => ?_
      try simp only [tSeq, tNext, tRet, tRetN, tAsg, gName, gSub, tDrop, tIfS, tOp, tUn, tCB, tCons, tNil, tC, tVar, rI, rI0, rU, tAnd, tOr, tNot, tAndV, tOrV, tNotV, tIf, tTest, tB, tCall, tChain, tLst, tTup, tYes, rIxH, rIsB, rIsBT, rMulS, kd_non, kd_bl, kd_int, kd_str, kd_ref, kdO_lst, kdO_tup, kdO_dK, nq_n, nq_b, nq_i, nq_s, nq_l, nq_t, nq_d, ne_eq, not_false_eq_true, kit_ss, kit_ns, kit_bs, kit_is, kit_ls, kit_ts, kit_ds, kit_bb, V.ty.injEq, and_assoc, rIxU, rLenH, rLenU, rLenS, rInt1, rSetL, rEq, rNe, rCat, L2.start, List.map, List.length, List.length_cons, List.length_nil, List.replicate, List.getElem?_cons_zero, List.getElem?_cons_succ, List.set_cons_zero, List.set_cons_succ, List.set_nil, List.cons_append, List.nil_append, List.append_nil, Option.some.injEq, V.int.injEq, V.ref.injEq, V.str.injEq, V.bl.injEq, HO.lst.injEq, HO.tup.injEq, exists_eq_left', exists_and_left, exists_eq_left, List.cons.injEq, and_true, true_and, and_false, false_and, and_self, reduceCtorEq, exists_false, or_false, false_or, exists_const, at0, at1, at2, at3, at4, at5, ix51, ix52, ix54, upd_same, Nat.reduceAdd, Nat.reduceSub, Nat.zero_add, Int.reduceToNat, Int.reduceLE, Int.reduceLT, decide_eq_true_eq, Bool.not_eq_true, if_true, if_false, Bool.false_eq_true, ite_true, ite_false, Bool.not_true, Bool.not_false, decide_true, decide_false, tFor_eq, tLc_eq, iList, iTup, iRng1, iRng2, iStr, tSl, tPart, tNoPart, rSlL, cxOf_K, wipe, ex_ty2, kit_LTl, kit_LTt, kit_LTd, kit_LTs, kit_LTn, kit_LTb, kit_LTi, tM1, rIxS, exists_eq', lt1p, tDNewK, rSlS, rEqNil, nox_K, rIsKT]
      refine ⟨by decide, ?_⟩
      intro p n_p; generalize g_H1 : upd H p _ = H1; obtain ⟨s_H1, h_p⟩ := new_facts n_p g_H1; clear g_H1
      obtain ⟨sq, o, ho1, ho2⟩ := kt
      try simp only [tSeq, tNext, tRet, tRetN, tAsg, gName, gSub, tDrop, tIfS, tOp, tUn, tCB, tCons, tNil, tC, tVar, rI, rI0, rU, tAnd, tOr, tNot, tAndV, tOrV, tNotV, tIf, tTest, tB, tCall, tChain, tLst, tTup, tYes, rIxH, rIsB, rIsBT, rMulS, kd_non, kd_bl, kd_int, kd_str, kd_ref, kdO_lst, kdO_tup, kdO_dK, nq_n, nq_b, nq_i, nq_s, nq_l, nq_t, nq_d, ne_eq, not_false_eq_true, kit_ss, kit_ns, kit_bs, kit_is, kit_ls, kit_ts, kit_ds, kit_bb, V.ty.injEq, and_assoc, rIxU, rLenH, rLenU, rLenS, rInt1, rSetL, rEq, rNe, rCat, L2.start, List.map, List.length, List.length_cons, List.length_nil, List.replicate, List.getElem?_cons_zero, List.getElem?_cons_succ, List.set_cons_zero, List.set_cons_succ, List.set_nil, List.cons_append, List.nil_append, List.append_nil, Option.some.injEq, V.int.injEq, V.ref.injEq, V.str.injEq, V.bl.injEq, HO.lst.injEq, HO.tup.injEq, exists_eq_left', exists_and_left, exists_eq_left, List.cons.injEq, and_true, true_and, and_false, false_and, and_self, reduceCtorEq, exists_false, or_false, false_or, exists_const, at0, at1, at2, at3, at4, at5, ix51, ix52, ix54, upd_same, Nat.reduceAdd, Nat.reduceSub, Nat.zero_add, Int.reduceToNat, Int.reduceLE, Int.reduceLT, decide_eq_true_eq, Bool.not_eq_true, if_true, if_false, Bool.false_eq_true, ite_true, ite_false, Bool.not_true, Bool.not_false, decide_true, decide_false, tFor_eq, tLc_eq, iList, iTup, iRng1, iRng2, iStr, tSl, tPart, tNoPart, rSlL, cxOf_K, wipe, ex_ty2, kit_LTl, kit_LTt, kit_LTd, kit_LTs, kit_LTn, kit_LTb, kit_LTi, tM1, rIxS, exists_eq', lt1p, tDNewK, rSlS, rEqNil, h_p]
      refine ⟨true, o, ho1, ho2, rfl, ?_⟩
      rw [if_neg (by decide)]
      refine ⟨⟨_, sq _⟩, fun D1 nD1 => ?_⟩
      refine lc_same (walk_tup (K := K) (a := b) (xs := [])) (fun _ => true) (fun _ => .bl true) nD1 (fun H2 s2 => sq _) (by omega) (fun v hv H2 s2 R R0 h1 _ => ?_) (fun H2 s2 hD1 => ?_)
      · obtain ⟨i, hi⟩ := List.mem_iff_getElem?.mp hv
        have hi' : i < ps.length := by rw [← np.len]; exact (List.getElem?_eq_some_iff.mp hi).1
        try simp only [tSeq, tNext, tRet, tRetN, tAsg, gName, gSub, tDrop, tIfS, tOp, tUn, tCB, tCons, tNil, tC, tVar, rI, rI0, rU, tAnd, tOr, tNot, tAndV, tOrV, tNotV, tIf, tTest, tB, tCall, tChain, tLst, tTup, tYes, rIxH, rIsB, rIsBT, rMulS, kd_non, kd_bl, kd_int, kd_str, kd_ref, kdO_lst, kdO_tup, kdO_dK, nq_n, nq_b, nq_i, nq_s, nq_l, nq_t, nq_d, ne_eq, not_false_eq_true, kit_ss, kit_ns, kit_bs, kit_is, kit_ls, kit_ts, kit_ds, kit_bb, V.ty.injEq, and_assoc, rIxU, rLenH, rLenU, rLenS, rInt1, rSetL, rEq, rNe, rCat, L2.start, List.map, List.length, List.length_cons, List.length_nil, List.replicate, List.getElem?_cons_zero, List.getElem?_cons_succ, List.set_cons_zero, List.set_cons_succ, List.set_nil, List.cons_append, List.nil_append, List.append_nil, Option.some.injEq, V.int.injEq, V.ref.injEq, V.str.injEq, V.bl.injEq, HO.lst.injEq, HO.tup.injEq, exists_eq_left', exists_and_left, exists_eq_left, List.cons.injEq, and_true, true_and, and_false, false_and, and_self, reduceCtorEq, exists_false, or_false, false_or, exists_const, at0, at1, at2, at3, at4, at5, ix51, ix52, ix54, upd_same, Nat.reduceAdd, Nat.reduceSub, Nat.zero_add, Int.reduceToNat, Int.reduceLE, Int.reduceLT, decide_eq_true_eq, Bool.not_eq_true, if_true, if_false, Bool.false_eq_true, ite_true, ite_false, Bool.not_true, Bool.not_false, decide_true, decide_false, tFor_eq, tLc_eq, iList, iTup, iRng1, iRng2, iStr, tSl, tPart, tNoPart, rSlL, cxOf_K, wipe, ex_ty2, kit_LTl, kit_LTt, kit_LTd, kit_LTs, kit_LTn, kit_LTb, kit_LTi, tM1, rIxS, exists_eq', lt1p, tDNewK, rSlS, rEqNil, nox_K]
        exact ⟨v, n, ps[i], rfl, ((np.same s_H1).same s2).ea i v _ hi (List.getElem?_eq_getElem hi'), ok _ (List.getElem_mem hi'), hn, fun H3 s3 => h1 H3 s3 rfl⟩
      rw [filter_all] at hD1
      have eall : (List.map (fun _ => V.bl true) ([] : List V)) = (List.map (fun _ : V => true) []).map V.bl := by rw [List.map_map]; rfl
      rw [eall] at hD1
      refine ⟨D1, _, rfl, SqL.of hD1, _, rfl, ?_⟩
      rw [show (List.map (fun _ : V => true) []).all id = true from by simp, if_neg (by decide)]
      rw [eN]
      clear eN N
      refine seq_gen fun N eN => ?_
      have s02 := s_H1.trans s2
      have np2 := np.same s02
      try simp only [tSeq, tNext, tRet, tRetN, tAsg, gName, gSub, tDrop, tIfS, tOp, tUn, tCB, tCons, tNil, tC, tVar, rI, rI0, rU, tAnd, tOr, tNot, tAndV, tOrV, tNotV, tIf, tTest, tB, tCall, tChain, tLst, tTup, tYes, rIxH, rIsB, rIsBT, rMulS, kd_non, kd_bl, kd_int, kd_str, kd_ref, kdO_lst, kdO_tup, kdO_dK, nq_n, nq_b, nq_i, nq_s, nq_l, nq_t, nq_d, ne_eq, not_false_eq_true, kit_ss, kit_ns, kit_bs, kit_is, kit_ls, kit_ts, kit_ds, kit_bb, V.ty.injEq, and_assoc, rIxU, rLenH, rLenU, rLenS, rInt1, rSetL, rEq, rNe, rCat, L2.start, List.map, List.length, List.length_cons, List.length_nil, List.replicate, List.getElem?_cons_zero, List.getElem?_cons_succ, List.set_cons_zero, List.set_cons_succ, List.set_nil, List.cons_append, List.nil_append, List.append_nil, Option.some.injEq, V.int.injEq, V.ref.injEq, V.str.injEq, V.bl.injEq, HO.lst.injEq, HO.tup.injEq, exists_eq_left', exists_and_left, exists_eq_left, List.cons.injEq, and_true, true_and, and_false, false_and, and_self, reduceCtorEq, exists_false, or_false, false_or, exists_const, at0, at1, at2, at3, at4, at5, ix51, ix52, ix54, upd_same, Nat.reduceAdd, Nat.reduceSub, Nat.zero_add, Int.reduceToNat, Int.reduceLE, Int.reduceLT, decide_eq_true_eq, Bool.not_eq_true, if_true, if_false, Bool.false_eq_true, ite_true, ite_false, Bool.not_true, Bool.not_false, decide_true, decide_false, tFor_eq, tLc_eq, iList, iTup, iRng1, iRng2, iStr, tSl, tPart, tNoPart, rSlL, cxOf_K, wipe, ex_ty2, kit_LTl, kit_LTt, kit_LTd, kit_LTs, kit_LTn, kit_LTb, kit_LTi, tM1, rIxS, exists_eq', lt1p, tDNewK, rSlS, rEqNil, nox_K]
      refine ⟨b, [], n, ps, rfl, .inr (sq _), np2, as, hn, hl, fun H3 s3 => ?_⟩
      try simp only [tSeq, tNext, tRet, tRetN, tAsg, gName, gSub, tDrop, tIfS, tOp, tUn, tCB, tCons, tNil, tC, tVar, rI, rI0, rU, tAnd, tOr, tNot, tAndV, tOrV, tNotV, tIf, tTest, tB, tCall, tChain, tLst, tTup, tYes, rIxH, rIsB, rIsBT, rMulS, kd_non, kd_bl, kd_int, kd_str, kd_ref, kdO_lst, kdO_tup, kdO_dK, nq_n, nq_b, nq_i, nq_s, nq_l, nq_t, nq_d, ne_eq, not_false_eq_true, kit_ss, kit_ns, kit_bs, kit_is, kit_ls, kit_ts, kit_ds, kit_bb, V.ty.injEq, and_assoc, rIxU, rLenH, rLenU, rLenS, rInt1, rSetL, rEq, rNe, rCat, L2.start, List.map, List.length, List.length_cons, List.length_nil, List.replicate, List.getElem?_cons_zero, List.getElem?_cons_succ, List.set_cons_zero, List.set_cons_succ, List.set_nil, List.cons_append, List.nil_append, List.append_nil, Option.some.injEq, V.int.injEq, V.ref.injEq, V.str.injEq, V.bl.injEq, HO.lst.injEq, HO.tup.injEq, exists_eq_left', exists_and_left, exists_eq_left, List.cons.injEq, and_true, true_and, and_false, false_and, and_self, reduceCtorEq, exists_false, or_false, false_or, exists_const, at0, at1, at2, at3, at4, at5, ix51, ix52, ix54, upd_same, Nat.reduceAdd, Nat.reduceSub, Nat.zero_add, Int.reduceToNat, Int.reduceLE, Int.reduceLT, decide_eq_true_eq, Bool.not_eq_true, if_true, if_false, Bool.false_eq_true, ite_true, ite_false, Bool.not_true, Bool.not_false, decide_true, decide_false, tFor_eq, tLc_eq, iList, iTup, iRng1, iRng2, iStr, tSl, tPart, tNoPart, rSlL, cxOf_K, wipe, ex_ty2, kit_LTl, kit_LTt, kit_LTd, kit_LTs, kit_LTn, kit_LTb, kit_LTi, tM1, rIxS, exists_eq', lt1p, tDNewK, rSlS, rEqNil, nox_K]
      rw [eN]
      clear eN N
      have s03 := s02.trans s3
      try simp only [tSeq, tNext, tRet, tRetN, tAsg, gName, gSub, tDrop, tIfS, tOp, tUn, tCB, tCons, tNil, tC, tVar, rI, rI0, rU, tAnd, tOr, tNot, tAndV, tOrV, tNotV, tIf, tTest, tB, tCall, tChain, tLst, tTup, tYes, rIxH, rIsB, rIsBT, rMulS, kd_non, kd_bl, kd_int, kd_str, kd_ref, kdO_lst, kdO_tup, kdO_dK, nq_n, nq_b, nq_i, nq_s, nq_l, nq_t, nq_d, ne_eq, not_false_eq_true, kit_ss, kit_ns, kit_bs, kit_is, kit_ls, kit_ts, kit_ds, kit_bb, V.ty.injEq, and_assoc, rIxU, rLenH, rLenU, rLenS, rInt1, rSetL, rEq, rNe, rCat, L2.start, List.map, List.length, List.length_cons, List.length_nil, List.replicate, List.getElem?_cons_zero, List.getElem?_cons_succ, List.set_cons_zero, List.set_cons_succ, List.set_nil, List.cons_append, List.nil_append, List.append_nil, Option.some.injEq, V.int.injEq, V.ref.injEq, V.str.injEq, V.bl.injEq, HO.lst.injEq, HO.tup.injEq, exists_eq_left', exists_and_left, exists_eq_left, List.cons.injEq, and_true, true_and, and_false, false_and, and_self, reduceCtorEq, exists_false, or_false, false_or, exists_const, at0, at1, at2, at3, at4, at5, ix51, ix52, ix54, upd_same, Nat.reduceAdd, Nat.reduceSub, Nat.zero_add, Int.reduceToNat, Int.reduceLE, Int.reduceLT, decide_eq_true_eq, Bool.not_eq_true, if_true, if_false, Bool.false_eq_true, ite_true, ite_false, Bool.not_true, Bool.not_false, decide_true, decide_false, tFor_eq, tLc_eq, iList, iTup, iRng1, iRng2, iStr, tSl, tPart, tNoPart, rSlL, cxOf_K, wipe, ex_ty2, kit_LTl, kit_LTt, kit_LTd, kit_LTs, kit_LTn, kit_LTb, kit_LTi, tM1, rIxS, exists_eq', lt1p, tDNewK, rSlS, rEqNil, nox_K, sFld]
      refine ⟨⟨_, sq _⟩, fun D2 nD2 => ?_⟩
      refine lc_rel (walk_tup (K := K) (a := b) (xs := [])) (fun j y H' => ∃ p, ps[j]? = some p ∧ RPart A.k_Ratio H' y n p) (fun j y H4 H5 s ⟨p, e, h⟩ => ⟨p, e, h.same s⟩) (fun j y H4 zs us ⟨p, e, h⟩ e2 => ⟨p, e, rpart_mut h e2⟩) nD2 (fun H4 s4 => sq _) (by omega) (fun j v hv H4 s4 Pk R0 pk => ?_) (fun ys H4 s4 yl hys hD2 => ?_)
      · have hi' : j < ps.length := by rw [← np.len]; exact (List.getElem?_eq_some_iff.mp hv).1
        try simp only [tSeq, tNext, tRet, tRetN, tAsg, gName, gSub, tDrop, tIfS, tOp, tUn, tCB, tCons, tNil, tC, tVar, rI, rI0, rU, tAnd, tOr, tNot, tAndV, tOrV, tNotV, tIf, tTest, tB, tCall, tChain, tLst, tTup, tYes, rIxH, rIsB, rIsBT, rMulS, kd_non, kd_bl, kd_int, kd_str, kd_ref, kdO_lst, kdO_tup, kdO_dK, nq_n, nq_b, nq_i, nq_s, nq_l, nq_t, nq_d, ne_eq, not_false_eq_true, kit_ss, kit_ns, kit_bs, kit_is, kit_ls, kit_ts, kit_ds, kit_bb, V.ty.injEq, and_assoc, rIxU, rLenH, rLenU, rLenS, rInt1, rSetL, rEq, rNe, rCat, L2.start, List.map, List.length, List.length_cons, List.length_nil, List.replicate, List.getElem?_cons_zero, List.getElem?_cons_succ, List.set_cons_zero, List.set_cons_succ, List.set_nil, List.cons_append, List.nil_append, List.append_nil, Option.some.injEq, V.int.injEq, V.ref.injEq, V.str.injEq, V.bl.injEq, HO.lst.injEq, HO.tup.injEq, exists_eq_left', exists_and_left, exists_eq_left, List.cons.injEq, and_true, true_and, and_false, false_and, and_self, reduceCtorEq, exists_false, or_false, false_or, exists_const, at0, at1, at2, at3, at4, at5, ix51, ix52, ix54, upd_same, Nat.reduceAdd, Nat.reduceSub, Nat.zero_add, Int.reduceToNat, Int.reduceLE, Int.reduceLT, decide_eq_true_eq, Bool.not_eq_true, if_true, if_false, Bool.false_eq_true, ite_true, ite_false, Bool.not_true, Bool.not_false, decide_true, decide_false, tFor_eq, tLc_eq, iList, iTup, iRng1, iRng2, iStr, tSl, tPart, tNoPart, rSlL, cxOf_K, wipe, ex_ty2, kit_LTl, kit_LTt, kit_LTd, kit_LTs, kit_LTn, kit_LTb, kit_LTi, tM1, rIxS, exists_eq', lt1p, tDNewK, rSlS, rEqNil, nox_K]
        exact ⟨v, n, ps[j], rfl, ((np.same s03).same s4).ea j v _ hv (List.getElem?_eq_getElem hi'), hn, fun H5 v' s5 hv' => pk _ _ s5 ⟨_, List.getElem?_eq_getElem hi', hv'⟩⟩
      have s04 := s03.trans s4
      have hx4 := s04 _ _ hx
      have nxD : x ≠ D2 := fun z => by rw [z, hD2] at hx4; cases hx4
      refine ⟨A.k_Ranges, dx, [], hx4, T.t_Ranges.cl, T.n_Ranges_kept_parts, by decide, ?_⟩
      have rp : RPs A.k_Ratio H4 ys n ps := ⟨by rw [yl, np.len], fun j v p h1 h2 => by
        obtain ⟨p', e, h⟩ := hys j v h1
        rw [h2] at e
        cases e
        exact h⟩
      refine k _ D2 ys (s03.free nD2) (fun c o hc e => by rw [upd_ne hc]; exact s04 _ _ e) (by rw [upd_same]; rfl) (by rw [upd_ne nxD.symm]; exact hD2) (rp.keep hx4 fun c o hc e => by rw [upd_ne hc]; exact e)
end



/-! ### == of lists of parts -/
theorem rat_inj {C : Addr} {H : Hp} {x : V} {p q : Rat} {n m : Nat} (h1 : RatAt C H x p n) (h2 : NumAt C H x q m) : p = q := by
  obtain ⟨⟨a, dx, rfl, e1⟩, _⟩ := h1
  rcases h2 with ⟨⟨b, dy, e, e2⟩, _⟩ | ⟨⟨i, e, _⟩, _⟩
  · cases e
    rw [e1] at e2
    have e3 := Option.some.inj e2
    injection e3 with _ _ z
    have z1 : (rf p).lookup ("kept_top" : Str) = (rf q).lookup ("kept_top" : Str) := by rw [z]
    have z2 : (rf p).lookup ("kept_bottom" : Str) = (rf q).lookup ("kept_bottom" : Str) := by rw [z]
    rw [rf_top, rf_top] at z1
    rw [rf_bot, rf_bot] at z2
    injection z1 with z1
    injection z1 with z1
    injection z2 with z2
    injection z2 with z2
    exact Rat.ext z1 (by omega)
  · cases e
section
variable {K : PySem.W.Frag} {C : Addr} {E : XK}
def rRat (K : PySem.W.Frag) (C : Addr) (E : XK) : R2 := rOwnA K C (spCmpA C (fun p q => decide (p = q)) false) E
structure NFs (K : PySem.W.Frag) (C : Addr) : Prop where
  i : PySem.W.notFirst K C (.type "int") = true
  n : PySem.W.notFirst K C (.type "NoneType") = true
theorem rat_eq (nf : NFs K C) {H : Hp} {x y : V} {p q : Rat} {n m : Nat} {k : Nat} (h1 : RatAt C H x p n) (h2 : NumAt C H y q m) (hn : n + m ≤ 9000) {Q : VK} (kk : ∀ H', Same H H' → Q (.bl (decide (p = q))) H') : eqS K (rRat K C E) (k + 1) x y H Q := by
  unfold eqS
  obtain ⟨⟨a, dx, rfl, ha⟩, bd⟩ := id h1
  by_cases e : y = .ref a
  · subst e
    have e2 := rat_inj h1 h2
    rw [decide_eq_true e2] at kk
    exact .inl ⟨a, rfl, rfl, kk H (Same.refl _)⟩
  · refine .inr (.inr (.inr ⟨a, rfl, e, a, dx, rf p, ?_⟩))
    rcases id h2 with ⟨⟨b, dy, rfl, hb⟩, _⟩ | ⟨⟨i, rfl, _⟩, _⟩
    · exact ⟨.ref C, rfl, ha, by rw [tyV_ref, hb]; rfl, notFirst_self, .inl ⟨_, _, p, q, n, m, rfl, h1, h2, hn, fun H' s => ⟨s, _, rfl, kk H' s⟩⟩⟩
    · exact ⟨.type "int", rfl, ha, rfl, nf.i, .inl ⟨_, _, p, q, n, m, rfl, h1, h2, hn, fun H' s => ⟨s, _, rfl, kk H' s⟩⟩⟩
theorem rat_none (nf : NFs K C) {H : Hp} {x : V} {p : Rat} {n k : Nat} (h1 : RatAt C H x p n) {Q : VK} (kk : Q (.bl false) H) : eqS K (rRat K C E) (k + 1) x .non H Q := by
  unfold eqS
  obtain ⟨⟨a, dx, rfl, ha⟩, bd⟩ := id h1
  exact .inr (.inr (.inr ⟨a, rfl, (fun z => by cases z), a, dx, _, .type "NoneType", rfl, ha, rfl, nf.n, .inr ⟨_, _, .type "NoneType", rfl, rfl, by simp [tys], by decide, (fun z => by cases z), Same.refl _, _, rfl, kk⟩⟩))
theorem hi_eq (nf : NFs K C) {H : Hp} {x y : V} {p q : Option Rat} {n m k : Nat} (h1 : RHi C H x n p) (h2 : NHi C H y m q) (hn : n + m ≤ 9000) (hc : p = none → q = none) {Q : VK} (kk : ∀ H', Same H H' → Q (.bl (decide (p = q))) H') : eqS K (rRat K C E) (k + 1) x y H Q := by
  cases p with
  | none =>
    have e := hc rfl
    subst e
    have e1 : x = .non := h1
    have e2 : y = .non := h2
    subst e1 e2
    unfold eqS
    exact .inr (.inl ⟨rfl, (fun b z => by cases z), kk H (Same.refl _)⟩)
  | some p =>
    cases q with
    | none =>
      have e2 : y = .non := h2
      subst e2
      exact rat_none nf h1 (kk H (Same.refl _))
    | some q =>
      refine rat_eq nf h1 h2 hn fun H' s => ?_
      have e : decide (p = q) = decide (some p = some q) := decide_eq_decide.mpr (by rw [Option.some.injEq])
      rw [e]
      exact kk H' s
theorem part_eq (nf : NFs K C) {H : Hp} {x y : V} {p q : Pt} {n m k : Nat} (h1 : RPart C H x n p) (h2 : NPart C H y m q) (hn : n + m ≤ 9000) (hc : p.1 = q.1 → p.2 = none → q.2 = none) {Q : VK} (kk : ∀ H', Same H H' → Q (.bl (decide (p = q))) H') : eqS K (rRat K C E) (k + 2) x y H Q := by
  obtain ⟨t, x1, x2, rfl, ht, r1, r2⟩ := h1
  obtain ⟨u, y1, y2, rfl, hu, s1, s2⟩ := h2
  obtain ⟨p1, p2⟩ := p
  obtain ⟨q1, q2⟩ := q
  unfold eqS
  by_cases e : t = u
  · subst e
    rw [ht] at hu
    cases hu
    have e1 : p1 = q1 := rat_inj r1 s1
    have e2 : p2 = q2 := by
      cases p2 with
      | none => exact (hc e1 rfl).symm
      | some p2 =>
        cases q2 with
        | none =>
          have z : x2 = .non := s2
          subst z
          obtain ⟨⟨a, dx, z, _⟩, _⟩ := r2
          cases z
        | some q2 => exact congrArg some (rat_inj r2 s2)
    rw [decide_eq_true (by rw [e1, e2])] at kk
    exact .inl ⟨t, rfl, rfl, kk H (Same.refl _)⟩
  · refine .inr (.inr (.inl ⟨t, u, rfl, rfl, e, [x1, x2], [y1, y2], .inl ⟨SqT.of ht, SqT.of hu, ?_⟩⟩))
    refine rat_eq nf r1 s1 hn fun H1 s01 => ⟨s01, ?_⟩
    by_cases e1 : p1 = q1
    · rw [decide_eq_true e1]
      refine .inl ⟨rfl, hi_eq nf (r2.same s01) (s2.same s01) hn (hc e1) fun H2 s02 => ⟨s02, ?_⟩⟩
      by_cases e2 : p2 = q2
      · rw [decide_eq_true e2]
        have z := kk H2 (s01.trans s02)
        rw [decide_eq_true (by rw [e1, e2])] at z
        exact .inl ⟨rfl, z⟩
      · rw [decide_eq_false e2]
        have z := kk H2 (s01.trans s02)
        rw [decide_eq_false (fun w => e2 (by cases w; rfl))] at z
        exact .inr ⟨rfl, z⟩
    · rw [decide_eq_false e1]
      have z := kk H1 s01
      rw [decide_eq_false (fun w => e1 (by cases w; rfl))] at z
      exact .inr ⟨rfl, z⟩
theorem parts_eq (nf : NFs K C) {n m k : Nat} (hn : n + m ≤ 9000) : ∀ {xs ys : List V} {ps qs : List Pt} {H : Hp} {Q : VK}, RPs C H xs n ps → NPs C H ys m qs → (∀ (i : Nat) (p q : Pt), ps[i]? = some p → qs[i]? = some q → p.1 = q.1 → p.2 = none → q.2 = none) → (∀ H', Same H H' → Q (.bl (decide (ps = qs))) H') → eqSs (eqS K (rRat K C E) (k + 2)) xs ys H Q
  | [], [], [], [], H, Q, _, _, _, kk => by have z := kk H (Same.refl _); rw [decide_eq_true rfl] at z; exact z
  | [], y :: ys, [], q :: qs, H, Q, _, _, _, kk => by have z := kk H (Same.refl _); rw [decide_eq_false (fun w => by cases w)] at z; exact z
  | x :: xs, [], p :: ps, [], H, Q, _, _, _, kk => by have z := kk H (Same.refl _); rw [decide_eq_false (fun w => by cases w)] at z; exact z
  | x :: xs, y :: ys, p :: ps, q :: qs, H, Q, h1, h2, hc, kk => by
    unfold eqSs
    refine part_eq nf (h1.ea 0 x p rfl rfl) (h2.ea 0 y q rfl rfl) hn (hc 0 p q rfl rfl) fun H1 s1 => ⟨s1, ?_⟩
    by_cases e : p = q
    · rw [decide_eq_true e]
      refine .inl ⟨rfl, parts_eq nf hn (ps := ps) (qs := qs) ⟨Nat.succ.inj h1.len, fun i v p e1 e2 => (h1.ea (i + 1) v p e1 e2).same s1⟩ ⟨Nat.succ.inj h2.len, fun i v p e1 e2 => (h2.ea (i + 1) v p e1 e2).same s1⟩ (fun i p q e1 e2 => hc (i + 1) p q e1 e2) fun H2 s2 => ?_⟩
      have z := kk H2 (s1.trans s2)
      have ez : decide (p :: ps = q :: qs) = decide (ps = qs) := decide_eq_decide.mpr (by rw [e]; simp)
      rw [ez] at z
      exact z
    · rw [decide_eq_false e]
      have z := kk H1 s1
      rw [decide_eq_false (fun w => e (by cases w; rfl))] at z
      exact .inr ⟨rfl, z⟩
  | [], _, _ :: _, _, _, _, h1, _, _, _ => by have := h1.len; cases this
  | _ :: _, _, [], _, _, _, h1, _, _, _ => by have := h1.len; cases this
  | _, [], _, _ :: _, _, _, _, h2, _, _ => by have := h2.len; cases this
  | _, _ :: _, _, [], _, _, _, h2, _, _ => by have := h2.len; cases this
/-- two lists of parts -/
theorem lists_eq (nf : NFs K C) {n m k : Nat} (hn : n + m ≤ 9000) {a b : Addr} {xs ys : List V} {ps qs : List Pt} {H : Hp} {Q : VK} (ha : H a = some (.lst xs)) (hb : H b = some (.lst ys)) (h1 : RPs C H xs n ps) (h2 : NPs C H ys m qs) (hc : ∀ (i : Nat) (p q : Pt), ps.length = qs.length → ps[i]? = some p → qs[i]? = some q → p.1 = q.1 → p.2 = none → q.2 = none) (kk : ∀ H', Same H H' → Q (.bl (decide (ps = qs))) H') : seqS K (eqS K (rRat K C E) (k + 2)) a b H Q := by
  refine ⟨xs, ys, .inr ⟨SqL.of ha, SqL.of hb, ?_⟩⟩
  by_cases e : xs.length = ys.length
  · exact .inr ⟨e, parts_eq nf hn h1 h2 (fun i p q e1 e2 => hc i p q (by rw [← h1.len, ← h2.len, e]) e1 e2) kk⟩
  · have z := kk H (Same.refl _)
    rw [decide_eq_false (fun w => e (by rw [h1.len, h2.len, w]))] at z
    exact .inl ⟨e, z⟩
end



/-! ### what Ranges tells -/
theorem own_same {C : Addr} {H1 : Hp} {x dx : Addr} (nx : H1 x = none) (nd : H1 dx = none) : Same H1 (upd (upd H1 dx (.own x)) x (.ins C dx [])) := fun c o hc => by
  have c1 : c ≠ x := fun z => by rw [z, nx] at hc; cases hc
  have c2 : c ≠ dx := fun z => by rw [z, nd] at hc; cases hc
  rw [upd_ne c1, upd_ne c2]
  exact hc
theorem rg_yes {K : PySem.W.Frag} {CG C : Addr} {dvs vs : List V} {E : XK} {H : Hp} {Q : VK} {b : Addr} {xs : List V} {n : Nat} {ps : List Pt} (hv : vs ++ dvs = [.ref b]) (hb : GvAt K H b xs) (np : NPs C H xs n ps) (ok : ∀ p ∈ ps, Okp p) (as : AscP ps) (hn : n ≤ 4000) (hl : xs.length ≤ 1000)
    (k : ∀ H' g dx kk ys, Same H H' → H g = none → H kk = none → H' g = some (.ins CG dx (gF kk)) → H' kk = some (.lst ys) → RPs C H' ys n ps → Q (.ref g) H') : mkGo CG (spRg K CG C) dvs E vs H Q := by
  intro x dx nx nd ne
  have sm := own_same (C := CG) nx nd
  rw [hv]
  refine ⟨x, dx, b, xs, n, ps, rfl, upd_same, hb.imp (sm _ _) (Or.imp_left (sm _ _)), np.same sm, ok, as, hn, hl, fun H' kk ys nk kp hx hk rp => ⟨rfl, k H' x dx kk ys (fun c o hc => ?_) nx (sm.free nk) hx hk rp⟩⟩
  exact kp c o (fun z => by rw [z, nx] at hc; cases hc) (sm c o hc)
theorem num_cmp2 {C : Addr} {H : Hp} {x y : V} {p q : Rat} {n m : Nat} {E E' : XK} {r r' : Rat → Rat → Bool} (hx : NumAt C H x p n) (hy : RatAt C H y q m) (hn : n + m ≤ 9000) (hr : r' q p = r p q) {Q : VK}
    (k : ∀ H', Same H H' → Q (.bl (r p q)) H') : rOr (rOwn C (spCmp C r) E) (rOwnI C (spCmp C r') E') x y H Q := by
  rcases hx with hx | ⟨⟨i, rfl, ep⟩, bx⟩
  · obtain ⟨⟨a, dx, rfl, ha⟩, _⟩ := id hx
    exact .inl ⟨a, dx, _, rfl, ha, (NumAt.own (.inl hy)), _, _, p, q, n, m, rfl, hx, .inl hy, hn, k⟩
  · obtain ⟨⟨a, dx, rfl, ha⟩, _⟩ := id hy
    refine .inr ⟨i, a, dx, _, rfl, rfl, ha, _, _, q, p, m, n, rfl, hy, .inr ⟨⟨i, rfl, ep⟩, bx⟩, by omega, fun H4 s4 => ?_⟩
    show Q (.bl (r' q p)) H4
    rw [hr]
    exact k H4 s4
def hiOk (q : Rat) : Option Rat → Bool
  | none => true
  | some h => decide (q ≤ h)
def inP (q : Rat) (p : Pt) : Bool := decide (p.1 ≤ q) && hiOk q p.2
def holdsV (ps : List Pt) (q : Rat) : Bool := decide (0 < q) && ps.any (inP q)
def spTop (C : Addr) : Sp := fun vs H Q _ => ∃ x p n, vs = [x] ∧ RatAt C H x p n ∧ Q (.int p.num) H
def spBot (C : Addr) : Sp := fun vs H Q _ => ∃ x p n, vs = [x] ∧ RatAt C H x p n ∧ Q (.int p.den) H
def spMidN (C : Addr) : Sp := fun vs H Q _ => ∃ x y p q n m, vs = [x, y] ∧ NumAt C H x p n ∧ NumAt C H y q m ∧ n + m + 10 ≤ 9000 ∧ ∀ H' v, Same H H' → RatAt C H' v ((p + q) / 2) (n + m + 4) → Q v H'
def spParts (CG : Addr) : Sp := fun vs H Q _ => ∃ g dx k xs, vs = [.ref g] ∧ H g = some (.ins CG dx (gF k)) ∧ H k = some (.lst xs) ∧ ∀ t, H t = none → Q (.ref t) (upd H t (.tup xs))
def spGLen (CG : Addr) : Sp := fun vs H Q _ => ∃ g dx k xs, vs = [.ref g] ∧ H g = some (.ins CG dx (gF k)) ∧ H k = some (.lst xs) ∧ Q (.int (xs.length : Int)) H
def spGBool (CG : Addr) : Sp := fun vs H Q _ => ∃ g dx k xs, vs = [.ref g] ∧ H g = some (.ins CG dx (gF k)) ∧ H k = some (.lst xs) ∧ Q (.bl (!xs.isEmpty)) H
def spGIn (CG C : Addr) : Sp := fun vs H Q _ => ∃ g n ps v q m, vs = [.ref g, v] ∧ RgAt CG C H g n ps ∧ NumAt C H v q m ∧ m ≤ 4000 ∧ ∀ H', Same H H' → Q (.bl (holdsV ps q)) H'
def CmpOk (ps qs : List Pt) : Prop := ∀ (i : Nat) (p q : Pt), ps.length = qs.length → ps[i]? = some p → qs[i]? = some q → p.1 = q.1 → p.2 = none → q.2 = none
theorem CmpOk.refl {ps : List Pt} : CmpOk ps ps := fun i p q _ h1 h2 _ h3 => by rw [h1] at h2; cases h2; exact h3
def spGEq (CG C : Addr) : Sp := fun vs H Q _ => ∃ g n ps v, vs = [.ref g, v] ∧ RgAt CG C H g n ps ∧
  ((∃ g' n' ps', v = .ref g' ∧ RgAt CG C H g' n' ps' ∧ CmpOk ps ps' ∧ ∀ H', Same H H' → Q (.bl (decide (ps = ps'))) H') ∨ (∃ b xs, v = .ref b ∧ H b = some (.lst xs) ∧ Q (.bl false) H))
def spWhole (CG C : Addr) : Sp := fun vs H Q _ => vs = [.ref CG] ∧ ∀ H' g, Same H H' → H g = none → RgAt CG C H' g 2 [(0, none)] → Q (.ref g) H'
def LGi (g : Addr) (v : V) (ps : List Pt) (q : Rat) (H0 : Hp) (i : Nat) (σ : St) (H : Hp) : Prop := ∃ v2 v3 : Option V, σ = [some (.ref g), some v, v2, v3] ∧ Same H0 H ∧ (ps.take i).any (inP q) = false
section
variable {P : Program} {w : World} {K : PySem.W.Frag} {mg : Str → Option Value} {base : Heap} {A : Adr}
theorem ok_top (T : Txt K mg A) : FnOk P w K mg base CX0 1 A.a_RatioTop A.d_RatioTop ["self"] (spTop A.k_Ratio) := by
  refine T.f_RatioTop.ok scRatioTop (fun vs H Q E h => ?_) (fun cdv A' outer s H vs Q E hr h => ?_)
  · obtain ⟨x, p, n, rfl, _⟩ := h
    rfl
  · obtain ⟨x, p, n, rfl, ⟨⟨a, dx, rfl, ha⟩, _⟩, k⟩ := h
    refine ⟨_, (pss_one (ps_ret (pe_fld (pv 0) rfl))), ?_⟩
    try simp only [tSeq, tNext, tRet, tRetN, tAsg, gName, gSub, tDrop, tIfS, tOp, tUn, tCB, tCons, tNil, tC, tVar, rI, rI0, rU, tAnd, tOr, tNot, tAndV, tOrV, tNotV, tIf, tTest, tB, tCall, tChain, tLst, tTup, tYes, rIxH, rIsB, rIsBT, rMulS, kd_non, kd_bl, kd_int, kd_str, kd_ref, kdO_lst, kdO_tup, kdO_dK, nq_n, nq_b, nq_i, nq_s, nq_l, nq_t, nq_d, ne_eq, not_false_eq_true, kit_ss, kit_ns, kit_bs, kit_is, kit_ls, kit_ts, kit_ds, kit_bb, V.ty.injEq, and_assoc, rIxU, rLenH, rLenU, rLenS, rInt1, rSetL, rEq, rNe, rCat, L2.start, List.map, List.length, List.length_cons, List.length_nil, List.replicate, List.getElem?_cons_zero, List.getElem?_cons_succ, List.set_cons_zero, List.set_cons_succ, List.set_nil, List.cons_append, List.nil_append, List.append_nil, Option.some.injEq, V.int.injEq, V.ref.injEq, V.str.injEq, V.bl.injEq, HO.lst.injEq, HO.tup.injEq, exists_eq_left', exists_and_left, exists_eq_left, List.cons.injEq, and_true, true_and, and_false, false_and, and_self, reduceCtorEq, exists_false, or_false, false_or, exists_const, at0, at1, at2, at3, at4, at5, ix51, ix52, ix54, upd_same, Nat.reduceAdd, Nat.reduceSub, Nat.zero_add, Int.reduceToNat, Int.reduceLE, Int.reduceLT, decide_eq_true_eq, Bool.not_eq_true, if_true, if_false, Bool.false_eq_true, ite_true, ite_false, Bool.not_true, Bool.not_false, decide_true, decide_false, tFor_eq, tLc_eq, iList, iTup, iRng1, iRng2, iStr, tSl, tPart, tNoPart, rSlL, cxOf_K, wipe, ex_ty2, kit_LTl, kit_LTt, kit_LTd, kit_LTs, kit_LTn, kit_LTb, kit_LTi, tM1, rIxS, exists_eq', lt1p, tDNewK, rSlS, rEqNil, nox_K, tFld, ha, HO.ins.injEq, T.t_Ratio.cl, T.n_Ratio_kept_top, rf_top]
    exact k
theorem ok_bot (T : Txt K mg A) : FnOk P w K mg base CX0 1 A.a_RatioBottom A.d_RatioBottom ["self"] (spBot A.k_Ratio) := by
  refine T.f_RatioBottom.ok scRatioBottom (fun vs H Q E h => ?_) (fun cdv A' outer s H vs Q E hr h => ?_)
  · obtain ⟨x, p, n, rfl, _⟩ := h
    rfl
  · obtain ⟨x, p, n, rfl, ⟨⟨a, dx, rfl, ha⟩, _⟩, k⟩ := h
    refine ⟨_, (pss_one (ps_ret (pe_fld (pv 0) rfl))), ?_⟩
    try simp only [tSeq, tNext, tRet, tRetN, tAsg, gName, gSub, tDrop, tIfS, tOp, tUn, tCB, tCons, tNil, tC, tVar, rI, rI0, rU, tAnd, tOr, tNot, tAndV, tOrV, tNotV, tIf, tTest, tB, tCall, tChain, tLst, tTup, tYes, rIxH, rIsB, rIsBT, rMulS, kd_non, kd_bl, kd_int, kd_str, kd_ref, kdO_lst, kdO_tup, kdO_dK, nq_n, nq_b, nq_i, nq_s, nq_l, nq_t, nq_d, ne_eq, not_false_eq_true, kit_ss, kit_ns, kit_bs, kit_is, kit_ls, kit_ts, kit_ds, kit_bb, V.ty.injEq, and_assoc, rIxU, rLenH, rLenU, rLenS, rInt1, rSetL, rEq, rNe, rCat, L2.start, List.map, List.length, List.length_cons, List.length_nil, List.replicate, List.getElem?_cons_zero, List.getElem?_cons_succ, List.set_cons_zero, List.set_cons_succ, List.set_nil, List.cons_append, List.nil_append, List.append_nil, Option.some.injEq, V.int.injEq, V.ref.injEq, V.str.injEq, V.bl.injEq, HO.lst.injEq, HO.tup.injEq, exists_eq_left', exists_and_left, exists_eq_left, List.cons.injEq, and_true, true_and, and_false, false_and, and_self, reduceCtorEq, exists_false, or_false, false_or, exists_const, at0, at1, at2, at3, at4, at5, ix51, ix52, ix54, upd_same, Nat.reduceAdd, Nat.reduceSub, Nat.zero_add, Int.reduceToNat, Int.reduceLE, Int.reduceLT, decide_eq_true_eq, Bool.not_eq_true, if_true, if_false, Bool.false_eq_true, ite_true, ite_false, Bool.not_true, Bool.not_false, decide_true, decide_false, tFor_eq, tLc_eq, iList, iTup, iRng1, iRng2, iStr, tSl, tPart, tNoPart, rSlL, cxOf_K, wipe, ex_ty2, kit_LTl, kit_LTt, kit_LTd, kit_LTs, kit_LTn, kit_LTb, kit_LTi, tM1, rIxS, exists_eq', lt1p, tDNewK, rSlS, rEqNil, nox_K, tFld, ha, HO.ins.injEq, T.t_Ratio.cl, T.n_Ratio_kept_bottom, rf_bot]
    exact k
theorem ok_midN (T : Txt K mg A) (gRatioOf : FnOk P w K mg base CX0 4 A.a_RatioOf A.d_RatioOf ["number"] (spOf A.k_Ratio)) (gRatioAdd : FnOk P w K mg base CX0 5 A.a_RatioAdd A.d_RatioAdd ["self", "other"] (spBin A.k_Ratio (· + ·))) (gRatioDivided : FnOk P w K mg base CX0 5 A.a_RatioDivided A.d_RatioDivided ["self", "other"] (spDiv A.k_Ratio)) : FnOk P w K mg base CX0 6 A.a_RatioMiddle A.d_RatioMiddle ["first", "second"] (spMidN A.k_Ratio) := by
  refine T.f_RatioMiddle.ok scRatioMiddle (fun vs H Q E h => ?_) (fun cdv A' outer s H vs Q E hr h => ?_)
  · obtain ⟨x, y, p, q, n, m, rfl, _⟩ := h
    rfl
  · obtain ⟨x, y, p, q, n, m, rfl, hx, hy, hn, k⟩ := h
    refine ⟨_, (pss_one (ps_ret (pe_meth (pe_op (op_own T.o_RatioAdd gRatioAdd (hr.mono (by decide)) T.b_RatioAdd pass0) (pe_call gRatioOf (hr.mono (by decide)) (by rfl) T.m_RatioOf T.f_RatioOf.kp T.b_RatioOf .nil pass0 (pa_cons (pv 0) pa_nil)) (pe_call gRatioOf (hr.mono (by decide)) (by rfl) T.m_RatioOf T.f_RatioOf.kp T.b_RatioOf .nil pass0 (pa_cons (pv 1) pa_nil))) T.t_Ratio.cl T.h_RatioDivided gRatioDivided (hr.mono (by decide)) T.b_RatioDivided .nil pass0 (pa_cons pe_int pa_nil)))), ?_⟩
    have vn : ∀ {i : Nat} {z : V} {r : Rat} {l : Nat}, (L2.start nRatioMiddle [x, y])[i]? = some (some z) → NumAt A.k_Ratio H z r l → EvN A.k_Ratio (tVar i) (L2.start nRatioMiddle [x, y]) H r l := fun {i z r l} e h H1 s1 Q kk => ⟨z, e, kk H1 z (Same.refl _) (h.same s1)⟩
    have e : EvR A.k_Ratio (tMeth A.k_Ratio "divided" (spDiv A.k_Ratio) [] (fun _ _ _ => False) (tOp (rOwn A.k_Ratio (spBin A.k_Ratio (· + ·)) (fun _ _ _ => False)) (tCall (spOf A.k_Ratio) [] (fun _ _ _ => False) (tCons (tVar 0) tNil)) (tCall (spOf A.k_Ratio) [] (fun _ _ _ => False) (tCons (tVar 1) tNil))) (tCons (tC (.int 2)) tNil)) (L2.start nRatioMiddle [x, y]) H ((p + q) / (((2 : Int) : Rat))) (n + m + 1 + 2 + 1) := by
      refine EvR.div (n := n + m + 1) (m := 2) (EvR.bin (EvR.of (vn rfl hx) (by omega)) (EvR.num (EvR.of (vn rfl hy) (by omega))) (by omega)) (EvN.int (z := 2) (by decide)) ?_ (by omega)
      intro z
      exact absurd (Rat.intCast_eq_zero_iff.mp z) (by decide)
    exact e H (Same.refl _) Q fun H2 v s2 hv => k H2 v s2 hv
theorem ok_parts (T : Txt K mg A) : FnOk P w K mg base CX0 1 A.a_RangesParts A.d_RangesParts ["self"] (spParts A.k_Ranges) := by
  refine T.f_RangesParts.ok scRangesParts (fun vs H Q E h => ?_) (fun cdv A' outer s H vs Q E hr h => ?_)
  · obtain ⟨g, dx, k, xs, rfl, _⟩ := h
    rfl
  · obtain ⟨g, dx, kk, xs, rfl, hg, hk, k⟩ := h
    refine ⟨_, (pss_one (ps_ret (pe_callTy call_tuple_of (by rfl) T.z_tuple (by decide +kernel) (pa_cons (pe_fld (pv 0) rfl) pa_nil)))), ?_⟩
    try simp only [tSeq, tNext, tRet, tRetN, tAsg, gName, gSub, tDrop, tIfS, tOp, tUn, tCB, tCons, tNil, tC, tVar, rI, rI0, rU, tAnd, tOr, tNot, tAndV, tOrV, tNotV, tIf, tTest, tB, tCall, tChain, tLst, tTup, tYes, rIxH, rIsB, rIsBT, rMulS, kd_non, kd_bl, kd_int, kd_str, kd_ref, kdO_lst, kdO_tup, kdO_dK, nq_n, nq_b, nq_i, nq_s, nq_l, nq_t, nq_d, ne_eq, not_false_eq_true, kit_ss, kit_ns, kit_bs, kit_is, kit_ls, kit_ts, kit_ds, kit_bb, V.ty.injEq, and_assoc, rIxU, rLenH, rLenU, rLenS, rInt1, rSetL, rEq, rNe, rCat, L2.start, List.map, List.length, List.length_cons, List.length_nil, List.replicate, List.getElem?_cons_zero, List.getElem?_cons_succ, List.set_cons_zero, List.set_cons_succ, List.set_nil, List.cons_append, List.nil_append, List.append_nil, Option.some.injEq, V.int.injEq, V.ref.injEq, V.str.injEq, V.bl.injEq, HO.lst.injEq, HO.tup.injEq, exists_eq_left', exists_and_left, exists_eq_left, List.cons.injEq, and_true, true_and, and_false, false_and, and_self, reduceCtorEq, exists_false, or_false, false_or, exists_const, at0, at1, at2, at3, at4, at5, ix51, ix52, ix54, upd_same, Nat.reduceAdd, Nat.reduceSub, Nat.zero_add, Int.reduceToNat, Int.reduceLE, Int.reduceLT, decide_eq_true_eq, Bool.not_eq_true, if_true, if_false, Bool.false_eq_true, ite_true, ite_false, Bool.not_true, Bool.not_false, decide_true, decide_false, tFor_eq, tLc_eq, iList, iTup, iRng1, iRng2, iStr, tSl, tPart, tNoPart, rSlL, cxOf_K, wipe, ex_ty2, kit_LTl, kit_LTt, kit_LTd, kit_LTs, kit_LTn, kit_LTb, kit_LTi, tM1, rIxS, exists_eq', lt1p, tDNewK, rSlS, rEqNil, nox_K, tFld, hg, hk, HO.ins.injEq, T.t_Ranges.cl, T.n_Ranges_kept_parts, gf_k]
    exact ⟨xs, .inl ⟨SqL.of hk, k⟩⟩
theorem ok_glen (T : Txt K mg A) : FnOk P w K mg base CX0 1 A.a_RangesLen A.d_RangesLen ["self"] (spGLen A.k_Ranges) := by
  refine T.f_RangesLen.ok scRangesLen (fun vs H Q E h => ?_) (fun cdv A' outer s H vs Q E hr h => ?_)
  · obtain ⟨g, dx, k, xs, rfl, _⟩ := h
    rfl
  · obtain ⟨g, dx, kk, xs, rfl, hg, hk, k⟩ := h
    refine ⟨_, (pss_one (ps_ret (pe_callB call_lenH (by rfl) T.z_len (by decide +kernel) (pa_cons (pe_fld (pv 0) rfl) pa_nil)))), ?_⟩
    try simp only [tSeq, tNext, tRet, tRetN, tAsg, gName, gSub, tDrop, tIfS, tOp, tUn, tCB, tCons, tNil, tC, tVar, rI, rI0, rU, tAnd, tOr, tNot, tAndV, tOrV, tNotV, tIf, tTest, tB, tCall, tChain, tLst, tTup, tYes, rIxH, rIsB, rIsBT, rMulS, kd_non, kd_bl, kd_int, kd_str, kd_ref, kdO_lst, kdO_tup, kdO_dK, nq_n, nq_b, nq_i, nq_s, nq_l, nq_t, nq_d, ne_eq, not_false_eq_true, kit_ss, kit_ns, kit_bs, kit_is, kit_ls, kit_ts, kit_ds, kit_bb, V.ty.injEq, and_assoc, rIxU, rLenH, rLenU, rLenS, rInt1, rSetL, rEq, rNe, rCat, L2.start, List.map, List.length, List.length_cons, List.length_nil, List.replicate, List.getElem?_cons_zero, List.getElem?_cons_succ, List.set_cons_zero, List.set_cons_succ, List.set_nil, List.cons_append, List.nil_append, List.append_nil, Option.some.injEq, V.int.injEq, V.ref.injEq, V.str.injEq, V.bl.injEq, HO.lst.injEq, HO.tup.injEq, exists_eq_left', exists_and_left, exists_eq_left, List.cons.injEq, and_true, true_and, and_false, false_and, and_self, reduceCtorEq, exists_false, or_false, false_or, exists_const, at0, at1, at2, at3, at4, at5, ix51, ix52, ix54, upd_same, Nat.reduceAdd, Nat.reduceSub, Nat.zero_add, Int.reduceToNat, Int.reduceLE, Int.reduceLT, decide_eq_true_eq, Bool.not_eq_true, if_true, if_false, Bool.false_eq_true, ite_true, ite_false, Bool.not_true, Bool.not_false, decide_true, decide_false, tFor_eq, tLc_eq, iList, iTup, iRng1, iRng2, iStr, tSl, tPart, tNoPart, rSlL, cxOf_K, wipe, ex_ty2, kit_LTl, kit_LTt, kit_LTd, kit_LTs, kit_LTn, kit_LTb, kit_LTi, tM1, rIxS, exists_eq', lt1p, tDNewK, rSlS, rEqNil, nox_K, tFld, hg, hk, HO.ins.injEq, T.t_Ranges.cl, T.n_Ranges_kept_parts, gf_k]
    exact k
theorem ok_gbool (T : Txt K mg A) : FnOk P w K mg base CX0 1 A.a_RangesBool A.d_RangesBool ["self"] (spGBool A.k_Ranges) := by
  refine T.f_RangesBool.ok scRangesBool (fun vs H Q E h => ?_) (fun cdv A' outer s H vs Q E hr h => ?_)
  · obtain ⟨g, dx, k, xs, rfl, _⟩ := h
    rfl
  · obtain ⟨g, dx, kk, xs, rfl, hg, hk, k⟩ := h
    refine ⟨_, (pss_one (ps_ret (pe_cmpR (op_gt) (pe_callB call_lenH (by rfl) T.z_len (by decide +kernel) (pa_cons (pe_fld (pv 0) rfl) pa_nil)) pe_int (nomark _)))), ?_⟩
    try simp only [tSeq, tNext, tRet, tRetN, tAsg, gName, gSub, tDrop, tIfS, tOp, tUn, tCB, tCons, tNil, tC, tVar, rI, rI0, rU, tAnd, tOr, tNot, tAndV, tOrV, tNotV, tIf, tTest, tB, tCall, tChain, tLst, tTup, tYes, rIxH, rIsB, rIsBT, rMulS, kd_non, kd_bl, kd_int, kd_str, kd_ref, kdO_lst, kdO_tup, kdO_dK, nq_n, nq_b, nq_i, nq_s, nq_l, nq_t, nq_d, ne_eq, not_false_eq_true, kit_ss, kit_ns, kit_bs, kit_is, kit_ls, kit_ts, kit_ds, kit_bb, V.ty.injEq, and_assoc, rIxU, rLenH, rLenU, rLenS, rInt1, rSetL, rEq, rNe, rCat, L2.start, List.map, List.length, List.length_cons, List.length_nil, List.replicate, List.getElem?_cons_zero, List.getElem?_cons_succ, List.set_cons_zero, List.set_cons_succ, List.set_nil, List.cons_append, List.nil_append, List.append_nil, Option.some.injEq, V.int.injEq, V.ref.injEq, V.str.injEq, V.bl.injEq, HO.lst.injEq, HO.tup.injEq, exists_eq_left', exists_and_left, exists_eq_left, List.cons.injEq, and_true, true_and, and_false, false_and, and_self, reduceCtorEq, exists_false, or_false, false_or, exists_const, at0, at1, at2, at3, at4, at5, ix51, ix52, ix54, upd_same, Nat.reduceAdd, Nat.reduceSub, Nat.zero_add, Int.reduceToNat, Int.reduceLE, Int.reduceLT, decide_eq_true_eq, Bool.not_eq_true, if_true, if_false, Bool.false_eq_true, ite_true, ite_false, Bool.not_true, Bool.not_false, decide_true, decide_false, tFor_eq, tLc_eq, iList, iTup, iRng1, iRng2, iStr, tSl, tPart, tNoPart, rSlL, cxOf_K, wipe, ex_ty2, kit_LTl, kit_LTt, kit_LTd, kit_LTs, kit_LTn, kit_LTb, kit_LTi, tM1, rIxS, exists_eq', lt1p, tDNewK, rSlS, rEqNil, nox_K, tFld, hg, hk, HO.ins.injEq, T.t_Ranges.cl, T.n_Ranges_kept_parts, gf_k]
    have e : decide ((0 : Int) < (xs.length : Int)) = !xs.isEmpty := by cases xs <;> simp
    rw [e]
    exact k
theorem ok_gin (T : Txt K mg A)
    (gRatioLe : FnOk P w K mg base CX0 5 A.a_RatioLe A.d_RatioLe ["self", "other"] (spCmp A.k_Ratio (fun p q => decide (p ≤ q)))) (gRatioGt : FnOk P w K mg base CX0 5 A.a_RatioGt A.d_RatioGt ["self", "other"] (spCmp A.k_Ratio (fun p q => decide (q < p)))) (gRatioGe : FnOk P w K mg base CX0 5 A.a_RatioGe A.d_RatioGe ["self", "other"] (spCmp A.k_Ratio (fun p q => decide (q ≤ p)))) :
    FnOk P w K mg base CX0 6 A.a_RangesContains A.d_RangesContains ["self", "number"] (spGIn A.k_Ranges A.k_Ratio) := by
  refine T.f_RangesContains.ok scRangesContains (fun vs H Q E h => ?_) (fun cdv A' outer s H vs Q E hr h => ?_)
  · obtain ⟨g, n, ps, v, q, m, rfl, _⟩ := h
    rfl
  · obtain ⟨g, n, ps, v, q, m, rfl, hg, hv, hm, k⟩ := h
    refine ⟨_, (pss_cons (ps_if (pt_not (pt_cmpR (opOr (op_ownC (fun _ _ => rfl) T.o_RatioGt gRatioGt (hr.mono (by decide)) T.b_RatioGt pass0) op_gt) (pv 1) pe_int (nomark _))) (pss_one (ps_ret pe_bl)) pss_nil)
      (pss_cons (ps_for PassesOwn.never rfl (pi_list (pe_fld (pv 0) rfl)) (pg_tup rfl (pgs_cons (pg_name (i := 2) scRangesContains.nd rfl (Or.inl rfl)) (pgs_cons (pg_name (i := 3) scRangesContains.nd rfl (Or.inl rfl)) pgs_nil))) (pss_one (ps_if (PW.pt (pw_and (pt_cmpR (op_ownC (fun _ _ => rfl) T.o_RatioLe gRatioLe (hr.mono (by decide)) T.b_RatioLe pass0) (pv 2) (pv 1) (nomark _)) (pw_and1 (PW.pt (pw_or (pt_cmpR (op_isN) (pv 3) pe_non (nomark _)) (pw_or1 (pt_cmpR (opOr (op_ownC (fun _ _ => rfl) T.o_RatioLe gRatioLe (hr.mono (by decide)) T.b_RatioLe pass0) (op_ownCI int_le T.r_RatioGe gRatioGe (hr.mono (by decide)) T.b_RatioGe pass0)) (pv 1) (pv 3) (nomark _)))))))) (pss_one (ps_ret pe_bl)) pss_nil)))
      (pss_one (ps_ret pe_bl)))), ?_⟩
    refine seq_gen fun N eN => ?_
    try simp only [tSeq, tNext, tRet, tRetN, tAsg, gName, gSub, tDrop, tIfS, tOp, tUn, tCB, tCons, tNil, tC, tVar, rI, rI0, rU, tAnd, tOr, tNot, tAndV, tOrV, tNotV, tIf, tTest, tB, tCall, tChain, tLst, tTup, tYes, rIxH, rIsB, rIsBT, rMulS, kd_non, kd_bl, kd_int, kd_str, kd_ref, kdO_lst, kdO_tup, kdO_dK, nq_n, nq_b, nq_i, nq_s, nq_l, nq_t, nq_d, ne_eq, not_false_eq_true, kit_ss, kit_ns, kit_bs, kit_is, kit_ls, kit_ts, kit_ds, kit_bb, V.ty.injEq, and_assoc, rIxU, rLenH, rLenU, rLenS, rInt1, rSetL, rEq, rNe, rCat, L2.start, List.map, List.length, List.length_cons, List.length_nil, List.replicate, List.getElem?_cons_zero, List.getElem?_cons_succ, List.set_cons_zero, List.set_cons_succ, List.set_nil, List.cons_append, List.nil_append, List.append_nil, Option.some.injEq, V.int.injEq, V.ref.injEq, V.str.injEq, V.bl.injEq, HO.lst.injEq, HO.tup.injEq, exists_eq_left', exists_and_left, exists_eq_left, List.cons.injEq, and_true, true_and, and_false, false_and, and_self, reduceCtorEq, exists_false, or_false, false_or, exists_const, at0, at1, at2, at3, at4, at5, ix51, ix52, ix54, upd_same, Nat.reduceAdd, Nat.reduceSub, Nat.zero_add, Int.reduceToNat, Int.reduceLE, Int.reduceLT, decide_eq_true_eq, Bool.not_eq_true, if_true, if_false, Bool.false_eq_true, ite_true, ite_false, Bool.not_true, Bool.not_false, decide_true, decide_false, tFor_eq, tLc_eq, iList, iTup, iRng1, iRng2, iStr, tSl, tPart, tNoPart, rSlL, cxOf_K, wipe, ex_ty2, kit_LTl, kit_LTt, kit_LTd, kit_LTs, kit_LTn, kit_LTb, kit_LTi, tM1, rIxS, exists_eq', lt1p, tDNewK, rSlS, rEqNil, nox_K]
    have z0 : ((0 : Int) : Rat) = 0 := rfl
    refine num_cmp0 (m := 2) hv (num_int (z := 0) (by decide)) (by omega) (fun i ei ep kk => ?_) (fun H1 s1 => ?_)
    · subst ei
      refine ⟨i, 0, rfl, rfl, ?_⟩
      have e := kk H (Same.refl _)
      rw [ep] at e
      have e2 : decide (((0 : Int) : Rat) < (i : Rat)) = decide (0 < i) := decide_eq_decide.mpr Rat.intCast_lt_intCast
      rw [e2] at e
      exact e
    · refine ⟨_, rfl, ?_⟩
      rw [z0]
      by_cases h0 : 0 < q
      · rw [decide_eq_true h0, if_neg (by decide)]
        rw [eN]
        clear eN N
        refine seq_gen fun N eN => ?_
        obtain ⟨⟨dx, kk, xs, h1, h2, h3⟩, l, n4⟩ := hg.same s1
        try simp only [tSeq, tNext, tRet, tRetN, tAsg, gName, gSub, tDrop, tIfS, tOp, tUn, tCB, tCons, tNil, tC, tVar, rI, rI0, rU, tAnd, tOr, tNot, tAndV, tOrV, tNotV, tIf, tTest, tB, tCall, tChain, tLst, tTup, tYes, rIxH, rIsB, rIsBT, rMulS, kd_non, kd_bl, kd_int, kd_str, kd_ref, kdO_lst, kdO_tup, kdO_dK, nq_n, nq_b, nq_i, nq_s, nq_l, nq_t, nq_d, ne_eq, not_false_eq_true, kit_ss, kit_ns, kit_bs, kit_is, kit_ls, kit_ts, kit_ds, kit_bb, V.ty.injEq, and_assoc, rIxU, rLenH, rLenU, rLenS, rInt1, rSetL, rEq, rNe, rCat, L2.start, List.map, List.length, List.length_cons, List.length_nil, List.replicate, List.getElem?_cons_zero, List.getElem?_cons_succ, List.set_cons_zero, List.set_cons_succ, List.set_nil, List.cons_append, List.nil_append, List.append_nil, Option.some.injEq, V.int.injEq, V.ref.injEq, V.str.injEq, V.bl.injEq, HO.lst.injEq, HO.tup.injEq, exists_eq_left', exists_and_left, exists_eq_left, List.cons.injEq, and_true, true_and, and_false, false_and, and_self, reduceCtorEq, exists_false, or_false, false_or, exists_const, at0, at1, at2, at3, at4, at5, ix51, ix52, ix54, upd_same, Nat.reduceAdd, Nat.reduceSub, Nat.zero_add, Int.reduceToNat, Int.reduceLE, Int.reduceLT, decide_eq_true_eq, Bool.not_eq_true, if_true, if_false, Bool.false_eq_true, ite_true, ite_false, Bool.not_true, Bool.not_false, decide_true, decide_false, tFor_eq, tLc_eq, iList, iTup, iRng1, iRng2, iStr, tSl, tPart, tNoPart, rSlL, cxOf_K, wipe, ex_ty2, kit_LTl, kit_LTt, kit_LTd, kit_LTs, kit_LTn, kit_LTb, kit_LTi, tM1, rIxS, exists_eq', lt1p, tDNewK, rSlS, rEqNil, nox_K, tFld, h1, h2, HO.ins.injEq, T.t_Ranges.cl, T.n_Ranges_kept_parts, gf_k]
        have hv1 := hv.same s1
        refine ⟨⟨_, SqL.of h2⟩, ?_⟩
        refine for_go (walk_list (K := K) (xs := xs)) (LGi g v ps q H1) ⟨_, _, rfl, Same.refl _, rfl⟩ (fun i σ H2 _ z => by obtain ⟨_, _, _, s2, _⟩ := z; exact SqL.of (s2 _ _ h2)) (fun i x σ H2 hx z => ?_) (fun σ H2 z => ?_)
        · obtain ⟨v2, v3, rfl, s2, nh⟩ := z
          have hi' : i < ps.length := by rw [← h3.len]; exact (List.getElem?_eq_some_iff.mp hx).1
          have gi : ps[i]? = some ps[i] := List.getElem?_eq_getElem hi'
          obtain ⟨t, u, y, rfl, ht, hu, hy⟩ := (h3.same s2).ea i x _ hx gi
          have tk : ps.take (i + 1) = ps.take i ++ [ps[i]] := take_get gi
          have yes : inP q ps[i] = true → holdsV ps q = true := fun z => by
            unfold holdsV
            rw [decide_eq_true h0, Bool.true_and, List.any_eq_true]
            exact ⟨_, List.getElem_mem hi', z⟩
          have no : inP q ps[i] = false → (ps.take (i + 1)).any (inP q) = false := fun z => by rw [tk, List.any_append, nh, Bool.false_or, List.any_cons, z]; rfl
          generalize ps[i] = pp at *
          obtain ⟨lo, hi⟩ := pp
          refine ⟨t, _, rfl, SqT.of ht, rfl, _, _, rfl, _, _, rfl, rfl, ?_⟩
          try simp only [tSeq, tNext, tRet, tRetN, tAsg, gName, gSub, tDrop, tIfS, tOp, tUn, tCB, tCons, tNil, tC, tVar, rI, rI0, rU, tAnd, tOr, tNot, tAndV, tOrV, tNotV, tIf, tTest, tB, tCall, tChain, tLst, tTup, tYes, rIxH, rIsB, rIsBT, rMulS, kd_non, kd_bl, kd_int, kd_str, kd_ref, kdO_lst, kdO_tup, kdO_dK, nq_n, nq_b, nq_i, nq_s, nq_l, nq_t, nq_d, ne_eq, not_false_eq_true, kit_ss, kit_ns, kit_bs, kit_is, kit_ls, kit_ts, kit_ds, kit_bb, V.ty.injEq, and_assoc, rIxU, rLenH, rLenU, rLenS, rInt1, rSetL, rEq, rNe, rCat, L2.start, List.map, List.length, List.length_cons, List.length_nil, List.replicate, List.getElem?_cons_zero, List.getElem?_cons_succ, List.set_cons_zero, List.set_cons_succ, List.set_nil, List.cons_append, List.nil_append, List.append_nil, Option.some.injEq, V.int.injEq, V.ref.injEq, V.str.injEq, V.bl.injEq, HO.lst.injEq, HO.tup.injEq, exists_eq_left', exists_and_left, exists_eq_left, List.cons.injEq, and_true, true_and, and_false, false_and, and_self, reduceCtorEq, exists_false, or_false, false_or, exists_const, at0, at1, at2, at3, at4, at5, ix51, ix52, ix54, upd_same, Nat.reduceAdd, Nat.reduceSub, Nat.zero_add, Int.reduceToNat, Int.reduceLE, Int.reduceLT, decide_eq_true_eq, Bool.not_eq_true, if_true, if_false, Bool.false_eq_true, ite_true, ite_false, Bool.not_true, Bool.not_false, decide_true, decide_false, tFor_eq, tLc_eq, iList, iTup, iRng1, iRng2, iStr, tSl, tPart, tNoPart, rSlL, cxOf_K, wipe, ex_ty2, kit_LTl, kit_LTt, kit_LTd, kit_LTs, kit_LTn, kit_LTb, kit_LTi, tM1, rIxS, exists_eq', lt1p, tDNewK, rSlS, rEqNil, nox_K]
          have hv2 := hv1.same s2
          obtain ⟨⟨a, da, rfl, ha⟩, bu⟩ := id hu
          refine ⟨a, da, _, rfl, ha, hv2.own, _, _, lo, q, n, m, rfl, hu, hv2, by omega, fun H3 s3 => ⟨_, rfl, ?_⟩⟩
          have s13 := s2.trans s3
          dsimp only
          by_cases c1 : lo ≤ q
          · rw [if_pos (decide_eq_true c1)]
            cases hi with
            | none =>
              have ey : y = .non := hy
              rw [if_pos ey]
              rw [yes (by show (decide (lo ≤ q) && true) = true; rw [decide_eq_true c1]; rfl)] at k
              exact k H3 (s1.trans s13)
            | some h =>
              have hy : RatAt A.k_Ratio H2 y h n := hy
              rw [if_neg (NumAt.nn (.inl hy))]
              refine num_cmp2 (hv2.same s3) (hy.same s3) (by omega) rfl fun H4 s4 => ⟨_, rfl, ?_⟩
              by_cases c2 : q ≤ h
              · rw [if_pos (decide_eq_true c2)]
                rw [yes (by show (decide (lo ≤ q) && decide (q ≤ h)) = true; rw [decide_eq_true c1, decide_eq_true c2]; rfl)] at k
                exact k H4 (s1.trans (s13.trans s4))
              · rw [if_neg (fun z => c2 (of_decide_eq_true z))]
                exact ⟨_, _, rfl, s13.trans s4, no (by show (decide (lo ≤ q) && decide (q ≤ h)) = false; rw [decide_eq_false c2, Bool.and_false])⟩
          · rw [if_neg (fun z => c1 (of_decide_eq_true z))]
            exact ⟨_, _, rfl, s13, no (by show (decide (lo ≤ q) && _) = false; rw [decide_eq_false c1, Bool.false_and])⟩
        · obtain ⟨v2, v3, rfl, s2, nh⟩ := z
          rw [h3.len, List.take_length] at nh
          dsimp only
          rw [eN]
          clear eN N
          try simp only [tSeq, tNext, tRet, tRetN, tAsg, gName, gSub, tDrop, tIfS, tOp, tUn, tCB, tCons, tNil, tC, tVar, rI, rI0, rU, tAnd, tOr, tNot, tAndV, tOrV, tNotV, tIf, tTest, tB, tCall, tChain, tLst, tTup, tYes, rIxH, rIsB, rIsBT, rMulS, kd_non, kd_bl, kd_int, kd_str, kd_ref, kdO_lst, kdO_tup, kdO_dK, nq_n, nq_b, nq_i, nq_s, nq_l, nq_t, nq_d, ne_eq, not_false_eq_true, kit_ss, kit_ns, kit_bs, kit_is, kit_ls, kit_ts, kit_ds, kit_bb, V.ty.injEq, and_assoc, rIxU, rLenH, rLenU, rLenS, rInt1, rSetL, rEq, rNe, rCat, L2.start, List.map, List.length, List.length_cons, List.length_nil, List.replicate, List.getElem?_cons_zero, List.getElem?_cons_succ, List.set_cons_zero, List.set_cons_succ, List.set_nil, List.cons_append, List.nil_append, List.append_nil, Option.some.injEq, V.int.injEq, V.ref.injEq, V.str.injEq, V.bl.injEq, HO.lst.injEq, HO.tup.injEq, exists_eq_left', exists_and_left, exists_eq_left, List.cons.injEq, and_true, true_and, and_false, false_and, and_self, reduceCtorEq, exists_false, or_false, false_or, exists_const, at0, at1, at2, at3, at4, at5, ix51, ix52, ix54, upd_same, Nat.reduceAdd, Nat.reduceSub, Nat.zero_add, Int.reduceToNat, Int.reduceLE, Int.reduceLT, decide_eq_true_eq, Bool.not_eq_true, if_true, if_false, Bool.false_eq_true, ite_true, ite_false, Bool.not_true, Bool.not_false, decide_true, decide_false, tFor_eq, tLc_eq, iList, iTup, iRng1, iRng2, iStr, tSl, tPart, tNoPart, rSlL, cxOf_K, wipe, ex_ty2, kit_LTl, kit_LTt, kit_LTd, kit_LTs, kit_LTn, kit_LTb, kit_LTi, tM1, rIxS, exists_eq', lt1p, tDNewK, rSlS, rEqNil, nox_K]
          have e : holdsV ps q = false := by unfold holdsV; rw [nh, Bool.and_false]
          rw [e] at k
          exact k H2 (s1.trans s2)
      · rw [decide_eq_false h0, if_pos (by decide)]
        have e : holdsV ps q = false := by unfold holdsV; rw [decide_eq_false h0, Bool.false_and]
        rw [e] at k
        try simp only [tSeq, tNext, tRet, tRetN, tAsg, gName, gSub, tDrop, tIfS, tOp, tUn, tCB, tCons, tNil, tC, tVar, rI, rI0, rU, tAnd, tOr, tNot, tAndV, tOrV, tNotV, tIf, tTest, tB, tCall, tChain, tLst, tTup, tYes, rIxH, rIsB, rIsBT, rMulS, kd_non, kd_bl, kd_int, kd_str, kd_ref, kdO_lst, kdO_tup, kdO_dK, nq_n, nq_b, nq_i, nq_s, nq_l, nq_t, nq_d, ne_eq, not_false_eq_true, kit_ss, kit_ns, kit_bs, kit_is, kit_ls, kit_ts, kit_ds, kit_bb, V.ty.injEq, and_assoc, rIxU, rLenH, rLenU, rLenS, rInt1, rSetL, rEq, rNe, rCat, L2.start, List.map, List.length, List.length_cons, List.length_nil, List.replicate, List.getElem?_cons_zero, List.getElem?_cons_succ, List.set_cons_zero, List.set_cons_succ, List.set_nil, List.cons_append, List.nil_append, List.append_nil, Option.some.injEq, V.int.injEq, V.ref.injEq, V.str.injEq, V.bl.injEq, HO.lst.injEq, HO.tup.injEq, exists_eq_left', exists_and_left, exists_eq_left, List.cons.injEq, and_true, true_and, and_false, false_and, and_self, reduceCtorEq, exists_false, or_false, false_or, exists_const, at0, at1, at2, at3, at4, at5, ix51, ix52, ix54, upd_same, Nat.reduceAdd, Nat.reduceSub, Nat.zero_add, Int.reduceToNat, Int.reduceLE, Int.reduceLT, decide_eq_true_eq, Bool.not_eq_true, if_true, if_false, Bool.false_eq_true, ite_true, ite_false, Bool.not_true, Bool.not_false, decide_true, decide_false, tFor_eq, tLc_eq, iList, iTup, iRng1, iRng2, iStr, tSl, tPart, tNoPart, rSlL, cxOf_K, wipe, ex_ty2, kit_LTl, kit_LTt, kit_LTd, kit_LTs, kit_LTn, kit_LTb, kit_LTi, tM1, rIxS, exists_eq', lt1p, tDNewK, rSlS, rEqNil, nox_K]
        exact k H1 s1
theorem ok_geq (T : Txt K mg A) (gRatioEq : FnOk P w K mg base CX0 5 A.a_RatioEq A.d_RatioEq ["self", "other"] (spCmpA A.k_Ratio (fun p q => decide (p = q)) false)) :
    FnOk P w K mg base CX0 10 A.a_RangesEq A.d_RangesEq ["self", "other"] (spGEq A.k_Ranges A.k_Ratio) := by
  refine T.f_RangesEq.ok scRangesEq (fun vs H Q E h => ?_) (fun cdv A' outer s H vs Q E hr h => ?_)
  · obtain ⟨g, n, ps, v, rfl, _⟩ := h
    rfl
  · obtain ⟨g, n, ps, v, rfl, ⟨⟨dx, kk, xs, h1, h2, h3⟩, l, n4⟩, h⟩ := h
    refine ⟨_, (pss_one (ps_ret (pe_and (pe_callB call_isW (by rfl) T.z_isinstance (by decide +kernel) (pa_cons (pv 1) (pa_cons (pe_glob (v := .ref A.k_Ranges) (by rfl) T.k_Ranges rfl) pa_nil))) (pe_one (pe_cmpR (op_eqN (n := 3) (rc_own T.o_RatioEq gRatioEq T.b_RatioEq pass0) (hr.mono (by decide))) (pe_fld (pv 0) rfl) (pe_fld (pv 1) rfl) (nomark _)))))), ?_⟩
    have nf : NFs K A.k_Ratio := ⟨T.w_Ratio_int, T.w_Ratio_NoneType⟩
    rcases h with ⟨g', n', ps', rfl, ⟨⟨dx', kk', xs', h1', h2', h3'⟩, l', n4'⟩, hc, k⟩ | ⟨b, ys, rfl, hb, k⟩
    · have e1 : PySem.W.kitOne K (.ref A.k_Ranges) (.ref A.k_Ranges) = some true := kit_self
      have et : tyV H (.ref g') = some (.ref A.k_Ranges) := by rw [tyV_ref, h1']; rfl
      try simp only [tSeq, tNext, tRet, tRetN, tAsg, gName, gSub, tDrop, tIfS, tOp, tUn, tCB, tCons, tNil, tC, tVar, rI, rI0, rU, tAnd, tOr, tNot, tAndV, tOrV, tNotV, tIf, tTest, tB, tCall, tChain, tLst, tTup, tYes, rIxH, rIsB, rIsBT, rMulS, kd_non, kd_bl, kd_int, kd_str, kd_ref, kdO_lst, kdO_tup, kdO_dK, nq_n, nq_b, nq_i, nq_s, nq_l, nq_t, nq_d, ne_eq, not_false_eq_true, kit_ss, kit_ns, kit_bs, kit_is, kit_ls, kit_ts, kit_ds, kit_bb, V.ty.injEq, and_assoc, rIxU, rLenH, rLenU, rLenS, rInt1, rSetL, rEq, rNe, rCat, L2.start, List.map, List.length, List.length_cons, List.length_nil, List.replicate, List.getElem?_cons_zero, List.getElem?_cons_succ, List.set_cons_zero, List.set_cons_succ, List.set_nil, List.cons_append, List.nil_append, List.append_nil, Option.some.injEq, V.int.injEq, V.ref.injEq, V.str.injEq, V.bl.injEq, HO.lst.injEq, HO.tup.injEq, exists_eq_left', exists_and_left, exists_eq_left, List.cons.injEq, and_true, true_and, and_false, false_and, and_self, reduceCtorEq, exists_false, or_false, false_or, exists_const, at0, at1, at2, at3, at4, at5, ix51, ix52, ix54, upd_same, Nat.reduceAdd, Nat.reduceSub, Nat.zero_add, Int.reduceToNat, Int.reduceLE, Int.reduceLT, decide_eq_true_eq, Bool.not_eq_true, if_true, if_false, Bool.false_eq_true, ite_true, ite_false, Bool.not_true, Bool.not_false, decide_true, decide_false, tFor_eq, tLc_eq, iList, iTup, iRng1, iRng2, iStr, tSl, tPart, tNoPart, rSlL, cxOf_K, wipe, ex_ty2, kit_LTl, kit_LTt, kit_LTd, kit_LTs, kit_LTn, kit_LTb, kit_LTi, tM1, rIxS, exists_eq', lt1p, tDNewK, rSlS, rEqNil, nox_K, rIsW, clsV_ty, clsV_ref, et, e1, Value.ref.injEq, forall_eq', T.t_Ranges, implies_true, forall_const, tFld, h1, h1', h2, h2', HO.ins.injEq, T.t_Ranges.cl, T.n_Ranges_kept_parts, gf_k]
      exact ⟨kk, kk', rfl, rfl, lists_eq (k := 1) nf (by omega) h2 h2' h3 h3'.num hc k⟩
    · have et : tyV H (.ref b) = some (.type "list") := by rw [tyV_ref, hb]; rfl
      try simp only [tSeq, tNext, tRet, tRetN, tAsg, gName, gSub, tDrop, tIfS, tOp, tUn, tCB, tCons, tNil, tC, tVar, rI, rI0, rU, tAnd, tOr, tNot, tAndV, tOrV, tNotV, tIf, tTest, tB, tCall, tChain, tLst, tTup, tYes, rIxH, rIsB, rIsBT, rMulS, kd_non, kd_bl, kd_int, kd_str, kd_ref, kdO_lst, kdO_tup, kdO_dK, nq_n, nq_b, nq_i, nq_s, nq_l, nq_t, nq_d, ne_eq, not_false_eq_true, kit_ss, kit_ns, kit_bs, kit_is, kit_ls, kit_ts, kit_ds, kit_bb, V.ty.injEq, and_assoc, rIxU, rLenH, rLenU, rLenS, rInt1, rSetL, rEq, rNe, rCat, L2.start, List.map, List.length, List.length_cons, List.length_nil, List.replicate, List.getElem?_cons_zero, List.getElem?_cons_succ, List.set_cons_zero, List.set_cons_succ, List.set_nil, List.cons_append, List.nil_append, List.append_nil, Option.some.injEq, V.int.injEq, V.ref.injEq, V.str.injEq, V.bl.injEq, HO.lst.injEq, HO.tup.injEq, exists_eq_left', exists_and_left, exists_eq_left, List.cons.injEq, and_true, true_and, and_false, false_and, and_self, reduceCtorEq, exists_false, or_false, false_or, exists_const, at0, at1, at2, at3, at4, at5, ix51, ix52, ix54, upd_same, Nat.reduceAdd, Nat.reduceSub, Nat.zero_add, Int.reduceToNat, Int.reduceLE, Int.reduceLT, decide_eq_true_eq, Bool.not_eq_true, if_true, if_false, Bool.false_eq_true, ite_true, ite_false, Bool.not_true, Bool.not_false, decide_true, decide_false, tFor_eq, tLc_eq, iList, iTup, iRng1, iRng2, iStr, tSl, tPart, tNoPart, rSlL, cxOf_K, wipe, ex_ty2, kit_LTl, kit_LTt, kit_LTd, kit_LTs, kit_LTn, kit_LTb, kit_LTi, tM1, rIxS, exists_eq', lt1p, tDNewK, rSlS, rEqNil, nox_K, rIsW, clsV_ty, clsV_ref, et, T.q_list_Ranges, Value.ref.injEq, forall_eq', T.t_Ranges, implies_true, forall_const]
      exact ⟨fun _ z => z.elim, k⟩
theorem ok_whole (T : Txt K mg A) (gRangesInit : FnOk P w K mg base CX0 7 A.a_RangesInit A.d_RangesInit ["self", "parts"] (spRg K A.k_Ranges A.k_Ratio)) :
    FnOk P w K mg base CX0 9 A.a_RangesWhole A.d_RangesWhole ["cls"] (spWhole A.k_Ranges A.k_Ratio) := by
  refine T.f_RangesWhole.ok scRangesWhole (fun vs H Q E h => ?_) (fun cdv A' outer s H vs Q E hr h => ?_)
  · obtain ⟨rfl, _⟩ := h
    rfl
  · obtain ⟨rfl, k⟩ := h
    refine ⟨_, (pss_one (ps_ret (pe_makeV (pv 0) T.mk_Ranges gRangesInit (hr.mono (by decide)) T.b_RangesInit .nil pass0 (pa_cons (pe_tup (pa_cons (pe_tup (pa_cons pe_int (pa_cons pe_non pa_nil))) pa_nil)) pa_nil)))), ?_⟩
    try simp only [tSeq, tNext, tRet, tRetN, tAsg, gName, gSub, tDrop, tIfS, tOp, tUn, tCB, tCons, tNil, tC, tVar, rI, rI0, rU, tAnd, tOr, tNot, tAndV, tOrV, tNotV, tIf, tTest, tB, tCall, tChain, tLst, tTup, tYes, rIxH, rIsB, rIsBT, rMulS, kd_non, kd_bl, kd_int, kd_str, kd_ref, kdO_lst, kdO_tup, kdO_dK, nq_n, nq_b, nq_i, nq_s, nq_l, nq_t, nq_d, ne_eq, not_false_eq_true, kit_ss, kit_ns, kit_bs, kit_is, kit_ls, kit_ts, kit_ds, kit_bb, V.ty.injEq, and_assoc, rIxU, rLenH, rLenU, rLenS, rInt1, rSetL, rEq, rNe, rCat, L2.start, List.map, List.length, List.length_cons, List.length_nil, List.replicate, List.getElem?_cons_zero, List.getElem?_cons_succ, List.set_cons_zero, List.set_cons_succ, List.set_nil, List.cons_append, List.nil_append, List.append_nil, Option.some.injEq, V.int.injEq, V.ref.injEq, V.str.injEq, V.bl.injEq, HO.lst.injEq, HO.tup.injEq, exists_eq_left', exists_and_left, exists_eq_left, List.cons.injEq, and_true, true_and, and_false, false_and, and_self, reduceCtorEq, exists_false, or_false, false_or, exists_const, at0, at1, at2, at3, at4, at5, ix51, ix52, ix54, upd_same, Nat.reduceAdd, Nat.reduceSub, Nat.zero_add, Int.reduceToNat, Int.reduceLE, Int.reduceLT, decide_eq_true_eq, Bool.not_eq_true, if_true, if_false, Bool.false_eq_true, ite_true, ite_false, Bool.not_true, Bool.not_false, decide_true, decide_false, tFor_eq, tLc_eq, iList, iTup, iRng1, iRng2, iStr, tSl, tPart, tNoPart, rSlL, cxOf_K, wipe, ex_ty2, kit_LTl, kit_LTt, kit_LTd, kit_LTs, kit_LTn, kit_LTb, kit_LTi, tM1, rIxS, exists_eq', lt1p, tDNewK, rSlS, rEqNil, nox_K, tMakeV, tMake_eq]
    refine ⟨by decide, ?_⟩
    intro t1 n_t1; generalize g_H1 : upd H t1 _ = H1; obtain ⟨s_H1, h_t1⟩ := new_facts n_t1 g_H1; clear g_H1
    refine ⟨by decide, ?_⟩
    intro t2 n_t2; generalize g_H2 : upd H1 t2 _ = H2; obtain ⟨s_H2, h_t2⟩ := new_facts n_t2 g_H2; clear g_H2
    have n1 : NPart A.k_Ratio H2 (.ref t1) 2 (0, none) := ⟨t1, _, _, rfl, s_H2 _ _ h_t1, num_int (z := 0) (by decide), rfl⟩
    refine rg_yes (b := t2) (xs := [.ref t1]) (n := 2) (ps := [(0, none)]) rfl (.inr (.inl h_t2)) ⟨rfl, fun i v p h1 h2 => ?_⟩ (fun p hp => ?_) (fun i p q h1 h2 => ?_) (by decide) (by show 1 ≤ 1000; decide) fun H3 g dx kk ys s3 ng nk hg hk rp => ?_
    · cases i with
      | zero => cases h1; cases h2; exact n1
      | succ i => cases h1
    · rw [List.mem_singleton.mp hp]
      exact ⟨Rat.le_refl, fun h z => by cases z⟩
    · cases i <;> cases h2
    · exact k H3 g ((s_H1.trans s_H2).trans s3) ((s_H1.trans s_H2).free ng) ⟨⟨dx, kk, ys, hg, hk, rp⟩, by decide, by decide⟩
end



/-! ### k55: what the law draws -/
/-! ### k03: lowest terms, comparisons told -/
def rt (q : Rat) : HO := .tup [.int q.num, .int q.den]
theorem lowest_num {u l : Int} {g : Nat} (hl : 0 < l) (hg : g = Int.gcd u l) : u.fdiv (g : Int) = (Rat.divInt u l).num ∧ l.fdiv (g : Int) = ((Rat.divInt u l).den : Int) := by
  have e : dv u l = (g : Int) := by
    unfold dv
    rw [if_neg (by omega), hg]
  rw [← e]
  exact ⟨num_of (by omega), den_of (by omega)⟩
def spLowest : Sp := fun vs H Q _ => ∃ u l : Int, vs = [.int u, .int l] ∧ 0 < l ∧ l.natAbs < 2 ^ 9000 ∧ ∀ a, H a = none → Q (.ref a) (upd H a (rt (Rat.divInt u l)))
def LowP (u l : Int) (H : Hp) : St → Hp → Prop := fun σ H' => ∃ a c : Int, σ = [some (.int u), some (.int l), some (.int a), some (.int c)] ∧ 0 ≤ a ∧ 0 ≤ c ∧ Int.gcd a c = Int.gcd u l ∧ H' = H
def lowM : St → Hp → Nat := fun σ _ => match σ with
  | [_, _, _, some (.int c)] => c.toNat
  | _ => 0
theorem gcd_step2 {a c : Int} (ha : 0 ≤ a) (hc : 0 ≤ c) : Int.gcd c (a % c) = Int.gcd a c := by
  rw [Int.gcd_comm, gcd_step hc ha, Int.gcd_comm]
section
variable {P : Program} {w : World} {K : PySem.W.Frag} {mg : Str → Option Value} {base : Heap} {A : Adr}
theorem ok_lowest (T : Txt K mg A) : FnOk P w K mg base CX0 1 A.a_LawLowest A.d_LawLowest ["_law_upper", "_law_lower"] spLowest := by
  refine T.f_LawLowest.ok scLawLowest (fun vs H Q E h => ?_) (fun cdv A' outer s H vs Q E hr h => ?_)
  · obtain ⟨u, l, rfl, _⟩ := h
    rfl
  · obtain ⟨u, l, rfl, hl, hb, k⟩ := h
    refine ⟨_, (pss_cons (ps_par (i := 2) (j := 3) (by rfl) scLawLowest.nd rfl rfl (by decide) rfl rfl (pa_cons (pe_callB call_abs (by rfl) T.z_abs (by decide +kernel) (pa_cons (pv 0) pa_nil)) (pa_cons (pv 1) pa_nil)) (by rfl))
      (pss_cons (ps_while PassesOwn.never (pt_cmpR (op_gt) (pv 3) pe_int (nomark _)) (pss_one (ps_par (i := 2) (j := 3) (by rfl) scLawLowest.nd rfl rfl (by decide) rfl rfl (pa_cons (pv 3) (pa_cons (pe_op op_mod (pe_callTy call_intI (by rfl) T.z_int (by decide +kernel) (pa_cons (pv 2) pa_nil)) (pv 3)) pa_nil)) (by rfl))))
      (pss_one (ps_ret (pe_tup (pa_cons (pe_op op_fdivZ (pv 0) (pv 2)) (pa_cons (pe_op op_fdivZ (pv 1) (pv 2)) pa_nil))))))), ?_⟩
    refine ⟨_, rfl, _, rfl, _, rfl, _, _, rfl, ?_⟩
    refine while_by (LowP u l H) lowM ⟨_, _, rfl, ?_, by omega, ?_, rfl⟩ ?_ ?_
    · split <;> omega
    · split
      · rw [Int.neg_gcd]
      · rfl
    · rintro σ H' ⟨a, c, rfl, ha, hc, hg, rfl⟩
      refine ⟨_, rfl, _, _, rfl, rfl, _, rfl, ?_⟩
      show ite (decide (0 < c) = true) _ _
      by_cases h0 : 0 < c
      · rw [if_pos (decide_eq_true h0)]
        refine ⟨_, rfl, _, rfl, _, rfl, _, rfl, _, _, rfl, rfl, h0, _, _, rfl, ?_⟩
        refine ⟨⟨c, a % c, rfl, hc, Int.emod_nonneg _ (by omega), by rw [gcd_step2 ha hc]; exact hg, rfl⟩, ?_⟩
        show (a % c).toNat < c.toNat
        have := Int.emod_lt_of_pos a h0
        omega
      · rw [if_neg (by simpa using h0)]
        have c0 : c = 0 := by omega
        subst c0
        rw [Int.gcd_zero] at hg
        have ea : a = ((a.natAbs : Nat) : Int) := by omega
        have gp : 0 < Int.gcd u l := gcd_pos_of (by omega)
        obtain ⟨e1, e2⟩ := lowest_num hl hg
        rw [← ea] at e1 e2
        have bd : a.natAbs < 2 ^ 9000 := Nat.lt_of_le_of_lt (by rw [hg]; exact Nat.le_of_dvd (by omega) (Int.gcd_dvd_natAbs_right u l)) hb
        have cd : CDivZ u a := ⟨by omega, log2_of bd (Nat.le_refl _)⟩
        have cd2 : CDivZ l a := ⟨by omega, log2_of bd (Nat.le_refl _)⟩
        refine ⟨_, rfl, _, rfl, _, _, rfl, rfl, cd, _, rfl, _, rfl, _, _, rfl, rfl, cd2, (by show 2 ≤ sizeLine; decide), fun p hp => ?_⟩
        show Q (.ref p) (upd H' p (.tup [.int (u.fdiv a), .int (l.fdiv a)]))
        rw [e1, e2]
        exact k p hp
    · rintro σ H' Q1 Q2 h ⟨v, e, i, j, e1, e2, l, e3, q⟩
      exact ⟨v, e, i, j, e1, e2, l, e3, h _ _ q⟩
end

theorem p98 : (200000000000000000000000000000 : Nat) ≤ 2 ^ 98 := by decide
def spPrice : Sp := fun vs H Q _ => ∃ (p l : Addr) (c : Nat), vs = [.ref p, .int 1] ∧ PoolAt p l c H ∧ c ≤ 80000000 ∧ ∀ (a : Addr) (u b : Int) H', H a = none → H' a = some (.tup [.int u, .int b]) → 0 < u → 0 < b → u.natAbs < 2 ^ 98 → b.natAbs < 2 ^ 98 → PoolAt p l (c + 3) H' → OffS p l H H' → Q (.ref a) H'
theorem low_pos {u l : Int} (hu : 0 < u) (hl : 0 < l) : 0 < (Rat.divInt u l).num := by
  rw [← num_of (show l ≠ 0 by omega)]
  have e : u.fdiv (dv u l) = u / dv u l := by
    have : 0 ≤ dv u l := by unfold dv; rw [if_neg (by omega)]; omega
    exact Int.fdiv_eq_ediv_of_nonneg _ this
  rw [e]
  obtain ⟨k, hk⟩ : (Int.gcd u l : Int) ∣ u := Int.gcd_dvd_left ..
  have hd : dv u l = (Int.gcd u l : Int) := by unfold dv; rw [if_neg (by omega)]
  have hg := gcd_pos_of (t := u) (b := l) (by omega)
  rw [hd]
  have e2 : u / (Int.gcd u l : Int) = k := Int.ediv_eq_of_eq_mul_right (by omega) hk
  rw [e2]
  rcases (by omega : 0 < k ∨ k ≤ 0) with h | h
  · exact h
  · have : (Int.gcd u l : Int) * k ≤ 0 := Int.mul_nonpos_of_nonneg_of_nonpos (by omega) h
    omega
section
variable {P : Program} {w : World} {K : PySem.W.Frag} {mg : Str → Option Value} {base : Heap} {A : Adr}
theorem ok_price (T : Txt K mg A) (gLawDraw : FnOk P w K mg base CX0 2 A.a_LawDraw A.d_LawDraw ["_law_pool_here", "_law_many"] spLawDraw) (gLawLowest : FnOk P w K mg base CX0 1 A.a_LawLowest A.d_LawLowest ["_law_upper", "_law_lower"] spLowest) :
    FnOk P w K mg base CX0 3 A.a_LawPrice A.d_LawPrice ["_law_pool_here", "_law_floor"] spPrice := by
  refine T.f_LawPrice.ok scLawPrice (fun vs H Q E h => ?_) (fun cdv A' outer s H vs Q E hr h => ?_)
  · obtain ⟨p, l, c, rfl, _⟩ := h
    rfl
  · obtain ⟨p, l, c, rfl, hp, hc, k⟩ := h
    refine ⟨_, (pss_cons (ps_if (pt_cmpR (op_eq) (pe_call gLawDraw (hr.mono (by decide)) (by rfl) T.m_LawDraw T.f_LawDraw.kp T.b_LawDraw .nil pass0 (pa_cons (pv 0) (pa_cons pe_int pa_nil))) pe_int (nomark _)) (pss_one (ps_ret (pe_call gLawLowest (hr.mono (by decide)) (by rfl) T.m_LawLowest T.f_LawLowest.kp T.b_LawLowest .nil pass0 (pa_cons (pe_op op_add (pe_op op_pow pe_int pe_int) (pe_call gLawDraw (hr.mono (by decide)) (by rfl) T.m_LawDraw T.f_LawDraw.kp T.b_LawDraw .nil pass0 (pa_cons (pv 0) (pa_cons (pe_op op_pow pe_int pe_int) pa_nil)))) (pa_cons (pe_op op_add (pe_op op_pow pe_int pe_int) (pe_call gLawDraw (hr.mono (by decide)) (by rfl) T.m_LawDraw T.f_LawDraw.kp T.b_LawDraw .nil pass0 (pa_cons (pv 0) (pa_cons (pe_op op_pow pe_int pe_int) pa_nil)))) pa_nil))))) pss_nil)
      (pss_one (ps_ret (pe_call gLawLowest (hr.mono (by decide)) (by rfl) T.m_LawLowest T.f_LawLowest.kp T.b_LawLowest .nil pass0 (pa_cons (pe_op op_add (pv 1) (pe_call gLawDraw (hr.mono (by decide)) (by rfl) T.m_LawDraw T.f_LawDraw.kp T.b_LawDraw .nil pass0 (pa_cons (pv 0) (pa_cons pe_int pa_nil)))) (pa_cons (pe_op op_add pe_int (pe_call gLawDraw (hr.mono (by decide)) (by rfl) T.m_LawDraw T.f_LawDraw.kp T.b_LawDraw .nil pass0 (pa_cons (pv 0) (pa_cons pe_int pa_nil)))) pa_nil)))))), ?_⟩
    have fin : ∀ (u b : Int) (c' : Nat) (H' : Hp), 0 < u → 0 < b → u.natAbs < 2 ^ 98 → b.natAbs < 2 ^ 98 → PoolAt p l c' H' → c' ≤ c + 3 → OffS p l H H' → spLowest [.int u, .int b] H' Q E0 := fun u b c' H' hu hb b1 b2 hp' hc' off => by
      refine ⟨u, b, rfl, hb, Nat.lt_of_lt_of_le b2 (Nat.pow_le_pow_right (by decide) (by decide)), fun a na => ?_⟩
      have np := hp'.np na
      have bd := bd_divInt b1 b2 (show b ≠ 0 by omega)
      refine k a _ _ _ ?_ upd_same (low_pos hu hb) ?_ bd.1 (by simpa using bd.2) ((hp'.mono hc').same (same_new na)) (off.trans (same_off (same_new na)))
      · cases e : H a with
        | none => rfl
        | some o =>
          rw [off a o np.1 np.2 e] at na
          cases na
      · have := (Rat.divInt u b).den_pos
        omega
    refine seq_gen fun N eN => ?_
    try simp only [tSeq, tNext, tRet, tRetN, tAsg, gName, gSub, tDrop, tIfS, tOp, tUn, tCB, tCons, tNil, tC, tVar, rI, rI0, rU, tAnd, tOr, tNot, tAndV, tOrV, tNotV, tIf, tTest, tB, tCall, tChain, tLst, tTup, tYes, rIxH, rIsB, rIsBT, rMulS, kd_non, kd_bl, kd_int, kd_str, kd_ref, kdO_lst, kdO_tup, kdO_dK, nq_n, nq_b, nq_i, nq_s, nq_l, nq_t, nq_d, ne_eq, not_false_eq_true, kit_ss, kit_ns, kit_bs, kit_is, kit_ls, kit_ts, kit_ds, kit_bb, V.ty.injEq, and_assoc, rIxU, rLenH, rLenU, rLenS, rInt1, rSetL, rEq, rNe, rCat, L2.start, List.map, List.length, List.length_cons, List.length_nil, List.replicate, List.getElem?_cons_zero, List.getElem?_cons_succ, List.set_cons_zero, List.set_cons_succ, List.set_nil, List.cons_append, List.nil_append, List.append_nil, Option.some.injEq, V.int.injEq, V.ref.injEq, V.str.injEq, V.bl.injEq, HO.lst.injEq, HO.tup.injEq, exists_eq_left', exists_and_left, exists_eq_left, List.cons.injEq, and_true, true_and, and_false, false_and, and_self, reduceCtorEq, exists_false, or_false, false_or, exists_const, at0, at1, at2, at3, at4, at5, ix51, ix52, ix54, upd_same, Nat.reduceAdd, Nat.reduceSub, Nat.zero_add, Int.reduceToNat, Int.reduceLE, Int.reduceLT, decide_eq_true_eq, Bool.not_eq_true, if_true, if_false, Bool.false_eq_true, ite_true, ite_false, Bool.not_true, Bool.not_false, decide_true, decide_false, tFor_eq, tLc_eq, iList, iTup, iRng1, iRng2, iStr, tSl, tPart, tNoPart, rSlL, cxOf_K, wipe, ex_ty2, kit_LTl, kit_LTt, kit_LTd, kit_LTs, kit_LTn, kit_LTb, kit_LTi, tM1, rIxS, exists_eq', lt1p, tDNewK, rSlS, rEqNil, nox_K]
    refine ⟨p, l, 8, c, rfl, by decide, by decide, hp, by omega, fun v H1 v0 v1 hp1 off1 => ?_⟩
    refine ⟨scal_int, ?_⟩
    by_cases h0 : v = 0
    · subst h0
      rw [if_pos (by decide)]
      try simp only [tSeq, tNext, tRet, tRetN, tAsg, gName, gSub, tDrop, tIfS, tOp, tUn, tCB, tCons, tNil, tC, tVar, rI, rI0, rU, tAnd, tOr, tNot, tAndV, tOrV, tNotV, tIf, tTest, tB, tCall, tChain, tLst, tTup, tYes, rIxH, rIsB, rIsBT, rMulS, kd_non, kd_bl, kd_int, kd_str, kd_ref, kdO_lst, kdO_tup, kdO_dK, nq_n, nq_b, nq_i, nq_s, nq_l, nq_t, nq_d, ne_eq, not_false_eq_true, kit_ss, kit_ns, kit_bs, kit_is, kit_ls, kit_ts, kit_ds, kit_bb, V.ty.injEq, and_assoc, rIxU, rLenH, rLenU, rLenS, rInt1, rSetL, rEq, rNe, rCat, L2.start, List.map, List.length, List.length_cons, List.length_nil, List.replicate, List.getElem?_cons_zero, List.getElem?_cons_succ, List.set_cons_zero, List.set_cons_succ, List.set_nil, List.cons_append, List.nil_append, List.append_nil, Option.some.injEq, V.int.injEq, V.ref.injEq, V.str.injEq, V.bl.injEq, HO.lst.injEq, HO.tup.injEq, exists_eq_left', exists_and_left, exists_eq_left, List.cons.injEq, and_true, true_and, and_false, false_and, and_self, reduceCtorEq, exists_false, or_false, false_or, exists_const, at0, at1, at2, at3, at4, at5, ix51, ix52, ix54, upd_same, Nat.reduceAdd, Nat.reduceSub, Nat.zero_add, Int.reduceToNat, Int.reduceLE, Int.reduceLT, decide_eq_true_eq, Bool.not_eq_true, if_true, if_false, Bool.false_eq_true, ite_true, ite_false, Bool.not_true, Bool.not_false, decide_true, decide_false, tFor_eq, tLc_eq, iList, iTup, iRng1, iRng2, iStr, tSl, tPart, tNoPart, rSlL, cxOf_K, wipe, ex_ty2, kit_LTl, kit_LTt, kit_LTd, kit_LTs, kit_LTn, kit_LTb, kit_LTi, tM1, rIxS, exists_eq', lt1p, tDNewK, rSlS, rEqNil, nox_K]
      have cp : CPow 10 29 := ⟨by decide, by decide, by decide⟩
      have e29 : (10 : Int) ^ 29 = 100000000000000000000000000000 := by decide
      have p98' := p98
      refine ⟨cp, cp, p, l, _, c + 1, rfl, by decide, by decide, hp1, by omega, fun v2 H2 w0 w1 hp2 off2 => ⟨_, rfl, cp, cp, p, l, _, c + 2, rfl, by decide, by decide, hp2, by omega, fun v3 H3 x0 x1 hp3 off3 => ⟨_, rfl, ?_⟩⟩⟩
      rw [e29] at w1 x1 ⊢
      exact fin _ _ (c + 3) H3 (by omega) (by omega) (by omega) (by omega) hp3 (by omega) (((Off.s off1).trans (Off.s off2)).trans (Off.s off3))
    · rw [if_neg (by simpa using h0)]
      rw [eN]
      clear eN N
      try simp only [tSeq, tNext, tRet, tRetN, tAsg, gName, gSub, tDrop, tIfS, tOp, tUn, tCB, tCons, tNil, tC, tVar, rI, rI0, rU, tAnd, tOr, tNot, tAndV, tOrV, tNotV, tIf, tTest, tB, tCall, tChain, tLst, tTup, tYes, rIxH, rIsB, rIsBT, rMulS, kd_non, kd_bl, kd_int, kd_str, kd_ref, kdO_lst, kdO_tup, kdO_dK, nq_n, nq_b, nq_i, nq_s, nq_l, nq_t, nq_d, ne_eq, not_false_eq_true, kit_ss, kit_ns, kit_bs, kit_is, kit_ls, kit_ts, kit_ds, kit_bb, V.ty.injEq, and_assoc, rIxU, rLenH, rLenU, rLenS, rInt1, rSetL, rEq, rNe, rCat, L2.start, List.map, List.length, List.length_cons, List.length_nil, List.replicate, List.getElem?_cons_zero, List.getElem?_cons_succ, List.set_cons_zero, List.set_cons_succ, List.set_nil, List.cons_append, List.nil_append, List.append_nil, Option.some.injEq, V.int.injEq, V.ref.injEq, V.str.injEq, V.bl.injEq, HO.lst.injEq, HO.tup.injEq, exists_eq_left', exists_and_left, exists_eq_left, List.cons.injEq, and_true, true_and, and_false, false_and, and_self, reduceCtorEq, exists_false, or_false, false_or, exists_const, at0, at1, at2, at3, at4, at5, ix51, ix52, ix54, upd_same, Nat.reduceAdd, Nat.reduceSub, Nat.zero_add, Int.reduceToNat, Int.reduceLE, Int.reduceLT, decide_eq_true_eq, Bool.not_eq_true, if_true, if_false, Bool.false_eq_true, ite_true, ite_false, Bool.not_true, Bool.not_false, decide_true, decide_false, tFor_eq, tLc_eq, iList, iTup, iRng1, iRng2, iStr, tSl, tPart, tNoPart, rSlL, cxOf_K, wipe, ex_ty2, kit_LTl, kit_LTt, kit_LTd, kit_LTs, kit_LTn, kit_LTb, kit_LTi, tM1, rIxS, exists_eq', lt1p, tDNewK, rSlS, rEqNil, nox_K]
      have p98' := p98
      refine ⟨p, l, _, c + 1, rfl, by decide, by decide, hp1, by omega, fun v2 H2 w0 w1 hp2 off2 => ⟨_, rfl, p, l, _, c + 2, rfl, by decide, by decide, hp2, by omega, fun v3 H3 x0 x1 hp3 off3 => ⟨_, rfl, ?_⟩⟩⟩
      exact fin _ _ (c + 3) H3 (by omega) (by omega) (by omega) (by omega) hp3 (by omega) (((Off.s off1).trans (Off.s off2)).trans (Off.s off3))
end

/-! ### k55: the ranges drawn -/
theorem make_go' {C : Addr} {E : XK} {vs dvs : List V} {H : Hp} {Q : VK} {t b : Int} {n : Nat} (e : vs ++ dvs = [.int t, .int b]) (hb : b ≠ 0) (h1 : t.natAbs < 2 ^ n) (h2 : b.natAbs < 2 ^ n) (hn : n ≤ 9000)
    (k : ∀ H' a dx, H a = none → Same H H' → H' a = some (.ins C dx (rf (Rat.divInt t b))) → Bd n (Rat.divInt t b) → Q (.ref a) H') : mkGo C (spInit C) dvs E vs H Q := by
  intro x dx nx nd ne
  rw [e]
  refine ⟨x, dx, t, b, rfl, hb, abs_mono h2 hn, upd_same, rfl, ?_⟩
  refine k _ x dx nx (fun c o hc => ?_) upd_same (bd_divInt h1 h2 hb)
  have c1 : c ≠ x := fun z => by rw [z, nx] at hc; cases hc
  have c2 : c ≠ dx := fun z => by rw [z, nd] at hc; cases hc
  rw [upd_ne c1, upd_ne c1, upd_ne c2]
  exact hc
theorem p97 : (100000000000000000000000000000 : Nat) ≤ 2 ^ 97 := by decide
theorem p97' : (2 : Nat) ^ 97 * 6 < 2 ^ 100 := by decide
theorem pickI (xs : List Int) {v : Int} (h0 : 0 ≤ v) (h1 : v < (xs.length : Int)) : ∃ i, atI (xs.map V.int) v = some (.int i) ∧ i ∈ xs := by
  obtain ⟨u, hu, hm, _⟩ := atI_ex (xs := xs.map V.int) h0 (by rw [List.length_map]; exact h1)
  obtain ⟨i, hi, rfl⟩ := List.mem_map.mp hm
  exact ⟨i, hu, hi⟩

theorem cut_but1 {xs : List V} (h : 0 < xs.length) : cutV xs none (some (-1)) = xs.take (xs.length - 1) := by
  unfold cutV
  rw [HT.sIx_none]
  have e : HT.sIx xs.length xs.length (some (-1)) = xs.length - 1 := by
    show (if (-1 : Int) < 0 then ((-1 : Int) + (xs.length : Int)).toNat else min (-1 : Int).toNat xs.length) = xs.length - 1
    rw [if_pos (by decide)]
    omega
  rw [e, List.drop_zero, Nat.sub_zero]
theorem at_last {xs : List V} {v : V} (h : xs[xs.length - 1]? = some v) : atI xs (-1) = some v := by
  have hl := (List.getElem?_eq_some_iff.mp h).1
  unfold atI
  have e : ixN xs.length (-1) = some (xs.length - 1) := by
    unfold ixN
    rw [if_neg (by decide), if_pos (by omega)]
    congr 1
    omega
  rw [e]
  exact h

/-- all but lists is kept -/
def Nl (H H' : Hp) : Prop := ∀ b o, (∀ ys, o ≠ .lst ys) → H b = some o → H' b = some o
theorem Nl.refl {H : Hp} : Nl H H := fun _ _ _ h => h
theorem Nl.trans {H H1 H2 : Hp} (a : Nl H H1) (b : Nl H1 H2) : Nl H H2 := fun x o n h => b x o n (a x o n h)
theorem Nl.same {H H' : Hp} (s : Same H H') : Nl H H' := fun b o _ h => s b o h
theorem Nl.off {p l : Addr} {c : Nat} {H H' : Hp} (hp : PoolAt p l c H) (s : OffS p l H H') : Nl H H' := fun b o n h => by
  obtain ⟨ns, t, m, z, y, h1, h2, _⟩ := hp
  exact s b o (fun e => by rw [e, h1] at h; exact n _ (Option.some.inj h).symm) (fun e => by rw [e, h2] at h; exact n _ (Option.some.inj h).symm) h
theorem Nl.mut {a : Addr} {H : Hp} {xs ys : List V} (h : H a = some (.lst xs)) : Nl H (upd H a (.lst ys)) := fun b o n e => by
  rw [upd_ne (fun z => by rw [z, h] at e; exact n _ (Option.some.inj e).symm)]
  exact e
theorem RatAt.nl {C : Addr} {H H' : Hp} {v : V} {q : Rat} {n : Nat} (h : RatAt C H v q n) (s : Nl H H') : RatAt C H' v q n := by
  obtain ⟨⟨a, dx, e, h⟩, b⟩ := h
  exact ⟨⟨a, dx, e, s _ _ (fun ys z => by cases z) h⟩, b⟩
theorem NumAt.nl {C : Addr} {H H' : Hp} {v : V} {q : Rat} {n : Nat} (h : NumAt C H v q n) (s : Nl H H') : NumAt C H' v q n := h.imp (fun h => h.nl s) id
theorem RHi.nl {C : Addr} {H H' : Hp} {y : V} {n : Nat} {h : Option Rat} (x : RHi C H y n h) (s : Nl H H') : RHi C H' y n h := by
  cases h with
  | none => exact x
  | some q => exact RatAt.nl (show RatAt C H y q n from x) s
theorem NHi.nl {C : Addr} {H H' : Hp} {y : V} {n : Nat} {h : Option Rat} (x : NHi C H y n h) (s : Nl H H') : NHi C H' y n h := by
  cases h with
  | none => exact x
  | some q => exact NumAt.nl (show NumAt C H y q n from x) s
theorem RPart.nl {C : Addr} {H H' : Hp} {v : V} {n : Nat} {p : Pt} (h : RPart C H v n p) (s : Nl H H') : RPart C H' v n p := by
  obtain ⟨t, x, y, e, h1, h2, h3⟩ := h
  exact ⟨t, x, y, e, s _ _ (fun ys z => by cases z) h1, h2.nl s, h3.nl s⟩
theorem NPart.nl {C : Addr} {H H' : Hp} {v : V} {n : Nat} {p : Pt} (h : NPart C H v n p) (s : Nl H H') : NPart C H' v n p := by
  obtain ⟨t, x, y, e, h1, h2, h3⟩ := h
  exact ⟨t, x, y, e, s _ _ (fun ys z => by cases z) h1, h2.nl s, h3.nl s⟩
theorem RPs.nl {C : Addr} {H H' : Hp} {xs : List V} {n : Nat} {ps : List Pt} (h : RPs C H xs n ps) (s : Nl H H') : RPs C H' xs n ps := ⟨h.len, fun i v p h1 h2 => (h.ea i v p h1 h2).nl s⟩
theorem NPs.nl {C : Addr} {H H' : Hp} {xs : List V} {n : Nat} {ps : List Pt} (h : NPs C H xs n ps) (s : Nl H H') : NPs C H' xs n ps := ⟨h.len, fun i v p h1 h2 => (h.ea i v p h1 h2).nl s⟩
theorem RatAt.mono {C : Addr} {H : Hp} {v : V} {q : Rat} {n m : Nat} (h : RatAt C H v q n) (l : n ≤ m) : RatAt C H v q m := ⟨h.1, h.2.mono l⟩
theorem RHi.mono {C : Addr} {H : Hp} {y : V} {n m : Nat} {h : Option Rat} (x : RHi C H y n h) (l : n ≤ m) : RHi C H y m h := by
  cases h with
  | none => exact x
  | some q => exact RatAt.mono (show RatAt C H y q n from x) l
theorem RPart.mono {C : Addr} {H : Hp} {v : V} {n m : Nat} {p : Pt} (h : RPart C H v n p) (l : n ≤ m) : RPart C H v m p := by
  obtain ⟨t, x, y, e, h1, h2, h3⟩ := h
  exact ⟨t, x, y, e, h1, h2.mono l, h3.mono l⟩
theorem RPs.mono {C : Addr} {H : Hp} {xs : List V} {n m : Nat} {ps : List Pt} (h : RPs C H xs n ps) (l : n ≤ m) : RPs C H xs m ps := ⟨h.len, fun i v p h1 h2 => (h.ea i v p h1 h2).mono l⟩
theorem snoc_at {α : Type} {xs : List α} {x v : α} {i : Nat} (h : (xs ++ [x])[i]? = some v) : (i < xs.length ∧ xs[i]? = some v) ∨ (i = xs.length ∧ v = x) := by
  rcases Nat.lt_or_ge i xs.length with hl | hl
  · rw [List.getElem?_append_left hl] at h
    exact .inl ⟨hl, h⟩
  · rw [List.getElem?_append_right hl] at h
    obtain ⟨j, rfl⟩ : ∃ j, i = xs.length + j := ⟨i - xs.length, by omega⟩
    rw [Nat.add_sub_cancel_left] at h
    cases j with
    | zero => cases h; exact .inr ⟨rfl, rfl⟩
    | succ j => cases h
theorem RPs.snoc {C : Addr} {H : Hp} {xs : List V} {n : Nat} {ps : List Pt} {v : V} {p : Pt} (h : RPs C H xs n ps) (hv : RPart C H v n p) : RPs C H (xs ++ [v]) n (ps ++ [p]) := ⟨by rw [List.length_append, List.length_append, h.len]; rfl, fun i v' p' h1 h2 => by
  have hl := h.len
  rcases snoc_at h1 with ⟨l1, g1⟩ | ⟨l1, g1⟩
  · rcases snoc_at h2 with ⟨l2, g2⟩ | ⟨l2, g2⟩
    · exact h.ea i v' p' g1 g2
    · omega
  · rcases snoc_at h2 with ⟨l2, g2⟩ | ⟨l2, g2⟩
    · omega
    · subst g1 g2
      exact hv⟩
theorem AscP.snoc {ps : List Pt} {q : Pt} (h : AscP ps) (hl : ∀ p, ps[ps.length - 1]? = some p → ∃ x, p.2 = some x ∧ x < q.1) : AscP (ps ++ [q]) := fun i p r h1 h2 => by
  rcases snoc_at h2 with ⟨l2, g2⟩ | ⟨l2, g2⟩
  · rcases snoc_at h1 with ⟨l1, g1⟩ | ⟨l1, g1⟩
    · exact h i p r g1 g2
    · omega
  · rcases snoc_at h1 with ⟨l1, g1⟩ | ⟨l1, g1⟩
    · subst g2
      exact hl p (by rw [← l2, Nat.add_sub_cancel]; exact g1)
    · omega
theorem last_ix {α : Type} {xs : List α} (h : xs ≠ []) : ixN xs.length (-1) = some (xs.length - 1) := by
  have : 0 < xs.length := List.length_pos_iff.mpr h
  unfold ixN
  rw [if_neg (by decide), if_pos (by omega)]
  congr 1
  omega
theorem set_at {α : Type} {xs : List α} {x v : α} {i j : Nat} (h : (xs.set j x)[i]? = some v) : (i ≠ j ∧ xs[i]? = some v) ∨ (i = j ∧ v = x) := by
  rw [List.getElem?_set] at h
  split at h
  · rename_i e
    split at h
    · exact .inr ⟨e.symm, (Option.some.inj h).symm⟩
    · cases h
  · rename_i e
    exact .inl ⟨fun z => e z.symm, h⟩
theorem RPs.setL {C : Addr} {H : Hp} {xs : List V} {n : Nat} {ps : List Pt} {v : V} {p : Pt} {j : Nat} (h : RPs C H xs n ps) (hv : RPart C H v n p) : RPs C H (xs.set j v) n (ps.set j p) := ⟨by rw [List.length_set, List.length_set, h.len], fun i v' p' h1 h2 => by
  rcases set_at h1 with ⟨l1, g1⟩ | ⟨l1, g1⟩
  · rcases set_at h2 with ⟨l2, g2⟩ | ⟨l2, g2⟩
    · exact h.ea i v' p' g1 g2
    · exact absurd l2 l1
  · rcases set_at h2 with ⟨l2, g2⟩ | ⟨l2, g2⟩
    · exact absurd l1 l2
    · subst g1 g2
      exact hv⟩
theorem last_none {ps : List Pt} {p : Pt} (ok : ∀ p ∈ ps, Okp p) (as : AscP ps) (h : ps[ps.length - 1]? = some p) : (∀ q ∈ ps.set (ps.length - 1) (p.1, none), Okp q) ∧ AscP (ps.set (ps.length - 1) (p.1, none)) := by
  refine ⟨fun q hq => ?_, fun i a b h1 h2 => ?_⟩
  · obtain ⟨i, hi⟩ := List.mem_iff_getElem?.mp hq
    rcases set_at hi with ⟨_, g⟩ | ⟨_, g⟩
    · exact ok q (List.mem_of_getElem? g)
    · rw [g]
      exact ⟨(ok p (List.mem_of_getElem? h)).1, fun h z => by cases z⟩
  · have hl : i + 1 < ps.length := by
      have := (List.getElem?_eq_some_iff.mp h2).1
      rw [List.length_set] at this
      exact this
    rcases set_at h1 with ⟨_, g1⟩ | ⟨l1, _⟩
    · rcases set_at h2 with ⟨_, g2⟩ | ⟨l2, g2⟩
      · exact as i a b g1 g2
      · rw [← l2] at h
        rw [g2]
        exact as i a p g1 h
    · omega
theorem bin_go {C : Addr} {f : Rat → Rat → Rat} {E : XK} {H : Hp} {x y : V} {p q : Rat} {n m : Nat} {Q : VK} (hx : RatAt C H x p n) (hy : NumAt C H y q m) (hn : n + m + 1 ≤ 9000) (k : ∀ H' v, Same H H' → RatAt C H' v (f p q) (n + m + 1) → Q v H') : rOwn C (spBin C f) E x y H Q := by
  obtain ⟨⟨a, dx, rfl, ha⟩, _⟩ := id hx
  exact ⟨a, dx, _, rfl, ha, hy.own, _, _, p, q, n, m, rfl, hx, hy, hn, k⟩
/-- the parts drawn so far: the last ends at lo -/
structure Drw (ps : List Pt) (lo : Rat) : Prop where
  ok : ∀ p ∈ ps, Okp p
  asc : AscP ps
  last : ∀ p, ps[ps.length - 1]? = some p → p.2 = some lo
  lo0 : 0 ≤ lo
  fst : ps = [] → lo = 0
structure DrwE (ps : List Pt) : Prop where
  ok : ∀ p ∈ ps, Okp p
  asc : AscP ps
  l4 : ps.length ≤ 4
theorem Drw.step {ps : List Pt} {lo lo2 hi : Rat} (d : Drw ps lo) (h1 : ps ≠ [] → lo < lo2) (h0 : 0 ≤ lo2) (h2 : lo2 ≤ hi) (h3 : 0 < hi) : Drw (ps ++ [(lo2, some hi)]) hi := by
  refine ⟨fun p hp => ?_, d.asc.snoc fun p hp => ?_, fun p hp => ?_, Rat.le_of_lt h3, fun z => by simp at z⟩
  · rcases List.mem_append.mp hp with h | h
    · exact d.ok p h
    · rw [List.mem_singleton.mp h]
      exact ⟨h0, fun h z => by cases z; exact ⟨h3, h2⟩⟩
  · have ne : ps ≠ [] := fun z => by rw [z] at hp; cases hp
    exact ⟨lo, d.last p hp, h1 ne⟩
  · rw [List.length_append, List.length_singleton, Nat.add_sub_cancel, List.getElem?_append_right (Nat.le_refl _), Nat.sub_self] at hp
    cases hp
    rfl
def spDrawn (C : Addr) : Sp := fun vs H Q _ => ∃ p l c, vs = [.ref p] ∧ PoolAt p l c H ∧ c ≤ 70000000 ∧ ∀ H' a xs ps, PoolAt p l (c + 40) H' → H a = none → OffS p l H H' → H' a = some (.lst xs) → RPs C H' xs 820 ps → DrwE ps → Q (.ref a) H'
def LD (C p l sA : Addr) (H0 : Hp) (c0 : Nat) (i : Nat) (σ : St) (H : Hp) : Prop := ∃ (v3 v4 v5 v6 : Option V) (lv : V) (c : Nat) (xs : List V) (ps : List Pt) (lo : Rat), σ = [some (.ref p), some (.ref sA), some lv, v3, v4, v5, v6] ∧ PoolAt p l c H ∧ c ≤ c0 + 8 * i ∧ OffS p l H0 H ∧ H sA = some (.lst xs) ∧ RPs C H xs (2 + 204 * i) ps ∧ ps.length = i ∧ RatAt C H lv lo (2 + 204 * i) ∧ Drw ps lo
section
variable {P : Program} {w : World} {K : PySem.W.Frag} {mg : Str → Option Value} {base : Heap} {A : Adr}
theorem ok_drawn (T : Txt K mg A) (gLawDraw : FnOk P w K mg base CX0 2 A.a_LawDraw A.d_LawDraw ["_law_pool_here", "_law_many"] spLawDraw) (gLawPrice : FnOk P w K mg base CX0 3 A.a_LawPrice A.d_LawPrice ["_law_pool_here", "_law_floor"] spPrice)
    (gRatioInit : FnOk P w K mg base CX0 2 A.a_RatioInit A.d_RatioInit ["self", "top", "bottom"] (spInit A.k_Ratio)) (gRatioAdd : FnOk P w K mg base CX0 5 A.a_RatioAdd A.d_RatioAdd ["self", "other"] (spBin A.k_Ratio (· + ·))) (gRatioMul : FnOk P w K mg base CX0 5 A.a_RatioMul A.d_RatioMul ["self", "other"] (spBin A.k_Ratio (· * ·)))
    (gRatioEq : FnOk P w K mg base CX0 5 A.a_RatioEq A.d_RatioEq ["self", "other"] (spCmpA A.k_Ratio (fun p q => decide (p = q)) false)) :
    FnOk P w K mg base CX0 6 A.a_LawRangesDrawn A.d_LawRangesDrawn ["_law_pool_here"] (spDrawn A.k_Ratio) := by
  refine T.f_LawRangesDrawn.ok scLawRangesDrawn (fun vs H Q E h => ?_) (fun cdv A' outer s H vs Q E hr h => ?_)
  · obtain ⟨p, l, c, rfl, _⟩ := h
    rfl
  · obtain ⟨p, l, c, rfl, hp, hc, k⟩ := h
    refine ⟨_, (pss_cons (ps_par (i := 1) (j := 2) (by rfl) scLawRangesDrawn.nd rfl rfl (by decide) rfl rfl (pa_cons (pe_lst pa_nil) (pa_cons (pe_make T.mk_Ratio gRatioInit (hr.mono (by decide)) (by rfl) T.k_Ratio T.e1_RatioInit.choose_spec.2 T.e1_RatioInit.choose_spec.1 pass0 (pa_cons pe_int pa_nil)) pa_nil)) (by rfl))
      (pss_cons (ps_for PassesOwn.never rfl (pi_range1 (by rfl) T.z_range (pa_cons (pe_call gLawDraw (hr.mono (by decide)) (by rfl) T.m_LawDraw T.f_LawDraw.kp T.b_LawDraw .nil pass0 (pa_cons (pv 0) (pa_cons pe_int pa_nil))) pa_nil)) (pg_name (i := 3) scLawRangesDrawn.nd rfl (Or.inl rfl)) (pss_cons (ps_set (i := 4) scLawRangesDrawn.nd rfl (Or.inl rfl) (pe_call gLawPrice (hr.mono (by decide)) (by rfl) T.m_LawPrice T.f_LawPrice.kp T.b_LawPrice .nil pass0 (pa_cons (pv 0) (pa_cons pe_int pa_nil))))
      (pss_cons (ps_set (i := 5) scLawRangesDrawn.nd rfl (Or.inl rfl) (pe_op op_mulW (pe_ix ix_lstH (pe_lst (pa_cons pe_int (pa_cons pe_int (pa_cons pe_int (pa_cons pe_int pa_nil))))) (pe_call gLawDraw (hr.mono (by decide)) (by rfl) T.m_LawDraw T.f_LawDraw.kp T.b_LawDraw .nil pass0 (pa_cons (pv 0) (pa_cons pe_int pa_nil))) (fun _ _ => rfl)) (pe_callTy call_intB (by rfl) T.z_int (by decide +kernel) (pa_cons (pe_cmpR (op_eq) (pv 3) pe_int (nomark _)) pa_nil))))
      (pss_cons (ps_set (i := 2) scLawRangesDrawn.nd rfl (Or.inl rfl) (pe_op (op_own T.o_RatioAdd gRatioAdd (hr.mono (by decide)) T.b_RatioAdd pass0) (pv 2) (pe_op (op_own T.o_RatioMul gRatioMul (hr.mono (by decide)) T.b_RatioMul pass0) (pe_make T.mk_Ratio gRatioInit (hr.mono (by decide)) (by rfl) T.k_Ratio T.b_RatioInit .nil pass0 (pa_cons (pe_ix ix_tupH (pv 4) pe_int (fun _ _ => rfl)) (pa_cons (pe_ix ix_tupH (pv 4) pe_int (fun _ _ => rfl)) pa_nil))) (pe_callTy call_intB (by rfl) T.z_int (by decide +kernel) (pa_cons (pe_or (pe_cmpR (op_gt) (pv 3) pe_int (nomark _)) (pe_one (pe_cmpR (op_gt) (pv 5) pe_int (nomark _)))) pa_nil)))))
      (pss_cons (ps_set (i := 6) scLawRangesDrawn.nd rfl (Or.inl rfl) (pe_op (op_own T.o_RatioAdd gRatioAdd (hr.mono (by decide)) T.b_RatioAdd pass0) (pv 2) (pe_ix ix_lstH (pe_lst (pa_cons (pe_make T.mk_Ratio gRatioInit (hr.mono (by decide)) (by rfl) T.k_Ratio T.e1_RatioInit.choose_spec.2 T.e1_RatioInit.choose_spec.1 pass0 (pa_cons pe_int pa_nil)) (pa_cons (pe_make T.mk_Ratio gRatioInit (hr.mono (by decide)) (by rfl) T.k_Ratio T.b_RatioInit .nil pass0 (pa_cons pe_int (pa_cons (pe_op op_add pe_int (pe_call gLawDraw (hr.mono (by decide)) (by rfl) T.m_LawDraw T.f_LawDraw.kp T.b_LawDraw .nil pass0 (pa_cons (pv 0) (pa_cons pe_int pa_nil)))) pa_nil))) (pa_cons (pe_make T.mk_Ratio gRatioInit (hr.mono (by decide)) (by rfl) T.k_Ratio T.e1_RatioInit.choose_spec.2 T.e1_RatioInit.choose_spec.1 pass0 (pa_cons (pe_call gLawDraw (hr.mono (by decide)) (by rfl) T.m_LawDraw T.f_LawDraw.kp T.b_LawDraw .nil pass0 (pa_cons (pv 0) (pa_cons (pe_op op_pow pe_int pe_int) pa_nil))) pa_nil)) pa_nil)))) (pe_call gLawDraw (hr.mono (by decide)) (by rfl) T.m_LawDraw T.f_LawDraw.kp T.b_LawDraw .nil pass0 (pa_cons (pv 0) (pa_cons pe_int pa_nil))) (fun _ _ => rfl))))
      (pss_cons (ps_if (pt_cmpR (op_ownC (fun _ _ => rfl) T.o_RatioEq gRatioEq (hr.mono (by decide)) T.b_RatioEq pass0) (pv 6) pe_int (nomark _)) (pss_one (ps_set (i := 6) scLawRangesDrawn.nd rfl (Or.inl rfl) (pe_make T.mk_Ratio gRatioInit (hr.mono (by decide)) (by rfl) T.k_Ratio T.b_RatioInit .nil pass0 (pa_cons pe_int (pa_cons pe_int pa_nil))))) pss_nil)
      (pss_cons (ps_expr (pe_bm PySem.F.plainAttrs_list PySem.F.slot_list_append PySem.F.type_list_append mt_append (pv 1) (pa_cons (pe_tup (pa_cons (pv 2) (pa_cons (pv 6) pa_nil))) pa_nil)))
      (pss_one (ps_set (i := 2) scLawRangesDrawn.nd rfl (Or.inl rfl) (pv 6))))))))))
      (pss_cons (ps_if (PW.pt (pw_and (pt_cmpR (op_neNil hr.units) (pv 1) (pe_lst pa_nil) (nomark _)) (pw_and1 (pt_cmpR (op_eq) (pe_call gLawDraw (hr.mono (by decide)) (by rfl) T.m_LawDraw T.f_LawDraw.kp T.b_LawDraw .nil pass0 (pa_cons (pv 0) (pa_cons pe_int pa_nil))) pe_int (nomark _))))) (pss_one (ps_asg (pe_tup (pa_cons (pe_ix ix_tupH (pe_ix ix_lstH (pv 1) (pe_un un_neg pe_int) (fun _ _ => rfl)) pe_int (fun _ _ => rfl)) (pa_cons pe_non pa_nil))) (pg_sub (pv 1) (pe_un un_neg pe_int) set_list))) pss_nil)
      (pss_one (ps_ret (pv 1)))))), ?_⟩
    refine seq_gen fun N eN => ?_
    try simp only [tSeq, tNext, tRet, tRetN, tAsg, gName, gSub, tDrop, tIfS, tOp, tUn, tCB, tCons, tNil, tC, tVar, rI, rI0, rU, tAnd, tOr, tNot, tAndV, tOrV, tNotV, tIf, tTest, tB, tCall, tChain, tLst, tTup, tYes, rIxH, rIsB, rIsBT, rMulS, kd_non, kd_bl, kd_int, kd_str, kd_ref, kdO_lst, kdO_tup, kdO_dK, nq_n, nq_b, nq_i, nq_s, nq_l, nq_t, nq_d, ne_eq, not_false_eq_true, kit_ss, kit_ns, kit_bs, kit_is, kit_ls, kit_ts, kit_ds, kit_bb, V.ty.injEq, and_assoc, rIxU, rLenH, rLenU, rLenS, rInt1, rSetL, rEq, rNe, rCat, L2.start, List.map, List.length, List.length_cons, List.length_nil, List.replicate, List.getElem?_cons_zero, List.getElem?_cons_succ, List.set_cons_zero, List.set_cons_succ, List.set_nil, List.cons_append, List.nil_append, List.append_nil, Option.some.injEq, V.int.injEq, V.ref.injEq, V.str.injEq, V.bl.injEq, HO.lst.injEq, HO.tup.injEq, exists_eq_left', exists_and_left, exists_eq_left, List.cons.injEq, and_true, true_and, and_false, false_and, and_self, reduceCtorEq, exists_false, or_false, false_or, exists_const, at0, at1, at2, at3, at4, at5, ix51, ix52, ix54, upd_same, Nat.reduceAdd, Nat.reduceSub, Nat.zero_add, Int.reduceToNat, Int.reduceLE, Int.reduceLT, decide_eq_true_eq, Bool.not_eq_true, if_true, if_false, Bool.false_eq_true, ite_true, ite_false, Bool.not_true, Bool.not_false, decide_true, decide_false, tFor_eq, tLc_eq, iList, iTup, iRng1, iRng2, iStr, tSl, tPart, tNoPart, rSlL, cxOf_K, wipe, ex_ty2, kit_LTl, kit_LTt, kit_LTd, kit_LTs, kit_LTn, kit_LTb, kit_LTi, tM1, rIxS, exists_eq', lt1p, tDNewK, rSlS, rEqNil, nox_K, tPar, tMake_eq]
    refine ⟨by decide, ?_⟩
    intro sA n_sA; generalize g_H1 : upd H sA _ = H1; obtain ⟨s_H1, h_sA⟩ := new_facts n_sA g_H1; clear g_H1
    have nps := hp.np n_sA
    refine make_go' (t := 0) (b := 1) (n := 2) rfl (by decide) (by decide) (by decide) (by decide) fun H2 r dr nr s2 hr2 bd => ?_
    rw [of_num] at hr2 bd
    have hs2 := s2 _ _ h_sA
    have hp2 := (hp.same s_H1).same s2
    have s02 := s_H1.trans s2
    try simp only [tSeq, tNext, tRet, tRetN, tAsg, gName, gSub, tDrop, tIfS, tOp, tUn, tCB, tCons, tNil, tC, tVar, rI, rI0, rU, tAnd, tOr, tNot, tAndV, tOrV, tNotV, tIf, tTest, tB, tCall, tChain, tLst, tTup, tYes, rIxH, rIsB, rIsBT, rMulS, kd_non, kd_bl, kd_int, kd_str, kd_ref, kdO_lst, kdO_tup, kdO_dK, nq_n, nq_b, nq_i, nq_s, nq_l, nq_t, nq_d, ne_eq, not_false_eq_true, kit_ss, kit_ns, kit_bs, kit_is, kit_ls, kit_ts, kit_ds, kit_bb, V.ty.injEq, and_assoc, rIxU, rLenH, rLenU, rLenS, rInt1, rSetL, rEq, rNe, rCat, L2.start, List.map, List.length, List.length_cons, List.length_nil, List.replicate, List.getElem?_cons_zero, List.getElem?_cons_succ, List.set_cons_zero, List.set_cons_succ, List.set_nil, List.cons_append, List.nil_append, List.append_nil, Option.some.injEq, V.int.injEq, V.ref.injEq, V.str.injEq, V.bl.injEq, HO.lst.injEq, HO.tup.injEq, exists_eq_left', exists_and_left, exists_eq_left, List.cons.injEq, and_true, true_and, and_false, false_and, and_self, reduceCtorEq, exists_false, or_false, false_or, exists_const, at0, at1, at2, at3, at4, at5, ix51, ix52, ix54, upd_same, Nat.reduceAdd, Nat.reduceSub, Nat.zero_add, Int.reduceToNat, Int.reduceLE, Int.reduceLT, decide_eq_true_eq, Bool.not_eq_true, if_true, if_false, Bool.false_eq_true, ite_true, ite_false, Bool.not_true, Bool.not_false, decide_true, decide_false, tFor_eq, tLc_eq, iList, iTup, iRng1, iRng2, iStr, tSl, tPart, tNoPart, rSlL, cxOf_K, wipe, ex_ty2, kit_LTl, kit_LTt, kit_LTd, kit_LTs, kit_LTn, kit_LTb, kit_LTi, tM1, rIxS, exists_eq', lt1p, tDNewK, rSlS, rEqNil, nox_K, tPar]
    rw [eN]
    clear eN N
    refine seq_gen fun N eN => ?_
    try simp only [tSeq, tNext, tRet, tRetN, tAsg, gName, gSub, tDrop, tIfS, tOp, tUn, tCB, tCons, tNil, tC, tVar, rI, rI0, rU, tAnd, tOr, tNot, tAndV, tOrV, tNotV, tIf, tTest, tB, tCall, tChain, tLst, tTup, tYes, rIxH, rIsB, rIsBT, rMulS, kd_non, kd_bl, kd_int, kd_str, kd_ref, kdO_lst, kdO_tup, kdO_dK, nq_n, nq_b, nq_i, nq_s, nq_l, nq_t, nq_d, ne_eq, not_false_eq_true, kit_ss, kit_ns, kit_bs, kit_is, kit_ls, kit_ts, kit_ds, kit_bb, V.ty.injEq, and_assoc, rIxU, rLenH, rLenU, rLenS, rInt1, rSetL, rEq, rNe, rCat, L2.start, List.map, List.length, List.length_cons, List.length_nil, List.replicate, List.getElem?_cons_zero, List.getElem?_cons_succ, List.set_cons_zero, List.set_cons_succ, List.set_nil, List.cons_append, List.nil_append, List.append_nil, Option.some.injEq, V.int.injEq, V.ref.injEq, V.str.injEq, V.bl.injEq, HO.lst.injEq, HO.tup.injEq, exists_eq_left', exists_and_left, exists_eq_left, List.cons.injEq, and_true, true_and, and_false, false_and, and_self, reduceCtorEq, exists_false, or_false, false_or, exists_const, at0, at1, at2, at3, at4, at5, ix51, ix52, ix54, upd_same, Nat.reduceAdd, Nat.reduceSub, Nat.zero_add, Int.reduceToNat, Int.reduceLE, Int.reduceLT, decide_eq_true_eq, Bool.not_eq_true, if_true, if_false, Bool.false_eq_true, ite_true, ite_false, Bool.not_true, Bool.not_false, decide_true, decide_false, tFor_eq, tLc_eq, iList, iTup, iRng1, iRng2, iStr, tSl, tPart, tNoPart, rSlL, cxOf_K, wipe, ex_ty2, kit_LTl, kit_LTt, kit_LTd, kit_LTs, kit_LTn, kit_LTb, kit_LTi, tM1, rIxS, exists_eq', lt1p, tDNewK, rSlS, rEqNil, nox_K]
    refine ⟨p, l, 5, c, rfl, by decide, by decide, hp2, by omega, fun m H3 m0 m1 hp3 off3 => ?_⟩
    obtain ⟨m, rfl⟩ : ∃ n : Nat, m = (n : Int) := ⟨m.toNat, (Int.toNat_of_nonneg m0).symm⟩
    have hm := int62 (m := (m : Int)) (by omega) (by omega)
    refine ⟨_, rfl, hm.1, hm.2, ?_⟩
    rw [Int.toNat_natCast]
    have hs3 : H3 sA = some (.lst []) := by rw [off3 sA nps.1 nps.2]; exact hs2
    have rr : RatAt A.k_Ratio H3 (.ref r) 0 2 := RatAt.nl ⟨⟨r, dr, rfl, hr2⟩, bd⟩ (Nl.off hp2 (Off.s off3))
    refine for_go (walk_rangeY (lo := 0) (n := m)) (LD A.k_Ratio p l sA H (c + 1)) ⟨_, _, _, _, _, _, [], [], 0, rfl, hp3, by omega, (same_off s02).trans (Off.s off3), hs3, ⟨rfl, fun i v p h => by cases h⟩, rfl, rr, ⟨fun p hp => (by cases hp), fun i p q h => (by cases h), fun p hp => (by cases hp), Rat.le_refl, fun _ => rfl⟩⟩ (fun _ _ _ _ _ => trivial) (fun i x σ H4 hx q => ?_) (fun σ H4 q => ?_)
    · obtain ⟨v3, v4, v5, v6, lv, c4, xs, ps, lo, rfl, hp4, hc4, off4, hs4, rp4, pl4, rl4, dr4⟩ := q
      obtain ⟨rfl, hi⟩ := rng_item hx
      rw [Int.zero_add]
      refine seq_gen fun N2 eN2 => ?_
      try simp only [tSeq, tNext, tRet, tRetN, tAsg, gName, gSub, tDrop, tIfS, tOp, tUn, tCB, tCons, tNil, tC, tVar, rI, rI0, rU, tAnd, tOr, tNot, tAndV, tOrV, tNotV, tIf, tTest, tB, tCall, tChain, tLst, tTup, tYes, rIxH, rIsB, rIsBT, rMulS, kd_non, kd_bl, kd_int, kd_str, kd_ref, kdO_lst, kdO_tup, kdO_dK, nq_n, nq_b, nq_i, nq_s, nq_l, nq_t, nq_d, ne_eq, not_false_eq_true, kit_ss, kit_ns, kit_bs, kit_is, kit_ls, kit_ts, kit_ds, kit_bb, V.ty.injEq, and_assoc, rIxU, rLenH, rLenU, rLenS, rInt1, rSetL, rEq, rNe, rCat, L2.start, List.map, List.length, List.length_cons, List.length_nil, List.replicate, List.getElem?_cons_zero, List.getElem?_cons_succ, List.set_cons_zero, List.set_cons_succ, List.set_nil, List.cons_append, List.nil_append, List.append_nil, Option.some.injEq, V.int.injEq, V.ref.injEq, V.str.injEq, V.bl.injEq, HO.lst.injEq, HO.tup.injEq, exists_eq_left', exists_and_left, exists_eq_left, List.cons.injEq, and_true, true_and, and_false, false_and, and_self, reduceCtorEq, exists_false, or_false, false_or, exists_const, at0, at1, at2, at3, at4, at5, ix51, ix52, ix54, upd_same, Nat.reduceAdd, Nat.reduceSub, Nat.zero_add, Int.reduceToNat, Int.reduceLE, Int.reduceLT, decide_eq_true_eq, Bool.not_eq_true, if_true, if_false, Bool.false_eq_true, ite_true, ite_false, Bool.not_true, Bool.not_false, decide_true, decide_false, tFor_eq, tLc_eq, iList, iTup, iRng1, iRng2, iStr, tSl, tPart, tNoPart, rSlL, cxOf_K, wipe, ex_ty2, kit_LTl, kit_LTt, kit_LTd, kit_LTs, kit_LTn, kit_LTb, kit_LTi, tM1, rIxS, exists_eq', lt1p, tDNewK, rSlS, rEqNil, nox_K]
      refine ⟨p, l, c4, rfl, hp4, by omega, fun pa u b H5 na ha hu hb b1 b2 hp5 off5 => ?_⟩
      have nl5 := Nl.off hp4 off5
      first | rw [eN2] | (dsimp only; rw [eN2])
      clear eN2 N2
      refine seq_gen fun N2 eN2 => ?_
      try simp only [tSeq, tNext, tRet, tRetN, tAsg, gName, gSub, tDrop, tIfS, tOp, tUn, tCB, tCons, tNil, tC, tVar, rI, rI0, rU, tAnd, tOr, tNot, tAndV, tOrV, tNotV, tIf, tTest, tB, tCall, tChain, tLst, tTup, tYes, rIxH, rIsB, rIsBT, rMulS, kd_non, kd_bl, kd_int, kd_str, kd_ref, kdO_lst, kdO_tup, kdO_dK, nq_n, nq_b, nq_i, nq_s, nq_l, nq_t, nq_d, ne_eq, not_false_eq_true, kit_ss, kit_ns, kit_bs, kit_is, kit_ls, kit_ts, kit_ds, kit_bb, V.ty.injEq, and_assoc, rIxU, rLenH, rLenU, rLenS, rInt1, rSetL, rEq, rNe, rCat, L2.start, List.map, List.length, List.length_cons, List.length_nil, List.replicate, List.getElem?_cons_zero, List.getElem?_cons_succ, List.set_cons_zero, List.set_cons_succ, List.set_nil, List.cons_append, List.nil_append, List.append_nil, Option.some.injEq, V.int.injEq, V.ref.injEq, V.str.injEq, V.bl.injEq, HO.lst.injEq, HO.tup.injEq, exists_eq_left', exists_and_left, exists_eq_left, List.cons.injEq, and_true, true_and, and_false, false_and, and_self, reduceCtorEq, exists_false, or_false, false_or, exists_const, at0, at1, at2, at3, at4, at5, ix51, ix52, ix54, upd_same, Nat.reduceAdd, Nat.reduceSub, Nat.zero_add, Int.reduceToNat, Int.reduceLE, Int.reduceLT, decide_eq_true_eq, Bool.not_eq_true, if_true, if_false, Bool.false_eq_true, ite_true, ite_false, Bool.not_true, Bool.not_false, decide_true, decide_false, tFor_eq, tLc_eq, iList, iTup, iRng1, iRng2, iStr, tSl, tPart, tNoPart, rSlL, cxOf_K, wipe, ex_ty2, kit_LTl, kit_LTt, kit_LTd, kit_LTs, kit_LTn, kit_LTb, kit_LTi, tM1, rIxS, exists_eq', lt1p, tDNewK, rSlS, rEqNil, nox_K]
      refine ⟨by decide, ?_⟩
      intro q1 n_q1; generalize g_H6 : upd H5 q1 _ = H6; obtain ⟨s_H6, h_q1⟩ := new_facts n_q1 g_H6; clear g_H6
      refine ⟨p, l, 4, c4 + 3, rfl, by decide, by decide, hp5.same s_H6, by omega, fun v H7 v0 v1 hp7 off7 => ?_⟩
      obtain ⟨z, hz, mz⟩ := pickI [0, 1, 1, 2] v0 v1
      simp only [List.map] at hz
      have z0 : 0 ≤ z ∧ z ≤ 2 := by
        simp only [List.mem_cons, List.not_mem_nil, or_false] at mz
        rcases mz with rfl | rfl | rfl | rfl <;> decide
      have npq := hp5.np n_q1
      have hq7 : H7 q1 = _ := (off7 q1 npq.1 npq.2).trans h_q1
      have off57 : OffS p l H5 H7 := (same_off s_H6).trans (Off.s off7)
      have nl7 := Nl.off hp5 off57
      refine ⟨_, _, rfl, hq7, _, hz, scal_int, _, rfl, _, rfl, _, rfl, mulw (n := 3) (m := 3) (by omega) (by split <;> decide) (by decide), ?_⟩
      first | rw [eN2] | (dsimp only; rw [eN2])
      clear eN2 N2
      obtain ⟨gp, egp⟩ : ∃ gp : Int, z * (if decide ((i : Int) = 0) = true then 1 else 0) = gp := ⟨_, rfl⟩
      rw [egp]
      clear egp hz hq7 mz
      have npa := hp4.np na
      have ha7 := off57 pa _ npa.1 npa.2 ha
      have hs7 : H7 sA = some (.lst xs) := (off5.trans off57) sA _ nps.1 nps.2 hs4
      have nl47 := nl5.trans nl7
      have rl7 := rl4.nl nl47
      refine seq_gen fun N2 eN2 => ?_
      try simp only [tSeq, tNext, tRet, tRetN, tAsg, gName, gSub, tDrop, tIfS, tOp, tUn, tCB, tCons, tNil, tC, tVar, rI, rI0, rU, tAnd, tOr, tNot, tAndV, tOrV, tNotV, tIf, tTest, tB, tCall, tChain, tLst, tTup, tYes, rIxH, rIsB, rIsBT, rMulS, kd_non, kd_bl, kd_int, kd_str, kd_ref, kdO_lst, kdO_tup, kdO_dK, nq_n, nq_b, nq_i, nq_s, nq_l, nq_t, nq_d, ne_eq, not_false_eq_true, kit_ss, kit_ns, kit_bs, kit_is, kit_ls, kit_ts, kit_ds, kit_bb, V.ty.injEq, and_assoc, rIxU, rLenH, rLenU, rLenS, rInt1, rSetL, rEq, rNe, rCat, L2.start, List.map, List.length, List.length_cons, List.length_nil, List.replicate, List.getElem?_cons_zero, List.getElem?_cons_succ, List.set_cons_zero, List.set_cons_succ, List.set_nil, List.cons_append, List.nil_append, List.append_nil, Option.some.injEq, V.int.injEq, V.ref.injEq, V.str.injEq, V.bl.injEq, HO.lst.injEq, HO.tup.injEq, exists_eq_left', exists_and_left, exists_eq_left, List.cons.injEq, and_true, true_and, and_false, false_and, and_self, reduceCtorEq, exists_false, or_false, false_or, exists_const, at0, at1, at2, at3, at4, at5, ix51, ix52, ix54, upd_same, Nat.reduceAdd, Nat.reduceSub, Nat.zero_add, Int.reduceToNat, Int.reduceLE, Int.reduceLT, decide_eq_true_eq, Bool.not_eq_true, if_true, if_false, Bool.false_eq_true, ite_true, ite_false, Bool.not_true, Bool.not_false, decide_true, decide_false, tFor_eq, tLc_eq, iList, iTup, iRng1, iRng2, iStr, tSl, tPart, tNoPart, rSlL, cxOf_K, wipe, ex_ty2, kit_LTl, kit_LTt, kit_LTd, kit_LTs, kit_LTn, kit_LTb, kit_LTi, tM1, rIxS, exists_eq', lt1p, tDNewK, rSlS, rEqNil, nox_K, tMake_eq, ha7]
      have prp : 0 < Rat.divInt u b := by rw [Rat.lt_iff]; simpa using low_pos hu hb
      refine make_go (t := u) (b := b) (n := 98) rfl (by omega) b1 b2 (by decide) fun H8 x8 s8 hx8 => ?_
      suffices step : ∀ bb : Bool, ((0 : Int) < (i : Int) → bb = true) → rIntB [V.bl bb] H8 fun y H2 =>
        rOwn A.k_Ratio (spBin A.k_Ratio fun x1 x2 => x1 * x2) E0 x8 y H2 fun y H2 =>
          rOwn A.k_Ratio (spBin A.k_Ratio fun x1 x2 => x1 + x2) E0 lv y H2 fun x H1 =>
            N2 [some (V.ref p), some (V.ref sA), some x, some (V.int (i : Int)), some (V.ref pa), some (V.int gp), v6] H1 by
        by_cases hi0 : (0 : Int) < (i : Int)
        · rw [if_pos hi0]
          exact step true fun _ => rfl
        · rw [if_neg hi0]
          exact step _ fun z => absurd z hi0
      intro bb hbb
      refine ⟨bb, rfl, ?_⟩
      have nb : NumAt A.k_Ratio H8 (.int (if bb = true then 1 else 0)) ((if bb = true then 1 else 0 : Int) : Rat) 2 := num_int (by split <;> decide)
      refine bin_go hx8 nb (by decide) fun H9 x9 s9 hx9 => ?_
      refine bin_go ((rl7.same s8).same s9) (.inl hx9) (by omega) fun H10 x10 s10 hx10 => ?_
      first | rw [eN2] | (dsimp only; rw [eN2])
      clear eN2 N2
      obtain ⟨lo2, elo, l1, l2⟩ : ∃ lo2, lo + Rat.divInt u b * ((if bb = true then 1 else 0 : Int) : Rat) = lo2 ∧ (ps ≠ [] → lo < lo2) ∧ 0 ≤ lo2 := by
        refine ⟨_, rfl, fun hne => ?_, ?_⟩
        · have hip : (0 : Int) < (i : Int) := by
            have : ps.length ≠ 0 := fun z => hne (List.eq_nil_of_length_eq_zero z)
            omega
          rw [if_pos (hbb hip)]
          have e1 : (((1 : Int)) : Rat) = 1 := rfl
          rw [e1, Rat.mul_one]
          grind
        · have := dr4.lo0
          have e1 : (((1 : Int)) : Rat) = 1 := rfl
          have e0 : (((0 : Int)) : Rat) = 0 := rfl
          split
          · rw [e1, Rat.mul_one]; grind
          · rw [e0, Rat.mul_zero]; grind
      rw [elo] at hx10
      clear elo
      have s710 := (s8.trans s9).trans s10
      have nl10 := nl47.trans (Nl.same s710)
      have hs10 := s710 _ _ hs7
      have hp10 := hp7.same s710
      refine seq_gen fun N2 eN2 => ?_
      try simp only [tSeq, tNext, tRet, tRetN, tAsg, gName, gSub, tDrop, tIfS, tOp, tUn, tCB, tCons, tNil, tC, tVar, rI, rI0, rU, tAnd, tOr, tNot, tAndV, tOrV, tNotV, tIf, tTest, tB, tCall, tChain, tLst, tTup, tYes, rIxH, rIsB, rIsBT, rMulS, kd_non, kd_bl, kd_int, kd_str, kd_ref, kdO_lst, kdO_tup, kdO_dK, nq_n, nq_b, nq_i, nq_s, nq_l, nq_t, nq_d, ne_eq, not_false_eq_true, kit_ss, kit_ns, kit_bs, kit_is, kit_ls, kit_ts, kit_ds, kit_bb, V.ty.injEq, and_assoc, rIxU, rLenH, rLenU, rLenS, rInt1, rSetL, rEq, rNe, rCat, L2.start, List.map, List.length, List.length_cons, List.length_nil, List.replicate, List.getElem?_cons_zero, List.getElem?_cons_succ, List.set_cons_zero, List.set_cons_succ, List.set_nil, List.cons_append, List.nil_append, List.append_nil, Option.some.injEq, V.int.injEq, V.ref.injEq, V.str.injEq, V.bl.injEq, HO.lst.injEq, HO.tup.injEq, exists_eq_left', exists_and_left, exists_eq_left, List.cons.injEq, and_true, true_and, and_false, false_and, and_self, reduceCtorEq, exists_false, or_false, false_or, exists_const, at0, at1, at2, at3, at4, at5, ix51, ix52, ix54, upd_same, Nat.reduceAdd, Nat.reduceSub, Nat.zero_add, Int.reduceToNat, Int.reduceLE, Int.reduceLT, decide_eq_true_eq, Bool.not_eq_true, if_true, if_false, Bool.false_eq_true, ite_true, ite_false, Bool.not_true, Bool.not_false, decide_true, decide_false, tFor_eq, tLc_eq, iList, iTup, iRng1, iRng2, iStr, tSl, tPart, tNoPart, rSlL, cxOf_K, wipe, ex_ty2, kit_LTl, kit_LTt, kit_LTd, kit_LTs, kit_LTn, kit_LTb, kit_LTi, tM1, rIxS, exists_eq', lt1p, tDNewK, rSlS, rEqNil, nox_K, tMake_eq]
      refine make_go (t := 0) (b := 1) (n := 2) rfl (by decide) (by decide) (by decide) (by decide) fun H11 x11 s11 hx11 => ?_
      rw [of_num] at hx11
      refine ⟨p, l, 4, c4 + 4, rfl, by decide, by decide, hp10.same s11, by omega, fun d1 H12 d10 d11 hp12 off12 => ⟨_, rfl, ?_⟩⟩
      refine make_go (t := 1) (b := 1 + d1) (n := 4) rfl (by omega) (by decide) (by omega) (by decide) fun H13 x13 s13 hx13 => ?_
      have e30 : (10 : Int) ^ 30 = 1000000000000000000000000000000 := by decide
      refine ⟨⟨by decide, by decide, by decide⟩, p, l, _, c4 + 5, rfl, by decide, by decide, hp12.same s13, by omega, fun d2 H14 d20 d21 hp14 off14 => ?_⟩
      rw [e30] at d21
      have p100 : (1000000000000000000000000000000 : Nat) ≤ 2 ^ 100 := by decide
      refine make_go (t := d2) (b := 1) (n := 100) rfl (by decide) (by omega) (by decide) (by decide) fun H15 x15 s15 hx15 => ?_
      rw [of_num] at hx15
      refine ⟨by decide, ?_⟩
      intro q2 n_q2; generalize g_H16 : upd H15 q2 _ = H16; obtain ⟨s_H16, h_q2⟩ := new_facts n_q2 g_H16; clear g_H16
      have hp15 := hp14.same s15
      refine ⟨p, l, 3, c4 + 6, rfl, by decide, by decide, hp15.same s_H16, by omega, fun d3 H17 d30 d31 hp17 off17 => ?_⟩
      have npq2 := hp15.np n_q2
      have hq17 : H17 q2 = _ := (off17 q2 npq2.1 npq2.2).trans h_q2
      have o1012 : OffS p l H10 H12 := (same_off s11).trans (Off.s off12)
      have o1214 : OffS p l H12 H14 := (same_off s13).trans (Off.s off14)
      have o1417 : OffS p l H14 H17 := ((same_off s15).trans (same_off s_H16)).trans (Off.s off17)
      have o1017 := (o1012.trans o1214).trans o1417
      have n1017 := Nl.off hp10 o1017
      have r11 : RatAt A.k_Ratio H17 x11 0 100 := ((hx11.nl (Nl.off (hp10.same s11) (Off.s off12))).nl (Nl.off hp12 (o1214.trans o1417))).mono (by decide)
      have r13 : RatAt A.k_Ratio H17 x13 (Rat.divInt 1 (1 + d1)) 100 := ((hx13.nl (Nl.off (hp12.same s13) (Off.s off14))).nl (Nl.off hp14 o1417)).mono (by decide)
      have r15 : RatAt A.k_Ratio H17 x15 (d2 : Rat) 100 := ((hx15.nl (Nl.same s_H16)).nl (Nl.off (hp15.same s_H16) (Off.s off17)))
      obtain ⟨xv, hxv, mxv, _⟩ := atI_ex (xs := [x11, x13, x15]) (i := d3) d30 (by show d3 < 3; exact d31)
      refine ⟨_, _, rfl, hq17, xv, hxv, ?_⟩
      obtain ⟨dd, rdd, dd0⟩ : ∃ dd, RatAt A.k_Ratio H17 xv dd 100 ∧ 0 ≤ dd := by
        simp only [List.mem_cons, List.not_mem_nil, or_false] at mxv
        rcases mxv with rfl | rfl | rfl
        · exact ⟨_, r11, Rat.le_refl⟩
        · refine ⟨_, r13, Rat.le_of_lt ?_⟩
          rw [Rat.lt_iff]
          simpa using low_pos (u := 1) (l := 1 + d1) (by decide) (by omega)
        · exact ⟨_, r15, Rat.intCast_nonneg.mpr d20⟩
      refine bin_go (hx10.nl n1017) (.inl rdd) (by omega) fun H18 x18 s18 hx18 => ?_
      first | rw [eN2] | (dsimp only; rw [eN2])
      clear eN2 N2 hxv hq17 r11 r13 r15 mxv
      have hle : lo2 ≤ lo2 + dd := by grind
      obtain ⟨hi1, ehi, hle1⟩ : ∃ h, lo2 + dd = h ∧ lo2 ≤ h := ⟨_, rfl, hle⟩
      rw [ehi] at hx18
      have hs18 : H18 sA = some (.lst xs) := s18 _ _ (o1017 sA _ nps.1 nps.2 hs10)
      have hp18 := hp17.same s18
      have nl18 := (nl10.trans n1017).trans (Nl.same s18)
      have off018 : OffS p l H H18 := ((((off4.trans off5).trans off57).trans (same_off s710)).trans o1017).trans (same_off s18)
      have hx10b := (hx10.nl n1017).same s18
      clear off12 off14 off17 o1012 o1214 o1417 hp12 hp14 hp15 hp17
      refine seq_gen fun N2 eN2 => ?_
      try simp only [tSeq, tNext, tRet, tRetN, tAsg, gName, gSub, tDrop, tIfS, tOp, tUn, tCB, tCons, tNil, tC, tVar, rI, rI0, rU, tAnd, tOr, tNot, tAndV, tOrV, tNotV, tIf, tTest, tB, tCall, tChain, tLst, tTup, tYes, rIxH, rIsB, rIsBT, rMulS, kd_non, kd_bl, kd_int, kd_str, kd_ref, kdO_lst, kdO_tup, kdO_dK, nq_n, nq_b, nq_i, nq_s, nq_l, nq_t, nq_d, ne_eq, not_false_eq_true, kit_ss, kit_ns, kit_bs, kit_is, kit_ls, kit_ts, kit_ds, kit_bb, V.ty.injEq, and_assoc, rIxU, rLenH, rLenU, rLenS, rInt1, rSetL, rEq, rNe, rCat, L2.start, List.map, List.length, List.length_cons, List.length_nil, List.replicate, List.getElem?_cons_zero, List.getElem?_cons_succ, List.set_cons_zero, List.set_cons_succ, List.set_nil, List.cons_append, List.nil_append, List.append_nil, Option.some.injEq, V.int.injEq, V.ref.injEq, V.str.injEq, V.bl.injEq, HO.lst.injEq, HO.tup.injEq, exists_eq_left', exists_and_left, exists_eq_left, List.cons.injEq, and_true, true_and, and_false, false_and, and_self, reduceCtorEq, exists_false, or_false, false_or, exists_const, at0, at1, at2, at3, at4, at5, ix51, ix52, ix54, upd_same, Nat.reduceAdd, Nat.reduceSub, Nat.zero_add, Int.reduceToNat, Int.reduceLE, Int.reduceLT, decide_eq_true_eq, Bool.not_eq_true, if_true, if_false, Bool.false_eq_true, ite_true, ite_false, Bool.not_true, Bool.not_false, decide_true, decide_false, tFor_eq, tLc_eq, iList, iTup, iRng1, iRng2, iStr, tSl, tPart, tNoPart, rSlL, cxOf_K, wipe, ex_ty2, kit_LTl, kit_LTt, kit_LTd, kit_LTs, kit_LTn, kit_LTb, kit_LTi, tM1, rIxS, exists_eq', lt1p, tDNewK, rSlS, rEqNil, nox_K, tMake_eq]
      suffices step2 : ∀ (xh : V) (hi : Rat) (H19 : Hp), Same H18 H19 → RatAt A.k_Ratio H19 xh hi (206 + 204 * i) → lo2 ≤ hi → 0 < hi → N2 [some (V.ref p), some (V.ref sA), some x10, some (V.int (i : Int)), some (V.ref pa), some (V.int gp), some xh] H19 by
        obtain ⟨⟨a18, dx18, rfl, ha18⟩, b18⟩ := id hx18
        refine ⟨a18, dx18, _, rfl, ha18, .inl ⟨0, rfl⟩, .inl ⟨_, _, hi1, 0, _, 2, rfl, hx18, num_int (z := 0) (by decide), by omega, fun H19 s19 => ⟨_, rfl, ?_⟩⟩⟩
        have e0 : (((0 : Int)) : Rat) = 0 := rfl
        by_cases h0 : hi1 = 0
        · rw [if_pos (decide_eq_true h0)]
          refine make_go (t := 1) (b := 3) (n := 2) rfl (by decide) (by decide) (by decide) (by decide) fun H20 x20 s20 hx20 => ?_
          refine step2 x20 _ H20 (s19.trans s20) (hx20.mono (by omega)) ?_ ?_
          · rw [h0] at hle1
            have : (0 : Rat) ≤ Rat.divInt 1 3 := by decide
            grind
          · decide
        · rw [if_neg (fun z => h0 (of_decide_eq_true z))]
          refine step2 (.ref a18) hi1 H19 s19 ((hx18.same s19).mono (by omega)) hle1 ?_
          have : 0 ≤ hi1 := by grind
          rcases Rat.le_iff_lt_or_eq.mp this with z | z
          · exact z
          · exact absurd z.symm h0
      intro xh hi H19 s19 hxh g1 g2
      rw [eN2]
      clear eN2 N2
      refine seq_gen fun N2 eN2 => ?_
      try simp only [tSeq, tNext, tRet, tRetN, tAsg, gName, gSub, tDrop, tIfS, tOp, tUn, tCB, tCons, tNil, tC, tVar, rI, rI0, rU, tAnd, tOr, tNot, tAndV, tOrV, tNotV, tIf, tTest, tB, tCall, tChain, tLst, tTup, tYes, rIxH, rIsB, rIsBT, rMulS, kd_non, kd_bl, kd_int, kd_str, kd_ref, kdO_lst, kdO_tup, kdO_dK, nq_n, nq_b, nq_i, nq_s, nq_l, nq_t, nq_d, ne_eq, not_false_eq_true, kit_ss, kit_ns, kit_bs, kit_is, kit_ls, kit_ts, kit_ds, kit_bb, V.ty.injEq, and_assoc, rIxU, rLenH, rLenU, rLenS, rInt1, rSetL, rEq, rNe, rCat, L2.start, List.map, List.length, List.length_cons, List.length_nil, List.replicate, List.getElem?_cons_zero, List.getElem?_cons_succ, List.set_cons_zero, List.set_cons_succ, List.set_nil, List.cons_append, List.nil_append, List.append_nil, Option.some.injEq, V.int.injEq, V.ref.injEq, V.str.injEq, V.bl.injEq, HO.lst.injEq, HO.tup.injEq, exists_eq_left', exists_and_left, exists_eq_left, List.cons.injEq, and_true, true_and, and_false, false_and, and_self, reduceCtorEq, exists_false, or_false, false_or, exists_const, at0, at1, at2, at3, at4, at5, ix51, ix52, ix54, upd_same, Nat.reduceAdd, Nat.reduceSub, Nat.zero_add, Int.reduceToNat, Int.reduceLE, Int.reduceLT, decide_eq_true_eq, Bool.not_eq_true, if_true, if_false, Bool.false_eq_true, ite_true, ite_false, Bool.not_true, Bool.not_false, decide_true, decide_false, tFor_eq, tLc_eq, iList, iTup, iRng1, iRng2, iStr, tSl, tPart, tNoPart, rSlL, cxOf_K, wipe, ex_ty2, kit_LTl, kit_LTt, kit_LTd, kit_LTs, kit_LTn, kit_LTb, kit_LTi, tM1, rIxS, exists_eq', lt1p, tDNewK, rSlS, rEqNil, nox_K, tBM]
      have hs19 := s19 _ _ hs18
      refine ⟨.inl ⟨rfl, _, SqL.of hs19⟩, by decide, ?_⟩
      intro tC n_tC; generalize g_H20 : upd H19 tC _ = H20; obtain ⟨s_H20, h_tC⟩ := new_facts n_tC g_H20; clear g_H20
      have hs20 := s_H20 _ _ hs19
      have ll4 := rp4.len
      refine ⟨sA, _, _, rfl, rfl, hs20, Nat.lt_of_le_of_lt (m := 1000) (by omega) (by decide), ?_⟩
      first | rw [eN2] | (dsimp only; rw [eN2])
      clear eN2 N2
      try simp only [tSeq, tNext, tRet, tRetN, tAsg, gName, gSub, tDrop, tIfS, tOp, tUn, tCB, tCons, tNil, tC, tVar, rI, rI0, rU, tAnd, tOr, tNot, tAndV, tOrV, tNotV, tIf, tTest, tB, tCall, tChain, tLst, tTup, tYes, rIxH, rIsB, rIsBT, rMulS, kd_non, kd_bl, kd_int, kd_str, kd_ref, kdO_lst, kdO_tup, kdO_dK, nq_n, nq_b, nq_i, nq_s, nq_l, nq_t, nq_d, ne_eq, not_false_eq_true, kit_ss, kit_ns, kit_bs, kit_is, kit_ls, kit_ts, kit_ds, kit_bb, V.ty.injEq, and_assoc, rIxU, rLenH, rLenU, rLenS, rInt1, rSetL, rEq, rNe, rCat, L2.start, List.map, List.length, List.length_cons, List.length_nil, List.replicate, List.getElem?_cons_zero, List.getElem?_cons_succ, List.set_cons_zero, List.set_cons_succ, List.set_nil, List.cons_append, List.nil_append, List.append_nil, Option.some.injEq, V.int.injEq, V.ref.injEq, V.str.injEq, V.bl.injEq, HO.lst.injEq, HO.tup.injEq, exists_eq_left', exists_and_left, exists_eq_left, List.cons.injEq, and_true, true_and, and_false, false_and, and_self, reduceCtorEq, exists_false, or_false, false_or, exists_const, at0, at1, at2, at3, at4, at5, ix51, ix52, ix54, upd_same, Nat.reduceAdd, Nat.reduceSub, Nat.zero_add, Int.reduceToNat, Int.reduceLE, Int.reduceLT, decide_eq_true_eq, Bool.not_eq_true, if_true, if_false, Bool.false_eq_true, ite_true, ite_false, Bool.not_true, Bool.not_false, decide_true, decide_false, tFor_eq, tLc_eq, iList, iTup, iRng1, iRng2, iStr, tSl, tPart, tNoPart, rSlL, cxOf_K, wipe, ex_ty2, kit_LTl, kit_LTt, kit_LTd, kit_LTs, kit_LTn, kit_LTb, kit_LTi, tM1, rIxS, exists_eq', lt1p, tDNewK, rSlS, rEqNil, nox_K]
      have s1820 := s19.trans s_H20
      have nl21 := (nl18.trans (Nl.same s1820)).trans (Nl.mut (ys := xs ++ [V.ref tC]) hs20)
      have nm := Nl.mut (ys := xs ++ [V.ref tC]) hs20
      have pt : RPart A.k_Ratio (upd H20 sA (.lst (xs ++ [V.ref tC]))) (.ref tC) (2 + 204 * (i + 1)) (lo2, some hi) := RPart.nl ⟨tC, x10, xh, rfl, h_tC, ((hx10b.same s1820).mono (by omega)), ((hxh.same s_H20).mono (by omega))⟩ nm
      refine ⟨xh, rfl, _, _, _, _, xh, c4 + 7, xs ++ [V.ref tC], ps ++ [(lo2, some hi)], hi, rfl, ?_, by omega, ?_, upd_same, ((rp4.nl nl21).mono (by omega)).snoc pt, by rw [List.length_append, pl4]; rfl, ((hxh.same s_H20).nl nm).mono (by omega), dr4.step l1 l2 g1 g2⟩
      · obtain ⟨ns, tt, n, z, y, h1, h2, h3⟩ := hp18.same s1820
        exact ⟨ns, tt, n, z, y, by rw [upd_ne nps.1.symm]; exact h1, by rw [upd_ne nps.2.symm]; exact h2, h3⟩
      · intro b o nb1 nb2 e
        rw [upd_ne (ne_of_none e n_sA)]
        exact s1820 _ _ (off018 b o nb1 nb2 e)
    · obtain ⟨v3, v4, v5, v6, lv, c4, xs, ps, lo, rfl, hp4, hc4, off4, hs4, rp4, pl4, rl4, dr4⟩ := q
      rw [rngV_len] at pl4 hc4 rp4
      dsimp only
      rw [eN]
      clear eN N
      refine seq_gen fun N eN => ?_
      try simp only [tSeq, tNext, tRet, tRetN, tAsg, gName, gSub, tDrop, tIfS, tOp, tUn, tCB, tCons, tNil, tC, tVar, rI, rI0, rU, tAnd, tOr, tNot, tAndV, tOrV, tNotV, tIf, tTest, tB, tCall, tChain, tLst, tTup, tYes, rIxH, rIsB, rIsBT, rMulS, kd_non, kd_bl, kd_int, kd_str, kd_ref, kdO_lst, kdO_tup, kdO_dK, nq_n, nq_b, nq_i, nq_s, nq_l, nq_t, nq_d, ne_eq, not_false_eq_true, kit_ss, kit_ns, kit_bs, kit_is, kit_ls, kit_ts, kit_ds, kit_bb, V.ty.injEq, and_assoc, rIxU, rLenH, rLenU, rLenS, rInt1, rSetL, rEq, rNe, rCat, L2.start, List.map, List.length, List.length_cons, List.length_nil, List.replicate, List.getElem?_cons_zero, List.getElem?_cons_succ, List.set_cons_zero, List.set_cons_succ, List.set_nil, List.cons_append, List.nil_append, List.append_nil, Option.some.injEq, V.int.injEq, V.ref.injEq, V.str.injEq, V.bl.injEq, HO.lst.injEq, HO.tup.injEq, exists_eq_left', exists_and_left, exists_eq_left, List.cons.injEq, and_true, true_and, and_false, false_and, and_self, reduceCtorEq, exists_false, or_false, false_or, exists_const, at0, at1, at2, at3, at4, at5, ix51, ix52, ix54, upd_same, Nat.reduceAdd, Nat.reduceSub, Nat.zero_add, Int.reduceToNat, Int.reduceLE, Int.reduceLT, decide_eq_true_eq, Bool.not_eq_true, if_true, if_false, Bool.false_eq_true, ite_true, ite_false, Bool.not_true, Bool.not_false, decide_true, decide_false, tFor_eq, tLc_eq, iList, iTup, iRng1, iRng2, iStr, tSl, tPart, tNoPart, rSlL, cxOf_K, wipe, ex_ty2, kit_LTl, kit_LTt, kit_LTd, kit_LTs, kit_LTn, kit_LTb, kit_LTi, tM1, rIxS, exists_eq', lt1p, tDNewK, rSlS, rEqNil, nox_K]
      refine ⟨by decide, ?_⟩
      intro q1 n_q1; generalize g_H5 : upd H4 q1 _ = H5; obtain ⟨s_H5, h_q1⟩ := new_facts n_q1 g_H5; clear g_H5
      have hs5 := s_H5 _ _ hs4
      have ll := rp4.len
      have hp5 := hp4.same s_H5
      refine ⟨sA, q1, xs, [], rfl, rfl, hs5, h_q1, rfl, _, rfl, ?_⟩
      have fin : ∀ (H6 : Hp) (ys : List V) (qs : List Pt), PoolAt p l (c + 40) H6 → OffS p l H H6 → H6 sA = some (.lst ys) → RPs A.k_Ratio H6 ys 820 qs → DrwE qs → N [some (.ref p), some (.ref sA), some lv, v3, v4, v5, v6] H6 := fun H6 ys qs z1 z2 z3 z4 z5 => by
        rw [eN]
        try simp only [tSeq, tNext, tRet, tRetN, tAsg, gName, gSub, tDrop, tIfS, tOp, tUn, tCB, tCons, tNil, tC, tVar, rI, rI0, rU, tAnd, tOr, tNot, tAndV, tOrV, tNotV, tIf, tTest, tB, tCall, tChain, tLst, tTup, tYes, rIxH, rIsB, rIsBT, rMulS, kd_non, kd_bl, kd_int, kd_str, kd_ref, kdO_lst, kdO_tup, kdO_dK, nq_n, nq_b, nq_i, nq_s, nq_l, nq_t, nq_d, ne_eq, not_false_eq_true, kit_ss, kit_ns, kit_bs, kit_is, kit_ls, kit_ts, kit_ds, kit_bb, V.ty.injEq, and_assoc, rIxU, rLenH, rLenU, rLenS, rInt1, rSetL, rEq, rNe, rCat, L2.start, List.map, List.length, List.length_cons, List.length_nil, List.replicate, List.getElem?_cons_zero, List.getElem?_cons_succ, List.set_cons_zero, List.set_cons_succ, List.set_nil, List.cons_append, List.nil_append, List.append_nil, Option.some.injEq, V.int.injEq, V.ref.injEq, V.str.injEq, V.bl.injEq, HO.lst.injEq, HO.tup.injEq, exists_eq_left', exists_and_left, exists_eq_left, List.cons.injEq, and_true, true_and, and_false, false_and, and_self, reduceCtorEq, exists_false, or_false, false_or, exists_const, at0, at1, at2, at3, at4, at5, ix51, ix52, ix54, upd_same, Nat.reduceAdd, Nat.reduceSub, Nat.zero_add, Int.reduceToNat, Int.reduceLE, Int.reduceLT, decide_eq_true_eq, Bool.not_eq_true, if_true, if_false, Bool.false_eq_true, ite_true, ite_false, Bool.not_true, Bool.not_false, decide_true, decide_false, tFor_eq, tLc_eq, iList, iTup, iRng1, iRng2, iStr, tSl, tPart, tNoPart, rSlL, cxOf_K, wipe, ex_ty2, kit_LTl, kit_LTt, kit_LTd, kit_LTs, kit_LTn, kit_LTb, kit_LTi, tM1, rIxS, exists_eq', lt1p, tDNewK, rSlS, rEqNil, nox_K]
        exact k H6 sA ys qs z1 n_sA z2 z3 z4 z5
      have de : DrwE ps := ⟨dr4.ok, dr4.asc, by omega⟩
      by_cases he : xs = []
      · rw [if_neg (by rw [he]; decide)]
        exact fin H5 xs ps (hp5.mono (by omega)) (off4.trans (same_off s_H5)) hs5 ((rp4.same s_H5).mono (by omega)) de
      · rw [if_pos (by cases xs with | nil => exact absurd rfl he | cons _ _ => rfl)]
        refine ⟨p, l, 3, c4, rfl, by decide, by decide, hp5, by omega, fun d H6 d0 d1 hp6 off6 => ⟨scal_int, ?_⟩⟩
        have hs6 : H6 sA = some (.lst xs) := (off6 sA nps.1 nps.2).trans hs5
        have o46 : OffS p l H4 H6 := (same_off s_H5).trans (Off.s off6)
        have rp6 := (rp4.nl (Nl.off hp4 o46)).mono (show 2 + 204 * m ≤ 820 by omega)
        have off06 := off4.trans o46
        by_cases hd : V.int d = V.int 0
        · rw [if_pos hd]
          have lp : 0 < xs.length := List.length_pos_iff.mpr he
          have g1 : xs[xs.length - 1]? = some xs[xs.length - 1] := List.getElem?_eq_getElem (by omega)
          obtain ⟨pz, g2⟩ : ∃ pz, ps[ps.length - 1]? = some pz := ⟨_, List.getElem?_eq_getElem (by omega)⟩
          have el : xs.length - 1 = ps.length - 1 := by omega
          obtain ⟨t, x, y, et, ht, hx, hy⟩ := rp6.ea _ _ _ g1 (by rw [el]; exact g2)
          refine ⟨xs, hs6, _, at_last g1, t, et, _, ht, x, at0, by decide, ?_⟩
          intro q2 n_q2; generalize g_H7 : upd H6 q2 _ = H7; obtain ⟨s_H7, h_q2⟩ := new_facts n_q2 g_H7; clear g_H7
          have hs7 := s_H7 _ _ hs6
          refine ⟨xs, hs7, _, last_ix he, ?_⟩
          rw [el]
          have lz := last_none de.ok de.asc g2
          have nm := Nl.mut (ys := xs.set (ps.length - 1) (V.ref q2)) hs7
          have pt : RPart A.k_Ratio (upd H7 sA (.lst (xs.set (ps.length - 1) (V.ref q2)))) (.ref q2) 820 (pz.1, none) := RPart.nl ⟨q2, x, .non, rfl, h_q2, hx.same s_H7, rfl⟩ nm
          have rpz := ((rp6.same s_H7).nl nm).setL (j := ps.length - 1) pt
          refine fin _ (xs.set (ps.length - 1) (V.ref q2)) (ps.set (ps.length - 1) (pz.1, none)) ?_ ?_ upd_same rpz ⟨lz.1, lz.2, by rw [List.length_set]; exact de.l4⟩
          · obtain ⟨ns, tt, n, z, y, h1, h2, h3⟩ := (hp6.same s_H7).mono (show c4 + 1 ≤ c + 40 by omega)
            exact ⟨ns, tt, n, z, y, by rw [upd_ne nps.1.symm]; exact h1, by rw [upd_ne nps.2.symm]; exact h2, h3⟩
          · intro b o nb1 nb2 e
            rw [upd_ne (ne_of_none e n_sA)]
            exact s_H7 _ _ (off06 b o nb1 nb2 e)
        · rw [if_neg hd]
          exact fin H6 xs ps (hp6.mono (by omega)) off06 hs6 rp6 de
end



/-! ### k55: _law_holds, _law_ends, _law_probes -/
def spHolds (C : Addr) : Sp := fun vs H Q _ => ∃ a xs n ps v q m, vs = [.ref a, v] ∧ H a = some (.lst xs) ∧ RPs C H xs n ps ∧ RatAt C H v q m ∧ n ≤ 4000 ∧ m ≤ 4000 ∧ ∀ H', Same H H' → Q (.bl (holdsV ps q)) H'
def LHo (a : Addr) (v : V) (ps : List Pt) (q : Rat) (H0 : Hp) (i : Nat) (σ : St) (H : Hp) : Prop := ∃ v2 v3 : Option V, σ = [some (.ref a), some v, v2, v3] ∧ Same H0 H ∧ (decide (0 < q) && (ps.take i).any (inP q)) = false
theorem cmp_go {C : Addr} {r : Rat → Rat → Bool} {E : XK} {H : Hp} {x y : V} {p q : Rat} {n m : Nat} {Q : VK} (hx : RatAt C H x p n) (hy : NumAt C H y q m) (hn : n + m ≤ 9000) (k : ∀ H', Same H H' → Q (.bl (r p q)) H') : rOwn C (spCmp C r) E x y H Q := by
  obtain ⟨⟨a, dx, rfl, ha⟩, _⟩ := id hx
  exact ⟨a, dx, _, rfl, ha, hy.own, _, _, p, q, n, m, rfl, hx, hy, hn, k⟩
section
variable {P : Program} {w : World} {K : PySem.W.Frag} {mg : Str → Option Value} {base : Heap} {A : Adr}
theorem ok_holds (T : Txt K mg A)
    (gRatioLe : FnOk P w K mg base CX0 5 A.a_RatioLe A.d_RatioLe ["self", "other"] (spCmp A.k_Ratio (fun p q => decide (p ≤ q)))) (gRatioGt : FnOk P w K mg base CX0 5 A.a_RatioGt A.d_RatioGt ["self", "other"] (spCmp A.k_Ratio (fun p q => decide (q < p)))) :
    FnOk P w K mg base CX0 6 A.a_LawHolds A.d_LawHolds ["_law_some", "_law_number"] (spHolds A.k_Ratio) := by
  refine T.f_LawHolds.ok scLawHolds (fun vs H Q E h => ?_) (fun cdv A' outer s H vs Q E hr h => ?_)
  · obtain ⟨a, xs, n, ps, v, q, m, rfl, _⟩ := h
    rfl
  · obtain ⟨a, xs, n, ps, v, q, m, rfl, ha, rp, hv, hn, hm, k⟩ := h
    refine ⟨_, (pss_cons (ps_for PassesOwn.never rfl (pi_list (pv 0)) (pg_tup rfl (pgs_cons (pg_name (i := 2) scLawHolds.nd rfl (Or.inl rfl)) (pgs_cons (pg_name (i := 3) scLawHolds.nd rfl (Or.inl rfl)) pgs_nil))) (pss_one (ps_if (PW.pt (pw_and (pt_cmpR (op_ownC (fun _ _ => rfl) T.o_RatioGt gRatioGt (hr.mono (by decide)) T.b_RatioGt pass0) (pv 1) pe_int (nomark _)) (pw_and (pt_cmpR (op_ownC (fun _ _ => rfl) T.o_RatioLe gRatioLe (hr.mono (by decide)) T.b_RatioLe pass0) (pv 2) (pv 1) (nomark _)) (pw_and1 (PW.pt (pw_or (pt_cmpR (op_isN) (pv 3) pe_non (nomark _)) (pw_or1 (pt_cmpR (op_ownC (fun _ _ => rfl) T.o_RatioLe gRatioLe (hr.mono (by decide)) T.b_RatioLe pass0) (pv 1) (pv 3) (nomark _))))))))) (pss_one (ps_ret pe_bl)) pss_nil)))
      (pss_one (ps_ret pe_bl))), ?_⟩
    refine seq_gen fun N eN => ?_
    try simp only [tSeq, tNext, tRet, tRetN, tAsg, gName, gSub, tDrop, tIfS, tOp, tUn, tCB, tCons, tNil, tC, tVar, rI, rI0, rU, tAnd, tOr, tNot, tAndV, tOrV, tNotV, tIf, tTest, tB, tCall, tChain, tLst, tTup, tYes, rIxH, rIsB, rIsBT, rMulS, kd_non, kd_bl, kd_int, kd_str, kd_ref, kdO_lst, kdO_tup, kdO_dK, nq_n, nq_b, nq_i, nq_s, nq_l, nq_t, nq_d, ne_eq, not_false_eq_true, kit_ss, kit_ns, kit_bs, kit_is, kit_ls, kit_ts, kit_ds, kit_bb, V.ty.injEq, and_assoc, rIxU, rLenH, rLenU, rLenS, rInt1, rSetL, rEq, rNe, rCat, L2.start, List.map, List.length, List.length_cons, List.length_nil, List.replicate, List.getElem?_cons_zero, List.getElem?_cons_succ, List.set_cons_zero, List.set_cons_succ, List.set_nil, List.cons_append, List.nil_append, List.append_nil, Option.some.injEq, V.int.injEq, V.ref.injEq, V.str.injEq, V.bl.injEq, HO.lst.injEq, HO.tup.injEq, exists_eq_left', exists_and_left, exists_eq_left, List.cons.injEq, and_true, true_and, and_false, false_and, and_self, reduceCtorEq, exists_false, or_false, false_or, exists_const, at0, at1, at2, at3, at4, at5, ix51, ix52, ix54, upd_same, Nat.reduceAdd, Nat.reduceSub, Nat.zero_add, Int.reduceToNat, Int.reduceLE, Int.reduceLT, decide_eq_true_eq, Bool.not_eq_true, if_true, if_false, Bool.false_eq_true, ite_true, ite_false, Bool.not_true, Bool.not_false, decide_true, decide_false, tFor_eq, tLc_eq, iList, iTup, iRng1, iRng2, iStr, tSl, tPart, tNoPart, rSlL, cxOf_K, wipe, ex_ty2, kit_LTl, kit_LTt, kit_LTd, kit_LTs, kit_LTn, kit_LTb, kit_LTi, tM1, rIxS, exists_eq', lt1p, tDNewK, rSlS, rEqNil, nox_K]
    refine ⟨⟨_, SqL.of ha⟩, ?_⟩
    have z0 : ((0 : Int) : Rat) = 0 := rfl
    refine for_go (walk_list (K := K) (xs := xs)) (LHo a v ps q H) ⟨_, _, rfl, Same.refl _, Bool.and_false _⟩ (fun i σ H2 _ z => by obtain ⟨_, _, _, s2, _⟩ := z; exact SqL.of (s2 _ _ ha)) (fun i x σ H2 hx z => ?_) (fun σ H2 z => ?_)
    · obtain ⟨v2, v3, rfl, s2, nh⟩ := z
      have hi' : i < ps.length := by rw [← rp.len]; exact (List.getElem?_eq_some_iff.mp hx).1
      have gi : ps[i]? = some ps[i] := List.getElem?_eq_getElem hi'
      obtain ⟨t, u, y, rfl, ht, hu, hy⟩ := (rp.same s2).ea i x _ hx gi
      have tk : ps.take (i + 1) = ps.take i ++ [ps[i]] := take_get gi
      have yes : 0 < q → inP q ps[i] = true → holdsV ps q = true := fun h0 z => by
        unfold holdsV
        rw [decide_eq_true h0, Bool.true_and, List.any_eq_true]
        exact ⟨_, List.getElem_mem hi', z⟩
      have no : (decide (0 < q) && inP q ps[i]) = false → (decide (0 < q) && (ps.take (i + 1)).any (inP q)) = false := fun z => by
        rw [tk, List.any_append, Bool.and_or_distrib_left, nh, Bool.false_or, List.any_cons, List.any_nil, Bool.or_false, z]
      generalize ps[i] = pp at *
      obtain ⟨lo, hi⟩ := pp
      refine ⟨t, _, rfl, SqT.of ht, rfl, _, _, rfl, _, _, rfl, rfl, ?_⟩
      try simp only [tSeq, tNext, tRet, tRetN, tAsg, gName, gSub, tDrop, tIfS, tOp, tUn, tCB, tCons, tNil, tC, tVar, rI, rI0, rU, tAnd, tOr, tNot, tAndV, tOrV, tNotV, tIf, tTest, tB, tCall, tChain, tLst, tTup, tYes, rIxH, rIsB, rIsBT, rMulS, kd_non, kd_bl, kd_int, kd_str, kd_ref, kdO_lst, kdO_tup, kdO_dK, nq_n, nq_b, nq_i, nq_s, nq_l, nq_t, nq_d, ne_eq, not_false_eq_true, kit_ss, kit_ns, kit_bs, kit_is, kit_ls, kit_ts, kit_ds, kit_bb, V.ty.injEq, and_assoc, rIxU, rLenH, rLenU, rLenS, rInt1, rSetL, rEq, rNe, rCat, L2.start, List.map, List.length, List.length_cons, List.length_nil, List.replicate, List.getElem?_cons_zero, List.getElem?_cons_succ, List.set_cons_zero, List.set_cons_succ, List.set_nil, List.cons_append, List.nil_append, List.append_nil, Option.some.injEq, V.int.injEq, V.ref.injEq, V.str.injEq, V.bl.injEq, HO.lst.injEq, HO.tup.injEq, exists_eq_left', exists_and_left, exists_eq_left, List.cons.injEq, and_true, true_and, and_false, false_and, and_self, reduceCtorEq, exists_false, or_false, false_or, exists_const, at0, at1, at2, at3, at4, at5, ix51, ix52, ix54, upd_same, Nat.reduceAdd, Nat.reduceSub, Nat.zero_add, Int.reduceToNat, Int.reduceLE, Int.reduceLT, decide_eq_true_eq, Bool.not_eq_true, if_true, if_false, Bool.false_eq_true, ite_true, ite_false, Bool.not_true, Bool.not_false, decide_true, decide_false, tFor_eq, tLc_eq, iList, iTup, iRng1, iRng2, iStr, tSl, tPart, tNoPart, rSlL, cxOf_K, wipe, ex_ty2, kit_LTl, kit_LTt, kit_LTd, kit_LTs, kit_LTn, kit_LTb, kit_LTi, tM1, rIxS, exists_eq', lt1p, tDNewK, rSlS, rEqNil, nox_K]
      have hv2 := hv.same s2
      refine cmp_go hv2 (num_int (z := 0) (by decide)) (by omega) fun H3 s3 => ⟨_, rfl, ?_⟩
      rw [z0]
      by_cases h0 : 0 < q
      · rw [if_pos (decide_eq_true h0)]
        refine cmp_go (hu.same s3) (.inl (hv2.same s3)) (by omega) fun H4 s4 => ⟨_, rfl, ?_⟩
        have s24 := (s2.trans s3).trans s4
        by_cases c1 : lo ≤ q
        · rw [if_pos (decide_eq_true c1)]
          cases hi with
          | none =>
            have ey : y = .non := hy
            rw [if_pos ey]
            rw [yes h0 (by show (decide (lo ≤ q) && true) = true; rw [decide_eq_true c1]; rfl)] at k
            exact k H4 s24
          | some h =>
            have hy : RatAt A.k_Ratio H2 y h n := hy
            rw [if_neg (NumAt.nn (.inl hy))]
            refine cmp_go (hv2.same (s3.trans s4)) (.inl (hy.same (s3.trans s4))) (by omega) fun H5 s5 => ⟨_, rfl, ?_⟩
            by_cases c2 : q ≤ h
            · rw [if_pos (decide_eq_true c2)]
              rw [yes h0 (by show (decide (lo ≤ q) && decide (q ≤ h)) = true; rw [decide_eq_true c1, decide_eq_true c2]; rfl)] at k
              exact k H5 (s24.trans s5)
            · rw [if_neg (fun z => c2 (of_decide_eq_true z))]
              exact ⟨_, _, rfl, s24.trans s5, no (by show (decide (0 < q) && (decide (lo ≤ q) && decide (q ≤ h))) = false; rw [decide_eq_false c2, Bool.and_false, Bool.and_false])⟩
        · rw [if_neg (fun z => c1 (of_decide_eq_true z))]
          exact ⟨_, _, rfl, s24, no (by show (decide (0 < q) && (decide (lo ≤ q) && _)) = false; rw [decide_eq_false c1, Bool.false_and, Bool.and_false])⟩
      · rw [if_neg (fun z => h0 (of_decide_eq_true z))]
        exact ⟨_, _, rfl, s2.trans s3, no (by rw [decide_eq_false h0, Bool.false_and])⟩
    · obtain ⟨v2, v3, rfl, s2, nh⟩ := z
      rw [rp.len, List.take_length] at nh
      dsimp only
      rw [eN]
      clear eN N
      try simp only [tSeq, tNext, tRet, tRetN, tAsg, gName, gSub, tDrop, tIfS, tOp, tUn, tCB, tCons, tNil, tC, tVar, rI, rI0, rU, tAnd, tOr, tNot, tAndV, tOrV, tNotV, tIf, tTest, tB, tCall, tChain, tLst, tTup, tYes, rIxH, rIsB, rIsBT, rMulS, kd_non, kd_bl, kd_int, kd_str, kd_ref, kdO_lst, kdO_tup, kdO_dK, nq_n, nq_b, nq_i, nq_s, nq_l, nq_t, nq_d, ne_eq, not_false_eq_true, kit_ss, kit_ns, kit_bs, kit_is, kit_ls, kit_ts, kit_ds, kit_bb, V.ty.injEq, and_assoc, rIxU, rLenH, rLenU, rLenS, rInt1, rSetL, rEq, rNe, rCat, L2.start, List.map, List.length, List.length_cons, List.length_nil, List.replicate, List.getElem?_cons_zero, List.getElem?_cons_succ, List.set_cons_zero, List.set_cons_succ, List.set_nil, List.cons_append, List.nil_append, List.append_nil, Option.some.injEq, V.int.injEq, V.ref.injEq, V.str.injEq, V.bl.injEq, HO.lst.injEq, HO.tup.injEq, exists_eq_left', exists_and_left, exists_eq_left, List.cons.injEq, and_true, true_and, and_false, false_and, and_self, reduceCtorEq, exists_false, or_false, false_or, exists_const, at0, at1, at2, at3, at4, at5, ix51, ix52, ix54, upd_same, Nat.reduceAdd, Nat.reduceSub, Nat.zero_add, Int.reduceToNat, Int.reduceLE, Int.reduceLT, decide_eq_true_eq, Bool.not_eq_true, if_true, if_false, Bool.false_eq_true, ite_true, ite_false, Bool.not_true, Bool.not_false, decide_true, decide_false, tFor_eq, tLc_eq, iList, iTup, iRng1, iRng2, iStr, tSl, tPart, tNoPart, rSlL, cxOf_K, wipe, ex_ty2, kit_LTl, kit_LTt, kit_LTd, kit_LTs, kit_LTn, kit_LTb, kit_LTi, tM1, rIxS, exists_eq', lt1p, tDNewK, rSlS, rEqNil, nox_K]
      have e : holdsV ps q = false := nh
      rw [e] at k
      exact k H2 s2
end

/-! ### k55: _law_probes -/
def AllR (C : Addr) (H : Hp) (ys : List V) : Prop := ∀ y ∈ ys, ∃ q, RatAt C H y q 1700
theorem AllR.same {C : Addr} {H H' : Hp} {ys : List V} (h : AllR C H ys) (s : Same H H') : AllR C H' ys := fun y hy => by
  obtain ⟨q, r⟩ := h y hy
  exact ⟨q, r.same s⟩
theorem AllR.app {C : Addr} {H : Hp} {ys zs : List V} (h : AllR C H ys) (h2 : AllR C H zs) : AllR C H (ys ++ zs) := fun y hy => by
  rcases List.mem_append.mp hy with z | z
  · exact h y z
  · exact h2 y z
def spProbes (C : Addr) : Sp := fun vs H Q _ => ∃ a xs n ps, vs = [.ref a] ∧ H a = some (.lst xs) ∧ RPs C H xs n ps ∧ n ≤ 820 ∧ xs.length ≤ 8 ∧ ∀ H' b ys, Same H H' → H' b = some (.lst ys) → AllR C H' ys → ys.length ≤ 300 → Q (.ref b) H'
def LP (C a : Addr) (H0 : Hp) (i : Nat) (σ : St) (H : Hp) : Prop := ∃ (v2 v3 v4 v5 : Option V) (f : Addr) (ys : List V), σ = [some (.ref a), some (.ref f), v2, v3, v4, v5] ∧ Same H0 H ∧ H f = some (.lst ys) ∧ AllR C H ys ∧ ys.length ≤ 2 + 24 * i
def LP2 (C a : Addr) (v2 v4 v5 : Option V) (H0 : Hp) (k : Nat) (i : Nat) (σ : St) (H : Hp) : Prop := ∃ (v3 : Option V) (f : Addr) (ys : List V), σ = [some (.ref a), some (.ref f), v2, v3, v4, v5] ∧ Same H0 H ∧ H f = some (.lst ys) ∧ AllR C H ys ∧ ys.length ≤ 2 + 24 * k + 12 * i
theorem p10_31 : ((10 : Int) ^ 31).natAbs < 2 ^ 110 := by decide
theorem p10_33 : ((10 : Int) ^ 33).natAbs < 2 ^ 110 := by decide
theorem p10_40 : ((10 : Int) ^ 40).natAbs < 2 ^ 140 := by decide
section
variable {P : Program} {w : World} {K : PySem.W.Frag} {mg : Str → Option Value} {base : Heap} {A : Adr}
theorem ok_probes (T : Txt K mg A) (gRatioInit : FnOk P w K mg base CX0 2 A.a_RatioInit A.d_RatioInit ["self", "top", "bottom"] (spInit A.k_Ratio)) (gRatioAdd : FnOk P w K mg base CX0 5 A.a_RatioAdd A.d_RatioAdd ["self", "other"] (spBin A.k_Ratio (· + ·))) (gRatioSub : FnOk P w K mg base CX0 5 A.a_RatioSub A.d_RatioSub ["self", "other"] (spBin A.k_Ratio (· - ·)))
    (gRatioGt : FnOk P w K mg base CX0 5 A.a_RatioGt A.d_RatioGt ["self", "other"] (spCmp A.k_Ratio (fun p q => decide (q < p)))) (gRatioMiddle : FnOk P w K mg base CX0 6 A.a_RatioMiddle A.d_RatioMiddle ["first", "second"] (spMidN A.k_Ratio)) :
    FnOk P w K mg base CX0 7 A.a_LawProbes A.d_LawProbes ["_law_some"] (spProbes A.k_Ratio) := by
  refine T.f_LawProbes.ok scLawProbes (fun vs H Q E h => ?_) (fun cdv A' outer s H vs Q E hr h => ?_)
  · obtain ⟨a, xs, n, ps, rfl, _⟩ := h
    rfl
  · obtain ⟨a, xs, n, ps, rfl, ha, rp, hn, hl, k⟩ := h
    refine ⟨_, (pss_cons (ps_set (i := 1) scLawProbes.nd rfl (Or.inl rfl) (pe_lst (pa_cons (pe_make T.mk_Ratio gRatioInit (hr.mono (by decide)) (by rfl) T.k_Ratio T.b_RatioInit .nil pass0 (pa_cons pe_int (pa_cons (pe_op op_pow pe_int pe_int) pa_nil))) (pa_cons (pe_make T.mk_Ratio gRatioInit (hr.mono (by decide)) (by rfl) T.k_Ratio T.e1_RatioInit.choose_spec.2 T.e1_RatioInit.choose_spec.1 pass0 (pa_cons (pe_op op_pow pe_int pe_int) pa_nil)) pa_nil))))
      (pss_cons (ps_for PassesOwn.never rfl (pi_list (pv 0)) (pg_name (i := 2) scLawProbes.nd rfl (Or.inl rfl)) (pss_one (ps_for PassesOwn.never rfl (pi_tup (pv 2)) (pg_name (i := 3) scLawProbes.nd rfl (Or.inr rfl)) (pss_one (ps_if (PW.pt (pw_and (pt_cmpR (op_notN) (pv 3) pe_non (nomark _)) (pw_and1 (pt_cmpR (op_ownC (fun _ _ => rfl) T.o_RatioGt gRatioGt (hr.mono (by decide)) T.b_RatioGt pass0) (pv 3) pe_int (nomark _))))) (pss_cons (ps_set (i := 1) scLawProbes.nd rfl (Or.inl rfl) (pe_op op_cat (pv 1) (pe_lst (pa_cons (pv 3) (pa_cons (pe_op (op_own T.o_RatioAdd gRatioAdd (hr.mono (by decide)) T.b_RatioAdd pass0) (pv 3) (pe_make T.mk_Ratio gRatioInit (hr.mono (by decide)) (by rfl) T.k_Ratio T.b_RatioInit .nil pass0 (pa_cons pe_int (pa_cons (pe_op op_pow pe_int pe_int) pa_nil)))) (pa_cons (pe_op (op_own T.o_RatioSub gRatioSub (hr.mono (by decide)) T.b_RatioSub pass0) (pv 3) (pe_make T.mk_Ratio gRatioInit (hr.mono (by decide)) (by rfl) T.k_Ratio T.b_RatioInit .nil pass0 (pa_cons pe_int (pa_cons (pe_op op_pow pe_int pe_int) pa_nil)))) (pa_cons (pe_smeth (pe_glob (v := .ref A.k_Ratio) (by rfl) T.k_Ratio rfl) T.cr_Ratio T.h_RatioMiddle gRatioMiddle (hr.mono (by decide)) T.b_RatioMiddle pass0 (pa_cons (pv 3) (pa_cons pe_int pa_nil))) pa_nil)))))))
      (pss_one (ps_set (i := 1) scLawProbes.nd rfl (Or.inl rfl) (pe_op op_cat (pv 1) (pe_lc (own := [("_law_other", 4)]) (g := gName 4) (tt := tYes) (by rfl) scLawProbes.nd (pi_list (pv 0)) (blkOk_by (own := [("_law_other", 4)]) (N := nLawProbes) (sc := defScope sLawProbes) (by decide +kernel)) (fun _ _ _ _ _ => pg_name (i := 4) scLawProbes.nd rfl (Or.inl rfl)) (fun _ _ _ _ _ => pts_nil) (fun _ _ _ _ _ => (pe_smeth (pe_glob (v := .ref A.k_Ratio) (by rfl) T.k_Ratio rfl) T.cr_Ratio T.h_RatioMiddle gRatioMiddle (hr.mono (by decide)) T.b_RatioMiddle pass0 (pa_cons (pv 3) (pa_cons (pe_ix ix_tupH (pv 4) pe_int (fun _ _ => rfl)) pa_nil))))))))) pss_nil)))))
      (pss_one (ps_ret (pe_lc (own := [("_law_one", 5)]) (g := gName 5)  (by rfl) scLawProbes.nd (pi_list (pv 1)) (blkOk_by (own := [("_law_one", 5)]) (N := nLawProbes) (sc := defScope sLawProbes) (by decide +kernel)) (fun _ _ _ _ _ => pg_name (i := 5) scLawProbes.nd rfl (Or.inl rfl)) (fun _ _ _ _ _ => (pts_one (pt_cmpR (op_ownC (fun _ _ => rfl) T.o_RatioGt gRatioGt (hr.mono (by decide)) T.b_RatioGt pass0) (pv 5) pe_int (nomark _)))) (fun _ _ _ _ _ => (pv 5))))))), ?_⟩
    refine seq_gen fun N eN => ?_
    try simp only [tSeq, tNext, tRet, tRetN, tAsg, gName, gSub, tDrop, tIfS, tOp, tUn, tCB, tCons, tNil, tC, tVar, rI, rI0, rU, tAnd, tOr, tNot, tAndV, tOrV, tNotV, tIf, tTest, tB, tCall, tChain, tLst, tTup, tYes, rIxH, rIsB, rIsBT, rMulS, kd_non, kd_bl, kd_int, kd_str, kd_ref, kdO_lst, kdO_tup, kdO_dK, nq_n, nq_b, nq_i, nq_s, nq_l, nq_t, nq_d, ne_eq, not_false_eq_true, kit_ss, kit_ns, kit_bs, kit_is, kit_ls, kit_ts, kit_ds, kit_bb, V.ty.injEq, and_assoc, rIxU, rLenH, rLenU, rLenS, rInt1, rSetL, rEq, rNe, rCat, L2.start, List.map, List.length, List.length_cons, List.length_nil, List.replicate, List.getElem?_cons_zero, List.getElem?_cons_succ, List.set_cons_zero, List.set_cons_succ, List.set_nil, List.cons_append, List.nil_append, List.append_nil, Option.some.injEq, V.int.injEq, V.ref.injEq, V.str.injEq, V.bl.injEq, HO.lst.injEq, HO.tup.injEq, exists_eq_left', exists_and_left, exists_eq_left, List.cons.injEq, and_true, true_and, and_false, false_and, and_self, reduceCtorEq, exists_false, or_false, false_or, exists_const, at0, at1, at2, at3, at4, at5, ix51, ix52, ix54, upd_same, Nat.reduceAdd, Nat.reduceSub, Nat.zero_add, Int.reduceToNat, Int.reduceLE, Int.reduceLT, decide_eq_true_eq, Bool.not_eq_true, if_true, if_false, Bool.false_eq_true, ite_true, ite_false, Bool.not_true, Bool.not_false, decide_true, decide_false, tFor_eq, tLc_eq, iList, iTup, iRng1, iRng2, iStr, tSl, tPart, tNoPart, rSlL, cxOf_K, wipe, ex_ty2, kit_LTl, kit_LTt, kit_LTd, kit_LTs, kit_LTn, kit_LTb, kit_LTi, tM1, rIxS, exists_eq', lt1p, tDNewK, rSlS, rEqNil, nox_K, tMake_eq]
    refine ⟨⟨by decide, by decide, by decide⟩, make_go (t := 1) (b := (10 : Int) ^ 31) (n := 110) rfl (by decide) (by decide) p10_31 (by decide) fun H1 x1 s1 hx1 => ?_⟩
    refine ⟨⟨by decide, by decide, by decide⟩, make_go (t := (10 : Int) ^ 40) (b := 1) (n := 140) rfl (by decide) p10_40 (by decide) (by decide) fun H2 x2 s2 hx2 => ⟨by decide, ?_⟩⟩
    intro f0 n_f0; generalize g_H3 : upd H2 f0 _ = H3; obtain ⟨s_H3, h_f0⟩ := new_facts n_f0 g_H3; clear g_H3
    have s03 := (s1.trans s2).trans s_H3
    first | rw [eN] | (dsimp only; rw [eN])
    clear eN N
    refine seq_gen fun N eN => ?_
    try simp only [tSeq, tNext, tRet, tRetN, tAsg, gName, gSub, tDrop, tIfS, tOp, tUn, tCB, tCons, tNil, tC, tVar, rI, rI0, rU, tAnd, tOr, tNot, tAndV, tOrV, tNotV, tIf, tTest, tB, tCall, tChain, tLst, tTup, tYes, rIxH, rIsB, rIsBT, rMulS, kd_non, kd_bl, kd_int, kd_str, kd_ref, kdO_lst, kdO_tup, kdO_dK, nq_n, nq_b, nq_i, nq_s, nq_l, nq_t, nq_d, ne_eq, not_false_eq_true, kit_ss, kit_ns, kit_bs, kit_is, kit_ls, kit_ts, kit_ds, kit_bb, V.ty.injEq, and_assoc, rIxU, rLenH, rLenU, rLenS, rInt1, rSetL, rEq, rNe, rCat, L2.start, List.map, List.length, List.length_cons, List.length_nil, List.replicate, List.getElem?_cons_zero, List.getElem?_cons_succ, List.set_cons_zero, List.set_cons_succ, List.set_nil, List.cons_append, List.nil_append, List.append_nil, Option.some.injEq, V.int.injEq, V.ref.injEq, V.str.injEq, V.bl.injEq, HO.lst.injEq, HO.tup.injEq, exists_eq_left', exists_and_left, exists_eq_left, List.cons.injEq, and_true, true_and, and_false, false_and, and_self, reduceCtorEq, exists_false, or_false, false_or, exists_const, at0, at1, at2, at3, at4, at5, ix51, ix52, ix54, upd_same, Nat.reduceAdd, Nat.reduceSub, Nat.zero_add, Int.reduceToNat, Int.reduceLE, Int.reduceLT, decide_eq_true_eq, Bool.not_eq_true, if_true, if_false, Bool.false_eq_true, ite_true, ite_false, Bool.not_true, Bool.not_false, decide_true, decide_false, tFor_eq, tLc_eq, iList, iTup, iRng1, iRng2, iStr, tSl, tPart, tNoPart, rSlL, cxOf_K, wipe, ex_ty2, kit_LTl, kit_LTt, kit_LTd, kit_LTs, kit_LTn, kit_LTb, kit_LTi, tM1, rIxS, exists_eq', lt1p, tDNewK, rSlS, rEqNil, nox_K]
    have ha3 := s03 _ _ ha
    refine ⟨⟨_, SqL.of ha3⟩, ?_⟩
    have al0 : AllR A.k_Ratio H3 [x1, x2] := fun y hy => by
      simp only [List.mem_cons, List.not_mem_nil, or_false] at hy
      rcases hy with rfl | rfl
      · exact ⟨_, ((hx1.same s2).same s_H3).mono (by decide)⟩
      · exact ⟨_, (hx2.same s_H3).mono (by decide)⟩
    refine for_go (walk_list (K := K) (xs := xs)) (LP A.k_Ratio a H) ⟨_, _, _, _, f0, _, rfl, s03, h_f0, al0, by show 2 ≤ _; omega⟩ (fun i σ H2 _ z => by obtain ⟨_, _, _, _, _, _, _, s2, _⟩ := z; exact SqL.of (s2 _ _ ha)) (fun i x σ H4 hx z => ?_) (fun σ H4 z => ?_)
    · obtain ⟨v2, v3, v4, v5, f, ys, rfl, s4, hf4, al4, yl4⟩ := z
      have hi' : i < ps.length := by rw [← rp.len]; exact (List.getElem?_eq_some_iff.mp hx).1
      have gi : ps[i]? = some ps[i] := List.getElem?_eq_getElem hi'
      have hxl : i < xs.length := (List.getElem?_eq_some_iff.mp hx).1
      obtain ⟨t, u, y, rfl, ht, hu, hy⟩ := (rp.same s4).ea i x _ hx gi
      generalize ps[i] = pp at *
      obtain ⟨lo, hi⟩ := pp
      have its : ∀ z ∈ [u, y], z = .non ∨ ∃ q, RatAt A.k_Ratio H4 z q 820 := fun z hz => by
        simp only [List.mem_cons, List.not_mem_nil, or_false] at hz
        rcases hz with rfl | rfl
        · exact .inr ⟨_, hu.mono hn⟩
        · cases hi with
          | none => exact .inl hy
          | some h => exact .inr ⟨h, RatAt.mono (show RatAt A.k_Ratio H4 z h n from hy) hn⟩
      try simp only [tSeq, tNext, tRet, tRetN, tAsg, gName, gSub, tDrop, tIfS, tOp, tUn, tCB, tCons, tNil, tC, tVar, rI, rI0, rU, tAnd, tOr, tNot, tAndV, tOrV, tNotV, tIf, tTest, tB, tCall, tChain, tLst, tTup, tYes, rIxH, rIsB, rIsBT, rMulS, kd_non, kd_bl, kd_int, kd_str, kd_ref, kdO_lst, kdO_tup, kdO_dK, nq_n, nq_b, nq_i, nq_s, nq_l, nq_t, nq_d, ne_eq, not_false_eq_true, kit_ss, kit_ns, kit_bs, kit_is, kit_ls, kit_ts, kit_ds, kit_bb, V.ty.injEq, and_assoc, rIxU, rLenH, rLenU, rLenS, rInt1, rSetL, rEq, rNe, rCat, L2.start, List.map, List.length, List.length_cons, List.length_nil, List.replicate, List.getElem?_cons_zero, List.getElem?_cons_succ, List.set_cons_zero, List.set_cons_succ, List.set_nil, List.cons_append, List.nil_append, List.append_nil, Option.some.injEq, V.int.injEq, V.ref.injEq, V.str.injEq, V.bl.injEq, HO.lst.injEq, HO.tup.injEq, exists_eq_left', exists_and_left, exists_eq_left, List.cons.injEq, and_true, true_and, and_false, false_and, and_self, reduceCtorEq, exists_false, or_false, false_or, exists_const, at0, at1, at2, at3, at4, at5, ix51, ix52, ix54, upd_same, Nat.reduceAdd, Nat.reduceSub, Nat.zero_add, Int.reduceToNat, Int.reduceLE, Int.reduceLT, decide_eq_true_eq, Bool.not_eq_true, if_true, if_false, Bool.false_eq_true, ite_true, ite_false, Bool.not_true, Bool.not_false, decide_true, decide_false, tFor_eq, tLc_eq, iList, iTup, iRng1, iRng2, iStr, tSl, tPart, tNoPart, rSlL, cxOf_K, wipe, ex_ty2, kit_LTl, kit_LTt, kit_LTd, kit_LTs, kit_LTn, kit_LTb, kit_LTi, tM1, rIxS, exists_eq', lt1p, tDNewK, rSlS, rEqNil, nox_K]
      refine ⟨⟨_, SqT.of ht⟩, ?_⟩
      refine for_go (walk_tup (K := K) (xs := [u, y])) (LP2 A.k_Ratio a (some (.ref t)) v4 v5 H4 i) ⟨_, f, ys, rfl, Same.refl _, hf4, al4, by omega⟩ (fun i σ H2 _ z => by obtain ⟨_, _, _, _, s2, _⟩ := z; exact SqT.of (s2 _ _ ht)) (fun j x σ H5 hx2 z => ?_) (fun σ H5 z => ?_)
      · obtain ⟨w3, f5, ys5, rfl, s5, hf5, al5, yl5⟩ := z
        have hj : j < 2 := (List.getElem?_eq_some_iff.mp hx2).1
        have s05 := s4.trans s5
        have ix := its x (List.mem_of_getElem? hx2)
        try simp only [tSeq, tNext, tRet, tRetN, tAsg, gName, gSub, tDrop, tIfS, tOp, tUn, tCB, tCons, tNil, tC, tVar, rI, rI0, rU, tAnd, tOr, tNot, tAndV, tOrV, tNotV, tIf, tTest, tB, tCall, tChain, tLst, tTup, tYes, rIxH, rIsB, rIsBT, rMulS, kd_non, kd_bl, kd_int, kd_str, kd_ref, kdO_lst, kdO_tup, kdO_dK, nq_n, nq_b, nq_i, nq_s, nq_l, nq_t, nq_d, ne_eq, not_false_eq_true, kit_ss, kit_ns, kit_bs, kit_is, kit_ls, kit_ts, kit_ds, kit_bb, V.ty.injEq, and_assoc, rIxU, rLenH, rLenU, rLenS, rInt1, rSetL, rEq, rNe, rCat, L2.start, List.map, List.length, List.length_cons, List.length_nil, List.replicate, List.getElem?_cons_zero, List.getElem?_cons_succ, List.set_cons_zero, List.set_cons_succ, List.set_nil, List.cons_append, List.nil_append, List.append_nil, Option.some.injEq, V.int.injEq, V.ref.injEq, V.str.injEq, V.bl.injEq, HO.lst.injEq, HO.tup.injEq, exists_eq_left', exists_and_left, exists_eq_left, List.cons.injEq, and_true, true_and, and_false, false_and, and_self, reduceCtorEq, exists_false, or_false, false_or, exists_const, at0, at1, at2, at3, at4, at5, ix51, ix52, ix54, upd_same, Nat.reduceAdd, Nat.reduceSub, Nat.zero_add, Int.reduceToNat, Int.reduceLE, Int.reduceLT, decide_eq_true_eq, Bool.not_eq_true, if_true, if_false, Bool.false_eq_true, ite_true, ite_false, Bool.not_true, Bool.not_false, decide_true, decide_false, tFor_eq, tLc_eq, iList, iTup, iRng1, iRng2, iStr, tSl, tPart, tNoPart, rSlL, cxOf_K, wipe, ex_ty2, kit_LTl, kit_LTt, kit_LTd, kit_LTs, kit_LTn, kit_LTb, kit_LTi, tM1, rIxS, exists_eq', lt1p, tDNewK, rSlS, rEqNil, nox_K, tMake_eq, tSMeth]
        have hl5 : ys5.length ≤ 2 + 24 * i + 12 * j := yl5
        have stay : LP2 A.k_Ratio a (some (.ref t)) v4 v5 H4 i (j + 1) [some (.ref a), some (.ref f5), some (.ref t), some x, v4, v5] H5 := ⟨_, f5, ys5, rfl, s5, hf5, al5, by omega⟩
        rcases ix with rfl | ⟨q, hq⟩
        · rw [if_neg (by decide)]
          exact stay
        rw [if_pos (by rw [decide_eq_false (NumAt.nn (.inl hq))]; rfl)]
        have hq5 := hq.same s5
        refine cmp_go hq5 (num_int (z := 0) (by decide)) (by decide) fun H6 s6 => ⟨_, rfl, ?_⟩
        by_cases hq0 : decide (((0 : Int) : Rat) < q) = true
        · rw [if_pos hq0]
          refine ⟨⟨by decide, by decide, by decide⟩, make_go (t := 1) (b := (10 : Int) ^ 33) (n := 110) rfl (by decide) (by decide) p10_33 (by decide) fun H7 x7 s7 hx7 => ?_⟩
          refine bin_go (hq5.same (s6.trans s7)) (.inl hx7) (by decide) fun H8 x8 s8 hx8 => ?_
          refine ⟨⟨by decide, by decide, by decide⟩, make_go (t := 1) (b := (10 : Int) ^ 33) (n := 110) rfl (by decide) (by decide) p10_33 (by decide) fun H9 x9 s9 hx9 => ?_⟩
          have s59 := ((s6.trans s7).trans s8).trans s9
          refine bin_go (hq5.same s59) (.inl hx9) (by decide) fun H10 x10 s10 hx10 => ?_
          refine ⟨_, _, q, 0, 820, 2, rfl, .inl (hq5.same (s59.trans s10)), num_int (z := 0) (by decide), by decide, fun H11 x11 s11 hx11 => ⟨by decide, ?_⟩⟩
          intro l1 n_l1; generalize g_H12 : upd H11 l1 _ = H12; obtain ⟨s_H12, h_l1⟩ := new_facts n_l1 g_H12; clear g_H12
          have s510 := s59.trans s10
          have s512 := (s510.trans s11).trans s_H12
          have hf12 := s512 _ _ hf5
          refine ⟨ys5, hf12, Nat.le_trans (m := 1000) (by omega) (by decide), ?_⟩
          intro l2 n_l2; generalize g_H13 : upd H12 l2 _ = H13; obtain ⟨s_H13, h_l2⟩ := new_facts n_l2 g_H13; clear g_H13
          have s513 := s512.trans s_H13
          have ha13 := (s05.trans s513) _ _ ha
          have al13 : AllR A.k_Ratio H13 (ys5 ++ [x, x8, x10, x11]) := (al5.same s513).app fun y hy => by
            simp only [List.mem_cons, List.not_mem_nil, or_false] at hy
            rcases hy with rfl | rfl | rfl | rfl
            · exact ⟨_, (hq5.same s513).mono (by decide)⟩
            · exact ⟨_, (hx8.same ((((s9.trans s10).trans s11).trans s_H12).trans s_H13)).mono (by decide)⟩
            · exact ⟨_, (hx10.same ((s11.trans s_H12).trans s_H13)).mono (by decide)⟩
            · exact ⟨_, (hx11.same (s_H12.trans s_H13)).mono (by decide)⟩
          refine ⟨⟨_, SqL.of ha13⟩, fun D nD => ?_⟩
          refine lc_rel (walk_list (K := K) (xs := xs)) (fun j y H' => ∃ q, RatAt A.k_Ratio H' y q 1700) (fun j y H1 H2 s ⟨q, h⟩ => ⟨q, h.same s⟩) (fun j y H1 zs us ⟨q, h⟩ e => ⟨q, h.nl (Nl.mut e)⟩) nD (fun H14 s14 => SqL.of (s14 _ _ ha13)) (by omega) (fun m xv hxv H14 s14 Pk R0 pk => ?_) (fun zs H14 s14 zl hzs hD => ?_)
          · have hm' : m < ps.length := by rw [← rp.len]; exact (List.getElem?_eq_some_iff.mp hxv).1
            obtain ⟨tt, uu, yy, rfl, htt, huu, hyy⟩ := ((rp.same (s05.trans s513)).same s14).ea m xv _ hxv (List.getElem?_eq_getElem hm')
            try simp only [tSeq, tNext, tRet, tRetN, tAsg, gName, gSub, tDrop, tIfS, tOp, tUn, tCB, tCons, tNil, tC, tVar, rI, rI0, rU, tAnd, tOr, tNot, tAndV, tOrV, tNotV, tIf, tTest, tB, tCall, tChain, tLst, tTup, tYes, rIxH, rIsB, rIsBT, rMulS, kd_non, kd_bl, kd_int, kd_str, kd_ref, kdO_lst, kdO_tup, kdO_dK, nq_n, nq_b, nq_i, nq_s, nq_l, nq_t, nq_d, ne_eq, not_false_eq_true, kit_ss, kit_ns, kit_bs, kit_is, kit_ls, kit_ts, kit_ds, kit_bb, V.ty.injEq, and_assoc, rIxU, rLenH, rLenU, rLenS, rInt1, rSetL, rEq, rNe, rCat, L2.start, List.map, List.length, List.length_cons, List.length_nil, List.replicate, List.getElem?_cons_zero, List.getElem?_cons_succ, List.set_cons_zero, List.set_cons_succ, List.set_nil, List.cons_append, List.nil_append, List.append_nil, Option.some.injEq, V.int.injEq, V.ref.injEq, V.str.injEq, V.bl.injEq, HO.lst.injEq, HO.tup.injEq, exists_eq_left', exists_and_left, exists_eq_left, List.cons.injEq, and_true, true_and, and_false, false_and, and_self, reduceCtorEq, exists_false, or_false, false_or, exists_const, at0, at1, at2, at3, at4, at5, ix51, ix52, ix54, upd_same, Nat.reduceAdd, Nat.reduceSub, Nat.zero_add, Int.reduceToNat, Int.reduceLE, Int.reduceLT, decide_eq_true_eq, Bool.not_eq_true, if_true, if_false, Bool.false_eq_true, ite_true, ite_false, Bool.not_true, Bool.not_false, decide_true, decide_false, tFor_eq, tLc_eq, iList, iTup, iRng1, iRng2, iStr, tSl, tPart, tNoPart, rSlL, cxOf_K, wipe, ex_ty2, kit_LTl, kit_LTt, kit_LTd, kit_LTs, kit_LTn, kit_LTb, kit_LTi, tM1, rIxS, exists_eq', lt1p, tDNewK, rSlS, rEqNil, nox_K, tSMeth, htt]
            exact ⟨_, _, q, _, 820, n, rfl, .inl ((hq5.same s513).same s14), .inl huu, by omega, fun H15 v s15 hv => pk _ _ s15 ⟨_, hv.mono (by omega)⟩⟩
          have h2 := s14 _ _ h_l2
          refine ⟨D, rfl, _, h2, _, hD, ?_⟩
          refine ⟨Nat.le_trans (m := 1000) (by rw [List.length_append]; simp only [List.length_cons, List.length_nil]; omega) (by decide), ?_⟩
          intro l3 n_l3; generalize g_H15 : upd H14 l3 _ = H15; obtain ⟨s_H15, h_l3⟩ := new_facts n_l3 g_H15; clear g_H15
          have s515 := (s513.trans s14).trans s_H15
          refine ⟨_, l3, _, rfl, s5.trans s515, h_l3, (al13.same (s14.trans s_H15)).app fun y hy => ?_, ?_⟩
          · obtain ⟨jj, hjj⟩ := List.mem_iff_getElem?.mp hy
            obtain ⟨q', hq'⟩ := hzs jj y hjj
            exact ⟨q', hq'.same s_H15⟩
          · rw [List.length_append, List.length_append]
            simp only [List.length_cons, List.length_nil]
            omega
        · rw [if_neg hq0]
          exact ⟨_, f5, ys5, rfl, s5.trans s6, s6 _ _ hf5, al5.same s6, by omega⟩
      · obtain ⟨w3, f5, ys5, rfl, s5, hf5, al5, yl5⟩ := z
        exact ⟨_, _, _, _, f5, ys5, rfl, s4.trans s5, hf5, al5, by simp only [List.length_cons, List.length_nil] at yl5; omega⟩
    · obtain ⟨v2, v3, v4, v5, f, ys, rfl, s4, hf4, al4, yl4⟩ := z
      dsimp only
      rw [eN]
      clear eN N
      try simp only [tSeq, tNext, tRet, tRetN, tAsg, gName, gSub, tDrop, tIfS, tOp, tUn, tCB, tCons, tNil, tC, tVar, rI, rI0, rU, tAnd, tOr, tNot, tAndV, tOrV, tNotV, tIf, tTest, tB, tCall, tChain, tLst, tTup, tYes, rIxH, rIsB, rIsBT, rMulS, kd_non, kd_bl, kd_int, kd_str, kd_ref, kdO_lst, kdO_tup, kdO_dK, nq_n, nq_b, nq_i, nq_s, nq_l, nq_t, nq_d, ne_eq, not_false_eq_true, kit_ss, kit_ns, kit_bs, kit_is, kit_ls, kit_ts, kit_ds, kit_bb, V.ty.injEq, and_assoc, rIxU, rLenH, rLenU, rLenS, rInt1, rSetL, rEq, rNe, rCat, L2.start, List.map, List.length, List.length_cons, List.length_nil, List.replicate, List.getElem?_cons_zero, List.getElem?_cons_succ, List.set_cons_zero, List.set_cons_succ, List.set_nil, List.cons_append, List.nil_append, List.append_nil, Option.some.injEq, V.int.injEq, V.ref.injEq, V.str.injEq, V.bl.injEq, HO.lst.injEq, HO.tup.injEq, exists_eq_left', exists_and_left, exists_eq_left, List.cons.injEq, and_true, true_and, and_false, false_and, and_self, reduceCtorEq, exists_false, or_false, false_or, exists_const, at0, at1, at2, at3, at4, at5, ix51, ix52, ix54, upd_same, Nat.reduceAdd, Nat.reduceSub, Nat.zero_add, Int.reduceToNat, Int.reduceLE, Int.reduceLT, decide_eq_true_eq, Bool.not_eq_true, if_true, if_false, Bool.false_eq_true, ite_true, ite_false, Bool.not_true, Bool.not_false, decide_true, decide_false, tFor_eq, tLc_eq, iList, iTup, iRng1, iRng2, iStr, tSl, tPart, tNoPart, rSlL, cxOf_K, wipe, ex_ty2, kit_LTl, kit_LTt, kit_LTd, kit_LTs, kit_LTn, kit_LTb, kit_LTi, tM1, rIxS, exists_eq', lt1p, tDNewK, rSlS, rEqNil, nox_K]
      refine ⟨⟨_, SqL.of hf4⟩, fun D nD => ?_⟩
      refine lc_same (walk_list (K := K) (xs := ys)) (fun y => @decide (∃ q, RatAt A.k_Ratio H4 y q 1700 ∧ (((0 : Int)) : Rat) < q) (Classical.propDecidable _)) id nD (fun H5 s5 => SqL.of (s5 _ _ hf4)) (by omega) (fun y hy H5 s5 R R0 h1 h2 => ?_) (fun H5 s5 hD => ?_)
      · obtain ⟨q, hq⟩ := al4 y hy
        try simp only [tSeq, tNext, tRet, tRetN, tAsg, gName, gSub, tDrop, tIfS, tOp, tUn, tCB, tCons, tNil, tC, tVar, rI, rI0, rU, tAnd, tOr, tNot, tAndV, tOrV, tNotV, tIf, tTest, tB, tCall, tChain, tLst, tTup, tYes, rIxH, rIsB, rIsBT, rMulS, kd_non, kd_bl, kd_int, kd_str, kd_ref, kdO_lst, kdO_tup, kdO_dK, nq_n, nq_b, nq_i, nq_s, nq_l, nq_t, nq_d, ne_eq, not_false_eq_true, kit_ss, kit_ns, kit_bs, kit_is, kit_ls, kit_ts, kit_ds, kit_bb, V.ty.injEq, and_assoc, rIxU, rLenH, rLenU, rLenS, rInt1, rSetL, rEq, rNe, rCat, L2.start, List.map, List.length, List.length_cons, List.length_nil, List.replicate, List.getElem?_cons_zero, List.getElem?_cons_succ, List.set_cons_zero, List.set_cons_succ, List.set_nil, List.cons_append, List.nil_append, List.append_nil, Option.some.injEq, V.int.injEq, V.ref.injEq, V.str.injEq, V.bl.injEq, HO.lst.injEq, HO.tup.injEq, exists_eq_left', exists_and_left, exists_eq_left, List.cons.injEq, and_true, true_and, and_false, false_and, and_self, reduceCtorEq, exists_false, or_false, false_or, exists_const, at0, at1, at2, at3, at4, at5, ix51, ix52, ix54, upd_same, Nat.reduceAdd, Nat.reduceSub, Nat.zero_add, Int.reduceToNat, Int.reduceLE, Int.reduceLT, decide_eq_true_eq, Bool.not_eq_true, if_true, if_false, Bool.false_eq_true, ite_true, ite_false, Bool.not_true, Bool.not_false, decide_true, decide_false, tFor_eq, tLc_eq, iList, iTup, iRng1, iRng2, iStr, tSl, tPart, tNoPart, rSlL, cxOf_K, wipe, ex_ty2, kit_LTl, kit_LTt, kit_LTd, kit_LTs, kit_LTn, kit_LTb, kit_LTi, tM1, rIxS, exists_eq', lt1p, tDNewK, rSlS, rEqNil, nox_K]
        refine cmp_go (hq.same s5) (num_int (z := 0) (by decide)) (by decide) fun H6 s6 => ⟨_, rfl, ?_⟩
        by_cases hq0 : decide ((((0 : Int)) : Rat) < q) = true
        · rw [if_pos hq0]
          exact h1 H6 s6 (@decide_eq_true _ (Classical.propDecidable _) ⟨q, hq, of_decide_eq_true hq0⟩)
        · rw [if_neg hq0]
          refine h2 H6 s6 (@decide_eq_false _ (Classical.propDecidable _) ?_)
          rintro ⟨q', hq', lt⟩
          rw [rat_inj hq' (.inl hq)] at lt
          exact hq0 (decide_eq_true lt)
      · refine k H5 D _ (s4.trans s5) hD (fun y hy => ?_) ?_
        · rw [List.map_id] at hy
          exact (al4.same s5) y (List.mem_filter.mp hy).1
        · rw [List.length_map]
          refine Nat.le_trans (List.length_filter_le _ _) ?_
          omega
end

/-! ### k57, plainly: ranges in common, joined -/
section
def Gp (ps : List Pt) : Prop := (∀ p ∈ ps, Okp p) ∧ ps.Pairwise fun p q => ∃ h, p.2 = some h ∧ h < q.1
theorem gp_of : ∀ {ps : List Pt}, (∀ p ∈ ps, Okp p) → AscP ps → Gp ps
  | [], h, _ => ⟨h, .nil⟩
  | p :: ps, h, a => by
    have ih := gp_of (ps := ps) (fun q hq => h q (List.mem_cons_of_mem _ hq)) (fun i x y h1 h2 => a (i + 1) x y h1 h2)
    refine ⟨h, List.pairwise_cons.mpr ⟨fun q hq => ?_, ih.2⟩⟩
    cases ps with
    | nil => cases hq
    | cons r rs =>
      obtain ⟨k, e, lt⟩ := a 0 p r rfl rfl
      rcases List.mem_cons.mp hq with rfl | hq
      · exact ⟨k, e, lt⟩
      · obtain ⟨k2, e2, lt2⟩ := (List.pairwise_cons.mp ih.2).1 q hq
        have hr := (h r (List.mem_cons_of_mem _ List.mem_cons_self)).2 k2 e2
        exact ⟨k, e, by grind⟩
theorem asc_of {ps : List Pt} (h : Gp ps) : AscP ps := fun i p q h1 h2 => by
  have l1 := (List.getElem?_eq_some_iff.mp h1)
  have l2 := (List.getElem?_eq_some_iff.mp h2)
  obtain ⟨l1, e1⟩ := l1
  obtain ⟨l2, e2⟩ := l2
  have := List.pairwise_iff_getElem.mp h.2 i (i + 1) l1 l2 (by omega)
  rw [e1, e2] at this
  exact this
def loMax (a b : Rat) : Rat := if b < a then a else b
def hiMin : Option Rat → Option Rat → Option Rat
  | none, o => o
  | some h, none => some h
  | some h, some k => if k < h then some k else some h
def hiLt : Option Rat → Rat → Bool
  | none, _ => false
  | some h, l => decide (h < l)
def cpart (p q : Pt) : List Pt := if hiLt (hiMin p.2 q.2) (loMax p.1 q.1) = true then [] else [(loMax p.1 q.1, hiMin p.2 q.2)]
def commonP (ps qs : List Pt) : List Pt := ps.flatMap fun p => qs.flatMap fun q => cpart p q
theorem cpart_spec {p q x : Pt} (hp : Okp p) (hq : Okp q) (hx : x ∈ cpart p q) : Okp x ∧ p.1 ≤ x.1 ∧ q.1 ≤ x.1 ∧ (∀ h, p.2 = some h → ∃ k, x.2 = some k ∧ k ≤ h) ∧ (∀ h, q.2 = some h → ∃ k, x.2 = some k ∧ k ≤ h) := by
  obtain ⟨a, u⟩ := p
  obtain ⟨b, v⟩ := q
  unfold cpart at hx
  split at hx
  · cases hx
  · rename_i hn
    rw [List.mem_singleton] at hx
    subst hx
    obtain ⟨p0, p1⟩ := hp
    obtain ⟨q0, q1⟩ := hq
    dsimp only at *
    have l1 : a ≤ loMax a b := by unfold loMax; split <;> grind
    have l2 : b ≤ loMax a b := by unfold loMax; split <;> grind
    refine ⟨⟨by grind, fun h e => ?_⟩, l1, l2, fun h e => ?_, fun h e => ?_⟩
    · have e : hiMin u v = some h := e
      rw [e] at hn
      have hn : ¬ h < loMax a b := by simpa [hiLt] using hn
      refine ⟨?_, by dsimp only; grind⟩
      cases u with
      | none => exact (q1 h (by simpa [hiMin] using e)).1
      | some k => cases v with
        | none =>
          have : k = h := by simpa [hiMin] using e
          exact (p1 h (by rw [this])).1
        | some k2 =>
          have e : (if k2 < k then some k2 else some k) = some h := e
          split at e
          · cases e; exact (q1 _ rfl).1
          · cases e; exact (p1 _ rfl).1
    · subst e
      cases v with
      | none => exact ⟨h, rfl, Rat.le_refl⟩
      | some k2 =>
        show ∃ k, (if k2 < h then some k2 else some h) = some k ∧ k ≤ h
        split
        · exact ⟨_, rfl, by grind⟩
        · exact ⟨_, rfl, Rat.le_refl⟩
    · subst e
      cases u with
      | none => exact ⟨h, rfl, Rat.le_refl⟩
      | some k =>
        show ∃ z, (if h < k then some h else some k) = some z ∧ z ≤ h
        split
        · exact ⟨_, rfl, Rat.le_refl⟩
        · exact ⟨_, rfl, by grind⟩
theorem common_good {ps qs : List Pt} (hp : Gp ps) (hq : Gp qs) : Gp (commonP ps qs) := by
  refine ⟨fun x hx => ?_, ?_⟩
  · obtain ⟨p, hp1, hx⟩ := List.mem_flatMap.mp hx
    obtain ⟨q, hq1, hx⟩ := List.mem_flatMap.mp hx
    exact (cpart_spec (hp.1 p hp1) (hq.1 q hq1) hx).1
  · unfold commonP
    rw [List.pairwise_flatMap]
    refine ⟨fun p hp1 => ?_, ?_⟩
    · rw [List.pairwise_flatMap]
      refine ⟨fun q _ => ?_, ?_⟩
      · unfold cpart
        split <;> simp
      · refine List.Pairwise.imp_of_mem (fun {q1 q2} m1 m2 h x hx y hy => ?_) hq.2
        obtain ⟨h, e, lt⟩ := h
        obtain ⟨k, ek, le⟩ := (cpart_spec (hp.1 p hp1) (hq.1 q1 m1) hx).2.2.2.2 h e
        have := (cpart_spec (hp.1 p hp1) (hq.1 q2 m2) hy).2.2.1
        exact ⟨k, ek, by grind⟩
    · refine List.Pairwise.imp_of_mem (fun {p1 p2} m1 m2 h x hx y hy => ?_) hp.2
      obtain ⟨h, e, lt⟩ := h
      obtain ⟨q1, n1, hx⟩ := List.mem_flatMap.mp hx
      obtain ⟨q2, n2, hy⟩ := List.mem_flatMap.mp hy
      obtain ⟨k, ek, le⟩ := (cpart_spec (hp.1 p1 m1) (hq.1 q1 n1) hx).2.2.2.1 h e
      have := (cpart_spec (hp.1 p2 m2) (hq.1 q2 n2) hy).2.1
      exact ⟨k, ek, by grind⟩
theorem hiOk_min {r : Rat} : ∀ {u v : Option Rat}, hiOk r (hiMin u v) = (hiOk r u && hiOk r v)
  | none, v => by simp [hiOk, hiMin]
  | some h, none => by simp [hiOk, hiMin]
  | some h, some k => by
    show hiOk r (if k < h then some k else some h) = _
    rw [Bool.eq_iff_iff]
    split <;> simp [hiOk] <;> grind
theorem cpart_any {p q : Pt} {r : Rat} : (cpart p q).any (inP r) = (inP r p && inP r q) := by
  obtain ⟨a, u⟩ := p
  obtain ⟨b, v⟩ := q
  have e : inP r (loMax a b, hiMin u v) = (inP r (a, u) && inP r (b, v)) := by
    unfold inP
    rw [hiOk_min]
    have l : decide (loMax a b ≤ r) = (decide (a ≤ r) && decide (b ≤ r)) := by
      rw [Bool.eq_iff_iff]
      unfold loMax
      split <;> simp <;> grind
    dsimp only
    rw [l]
    cases decide (a ≤ r) <;> cases decide (b ≤ r) <;> cases hiOk r u <;> rfl
  unfold cpart
  split
  · rename_i hl
    rw [← e]
    dsimp only at hl
    show false = _
    unfold inP
    cases hh : hiMin u v with
    | none => rw [hh] at hl; cases hl
    | some h =>
      rw [hh] at hl
      have hl : h < loMax a b := by simpa [hiLt] using hl
      symm
      rw [Bool.and_eq_false_iff]
      by_cases c : loMax a b ≤ r
      · right
        simp [hiOk]
        grind
      · left
        simpa using c
  · rw [← e]
    simp
theorem any_flat {α β : Type} {f : α → List β} {g : β → Bool} : ∀ l : List α, (l.flatMap f).any g = l.any fun a => (f a).any g
  | [] => rfl
  | a :: l => by rw [List.flatMap_cons, List.any_append, List.any_cons, any_flat l]
theorem common_any {ps qs : List Pt} {r : Rat} : (commonP ps qs).any (inP r) = (ps.any (inP r) && qs.any (inP r)) := by
  unfold commonP
  rw [any_flat]
  have e : ∀ p, (qs.flatMap fun q => cpart p q).any (inP r) = (inP r p && qs.any (inP r)) := fun p => by
    rw [any_flat]
    induction qs with
    | nil => simp
    | cons q qs ih =>
      rw [List.any_cons, ih, cpart_any, List.any_cons]
      cases inP r p <;> simp
  induction ps with
  | nil => rfl
  | cons p ps ih =>
    rw [List.any_cons, ih, e, List.any_cons]
    cases inP r p <;> cases qs.any (inP r) <;> simp
/-- the ranges of two lists in one list, ascending by their lows -/
def inOrd : List Pt → List Pt → List Pt
  | [], qs => qs
  | p :: ps, qs => qs.takeWhile (fun q => decide (q.1 < p.1)) ++ p :: inOrd ps (qs.dropWhile fun q => decide (q.1 < p.1))
def Lows (ps : List Pt) : Prop := ps.Pairwise fun p q => p.1 ≤ q.1
theorem Gp.lows {ps : List Pt} (h : Gp ps) : Lows ps := List.Pairwise.imp_of_mem (fun {p q} m1 _ ⟨k, e, lt⟩ => by
  have := (h.1 p m1).2 k e
  grind) h.2
theorem tw_lt {l : Rat} : ∀ {qs : List Pt}, ∀ q ∈ qs.takeWhile (fun q => decide (q.1 < l)), q.1 < l
  | [], q, h => by cases h
  | a :: qs, q, h => by
    rw [List.takeWhile_cons] at h
    split at h
    · rename_i c
      rcases List.mem_cons.mp h with rfl | h
      · simpa using c
      · exact tw_lt q h
    · cases h
theorem dw_ge {l : Rat} : ∀ {qs : List Pt}, Lows qs → ∀ q ∈ qs.dropWhile (fun q => decide (q.1 < l)), l ≤ q.1
  | [], _, q, h => by cases h
  | a :: qs, hl, q, h => by
    rw [List.dropWhile_cons] at h
    split at h
    · exact dw_ge (List.pairwise_cons.mp hl).2 q h
    · rename_i c
      have c : ¬ a.1 < l := by simpa using c
      rcases List.mem_cons.mp h with rfl | h
      · grind
      · have := (List.pairwise_cons.mp hl).1 q h
        grind
theorem inOrd_mem : ∀ {ps qs : List Pt} {x : Pt}, x ∈ inOrd ps qs ↔ x ∈ ps ∨ x ∈ qs
  | [], qs, x => by simp [inOrd]
  | p :: ps, qs, x => by
    have e : x ∈ qs ↔ x ∈ qs.takeWhile (fun q => decide (q.1 < p.1)) ∨ x ∈ qs.dropWhile (fun q => decide (q.1 < p.1)) := by
      rw [← List.mem_append, List.takeWhile_append_dropWhile]
    unfold inOrd
    rw [List.mem_append, List.mem_cons, inOrd_mem (ps := ps), List.mem_cons, e]
    grind
theorem inOrd_any {ps qs : List Pt} {r : Rat} : (inOrd ps qs).any (inP r) = (ps.any (inP r) || qs.any (inP r)) := by
  rw [Bool.eq_iff_iff, Bool.or_eq_true, List.any_eq_true, List.any_eq_true, List.any_eq_true]
  constructor
  · rintro ⟨x, h, q⟩
    rcases inOrd_mem.mp h with h | h
    · exact .inl ⟨x, h, q⟩
    · exact .inr ⟨x, h, q⟩
  · rintro (⟨x, h, q⟩ | ⟨x, h, q⟩)
    · exact ⟨x, inOrd_mem.mpr (.inl h), q⟩
    · exact ⟨x, inOrd_mem.mpr (.inr h), q⟩
theorem inOrd_lows : ∀ {ps qs : List Pt}, Lows ps → Lows qs → Lows (inOrd ps qs)
  | [], qs, _, h => h
  | p :: ps, qs, h1, h2 => by
    obtain ⟨a1, a2⟩ := List.pairwise_cons.mp h1
    have dl : Lows (qs.dropWhile fun q => decide (q.1 < p.1)) := h2.sublist (List.dropWhile_sublist _)
    have tl : Lows (qs.takeWhile fun q => decide (q.1 < p.1)) := h2.sublist (List.takeWhile_sublist _)
    have ih := inOrd_lows a2 dl
    have ge : ∀ x ∈ inOrd ps (qs.dropWhile fun q => decide (q.1 < p.1)), p.1 ≤ x.1 := fun x hx => by
      rcases inOrd_mem.mp hx with h | h
      · exact a1 x h
      · exact dw_ge h2 x h
    unfold inOrd
    unfold Lows
    rw [List.pairwise_append]
    refine ⟨tl, List.pairwise_cons.mpr ⟨ge, ih⟩, fun x hx y hy => ?_⟩
    have := tw_lt x hx
    rcases List.mem_cons.mp hy with rfl | hy
    · grind
    · have := ge y hy
      grind
/-- those that meet as one: the last so far, what is left -/
def mrg : Pt → List Pt → List Pt
  | last, [] => [last]
  | last, p :: ps => if hiLt last.2 p.1 = true then last :: mrg p ps else
    match last.2 with
    | none => mrg last ps
    | some h => match p.2 with
      | none => mrg (last.1, none) ps
      | some k => if h < k then mrg (last.1, some k) ps else mrg last ps
def mergedP : List Pt → List Pt
  | [] => []
  | p :: ps => mrg p ps
theorem mrg_spec : ∀ {ps : List Pt} {last : Pt}, Okp last → (∀ p ∈ ps, Okp p) → Lows (last :: ps) → Gp (mrg last ps) ∧ (∀ x ∈ mrg last ps, last.1 ≤ x.1) ∧ ∀ r, (mrg last ps).any (inP r) = (inP r last || ps.any (inP r))
  | [], last, h, _, _ => ⟨⟨fun p hp => by rw [show mrg last [] = [last] from rfl, List.mem_singleton] at hp; rw [hp]; exact h, by show List.Pairwise _ [last]; simp⟩, fun x hx => by rw [show mrg last [] = [last] from rfl, List.mem_singleton] at hx; rw [hx]; exact Rat.le_refl, fun r => by simp [mrg]⟩
  | p :: ps, last, h, ho, hl => by
    obtain ⟨a1, a2⟩ := List.pairwise_cons.mp hl
    obtain ⟨b1, b2⟩ := List.pairwise_cons.mp a2
    have lp := a1 p List.mem_cons_self
    have op := ho p List.mem_cons_self
    have os : ∀ q ∈ ps, Okp q := fun q hq => ho q (List.mem_cons_of_mem _ hq)
    have ls : ∀ a : Option Rat, Lows ((last.1, a) :: ps) := fun a => List.pairwise_cons.mpr ⟨fun q hq => a1 q (List.mem_cons_of_mem _ hq), b2⟩
    obtain ⟨lo, hi⟩ := last
    obtain ⟨a, b⟩ := p
    dsimp only at lp
    have drop : (∀ r, inP r (a, b) = true → inP r (lo, hi) = true) → Gp (mrg (lo, hi) ps) ∧ (∀ x ∈ mrg (lo, hi) ps, lo ≤ x.1) ∧ ∀ r, (mrg (lo, hi) ps).any (inP r) = (inP r (lo, hi) || ((a, b) :: ps).any (inP r)) := fun hd => by
      obtain ⟨g1, g2, g3⟩ := mrg_spec (ps := ps) (last := (lo, hi)) h os (ls hi)
      refine ⟨g1, g2, fun r => ?_⟩
      rw [g3, List.any_cons]
      cases q : inP r (a, b) with
      | false => simp
      | true => rw [hd r q]; simp
    have ext : (∃ k, hi = some k ∧ a ≤ k ∧ (∀ b', b = some b' → k < b')) → Gp (mrg (lo, b) ps) ∧ (∀ x ∈ mrg (lo, b) ps, lo ≤ x.1) ∧ ∀ r, (mrg (lo, b) ps).any (inP r) = (inP r (lo, hi) || ((a, b) :: ps).any (inP r)) := fun ⟨k, ek, ak, hb⟩ => by
      have ok : Okp (lo, b) := ⟨h.1, fun b' e => by
        have := (op.2 b' e).1
        have := hb b' e
        have := (h.2 k ek).2
        dsimp only at *
        exact ⟨by assumption, by grind⟩⟩
      obtain ⟨g1, g2, g3⟩ := mrg_spec (ps := ps) (last := (lo, b)) ok os (ls b)
      refine ⟨g1, g2, fun r => ?_⟩
      have e : inP r (lo, b) = (inP r (lo, hi) || inP r (a, b)) := by
        subst ek
        unfold inP
        dsimp only
        rw [Bool.eq_iff_iff]
        cases b with
        | none =>
          simp [hiOk]
          grind
        | some b' =>
          have := hb b' rfl
          simp [hiOk]
          grind
      rw [g3, e, List.any_cons, Bool.or_assoc]
    unfold mrg
    dsimp only
    by_cases c : hiLt hi a = true
    · rw [if_pos c]
      cases hi with
      | none => cases c
      | some k =>
        have c : k < a := by simpa [hiLt] using c
        obtain ⟨g1, g2, g3⟩ := mrg_spec (ps := ps) (last := (a, b)) op os (List.pairwise_cons.mpr ⟨b1, b2⟩)
        refine ⟨⟨fun x hx => ?_, List.pairwise_cons.mpr ⟨fun x hx => ⟨k, rfl, ?_⟩, g1.2⟩⟩, fun x hx => ?_, fun r => ?_⟩
        · rcases List.mem_cons.mp hx with rfl | hx
          · exact h
          · exact g1.1 x hx
        · have := g2 x hx
          dsimp only at this
          grind
        · rcases List.mem_cons.mp hx with rfl | hx
          · exact Rat.le_refl
          · have := g2 x hx
            dsimp only at this ⊢
            grind
        · rw [List.any_cons, g3, List.any_cons]
    · rw [if_neg c]
      cases hi with
      | none => exact drop fun r q => by unfold inP at q ⊢; simp [hiOk] at q ⊢; grind
      | some k =>
        have c : ¬ k < a := by simpa [hiLt] using c
        cases b with
        | none => exact ext ⟨k, rfl, by grind, fun _ z => by cases z⟩
        | some b' =>
          dsimp only
          by_cases c2 : k < b'
          · rw [if_pos c2]
            exact ext ⟨k, rfl, by grind, fun _ z => by cases z; exact c2⟩
          · rw [if_neg c2]
            exact drop fun r q => by unfold inP at q ⊢; simp [hiOk] at q ⊢; grind
def joinP (ps qs : List Pt) : List Pt := mergedP (inOrd ps qs)
theorem join_good {ps qs : List Pt} (hp : Gp ps) (hq : Gp qs) : Gp (joinP ps qs) ∧ ∀ r, (joinP ps qs).any (inP r) = (ps.any (inP r) || qs.any (inP r)) := by
  have lw := inOrd_lows hp.lows hq.lows
  have ok : ∀ x ∈ inOrd ps qs, Okp x := fun x hx => by
    rcases inOrd_mem.mp hx with h | h
    · exact hp.1 x h
    · exact hq.1 x h
  have an : ∀ r, (inOrd ps qs).any (inP r) = (ps.any (inP r) || qs.any (inP r)) := fun r => inOrd_any
  unfold joinP
  cases e : inOrd ps qs with
  | nil =>
    rw [e] at an
    exact ⟨⟨fun _ h => (by cases h), .nil⟩, an⟩
  | cons p rs =>
    rw [e] at an lw ok
    obtain ⟨g1, _, g3⟩ := mrg_spec (ok p List.mem_cons_self) (fun q hq => ok q (List.mem_cons_of_mem _ hq)) lw
    refine ⟨g1, fun r => ?_⟩
    rw [← an]
    exact g3 r
/-- what a good list holds says which it is -/
theorem gp_no {ps : List Pt} {r : Rat} (h : ∀ p ∈ ps, r < p.1) : ps.any (inP r) = false := by
  rw [List.any_eq_false]
  intro p hp z
  have := h p hp
  unfold inP at z
  simp at z
  grind
theorem gp_in {p : Pt} (h : Okp p) : ∃ r, 0 < r ∧ inP r p = true := by
  obtain ⟨a, b⟩ := p
  obtain ⟨h0, h1⟩ := h
  cases b with
  | none => exact ⟨a + 1, by dsimp only at *; grind, by unfold inP; simp [hiOk]; grind⟩
  | some k =>
    have := h1 k rfl
    exact ⟨k, this.1, by unfold inP; simp [hiOk]; exact this.2⟩
theorem lo_le {p q : Pt} {ps qs : List Pt} (hp : Gp (p :: ps)) (hq : Gp (q :: qs)) (h : ∀ r, 0 < r → (p :: ps).any (inP r) = true → (q :: qs).any (inP r) = true) : q.1 ≤ p.1 := by
  apply Classical.byContradiction
  intro hn
  have hn : p.1 < q.1 := by grind
  obtain ⟨p0, p1⟩ := hp.1 p List.mem_cons_self
  have lows : ∀ x ∈ q :: qs, q.1 ≤ x.1 := fun x hx => by
    rcases List.mem_cons.mp hx with rfl | hx
    · exact Rat.le_refl
    · exact (List.pairwise_cons.mp hq.lows).1 x hx
  obtain ⟨r, r0, r1, r2⟩ : ∃ r, 0 < r ∧ inP r p = true ∧ r < q.1 := by
    obtain ⟨a, b⟩ := p
    dsimp only at *
    by_cases ha : 0 < a
    · refine ⟨a, ha, ?_, hn⟩
      unfold inP
      cases b with
      | none => simp [hiOk]
      | some k => have := (p1 k rfl).2; simp [hiOk, this]
    · cases b with
      | none => exact ⟨q.1 / 2, by grind, by unfold inP; simp [hiOk]; grind, by grind⟩
      | some k =>
        have := p1 k rfl
        by_cases hk : k < q.1
        · exact ⟨k, this.1, by unfold inP; simp [hiOk]; grind, hk⟩
        · exact ⟨q.1 / 2, by grind, by unfold inP; simp [hiOk]; grind, by grind⟩
  have a1 := h r r0 (by rw [List.any_cons, r1]; rfl)
  rw [gp_no fun x hx => by have := lows x hx; grind] at a1
  cases a1
theorem hi_le {p q : Pt} {ps qs : List Pt} (hp : Gp (p :: ps)) (hq : Gp (q :: qs)) (e1 : p.1 = q.1) (h : ∀ r, 0 < r → (q :: qs).any (inP r) = true → (p :: ps).any (inP r) = true) {k : Rat} (hk : p.2 = some k) : ∃ k2, q.2 = some k2 ∧ k2 ≤ k := by
  apply Classical.byContradiction
  intro hn
  obtain ⟨p0, p1⟩ := hp.1 p List.mem_cons_self
  have pk := p1 k hk
  have above : ∃ r, k < r ∧ hiOk r q.2 = true ∧ ∀ x ∈ ps, r < x.1 := by
    have low : ∃ l, k < l ∧ ∀ x ∈ ps, l < x.1 := by
      cases ps with
      | nil => exact ⟨k + 1, by grind, fun _ h => by cases h⟩
      | cons x xs =>
        obtain ⟨h', e', lt⟩ := (List.pairwise_cons.mp hp.2).1 x List.mem_cons_self
        rw [hk] at e'
        cases e'
        refine ⟨(k + x.1) / 2, by grind, fun y hy => ?_⟩
        have : x.1 ≤ y.1 := by
          rcases List.mem_cons.mp hy with rfl | hy
          · exact Rat.le_refl
          · have := (List.pairwise_cons.mp hp.lows).2
            exact (List.pairwise_cons.mp this).1 y hy
        grind
    obtain ⟨l, l1, l2⟩ := low
    cases hq2 : q.2 with
    | none => exact ⟨l, l1, rfl, l2⟩
    | some k2 =>
      have : ¬ k2 ≤ k := fun z => hn ⟨k2, hq2, z⟩
      by_cases c : l ≤ k2
      · exact ⟨l, l1, by simp [hiOk, c], l2⟩
      · refine ⟨k2, by grind, by simp [hiOk], fun x hx => ?_⟩
        have := l2 x hx
        grind
  obtain ⟨r, r1, r2, r3⟩ := above
  have a1 := h r (by grind) (by
    rw [List.any_cons]
    have : inP r q = true := by
      unfold inP
      rw [r2]
      simp
      grind
    rw [this]
    rfl)
  rw [List.any_cons, gp_no r3] at a1
  have : inP r p = false := by
    unfold inP
    rw [hk]
    simp [hiOk]
    grind
  rw [this] at a1
  cases a1
theorem gp_tail {p : Pt} {ps : List Pt} (hp : Gp (p :: ps)) : Gp ps := ⟨fun q hq => hp.1 q (List.mem_cons_of_mem _ hq), (List.pairwise_cons.mp hp.2).2⟩
theorem gp_off {p : Pt} {ps : List Pt} (hp : Gp (p :: ps)) {r : Rat} (h : inP r p = true) : ps.any (inP r) = false := by
  rw [List.any_eq_false]
  intro x hx z
  obtain ⟨k, e, lt⟩ := (List.pairwise_cons.mp hp.2).1 x hx
  unfold inP at h z
  rw [e] at h
  simp [hiOk] at h z
  grind
theorem gp_eq : ∀ {ps qs : List Pt}, Gp ps → Gp qs → (∀ r, 0 < r → ps.any (inP r) = qs.any (inP r)) → ps = qs
  | [], [], _, _, _ => rfl
  | [], q :: qs, _, hq, h => by
    obtain ⟨r, r0, r1⟩ := gp_in (hq.1 q List.mem_cons_self)
    have := h r r0
    rw [List.any_cons, r1] at this
    cases this
  | p :: ps, [], hp, _, h => by
    obtain ⟨r, r0, r1⟩ := gp_in (hp.1 p List.mem_cons_self)
    have := h r r0
    rw [List.any_cons, r1] at this
    cases this
  | p :: ps, q :: qs, hp, hq, h => by
    have e1 : p.1 = q.1 := by
      have a := lo_le hp hq fun r r0 z => by rw [← h r r0]; exact z
      have b := lo_le hq hp fun r r0 z => by rw [h r r0]; exact z
      grind
    have e2 : p.2 = q.2 := by
      have f1 : ∀ k, p.2 = some k → ∃ k2, q.2 = some k2 ∧ k2 ≤ k := fun k hk => hi_le hp hq e1 (fun r r0 z => by rw [h r r0]; exact z) hk
      have f2 : ∀ k, q.2 = some k → ∃ k2, p.2 = some k2 ∧ k2 ≤ k := fun k hk => hi_le hq hp e1.symm (fun r r0 z => by rw [← h r r0]; exact z) hk
      cases hp2 : p.2 with
      | none =>
        cases hq2 : q.2 with
        | none => rfl
        | some k =>
          obtain ⟨k2, e, _⟩ := f2 k hq2
          rw [hp2] at e
          cases e
      | some k =>
        obtain ⟨k2, e, le⟩ := f1 k hp2
        obtain ⟨k3, e3, le3⟩ := f2 k2 e
        rw [hp2] at e3
        cases e3
        rw [e]
        congr 1
        grind
    have e : p = q := Prod.ext e1 e2
    subst e
    congr 1
    refine gp_eq (gp_tail hp) (gp_tail hq) fun r r0 => ?_
    have hr := h r r0
    rw [List.any_cons, List.any_cons] at hr
    cases z : inP r p with
    | false =>
      rw [z] at hr
      simpa using hr
    | true => rw [gp_off hp z, gp_off hq z]
theorem common_sym {ps qs : List Pt} (hp : Gp ps) (hq : Gp qs) : commonP ps qs = commonP qs ps := gp_eq (common_good hp hq) (common_good hq hp) fun r _ => by rw [common_any, common_any, Bool.and_comm]
theorem join_sym {ps qs : List Pt} (hp : Gp ps) (hq : Gp qs) : joinP ps qs = joinP qs ps := gp_eq (join_good hp hq).1 (join_good hq hp).1 fun r _ => by rw [(join_good hp hq).2, (join_good hq hp).2, Bool.or_comm]
def wholeP : List Pt := [(0, none)]
theorem whole_gp : Gp wholeP := ⟨fun p hp => by
  rw [List.mem_singleton.mp hp]
  exact ⟨Rat.le_refl, fun _ z => by cases z⟩, by show List.Pairwise _ [_]; simp⟩
theorem nil_gp : Gp [] := ⟨fun _ h => (by cases h), .nil⟩
theorem whole_any {r : Rat} (h : 0 < r) : wholeP.any (inP r) = true := by
  simp [wholeP, inP, hiOk]
  grind
theorem common_whole {ps : List Pt} (hp : Gp ps) : commonP ps wholeP = ps := gp_eq (common_good hp whole_gp) hp fun r r0 => by rw [common_any, whole_any r0, Bool.and_true]
theorem join_whole {ps : List Pt} (hp : Gp ps) : joinP ps wholeP = wholeP := gp_eq (join_good hp whole_gp).1 whole_gp fun r r0 => by rw [(join_good hp whole_gp).2, whole_any r0, Bool.or_true]
theorem common_nil {ps : List Pt} : commonP ps [] = [] := by
  unfold commonP
  simp
theorem join_nil {ps : List Pt} (hp : Gp ps) : joinP ps [] = ps := gp_eq (join_good hp nil_gp).1 hp fun r r0 => by rw [(join_good hp nil_gp).2]; simp
theorem nil_join {ps : List Pt} (hp : Gp ps) : joinP [] ps = ps := gp_eq (join_good nil_gp hp).1 hp fun r r0 => by rw [(join_good nil_gp hp).2]; simp
end



/-! ### k57: common_part, merged, in_order -/
theorem RPs.nil {C : Addr} {H : Hp} {n : Nat} : RPs C H [] n [] := ⟨rfl, fun i v p h => by cases h⟩
theorem RPs.one {C : Addr} {H : Hp} {v : V} {n : Nat} {p : Pt} (h : RPart C H v n p) : RPs C H [v] n [p] := ⟨rfl, fun i x q h1 h2 => by
  cases i with
  | zero => cases h1; cases h2; exact h
  | succ i => cases h1⟩
theorem RPs.app {C : Addr} {H : Hp} {xs ys : List V} {n : Nat} {ps qs : List Pt} (h : RPs C H xs n ps) (h2 : RPs C H ys n qs) : RPs C H (xs ++ ys) n (ps ++ qs) := ⟨by rw [List.length_append, List.length_append, h.len, h2.len], fun i v p e1 e2 => by
  have hl := h.len
  by_cases hi : i < xs.length
  · rw [List.getElem?_append_left hi] at e1
    rw [List.getElem?_append_left (by omega)] at e2
    exact h.ea i v p e1 e2
  · rw [List.getElem?_append_right (by omega)] at e1
    rw [List.getElem?_append_right (by omega), ← hl] at e2
    exact h2.ea _ v p e1 e2⟩
theorem cpart_len {p q : Pt} : (cpart p q).length ≤ 1 := by
  unfold cpart
  split <;> simp
def spCPart (C : Addr) : Sp := fun vs H Q _ => ∃ v u n p q, vs = [v, u] ∧ RPart C H v n p ∧ RPart C H u n q ∧ n ≤ 4000 ∧ ∀ H' b ys, Same H H' → H b = none → H' b = some (.lst ys) → RPs C H' ys n (cpart p q) → Q (.ref b) H'
def spMerged (C : Addr) : Sp := fun vs H Q _ => ∃ a xs n ps, vs = [.ref a] ∧ H a = some (.lst xs) ∧ RPs C H xs n ps ∧ n ≤ 4000 ∧ xs.length ≤ 1000 ∧ ∀ H' b ys, Same H H' → H b = none → H' b = some (.lst ys) → RPs C H' ys n (mergedP ps) → Q (.ref b) H'
def spInOrder (C : Addr) : Sp := fun vs H Q _ => ∃ a b xs zs n ps qs, vs = [.ref a, .ref b] ∧ H a = some (.lst xs) ∧ H b = some (.lst zs) ∧ RPs C H xs n ps ∧ RPs C H zs n qs ∧ n ≤ 4000 ∧ xs.length ≤ 400 ∧ zs.length ≤ 400 ∧ ∀ H' c ys, Same H H' → H c = none → H' c = some (.lst ys) → RPs C H' ys n (inOrd ps qs) → Q (.ref c) H'
section
variable {P : Program} {w : World} {K : PySem.W.Frag} {mg : Str → Option Value} {base : Heap} {A : Adr}
theorem ok_cpart (T : Txt K mg A) (gRatioLt : FnOk P w K mg base CX0 5 A.a_RatioLt A.d_RatioLt ["self", "other"] (spCmp A.k_Ratio (fun p q => decide (p < q)))) (gRatioGt : FnOk P w K mg base CX0 5 A.a_RatioGt A.d_RatioGt ["self", "other"] (spCmp A.k_Ratio (fun p q => decide (q < p)))) :
    FnOk P w K mg base CX0 6 A.a_CommonPart A.d_CommonPart ["one", "other"] (spCPart A.k_Ratio) := by
  refine T.f_CommonPart.ok scCommonPart (fun vs H Q E h => ?_) (fun cdv A' outer s H vs Q E hr h => ?_)
  · obtain ⟨v, u, n, p, q, rfl, _⟩ := h
    rfl
  · obtain ⟨v, u, n, p, q, rfl, hv, hu, hn, k⟩ := h
    refine ⟨_, (pss_cons (ps_set (i := 2) scCommonPart.nd rfl (Or.inl rfl) (pe_ifExp (pt_cmpR (op_ownC (fun _ _ => rfl) T.o_RatioGt gRatioGt (hr.mono (by decide)) T.b_RatioGt pass0) (pe_ix ix_tupH (pv 0) pe_int (fun _ _ => rfl)) (pe_ix ix_tupH (pv 1) pe_int (fun _ _ => rfl)) (nomark _)) (pe_ix ix_tupH (pv 0) pe_int (fun _ _ => rfl)) (pe_ix ix_tupH (pv 1) pe_int (fun _ _ => rfl))))
      (pss_cons (ps_set (i := 3) scCommonPart.nd rfl (Or.inl rfl) (pe_ix ix_tupH (pv 0) pe_int (fun _ _ => rfl)))
      (pss_cons (ps_if (PW.pt (pw_or (pt_cmpR (op_isN) (pv 3) pe_non (nomark _)) (pw_or1 (PW.pt (pw_and (pt_cmpR (op_notN) (pe_ix ix_tupH (pv 1) pe_int (fun _ _ => rfl)) pe_non (nomark _)) (pw_and1 (pt_cmpR (op_ownC (fun _ _ => rfl) T.o_RatioLt gRatioLt (hr.mono (by decide)) T.b_RatioLt pass0) (pe_ix ix_tupH (pv 1) pe_int (fun _ _ => rfl)) (pv 3) (nomark _)))))))) (pss_one (ps_set (i := 3) scCommonPart.nd rfl (Or.inl rfl) (pe_ix ix_tupH (pv 1) pe_int (fun _ _ => rfl)))) pss_nil)
      (pss_cons (ps_if (PW.pt (pw_and (pt_cmpR (op_notN) (pv 3) pe_non (nomark _)) (pw_and1 (pt_cmpR (op_ownC (fun _ _ => rfl) T.o_RatioLt gRatioLt (hr.mono (by decide)) T.b_RatioLt pass0) (pv 3) (pv 2) (nomark _))))) (pss_one (ps_ret (pe_lst pa_nil))) pss_nil)
      (pss_one (ps_ret (pe_lst (pa_cons (pe_tup (pa_cons (pv 2) (pa_cons (pv 3) pa_nil))) pa_nil)))))))), ?_⟩
    obtain ⟨t1, x1, y1, rfl, ht1, hx1, hy1⟩ := hv
    obtain ⟨t2, x2, y2, rfl, ht2, hx2, hy2⟩ := hu
    refine seq_gen fun N eN => ?_
    try simp only [tSeq, tNext, tRet, tRetN, tAsg, gName, gSub, tDrop, tIfS, tOp, tUn, tCB, tCons, tNil, tC, tVar, rI, rI0, rU, tAnd, tOr, tNot, tAndV, tOrV, tNotV, tIf, tTest, tB, tCall, tChain, tLst, tTup, tYes, rIxH, rIsB, rIsBT, rMulS, kd_non, kd_bl, kd_int, kd_str, kd_ref, kdO_lst, kdO_tup, kdO_dK, nq_n, nq_b, nq_i, nq_s, nq_l, nq_t, nq_d, ne_eq, not_false_eq_true, kit_ss, kit_ns, kit_bs, kit_is, kit_ls, kit_ts, kit_ds, kit_bb, V.ty.injEq, and_assoc, rIxU, rLenH, rLenU, rLenS, rInt1, rSetL, rEq, rNe, rCat, L2.start, List.map, List.length, List.length_cons, List.length_nil, List.replicate, List.getElem?_cons_zero, List.getElem?_cons_succ, List.set_cons_zero, List.set_cons_succ, List.set_nil, List.cons_append, List.nil_append, List.append_nil, Option.some.injEq, V.int.injEq, V.ref.injEq, V.str.injEq, V.bl.injEq, HO.lst.injEq, HO.tup.injEq, exists_eq_left', exists_and_left, exists_eq_left, List.cons.injEq, and_true, true_and, and_false, false_and, and_self, reduceCtorEq, exists_false, or_false, false_or, exists_const, at0, at1, at2, at3, at4, at5, ix51, ix52, ix54, upd_same, Nat.reduceAdd, Nat.reduceSub, Nat.zero_add, Int.reduceToNat, Int.reduceLE, Int.reduceLT, decide_eq_true_eq, Bool.not_eq_true, if_true, if_false, Bool.false_eq_true, ite_true, ite_false, Bool.not_true, Bool.not_false, decide_true, decide_false, tFor_eq, tLc_eq, iList, iTup, iRng1, iRng2, iStr, tSl, tPart, tNoPart, rSlL, cxOf_K, wipe, ex_ty2, kit_LTl, kit_LTt, kit_LTd, kit_LTs, kit_LTn, kit_LTb, kit_LTi, tM1, rIxS, exists_eq', lt1p, tDNewK, rSlS, rEqNil, nox_K, ht1, ht2]
    obtain ⟨lo1, hi1⟩ := p
    obtain ⟨lo2, hi2⟩ := q
    refine cmp_go hx1 (.inl hx2) (by omega) fun H1 s1 => ⟨_, rfl, ?_⟩
    have ht1' := s1 _ _ ht1
    have ht2' := s1 _ _ ht2
    suffices go : ∀ xl, RatAt A.k_Ratio H1 xl (loMax lo1 lo2) n → N [some (V.ref t1), some (V.ref t2), some xl, none] H1 by
      by_cases c : lo2 < lo1
      · rw [if_pos (decide_eq_true c)]
        refine ⟨_, ht1', x1, rfl, go x1 ?_⟩
        unfold loMax
        rw [if_pos c]
        exact hx1.same s1
      · rw [if_neg (by simpa using c)]
        refine ⟨_, ht2', x2, rfl, go x2 ?_⟩
        unfold loMax
        rw [if_neg c]
        exact hx2.same s1
    intro xl hxl
    rw [eN]
    clear eN N
    refine seq_gen fun N eN => ?_
    try simp only [tSeq, tNext, tRet, tRetN, tAsg, gName, gSub, tDrop, tIfS, tOp, tUn, tCB, tCons, tNil, tC, tVar, rI, rI0, rU, tAnd, tOr, tNot, tAndV, tOrV, tNotV, tIf, tTest, tB, tCall, tChain, tLst, tTup, tYes, rIxH, rIsB, rIsBT, rMulS, kd_non, kd_bl, kd_int, kd_str, kd_ref, kdO_lst, kdO_tup, kdO_dK, nq_n, nq_b, nq_i, nq_s, nq_l, nq_t, nq_d, ne_eq, not_false_eq_true, kit_ss, kit_ns, kit_bs, kit_is, kit_ls, kit_ts, kit_ds, kit_bb, V.ty.injEq, and_assoc, rIxU, rLenH, rLenU, rLenS, rInt1, rSetL, rEq, rNe, rCat, L2.start, List.map, List.length, List.length_cons, List.length_nil, List.replicate, List.getElem?_cons_zero, List.getElem?_cons_succ, List.set_cons_zero, List.set_cons_succ, List.set_nil, List.cons_append, List.nil_append, List.append_nil, Option.some.injEq, V.int.injEq, V.ref.injEq, V.str.injEq, V.bl.injEq, HO.lst.injEq, HO.tup.injEq, exists_eq_left', exists_and_left, exists_eq_left, List.cons.injEq, and_true, true_and, and_false, false_and, and_self, reduceCtorEq, exists_false, or_false, false_or, exists_const, at0, at1, at2, at3, at4, at5, ix51, ix52, ix54, upd_same, Nat.reduceAdd, Nat.reduceSub, Nat.zero_add, Int.reduceToNat, Int.reduceLE, Int.reduceLT, decide_eq_true_eq, Bool.not_eq_true, if_true, if_false, Bool.false_eq_true, ite_true, ite_false, Bool.not_true, Bool.not_false, decide_true, decide_false, tFor_eq, tLc_eq, iList, iTup, iRng1, iRng2, iStr, tSl, tPart, tNoPart, rSlL, cxOf_K, wipe, ex_ty2, kit_LTl, kit_LTt, kit_LTd, kit_LTs, kit_LTn, kit_LTb, kit_LTi, tM1, rIxS, exists_eq', lt1p, tDNewK, rSlS, rEqNil, nox_K, ht1']
    rw [eN]
    clear eN N
    have hy1 := hy1.same s1
    have hy2 := hy2.same s1
    refine join (J := fun σ H2 => ∃ yh, σ = [some (V.ref t1), some (V.ref t2), some xl, some yh] ∧ Same H1 H2 ∧ RHi A.k_Ratio H1 yh n (hiMin hi1 hi2)) (fun σ H2 ⟨yh, e, s2, hyh⟩ => ?_) (fun N hN => ?_)
    rotate_left
    · try simp only [tSeq, tNext, tRet, tRetN, tAsg, gName, gSub, tDrop, tIfS, tOp, tUn, tCB, tCons, tNil, tC, tVar, rI, rI0, rU, tAnd, tOr, tNot, tAndV, tOrV, tNotV, tIf, tTest, tB, tCall, tChain, tLst, tTup, tYes, rIxH, rIsB, rIsBT, rMulS, kd_non, kd_bl, kd_int, kd_str, kd_ref, kdO_lst, kdO_tup, kdO_dK, nq_n, nq_b, nq_i, nq_s, nq_l, nq_t, nq_d, ne_eq, not_false_eq_true, kit_ss, kit_ns, kit_bs, kit_is, kit_ls, kit_ts, kit_ds, kit_bb, V.ty.injEq, and_assoc, rIxU, rLenH, rLenU, rLenS, rInt1, rSetL, rEq, rNe, rCat, L2.start, List.map, List.length, List.length_cons, List.length_nil, List.replicate, List.getElem?_cons_zero, List.getElem?_cons_succ, List.set_cons_zero, List.set_cons_succ, List.set_nil, List.cons_append, List.nil_append, List.append_nil, Option.some.injEq, V.int.injEq, V.ref.injEq, V.str.injEq, V.bl.injEq, HO.lst.injEq, HO.tup.injEq, exists_eq_left', exists_and_left, exists_eq_left, List.cons.injEq, and_true, true_and, and_false, false_and, and_self, reduceCtorEq, exists_false, or_false, false_or, exists_const, at0, at1, at2, at3, at4, at5, ix51, ix52, ix54, upd_same, Nat.reduceAdd, Nat.reduceSub, Nat.zero_add, Int.reduceToNat, Int.reduceLE, Int.reduceLT, decide_eq_true_eq, Bool.not_eq_true, if_true, if_false, Bool.false_eq_true, ite_true, ite_false, Bool.not_true, Bool.not_false, decide_true, decide_false, tFor_eq, tLc_eq, iList, iTup, iRng1, iRng2, iStr, tSl, tPart, tNoPart, rSlL, cxOf_K, wipe, ex_ty2, kit_LTl, kit_LTt, kit_LTd, kit_LTs, kit_LTn, kit_LTb, kit_LTi, tM1, rIxS, exists_eq', lt1p, tDNewK, rSlS, rEqNil, nox_K, ht2']
      cases hi1 with
      | none =>
        have hy1 : y1 = .non := hy1
        subst hy1
        rw [if_pos rfl]
        exact hN _ _ ⟨y2, rfl, Same.refl _, hy2⟩
      | some h1 =>
        have nn1 : ¬ y1 = .non := NumAt.nn (.inl hy1)
        rw [if_neg nn1]
        cases hi2 with
        | none =>
          have hy2 : y2 = .non := hy2
          subst hy2
          rw [if_neg (by decide)]
          exact hN _ _ ⟨y1, rfl, Same.refl _, hy1⟩
        | some h2 =>
          have nn2 : ¬ y2 = .non := NumAt.nn (.inl hy2)
          rw [if_pos (by rw [decide_eq_false nn2]; rfl)]
          refine cmp_go (show RatAt A.k_Ratio H1 y2 h2 n from hy2) (.inl (show RatAt A.k_Ratio H1 y1 h1 n from hy1)) (by omega) fun H2 s2 => ⟨_, rfl, ?_⟩
          by_cases c : h2 < h1
          · rw [if_pos (decide_eq_true c)]
            refine ⟨_, s2 _ _ ht2', y2, rfl, hN _ _ ⟨y2, rfl, s2, ?_⟩⟩
            show RHi A.k_Ratio H1 y2 n (if h2 < h1 then some h2 else some h1)
            rw [if_pos c]
            exact hy2
          · rw [if_neg (by simpa using c)]
            refine hN _ _ ⟨y1, rfl, s2, ?_⟩
            show RHi A.k_Ratio H1 y1 n (if h2 < h1 then some h2 else some h1)
            rw [if_neg c]
            exact hy1
    subst e
    have s02 := s1.trans s2
    have hyh := hyh.same s2
    have hxl := hxl.same s2
    refine seq_gen fun N eN => ?_
    try simp only [tSeq, tNext, tRet, tRetN, tAsg, gName, gSub, tDrop, tIfS, tOp, tUn, tCB, tCons, tNil, tC, tVar, rI, rI0, rU, tAnd, tOr, tNot, tAndV, tOrV, tNotV, tIf, tTest, tB, tCall, tChain, tLst, tTup, tYes, rIxH, rIsB, rIsBT, rMulS, kd_non, kd_bl, kd_int, kd_str, kd_ref, kdO_lst, kdO_tup, kdO_dK, nq_n, nq_b, nq_i, nq_s, nq_l, nq_t, nq_d, ne_eq, not_false_eq_true, kit_ss, kit_ns, kit_bs, kit_is, kit_ls, kit_ts, kit_ds, kit_bb, V.ty.injEq, and_assoc, rIxU, rLenH, rLenU, rLenS, rInt1, rSetL, rEq, rNe, rCat, L2.start, List.map, List.length, List.length_cons, List.length_nil, List.replicate, List.getElem?_cons_zero, List.getElem?_cons_succ, List.set_cons_zero, List.set_cons_succ, List.set_nil, List.cons_append, List.nil_append, List.append_nil, Option.some.injEq, V.int.injEq, V.ref.injEq, V.str.injEq, V.bl.injEq, HO.lst.injEq, HO.tup.injEq, exists_eq_left', exists_and_left, exists_eq_left, List.cons.injEq, and_true, true_and, and_false, false_and, and_self, reduceCtorEq, exists_false, or_false, false_or, exists_const, at0, at1, at2, at3, at4, at5, ix51, ix52, ix54, upd_same, Nat.reduceAdd, Nat.reduceSub, Nat.zero_add, Int.reduceToNat, Int.reduceLE, Int.reduceLT, decide_eq_true_eq, Bool.not_eq_true, if_true, if_false, Bool.false_eq_true, ite_true, ite_false, Bool.not_true, Bool.not_false, decide_true, decide_false, tFor_eq, tLc_eq, iList, iTup, iRng1, iRng2, iStr, tSl, tPart, tNoPart, rSlL, cxOf_K, wipe, ex_ty2, kit_LTl, kit_LTt, kit_LTd, kit_LTs, kit_LTn, kit_LTb, kit_LTi, tM1, rIxS, exists_eq', lt1p, tDNewK, rSlS, rEqNil, nox_K]
    have fin : ∀ H3, Same H2 H3 → hiLt (hiMin hi1 hi2) (loMax lo1 lo2) = false → N [some (V.ref t1), some (V.ref t2), some xl, some yh] H3 := fun H3 s3 hf => by
      rw [eN]
      clear eN
      try simp only [tSeq, tNext, tRet, tRetN, tAsg, gName, gSub, tDrop, tIfS, tOp, tUn, tCB, tCons, tNil, tC, tVar, rI, rI0, rU, tAnd, tOr, tNot, tAndV, tOrV, tNotV, tIf, tTest, tB, tCall, tChain, tLst, tTup, tYes, rIxH, rIsB, rIsBT, rMulS, kd_non, kd_bl, kd_int, kd_str, kd_ref, kdO_lst, kdO_tup, kdO_dK, nq_n, nq_b, nq_i, nq_s, nq_l, nq_t, nq_d, ne_eq, not_false_eq_true, kit_ss, kit_ns, kit_bs, kit_is, kit_ls, kit_ts, kit_ds, kit_bb, V.ty.injEq, and_assoc, rIxU, rLenH, rLenU, rLenS, rInt1, rSetL, rEq, rNe, rCat, L2.start, List.map, List.length, List.length_cons, List.length_nil, List.replicate, List.getElem?_cons_zero, List.getElem?_cons_succ, List.set_cons_zero, List.set_cons_succ, List.set_nil, List.cons_append, List.nil_append, List.append_nil, Option.some.injEq, V.int.injEq, V.ref.injEq, V.str.injEq, V.bl.injEq, HO.lst.injEq, HO.tup.injEq, exists_eq_left', exists_and_left, exists_eq_left, List.cons.injEq, and_true, true_and, and_false, false_and, and_self, reduceCtorEq, exists_false, or_false, false_or, exists_const, at0, at1, at2, at3, at4, at5, ix51, ix52, ix54, upd_same, Nat.reduceAdd, Nat.reduceSub, Nat.zero_add, Int.reduceToNat, Int.reduceLE, Int.reduceLT, decide_eq_true_eq, Bool.not_eq_true, if_true, if_false, Bool.false_eq_true, ite_true, ite_false, Bool.not_true, Bool.not_false, decide_true, decide_false, tFor_eq, tLc_eq, iList, iTup, iRng1, iRng2, iStr, tSl, tPart, tNoPart, rSlL, cxOf_K, wipe, ex_ty2, kit_LTl, kit_LTt, kit_LTd, kit_LTs, kit_LTn, kit_LTb, kit_LTi, tM1, rIxS, exists_eq', lt1p, tDNewK, rSlS, rEqNil, nox_K]
      refine ⟨by decide, ?_⟩
      intro t n_t; generalize g_H4 : upd H3 t _ = H4; obtain ⟨s_H4, h_t⟩ := new_facts n_t g_H4; clear g_H4
      refine ⟨by decide, ?_⟩
      intro b n_b; generalize g_H5 : upd H4 b _ = H5; obtain ⟨s_H5, h_b⟩ := new_facts n_b g_H5; clear g_H5
      have s25 := (s3.trans s_H4).trans s_H5
      refine k H5 b _ (s02.trans s25) ((s02.trans (s3.trans s_H4)).free n_b) h_b ?_
      unfold cpart
      rw [if_neg (by rw [hf]; decide)]
      exact RPs.one ⟨t, xl, yh, rfl, s_H5 _ _ h_t, hxl.same s25, hyh.same s25⟩
    have no : ∀ H3, Same H2 H3 → hiLt (hiMin hi1 hi2) (loMax lo1 lo2) = true → 0 ≤ sizeLine ∧ ∀ p, H3 p = none → Q (.ref p) (upd H3 p (.lst [])) := fun H3 s3 ht => ⟨by decide, fun b nb => by
      refine k _ b _ ((s02.trans s3).trans (same_new nb)) ((s02.trans s3).free nb) upd_same ?_
      unfold cpart
      rw [if_pos ht]
      exact RPs.nil⟩
    cases hh : hiMin hi1 hi2 with
    | none =>
      rw [hh] at hyh fin no
      have hyh : yh = .non := hyh
      subst hyh
      rw [if_neg (by decide)]
      exact fin H2 (Same.refl _) rfl
    | some h =>
      rw [hh] at hyh fin no
      have nn : ¬ yh = .non := NumAt.nn (.inl hyh)
      rw [if_pos (by rw [decide_eq_false nn]; rfl)]
      refine cmp_go (show RatAt A.k_Ratio H2 yh h n from hyh) (.inl hxl) (by omega) fun H3 s3 => ⟨_, rfl, ?_⟩
      by_cases c : h < loMax lo1 lo2
      · rw [if_pos (decide_eq_true c)]
        exact no H3 s3 (decide_eq_true c)
      · rw [if_neg (by simpa using c)]
        exact fin H3 s3 (decide_eq_false c)
theorem drop_at {α : Type} {ps : List α} {i : Nat} {p : α} (h : ps[i]? = some p) : ps.drop i = p :: ps.drop (i + 1) := by
  have hl := (List.getElem?_eq_some_iff.mp h)
  obtain ⟨hl, e⟩ := hl
  rw [List.drop_eq_getElem_cons hl, e]
theorem mrg_none {lo l : Rat} {h : Option Rat} {ps : List Pt} : mrg (l, none) ((lo, h) :: ps) = mrg (l, none) ps := by
  rw [mrg]
  simp [hiLt]
theorem mrg_gap {lo l k : Rat} {h : Option Rat} {ps : List Pt} (c : k < lo) : mrg (l, some k) ((lo, h) :: ps) = (l, some k) :: mrg (lo, h) ps := by
  rw [mrg]
  simp [hiLt, c]
theorem mrg_meet {lo l k : Rat} {h : Option Rat} {ps : List Pt} (c : ¬ k < lo) : mrg (l, some k) ((lo, h) :: ps) = match h with
    | none => mrg (l, none) ps
    | some k2 => if k < k2 then mrg (l, some k2) ps else mrg (l, some k) ps := by
  rw [mrg]
  simp only [hiLt, decide_eq_true_eq, c, if_false]
  all_goals (cases h <;> rfl)
def LMe (C a f : Addr) (n : Nat) (ps : List Pt) (H0 : Hp) (i : Nat) (σ : St) (H : Hp) : Prop := ∃ (v2 v3 : Option V) (zs : List V) (ac : List Pt), σ = [some (.ref a), some (.ref f), v2, v3] ∧ Same H0 H ∧ H f = some (.lst zs) ∧ RPs C H zs n ac ∧ ac.length ≤ i ∧
  ((i = 0 ∧ ac = []) ∨ ∃ done last, ac = done ++ [last] ∧ mergedP ps = done ++ mrg last (ps.drop i))
theorem lme_mut {f : Addr} {H0 H : Hp} {zs us : List V} (s : Same H0 H) (nf : H0 f = none) (h : H f = some (.lst zs)) : Same H0 (upd H f (.lst us)) := fun b o e => by
  rw [upd_ne (fun z => by rw [z, nf] at e; cases e)]
  exact s b o e
theorem last_of {α : Type} {xs : List α} {x : α} : (xs ++ [x])[(xs ++ [x]).length - 1]? = some x := by
  rw [List.length_append, List.length_singleton, Nat.add_sub_cancel, List.getElem?_append_right (Nat.le_refl _), Nat.sub_self]
  rfl
theorem ok_merged (T : Txt K mg A) (gRatioGt : FnOk P w K mg base CX0 5 A.a_RatioGt A.d_RatioGt ["self", "other"] (spCmp A.k_Ratio (fun p q => decide (q < p)))) :
    FnOk P w K mg base CX0 6 A.a_Merged A.d_Merged ["parts"] (spMerged A.k_Ratio) := by
  refine T.f_Merged.ok scMerged (fun vs H Q E h => ?_) (fun cdv A' outer s H vs Q E hr h => ?_)
  · obtain ⟨a, xs, n, ps, rfl, _⟩ := h
    rfl
  · obtain ⟨a, xs, n, ps, rfl, ha, rp, hn, hl, k⟩ := h
    refine ⟨_, (pss_cons (ps_set (i := 1) scMerged.nd rfl (Or.inl rfl) (pe_lst pa_nil))
      (pss_cons (ps_for PassesOwn.never rfl (pi_list (pv 0)) (pg_tup rfl (pgs_cons (pg_name (i := 2) scMerged.nd rfl (Or.inl rfl)) (pgs_cons (pg_name (i := 3) scMerged.nd rfl (Or.inl rfl)) pgs_nil))) (pss_one (ps_if (PW.pt (pw_or (pt_cmpR (op_eqNil hr.units) (pv 1) (pe_lst pa_nil) (nomark _)) (pw_or1 (PW.pt (pw_and (pt_cmpR (op_notN) (pe_ix ix_tupH (pe_ix ix_lstH (pv 1) (pe_un un_neg pe_int) (fun _ _ => rfl)) pe_int (fun _ _ => rfl)) pe_non (nomark _)) (pw_and1 (pt_cmpR (op_ownC (fun _ _ => rfl) T.o_RatioGt gRatioGt (hr.mono (by decide)) T.b_RatioGt pass0) (pv 2) (pe_ix ix_tupH (pe_ix ix_lstH (pv 1) (pe_un un_neg pe_int) (fun _ _ => rfl)) pe_int (fun _ _ => rfl)) (nomark _)))))))) (pss_one (ps_expr (pe_bm PySem.F.plainAttrs_list PySem.F.slot_list_append PySem.F.type_list_append mt_append (pv 1) (pa_cons (pe_tup (pa_cons (pv 2) (pa_cons (pv 3) pa_nil))) pa_nil)))) (pss_one (ps_if (PW.pt (pw_and (pt_cmpR (op_notN) (pe_ix ix_tupH (pe_ix ix_lstH (pv 1) (pe_un un_neg pe_int) (fun _ _ => rfl)) pe_int (fun _ _ => rfl)) pe_non (nomark _)) (pw_and1 (PW.pt (pw_or (pt_cmpR (op_isN) (pv 3) pe_non (nomark _)) (pw_or1 (pt_cmpR (op_ownC (fun _ _ => rfl) T.o_RatioGt gRatioGt (hr.mono (by decide)) T.b_RatioGt pass0) (pv 3) (pe_ix ix_tupH (pe_ix ix_lstH (pv 1) (pe_un un_neg pe_int) (fun _ _ => rfl)) pe_int (fun _ _ => rfl)) (nomark _)))))))) (pss_one (ps_asg (pe_tup (pa_cons (pe_ix ix_tupH (pe_ix ix_lstH (pv 1) (pe_un un_neg pe_int) (fun _ _ => rfl)) pe_int (fun _ _ => rfl)) (pa_cons (pv 3) pa_nil))) (pg_sub (pv 1) (pe_un un_neg pe_int) set_list))) pss_nil)))))
      (pss_one (ps_ret (pv 1))))), ?_⟩
    refine seq_gen fun N eN => ?_
    try simp only [tSeq, tNext, tRet, tRetN, tAsg, gName, gSub, tDrop, tIfS, tOp, tUn, tCB, tCons, tNil, tC, tVar, rI, rI0, rU, tAnd, tOr, tNot, tAndV, tOrV, tNotV, tIf, tTest, tB, tCall, tChain, tLst, tTup, tYes, rIxH, rIsB, rIsBT, rMulS, kd_non, kd_bl, kd_int, kd_str, kd_ref, kdO_lst, kdO_tup, kdO_dK, nq_n, nq_b, nq_i, nq_s, nq_l, nq_t, nq_d, ne_eq, not_false_eq_true, kit_ss, kit_ns, kit_bs, kit_is, kit_ls, kit_ts, kit_ds, kit_bb, V.ty.injEq, and_assoc, rIxU, rLenH, rLenU, rLenS, rInt1, rSetL, rEq, rNe, rCat, L2.start, List.map, List.length, List.length_cons, List.length_nil, List.replicate, List.getElem?_cons_zero, List.getElem?_cons_succ, List.set_cons_zero, List.set_cons_succ, List.set_nil, List.cons_append, List.nil_append, List.append_nil, Option.some.injEq, V.int.injEq, V.ref.injEq, V.str.injEq, V.bl.injEq, HO.lst.injEq, HO.tup.injEq, exists_eq_left', exists_and_left, exists_eq_left, List.cons.injEq, and_true, true_and, and_false, false_and, and_self, reduceCtorEq, exists_false, or_false, false_or, exists_const, at0, at1, at2, at3, at4, at5, ix51, ix52, ix54, upd_same, Nat.reduceAdd, Nat.reduceSub, Nat.zero_add, Int.reduceToNat, Int.reduceLE, Int.reduceLT, decide_eq_true_eq, Bool.not_eq_true, if_true, if_false, Bool.false_eq_true, ite_true, ite_false, Bool.not_true, Bool.not_false, decide_true, decide_false, tFor_eq, tLc_eq, iList, iTup, iRng1, iRng2, iStr, tSl, tPart, tNoPart, rSlL, cxOf_K, wipe, ex_ty2, kit_LTl, kit_LTt, kit_LTd, kit_LTs, kit_LTn, kit_LTb, kit_LTi, tM1, rIxS, exists_eq', lt1p, tDNewK, rSlS, rEqNil, nox_K]
    refine ⟨by decide, ?_⟩
    intro f n_f; generalize g_H1 : upd H f _ = H1; obtain ⟨s_H1, h_f⟩ := new_facts n_f g_H1; clear g_H1
    (try dsimp only); rw [eN]; clear eN N
    have nf := n_f
    refine seq_gen fun N eN => ?_
    try simp only [tSeq, tNext, tRet, tRetN, tAsg, gName, gSub, tDrop, tIfS, tOp, tUn, tCB, tCons, tNil, tC, tVar, rI, rI0, rU, tAnd, tOr, tNot, tAndV, tOrV, tNotV, tIf, tTest, tB, tCall, tChain, tLst, tTup, tYes, rIxH, rIsB, rIsBT, rMulS, kd_non, kd_bl, kd_int, kd_str, kd_ref, kdO_lst, kdO_tup, kdO_dK, nq_n, nq_b, nq_i, nq_s, nq_l, nq_t, nq_d, ne_eq, not_false_eq_true, kit_ss, kit_ns, kit_bs, kit_is, kit_ls, kit_ts, kit_ds, kit_bb, V.ty.injEq, and_assoc, rIxU, rLenH, rLenU, rLenS, rInt1, rSetL, rEq, rNe, rCat, L2.start, List.map, List.length, List.length_cons, List.length_nil, List.replicate, List.getElem?_cons_zero, List.getElem?_cons_succ, List.set_cons_zero, List.set_cons_succ, List.set_nil, List.cons_append, List.nil_append, List.append_nil, Option.some.injEq, V.int.injEq, V.ref.injEq, V.str.injEq, V.bl.injEq, HO.lst.injEq, HO.tup.injEq, exists_eq_left', exists_and_left, exists_eq_left, List.cons.injEq, and_true, true_and, and_false, false_and, and_self, reduceCtorEq, exists_false, or_false, false_or, exists_const, at0, at1, at2, at3, at4, at5, ix51, ix52, ix54, upd_same, Nat.reduceAdd, Nat.reduceSub, Nat.zero_add, Int.reduceToNat, Int.reduceLE, Int.reduceLT, decide_eq_true_eq, Bool.not_eq_true, if_true, if_false, Bool.false_eq_true, ite_true, ite_false, Bool.not_true, Bool.not_false, decide_true, decide_false, tFor_eq, tLc_eq, iList, iTup, iRng1, iRng2, iStr, tSl, tPart, tNoPart, rSlL, cxOf_K, wipe, ex_ty2, kit_LTl, kit_LTt, kit_LTd, kit_LTs, kit_LTn, kit_LTb, kit_LTi, tM1, rIxS, exists_eq', lt1p, tDNewK, rSlS, rEqNil, nox_K]
    refine ⟨⟨_, SqL.of (s_H1 _ _ ha)⟩, for_go (walk_list (K := K) (a := a) (xs := xs)) (LMe A.k_Ratio a f n ps H) ⟨_, _, [], [], rfl, s_H1, h_f, RPs.nil, Nat.le_refl _, .inl ⟨rfl, rfl⟩⟩ (fun i σ H2 _ q => by obtain ⟨_, _, _, _, _, s2, _⟩ := q; exact SqL.of (s2 _ _ ha)) (fun i x σ H2 hx q => ?_) (fun σ H2 q => ?_)⟩
    · obtain ⟨v2, v3, zs, ac, rfl, s2, hf2, rz, hal, st⟩ := q
      have hi' : i < ps.length := by rw [← rp.len]; exact (List.getElem?_eq_some_iff.mp hx).1
      have gi : ps[i]? = some ps[i] := List.getElem?_eq_getElem hi'
      have hxl : i < xs.length := (List.getElem?_eq_some_iff.mp hx).1
      obtain ⟨t, u, y, rfl, ht, hu, hy⟩ := (rp.same s2).ea i x _ hx gi
      generalize ps[i] = pp at *
      obtain ⟨lo, hi⟩ := pp
      refine ⟨t, _, rfl, SqT.of ht, rfl, _, _, rfl, _, _, rfl, rfl, ?_⟩
      have zl : zs.length ≤ i := by rw [rz.len]; exact hal
      try simp only [tSeq, tNext, tRet, tRetN, tAsg, gName, gSub, tDrop, tIfS, tOp, tUn, tCB, tCons, tNil, tC, tVar, rI, rI0, rU, tAnd, tOr, tNot, tAndV, tOrV, tNotV, tIf, tTest, tB, tCall, tChain, tLst, tTup, tYes, rIxH, rIsB, rIsBT, rMulS, kd_non, kd_bl, kd_int, kd_str, kd_ref, kdO_lst, kdO_tup, kdO_dK, nq_n, nq_b, nq_i, nq_s, nq_l, nq_t, nq_d, ne_eq, not_false_eq_true, kit_ss, kit_ns, kit_bs, kit_is, kit_ls, kit_ts, kit_ds, kit_bb, V.ty.injEq, and_assoc, rIxU, rLenH, rLenU, rLenS, rInt1, rSetL, rEq, rNe, rCat, L2.start, List.map, List.length, List.length_cons, List.length_nil, List.replicate, List.getElem?_cons_zero, List.getElem?_cons_succ, List.set_cons_zero, List.set_cons_succ, List.set_nil, List.cons_append, List.nil_append, List.append_nil, Option.some.injEq, V.int.injEq, V.ref.injEq, V.str.injEq, V.bl.injEq, HO.lst.injEq, HO.tup.injEq, exists_eq_left', exists_and_left, exists_eq_left, List.cons.injEq, and_true, true_and, and_false, false_and, and_self, reduceCtorEq, exists_false, or_false, false_or, exists_const, at0, at1, at2, at3, at4, at5, ix51, ix52, ix54, upd_same, Nat.reduceAdd, Nat.reduceSub, Nat.zero_add, Int.reduceToNat, Int.reduceLE, Int.reduceLT, decide_eq_true_eq, Bool.not_eq_true, if_true, if_false, Bool.false_eq_true, ite_true, ite_false, Bool.not_true, Bool.not_false, decide_true, decide_false, tFor_eq, tLc_eq, iList, iTup, iRng1, iRng2, iStr, tSl, tPart, tNoPart, rSlL, cxOf_K, wipe, ex_ty2, kit_LTl, kit_LTt, kit_LTd, kit_LTs, kit_LTn, kit_LTb, kit_LTi, tM1, rIxS, exists_eq', lt1p, tDNewK, rSlS, rEqNil, nox_K]
      refine ⟨by decide, ?_⟩
      intro e0 n_e0; generalize g_H3 : upd H2 e0 _ = H3; obtain ⟨s_H3, h_e0⟩ := new_facts n_e0 g_H3; clear g_H3
      have hf3 := s_H3 _ _ hf2
      have hu3 := hu.same s_H3
      have hy3 := hy.same s_H3
      have rz3 := rz.same s_H3
      have s3 := s2.trans s_H3
      clear s_H3 h_e0 n_e0
      have app : ∀ H4, Same H3 H4 → (∃ done last, ac ++ [(lo, hi)] = done ++ [last] ∧ mergedP ps = done ++ mrg last (ps.drop (i + 1))) → tBM K "list" rAppend (tVar 1) (tCons (tTup (tCons (tVar 2) (tCons (tVar 3) tNil))) tNil) [some (V.ref a), some (V.ref f), some u, some y] H4 fun x H1 => LMe A.k_Ratio a f n ps H (i + 1) [some (V.ref a), some (V.ref f), some u, some y] H1 := fun H4 s4 hd => by
        have hf4 := s4 _ _ hf3
        refine ⟨_, rfl, Or.inl ⟨rfl, _, SqL.of hf4⟩, ?_⟩
        try simp only [tSeq, tNext, tRet, tRetN, tAsg, gName, gSub, tDrop, tIfS, tOp, tUn, tCB, tCons, tNil, tC, tVar, rI, rI0, rU, tAnd, tOr, tNot, tAndV, tOrV, tNotV, tIf, tTest, tB, tCall, tChain, tLst, tTup, tYes, rIxH, rIsB, rIsBT, rMulS, kd_non, kd_bl, kd_int, kd_str, kd_ref, kdO_lst, kdO_tup, kdO_dK, nq_n, nq_b, nq_i, nq_s, nq_l, nq_t, nq_d, ne_eq, not_false_eq_true, kit_ss, kit_ns, kit_bs, kit_is, kit_ls, kit_ts, kit_ds, kit_bb, V.ty.injEq, and_assoc, rIxU, rLenH, rLenU, rLenS, rInt1, rSetL, rEq, rNe, rCat, L2.start, List.map, List.length, List.length_cons, List.length_nil, List.replicate, List.getElem?_cons_zero, List.getElem?_cons_succ, List.set_cons_zero, List.set_cons_succ, List.set_nil, List.cons_append, List.nil_append, List.append_nil, Option.some.injEq, V.int.injEq, V.ref.injEq, V.str.injEq, V.bl.injEq, HO.lst.injEq, HO.tup.injEq, exists_eq_left', exists_and_left, exists_eq_left, List.cons.injEq, and_true, true_and, and_false, false_and, and_self, reduceCtorEq, exists_false, or_false, false_or, exists_const, at0, at1, at2, at3, at4, at5, ix51, ix52, ix54, upd_same, Nat.reduceAdd, Nat.reduceSub, Nat.zero_add, Int.reduceToNat, Int.reduceLE, Int.reduceLT, decide_eq_true_eq, Bool.not_eq_true, if_true, if_false, Bool.false_eq_true, ite_true, ite_false, Bool.not_true, Bool.not_false, decide_true, decide_false, tFor_eq, tLc_eq, iList, iTup, iRng1, iRng2, iStr, tSl, tPart, tNoPart, rSlL, cxOf_K, wipe, ex_ty2, kit_LTl, kit_LTt, kit_LTd, kit_LTs, kit_LTn, kit_LTb, kit_LTi, tM1, rIxS, exists_eq', lt1p, tDNewK, rSlS, rEqNil, nox_K]
        refine ⟨by decide, ?_⟩
        intro q n_q; generalize g_H5 : upd H4 q _ = H5; obtain ⟨s_H5, h_q⟩ := new_facts n_q g_H5; clear g_H5
        have hf5 := s_H5 _ _ hf4
        have s35 := s4.trans s_H5
        have nm := Nl.mut (ys := zs ++ [V.ref q]) hf5
        refine ⟨f, _, _, rfl, rfl, hf5, Nat.lt_of_le_of_lt (m := 1000) (by omega) (by decide), ?_⟩
        exact ⟨_, _, _, ac ++ [(lo, hi)], rfl, lme_mut (s3.trans s35) nf hf5, upd_same, ((rz3.same s35).nl nm).snoc (RPart.nl ⟨q, u, y, rfl, h_q, hu3.same s35, hy3.same s35⟩ nm), by rw [List.length_append]; simp only [List.length_singleton]; omega, .inr hd⟩
      refine ⟨zs, hf3, ?_⟩
      rcases st with ⟨rfl, rfl⟩ | ⟨done, last, rfl, em⟩
      · have e0 : zs = [] := List.eq_nil_of_length_eq_zero (by rw [rz.len]; rfl)
        subst e0
        rw [if_pos (by rfl)]
        refine app H3 (Same.refl _) ⟨[], (lo, hi), rfl, ?_⟩
        have := drop_at gi
        rw [List.drop_zero] at this
        rw [this]
        rfl
      have zne : zs ≠ [] := fun z => by
        have := rz.len
        rw [z, List.length_append] at this
        simp at this
      rw [if_neg (by cases zs with | nil => exact absurd rfl zne | cons _ _ => simp)]
      have zl0 : 0 < zs.length := List.length_pos_iff.mpr zne
      have g1 : zs[zs.length - 1]? = some zs[zs.length - 1] := List.getElem?_eq_getElem (by omega)
      have g2 : (done ++ [last])[zs.length - 1]? = some last := by rw [rz.len]; exact last_of
      obtain ⟨tl, ul, yl, el, htl, hul, hyl⟩ := rz3.ea _ _ _ g1 g2
      have al := at_last g1
      rw [el] at al
      rw [drop_at gi] at em
      obtain ⟨llo, lhi⟩ := last
      refine ⟨zs, hf3, _, al, tl, rfl, _, htl, yl, at1, ?_⟩
      have stay : ∀ H4, Same H3 H4 → mrg (llo, lhi) ((lo, hi) :: ps.drop (i + 1)) = mrg (llo, lhi) (ps.drop (i + 1)) → LMe A.k_Ratio a f n ps H (i + 1) [some (V.ref a), some (V.ref f), some u, some y] H4 := fun H4 s4 hd =>
        ⟨_, _, zs, _, rfl, s3.trans s4, s4 _ _ hf3, rz3.same s4, by omega, .inr ⟨done, _, rfl, by rw [em, hd]⟩⟩
      have ext : ∀ H4, Same H3 H4 → mrg (llo, lhi) ((lo, hi) :: ps.drop (i + 1)) = mrg (llo, hi) (ps.drop (i + 1)) → ∃ x, H4 f = some (HO.lst x) ∧ ∃ x_1, atI x (-1) = some x_1 ∧ ∃ p, x_1 = V.ref p ∧ ∃ x, H4 p = some (HO.tup x) ∧ ∃ x_2, atI x 0 = some x_2 ∧ 2 ≤ sizeLine ∧ ∀ q, H4 q = none →
          ∃ x, upd H4 q (.tup [x_2, y]) f = some (HO.lst x) ∧ ∃ j, ixN x.length (-1) = some j ∧ LMe A.k_Ratio a f n ps H (i + 1) [some (V.ref a), some (V.ref f), some u, some y] (upd (upd H4 q (.tup [x_2, y])) f (.lst (x.set j (.ref q)))) := fun H4 s4 hd => by
        refine ⟨zs, s4 _ _ hf3, _, al, tl, rfl, _, s4 _ _ htl, ul, at0, by decide, ?_⟩
        intro q n_q; generalize g_H5 : upd H4 q _ = H5; obtain ⟨s_H5, h_q⟩ := new_facts n_q g_H5; clear g_H5
        have s35 := s4.trans s_H5
        have hf5 := s35 _ _ hf3
        refine ⟨zs, hf5, _, last_ix zne, ?_⟩
        have nm := Nl.mut (ys := zs.set (zs.length - 1) (V.ref q)) hf5
        have es : (done ++ [(llo, lhi)]).set (zs.length - 1) (llo, hi) = done ++ [(llo, hi)] := by
          have e : zs.length - 1 = done.length := by rw [rz.len, List.length_append]; simp
          rw [e, List.set_append_right _ _ (Nat.le_refl _), Nat.sub_self]
          rfl
        have rs := ((rz3.same s35).nl nm).setL (j := zs.length - 1) (RPart.nl (p := (llo, hi)) ⟨q, ul, y, rfl, h_q, hul.same s35, hy3.same s35⟩ nm)
        rw [es] at rs
        exact ⟨_, _, _, _, rfl, lme_mut (s3.trans s35) nf hf5, upd_same, rs, by rw [List.length_append] at hal ⊢; simp only [List.length_singleton] at hal ⊢; omega, .inr ⟨done, _, rfl, by rw [em, hd]⟩⟩
      cases lhi with
      | none =>
        have hyl : yl = .non := hyl
        subst hyl
        rw [if_neg (by decide)]
        refine ⟨zs, hf3, _, al, tl, rfl, _, htl, .non, at1, ?_⟩
        rw [if_neg (by decide)]
        exact stay H3 (Same.refl _) mrg_none
      | some kk =>
        have nnl : ¬ yl = .non := NumAt.nn (.inl hyl)
        rw [if_pos (by rw [decide_eq_false nnl]; rfl)]
        refine ⟨zs, hf3, _, al, tl, rfl, _, htl, yl, at1, ?_⟩
        refine cmp_go hu3 (.inl (show RatAt A.k_Ratio H3 yl kk n from hyl)) (by omega) fun H4 s4 => ⟨_, rfl, ?_⟩
        by_cases c : kk < lo
        · rw [if_pos (decide_eq_true c)]
          refine app H4 s4 ⟨done ++ [(llo, some kk)], (lo, hi), rfl, ?_⟩
          rw [em, List.append_assoc, mrg_gap c]
          rfl
        rw [if_neg (by simpa using c)]
        have me := mrg_meet (l := llo) (h := hi) (ps := ps.drop (i + 1)) c
        have hf4 := s4 _ _ hf3
        refine ⟨zs, hf4, _, al, tl, rfl, _, s4 _ _ htl, yl, at1, ?_⟩
        rw [if_pos (by rw [decide_eq_false nnl]; rfl)]
        cases hi with
        | none =>
          have hy3 : y = .non := hy3
          subst hy3
          rw [if_pos rfl]
          exact ext H4 s4 me
        | some k2 =>
          have nny : ¬ y = .non := NumAt.nn (.inl hy3)
          rw [if_neg nny]
          refine ⟨zs, hf4, _, al, tl, rfl, _, s4 _ _ htl, yl, at1, ?_⟩
          refine cmp_go ((show RatAt A.k_Ratio H3 y k2 n from hy3).same s4) (.inl ((show RatAt A.k_Ratio H3 yl kk n from hyl).same s4)) (by omega) fun H5 s5 => ⟨_, rfl, ?_⟩
          by_cases c2 : kk < k2
          · rw [if_pos (decide_eq_true c2)]
            exact ext H5 (s4.trans s5) (by rw [me]; dsimp only; rw [if_pos c2])
          · rw [if_neg (by simpa using c2)]
            exact stay H5 (s4.trans s5) (by rw [me]; dsimp only; rw [if_neg c2])
    · obtain ⟨v2, v3, zs, ac, rfl, s2, hf2, rz, hal, st⟩ := q
      (try dsimp only); rw [eN]; clear eN N
      try simp only [tSeq, tNext, tRet, tRetN, tAsg, gName, gSub, tDrop, tIfS, tOp, tUn, tCB, tCons, tNil, tC, tVar, rI, rI0, rU, tAnd, tOr, tNot, tAndV, tOrV, tNotV, tIf, tTest, tB, tCall, tChain, tLst, tTup, tYes, rIxH, rIsB, rIsBT, rMulS, kd_non, kd_bl, kd_int, kd_str, kd_ref, kdO_lst, kdO_tup, kdO_dK, nq_n, nq_b, nq_i, nq_s, nq_l, nq_t, nq_d, ne_eq, not_false_eq_true, kit_ss, kit_ns, kit_bs, kit_is, kit_ls, kit_ts, kit_ds, kit_bb, V.ty.injEq, and_assoc, rIxU, rLenH, rLenU, rLenS, rInt1, rSetL, rEq, rNe, rCat, L2.start, List.map, List.length, List.length_cons, List.length_nil, List.replicate, List.getElem?_cons_zero, List.getElem?_cons_succ, List.set_cons_zero, List.set_cons_succ, List.set_nil, List.cons_append, List.nil_append, List.append_nil, Option.some.injEq, V.int.injEq, V.ref.injEq, V.str.injEq, V.bl.injEq, HO.lst.injEq, HO.tup.injEq, exists_eq_left', exists_and_left, exists_eq_left, List.cons.injEq, and_true, true_and, and_false, false_and, and_self, reduceCtorEq, exists_false, or_false, false_or, exists_const, at0, at1, at2, at3, at4, at5, ix51, ix52, ix54, upd_same, Nat.reduceAdd, Nat.reduceSub, Nat.zero_add, Int.reduceToNat, Int.reduceLE, Int.reduceLT, decide_eq_true_eq, Bool.not_eq_true, if_true, if_false, Bool.false_eq_true, ite_true, ite_false, Bool.not_true, Bool.not_false, decide_true, decide_false, tFor_eq, tLc_eq, iList, iTup, iRng1, iRng2, iStr, tSl, tPart, tNoPart, rSlL, cxOf_K, wipe, ex_ty2, kit_LTl, kit_LTt, kit_LTd, kit_LTs, kit_LTn, kit_LTb, kit_LTi, tM1, rIxS, exists_eq', lt1p, tDNewK, rSlS, rEqNil, nox_K]
      refine k H2 f zs s2 nf hf2 ?_
      have e : ac = mergedP ps := by
        rcases st with ⟨e0, rfl⟩ | ⟨done, last, rfl, em⟩
        · have : ps = [] := List.eq_nil_of_length_eq_zero (by rw [← rp.len]; exact e0)
          rw [this]
          rfl
        · rw [em, List.drop_of_length_le (by rw [rp.len]; exact Nat.le_refl _)]
          rfl
      rw [← e]
      exact rz
end



/-! ### k57: in_order -/
theorem inOrd_step {p q : Pt} {ps qs : List Pt} (h : q.1 < p.1) : inOrd (p :: ps) (q :: qs) = q :: inOrd (p :: ps) qs := by
  rw [inOrd, inOrd, List.takeWhile_cons, List.dropWhile_cons, if_pos (decide_eq_true h), if_pos (decide_eq_true h)]
  rfl
theorem inOrd_stop {p : Pt} {ps qs : List Pt} (h : ∀ q, qs[0]? = some q → ¬ q.1 < p.1) : inOrd (p :: ps) qs = p :: inOrd ps qs := by
  rw [inOrd]
  cases qs with
  | nil => rfl
  | cons q qs =>
    have := h q rfl
    rw [List.takeWhile_cons, List.dropWhile_cons, if_neg (by simpa using this), if_neg (by simpa using this)]
    rfl
theorem RPs.dropN {C : Addr} {H : Hp} {xs : List V} {n : Nat} {ps : List Pt} (h : RPs C H xs n ps) (j : Nat) : RPs C H (xs.drop j) n (ps.drop j) := ⟨by rw [List.length_drop, List.length_drop, h.len], fun i v p h1 h2 => by
  rw [List.getElem?_drop] at h1 h2
  exact h.ea _ v p h1 h2⟩
def LIo (C a b f : Addr) (n : Nat) (ps qs : List Pt) (H0 : Hp) (i : Nat) (σ : St) (H : Hp) : Prop := ∃ (v4 : Option V) (j : Nat) (zs : List V) (done : List Pt), σ = [some (.ref a), some (.ref b), some (.ref f), some (.int (j : Int)), v4] ∧ Same H0 H ∧ H f = some (.lst zs) ∧ RPs C H zs n done ∧ j ≤ qs.length ∧ done.length ≤ i + j ∧ inOrd ps qs = done ++ inOrd (ps.drop i) (qs.drop j)
def LIw (C a b f : Addr) (x : V) (n : Nat) (ps qs : List Pt) (H0 : Hp) (i : Nat) (m : Nat) (σ : St) (H : Hp) : Prop := ∃ (j : Nat) (zs : List V) (done : List Pt), m = qs.length - j ∧ σ = [some (.ref a), some (.ref b), some (.ref f), some (.int (j : Int)), some x] ∧ Same H0 H ∧ H f = some (.lst zs) ∧ RPs C H zs n done ∧ j ≤ qs.length ∧ done.length ≤ i + j ∧ inOrd ps qs = done ++ inOrd (ps.drop i) (qs.drop j)
section
variable {P : Program} {w : World} {K : PySem.W.Frag} {mg : Str → Option Value} {base : Heap} {A : Adr}
theorem ok_inorder (T : Txt K mg A) (gRatioLt : FnOk P w K mg base CX0 5 A.a_RatioLt A.d_RatioLt ["self", "other"] (spCmp A.k_Ratio (fun p q => decide (p < q)))) :
    FnOk P w K mg base CX0 6 A.a_InOrder A.d_InOrder ["one", "other"] (spInOrder A.k_Ratio) := by
  refine T.f_InOrder.ok scInOrder (fun vs H Q E h => ?_) (fun cdv A' outer s H vs Q E hr h => ?_)
  · obtain ⟨a, b, xs, us, n, ps, qs, rfl, _⟩ := h
    rfl
  · obtain ⟨a, b, xs, us, n, ps, qs, rfl, ha, hb, rp, rq, hn, hxl, hul, k⟩ := h
    refine ⟨_, (pss_cons (ps_set (i := 2) scInOrder.nd rfl (Or.inl rfl) (pe_lst pa_nil))
      (pss_cons (ps_set (i := 3) scInOrder.nd rfl (Or.inl rfl) pe_int)
      (pss_cons (ps_for PassesOwn.never rfl (pi_list (pv 0)) (pg_name (i := 4) scInOrder.nd rfl (Or.inl rfl)) (pss_cons (ps_while PassesOwn.never (PW.pt (pw_and (pt_cmpR (op_lt) (pv 3) (pe_callB call_lenH (by rfl) T.z_len (by decide +kernel) (pa_cons (pv 1) pa_nil)) (nomark _)) (pw_and1 (pt_cmpR (op_ownC (fun _ _ => rfl) T.o_RatioLt gRatioLt (hr.mono (by decide)) T.b_RatioLt pass0) (pe_ix ix_tupH (pe_ix ix_lstH (pv 1) (pv 3) (fun _ _ => rfl)) pe_int (fun _ _ => rfl)) (pe_ix ix_tupH (pv 4) pe_int (fun _ _ => rfl)) (nomark _))))) (pss_cons (ps_expr (pe_bm PySem.F.plainAttrs_list PySem.F.slot_list_append PySem.F.type_list_append mt_append (pv 2) (pa_cons (pe_ix ix_lstH (pv 1) (pv 3) (fun _ _ => rfl)) pa_nil)))
      (pss_one (ps_set (i := 3) scInOrder.nd rfl (Or.inl rfl) (pe_op op_add (pv 3) pe_int)))))
      (pss_one (ps_expr (pe_bm PySem.F.plainAttrs_list PySem.F.slot_list_append PySem.F.type_list_append mt_append (pv 2) (pa_cons (pv 4) pa_nil))))))
      (pss_one (ps_ret (pe_op op_cat (pv 2) (pe_slice sl_list (pv 1) (po_some (pv 3)) po_none))))))), ?_⟩
    refine seq_gen fun N eN => ?_
    try simp only [tSeq, tNext, tRet, tRetN, tAsg, gName, gSub, tDrop, tIfS, tOp, tUn, tCB, tCons, tNil, tC, tVar, rI, rI0, rU, tAnd, tOr, tNot, tAndV, tOrV, tNotV, tIf, tTest, tB, tCall, tChain, tLst, tTup, tYes, rIxH, rIsB, rIsBT, rMulS, kd_non, kd_bl, kd_int, kd_str, kd_ref, kdO_lst, kdO_tup, kdO_dK, nq_n, nq_b, nq_i, nq_s, nq_l, nq_t, nq_d, ne_eq, not_false_eq_true, kit_ss, kit_ns, kit_bs, kit_is, kit_ls, kit_ts, kit_ds, kit_bb, V.ty.injEq, and_assoc, rIxU, rLenH, rLenU, rLenS, rInt1, rSetL, rEq, rNe, rCat, L2.start, List.map, List.length, List.length_cons, List.length_nil, List.replicate, List.getElem?_cons_zero, List.getElem?_cons_succ, List.set_cons_zero, List.set_cons_succ, List.set_nil, List.cons_append, List.nil_append, List.append_nil, Option.some.injEq, V.int.injEq, V.ref.injEq, V.str.injEq, V.bl.injEq, HO.lst.injEq, HO.tup.injEq, exists_eq_left', exists_and_left, exists_eq_left, List.cons.injEq, and_true, true_and, and_false, false_and, and_self, reduceCtorEq, exists_false, or_false, false_or, exists_const, at0, at1, at2, at3, at4, at5, ix51, ix52, ix54, upd_same, Nat.reduceAdd, Nat.reduceSub, Nat.zero_add, Int.reduceToNat, Int.reduceLE, Int.reduceLT, decide_eq_true_eq, Bool.not_eq_true, if_true, if_false, Bool.false_eq_true, ite_true, ite_false, Bool.not_true, Bool.not_false, decide_true, decide_false, tFor_eq, tLc_eq, iList, iTup, iRng1, iRng2, iStr, tSl, tPart, tNoPart, rSlL, cxOf_K, wipe, ex_ty2, kit_LTl, kit_LTt, kit_LTd, kit_LTs, kit_LTn, kit_LTb, kit_LTi, tM1, rIxS, exists_eq', lt1p, tDNewK, rSlS, rEqNil, nox_K]
    refine ⟨by decide, ?_⟩
    intro f n_f; generalize g_H1 : upd H f _ = H1; obtain ⟨s_H1, h_f⟩ := new_facts n_f g_H1; clear g_H1
    (try dsimp only); rw [eN]; clear eN N
    have nf := n_f
    refine seq_gen fun N eN => ?_
    try simp only [tSeq, tNext, tRet, tRetN, tAsg, gName, gSub, tDrop, tIfS, tOp, tUn, tCB, tCons, tNil, tC, tVar, rI, rI0, rU, tAnd, tOr, tNot, tAndV, tOrV, tNotV, tIf, tTest, tB, tCall, tChain, tLst, tTup, tYes, rIxH, rIsB, rIsBT, rMulS, kd_non, kd_bl, kd_int, kd_str, kd_ref, kdO_lst, kdO_tup, kdO_dK, nq_n, nq_b, nq_i, nq_s, nq_l, nq_t, nq_d, ne_eq, not_false_eq_true, kit_ss, kit_ns, kit_bs, kit_is, kit_ls, kit_ts, kit_ds, kit_bb, V.ty.injEq, and_assoc, rIxU, rLenH, rLenU, rLenS, rInt1, rSetL, rEq, rNe, rCat, L2.start, List.map, List.length, List.length_cons, List.length_nil, List.replicate, List.getElem?_cons_zero, List.getElem?_cons_succ, List.set_cons_zero, List.set_cons_succ, List.set_nil, List.cons_append, List.nil_append, List.append_nil, Option.some.injEq, V.int.injEq, V.ref.injEq, V.str.injEq, V.bl.injEq, HO.lst.injEq, HO.tup.injEq, exists_eq_left', exists_and_left, exists_eq_left, List.cons.injEq, and_true, true_and, and_false, false_and, and_self, reduceCtorEq, exists_false, or_false, false_or, exists_const, at0, at1, at2, at3, at4, at5, ix51, ix52, ix54, upd_same, Nat.reduceAdd, Nat.reduceSub, Nat.zero_add, Int.reduceToNat, Int.reduceLE, Int.reduceLT, decide_eq_true_eq, Bool.not_eq_true, if_true, if_false, Bool.false_eq_true, ite_true, ite_false, Bool.not_true, Bool.not_false, decide_true, decide_false, tFor_eq, tLc_eq, iList, iTup, iRng1, iRng2, iStr, tSl, tPart, tNoPart, rSlL, cxOf_K, wipe, ex_ty2, kit_LTl, kit_LTt, kit_LTd, kit_LTs, kit_LTn, kit_LTb, kit_LTi, tM1, rIxS, exists_eq', lt1p, tDNewK, rSlS, rEqNil, nox_K]
    (try dsimp only); rw [eN]; clear eN N
    refine seq_gen fun N eN => ?_
    try simp only [tSeq, tNext, tRet, tRetN, tAsg, gName, gSub, tDrop, tIfS, tOp, tUn, tCB, tCons, tNil, tC, tVar, rI, rI0, rU, tAnd, tOr, tNot, tAndV, tOrV, tNotV, tIf, tTest, tB, tCall, tChain, tLst, tTup, tYes, rIxH, rIsB, rIsBT, rMulS, kd_non, kd_bl, kd_int, kd_str, kd_ref, kdO_lst, kdO_tup, kdO_dK, nq_n, nq_b, nq_i, nq_s, nq_l, nq_t, nq_d, ne_eq, not_false_eq_true, kit_ss, kit_ns, kit_bs, kit_is, kit_ls, kit_ts, kit_ds, kit_bb, V.ty.injEq, and_assoc, rIxU, rLenH, rLenU, rLenS, rInt1, rSetL, rEq, rNe, rCat, L2.start, List.map, List.length, List.length_cons, List.length_nil, List.replicate, List.getElem?_cons_zero, List.getElem?_cons_succ, List.set_cons_zero, List.set_cons_succ, List.set_nil, List.cons_append, List.nil_append, List.append_nil, Option.some.injEq, V.int.injEq, V.ref.injEq, V.str.injEq, V.bl.injEq, HO.lst.injEq, HO.tup.injEq, exists_eq_left', exists_and_left, exists_eq_left, List.cons.injEq, and_true, true_and, and_false, false_and, and_self, reduceCtorEq, exists_false, or_false, false_or, exists_const, at0, at1, at2, at3, at4, at5, ix51, ix52, ix54, upd_same, Nat.reduceAdd, Nat.reduceSub, Nat.zero_add, Int.reduceToNat, Int.reduceLE, Int.reduceLT, decide_eq_true_eq, Bool.not_eq_true, if_true, if_false, Bool.false_eq_true, ite_true, ite_false, Bool.not_true, Bool.not_false, decide_true, decide_false, tFor_eq, tLc_eq, iList, iTup, iRng1, iRng2, iStr, tSl, tPart, tNoPart, rSlL, cxOf_K, wipe, ex_ty2, kit_LTl, kit_LTt, kit_LTd, kit_LTs, kit_LTn, kit_LTb, kit_LTi, tM1, rIxS, exists_eq', lt1p, tDNewK, rSlS, rEqNil, nox_K]
    have hpl := rp.len
    have hql := rq.len
    refine ⟨⟨_, SqL.of (s_H1 _ _ ha)⟩, for_go (walk_list (K := K) (a := a) (xs := xs)) (LIo A.k_Ratio a b f n ps qs H) ⟨_, 0, [], [], rfl, s_H1, h_f, RPs.nil, Nat.zero_le _, Nat.le_refl _, by rw [List.drop_zero, List.drop_zero]; rfl⟩ (fun i σ H2 _ q => by obtain ⟨_, _, _, _, _, s2, _⟩ := q; exact SqL.of (s2 _ _ ha)) (fun i x σ H2 hx q => ?_) (fun σ H2 q => ?_)⟩
    · obtain ⟨v4, j, zs, done, rfl, s2, hf2, rz, hj, hdl, em⟩ := q
      have hi' : i < ps.length := by rw [← rp.len]; exact (List.getElem?_eq_some_iff.mp hx).1
      have gi : ps[i]? = some ps[i] := List.getElem?_eq_getElem hi'
      have hxi : i < xs.length := (List.getElem?_eq_some_iff.mp hx).1
      obtain ⟨t, u, y, rfl, ht0, hu0, hy0⟩ := rp.ea i x _ hx gi
      generalize ps[i] = pp at *
      obtain ⟨lo, hi⟩ := pp
      refine seq_gen fun N2 eN2 => ?_
      refine ⟨LIw A.k_Ratio a b f (.ref t) n ps qs H i, ⟨_, j, zs, done, rfl, rfl, s2, hf2, rz, hj, hdl, em⟩, ?_⟩
      clear s2 hf2 rz hj hdl em j zs done
      rintro m σ H3 ⟨j, zs, done, rfl, rfl, s3, hf3, rz, hj, hdl, em⟩
      have hb3 := s3 _ _ hb
      have ht3 := s3 _ _ ht0
      -- the end of the while
      have fin : ∀ H4, Same H3 H4 → (∀ q, (qs.drop j)[0]? = some q → ¬ q.1 < lo) → N2 [some (.ref a), some (.ref b), some (.ref f), some (.int (j : Int)), some (.ref t)] H4 := fun H4 s4 hd => by
        rw [eN2]
        have hf4 := s4 _ _ hf3
        try simp only [tSeq, tNext, tRet, tRetN, tAsg, gName, gSub, tDrop, tIfS, tOp, tUn, tCB, tCons, tNil, tC, tVar, rI, rI0, rU, tAnd, tOr, tNot, tAndV, tOrV, tNotV, tIf, tTest, tB, tCall, tChain, tLst, tTup, tYes, rIxH, rIsB, rIsBT, rMulS, kd_non, kd_bl, kd_int, kd_str, kd_ref, kdO_lst, kdO_tup, kdO_dK, nq_n, nq_b, nq_i, nq_s, nq_l, nq_t, nq_d, ne_eq, not_false_eq_true, kit_ss, kit_ns, kit_bs, kit_is, kit_ls, kit_ts, kit_ds, kit_bb, V.ty.injEq, and_assoc, rIxU, rLenH, rLenU, rLenS, rInt1, rSetL, rEq, rNe, rCat, L2.start, List.map, List.length, List.length_cons, List.length_nil, List.replicate, List.getElem?_cons_zero, List.getElem?_cons_succ, List.set_cons_zero, List.set_cons_succ, List.set_nil, List.cons_append, List.nil_append, List.append_nil, Option.some.injEq, V.int.injEq, V.ref.injEq, V.str.injEq, V.bl.injEq, HO.lst.injEq, HO.tup.injEq, exists_eq_left', exists_and_left, exists_eq_left, List.cons.injEq, and_true, true_and, and_false, false_and, and_self, reduceCtorEq, exists_false, or_false, false_or, exists_const, at0, at1, at2, at3, at4, at5, ix51, ix52, ix54, upd_same, Nat.reduceAdd, Nat.reduceSub, Nat.zero_add, Int.reduceToNat, Int.reduceLE, Int.reduceLT, decide_eq_true_eq, Bool.not_eq_true, if_true, if_false, Bool.false_eq_true, ite_true, ite_false, Bool.not_true, Bool.not_false, decide_true, decide_false, tFor_eq, tLc_eq, iList, iTup, iRng1, iRng2, iStr, tSl, tPart, tNoPart, rSlL, cxOf_K, wipe, ex_ty2, kit_LTl, kit_LTt, kit_LTd, kit_LTs, kit_LTn, kit_LTb, kit_LTi, tM1, rIxS, exists_eq', lt1p, tDNewK, rSlS, rEqNil, nox_K, tBM]
        have nm := Nl.mut (ys := zs ++ [V.ref t]) hf4
        refine ⟨.inl ⟨rfl, _, SqL.of hf4⟩, f, _, _, rfl, rfl, hf4, Nat.lt_of_le_of_lt (m := 1000) (by have := rz.len; omega) (by decide), ?_⟩
        have s04 := s3.trans s4
        refine ⟨_, j, _, done ++ [(lo, hi)], rfl, lme_mut s04 nf hf4, upd_same, ((rz.same s4).nl nm).snoc (RPart.nl ⟨t, u, y, rfl, s4 _ _ ht3, hu0.same s04, hy0.same s04⟩ nm), hj, by rw [List.length_append]; simp only [List.length_singleton]; omega, ?_⟩
        rw [em, drop_at gi, inOrd_stop hd, List.append_assoc]
        rfl
      try simp only [tSeq, tNext, tRet, tRetN, tAsg, gName, gSub, tDrop, tIfS, tOp, tUn, tCB, tCons, tNil, tC, tVar, rI, rI0, rU, tAnd, tOr, tNot, tAndV, tOrV, tNotV, tIf, tTest, tB, tCall, tChain, tLst, tTup, tYes, rIxH, rIsB, rIsBT, rMulS, kd_non, kd_bl, kd_int, kd_str, kd_ref, kdO_lst, kdO_tup, kdO_dK, nq_n, nq_b, nq_i, nq_s, nq_l, nq_t, nq_d, ne_eq, not_false_eq_true, kit_ss, kit_ns, kit_bs, kit_is, kit_ls, kit_ts, kit_ds, kit_bb, V.ty.injEq, and_assoc, rIxU, rLenH, rLenU, rLenS, rInt1, rSetL, rEq, rNe, rCat, L2.start, List.map, List.length, List.length_cons, List.length_nil, List.replicate, List.getElem?_cons_zero, List.getElem?_cons_succ, List.set_cons_zero, List.set_cons_succ, List.set_nil, List.cons_append, List.nil_append, List.append_nil, Option.some.injEq, V.int.injEq, V.ref.injEq, V.str.injEq, V.bl.injEq, HO.lst.injEq, HO.tup.injEq, exists_eq_left', exists_and_left, exists_eq_left, List.cons.injEq, and_true, true_and, and_false, false_and, and_self, reduceCtorEq, exists_false, or_false, false_or, exists_const, at0, at1, at2, at3, at4, at5, ix51, ix52, ix54, upd_same, Nat.reduceAdd, Nat.reduceSub, Nat.zero_add, Int.reduceToNat, Int.reduceLE, Int.reduceLT, decide_eq_true_eq, Bool.not_eq_true, if_true, if_false, Bool.false_eq_true, ite_true, ite_false, Bool.not_true, Bool.not_false, decide_true, decide_false, tFor_eq, tLc_eq, iList, iTup, iRng1, iRng2, iStr, tSl, tPart, tNoPart, rSlL, cxOf_K, wipe, ex_ty2, kit_LTl, kit_LTt, kit_LTd, kit_LTs, kit_LTn, kit_LTb, kit_LTi, tM1, rIxS, exists_eq', lt1p, tDNewK, rSlS, rEqNil, nox_K, hb3]
      by_cases cj : j < qs.length
      · rw [if_pos (by rw [hql]; exact Int.ofNat_lt.mpr cj)]
        have gq : qs[j]? = some qs[j] := List.getElem?_eq_getElem cj
        have gu : us[j]? = some us[j] := List.getElem?_eq_getElem (by omega)
        obtain ⟨t2, u2, y2, eu, ht2, hu2, hy2⟩ := (rq.same s3).ea j _ _ gu gq
        have au := atI_nat gu
        rw [eu] at au
        generalize qs[j] = qq at *
        obtain ⟨lo2, hi2⟩ := qq
        refine ⟨_, au, t2, rfl, _, ht2, u2, at0, _, ht3, u, at0, ?_⟩
        refine cmp_go hu2 (.inl (hu0.same s3)) (by omega) fun H4 s4 => ⟨_, rfl, ?_⟩
        by_cases c : lo2 < lo
        · rw [if_pos (decide_eq_true c)]
          refine ⟨fun σ' H' => ∃ m', m' < qs.length - j ∧ LIw A.k_Ratio a b f (.ref t) n ps qs H i m' σ' H', fun _ _ h => h, ?_⟩
          have hf4 := s4 _ _ hf3
          have hb4 := s4 _ _ hb3
          try simp only [tSeq, tNext, tRet, tRetN, tAsg, gName, gSub, tDrop, tIfS, tOp, tUn, tCB, tCons, tNil, tC, tVar, rI, rI0, rU, tAnd, tOr, tNot, tAndV, tOrV, tNotV, tIf, tTest, tB, tCall, tChain, tLst, tTup, tYes, rIxH, rIsB, rIsBT, rMulS, kd_non, kd_bl, kd_int, kd_str, kd_ref, kdO_lst, kdO_tup, kdO_dK, nq_n, nq_b, nq_i, nq_s, nq_l, nq_t, nq_d, ne_eq, not_false_eq_true, kit_ss, kit_ns, kit_bs, kit_is, kit_ls, kit_ts, kit_ds, kit_bb, V.ty.injEq, and_assoc, rIxU, rLenH, rLenU, rLenS, rInt1, rSetL, rEq, rNe, rCat, L2.start, List.map, List.length, List.length_cons, List.length_nil, List.replicate, List.getElem?_cons_zero, List.getElem?_cons_succ, List.set_cons_zero, List.set_cons_succ, List.set_nil, List.cons_append, List.nil_append, List.append_nil, Option.some.injEq, V.int.injEq, V.ref.injEq, V.str.injEq, V.bl.injEq, HO.lst.injEq, HO.tup.injEq, exists_eq_left', exists_and_left, exists_eq_left, List.cons.injEq, and_true, true_and, and_false, false_and, and_self, reduceCtorEq, exists_false, or_false, false_or, exists_const, at0, at1, at2, at3, at4, at5, ix51, ix52, ix54, upd_same, Nat.reduceAdd, Nat.reduceSub, Nat.zero_add, Int.reduceToNat, Int.reduceLE, Int.reduceLT, decide_eq_true_eq, Bool.not_eq_true, if_true, if_false, Bool.false_eq_true, ite_true, ite_false, Bool.not_true, Bool.not_false, decide_true, decide_false, tFor_eq, tLc_eq, iList, iTup, iRng1, iRng2, iStr, tSl, tPart, tNoPart, rSlL, cxOf_K, wipe, ex_ty2, kit_LTl, kit_LTt, kit_LTd, kit_LTs, kit_LTn, kit_LTb, kit_LTi, tM1, rIxS, exists_eq', lt1p, tDNewK, rSlS, rEqNil, nox_K, tBM, hb4]
          have nm := Nl.mut (ys := zs ++ [V.ref t2]) hf4
          refine ⟨.inl ⟨rfl, _, SqL.of hf4⟩, _, au, f, _, _, rfl, rfl, hf4, Nat.lt_of_le_of_lt (m := 1000) (by have := rz.len; omega) (by decide), ?_⟩
          refine ⟨qs.length - (j + 1), by omega, j + 1, _, done ++ [(lo2, hi2)], rfl, rfl, lme_mut (s3.trans s4) nf hf4, upd_same, ((rz.same s4).nl nm).snoc (RPart.nl ⟨t2, u2, y2, rfl, s4 _ _ ht2, hu2.same s4, hy2.same s4⟩ nm), by omega, by rw [List.length_append]; simp only [List.length_singleton]; omega, ?_⟩
          rw [em, drop_at gi, drop_at gq, inOrd_step c, List.append_assoc]
          rfl
        · rw [if_neg (by simpa using c)]
          refine fin H4 s4 fun q e => ?_
          rw [drop_at gq] at e
          cases e
          exact c
      · rw [if_neg (by rw [hql]; exact fun z => cj (Int.ofNat_lt.mp z))]
        refine fin H3 (Same.refl _) fun q e => ?_
        rw [List.drop_of_length_le (by omega)] at e
        cases e
    · obtain ⟨v4, j, zs, done, rfl, s2, hf2, rz, hj, hdl, em⟩ := q
      (try dsimp only); rw [eN]; clear eN N
      have hb2 := s2 _ _ hb
      try simp only [tSeq, tNext, tRet, tRetN, tAsg, gName, gSub, tDrop, tIfS, tOp, tUn, tCB, tCons, tNil, tC, tVar, rI, rI0, rU, tAnd, tOr, tNot, tAndV, tOrV, tNotV, tIf, tTest, tB, tCall, tChain, tLst, tTup, tYes, rIxH, rIsB, rIsBT, rMulS, kd_non, kd_bl, kd_int, kd_str, kd_ref, kdO_lst, kdO_tup, kdO_dK, nq_n, nq_b, nq_i, nq_s, nq_l, nq_t, nq_d, ne_eq, not_false_eq_true, kit_ss, kit_ns, kit_bs, kit_is, kit_ls, kit_ts, kit_ds, kit_bb, V.ty.injEq, and_assoc, rIxU, rLenH, rLenU, rLenS, rInt1, rSetL, rEq, rNe, rCat, L2.start, List.map, List.length, List.length_cons, List.length_nil, List.replicate, List.getElem?_cons_zero, List.getElem?_cons_succ, List.set_cons_zero, List.set_cons_succ, List.set_nil, List.cons_append, List.nil_append, List.append_nil, Option.some.injEq, V.int.injEq, V.ref.injEq, V.str.injEq, V.bl.injEq, HO.lst.injEq, HO.tup.injEq, exists_eq_left', exists_and_left, exists_eq_left, List.cons.injEq, and_true, true_and, and_false, false_and, and_self, reduceCtorEq, exists_false, or_false, false_or, exists_const, at0, at1, at2, at3, at4, at5, ix51, ix52, ix54, upd_same, Nat.reduceAdd, Nat.reduceSub, Nat.zero_add, Int.reduceToNat, Int.reduceLE, Int.reduceLT, decide_eq_true_eq, Bool.not_eq_true, if_true, if_false, Bool.false_eq_true, ite_true, ite_false, Bool.not_true, Bool.not_false, decide_true, decide_false, tFor_eq, tLc_eq, iList, iTup, iRng1, iRng2, iStr, tSl, tPart, tNoPart, rSlL, cxOf_K, wipe, ex_ty2, kit_LTl, kit_LTt, kit_LTd, kit_LTs, kit_LTn, kit_LTb, kit_LTi, tM1, rIxS, exists_eq', lt1p, tDNewK, rSlS, rEqNil, nox_K, hb2]
      refine ⟨us, SqL.of hb2, ?_⟩
      rw [cut_from]
      intro d n_d; generalize g_H3 : upd H2 d _ = H3; obtain ⟨s_H3, h_d⟩ := new_facts n_d g_H3; clear g_H3
      have hf3 := s_H3 _ _ hf2
      refine ⟨zs, hf3, Nat.le_of_lt (Nat.lt_of_le_of_lt (m := 2000) (by have := rz.len; rw [List.length_drop]; omega) (by decide)), ?_⟩
      intro e n_e; generalize g_H4 : upd H3 e _ = H4; obtain ⟨s_H4, h_e⟩ := new_facts n_e g_H4; clear g_H4
      have s24 := s_H3.trans s_H4
      refine k H4 e _ (s2.trans s24) ((s2.trans s_H3).free n_e) h_e ?_
      rw [em, List.drop_of_length_le (Nat.le_of_eq hpl.symm), inOrd]
      exact (rz.same s24).app ((rq.dropN j).same (s2.trans s24))
end



/-! ### k57: iter, common, joined -/
def spGIter (CG : Addr) : Sp := fun vs H Q _ => ∃ h dx k xs b u, vs = [.ref h] ∧ H h = some (.ins CG dx (gF k)) ∧ H k = some (.lst xs) ∧ H b = some u ∧ ∀ it, H it = none → b < it → Q (.ref it) (upd H it (ItO k it 0))
theorem itlf_eq {K : PySem.W.Frag} {a : Addr} : ItX.ItlF K a 0 = Itl K a := by
  unfold ItX.ItlF
  simp only [Nat.zero_add]
def spCommon (CG C : Addr) : Sp := fun vs H Q _ => ∃ g h n ps qs, vs = [.ref g, .ref h] ∧ RgAt CG C H g n ps ∧ RgAt CG C H h n qs ∧ Gp ps ∧ Gp qs ∧ ps.length ≤ 20 ∧ qs.length ≤ 20 ∧ ∀ H' r, Same H H' → H r = none → RgAt CG C H' r n (commonP ps qs) → Q (.ref r) H'
def spJoined (CG C : Addr) : Sp := fun vs H Q _ => ∃ g h n ps qs, vs = [.ref g, .ref h] ∧ RgAt CG C H g n ps ∧ RgAt CG C H h n qs ∧ Gp ps ∧ Gp qs ∧ ps.length ≤ 20 ∧ qs.length ≤ 20 ∧ ∀ H' r, Same H H' → H r = none → RgAt CG C H' r n (joinP ps qs) → Q (.ref r) H'
theorem lst_go {n0 : Nat} {CG : Addr} {E E2 : XK} {g dx kg : Addr} {xs : List V} {H : Hp} {Q : VK} (hg : H g = some (.ins CG dx (gF kg))) (hk : H kg = some (.lst xs)) (hl : xs.length ≤ 1000) (k : ∀ H' S, Same H H' → H S = none → H' S = some (.lst xs) → Q (.ref S) H') : rListIt n0 CG (spGIter CG) (spGLen CG) E E2 [.ref g] H Q := by
  refine ⟨g, dx, gF kg, rfl, hg, fun S nS hn => ?_⟩
  have s1 : Same H (upd H S (.lst [])) := same_new nS
  have h1 : upd H S (.lst []) S = some (.lst []) := upd_same
  have sF : Same H (upd (upd H S (.lst [])) S (.lst xs)) := fun b o e => by
    have nb : b ≠ S := fun z => by rw [z, nS] at e; cases e
    rw [upd_ne nb]
    exact s1 _ _ e
  have kS : kg ≠ S := fun z => by rw [z, nS] at hk; cases hk
  generalize upd H S (.lst []) = H1 at *
  refine ⟨g, dx, kg, xs, S, .lst [], rfl, s1 _ _ hg, s1 _ _ hk, h1, fun it nit lt => ?_⟩
  have s2 : Same H1 (upd H1 it (ItO kg it 0)) := same_new nit
  have e0 : ItX.dropH (upd H1 it (ItO kg it 0)) it = H1 := ItX.dropH_upd nit
  refine ⟨it, kg, xs, dx, gF kg, rfl, Nat.le_trans hn (Nat.le_of_lt lt), kS, upd_same, s2 _ _ h1, s2 _ _ (s1 _ _ hg), by omega, ?_⟩
  refine ⟨g, dx, kg, xs, rfl, s2 _ _ (s1 _ _ hg), s2 _ _ (s1 _ _ hk), xs.length, rfl, by omega, upd_same, s2 _ _ (s1 _ _ hk), s2 _ _ h1, ?_⟩
  rw [e0]
  exact k _ S sF nS upd_same
theorem flat_len {α β : Type} {f : α → List β} {m : Nat} : ∀ {l : List α}, (∀ a ∈ l, (f a).length ≤ m) → (l.flatMap f).length ≤ l.length * m
  | [], _ => by simp
  | a :: l, h => by
    rw [List.flatMap_cons, List.length_append, List.length_cons, Nat.succ_mul]
    have := flat_len (f := f) (m := m) (l := l) fun b hb => h b (List.mem_cons_of_mem _ hb)
    have := h a (List.mem_cons_self ..)
    omega
theorem cflat_len {p : Pt} {qs : List Pt} : (qs.flatMap (cpart p)).length ≤ qs.length := by
  have := flat_len (f := cpart p) (m := 1) (l := qs) fun q _ => cpart_len
  omega
theorem common_len {ps qs : List Pt} : (commonP ps qs).length ≤ ps.length * qs.length := flat_len fun p _ => cflat_len
theorem inOrd_len : ∀ {ps qs : List Pt}, (inOrd ps qs).length = ps.length + qs.length
  | [], qs => by rw [inOrd]; simp
  | p :: ps, qs => by
    rw [inOrd]
    have h := inOrd_len (ps := ps) (qs := qs.dropWhile fun q => decide (q.1 < p.1))
    have e := congrArg List.length (List.takeWhile_append_dropWhile (p := fun q : Pt => decide (q.1 < p.1)) (l := qs))
    rw [List.length_append] at e
    simp only [List.length_append, List.length_cons, h]
    omega
theorem mrg_len : ∀ {ps : List Pt} {l : Pt}, (mrg l ps).length ≤ ps.length + 1
  | [], l => by rw [mrg]; simp
  | (lo, hi) :: ps, (l, k) => by
    have h1 := fun z => mrg_len (ps := ps) (l := z)
    cases k with
    | none => rw [mrg_none, List.length_cons]; exact Nat.le_trans (h1 _) (by omega)
    | some k =>
      by_cases c : k < lo
      · rw [mrg_gap c, List.length_cons, List.length_cons]
        have := h1 (lo, hi)
        omega
      · rw [mrg_meet c, List.length_cons]
        cases hi with
        | none => exact Nat.le_trans (h1 _) (by omega)
        | some k2 =>
          dsimp only
          split <;> exact Nat.le_trans (h1 _) (by omega)
theorem merged_len {ps : List Pt} : (mergedP ps).length ≤ ps.length := by
  cases ps with
  | nil => exact Nat.le_refl _
  | cons p ps => exact mrg_len
def LCo (g h f : Addr) (C : Addr) (n : Nat) (ps qs : List Pt) (H0 : Hp) (i : Nat) (σ : St) (H : Hp) : Prop := ∃ (v3 v4 : Option V) (c : Addr) (zs : List V), σ = [some (.ref g), some (.ref h), some (.ref c), v3, v4] ∧ Same H0 H ∧ H c = some (.lst zs) ∧ RPs C H zs n (commonP (ps.take i) qs)
def LCp (g h f : Addr) (x : V) (p : Pt) (C : Addr) (n : Nat) (ac qs : List Pt) (H0 : Hp) (i : Nat) (σ : St) (H : Hp) : Prop := ∃ (v4 : Option V) (c : Addr) (zs : List V), σ = [some (.ref g), some (.ref h), some (.ref c), some x, v4] ∧ Same H0 H ∧ H c = some (.lst zs) ∧ RPs C H zs n (ac ++ (qs.take i).flatMap (cpart p))
theorem flat_snoc {α β : Type} {f : α → List β} {l : List α} {i : Nat} {a : α} (h : l[i]? = some a) : (l.take (i + 1)).flatMap f = (l.take i).flatMap f ++ f a := by
  rw [take_get h, List.flatMap_append, List.flatMap_cons, List.flatMap_nil, List.append_nil]
section
variable {P : Program} {w : World} {K : PySem.W.Frag} {mg : Str → Option Value} {base : Heap} {A : Adr}
theorem ok_giter (T : Txt K mg A) : FnOk P w K mg base CX0 1 A.a_RangesIter A.d_RangesIter ["self"] (spGIter A.k_Ranges) := by
  refine T.f_RangesIter.ok scRangesIter (fun vs H Q E h => ?_) (fun cdv A' outer s H vs Q E hr h => ?_)
  · obtain ⟨h, dx, k, xs, b, u, rfl, _⟩ := h
    rfl
  · obtain ⟨h, dx, k, xs, b, u, rfl, h1, h2, hb, q⟩ := h
    refine ⟨_, (pss_one (ps_ret (pe_callB call_iterB (by rfl) T.z_iter (by decide +kernel) (pa_cons (pe_fld (pv 0) rfl) pa_nil)))), ?_⟩
    try simp only [tSeq, tNext, tRet, tRetN, tAsg, gName, gSub, tDrop, tIfS, tOp, tUn, tCB, tCons, tNil, tC, tVar, rI, rI0, rU, tAnd, tOr, tNot, tAndV, tOrV, tNotV, tIf, tTest, tB, tCall, tChain, tLst, tTup, tYes, rIxH, rIsB, rIsBT, rMulS, kd_non, kd_bl, kd_int, kd_str, kd_ref, kdO_lst, kdO_tup, kdO_dK, nq_n, nq_b, nq_i, nq_s, nq_l, nq_t, nq_d, ne_eq, not_false_eq_true, kit_ss, kit_ns, kit_bs, kit_is, kit_ls, kit_ts, kit_ds, kit_bb, V.ty.injEq, and_assoc, rIxU, rLenH, rLenU, rLenS, rInt1, rSetL, rEq, rNe, rCat, L2.start, List.map, List.length, List.length_cons, List.length_nil, List.replicate, List.getElem?_cons_zero, List.getElem?_cons_succ, List.set_cons_zero, List.set_cons_succ, List.set_nil, List.cons_append, List.nil_append, List.append_nil, Option.some.injEq, V.int.injEq, V.ref.injEq, V.str.injEq, V.bl.injEq, HO.lst.injEq, HO.tup.injEq, exists_eq_left', exists_and_left, exists_eq_left, List.cons.injEq, and_true, true_and, and_false, false_and, and_self, reduceCtorEq, exists_false, or_false, false_or, exists_const, at0, at1, at2, at3, at4, at5, ix51, ix52, ix54, upd_same, Nat.reduceAdd, Nat.reduceSub, Nat.zero_add, Int.reduceToNat, Int.reduceLE, Int.reduceLT, decide_eq_true_eq, Bool.not_eq_true, if_true, if_false, Bool.false_eq_true, ite_true, ite_false, Bool.not_true, Bool.not_false, decide_true, decide_false, tFor_eq, tLc_eq, iList, iTup, iRng1, iRng2, iStr, tSl, tPart, tNoPart, rSlL, cxOf_K, wipe, ex_ty2, kit_LTl, kit_LTt, kit_LTd, kit_LTs, kit_LTn, kit_LTb, kit_LTi, tM1, rIxS, exists_eq', lt1p, tDNewK, rSlS, rEqNil, nox_K, tFld, h1, HO.ins.injEq, T.t_Ranges.cl, T.n_Ranges_kept_parts, gf_k, rIterB]
    exact ⟨xs, SqL.of h2, b, u, hb, q⟩
theorem ok_common (T : Txt K mg A) (gRangesIter : FnOk P w K mg base CX0 1 A.a_RangesIter A.d_RangesIter ["self"] (spGIter A.k_Ranges)) (gCommonPart : FnOk P w K mg base CX0 6 A.a_CommonPart A.d_CommonPart ["one", "other"] (spCPart A.k_Ratio)) (gRangesInit : FnOk P w K mg base CX0 7 A.a_RangesInit A.d_RangesInit ["self", "parts"] (spRg K A.k_Ranges A.k_Ratio)) :
    FnOk P w K mg base CX0 9 A.a_RangesCommon A.d_RangesCommon ["self", "other"] (spCommon A.k_Ranges A.k_Ratio) := by
  refine T.f_RangesCommon.ok scRangesCommon (fun vs H Q E h => ?_) (fun cdv A' outer s H vs Q E hr h => ?_)
  · obtain ⟨g, h, n, ps, qs, rfl, _⟩ := h
    rfl
  · obtain ⟨g, h, n, ps, qs, rfl, hg, hh, gp, gq, lp, lq, k⟩ := h
    refine ⟨_, (pss_cons (ps_set (i := 2) scRangesCommon.nd rfl (Or.inl rfl) (pe_lstN pa_nil))
      (pss_cons (ps_for PassesOwn.never rfl (pi_ownIt T.o_RangesIter gRangesIter (hr.mono (by decide)) T.b_RangesIter pass0 (pv 0)) (pg_name (i := 3) scRangesCommon.nd rfl (Or.inl rfl)) (pss_one (ps_for PassesOwn.never rfl (pi_ownIt T.o_RangesIter gRangesIter (hr.mono (by decide)) T.b_RangesIter pass0 (pv 1)) (pg_name (i := 4) scRangesCommon.nd rfl (Or.inl rfl)) (pss_one (ps_set (i := 2) scRangesCommon.nd rfl (Or.inl rfl) (pe_op op_cat (pv 2) (pe_call gCommonPart (hr.mono (by decide)) (by rfl) T.m_CommonPart T.f_CommonPart.kp T.b_CommonPart .nil pass0 (pa_cons (pv 3) (pa_cons (pv 4) pa_nil)))))))))
      (pss_one (ps_ret (pe_make T.mk_Ranges gRangesInit (hr.mono (by decide)) (by rfl) T.k_Ranges T.b_RangesInit .nil pass0 (pa_cons (pv 2) pa_nil)))))), ?_⟩
    refine seq_gen fun N eN => ?_
    try simp only [tSeq, tNext, tRet, tRetN, tAsg, gName, gSub, tDrop, tIfS, tOp, tUn, tCB, tCons, tNil, tC, tVar, rI, rI0, rU, tAnd, tOr, tNot, tAndV, tOrV, tNotV, tIf, tTest, tB, tCall, tChain, tLst, tTup, tYes, rIxH, rIsB, rIsBT, rMulS, kd_non, kd_bl, kd_int, kd_str, kd_ref, kdO_lst, kdO_tup, kdO_dK, nq_n, nq_b, nq_i, nq_s, nq_l, nq_t, nq_d, ne_eq, not_false_eq_true, kit_ss, kit_ns, kit_bs, kit_is, kit_ls, kit_ts, kit_ds, kit_bb, V.ty.injEq, and_assoc, rIxU, rLenH, rLenU, rLenS, rInt1, rSetL, rEq, rNe, rCat, L2.start, List.map, List.length, List.length_cons, List.length_nil, List.replicate, List.getElem?_cons_zero, List.getElem?_cons_succ, List.set_cons_zero, List.set_cons_succ, List.set_nil, List.cons_append, List.nil_append, List.append_nil, Option.some.injEq, V.int.injEq, V.ref.injEq, V.str.injEq, V.bl.injEq, HO.lst.injEq, HO.tup.injEq, exists_eq_left', exists_and_left, exists_eq_left, List.cons.injEq, and_true, true_and, and_false, false_and, and_self, reduceCtorEq, exists_false, or_false, false_or, exists_const, at0, at1, at2, at3, at4, at5, ix51, ix52, ix54, upd_same, Nat.reduceAdd, Nat.reduceSub, Nat.zero_add, Int.reduceToNat, Int.reduceLE, Int.reduceLT, decide_eq_true_eq, Bool.not_eq_true, if_true, if_false, Bool.false_eq_true, ite_true, ite_false, Bool.not_true, Bool.not_false, decide_true, decide_false, tFor_eq, tLc_eq, iList, iTup, iRng1, iRng2, iStr, tSl, tPart, tNoPart, rSlL, cxOf_K, wipe, ex_ty2, kit_LTl, kit_LTt, kit_LTd, kit_LTs, kit_LTn, kit_LTb, kit_LTi, tM1, rIxS, exists_eq', lt1p, tDNewK, rSlS, rEqNil, nox_K, tLstN]
    refine ⟨by decide, fun r nr hn => ?_⟩
    generalize g1 : upd H r _ = H1
    obtain ⟨s1, hr1⟩ := new_facts nr g1
    clear g1
    rw [eN]
    clear eN N
    refine seq_gen fun N eN => ?_
    obtain ⟨⟨dx, kg, xs, q1H, q2H, rp⟩, l1, n4⟩ := id hg
    obtain ⟨⟨dx', kh, us, w1H, w2H, rq⟩, l2, _⟩ := id hh
    have q1 := s1 _ _ q1H
    have q2 := s1 _ _ q2H
    have hpl := rp.len
    have hql := rq.len
    try simp only [tSeq, tNext, tRet, tRetN, tAsg, gName, gSub, tDrop, tIfS, tOp, tUn, tCB, tCons, tNil, tC, tVar, rI, rI0, rU, tAnd, tOr, tNot, tAndV, tOrV, tNotV, tIf, tTest, tB, tCall, tChain, tLst, tTup, tYes, rIxH, rIsB, rIsBT, rMulS, kd_non, kd_bl, kd_int, kd_str, kd_ref, kdO_lst, kdO_tup, kdO_dK, nq_n, nq_b, nq_i, nq_s, nq_l, nq_t, nq_d, ne_eq, not_false_eq_true, kit_ss, kit_ns, kit_bs, kit_is, kit_ls, kit_ts, kit_ds, kit_bb, V.ty.injEq, and_assoc, rIxU, rLenH, rLenU, rLenS, rInt1, rSetL, rEq, rNe, rCat, L2.start, List.map, List.length, List.length_cons, List.length_nil, List.replicate, List.getElem?_cons_zero, List.getElem?_cons_succ, List.set_cons_zero, List.set_cons_succ, List.set_nil, List.cons_append, List.nil_append, List.append_nil, Option.some.injEq, V.int.injEq, V.ref.injEq, V.str.injEq, V.bl.injEq, HO.lst.injEq, HO.tup.injEq, exists_eq_left', exists_and_left, exists_eq_left, List.cons.injEq, and_true, true_and, and_false, false_and, and_self, reduceCtorEq, exists_false, or_false, false_or, exists_const, at0, at1, at2, at3, at4, at5, ix51, ix52, ix54, upd_same, Nat.reduceAdd, Nat.reduceSub, Nat.zero_add, Int.reduceToNat, Int.reduceLE, Int.reduceLT, decide_eq_true_eq, Bool.not_eq_true, if_true, if_false, Bool.false_eq_true, ite_true, ite_false, Bool.not_true, Bool.not_false, decide_true, decide_false, tFor_eq, tLc_eq, iList, iTup, iRng1, iRng2, iStr, tSl, tPart, tNoPart, rSlL, cxOf_K, wipe, ex_ty2, kit_LTl, kit_LTt, kit_LTd, kit_LTs, kit_LTn, kit_LTb, kit_LTi, tM1, rIxS, exists_eq', lt1p, tDNewK, rSlS, rEqNil, nox_K, iOwnIt, q1, HO.ins.injEq]
    refine ⟨g, dx, kg, xs, r, _, rfl, q1, q2, hr1, fun it nit lt => ?_⟩
    have e0 : ItX.dropH (upd H1 it (ItO kg it 0)) it = H1 := ItX.dropH_upd nit
    refine ⟨it, rfl, kg, upd_same, Nat.le_trans hn (Nat.le_of_lt lt), ?_⟩
    rw [e0, itlf_eq]
    refine for_go (walk_list (K := K) (a := kg) (xs := xs)) (LCo g h r A.k_Ratio n ps qs H1) ⟨_, _, r, [], rfl, Same.refl _, hr1, by rw [List.take_zero]; exact RPs.nil⟩ (fun i σ H' _ q' => ?_) (fun i x σ H2 hx q' => ?_) (fun σ H2 q' => ?_)
    · obtain ⟨_, _, _, _, _, s2, _⟩ := q'
      exact SqL.of (s2 _ _ q2)
    · obtain ⟨v3, v4, c, zs, rfl, s2, hc, rz⟩ := q'
      have hi' : i < ps.length := by rw [← rp.len]; exact (List.getElem?_eq_some_iff.mp hx).1
      have gi : ps[i]? = some ps[i] := List.getElem?_eq_getElem hi'
      have rx := rp.ea i x _ hx gi
      have ec : commonP (ps.take (i + 1)) qs = commonP (ps.take i) qs ++ qs.flatMap (cpart ps[i]) := flat_snoc gi
      generalize ps[i] = pp at *
      have w1 := s2 _ _ (s1 _ _ w1H)
      have w2 := s2 _ _ (s1 _ _ w2H)
      have hr2 := s2 _ _ hr1
      try simp only [tSeq, tNext, tRet, tRetN, tAsg, gName, gSub, tDrop, tIfS, tOp, tUn, tCB, tCons, tNil, tC, tVar, rI, rI0, rU, tAnd, tOr, tNot, tAndV, tOrV, tNotV, tIf, tTest, tB, tCall, tChain, tLst, tTup, tYes, rIxH, rIsB, rIsBT, rMulS, kd_non, kd_bl, kd_int, kd_str, kd_ref, kdO_lst, kdO_tup, kdO_dK, nq_n, nq_b, nq_i, nq_s, nq_l, nq_t, nq_d, ne_eq, not_false_eq_true, kit_ss, kit_ns, kit_bs, kit_is, kit_ls, kit_ts, kit_ds, kit_bb, V.ty.injEq, and_assoc, rIxU, rLenH, rLenU, rLenS, rInt1, rSetL, rEq, rNe, rCat, L2.start, List.map, List.length, List.length_cons, List.length_nil, List.replicate, List.getElem?_cons_zero, List.getElem?_cons_succ, List.set_cons_zero, List.set_cons_succ, List.set_nil, List.cons_append, List.nil_append, List.append_nil, Option.some.injEq, V.int.injEq, V.ref.injEq, V.str.injEq, V.bl.injEq, HO.lst.injEq, HO.tup.injEq, exists_eq_left', exists_and_left, exists_eq_left, List.cons.injEq, and_true, true_and, and_false, false_and, and_self, reduceCtorEq, exists_false, or_false, false_or, exists_const, at0, at1, at2, at3, at4, at5, ix51, ix52, ix54, upd_same, Nat.reduceAdd, Nat.reduceSub, Nat.zero_add, Int.reduceToNat, Int.reduceLE, Int.reduceLT, decide_eq_true_eq, Bool.not_eq_true, if_true, if_false, Bool.false_eq_true, ite_true, ite_false, Bool.not_true, Bool.not_false, decide_true, decide_false, tFor_eq, tLc_eq, iList, iTup, iRng1, iRng2, iStr, tSl, tPart, tNoPart, rSlL, cxOf_K, wipe, ex_ty2, kit_LTl, kit_LTt, kit_LTd, kit_LTs, kit_LTn, kit_LTb, kit_LTi, tM1, rIxS, exists_eq', lt1p, tDNewK, rSlS, rEqNil, nox_K, iOwnIt, w1, HO.ins.injEq]
      refine ⟨h, dx', kh, us, r, _, rfl, w1, w2, hr2, fun it2 nit2 lt2 => ?_⟩
      have e02 : ItX.dropH (upd H2 it2 (ItO kh it2 0)) it2 = H2 := ItX.dropH_upd nit2
      refine ⟨it2, rfl, kh, upd_same, Nat.le_trans hn (Nat.le_of_lt lt2), ?_⟩
      rw [e02, itlf_eq]
      have cl : (commonP (ps.take i) qs).length ≤ 400 := by
        have := common_len (ps := ps.take i) (qs := qs)
        have h1 : (ps.take i).length ≤ 20 := by rw [List.length_take]; omega
        exact Nat.le_trans this (Nat.mul_le_mul h1 lq)
      refine for_go (walk_list (K := K) (a := kh) (xs := us)) (LCp g h r x pp A.k_Ratio n (commonP (ps.take i) qs) qs H2) ⟨_, c, zs, rfl, Same.refl _, hc, by rw [List.take_zero, List.flatMap_nil, List.append_nil]; exact rz⟩ (fun j σ H' _ q' => ?_) (fun j y σ H3 hy q' => ?_) (fun σ H3 q' => ?_)
      · obtain ⟨_, _, _, _, s3, _⟩ := q'
        exact SqL.of (s3 _ _ w2)
      · obtain ⟨v4, c3, zs3, rfl, s3, hc3, rz3⟩ := q'
        have hj' : j < qs.length := by rw [← rq.len]; exact (List.getElem?_eq_some_iff.mp hy).1
        have gj : qs[j]? = some qs[j] := List.getElem?_eq_getElem hj'
        have ry := rq.ea j y _ hy gj
        have ef : (qs.take (j + 1)).flatMap (cpart pp) = (qs.take j).flatMap (cpart pp) ++ cpart pp qs[j] := flat_snoc gj
        have cl2 : ((qs.take j).flatMap (cpart pp)).length ≤ 20 := by
          have := cflat_len (p := pp) (qs := qs.take j)
          rw [List.length_take] at this
          omega
        generalize qs[j] = qq at *
        have s03 := (s1.trans s2).trans s3
        try simp only [tSeq, tNext, tRet, tRetN, tAsg, gName, gSub, tDrop, tIfS, tOp, tUn, tCB, tCons, tNil, tC, tVar, rI, rI0, rU, tAnd, tOr, tNot, tAndV, tOrV, tNotV, tIf, tTest, tB, tCall, tChain, tLst, tTup, tYes, rIxH, rIsB, rIsBT, rMulS, kd_non, kd_bl, kd_int, kd_str, kd_ref, kdO_lst, kdO_tup, kdO_dK, nq_n, nq_b, nq_i, nq_s, nq_l, nq_t, nq_d, ne_eq, not_false_eq_true, kit_ss, kit_ns, kit_bs, kit_is, kit_ls, kit_ts, kit_ds, kit_bb, V.ty.injEq, and_assoc, rIxU, rLenH, rLenU, rLenS, rInt1, rSetL, rEq, rNe, rCat, L2.start, List.map, List.length, List.length_cons, List.length_nil, List.replicate, List.getElem?_cons_zero, List.getElem?_cons_succ, List.set_cons_zero, List.set_cons_succ, List.set_nil, List.cons_append, List.nil_append, List.append_nil, Option.some.injEq, V.int.injEq, V.ref.injEq, V.str.injEq, V.bl.injEq, HO.lst.injEq, HO.tup.injEq, exists_eq_left', exists_and_left, exists_eq_left, List.cons.injEq, and_true, true_and, and_false, false_and, and_self, reduceCtorEq, exists_false, or_false, false_or, exists_const, at0, at1, at2, at3, at4, at5, ix51, ix52, ix54, upd_same, Nat.reduceAdd, Nat.reduceSub, Nat.zero_add, Int.reduceToNat, Int.reduceLE, Int.reduceLT, decide_eq_true_eq, Bool.not_eq_true, if_true, if_false, Bool.false_eq_true, ite_true, ite_false, Bool.not_true, Bool.not_false, decide_true, decide_false, tFor_eq, tLc_eq, iList, iTup, iRng1, iRng2, iStr, tSl, tPart, tNoPart, rSlL, cxOf_K, wipe, ex_ty2, kit_LTl, kit_LTt, kit_LTd, kit_LTs, kit_LTn, kit_LTb, kit_LTi, tM1, rIxS, exists_eq', lt1p, tDNewK, rSlS, rEqNil, nox_K]
        refine ⟨x, y, n, pp, qq, rfl, rx.same s03, ry.same s03, n4, fun H4 b ys s4 nb hb4 rb => ?_⟩
        have hc4 := s4 _ _ hc3
        have l3 := rz3.len
        have lb := rb.len
        have l1' := cpart_len (p := pp) (q := qq)
        rw [List.length_append] at l3
        dsimp only
        refine ⟨b, rfl, zs3, hc4, ys, hb4, ?_, ?_⟩
        · exact Nat.le_of_lt (Nat.lt_of_le_of_lt (m := 1000) (by omega) (by decide))
        intro p n_p; generalize g_H5 : upd H4 p _ = H5; obtain ⟨s_H5, h_p⟩ := new_facts n_p g_H5; clear g_H5
        have s35 := s4.trans s_H5
        refine ⟨_, p, _, rfl, s3.trans s35, h_p, ?_⟩
        rw [ef, ← List.append_assoc]
        exact (rz3.same s35).app (rb.same s_H5)
      · obtain ⟨v4, c3, zs3, rfl, s3, hc3, rz3⟩ := q'
        rw [hql, List.take_length, ← ec] at rz3
        exact ⟨_, _, c3, zs3, rfl, s2.trans s3, hc3, rz3⟩
    · obtain ⟨v3, v4, c, zs, rfl, s2, hc, rz⟩ := q'
      rw [hpl, List.take_length] at rz
      (try dsimp only); rw [eN]; clear eN N
      have gc := common_good gp gq
      have cl : (commonP ps qs).length ≤ 400 := Nat.le_trans common_len (Nat.mul_le_mul lp lq)
      try simp only [tSeq, tNext, tRet, tRetN, tAsg, gName, gSub, tDrop, tIfS, tOp, tUn, tCB, tCons, tNil, tC, tVar, rI, rI0, rU, tAnd, tOr, tNot, tAndV, tOrV, tNotV, tIf, tTest, tB, tCall, tChain, tLst, tTup, tYes, rIxH, rIsB, rIsBT, rMulS, kd_non, kd_bl, kd_int, kd_str, kd_ref, kdO_lst, kdO_tup, kdO_dK, nq_n, nq_b, nq_i, nq_s, nq_l, nq_t, nq_d, ne_eq, not_false_eq_true, kit_ss, kit_ns, kit_bs, kit_is, kit_ls, kit_ts, kit_ds, kit_bb, V.ty.injEq, and_assoc, rIxU, rLenH, rLenU, rLenS, rInt1, rSetL, rEq, rNe, rCat, L2.start, List.map, List.length, List.length_cons, List.length_nil, List.replicate, List.getElem?_cons_zero, List.getElem?_cons_succ, List.set_cons_zero, List.set_cons_succ, List.set_nil, List.cons_append, List.nil_append, List.append_nil, Option.some.injEq, V.int.injEq, V.ref.injEq, V.str.injEq, V.bl.injEq, HO.lst.injEq, HO.tup.injEq, exists_eq_left', exists_and_left, exists_eq_left, List.cons.injEq, and_true, true_and, and_false, false_and, and_self, reduceCtorEq, exists_false, or_false, false_or, exists_const, at0, at1, at2, at3, at4, at5, ix51, ix52, ix54, upd_same, Nat.reduceAdd, Nat.reduceSub, Nat.zero_add, Int.reduceToNat, Int.reduceLE, Int.reduceLT, decide_eq_true_eq, Bool.not_eq_true, if_true, if_false, Bool.false_eq_true, ite_true, ite_false, Bool.not_true, Bool.not_false, decide_true, decide_false, tFor_eq, tLc_eq, iList, iTup, iRng1, iRng2, iStr, tSl, tPart, tNoPart, rSlL, cxOf_K, wipe, ex_ty2, kit_LTl, kit_LTt, kit_LTd, kit_LTs, kit_LTn, kit_LTb, kit_LTi, tM1, rIxS, exists_eq', lt1p, tDNewK, rSlS, rEqNil, nox_K, tMake_eq]
      refine rg_yes (b := c) (xs := zs) (n := n) (ps := commonP ps qs) rfl (.inl hc) rz.num gc.1 (asc_of gc) n4 (by rw [rz.len]; omega) fun H5 g' dx2 kk ys s5 ng nk hg5 hk5 rz5 => ?_
      exact k H5 g' ((s1.trans s2).trans s5) ((s1.trans s2).free ng) ⟨⟨dx2, kk, ys, hg5, hk5, rz5⟩, by omega, n4⟩
theorem ok_joined (T : Txt K mg A) (gRangesIter : FnOk P w K mg base CX0 1 A.a_RangesIter A.d_RangesIter ["self"] (spGIter A.k_Ranges)) (gRangesLen : FnOk P w K mg base CX0 1 A.a_RangesLen A.d_RangesLen ["self"] (spGLen A.k_Ranges)) (gInOrder : FnOk P w K mg base CX0 6 A.a_InOrder A.d_InOrder ["one", "other"] (spInOrder A.k_Ratio)) (gMerged : FnOk P w K mg base CX0 6 A.a_Merged A.d_Merged ["parts"] (spMerged A.k_Ratio)) (gRangesInit : FnOk P w K mg base CX0 7 A.a_RangesInit A.d_RangesInit ["self", "parts"] (spRg K A.k_Ranges A.k_Ratio)) :
    FnOk P w K mg base CX0 9 A.a_RangesJoined A.d_RangesJoined ["self", "other"] (spJoined A.k_Ranges A.k_Ratio) := by
  refine T.f_RangesJoined.ok scRangesJoined (fun vs H Q E h => ?_) (fun cdv A' outer s H vs Q E hr h => ?_)
  · obtain ⟨g, h, n, ps, qs, rfl, _⟩ := h
    rfl
  · obtain ⟨g, h, n, ps, qs, rfl, hg, hh, gp, gq, lp, lq, k⟩ := h
    refine ⟨_, (pss_one (ps_ret (pe_make T.mk_Ranges gRangesInit (hr.mono (by decide)) (by rfl) T.k_Ranges T.b_RangesInit .nil pass0 (pa_cons (pe_call gMerged (hr.mono (by decide)) (by rfl) T.m_Merged T.f_Merged.kp T.b_Merged .nil pass0 (pa_cons (pe_call gInOrder (hr.mono (by decide)) (by rfl) T.m_InOrder T.f_InOrder.kp T.b_InOrder .nil pass0 (pa_cons (pe_callTy (call_listIt (E := E0) (E2 := E0) T.o_RangesIter gRangesIter (hr.mono (by decide)) T.b_RangesIter T.o_RangesLen gRangesLen (hr.mono (by decide)) T.b_RangesLen (by rfl)) (by rfl) T.z_list (by decide +kernel) (pa_cons (pv 0) pa_nil)) (pa_cons (pe_callTy (call_listIt (E := E0) (E2 := E0) T.o_RangesIter gRangesIter (hr.mono (by decide)) T.b_RangesIter T.o_RangesLen gRangesLen (hr.mono (by decide)) T.b_RangesLen (by rfl)) (by rfl) T.z_list (by decide +kernel) (pa_cons (pv 1) pa_nil)) pa_nil))) pa_nil)) pa_nil)))), ?_⟩
    obtain ⟨⟨dx, kg, xs, q1H, q2H, rp⟩, l1, n4⟩ := id hg
    obtain ⟨⟨dx', kh, us, w1H, w2H, rq⟩, l2, _⟩ := id hh
    try simp only [tSeq, tNext, tRet, tRetN, tAsg, gName, gSub, tDrop, tIfS, tOp, tUn, tCB, tCons, tNil, tC, tVar, rI, rI0, rU, tAnd, tOr, tNot, tAndV, tOrV, tNotV, tIf, tTest, tB, tCall, tChain, tLst, tTup, tYes, rIxH, rIsB, rIsBT, rMulS, kd_non, kd_bl, kd_int, kd_str, kd_ref, kdO_lst, kdO_tup, kdO_dK, nq_n, nq_b, nq_i, nq_s, nq_l, nq_t, nq_d, ne_eq, not_false_eq_true, kit_ss, kit_ns, kit_bs, kit_is, kit_ls, kit_ts, kit_ds, kit_bb, V.ty.injEq, and_assoc, rIxU, rLenH, rLenU, rLenS, rInt1, rSetL, rEq, rNe, rCat, L2.start, List.map, List.length, List.length_cons, List.length_nil, List.replicate, List.getElem?_cons_zero, List.getElem?_cons_succ, List.set_cons_zero, List.set_cons_succ, List.set_nil, List.cons_append, List.nil_append, List.append_nil, Option.some.injEq, V.int.injEq, V.ref.injEq, V.str.injEq, V.bl.injEq, HO.lst.injEq, HO.tup.injEq, exists_eq_left', exists_and_left, exists_eq_left, List.cons.injEq, and_true, true_and, and_false, false_and, and_self, reduceCtorEq, exists_false, or_false, false_or, exists_const, at0, at1, at2, at3, at4, at5, ix51, ix52, ix54, upd_same, Nat.reduceAdd, Nat.reduceSub, Nat.zero_add, Int.reduceToNat, Int.reduceLE, Int.reduceLT, decide_eq_true_eq, Bool.not_eq_true, if_true, if_false, Bool.false_eq_true, ite_true, ite_false, Bool.not_true, Bool.not_false, decide_true, decide_false, tFor_eq, tLc_eq, iList, iTup, iRng1, iRng2, iStr, tSl, tPart, tNoPart, rSlL, cxOf_K, wipe, ex_ty2, kit_LTl, kit_LTt, kit_LTd, kit_LTs, kit_LTn, kit_LTb, kit_LTi, tM1, rIxS, exists_eq', lt1p, tDNewK, rSlS, rEqNil, nox_K, tMake_eq]
    have hpl := rp.len
    have hql := rq.len
    refine lst_go q1H q2H (by omega) fun H1 a s1 na ha => ?_
    try dsimp only
    refine lst_go (s1 _ _ w1H) (s1 _ _ w2H) (by omega) fun H2 b s2 nb hb => ?_
    have s02 := s1.trans s2
    try dsimp only
    refine ⟨a, b, xs, us, n, ps, qs, rfl, s2 _ _ ha, hb, rp.same s02, rq.same s02, n4, by omega, by omega, fun H3 c ys s3 nc hc rc => ?_⟩
    try dsimp only
    have l3 := rc.len
    have l4 : (inOrd ps qs).length = ps.length + qs.length := inOrd_len
    refine ⟨c, ys, n, _, rfl, hc, rc, n4, by omega, fun H4 d zs s4 nd hd rd => ?_⟩
    try dsimp only
    have gj := (join_good gp gq).1
    have jl : (joinP ps qs).length ≤ ps.length + qs.length := Nat.le_trans merged_len (Nat.le_of_eq l4)
    have l5 := rd.len
    change RPs _ _ _ _ (joinP ps qs) at rd
    change zs.length = (joinP ps qs).length at l5
    refine rg_yes (b := d) (xs := zs) (n := n) (ps := joinP ps qs) rfl (.inl hd) rd.num gj.1 (asc_of gj) n4 (by omega) fun H5 g' dx2 kk us5 s5 ng nk hg5 hk5 rz5 => ?_
    exact k H5 g' (((s02.trans s3).trans s4).trans s5) (((s02.trans s3).trans s4).free ng) ⟨⟨dx2, kk, us5, hg5, hk5, rz5⟩, by omega, n4⟩
end



/-! ### k57: _law_apart, _law_shifted -/
def spApart (CG C : Addr) : Sp := fun vs H Q _ => ∃ g n ps, vs = [.ref g] ∧ RgAt CG C H g n ps ∧ Gp ps ∧ ∀ H', Same H H' → Q (.bl true) H'
def LAp (g a : Addr) (H0 : Hp) (i : Nat) (σ : St) (H : Hp) : Prop := ∃ v1 v2 : Option V, σ = [some (.ref g), some (.ref a), v1, v2] ∧ Same H0 H
theorem asc_turnR {C : Addr} {xs : List V} {n : Nat} {ps : List Pt} {H : Hp} {i : Nat} {x1 y1 : V} (np : RPs C H xs n ps) (as : AscP ps) (e1 : xs[i]? = some x1) (e2 : (xs.drop 1)[i]? = some y1) : ∃ t1 u1 w1 t2 u2 w2 h lo2, x1 = .ref t1 ∧ y1 = .ref t2 ∧ H t1 = some (.tup [u1, w1]) ∧ H t2 = some (.tup [u2, w2]) ∧ RatAt C H w1 h n ∧ RatAt C H u2 lo2 n ∧ h < lo2 := by
  rw [List.getElem?_drop, Nat.add_comm] at e2
  have l1 := (List.getElem?_eq_some_iff.mp e1).1
  have l2 := (List.getElem?_eq_some_iff.mp e2).1
  have ll := np.len
  have p1 : ps[i]? = some ps[i] := List.getElem?_eq_getElem (by omega)
  have p2 : ps[i + 1]? = some ps[i + 1] := List.getElem?_eq_getElem (by omega)
  obtain ⟨t1, u1, w1, rfl, h1, h2, h3⟩ := np.ea i x1 _ e1 p1
  obtain ⟨t2, u2, w2, rfl, h4, h5, h6⟩ := np.ea (i + 1) y1 _ e2 p2
  obtain ⟨h, eh, lt⟩ := as i _ _ p1 p2
  rw [eh] at h3
  exact ⟨t1, u1, w1, t2, u2, w2, h, _, rfl, rfl, h1, h4, h3, h5, lt⟩
def spShifted (C : Addr) : Sp := fun vs H Q _ => ∃ p l c a xs ps, vs = [.ref p, .ref a] ∧ PoolAt p l c H ∧ c ≤ 70000000 ∧ a ≠ p ∧ a ≠ l ∧ H a = some (.lst xs) ∧ RPs C H xs 820 ps ∧ DrwE ps ∧ ∀ H' b ys qs, PoolAt p l (c + 4) H' → H b = none → OffS p l H H' → H' b = some (.lst ys) → RPs C H' ys 820 qs → DrwE qs → Q (.ref b) H'
def Shp (p q : Pt) : Prop := p.1 ≤ q.1 ∧ (∀ h, p.2 = some h → ∃ k, q.2 = some k ∧ k ≤ h) ∧ Okp q
def Shs (ps qs : List Pt) : Prop := ps.length = qs.length ∧ ∀ (i : Nat) (p q : Pt), ps[i]? = some p → qs[i]? = some q → Shp p q
theorem Shs.drw {ps qs : List Pt} (h : Shs ps qs) (d : DrwE ps) : DrwE qs := by
  obtain ⟨hl, he⟩ := h
  have at' : ∀ {i : Nat} {q : Pt}, qs[i]? = some q → ∃ p, ps[i]? = some p ∧ Shp p q := fun {i q} e => by
    have hi : i < ps.length := by rw [hl]; exact (List.getElem?_eq_some_iff.mp e).1
    exact ⟨ps[i], List.getElem?_eq_getElem hi, he i _ _ (List.getElem?_eq_getElem hi) e⟩
  refine ⟨fun q hq => ?_, fun i p q e1 e2 => ?_, by rw [← hl]; exact d.l4⟩
  · obtain ⟨i, hi⟩ := List.mem_iff_getElem?.mp hq
    obtain ⟨p, _, s⟩ := at' hi
    exact s.2.2
  · obtain ⟨p', a1, s1⟩ := at' e1
    obtain ⟨q', a2, s2⟩ := at' e2
    obtain ⟨h, eh, lt⟩ := d.asc i _ _ a1 a2
    obtain ⟨k, ek, le⟩ := s1.2.1 h eh
    exact ⟨k, ek, (by have := s2.1; grind)⟩
theorem Shs.snoc {ps qs : List Pt} {i : Nat} {p q : Pt} (h : Shs (ps.take i) qs) (e : ps[i]? = some p) (s : Shp p q) : Shs (ps.take (i + 1)) (qs ++ [q]) := by
  rw [take_get e]
  refine ⟨by rw [List.length_append, List.length_append, h.1]; rfl, fun j a b e1 e2 => ?_⟩
  by_cases c : j < qs.length
  · rw [List.getElem?_append_left (by rw [h.1]; exact c)] at e1
    rw [List.getElem?_append_left c] at e2
    exact h.2 j a b e1 e2
  · rw [List.getElem?_append_right (by rw [h.1]; omega)] at e1
    rw [List.getElem?_append_right (by omega)] at e2
    rw [h.1] at e1
    generalize j - qs.length = k at *
    cases k with
    | zero => cases e1; cases e2; exact s
    | succ k => cases e1
theorem Shp.refl {p : Pt} (h : Okp p) : Shp p p := ⟨Rat.le_refl, fun k e => ⟨k, e, Rat.le_refl⟩, h⟩
def LSh (C p l a f : Addr) (c0 : Nat) (ps : List Pt) (H0 : Hp) (i : Nat) (σ : St) (H : Hp) : Prop := ∃ (v3 v4 v5 : Option V) (zs : List V) (qs : List Pt), σ = [some (.ref p), some (.ref a), some (.ref f), v3, v4, v5] ∧ PoolAt p l (c0 + i) H ∧ OffS p l H0 H ∧ H f = some (.lst zs) ∧ RPs C H zs 820 qs ∧ Shs (ps.take i) qs
section
variable {P : Program} {w : World} {K : PySem.W.Frag} {mg : Str → Option Value} {base : Heap} {A : Adr}
theorem ok_apart (T : Txt K mg A) (gRatioLt : FnOk P w K mg base CX0 5 A.a_RatioLt A.d_RatioLt ["self", "other"] (spCmp A.k_Ratio (fun p q => decide (p < q)))) (gRangesParts : FnOk P w K mg base CX0 1 A.a_RangesParts A.d_RangesParts ["self"] (spParts A.k_Ranges)) (gRangesInit : FnOk P w K mg base CX0 7 A.a_RangesInit A.d_RangesInit ["self", "parts"] (spRg K A.k_Ranges A.k_Ratio)) (gRangesEq : FnOk P w K mg base CX0 10 A.a_RangesEq A.d_RangesEq ["self", "other"] (spGEq A.k_Ranges A.k_Ratio)) :
    FnOk P w K mg base CX0 11 A.a_LawApart A.d_LawApart ["_law_ranges"] (spApart A.k_Ranges A.k_Ratio) := by
  refine T.f_LawApart.ok scLawApart (fun vs H Q E h => ?_) (fun cdv A' outer s H vs Q E hr h => ?_)
  · obtain ⟨g, n, ps, rfl, _⟩ := h
    rfl
  · obtain ⟨g, n, ps, rfl, hg, gp, k⟩ := h
    refine ⟨_, (pss_cons (ps_set (i := 1) scLawApart.nd rfl (Or.inl rfl) (pe_callTy call_list_of (by rfl) T.z_list (by decide +kernel) (pa_cons (pe_prop (pv 0) T.t_Ranges.cl T.h_RangesParts gRangesParts (hr.mono (by decide)) T.b_RangesParts .nil pass0 (by rfl)) pa_nil)))
      (pss_cons (ps_for PassesOwn.never rfl (pi_zip (by rfl) T.z_zip (pa_cons (pv 1) (pa_cons (pe_slice sl_list (pv 1) (po_some pe_int) po_none) pa_nil))) (pg_tup rfl (pgs_cons (pg_name (i := 2) scLawApart.nd rfl (Or.inl rfl)) (pgs_cons (pg_name (i := 3) scLawApart.nd rfl (Or.inl rfl)) pgs_nil))) (pss_one (ps_if (PW.pt (pw_or (pt_cmpR (op_isN) (pe_ix ix_tupH (pv 2) pe_int (fun _ _ => rfl)) pe_non (nomark _)) (pw_or1 (pt_not (pt_cmpR (op_ownC (fun _ _ => rfl) T.o_RatioLt gRatioLt (hr.mono (by decide)) T.b_RatioLt pass0) (pe_ix ix_tupH (pv 2) pe_int (fun _ _ => rfl)) (pe_ix ix_tupH (pv 3) pe_int (fun _ _ => rfl)) (nomark _)))))) (pss_one (ps_ret pe_bl)) pss_nil)))
      (pss_one (ps_ret (pe_cmpR (op_ownC (fun _ _ => rfl) T.o_RangesEq gRangesEq (hr.mono (by decide)) T.b_RangesEq pass0) (pe_make T.mk_Ranges gRangesInit (hr.mono (by decide)) (by rfl) T.k_Ranges T.b_RangesInit .nil pass0 (pa_cons (pv 1) pa_nil)) (pv 0) (nomark _)))))), ?_⟩
    obtain ⟨⟨dx, kk, ks, h1, h2, h3⟩, l, n4⟩ := id hg
    have kl := h3.len
    refine seq_gen fun N eN => ?_
    try simp only [tSeq, tNext, tRet, tRetN, tAsg, gName, gSub, tDrop, tIfS, tOp, tUn, tCB, tCons, tNil, tC, tVar, rI, rI0, rU, tAnd, tOr, tNot, tAndV, tOrV, tNotV, tIf, tTest, tB, tCall, tChain, tLst, tTup, tYes, rIxH, rIsB, rIsBT, rMulS, kd_non, kd_bl, kd_int, kd_str, kd_ref, kdO_lst, kdO_tup, kdO_dK, nq_n, nq_b, nq_i, nq_s, nq_l, nq_t, nq_d, ne_eq, not_false_eq_true, kit_ss, kit_ns, kit_bs, kit_is, kit_ls, kit_ts, kit_ds, kit_bb, V.ty.injEq, and_assoc, rIxU, rLenH, rLenU, rLenS, rInt1, rSetL, rEq, rNe, rCat, L2.start, List.map, List.length, List.length_cons, List.length_nil, List.replicate, List.getElem?_cons_zero, List.getElem?_cons_succ, List.set_cons_zero, List.set_cons_succ, List.set_nil, List.cons_append, List.nil_append, List.append_nil, Option.some.injEq, V.int.injEq, V.ref.injEq, V.str.injEq, V.bl.injEq, HO.lst.injEq, HO.tup.injEq, exists_eq_left', exists_and_left, exists_eq_left, List.cons.injEq, and_true, true_and, and_false, false_and, and_self, reduceCtorEq, exists_false, or_false, false_or, exists_const, at0, at1, at2, at3, at4, at5, ix51, ix52, ix54, upd_same, Nat.reduceAdd, Nat.reduceSub, Nat.zero_add, Int.reduceToNat, Int.reduceLE, Int.reduceLT, decide_eq_true_eq, Bool.not_eq_true, if_true, if_false, Bool.false_eq_true, ite_true, ite_false, Bool.not_true, Bool.not_false, decide_true, decide_false, tFor_eq, tLc_eq, iList, iTup, iRng1, iRng2, iStr, tSl, tPart, tNoPart, rSlL, cxOf_K, wipe, ex_ty2, kit_LTl, kit_LTt, kit_LTd, kit_LTs, kit_LTn, kit_LTb, kit_LTi, tM1, rIxS, exists_eq', lt1p, tDNewK, rSlS, rEqNil, nox_K, tProp, h1, HO.ins.injEq]
    refine ⟨g, dx, kk, ks, rfl, h1, h2, fun t nt => ?_⟩
    generalize g_H1 : upd H t _ = H1
    obtain ⟨s_H1, h_t⟩ := new_facts nt g_H1
    clear g_H1
    refine ⟨t, rfl, ks, .inr (SqT.of h_t), ?_⟩
    intro a n_a; generalize g_H2 : upd H1 a _ = H2; obtain ⟨s_H2, h_a⟩ := new_facts n_a g_H2; clear g_H2
    have s02 := s_H1.trans s_H2
    (try dsimp only); rw [eN]; clear eN N
    refine seq_gen fun N eN => ?_
    try simp only [tSeq, tNext, tRet, tRetN, tAsg, gName, gSub, tDrop, tIfS, tOp, tUn, tCB, tCons, tNil, tC, tVar, rI, rI0, rU, tAnd, tOr, tNot, tAndV, tOrV, tNotV, tIf, tTest, tB, tCall, tChain, tLst, tTup, tYes, rIxH, rIsB, rIsBT, rMulS, kd_non, kd_bl, kd_int, kd_str, kd_ref, kdO_lst, kdO_tup, kdO_dK, nq_n, nq_b, nq_i, nq_s, nq_l, nq_t, nq_d, ne_eq, not_false_eq_true, kit_ss, kit_ns, kit_bs, kit_is, kit_ls, kit_ts, kit_ds, kit_bb, V.ty.injEq, and_assoc, rIxU, rLenH, rLenU, rLenS, rInt1, rSetL, rEq, rNe, rCat, L2.start, List.map, List.length, List.length_cons, List.length_nil, List.replicate, List.getElem?_cons_zero, List.getElem?_cons_succ, List.set_cons_zero, List.set_cons_succ, List.set_nil, List.cons_append, List.nil_append, List.append_nil, Option.some.injEq, V.int.injEq, V.ref.injEq, V.str.injEq, V.bl.injEq, HO.lst.injEq, HO.tup.injEq, exists_eq_left', exists_and_left, exists_eq_left, List.cons.injEq, and_true, true_and, and_false, false_and, and_self, reduceCtorEq, exists_false, or_false, false_or, exists_const, at0, at1, at2, at3, at4, at5, ix51, ix52, ix54, upd_same, Nat.reduceAdd, Nat.reduceSub, Nat.zero_add, Int.reduceToNat, Int.reduceLE, Int.reduceLT, decide_eq_true_eq, Bool.not_eq_true, if_true, if_false, Bool.false_eq_true, ite_true, ite_false, Bool.not_true, Bool.not_false, decide_true, decide_false, tFor_eq, tLc_eq, iList, iTup, iRng1, iRng2, iStr, tSl, tPart, tNoPart, rSlL, cxOf_K, wipe, ex_ty2, kit_LTl, kit_LTt, kit_LTd, kit_LTs, kit_LTn, kit_LTb, kit_LTi, tM1, rIxS, exists_eq', lt1p, tDNewK, rSlS, rEqNil, nox_K, h_a, iZip]
    refine ⟨ks, SqL.of h_a, fun p np1 => ?_⟩
    generalize g_H3 : upd H2 p _ = H3
    obtain ⟨s_H3, h_p⟩ := new_facts np1 g_H3
    clear g_H3
    rw [show cutV ks (some 1) none = ks.drop 1 from cut_from (n := 1)] at h_p
    have ha3 := s_H3 _ _ h_a
    have s03 := s02.trans s_H3
    have as := asc_of gp
    refine ⟨ks, SqL.of ha3, ks.drop 1, SqL.of h_p, for_it (walk_zip (K := K) (a := a) (b := p) (xs := ks) (ys := ks.drop 1) rfl) (LAp g a H3) ⟨_, _, rfl, Same.refl _⟩ (fun i σ H2 _ q => ?_) (fun i v σ H4 H5 hi q y => ?_) (fun σ H4 q => ?_)⟩
    · obtain ⟨_, _, _, s2⟩ := q
      exact ⟨SqL.of (s2 _ _ ha3), SqL.of (s2 _ _ h_p)⟩
    · obtain ⟨v1, v2, rfl, s4⟩ := q
      obtain ⟨t, x1, y1, rfl, nt, rfl, e1, e2⟩ := y
      obtain ⟨t1, u1, w1, t2, u2, w2, h, lo2, rfl, rfl, g1, g4, hw1, hu2, lt⟩ := asc_turnR ((h3.same s03).same s4) as e1 e2
      have s5 := same_new (o := HO.tup [V.ref t1, V.ref t2]) nt
      refine ⟨t, _, rfl, SqT.of upd_same, rfl, _, _, rfl, _, _, rfl, rfl, ?_⟩
      have g1 := s5 _ _ g1
      have g4 := s5 _ _ g4
      try simp only [tSeq, tNext, tRet, tRetN, tAsg, gName, gSub, tDrop, tIfS, tOp, tUn, tCB, tCons, tNil, tC, tVar, rI, rI0, rU, tAnd, tOr, tNot, tAndV, tOrV, tNotV, tIf, tTest, tB, tCall, tChain, tLst, tTup, tYes, rIxH, rIsB, rIsBT, rMulS, kd_non, kd_bl, kd_int, kd_str, kd_ref, kdO_lst, kdO_tup, kdO_dK, nq_n, nq_b, nq_i, nq_s, nq_l, nq_t, nq_d, ne_eq, not_false_eq_true, kit_ss, kit_ns, kit_bs, kit_is, kit_ls, kit_ts, kit_ds, kit_bb, V.ty.injEq, and_assoc, rIxU, rLenH, rLenU, rLenS, rInt1, rSetL, rEq, rNe, rCat, L2.start, List.map, List.length, List.length_cons, List.length_nil, List.replicate, List.getElem?_cons_zero, List.getElem?_cons_succ, List.set_cons_zero, List.set_cons_succ, List.set_nil, List.cons_append, List.nil_append, List.append_nil, Option.some.injEq, V.int.injEq, V.ref.injEq, V.str.injEq, V.bl.injEq, HO.lst.injEq, HO.tup.injEq, exists_eq_left', exists_and_left, exists_eq_left, List.cons.injEq, and_true, true_and, and_false, false_and, and_self, reduceCtorEq, exists_false, or_false, false_or, exists_const, at0, at1, at2, at3, at4, at5, ix51, ix52, ix54, upd_same, Nat.reduceAdd, Nat.reduceSub, Nat.zero_add, Int.reduceToNat, Int.reduceLE, Int.reduceLT, decide_eq_true_eq, Bool.not_eq_true, if_true, if_false, Bool.false_eq_true, ite_true, ite_false, Bool.not_true, Bool.not_false, decide_true, decide_false, tFor_eq, tLc_eq, iList, iTup, iRng1, iRng2, iStr, tSl, tPart, tNoPart, rSlL, cxOf_K, wipe, ex_ty2, kit_LTl, kit_LTt, kit_LTd, kit_LTs, kit_LTn, kit_LTb, kit_LTi, tM1, rIxS, exists_eq', lt1p, tDNewK, rSlS, rEqNil, nox_K, g1, g4]
      rw [if_neg (NumAt.nn (.inl hw1))]
      refine cmp_go (hw1.same s5) (.inl (hu2.same s5)) (by omega) fun H6 s6 => ⟨_, rfl, ?_⟩
      rw [decide_eq_true lt, if_neg (by decide)]
      exact ⟨_, _, rfl, (s4.trans s5).trans s6⟩
    · obtain ⟨v1, v2, rfl, s4⟩ := q
      (try dsimp only); rw [eN]; clear eN N
      have ha4 := s4 _ _ ha3
      have s04 := s03.trans s4
      try simp only [tSeq, tNext, tRet, tRetN, tAsg, gName, gSub, tDrop, tIfS, tOp, tUn, tCB, tCons, tNil, tC, tVar, rI, rI0, rU, tAnd, tOr, tNot, tAndV, tOrV, tNotV, tIf, tTest, tB, tCall, tChain, tLst, tTup, tYes, rIxH, rIsB, rIsBT, rMulS, kd_non, kd_bl, kd_int, kd_str, kd_ref, kdO_lst, kdO_tup, kdO_dK, nq_n, nq_b, nq_i, nq_s, nq_l, nq_t, nq_d, ne_eq, not_false_eq_true, kit_ss, kit_ns, kit_bs, kit_is, kit_ls, kit_ts, kit_ds, kit_bb, V.ty.injEq, and_assoc, rIxU, rLenH, rLenU, rLenS, rInt1, rSetL, rEq, rNe, rCat, L2.start, List.map, List.length, List.length_cons, List.length_nil, List.replicate, List.getElem?_cons_zero, List.getElem?_cons_succ, List.set_cons_zero, List.set_cons_succ, List.set_nil, List.cons_append, List.nil_append, List.append_nil, Option.some.injEq, V.int.injEq, V.ref.injEq, V.str.injEq, V.bl.injEq, HO.lst.injEq, HO.tup.injEq, exists_eq_left', exists_and_left, exists_eq_left, List.cons.injEq, and_true, true_and, and_false, false_and, and_self, reduceCtorEq, exists_false, or_false, false_or, exists_const, at0, at1, at2, at3, at4, at5, ix51, ix52, ix54, upd_same, Nat.reduceAdd, Nat.reduceSub, Nat.zero_add, Int.reduceToNat, Int.reduceLE, Int.reduceLT, decide_eq_true_eq, Bool.not_eq_true, if_true, if_false, Bool.false_eq_true, ite_true, ite_false, Bool.not_true, Bool.not_false, decide_true, decide_false, tFor_eq, tLc_eq, iList, iTup, iRng1, iRng2, iStr, tSl, tPart, tNoPart, rSlL, cxOf_K, wipe, ex_ty2, kit_LTl, kit_LTt, kit_LTd, kit_LTs, kit_LTn, kit_LTb, kit_LTi, tM1, rIxS, exists_eq', lt1p, tDNewK, rSlS, rEqNil, nox_K, tMake_eq]
      refine rg_yes (b := a) (xs := ks) (n := n) (ps := ps) rfl (.inl ha4) (h3.same s04).num gp.1 as n4 (by omega) fun H5 g2 dx2 kk2 zs2 s5 _ _ hg2 hk2 rz2 => ?_
      have s05 := s04.trans s5
      refine ⟨g2, dx2, _, rfl, hg2, .inr ⟨g, dx, _, rfl, s05 _ _ h1⟩, g2, n, ps, _, rfl, ⟨⟨dx2, kk2, zs2, hg2, hk2, rz2⟩, l, n4⟩, .inl ⟨g, n, ps, rfl, hg.same s05, CmpOk.refl, fun H6 s6 => ?_⟩⟩
      rw [decide_eq_true rfl]
      exact k H6 (s05.trans s6)
theorem ok_shifted (T : Txt K mg A) (gLawDraw : FnOk P w K mg base CX0 2 A.a_LawDraw A.d_LawDraw ["_law_pool_here", "_law_many"] spLawDraw) (gRatioGt : FnOk P w K mg base CX0 5 A.a_RatioGt A.d_RatioGt ["self", "other"] (spCmp A.k_Ratio (fun p q => decide (q < p)))) :
    FnOk P w K mg base CX0 6 A.a_LawShifted A.d_LawShifted ["_law_pool_here", "_law_some"] (spShifted A.k_Ratio) := by
  refine T.f_LawShifted.ok scLawShifted (fun vs H Q E h => ?_) (fun cdv A' outer s H vs Q E hr h => ?_)
  · obtain ⟨p, l, c, a, xs, ps, rfl, _⟩ := h
    rfl
  · obtain ⟨p, l, c, a, xs, ps, rfl, hp, hc, nap, nal, ha, rp, de, k⟩ := h
    refine ⟨_, (pss_cons (ps_set (i := 2) scLawShifted.nd rfl (Or.inl rfl) (pe_lst pa_nil))
      (pss_cons (ps_for PassesOwn.never rfl (pi_list (pv 1)) (pg_tup rfl (pgs_cons (pg_name (i := 3) scLawShifted.nd rfl (Or.inl rfl)) (pgs_cons (pg_name (i := 4) scLawShifted.nd rfl (Or.inl rfl)) pgs_nil))) (pss_cons (ps_set (i := 5) scLawShifted.nd rfl (Or.inl rfl) (pe_call gLawDraw (hr.mono (by decide)) (by rfl) T.m_LawDraw T.f_LawDraw.kp T.b_LawDraw .nil pass0 (pa_cons (pv 0) (pa_cons pe_int pa_nil))))
      (pss_cons (ps_if (PW.pt (pw_and (pt_cmpR (op_eq) (pv 5) pe_int (nomark _)) (pw_and1 (pt_cmpR (op_notN) (pv 4) pe_non (nomark _))))) (pss_one (ps_set (i := 3) scLawShifted.nd rfl (Or.inl rfl) (pv 4))) pss_nil)
      (pss_cons (ps_if (PW.pt (pw_and (pt_cmpR (op_eq) (pv 5) pe_int (nomark _)) (pw_and (pt_cmpR (op_notN) (pv 4) pe_non (nomark _)) (pw_and1 (pt_cmpR (op_ownC (fun _ _ => rfl) T.o_RatioGt gRatioGt (hr.mono (by decide)) T.b_RatioGt pass0) (pv 3) pe_int (nomark _)))))) (pss_one (ps_set (i := 4) scLawShifted.nd rfl (Or.inl rfl) (pv 3))) pss_nil)
      (pss_one (ps_expr (pe_bm PySem.F.plainAttrs_list PySem.F.slot_list_append PySem.F.type_list_append mt_append (pv 2) (pa_cons (pe_tup (pa_cons (pv 3) (pa_cons (pv 4) pa_nil))) pa_nil))))))))
      (pss_one (ps_ret (pv 2))))), ?_⟩
    refine seq_gen fun N eN => ?_
    try simp only [tSeq, tNext, tRet, tRetN, tAsg, gName, gSub, tDrop, tIfS, tOp, tUn, tCB, tCons, tNil, tC, tVar, rI, rI0, rU, tAnd, tOr, tNot, tAndV, tOrV, tNotV, tIf, tTest, tB, tCall, tChain, tLst, tTup, tYes, rIxH, rIsB, rIsBT, rMulS, kd_non, kd_bl, kd_int, kd_str, kd_ref, kdO_lst, kdO_tup, kdO_dK, nq_n, nq_b, nq_i, nq_s, nq_l, nq_t, nq_d, ne_eq, not_false_eq_true, kit_ss, kit_ns, kit_bs, kit_is, kit_ls, kit_ts, kit_ds, kit_bb, V.ty.injEq, and_assoc, rIxU, rLenH, rLenU, rLenS, rInt1, rSetL, rEq, rNe, rCat, L2.start, List.map, List.length, List.length_cons, List.length_nil, List.replicate, List.getElem?_cons_zero, List.getElem?_cons_succ, List.set_cons_zero, List.set_cons_succ, List.set_nil, List.cons_append, List.nil_append, List.append_nil, Option.some.injEq, V.int.injEq, V.ref.injEq, V.str.injEq, V.bl.injEq, HO.lst.injEq, HO.tup.injEq, exists_eq_left', exists_and_left, exists_eq_left, List.cons.injEq, and_true, true_and, and_false, false_and, and_self, reduceCtorEq, exists_false, or_false, false_or, exists_const, at0, at1, at2, at3, at4, at5, ix51, ix52, ix54, upd_same, Nat.reduceAdd, Nat.reduceSub, Nat.zero_add, Int.reduceToNat, Int.reduceLE, Int.reduceLT, decide_eq_true_eq, Bool.not_eq_true, if_true, if_false, Bool.false_eq_true, ite_true, ite_false, Bool.not_true, Bool.not_false, decide_true, decide_false, tFor_eq, tLc_eq, iList, iTup, iRng1, iRng2, iStr, tSl, tPart, tNoPart, rSlL, cxOf_K, wipe, ex_ty2, kit_LTl, kit_LTt, kit_LTd, kit_LTs, kit_LTn, kit_LTb, kit_LTi, tM1, rIxS, exists_eq', lt1p, tDNewK, rSlS, rEqNil, nox_K]
    refine ⟨by decide, ?_⟩
    intro f n_f; generalize g_H1 : upd H f _ = H1; obtain ⟨s_H1, h_f⟩ := new_facts n_f g_H1; clear g_H1
    (try dsimp only); rw [eN]; clear eN N
    have npf := hp.np n_f
    have nf := n_f
    have hpl := rp.len
    have l4 := de.l4
    refine seq_gen fun N eN => ?_
    try simp only [tSeq, tNext, tRet, tRetN, tAsg, gName, gSub, tDrop, tIfS, tOp, tUn, tCB, tCons, tNil, tC, tVar, rI, rI0, rU, tAnd, tOr, tNot, tAndV, tOrV, tNotV, tIf, tTest, tB, tCall, tChain, tLst, tTup, tYes, rIxH, rIsB, rIsBT, rMulS, kd_non, kd_bl, kd_int, kd_str, kd_ref, kdO_lst, kdO_tup, kdO_dK, nq_n, nq_b, nq_i, nq_s, nq_l, nq_t, nq_d, ne_eq, not_false_eq_true, kit_ss, kit_ns, kit_bs, kit_is, kit_ls, kit_ts, kit_ds, kit_bb, V.ty.injEq, and_assoc, rIxU, rLenH, rLenU, rLenS, rInt1, rSetL, rEq, rNe, rCat, L2.start, List.map, List.length, List.length_cons, List.length_nil, List.replicate, List.getElem?_cons_zero, List.getElem?_cons_succ, List.set_cons_zero, List.set_cons_succ, List.set_nil, List.cons_append, List.nil_append, List.append_nil, Option.some.injEq, V.int.injEq, V.ref.injEq, V.str.injEq, V.bl.injEq, HO.lst.injEq, HO.tup.injEq, exists_eq_left', exists_and_left, exists_eq_left, List.cons.injEq, and_true, true_and, and_false, false_and, and_self, reduceCtorEq, exists_false, or_false, false_or, exists_const, at0, at1, at2, at3, at4, at5, ix51, ix52, ix54, upd_same, Nat.reduceAdd, Nat.reduceSub, Nat.zero_add, Int.reduceToNat, Int.reduceLE, Int.reduceLT, decide_eq_true_eq, Bool.not_eq_true, if_true, if_false, Bool.false_eq_true, ite_true, ite_false, Bool.not_true, Bool.not_false, decide_true, decide_false, tFor_eq, tLc_eq, iList, iTup, iRng1, iRng2, iStr, tSl, tPart, tNoPart, rSlL, cxOf_K, wipe, ex_ty2, kit_LTl, kit_LTt, kit_LTd, kit_LTs, kit_LTn, kit_LTb, kit_LTi, tM1, rIxS, exists_eq', lt1p, tDNewK, rSlS, rEqNil, nox_K]
    refine ⟨⟨_, SqL.of (s_H1 _ _ ha)⟩, for_go (walk_list (K := K) (a := a) (xs := xs)) (LSh A.k_Ratio p l a f c ps H) ⟨_, _, _, [], [], rfl, hp.same s_H1, same_off s_H1, h_f, RPs.nil, by rw [List.take_zero]; exact ⟨rfl, fun i p q e => by cases e⟩⟩ (fun i σ H2 _ q => by obtain ⟨_, _, _, _, _, _, _, o2, _⟩ := q; exact SqL.of (o2 _ _ nap nal ha)) (fun i x σ H2 hx q => ?_) (fun σ H2 q => ?_)⟩
    · obtain ⟨v3, v4, v5, zs, qs, rfl, hp2, o2, hf2, rz, sh⟩ := q
      have hi' : i < ps.length := by rw [← rp.len]; exact (List.getElem?_eq_some_iff.mp hx).1
      have gi : ps[i]? = some ps[i] := List.getElem?_eq_getElem hi'
      have okp := de.ok _ (List.getElem_mem hi')
      have rp2 := rp.nl (Nl.off hp o2)
      obtain ⟨t, u, y, rfl, ht, hu, hy⟩ := rp2.ea i x _ hx gi
      generalize ps[i] = pp at *
      obtain ⟨lo, hi⟩ := pp
      refine ⟨t, _, rfl, SqT.of ht, rfl, _, _, rfl, _, _, rfl, rfl, ?_⟩
      refine seq_gen fun N2 eN2 => ?_
      try simp only [tSeq, tNext, tRet, tRetN, tAsg, gName, gSub, tDrop, tIfS, tOp, tUn, tCB, tCons, tNil, tC, tVar, rI, rI0, rU, tAnd, tOr, tNot, tAndV, tOrV, tNotV, tIf, tTest, tB, tCall, tChain, tLst, tTup, tYes, rIxH, rIsB, rIsBT, rMulS, kd_non, kd_bl, kd_int, kd_str, kd_ref, kdO_lst, kdO_tup, kdO_dK, nq_n, nq_b, nq_i, nq_s, nq_l, nq_t, nq_d, ne_eq, not_false_eq_true, kit_ss, kit_ns, kit_bs, kit_is, kit_ls, kit_ts, kit_ds, kit_bb, V.ty.injEq, and_assoc, rIxU, rLenH, rLenU, rLenS, rInt1, rSetL, rEq, rNe, rCat, L2.start, List.map, List.length, List.length_cons, List.length_nil, List.replicate, List.getElem?_cons_zero, List.getElem?_cons_succ, List.set_cons_zero, List.set_cons_succ, List.set_nil, List.cons_append, List.nil_append, List.append_nil, Option.some.injEq, V.int.injEq, V.ref.injEq, V.str.injEq, V.bl.injEq, HO.lst.injEq, HO.tup.injEq, exists_eq_left', exists_and_left, exists_eq_left, List.cons.injEq, and_true, true_and, and_false, false_and, and_self, reduceCtorEq, exists_false, or_false, false_or, exists_const, at0, at1, at2, at3, at4, at5, ix51, ix52, ix54, upd_same, Nat.reduceAdd, Nat.reduceSub, Nat.zero_add, Int.reduceToNat, Int.reduceLE, Int.reduceLT, decide_eq_true_eq, Bool.not_eq_true, if_true, if_false, Bool.false_eq_true, ite_true, ite_false, Bool.not_true, Bool.not_false, decide_true, decide_false, tFor_eq, tLc_eq, iList, iTup, iRng1, iRng2, iStr, tSl, tPart, tNoPart, rSlL, cxOf_K, wipe, ex_ty2, kit_LTl, kit_LTt, kit_LTd, kit_LTs, kit_LTn, kit_LTb, kit_LTi, tM1, rIxS, exists_eq', lt1p, tDNewK, rSlS, rEqNil, nox_K]
      refine ⟨p, l, 4, c + i, rfl, by decide, by decide, hp2, by omega, fun m H3 m0 m1 hp3 off3 => ?_⟩
      have nl3 := Nl.off hp2 (Off.s off3)
      have hu3 := hu.nl nl3
      have hf3 : H3 f = some (.lst zs) := (Off.s off3) f _ npf.1 npf.2 hf2
      have o3 := o2.trans (Off.s off3)
      have rz3 := rz.nl nl3
      have hy3 : RHi A.k_Ratio H3 y 820 hi := by
        cases hi with
        | none => exact hy
        | some h => exact RatAt.nl (show RatAt A.k_Ratio H2 y h 820 from hy) nl3
      clear hu hy hf2 rz rp2 nl3 hp2 off3 o2 ht
      first | rw [eN2] | (dsimp only; rw [eN2])
      clear eN2 N2
      have hm4 : m < 4 := m1
      suffices fin : ∀ (H4 : Hp) (x4 y4 : V) (lo2 : Rat) (hi2 : Option Rat), Same H3 H4 → RatAt A.k_Ratio H3 x4 lo2 820 → RHi A.k_Ratio H3 y4 820 hi2 → Shp (lo, hi) (lo2, hi2) → tBM K "list" rAppend (tVar 2) (tCons (tTup (tCons (tVar 3) (tCons (tVar 4) tNil))) tNil) [some (V.ref p), some (V.ref a), some (V.ref f), some x4, some y4, some (.int m)] H4 fun x H1 => LSh A.k_Ratio p l a f c ps H (i + 1) [some (V.ref p), some (V.ref a), some (V.ref f), some x4, some y4, some (.int m)] H1 by
        refine seq_gen fun N2 eN2 => ?_
        try simp only [tSeq, tNext, tRet, tRetN, tAsg, gName, gSub, tDrop, tIfS, tOp, tUn, tCB, tCons, tNil, tC, tVar, rI, rI0, rU, tAnd, tOr, tNot, tAndV, tOrV, tNotV, tIf, tTest, tB, tCall, tChain, tLst, tTup, tYes, rIxH, rIsB, rIsBT, rMulS, kd_non, kd_bl, kd_int, kd_str, kd_ref, kdO_lst, kdO_tup, kdO_dK, nq_n, nq_b, nq_i, nq_s, nq_l, nq_t, nq_d, ne_eq, not_false_eq_true, kit_ss, kit_ns, kit_bs, kit_is, kit_ls, kit_ts, kit_ds, kit_bb, V.ty.injEq, and_assoc, rIxU, rLenH, rLenU, rLenS, rInt1, rSetL, rEq, rNe, rCat, L2.start, List.map, List.length, List.length_cons, List.length_nil, List.replicate, List.getElem?_cons_zero, List.getElem?_cons_succ, List.set_cons_zero, List.set_cons_succ, List.set_nil, List.cons_append, List.nil_append, List.append_nil, Option.some.injEq, V.int.injEq, V.ref.injEq, V.str.injEq, V.bl.injEq, HO.lst.injEq, HO.tup.injEq, exists_eq_left', exists_and_left, exists_eq_left, List.cons.injEq, and_true, true_and, and_false, false_and, and_self, reduceCtorEq, exists_false, or_false, false_or, exists_const, at0, at1, at2, at3, at4, at5, ix51, ix52, ix54, upd_same, Nat.reduceAdd, Nat.reduceSub, Nat.zero_add, Int.reduceToNat, Int.reduceLE, Int.reduceLT, decide_eq_true_eq, Bool.not_eq_true, if_true, if_false, Bool.false_eq_true, ite_true, ite_false, Bool.not_true, Bool.not_false, decide_true, decide_false, tFor_eq, tLc_eq, iList, iTup, iRng1, iRng2, iStr, tSl, tPart, tNoPart, rSlL, cxOf_K, wipe, ex_ty2, kit_LTl, kit_LTt, kit_LTd, kit_LTs, kit_LTn, kit_LTb, kit_LTi, tM1, rIxS, exists_eq', lt1p, tDNewK, rSlS, rEqNil, nox_K]
        refine ⟨scal_int, ?_⟩
        suffices fin2 : ∀ (x4 : V) (lo2 : Rat), RatAt A.k_Ratio H3 x4 lo2 820 → Shp (lo, hi) (lo2, hi) → N2 [some (V.ref p), some (V.ref a), some (V.ref f), some x4, some y, some (.int m)] H3 by
          by_cases c0 : m = 0
          · rw [if_pos c0]
            cases hi with
            | none =>
              have ey : y = .non := hy3
              rw [if_neg (by rw [ey]; decide)]
              exact fin2 u lo hu3 (Shp.refl okp)
            | some h =>
              have nn : ¬ y = .non := NumAt.nn (.inl (show RatAt A.k_Ratio H3 y h 820 from hy3))
              rw [if_pos (by rw [decide_eq_false nn]; rfl)]
              have o2 := okp.2 h rfl
              exact fin2 y h hy3 ⟨o2.2, fun k e => ⟨k, e, Rat.le_refl⟩, Rat.le_of_lt o2.1, fun k e => by cases e; exact ⟨o2.1, Rat.le_refl⟩⟩
          · rw [if_neg c0]
            exact fin2 u lo hu3 (Shp.refl okp)
        intro x4 lo2 hx4 shp
        rw [eN2]
        clear eN2 N2
        refine seq_gen fun N2 eN2 => ?_
        have stay : ∀ H4, Same H3 H4 → N2 [some (V.ref p), some (V.ref a), some (V.ref f), some x4, some y, some (.int m)] H4 := fun H4 s4 => by
          rw [eN2]
          exact fin H4 x4 y lo2 hi s4 hx4 hy3 shp
        try simp only [tSeq, tNext, tRet, tRetN, tAsg, gName, gSub, tDrop, tIfS, tOp, tUn, tCB, tCons, tNil, tC, tVar, rI, rI0, rU, tAnd, tOr, tNot, tAndV, tOrV, tNotV, tIf, tTest, tB, tCall, tChain, tLst, tTup, tYes, rIxH, rIsB, rIsBT, rMulS, kd_non, kd_bl, kd_int, kd_str, kd_ref, kdO_lst, kdO_tup, kdO_dK, nq_n, nq_b, nq_i, nq_s, nq_l, nq_t, nq_d, ne_eq, not_false_eq_true, kit_ss, kit_ns, kit_bs, kit_is, kit_ls, kit_ts, kit_ds, kit_bb, V.ty.injEq, and_assoc, rIxU, rLenH, rLenU, rLenS, rInt1, rSetL, rEq, rNe, rCat, L2.start, List.map, List.length, List.length_cons, List.length_nil, List.replicate, List.getElem?_cons_zero, List.getElem?_cons_succ, List.set_cons_zero, List.set_cons_succ, List.set_nil, List.cons_append, List.nil_append, List.append_nil, Option.some.injEq, V.int.injEq, V.ref.injEq, V.str.injEq, V.bl.injEq, HO.lst.injEq, HO.tup.injEq, exists_eq_left', exists_and_left, exists_eq_left, List.cons.injEq, and_true, true_and, and_false, false_and, and_self, reduceCtorEq, exists_false, or_false, false_or, exists_const, at0, at1, at2, at3, at4, at5, ix51, ix52, ix54, upd_same, Nat.reduceAdd, Nat.reduceSub, Nat.zero_add, Int.reduceToNat, Int.reduceLE, Int.reduceLT, decide_eq_true_eq, Bool.not_eq_true, if_true, if_false, Bool.false_eq_true, ite_true, ite_false, Bool.not_true, Bool.not_false, decide_true, decide_false, tFor_eq, tLc_eq, iList, iTup, iRng1, iRng2, iStr, tSl, tPart, tNoPart, rSlL, cxOf_K, wipe, ex_ty2, kit_LTl, kit_LTt, kit_LTd, kit_LTs, kit_LTn, kit_LTb, kit_LTi, tM1, rIxS, exists_eq', lt1p, tDNewK, rSlS, rEqNil, nox_K]
        refine ⟨scal_int, ?_⟩
        by_cases c1 : m = 1
        · rw [if_pos c1]
          cases hi with
          | none =>
            have ey : y = .non := hy3
            rw [if_neg (by rw [ey]; decide)]
            exact stay H3 (Same.refl _)
          | some h =>
            have nn : ¬ y = .non := NumAt.nn (.inl (show RatAt A.k_Ratio H3 y h 820 from hy3))
            rw [if_pos (by rw [decide_eq_false nn]; rfl)]
            refine cmp_go (m := 2) hx4 (num_int (z := 0) (by decide)) (by decide) fun H4 s4 => ⟨_, rfl, ?_⟩
            by_cases cp : ((0 : Int) : Rat) < lo2
            · rw [if_pos (decide_eq_true cp)]
              rw [eN2]
              have z0 : ((0 : Int) : Rat) = 0 := rfl
              rw [z0] at cp
              refine fin H4 x4 x4 lo2 (some lo2) s4 hx4 hx4 ⟨shp.1, fun k e => ⟨lo2, rfl, ?_⟩, Rat.le_of_lt cp, fun k e => by cases e; exact ⟨cp, Rat.le_refl⟩⟩
              cases e
              exact (shp.2.2.2 h rfl).2
            · rw [if_neg (by simpa using cp)]
              exact stay H4 s4
        · rw [if_neg c1]
          exact stay H3 (Same.refl _)
      intro H4 x4 y4 lo2 hi2 s4 hx4 hy4 shp
      have hf4 := s4 _ _ hf3
      refine ⟨_, rfl, Or.inl ⟨rfl, _, SqL.of hf4⟩, ?_⟩
      try simp only [tSeq, tNext, tRet, tRetN, tAsg, gName, gSub, tDrop, tIfS, tOp, tUn, tCB, tCons, tNil, tC, tVar, rI, rI0, rU, tAnd, tOr, tNot, tAndV, tOrV, tNotV, tIf, tTest, tB, tCall, tChain, tLst, tTup, tYes, rIxH, rIsB, rIsBT, rMulS, kd_non, kd_bl, kd_int, kd_str, kd_ref, kdO_lst, kdO_tup, kdO_dK, nq_n, nq_b, nq_i, nq_s, nq_l, nq_t, nq_d, ne_eq, not_false_eq_true, kit_ss, kit_ns, kit_bs, kit_is, kit_ls, kit_ts, kit_ds, kit_bb, V.ty.injEq, and_assoc, rIxU, rLenH, rLenU, rLenS, rInt1, rSetL, rEq, rNe, rCat, L2.start, List.map, List.length, List.length_cons, List.length_nil, List.replicate, List.getElem?_cons_zero, List.getElem?_cons_succ, List.set_cons_zero, List.set_cons_succ, List.set_nil, List.cons_append, List.nil_append, List.append_nil, Option.some.injEq, V.int.injEq, V.ref.injEq, V.str.injEq, V.bl.injEq, HO.lst.injEq, HO.tup.injEq, exists_eq_left', exists_and_left, exists_eq_left, List.cons.injEq, and_true, true_and, and_false, false_and, and_self, reduceCtorEq, exists_false, or_false, false_or, exists_const, at0, at1, at2, at3, at4, at5, ix51, ix52, ix54, upd_same, Nat.reduceAdd, Nat.reduceSub, Nat.zero_add, Int.reduceToNat, Int.reduceLE, Int.reduceLT, decide_eq_true_eq, Bool.not_eq_true, if_true, if_false, Bool.false_eq_true, ite_true, ite_false, Bool.not_true, Bool.not_false, decide_true, decide_false, tFor_eq, tLc_eq, iList, iTup, iRng1, iRng2, iStr, tSl, tPart, tNoPart, rSlL, cxOf_K, wipe, ex_ty2, kit_LTl, kit_LTt, kit_LTd, kit_LTs, kit_LTn, kit_LTb, kit_LTi, tM1, rIxS, exists_eq', lt1p, tDNewK, rSlS, rEqNil, nox_K]
      refine ⟨by decide, ?_⟩
      intro q n_q; generalize g_H5 : upd H4 q _ = H5; obtain ⟨s_H5, h_q⟩ := new_facts n_q g_H5; clear g_H5
      have hf5 := s_H5 _ _ hf4
      have s35 := s4.trans s_H5
      have nm := Nl.mut (ys := zs ++ [V.ref q]) hf5
      have zl := rz3.len
      have ql := sh.1
      rw [List.length_take] at ql
      refine ⟨f, _, _, rfl, rfl, hf5, Nat.lt_of_le_of_lt (m := 1000) (by omega) (by decide), ?_⟩
      refine ⟨_, _, _, _, qs ++ [(lo2, hi2)], rfl, ?_, ?_, upd_same, ((rz3.same s35).nl nm).snoc (RPart.nl ⟨q, x4, y4, rfl, h_q, hx4.same s35, hy4.same s35⟩ nm), sh.snoc gi shp⟩
      · obtain ⟨ns, tt, n, z, y, h1, h2, h3⟩ := hp3.same s35
        exact ⟨ns, tt, n, z, y, by rw [upd_ne npf.1.symm]; exact h1, by rw [upd_ne npf.2.symm]; exact h2, h3⟩
      · intro b o n1 n2 e
        rw [upd_ne (fun z => by rw [z, nf] at e; cases e)]
        exact (o3.trans (same_off s35)) b o n1 n2 e
    · obtain ⟨v3, v4, v5, zs, qs, rfl, hp2, o2, hf2, rz, sh⟩ := q
      (try dsimp only); rw [eN]; clear eN N
      try simp only [tSeq, tNext, tRet, tRetN, tAsg, gName, gSub, tDrop, tIfS, tOp, tUn, tCB, tCons, tNil, tC, tVar, rI, rI0, rU, tAnd, tOr, tNot, tAndV, tOrV, tNotV, tIf, tTest, tB, tCall, tChain, tLst, tTup, tYes, rIxH, rIsB, rIsBT, rMulS, kd_non, kd_bl, kd_int, kd_str, kd_ref, kdO_lst, kdO_tup, kdO_dK, nq_n, nq_b, nq_i, nq_s, nq_l, nq_t, nq_d, ne_eq, not_false_eq_true, kit_ss, kit_ns, kit_bs, kit_is, kit_ls, kit_ts, kit_ds, kit_bb, V.ty.injEq, and_assoc, rIxU, rLenH, rLenU, rLenS, rInt1, rSetL, rEq, rNe, rCat, L2.start, List.map, List.length, List.length_cons, List.length_nil, List.replicate, List.getElem?_cons_zero, List.getElem?_cons_succ, List.set_cons_zero, List.set_cons_succ, List.set_nil, List.cons_append, List.nil_append, List.append_nil, Option.some.injEq, V.int.injEq, V.ref.injEq, V.str.injEq, V.bl.injEq, HO.lst.injEq, HO.tup.injEq, exists_eq_left', exists_and_left, exists_eq_left, List.cons.injEq, and_true, true_and, and_false, false_and, and_self, reduceCtorEq, exists_false, or_false, false_or, exists_const, at0, at1, at2, at3, at4, at5, ix51, ix52, ix54, upd_same, Nat.reduceAdd, Nat.reduceSub, Nat.zero_add, Int.reduceToNat, Int.reduceLE, Int.reduceLT, decide_eq_true_eq, Bool.not_eq_true, if_true, if_false, Bool.false_eq_true, ite_true, ite_false, Bool.not_true, Bool.not_false, decide_true, decide_false, tFor_eq, tLc_eq, iList, iTup, iRng1, iRng2, iStr, tSl, tPart, tNoPart, rSlL, cxOf_K, wipe, ex_ty2, kit_LTl, kit_LTt, kit_LTd, kit_LTs, kit_LTn, kit_LTb, kit_LTi, tM1, rIxS, exists_eq', lt1p, tDNewK, rSlS, rEqNil, nox_K]
      rw [hpl, List.take_length] at sh
      refine k H2 f zs qs (hp2.mono (by omega)) nf o2 hf2 rz (sh.drw de)
end



/-! ### k57: _law_right -/
theorem DrwE.gp {ps : List Pt} (d : DrwE ps) : Gp ps := gp_of d.ok d.asc
theorem holds_common {ps qs : List Pt} {q : Rat} : holdsV (commonP ps qs) q = (holdsV ps q && holdsV qs q) := by
  unfold holdsV
  rw [common_any]
  cases decide (0 < q) <;> simp
theorem holds_join {ps qs : List Pt} {q : Rat} (hp : Gp ps) (hq : Gp qs) : holdsV (joinP ps qs) q = (holdsV ps q || holdsV qs q) := by
  unfold holdsV
  rw [(join_good hp hq).2]
  cases decide (0 < q) <;> simp
def spRight (C : Addr) : Sp := fun vs H Q _ => ∃ a b xs ys ps qs, vs = [.ref a, .ref b] ∧ H a = some (.lst xs) ∧ H b = some (.lst ys) ∧ RPs C H xs 820 ps ∧ RPs C H ys 820 qs ∧ DrwE ps ∧ DrwE qs ∧ ∀ H', Same H H' → Q (.bl true) H'
def LRt (a b g h u v : Addr) (H0 : Hp) (i : Nat) (σ : St) (H : Hp) : Prop := ∃ v6 v7 v8 : Option V, σ = [some (.ref a), some (.ref b), some (.ref g), some (.ref h), some (.ref u), some (.ref v), v6, v7, v8] ∧ Same H0 H
section
variable {P : Program} {w : World} {K : PySem.W.Frag} {mg : Str → Option Value} {base : Heap} {A : Adr}
theorem ok_right (T : Txt K mg A) (gRatioEq : FnOk P w K mg base CX0 5 A.a_RatioEq A.d_RatioEq ["self", "other"] (spCmpA A.k_Ratio (fun p q => decide (p = q)) false)) (gRangesParts : FnOk P w K mg base CX0 1 A.a_RangesParts A.d_RangesParts ["self"] (spParts A.k_Ranges)) (gRangesInit : FnOk P w K mg base CX0 7 A.a_RangesInit A.d_RangesInit ["self", "parts"] (spRg K A.k_Ranges A.k_Ratio)) (gRangesEq : FnOk P w K mg base CX0 10 A.a_RangesEq A.d_RangesEq ["self", "other"] (spGEq A.k_Ranges A.k_Ratio))
    (gRangesContains : FnOk P w K mg base CX0 6 A.a_RangesContains A.d_RangesContains ["self", "number"] (spGIn A.k_Ranges A.k_Ratio)) (gRangesCommon : FnOk P w K mg base CX0 9 A.a_RangesCommon A.d_RangesCommon ["self", "other"] (spCommon A.k_Ranges A.k_Ratio)) (gRangesJoined : FnOk P w K mg base CX0 9 A.a_RangesJoined A.d_RangesJoined ["self", "other"] (spJoined A.k_Ranges A.k_Ratio))
    (gLawHolds : FnOk P w K mg base CX0 6 A.a_LawHolds A.d_LawHolds ["_law_some", "_law_number"] (spHolds A.k_Ratio)) (gLawProbes : FnOk P w K mg base CX0 7 A.a_LawProbes A.d_LawProbes ["_law_some"] (spProbes A.k_Ratio)) (gLawApart : FnOk P w K mg base CX0 11 A.a_LawApart A.d_LawApart ["_law_ranges"] (spApart A.k_Ranges A.k_Ratio)) :
    FnOk P w K mg base CX0 13 A.a_LawRight A.d_LawRight ["_law_first", "_law_second"] (spRight A.k_Ratio) := by
  refine T.f_LawRight.ok scLawRight (fun vs H Q E h => ?_) (fun cdv A' outer s H vs Q E hr h => ?_)
  · obtain ⟨a, b, xs, ys, ps, qs, rfl, _⟩ := h
    rfl
  · obtain ⟨a, b, xs, ys, ps, qs, rfl, ha, hb, rp, rq, dp, dq, k⟩ := h
    refine ⟨_, (pss_cons (ps_par (i := 2) (j := 3) (by rfl) scLawRight.nd rfl rfl (by decide) rfl rfl (pa_cons (pe_make T.mk_Ranges gRangesInit (hr.mono (by decide)) (by rfl) T.k_Ranges T.b_RangesInit .nil pass0 (pa_cons (pv 0) pa_nil)) (pa_cons (pe_make T.mk_Ranges gRangesInit (hr.mono (by decide)) (by rfl) T.k_Ranges T.b_RangesInit .nil pass0 (pa_cons (pv 1) pa_nil)) pa_nil)) (by rfl))
      (pss_cons (ps_par (i := 4) (j := 5) (by rfl) scLawRight.nd rfl rfl (by decide) rfl rfl (pa_cons (pe_meth (pv 2) T.t_Ranges.cl T.h_RangesCommon gRangesCommon (hr.mono (by decide)) T.b_RangesCommon .nil pass0 (pa_cons (pv 3) pa_nil)) (pa_cons (pe_meth (pv 2) T.t_Ranges.cl T.h_RangesJoined gRangesJoined (hr.mono (by decide)) T.b_RangesJoined .nil pass0 (pa_cons (pv 3) pa_nil)) pa_nil)) (by rfl))
      (pss_cons (ps_if (PW.pt (pw_or (pt_not (pt_val (pe_callB call_isW (by rfl) T.z_isinstance (by decide +kernel) (pa_cons (pv 4) (pa_cons (pe_glob (v := .ref A.k_Ranges) (by rfl) T.k_Ranges rfl) pa_nil))))) (pw_or (pt_not (pt_val (pe_callB call_isW (by rfl) T.z_isinstance (by decide +kernel) (pa_cons (pv 5) (pa_cons (pe_glob (v := .ref A.k_Ranges) (by rfl) T.k_Ranges rfl) pa_nil))))) (pw_or (pt_not (pt_val (pe_call gLawApart (hr.mono (by decide)) (by rfl) T.m_LawApart T.f_LawApart.kp T.b_LawApart .nil pass0 (pa_cons (pv 4) pa_nil)))) (pw_or1 (pt_not (pt_val (pe_call gLawApart (hr.mono (by decide)) (by rfl) T.m_LawApart T.f_LawApart.kp T.b_LawApart .nil pass0 (pa_cons (pv 5) pa_nil))))))))) (pss_one (ps_ret pe_bl)) pss_nil)
      (pss_cons (ps_for PassesOwn.never rfl (pi_list (pe_call gLawProbes (hr.mono (by decide)) (by rfl) T.m_LawProbes T.f_LawProbes.kp T.b_LawProbes .nil pass0 (pa_cons (pe_op op_cat (pv 0) (pv 1)) pa_nil))) (pg_name (i := 6) scLawRight.nd rfl (Or.inl rfl)) (pss_cons (ps_par (i := 7) (j := 8) (by rfl) scLawRight.nd rfl rfl (by decide) rfl rfl (pa_cons (pe_call gLawHolds (hr.mono (by decide)) (by rfl) T.m_LawHolds T.f_LawHolds.kp T.b_LawHolds .nil pass0 (pa_cons (pv 0) (pa_cons (pv 6) pa_nil))) (pa_cons (pe_call gLawHolds (hr.mono (by decide)) (by rfl) T.m_LawHolds T.f_LawHolds.kp T.b_LawHolds .nil pass0 (pa_cons (pv 1) (pa_cons (pv 6) pa_nil))) pa_nil)) (by rfl))
      (pss_one (ps_if (PW.pt (pw_or (pt_cmpR (op_ne) (pe_cmpR (op_inO T.o_RangesContains gRangesContains (hr.mono (by decide)) T.b_RangesContains pass0) (pv 6) (pv 4) (by rfl)) (pe_and (pv 7) (pe_one (pv 8))) (nomark _)) (pw_or1 (pt_cmpR (op_ne) (pe_cmpR (op_inO T.o_RangesContains gRangesContains (hr.mono (by decide)) T.b_RangesContains pass0) (pv 6) (pv 5) (by rfl)) (pe_or (pv 7) (pe_one (pv 8))) (nomark _))))) (pss_one (ps_ret pe_bl)) pss_nil))))
      (pss_cons (ps_if (PW.pt (pw_or (pt_cmpR (op_ownNe T.w_RangesEq gRangesEq (hr.mono (by decide)) T.b_RangesEq pass0) (pv 4) (pe_meth (pv 3) T.t_Ranges.cl T.h_RangesCommon gRangesCommon (hr.mono (by decide)) T.b_RangesCommon .nil pass0 (pa_cons (pv 2) pa_nil)) (nomark _)) (pw_or1 (pt_cmpR (op_ownNe T.w_RangesEq gRangesEq (hr.mono (by decide)) T.b_RangesEq pass0) (pv 5) (pe_meth (pv 3) T.t_Ranges.cl T.h_RangesJoined gRangesJoined (hr.mono (by decide)) T.b_RangesJoined .nil pass0 (pa_cons (pv 2) pa_nil)) (nomark _))))) (pss_one (ps_ret pe_bl)) pss_nil)
      (pss_one (ps_ret (pe_and (pe_cmpR (op_eqN (n := 3) (rc_own T.o_RatioEq gRatioEq T.b_RatioEq pass0) (hr.mono (by decide))) (pe_callTy call_list_of (by rfl) T.z_list (by decide +kernel) (pa_cons (pe_prop (pv 2) T.t_Ranges.cl T.h_RangesParts gRangesParts (hr.mono (by decide)) T.b_RangesParts .nil pass0 (by rfl)) pa_nil)) (pv 0) (nomark _)) (pe_one (pe_cmpR (op_eqN (n := 3) (rc_own T.o_RatioEq gRatioEq T.b_RatioEq pass0) (hr.mono (by decide))) (pe_callTy call_list_of (by rfl) T.z_list (by decide +kernel) (pa_cons (pe_prop (pv 3) T.t_Ranges.cl T.h_RangesParts gRangesParts (hr.mono (by decide)) T.b_RangesParts .nil pass0 (by rfl)) pa_nil)) (pv 1) (nomark _))))))))))), ?_⟩
    have nf : NFs K A.k_Ratio := ⟨T.w_Ratio_int, T.w_Ratio_NoneType⟩
    have gp := dp.gp
    have gq := dq.gp
    have xl := rp.len
    have yl := rq.len
    have pl := dp.l4
    have ql := dq.l4
    have inj : ∀ {H0 : Hp} {h : Addr} {m : Nat} {rs : List Pt}, RgAt A.k_Ranges A.k_Ratio H0 h m rs → ∃ dz kz zz, H0 h = some (.ins A.k_Ranges dz (gF kz)) ∧ H0 kz = some (.lst zz) ∧ RPs A.k_Ratio H0 zz m rs := fun h => h.ex
    refine seq_gen fun N eN => ?_
    try simp only [tSeq, tNext, tRet, tRetN, tAsg, gName, gSub, tDrop, tIfS, tOp, tUn, tCB, tCons, tNil, tC, tVar, rI, rI0, rU, tAnd, tOr, tNot, tAndV, tOrV, tNotV, tIf, tTest, tB, tCall, tChain, tLst, tTup, tYes, rIxH, rIsB, rIsBT, rMulS, kd_non, kd_bl, kd_int, kd_str, kd_ref, kdO_lst, kdO_tup, kdO_dK, nq_n, nq_b, nq_i, nq_s, nq_l, nq_t, nq_d, ne_eq, not_false_eq_true, kit_ss, kit_ns, kit_bs, kit_is, kit_ls, kit_ts, kit_ds, kit_bb, V.ty.injEq, and_assoc, rIxU, rLenH, rLenU, rLenS, rInt1, rSetL, rEq, rNe, rCat, L2.start, List.map, List.length, List.length_cons, List.length_nil, List.replicate, List.getElem?_cons_zero, List.getElem?_cons_succ, List.set_cons_zero, List.set_cons_succ, List.set_nil, List.cons_append, List.nil_append, List.append_nil, Option.some.injEq, V.int.injEq, V.ref.injEq, V.str.injEq, V.bl.injEq, HO.lst.injEq, HO.tup.injEq, exists_eq_left', exists_and_left, exists_eq_left, List.cons.injEq, and_true, true_and, and_false, false_and, and_self, reduceCtorEq, exists_false, or_false, false_or, exists_const, at0, at1, at2, at3, at4, at5, ix51, ix52, ix54, upd_same, Nat.reduceAdd, Nat.reduceSub, Nat.zero_add, Int.reduceToNat, Int.reduceLE, Int.reduceLT, decide_eq_true_eq, Bool.not_eq_true, if_true, if_false, Bool.false_eq_true, ite_true, ite_false, Bool.not_true, Bool.not_false, decide_true, decide_false, tFor_eq, tLc_eq, iList, iTup, iRng1, iRng2, iStr, tSl, tPart, tNoPart, rSlL, cxOf_K, wipe, ex_ty2, kit_LTl, kit_LTt, kit_LTd, kit_LTs, kit_LTn, kit_LTb, kit_LTi, tM1, rIxS, exists_eq', lt1p, tDNewK, rSlS, rEqNil, nox_K, tPar, tMake_eq]
    refine rg_yes (b := a) (xs := xs) (n := 820) (ps := ps) rfl (.inl ha) rp.num dp.ok dp.asc (by decide) (by omega) fun H1 g d1 k1 z1 s1 _ _ hg1 hk1 rz1 => ?_
    have rg1 : RgAt A.k_Ranges A.k_Ratio H1 g 820 ps := ⟨⟨d1, k1, z1, hg1, hk1, rz1⟩, by omega, by decide⟩
    refine rg_yes (b := b) (xs := ys) (n := 820) (ps := qs) rfl (.inl (s1 _ _ hb)) (rq.same s1).num dq.ok dq.asc (by decide) (by omega) fun H2 h d2 k2 z2 s2 _ _ hg2 hk2 rz2 => ?_
    have rh2 : RgAt A.k_Ranges A.k_Ratio H2 h 820 qs := ⟨⟨d2, k2, z2, hg2, hk2, rz2⟩, by omega, by decide⟩
    have rg2 := rg1.same s2
    have s02 := s1.trans s2
    clear hg1 hk1 rz1 hg2 hk2 rz2 rg1
    try simp only [tSeq, tNext, tRet, tRetN, tAsg, gName, gSub, tDrop, tIfS, tOp, tUn, tCB, tCons, tNil, tC, tVar, rI, rI0, rU, tAnd, tOr, tNot, tAndV, tOrV, tNotV, tIf, tTest, tB, tCall, tChain, tLst, tTup, tYes, rIxH, rIsB, rIsBT, rMulS, kd_non, kd_bl, kd_int, kd_str, kd_ref, kdO_lst, kdO_tup, kdO_dK, nq_n, nq_b, nq_i, nq_s, nq_l, nq_t, nq_d, ne_eq, not_false_eq_true, kit_ss, kit_ns, kit_bs, kit_is, kit_ls, kit_ts, kit_ds, kit_bb, V.ty.injEq, and_assoc, rIxU, rLenH, rLenU, rLenS, rInt1, rSetL, rEq, rNe, rCat, L2.start, List.map, List.length, List.length_cons, List.length_nil, List.replicate, List.getElem?_cons_zero, List.getElem?_cons_succ, List.set_cons_zero, List.set_cons_succ, List.set_nil, List.cons_append, List.nil_append, List.append_nil, Option.some.injEq, V.int.injEq, V.ref.injEq, V.str.injEq, V.bl.injEq, HO.lst.injEq, HO.tup.injEq, exists_eq_left', exists_and_left, exists_eq_left, List.cons.injEq, and_true, true_and, and_false, false_and, and_self, reduceCtorEq, exists_false, or_false, false_or, exists_const, at0, at1, at2, at3, at4, at5, ix51, ix52, ix54, upd_same, Nat.reduceAdd, Nat.reduceSub, Nat.zero_add, Int.reduceToNat, Int.reduceLE, Int.reduceLT, decide_eq_true_eq, Bool.not_eq_true, if_true, if_false, Bool.false_eq_true, ite_true, ite_false, Bool.not_true, Bool.not_false, decide_true, decide_false, tFor_eq, tLc_eq, iList, iTup, iRng1, iRng2, iStr, tSl, tPart, tNoPart, rSlL, cxOf_K, wipe, ex_ty2, kit_LTl, kit_LTt, kit_LTd, kit_LTs, kit_LTn, kit_LTb, kit_LTi, tM1, rIxS, exists_eq', lt1p, tDNewK, rSlS, rEqNil, nox_K, tPar, tMake_eq]
    (try dsimp only); rw [eN]; clear eN N
    refine seq_gen fun N eN => ?_
    try simp only [tSeq, tNext, tRet, tRetN, tAsg, gName, gSub, tDrop, tIfS, tOp, tUn, tCB, tCons, tNil, tC, tVar, rI, rI0, rU, tAnd, tOr, tNot, tAndV, tOrV, tNotV, tIf, tTest, tB, tCall, tChain, tLst, tTup, tYes, rIxH, rIsB, rIsBT, rMulS, kd_non, kd_bl, kd_int, kd_str, kd_ref, kdO_lst, kdO_tup, kdO_dK, nq_n, nq_b, nq_i, nq_s, nq_l, nq_t, nq_d, ne_eq, not_false_eq_true, kit_ss, kit_ns, kit_bs, kit_is, kit_ls, kit_ts, kit_ds, kit_bb, V.ty.injEq, and_assoc, rIxU, rLenH, rLenU, rLenS, rInt1, rSetL, rEq, rNe, rCat, L2.start, List.map, List.length, List.length_cons, List.length_nil, List.replicate, List.getElem?_cons_zero, List.getElem?_cons_succ, List.set_cons_zero, List.set_cons_succ, List.set_nil, List.cons_append, List.nil_append, List.append_nil, Option.some.injEq, V.int.injEq, V.ref.injEq, V.str.injEq, V.bl.injEq, HO.lst.injEq, HO.tup.injEq, exists_eq_left', exists_and_left, exists_eq_left, List.cons.injEq, and_true, true_and, and_false, false_and, and_self, reduceCtorEq, exists_false, or_false, false_or, exists_const, at0, at1, at2, at3, at4, at5, ix51, ix52, ix54, upd_same, Nat.reduceAdd, Nat.reduceSub, Nat.zero_add, Int.reduceToNat, Int.reduceLE, Int.reduceLT, decide_eq_true_eq, Bool.not_eq_true, if_true, if_false, Bool.false_eq_true, ite_true, ite_false, Bool.not_true, Bool.not_false, decide_true, decide_false, tFor_eq, tLc_eq, iList, iTup, iRng1, iRng2, iStr, tSl, tPart, tNoPart, rSlL, cxOf_K, wipe, ex_ty2, kit_LTl, kit_LTt, kit_LTd, kit_LTs, kit_LTn, kit_LTb, kit_LTi, tM1, rIxS, exists_eq', lt1p, tDNewK, rSlS, rEqNil, nox_K, tPar, tMeth]
    have lk1 : ∀ {k : Addr}, (gF k).lookup ("common" : Str) = none := fun {k} => gf_no (by decide +kernel)
    have lk2 : ∀ {k : Addr}, (gF k).lookup ("joined" : Str) = none := fun {k} => gf_no (by decide +kernel)
    obtain ⟨e1, e2, e3, e4, _, _⟩ := inj rg2
    refine ⟨e1, _, e4, lk1, g, h, 820, ps, qs, rfl, rg2, rh2, gp, gq, by omega, by omega, fun H3 u s3 nu ru => ?_⟩
    have rg3 := rg2.same s3
    have rh3 := rh2.same s3
    refine ⟨e1, _, s3 _ _ e4, lk2, g, h, 820, ps, qs, rfl, rg3, rh3, gp, gq, by omega, by omega, fun H4 v s4 nv rv => ?_⟩
    have ru4 := ru.same s4
    have s24 := s3.trans s4
    have s04 := s02.trans s24
    have rg4 := rg2.same s24
    have rh4 := rh2.same s24
    clear rg2 rh2 rg3 rh3 ru
    (try dsimp only); rw [eN]; clear eN N
    refine seq_gen fun N eN => ?_
    obtain ⟨du, ku, zu, u1, _, _⟩ := inj ru4
    obtain ⟨dv, kv, zv, v1, _, _⟩ := inj rv
    have e1 : PySem.W.kitOne K (.ref A.k_Ranges) (.ref A.k_Ranges) = some true := kit_self
    have eu : tyV H4 (.ref u) = some (.ref A.k_Ranges) := by rw [tyV_ref, u1]; rfl
    have ev : tyV H4 (.ref v) = some (.ref A.k_Ranges) := by rw [tyV_ref, v1]; rfl
    have gc := common_good gp gq
    have gj := (join_good gp gq).1
    try simp only [tSeq, tNext, tRet, tRetN, tAsg, gName, gSub, tDrop, tIfS, tOp, tUn, tCB, tCons, tNil, tC, tVar, rI, rI0, rU, tAnd, tOr, tNot, tAndV, tOrV, tNotV, tIf, tTest, tB, tCall, tChain, tLst, tTup, tYes, rIxH, rIsB, rIsBT, rMulS, kd_non, kd_bl, kd_int, kd_str, kd_ref, kdO_lst, kdO_tup, kdO_dK, nq_n, nq_b, nq_i, nq_s, nq_l, nq_t, nq_d, ne_eq, not_false_eq_true, kit_ss, kit_ns, kit_bs, kit_is, kit_ls, kit_ts, kit_ds, kit_bb, V.ty.injEq, and_assoc, rIxU, rLenH, rLenU, rLenS, rInt1, rSetL, rEq, rNe, rCat, L2.start, List.map, List.length, List.length_cons, List.length_nil, List.replicate, List.getElem?_cons_zero, List.getElem?_cons_succ, List.set_cons_zero, List.set_cons_succ, List.set_nil, List.cons_append, List.nil_append, List.append_nil, Option.some.injEq, V.int.injEq, V.ref.injEq, V.str.injEq, V.bl.injEq, HO.lst.injEq, HO.tup.injEq, exists_eq_left', exists_and_left, exists_eq_left, List.cons.injEq, and_true, true_and, and_false, false_and, and_self, reduceCtorEq, exists_false, or_false, false_or, exists_const, at0, at1, at2, at3, at4, at5, ix51, ix52, ix54, upd_same, Nat.reduceAdd, Nat.reduceSub, Nat.zero_add, Int.reduceToNat, Int.reduceLE, Int.reduceLT, decide_eq_true_eq, Bool.not_eq_true, if_true, if_false, Bool.false_eq_true, ite_true, ite_false, Bool.not_true, Bool.not_false, decide_true, decide_false, tFor_eq, tLc_eq, iList, iTup, iRng1, iRng2, iStr, tSl, tPart, tNoPart, rSlL, cxOf_K, wipe, ex_ty2, kit_LTl, kit_LTt, kit_LTd, kit_LTs, kit_LTn, kit_LTb, kit_LTi, tM1, rIxS, exists_eq', lt1p, tDNewK, rSlS, rEqNil, nox_K, rIsW, clsV_ty, clsV_ref, eu, ev, e1, Value.ref.injEq, forall_eq', T.t_Ranges, implies_true, forall_const]
    refine ⟨u, 820, _, rfl, ru4, gc, fun H5 s5 => ⟨true, rfl, ?_⟩⟩
    rw [if_neg (by decide)]
    refine ⟨v, 820, _, rfl, rv.same s5, gj, fun H6 s6 => ⟨true, rfl, ?_⟩⟩
    rw [if_neg (by decide)]
    have s46 := s5.trans s6
    have s06 := s04.trans s46
    have ha6 := s06 _ _ ha
    have hb6 := s06 _ _ hb
    rw [eN]
    clear eN N
    refine seq_gen fun N eN => ?_
    try simp only [tSeq, tNext, tRet, tRetN, tAsg, gName, gSub, tDrop, tIfS, tOp, tUn, tCB, tCons, tNil, tC, tVar, rI, rI0, rU, tAnd, tOr, tNot, tAndV, tOrV, tNotV, tIf, tTest, tB, tCall, tChain, tLst, tTup, tYes, rIxH, rIsB, rIsBT, rMulS, kd_non, kd_bl, kd_int, kd_str, kd_ref, kdO_lst, kdO_tup, kdO_dK, nq_n, nq_b, nq_i, nq_s, nq_l, nq_t, nq_d, ne_eq, not_false_eq_true, kit_ss, kit_ns, kit_bs, kit_is, kit_ls, kit_ts, kit_ds, kit_bb, V.ty.injEq, and_assoc, rIxU, rLenH, rLenU, rLenS, rInt1, rSetL, rEq, rNe, rCat, L2.start, List.map, List.length, List.length_cons, List.length_nil, List.replicate, List.getElem?_cons_zero, List.getElem?_cons_succ, List.set_cons_zero, List.set_cons_succ, List.set_nil, List.cons_append, List.nil_append, List.append_nil, Option.some.injEq, V.int.injEq, V.ref.injEq, V.str.injEq, V.bl.injEq, HO.lst.injEq, HO.tup.injEq, exists_eq_left', exists_and_left, exists_eq_left, List.cons.injEq, and_true, true_and, and_false, false_and, and_self, reduceCtorEq, exists_false, or_false, false_or, exists_const, at0, at1, at2, at3, at4, at5, ix51, ix52, ix54, upd_same, Nat.reduceAdd, Nat.reduceSub, Nat.zero_add, Int.reduceToNat, Int.reduceLE, Int.reduceLT, decide_eq_true_eq, Bool.not_eq_true, if_true, if_false, Bool.false_eq_true, ite_true, ite_false, Bool.not_true, Bool.not_false, decide_true, decide_false, tFor_eq, tLc_eq, iList, iTup, iRng1, iRng2, iStr, tSl, tPart, tNoPart, rSlL, cxOf_K, wipe, ex_ty2, kit_LTl, kit_LTt, kit_LTd, kit_LTs, kit_LTn, kit_LTb, kit_LTi, tM1, rIxS, exists_eq', lt1p, tDNewK, rSlS, rEqNil, nox_K]
    refine ⟨xs, ha6, ys, hb6, Nat.le_of_lt (Nat.lt_of_le_of_lt (m := 1000) (by omega) (by decide)), ?_⟩
    intro pc n_pc; generalize g_H7 : upd H6 pc _ = H7; obtain ⟨s_H7, h_pc⟩ := new_facts n_pc g_H7; clear g_H7
    have s07 := s06.trans s_H7
    refine ⟨pc, _, 820, ps ++ qs, rfl, h_pc, (rp.same s07).app (rq.same s07), by decide, by rw [List.length_append]; omega, fun H8 fp prs s8 hf8 al8 prl => ?_⟩
    have s08 := s07.trans s8
    have s48 := (s46.trans s_H7).trans s8
    refine ⟨fp, rfl, ⟨_, SqL.of hf8⟩, ?_⟩
    refine for_go (walk_list (K := K) (a := fp) (xs := prs)) (LRt a b g h u v H8) ⟨_, _, _, rfl, Same.refl _⟩ (fun i σ H2 _ z => by obtain ⟨_, _, _, _, s2⟩ := z; exact SqL.of (s2 _ _ hf8)) (fun i x σ H9 hx z => ?_) (fun σ H9 z => ?_)
    · obtain ⟨v6, v7, v8, rfl, s9⟩ := z
      obtain ⟨q, hq⟩ := al8 x (List.mem_of_getElem? hx)
      have hq9 := hq.same s9
      have s09 := s08.trans s9
      have s49 := s48.trans s9
      refine seq_gen fun N2 eN2 => ?_
      try simp only [tSeq, tNext, tRet, tRetN, tAsg, gName, gSub, tDrop, tIfS, tOp, tUn, tCB, tCons, tNil, tC, tVar, rI, rI0, rU, tAnd, tOr, tNot, tAndV, tOrV, tNotV, tIf, tTest, tB, tCall, tChain, tLst, tTup, tYes, rIxH, rIsB, rIsBT, rMulS, kd_non, kd_bl, kd_int, kd_str, kd_ref, kdO_lst, kdO_tup, kdO_dK, nq_n, nq_b, nq_i, nq_s, nq_l, nq_t, nq_d, ne_eq, not_false_eq_true, kit_ss, kit_ns, kit_bs, kit_is, kit_ls, kit_ts, kit_ds, kit_bb, V.ty.injEq, and_assoc, rIxU, rLenH, rLenU, rLenS, rInt1, rSetL, rEq, rNe, rCat, L2.start, List.map, List.length, List.length_cons, List.length_nil, List.replicate, List.getElem?_cons_zero, List.getElem?_cons_succ, List.set_cons_zero, List.set_cons_succ, List.set_nil, List.cons_append, List.nil_append, List.append_nil, Option.some.injEq, V.int.injEq, V.ref.injEq, V.str.injEq, V.bl.injEq, HO.lst.injEq, HO.tup.injEq, exists_eq_left', exists_and_left, exists_eq_left, List.cons.injEq, and_true, true_and, and_false, false_and, and_self, reduceCtorEq, exists_false, or_false, false_or, exists_const, at0, at1, at2, at3, at4, at5, ix51, ix52, ix54, upd_same, Nat.reduceAdd, Nat.reduceSub, Nat.zero_add, Int.reduceToNat, Int.reduceLE, Int.reduceLT, decide_eq_true_eq, Bool.not_eq_true, if_true, if_false, Bool.false_eq_true, ite_true, ite_false, Bool.not_true, Bool.not_false, decide_true, decide_false, tFor_eq, tLc_eq, iList, iTup, iRng1, iRng2, iStr, tSl, tPart, tNoPart, rSlL, cxOf_K, wipe, ex_ty2, kit_LTl, kit_LTt, kit_LTd, kit_LTs, kit_LTn, kit_LTb, kit_LTi, tM1, rIxS, exists_eq', lt1p, tDNewK, rSlS, rEqNil, nox_K, tPar]
      refine ⟨a, xs, 820, ps, x, q, 1700, rfl, s09 _ _ ha, rp.same s09, hq9, by decide, by decide, fun H10 s10 => ?_⟩
      try dsimp only
      refine ⟨b, ys, 820, qs, x, q, 1700, rfl, (s09.trans s10) _ _ hb, rq.same (s09.trans s10), hq9.same s10, by decide, by decide, fun H11 s11 => ?_⟩
      try simp only [tSeq, tNext, tRet, tRetN, tAsg, gName, gSub, tDrop, tIfS, tOp, tUn, tCB, tCons, tNil, tC, tVar, rI, rI0, rU, tAnd, tOr, tNot, tAndV, tOrV, tNotV, tIf, tTest, tB, tCall, tChain, tLst, tTup, tYes, rIxH, rIsB, rIsBT, rMulS, kd_non, kd_bl, kd_int, kd_str, kd_ref, kdO_lst, kdO_tup, kdO_dK, nq_n, nq_b, nq_i, nq_s, nq_l, nq_t, nq_d, ne_eq, not_false_eq_true, kit_ss, kit_ns, kit_bs, kit_is, kit_ls, kit_ts, kit_ds, kit_bb, V.ty.injEq, and_assoc, rIxU, rLenH, rLenU, rLenS, rInt1, rSetL, rEq, rNe, rCat, L2.start, List.map, List.length, List.length_cons, List.length_nil, List.replicate, List.getElem?_cons_zero, List.getElem?_cons_succ, List.set_cons_zero, List.set_cons_succ, List.set_nil, List.cons_append, List.nil_append, List.append_nil, Option.some.injEq, V.int.injEq, V.ref.injEq, V.str.injEq, V.bl.injEq, HO.lst.injEq, HO.tup.injEq, exists_eq_left', exists_and_left, exists_eq_left, List.cons.injEq, and_true, true_and, and_false, false_and, and_self, reduceCtorEq, exists_false, or_false, false_or, exists_const, at0, at1, at2, at3, at4, at5, ix51, ix52, ix54, upd_same, Nat.reduceAdd, Nat.reduceSub, Nat.zero_add, Int.reduceToNat, Int.reduceLE, Int.reduceLT, decide_eq_true_eq, Bool.not_eq_true, if_true, if_false, Bool.false_eq_true, ite_true, ite_false, Bool.not_true, Bool.not_false, decide_true, decide_false, tFor_eq, tLc_eq, iList, iTup, iRng1, iRng2, iStr, tSl, tPart, tNoPart, rSlL, cxOf_K, wipe, ex_ty2, kit_LTl, kit_LTt, kit_LTd, kit_LTs, kit_LTn, kit_LTb, kit_LTi, tM1, rIxS, exists_eq', lt1p, tDNewK, rSlS, rEqNil, nox_K, tPar]
      first | rw [eN2] | (dsimp only; rw [eN2])
      clear eN2 N2
      have s911 := s10.trans s11
      have ru11 := ru4.same (s49.trans s911)
      have rv11 := rv.same (s49.trans s911)
      try simp only [tSeq, tNext, tRet, tRetN, tAsg, gName, gSub, tDrop, tIfS, tOp, tUn, tCB, tCons, tNil, tC, tVar, rI, rI0, rU, tAnd, tOr, tNot, tAndV, tOrV, tNotV, tIf, tTest, tB, tCall, tChain, tLst, tTup, tYes, rIxH, rIsB, rIsBT, rMulS, kd_non, kd_bl, kd_int, kd_str, kd_ref, kdO_lst, kdO_tup, kdO_dK, nq_n, nq_b, nq_i, nq_s, nq_l, nq_t, nq_d, ne_eq, not_false_eq_true, kit_ss, kit_ns, kit_bs, kit_is, kit_ls, kit_ts, kit_ds, kit_bb, V.ty.injEq, and_assoc, rIxU, rLenH, rLenU, rLenS, rInt1, rSetL, rEq, rNe, rCat, L2.start, List.map, List.length, List.length_cons, List.length_nil, List.replicate, List.getElem?_cons_zero, List.getElem?_cons_succ, List.set_cons_zero, List.set_cons_succ, List.set_nil, List.cons_append, List.nil_append, List.append_nil, Option.some.injEq, V.int.injEq, V.ref.injEq, V.str.injEq, V.bl.injEq, HO.lst.injEq, HO.tup.injEq, exists_eq_left', exists_and_left, exists_eq_left, List.cons.injEq, and_true, true_and, and_false, false_and, and_self, reduceCtorEq, exists_false, or_false, false_or, exists_const, at0, at1, at2, at3, at4, at5, ix51, ix52, ix54, upd_same, Nat.reduceAdd, Nat.reduceSub, Nat.zero_add, Int.reduceToNat, Int.reduceLE, Int.reduceLT, decide_eq_true_eq, Bool.not_eq_true, if_true, if_false, Bool.false_eq_true, ite_true, ite_false, Bool.not_true, Bool.not_false, decide_true, decide_false, tFor_eq, tLc_eq, iList, iTup, iRng1, iRng2, iStr, tSl, tPart, tNoPart, rSlL, cxOf_K, wipe, ex_ty2, kit_LTl, kit_LTt, kit_LTd, kit_LTs, kit_LTn, kit_LTb, kit_LTi, tM1, rIxS, exists_eq', lt1p, tDNewK, rSlS, rEqNil, nox_K]
      have ec := holds_common (ps := ps) (qs := qs) (q := q)
      have ej := holds_join gp gq (q := q)
      obtain ⟨du, ku, zu, u1, _, _⟩ := inj ru11
      refine ⟨u, du, _, rfl, u1, u, 820, _, x, q, 1700, rfl, ru11, .inl (hq9.same s911), by decide, fun H12 s12 => ?_⟩
      have rv12 := rv11.same s12
      obtain ⟨dv, kv, zv, v1, _, _⟩ := inj rv12
      have hq12 := hq9.same (s911.trans s12)
      have s812 := (s9.trans s911).trans s12
      simp only [id]
      rw [ec]
      generalize holdsV ps q = b1 at *
      generalize holdsV qs q = b2 at *
      cases b1 <;> cases b2 <;> refine ⟨_, rfl, ?_⟩ <;> (first | rw [if_pos rfl] | rw [if_pos trivial] | rw [if_neg (by decide)]) <;> refine ⟨scal_bl, ?_⟩ <;> rw [if_neg (by simp)] <;>
        refine ⟨v, dv, _, rfl, v1, v, 820, _, x, q, 1700, rfl, rv12, .inl hq12, by decide, fun H13 s13 => ?_⟩ <;> simp only [id] <;> rw [ej] <;> refine ⟨_, rfl, ?_⟩ <;> (first | rw [if_pos rfl] | rw [if_pos trivial] | rw [if_neg (by decide)]) <;> refine ⟨scal_bl, ?_⟩ <;> rw [if_neg (by simp)] <;>
        exact ⟨_, _, _, rfl, s812.trans s13⟩
    · obtain ⟨v6, v7, v8, rfl, s9⟩ := z
      (try dsimp only); rw [eN]; clear eN N
      refine seq_gen fun N eN => ?_
      have s09 := s08.trans s9
      have s49 := s48.trans s9
      have ru9 := ru4.same s49
      have rv9 := rv.same s49
      have rg9 := rg4.same s49
      have rh9 := rh4.same s49
      try simp only [tSeq, tNext, tRet, tRetN, tAsg, gName, gSub, tDrop, tIfS, tOp, tUn, tCB, tCons, tNil, tC, tVar, rI, rI0, rU, tAnd, tOr, tNot, tAndV, tOrV, tNotV, tIf, tTest, tB, tCall, tChain, tLst, tTup, tYes, rIxH, rIsB, rIsBT, rMulS, kd_non, kd_bl, kd_int, kd_str, kd_ref, kdO_lst, kdO_tup, kdO_dK, nq_n, nq_b, nq_i, nq_s, nq_l, nq_t, nq_d, ne_eq, not_false_eq_true, kit_ss, kit_ns, kit_bs, kit_is, kit_ls, kit_ts, kit_ds, kit_bb, V.ty.injEq, and_assoc, rIxU, rLenH, rLenU, rLenS, rInt1, rSetL, rEq, rNe, rCat, L2.start, List.map, List.length, List.length_cons, List.length_nil, List.replicate, List.getElem?_cons_zero, List.getElem?_cons_succ, List.set_cons_zero, List.set_cons_succ, List.set_nil, List.cons_append, List.nil_append, List.append_nil, Option.some.injEq, V.int.injEq, V.ref.injEq, V.str.injEq, V.bl.injEq, HO.lst.injEq, HO.tup.injEq, exists_eq_left', exists_and_left, exists_eq_left, List.cons.injEq, and_true, true_and, and_false, false_and, and_self, reduceCtorEq, exists_false, or_false, false_or, exists_const, at0, at1, at2, at3, at4, at5, ix51, ix52, ix54, upd_same, Nat.reduceAdd, Nat.reduceSub, Nat.zero_add, Int.reduceToNat, Int.reduceLE, Int.reduceLT, decide_eq_true_eq, Bool.not_eq_true, if_true, if_false, Bool.false_eq_true, ite_true, ite_false, Bool.not_true, Bool.not_false, decide_true, decide_false, tFor_eq, tLc_eq, iList, iTup, iRng1, iRng2, iStr, tSl, tPart, tNoPart, rSlL, cxOf_K, wipe, ex_ty2, kit_LTl, kit_LTt, kit_LTd, kit_LTs, kit_LTn, kit_LTb, kit_LTi, tM1, rIxS, exists_eq', lt1p, tDNewK, rSlS, rEqNil, nox_K, tMeth]
      obtain ⟨dh, kh, zh, h1, _, _⟩ := inj rh9
      refine ⟨dh, _, h1, lk1, h, g, 820, qs, ps, rfl, rh9, rg9, gq, gp, by omega, by omega, fun H10 u2 s10 nu2 ru2 => ?_⟩
      rw [← common_sym gp gq] at ru2
      have ru10 := ru9.same s10
      obtain ⟨du, ku, zu, u1, _, _⟩ := inj ru10
      obtain ⟨dw, kw, zw, w1, _, _⟩ := inj ru2
      refine ⟨u, du, _, u2, dw, _, rfl, rfl, u1, w1, u, 820, _, _, rfl, ru10, .inl ⟨u2, 820, _, rfl, ru2, CmpOk.refl, fun H11 s11 => ⟨_, rfl, _, rfl, ?_⟩⟩⟩
      rw [decide_eq_true rfl, if_neg (by decide)]
      have s911 := s10.trans s11
      have rh11 := rh9.same s911
      obtain ⟨dh, kh, zh, h1, _, _⟩ := inj rh11
      refine ⟨dh, _, h1, lk2, h, g, 820, qs, ps, rfl, rh11, rg9.same s911, gq, gp, by omega, by omega, fun H12 v2 s12 nv2 rv2 => ?_⟩
      rw [← join_sym gp gq] at rv2
      have rv12 := rv9.same (s911.trans s12)
      obtain ⟨dv, kv, zv, v1, _, _⟩ := inj rv12
      obtain ⟨dw, kw, zw, w1, _, _⟩ := inj rv2
      refine ⟨v, dv, _, v2, dw, _, rfl, rfl, v1, w1, v, 820, _, _, rfl, rv12, .inl ⟨v2, 820, _, rfl, rv2, CmpOk.refl, fun H13 s13 => ⟨_, rfl, _, rfl, ?_⟩⟩⟩
      rw [decide_eq_true rfl, if_neg (by decide)]
      rw [eN]
      clear eN N
      have s913 := (s911.trans s12).trans s13
      have s013 := s09.trans s913
      obtain ⟨dg, kg, zg, g1, g2, g3⟩ := inj (rg9.same s913)
      try simp only [tSeq, tNext, tRet, tRetN, tAsg, gName, gSub, tDrop, tIfS, tOp, tUn, tCB, tCons, tNil, tC, tVar, rI, rI0, rU, tAnd, tOr, tNot, tAndV, tOrV, tNotV, tIf, tTest, tB, tCall, tChain, tLst, tTup, tYes, rIxH, rIsB, rIsBT, rMulS, kd_non, kd_bl, kd_int, kd_str, kd_ref, kdO_lst, kdO_tup, kdO_dK, nq_n, nq_b, nq_i, nq_s, nq_l, nq_t, nq_d, ne_eq, not_false_eq_true, kit_ss, kit_ns, kit_bs, kit_is, kit_ls, kit_ts, kit_ds, kit_bb, V.ty.injEq, and_assoc, rIxU, rLenH, rLenU, rLenS, rInt1, rSetL, rEq, rNe, rCat, L2.start, List.map, List.length, List.length_cons, List.length_nil, List.replicate, List.getElem?_cons_zero, List.getElem?_cons_succ, List.set_cons_zero, List.set_cons_succ, List.set_nil, List.cons_append, List.nil_append, List.append_nil, Option.some.injEq, V.int.injEq, V.ref.injEq, V.str.injEq, V.bl.injEq, HO.lst.injEq, HO.tup.injEq, exists_eq_left', exists_and_left, exists_eq_left, List.cons.injEq, and_true, true_and, and_false, false_and, and_self, reduceCtorEq, exists_false, or_false, false_or, exists_const, at0, at1, at2, at3, at4, at5, ix51, ix52, ix54, upd_same, Nat.reduceAdd, Nat.reduceSub, Nat.zero_add, Int.reduceToNat, Int.reduceLE, Int.reduceLT, decide_eq_true_eq, Bool.not_eq_true, if_true, if_false, Bool.false_eq_true, ite_true, ite_false, Bool.not_true, Bool.not_false, decide_true, decide_false, tFor_eq, tLc_eq, iList, iTup, iRng1, iRng2, iStr, tSl, tPart, tNoPart, rSlL, cxOf_K, wipe, ex_ty2, kit_LTl, kit_LTt, kit_LTd, kit_LTs, kit_LTn, kit_LTb, kit_LTi, tM1, rIxS, exists_eq', lt1p, tDNewK, rSlS, rEqNil, nox_K, tProp, g1, HO.ins.injEq]
      refine ⟨g, dg, kg, zg, rfl, g1, g2, fun t nt => ?_⟩
      generalize g_H14 : upd H13 t _ = H14
      obtain ⟨s14, h_t⟩ := new_facts nt g_H14
      clear g_H14
      refine ⟨t, rfl, zg, .inr (SqT.of h_t), ?_⟩
      intro lz n_lz; generalize g_H15 : upd H14 lz _ = H15; obtain ⟨s_H15, h_lz⟩ := new_facts n_lz g_H15; clear g_H15
      have s1315 := s14.trans s_H15
      refine ⟨lz, a, rfl, rfl, lists_eq (k := 1) nf (by omega) h_lz ((s013.trans s1315) _ _ ha) (g3.same s1315) (rp.same (s013.trans s1315)).num CmpOk.refl fun H16 s16 => ?_⟩
      rw [decide_eq_true rfl]
      refine ⟨true, rfl, ?_⟩
      rw [if_pos rfl]
      have s1316 := s1315.trans s16
      obtain ⟨dh, kh, zh, h1, h2, h3⟩ := inj (rh9.same (s913.trans s1316))
      refine ⟨dh, _, h1, h, dh, kh, zh, rfl, h1, h2, fun t2 nt2 => ?_⟩
      generalize g_H17 : upd H16 t2 _ = H17
      obtain ⟨s17, h_t2⟩ := new_facts nt2 g_H17
      clear g_H17
      refine ⟨t2, rfl, zh, .inr (SqT.of h_t2), ?_⟩
      intro lw n_lw; generalize g_H18 : upd H17 lw _ = H18; obtain ⟨s_H18, h_lw⟩ := new_facts n_lw g_H18; clear g_H18
      have s1618 := s17.trans s_H18
      have s018 := (s013.trans s1316).trans s1618
      refine ⟨lw, b, rfl, rfl, lists_eq (k := 1) nf (by omega) h_lw (s018 _ _ hb) (h3.same s1618) (rq.same s018).num CmpOk.refl fun H19 s19 => ?_⟩
      rw [decide_eq_true rfl]
      exact k H19 (s018.trans s19)
end



/-! ### k57: the law -/
def spLaw (K : PySem.W.Frag) : Sp := fun vs H Q _ => ∃ (a : Addr) (ns : List Int), vs = [.ref a] ∧ SqL K H a (ns.map V.int) ∧ ns.length ≤ 63 ∧ ∀ H', Q (.bl true) H'
def LL57 (a p l : Addr) (i : Nat) (σ : St) (H : Hp) : Prop := ∃ (v2 v3 v4 v5 v6 : Option V) (c : Nat), σ = [some (.ref a), some (.ref p), v2, v3, v4, v5, v6] ∧ PoolAt p l c H ∧ c ≤ 100 * i
theorem RgAt.mono {CG C : Addr} {H : Hp} {g : Addr} {n m : Nat} {ps : List Pt} (h : RgAt CG C H g n ps) (l : n ≤ m) (m4 : m ≤ 4000) : RgAt CG C H g m ps := by
  obtain ⟨⟨dx, k, xs, h1, h2, h3⟩, l1, _⟩ := h
  exact ⟨⟨dx, k, xs, h1, h2, h3.mono l⟩, l1, m4⟩
theorem gp_one {p : Pt} (h : Okp p) : Gp [p] := ⟨fun q hq => by rw [List.mem_singleton.mp hq]; exact h, List.pairwise_singleton _ _⟩
theorem np_one {C : Addr} {H : Hp} {t : Addr} {x y : V} {n : Nat} {p : Pt} (ht : H t = some (.tup [x, y])) (hx : NumAt C H x p.1 n) (hy : match p.2 with | none => y = .non | some q => NumAt C H y q n) : NPs C H [.ref t] n [p] := ⟨rfl, fun i v q h1 h2 => by
  cases i with
  | zero => cases h1; cases h2; exact ⟨t, x, y, rfl, ht, hx, hy⟩
  | succ i => cases h1⟩
theorem gp_a : Gp [(0, some 1)] := gp_one ⟨Rat.le_refl, fun h e => by cases e; exact ⟨by decide, by decide⟩⟩
theorem gp_b : Gp [(1, none)] := gp_one ⟨by decide, fun h e => by cases e⟩
theorem gp_c : Gp [(1, some 1)] := gp_one ⟨by decide, fun h e => by cases e; exact ⟨by decide, Rat.le_refl⟩⟩
theorem com_ab : commonP [(0, some 1)] [(1, none)] = [(1, some 1)] := by decide +kernel
theorem join_ab : joinP [(0, some 1)] [(1, none)] = [(0, none)] := by decide +kernel
theorem ne_go {CG C : Addr} {E : XK} {H : Hp} {x y : Addr} {n m : Nat} {rs : List Pt} {Q : VK} (hx : RgAt CG C H x n rs) (hy : RgAt CG C H y m rs) (k : ∀ H', Same H H' → Q (.bl false) H') : rOwnNe CG (spGEq CG C) E (.ref x) (.ref y) H Q := by
  obtain ⟨du, ku, zu, u1, _, _⟩ := hx.ex
  obtain ⟨dw, kw, zw, w1, _, _⟩ := hy.ex
  refine ⟨x, du, _, y, dw, _, rfl, rfl, u1, w1, x, n, _, _, rfl, hx, .inl ⟨y, m, _, rfl, hy, CmpOk.refl, fun H11 s11 => ⟨_, rfl, ?_⟩⟩⟩
  rw [decide_eq_true rfl]
  exact k H11 s11
theorem eq_go {CG C : Addr} {E : XK} {H : Hp} {x y : Addr} {n m : Nat} {rs : List Pt} {Q : VK} (hx : RgAt CG C H x n rs) (hy : RgAt CG C H y m rs) (k : ∀ H', Same H H' → Q (.bl true) H') : rOwn CG (spGEq CG C) E (.ref x) (.ref y) H Q := by
  obtain ⟨du, ku, zu, u1, _, _⟩ := hx.ex
  obtain ⟨dw, kw, zw, w1, _, _⟩ := hy.ex
  refine ⟨x, du, _, rfl, u1, .inr ⟨y, dw, _, rfl, w1⟩, x, n, _, _, rfl, hx, .inl ⟨y, m, _, rfl, hy, CmpOk.refl, fun H11 s11 => ?_⟩⟩
  rw [decide_eq_true rfl]
  exact k H11 s11
theorem emp_go {K : PySem.W.Frag} {CG C b : Addr} {E : XK} {H : Hp} {Q : VK} (kt : KT0 K b) (k : ∀ H' g, Same H H' → H g = none → RgAt CG C H' g 820 [] → Q (.ref g) H') : mkGo CG (spRg K CG C) [.ref b] E [] H Q :=
  rg_yes (b := b) (xs := []) (n := 820) (ps := []) rfl (.inr (.inr ⟨kt, rfl⟩)) ⟨rfl, fun i v p h => by cases h⟩ (fun p h => by cases h) (fun i p q h => by cases h) (by decide) (by decide) fun H3 g dx kk zs s3 ng _ hg hk rz => k H3 g s3 ng ⟨⟨dx, kk, zs, hg, hk, rz⟩, by decide, by decide⟩
section
variable {P : Program} {w : World} {K : PySem.W.Frag} {mg : Str → Option Value} {base : Heap} {A : Adr}
theorem ok_law_of (T : Txt K mg A) (gLawPool : FnOk P w K mg base CX0 1 A.a_LawPool A.d_LawPool ["_law_script"] (spLawPool K)) (gLawDraw : FnOk P w K mg base CX0 2 A.a_LawDraw A.d_LawDraw ["_law_pool_here", "_law_many"] spLawDraw) (gLawRangesDrawn : FnOk P w K mg base CX0 6 A.a_LawRangesDrawn A.d_LawRangesDrawn ["_law_pool_here"] (spDrawn A.k_Ratio))
    (gRangesInit : FnOk P w K mg base CX0 7 A.a_RangesInit A.d_RangesInit ["self", "parts"] (spRg K A.k_Ranges A.k_Ratio)) (gRangesEq : FnOk P w K mg base CX0 10 A.a_RangesEq A.d_RangesEq ["self", "other"] (spGEq A.k_Ranges A.k_Ratio)) (gRangesWhole : FnOk P w K mg base CX0 9 A.a_RangesWhole A.d_RangesWhole ["cls"] (spWhole A.k_Ranges A.k_Ratio))
    (gRangesCommon : FnOk P w K mg base CX0 9 A.a_RangesCommon A.d_RangesCommon ["self", "other"] (spCommon A.k_Ranges A.k_Ratio)) (gRangesJoined : FnOk P w K mg base CX0 9 A.a_RangesJoined A.d_RangesJoined ["self", "other"] (spJoined A.k_Ranges A.k_Ratio))
    (gLawShifted : FnOk P w K mg base CX0 6 A.a_LawShifted A.d_LawShifted ["_law_pool_here", "_law_some"] (spShifted A.k_Ratio)) (gLawRight : FnOk P w K mg base CX0 13 A.a_LawRight A.d_LawRight ["_law_first", "_law_second"] (spRight A.k_Ratio)) :
    FnOk P w K mg base CX0 15 A.a_Law A.d_Law ["_law_script"] (spLaw K) := by
  refine T.f_Law.ok scLaw (fun vs H Q E h => ?_) (fun cdv A' outer s H vs Q E hr h => ?_)
  · obtain ⟨a, ns, rfl, _⟩ := h
    rfl
  · obtain ⟨a, ns, rfl, hS, hlen, k⟩ := h
    refine ⟨_, (pss_cons (ps_set (i := 1) scLaw.nd rfl (Or.inl rfl) (pe_call gLawPool (hr.mono (by decide)) (by rfl) T.m_LawPool T.f_LawPool.kp T.b_LawPool .nil pass0 (pa_cons (pv 0) pa_nil)))
      (pss_cons (ps_for PassesOwn.never rfl (pi_range1 (by rfl) T.z_range (pa_cons pe_int pa_nil)) (pg_name (i := 2) scLaw.nd rfl (Or.inl rfl)) (pss_cons (ps_par (i := 3) (j := 4) (by rfl) scLaw.nd rfl rfl (by decide) rfl rfl (pa_cons (pe_call gLawRangesDrawn (hr.mono (by decide)) (by rfl) T.m_LawRangesDrawn T.f_LawRangesDrawn.kp T.b_LawRangesDrawn .nil pass0 (pa_cons (pv 1) pa_nil)) (pa_cons (pe_call gLawRangesDrawn (hr.mono (by decide)) (by rfl) T.m_LawRangesDrawn T.f_LawRangesDrawn.kp T.b_LawRangesDrawn .nil pass0 (pa_cons (pv 1) pa_nil)) pa_nil)) (by rfl))
      (pss_cons (ps_if (pt_cmpR (op_eq) (pe_call gLawDraw (hr.mono (by decide)) (by rfl) T.m_LawDraw T.f_LawDraw.kp T.b_LawDraw .nil pass0 (pa_cons (pv 1) (pa_cons pe_int pa_nil))) pe_int (nomark _)) (pss_one (ps_set (i := 4) scLaw.nd rfl (Or.inl rfl) (pe_call gLawShifted (hr.mono (by decide)) (by rfl) T.m_LawShifted T.f_LawShifted.kp T.b_LawShifted .nil pass0 (pa_cons (pv 1) (pa_cons (pv 3) pa_nil))))) pss_nil)
      (pss_cons (ps_if (PW.pt (pw_or (pt_not (pt_val (pe_call gLawRight (hr.mono (by decide)) (by rfl) T.m_LawRight T.f_LawRight.kp T.b_LawRight .nil pass0 (pa_cons (pv 3) (pa_cons (pv 4) pa_nil))))) (pw_or1 (pt_not (pt_val (pe_call gLawRight (hr.mono (by decide)) (by rfl) T.m_LawRight T.f_LawRight.kp T.b_LawRight .nil pass0 (pa_cons (pv 3) (pa_cons (pv 3) pa_nil)))))))) (pss_one (ps_ret pe_bl)) pss_nil)
      (pss_cons (ps_set (i := 5) scLaw.nd rfl (Or.inl rfl) (pe_make T.mk_Ranges gRangesInit (hr.mono (by decide)) (by rfl) T.k_Ranges T.b_RangesInit .nil pass0 (pa_cons (pv 3) pa_nil)))
      (pss_cons (ps_if (PW.pt (pw_or (pt_cmpR (op_ownNe T.w_RangesEq gRangesEq (hr.mono (by decide)) T.b_RangesEq pass0) (pe_meth (pv 5) T.t_Ranges.cl T.h_RangesCommon gRangesCommon (hr.mono (by decide)) T.b_RangesCommon .nil pass0 (pa_cons (pe_cmeth0 (pe_glob (v := .ref A.k_Ranges) (by rfl) T.k_Ranges rfl) T.cr_Ranges T.h_RangesWhole (FnOk.rr gRangesWhole T.b_RangesWhole) (hr.mono (by decide)) pass0) pa_nil)) (pv 5) (nomark _)) (pw_or1 (pt_cmpR (op_ownNe T.w_RangesEq gRangesEq (hr.mono (by decide)) T.b_RangesEq pass0) (pe_meth (pv 5) T.t_Ranges.cl T.h_RangesJoined gRangesJoined (hr.mono (by decide)) T.b_RangesJoined .nil pass0 (pa_cons (pe_cmeth0 (pe_glob (v := .ref A.k_Ranges) (by rfl) T.k_Ranges rfl) T.cr_Ranges T.h_RangesWhole (FnOk.rr gRangesWhole T.b_RangesWhole) (hr.mono (by decide)) pass0) pa_nil)) (pe_cmeth0 (pe_glob (v := .ref A.k_Ranges) (by rfl) T.k_Ranges rfl) T.cr_Ranges T.h_RangesWhole (FnOk.rr gRangesWhole T.b_RangesWhole) (hr.mono (by decide)) pass0) (nomark _))))) (pss_one (ps_ret pe_bl)) pss_nil)
      (pss_one (ps_if (PW.pt (pw_or (pt_cmpR (op_ownNe T.w_RangesEq gRangesEq (hr.mono (by decide)) T.b_RangesEq pass0) (pe_meth (pv 5) T.t_Ranges.cl T.h_RangesCommon gRangesCommon (hr.mono (by decide)) T.b_RangesCommon .nil pass0 (pa_cons (pe_make0 T.mk_Ranges gRangesInit (hr.mono (by decide)) (by rfl) T.k_Ranges T.e1_RangesInit.choose_spec.2 T.e1_RangesInit.choose_spec.1 pass0) pa_nil)) (pe_make0 T.mk_Ranges gRangesInit (hr.mono (by decide)) (by rfl) T.k_Ranges T.e1_RangesInit.choose_spec.2 T.e1_RangesInit.choose_spec.1 pass0) (nomark _)) (pw_or (pt_cmpR (op_ownNe T.w_RangesEq gRangesEq (hr.mono (by decide)) T.b_RangesEq pass0) (pe_meth (pv 5) T.t_Ranges.cl T.h_RangesJoined gRangesJoined (hr.mono (by decide)) T.b_RangesJoined .nil pass0 (pa_cons (pe_make0 T.mk_Ranges gRangesInit (hr.mono (by decide)) (by rfl) T.k_Ranges T.e1_RangesInit.choose_spec.2 T.e1_RangesInit.choose_spec.1 pass0) pa_nil)) (pv 5) (nomark _)) (pw_or1 (pt_cmpR (op_ownNe T.w_RangesEq gRangesEq (hr.mono (by decide)) T.b_RangesEq pass0) (pe_meth (pe_make0 T.mk_Ranges gRangesInit (hr.mono (by decide)) (by rfl) T.k_Ranges T.e1_RangesInit.choose_spec.2 T.e1_RangesInit.choose_spec.1 pass0) T.t_Ranges.cl T.h_RangesJoined gRangesJoined (hr.mono (by decide)) T.b_RangesJoined .nil pass0 (pa_cons (pv 5) pa_nil)) (pv 5) (nomark _)))))) (pss_one (ps_ret pe_bl)) pss_nil))))))))
      (pss_cons (ps_set (i := 6) scLaw.nd rfl (Or.inl rfl) (pe_lst (pa_cons (pe_make T.mk_Ranges gRangesInit (hr.mono (by decide)) (by rfl) T.k_Ranges T.b_RangesInit .nil pass0 (pa_cons (pe_lst (pa_cons (pe_tup (pa_cons pe_int (pa_cons pe_int pa_nil))) pa_nil)) pa_nil)) (pa_cons (pe_make T.mk_Ranges gRangesInit (hr.mono (by decide)) (by rfl) T.k_Ranges T.b_RangesInit .nil pass0 (pa_cons (pe_lst (pa_cons (pe_tup (pa_cons pe_int (pa_cons pe_non pa_nil))) pa_nil)) pa_nil)) pa_nil))))
      (pss_one (ps_ret (pe_and (pe_cmpR (op_ownC (fun _ _ => rfl) T.o_RangesEq gRangesEq (hr.mono (by decide)) T.b_RangesEq pass0) (pe_meth (pe_ix ix_lstH (pv 6) pe_int (fun _ _ => rfl)) T.t_Ranges.cl T.h_RangesCommon gRangesCommon (hr.mono (by decide)) T.b_RangesCommon .nil pass0 (pa_cons (pe_ix ix_lstH (pv 6) pe_int (fun _ _ => rfl)) pa_nil)) (pe_make T.mk_Ranges gRangesInit (hr.mono (by decide)) (by rfl) T.k_Ranges T.b_RangesInit .nil pass0 (pa_cons (pe_lst (pa_cons (pe_tup (pa_cons pe_int (pa_cons pe_int pa_nil))) pa_nil)) pa_nil)) (nomark _)) (pe_one (pe_cmpR (op_ownC (fun _ _ => rfl) T.o_RangesEq gRangesEq (hr.mono (by decide)) T.b_RangesEq pass0) (pe_meth (pe_ix ix_lstH (pv 6) pe_int (fun _ _ => rfl)) T.t_Ranges.cl T.h_RangesJoined gRangesJoined (hr.mono (by decide)) T.b_RangesJoined .nil pass0 (pa_cons (pe_ix ix_lstH (pv 6) pe_int (fun _ _ => rfl)) pa_nil)) (pe_cmeth0 (pe_glob (v := .ref A.k_Ranges) (by rfl) T.k_Ranges rfl) T.cr_Ranges T.h_RangesWhole (FnOk.rr gRangesWhole T.b_RangesWhole) (hr.mono (by decide)) pass0) (nomark _))))))))), ?_⟩
    refine ⟨_, rfl, a, ns, rfl, hS, hlen, fun p l H1 hp np nl s1 => ?_⟩
    refine seq_gen fun N eN => ?_
    try simp only [tSeq, tNext, tRet, tRetN, tAsg, gName, gSub, tDrop, tIfS, tOp, tUn, tCB, tCons, tNil, tC, tVar, rI, rI0, rU, tAnd, tOr, tNot, tAndV, tOrV, tNotV, tIf, tTest, tB, tCall, tChain, tLst, tTup, tYes, rIxH, rIsB, rIsBT, rMulS, kd_non, kd_bl, kd_int, kd_str, kd_ref, kdO_lst, kdO_tup, kdO_dK, nq_n, nq_b, nq_i, nq_s, nq_l, nq_t, nq_d, ne_eq, not_false_eq_true, kit_ss, kit_ns, kit_bs, kit_is, kit_ls, kit_ts, kit_ds, kit_bb, V.ty.injEq, and_assoc, rIxU, rLenH, rLenU, rLenS, rInt1, rSetL, rEq, rNe, rCat, L2.start, List.map, List.length, List.length_cons, List.length_nil, List.replicate, List.getElem?_cons_zero, List.getElem?_cons_succ, List.set_cons_zero, List.set_cons_succ, List.set_nil, List.cons_append, List.nil_append, List.append_nil, Option.some.injEq, V.int.injEq, V.ref.injEq, V.str.injEq, V.bl.injEq, HO.lst.injEq, HO.tup.injEq, exists_eq_left', exists_and_left, exists_eq_left, List.cons.injEq, and_true, true_and, and_false, false_and, and_self, reduceCtorEq, exists_false, or_false, false_or, exists_const, at0, at1, at2, at3, at4, at5, ix51, ix52, ix54, upd_same, Nat.reduceAdd, Nat.reduceSub, Nat.zero_add, Int.reduceToNat, Int.reduceLE, Int.reduceLT, decide_eq_true_eq, Bool.not_eq_true, if_true, if_false, Bool.false_eq_true, ite_true, ite_false, Bool.not_true, Bool.not_false, decide_true, decide_false, tFor_eq, tLc_eq, iList, iTup, iRng1, iRng2, iStr, tSl, tPart, tNoPart, rSlL, cxOf_K, wipe, ex_ty2, kit_LTl, kit_LTt, kit_LTd, kit_LTs, kit_LTn, kit_LTb, kit_LTi, tM1, rIxS, exists_eq', lt1p, tDNewK, rSlS, rEqNil, nox_K]
    rw [eN]
    clear eN N
    refine seq_gen fun N eN => ?_
    try simp only [tSeq, tNext, tRet, tRetN, tAsg, gName, gSub, tDrop, tIfS, tOp, tUn, tCB, tCons, tNil, tC, tVar, rI, rI0, rU, tAnd, tOr, tNot, tAndV, tOrV, tNotV, tIf, tTest, tB, tCall, tChain, tLst, tTup, tYes, rIxH, rIsB, rIsBT, rMulS, kd_non, kd_bl, kd_int, kd_str, kd_ref, kdO_lst, kdO_tup, kdO_dK, nq_n, nq_b, nq_i, nq_s, nq_l, nq_t, nq_d, ne_eq, not_false_eq_true, kit_ss, kit_ns, kit_bs, kit_is, kit_ls, kit_ts, kit_ds, kit_bb, V.ty.injEq, and_assoc, rIxU, rLenH, rLenU, rLenS, rInt1, rSetL, rEq, rNe, rCat, L2.start, List.map, List.length, List.length_cons, List.length_nil, List.replicate, List.getElem?_cons_zero, List.getElem?_cons_succ, List.set_cons_zero, List.set_cons_succ, List.set_nil, List.cons_append, List.nil_append, List.append_nil, Option.some.injEq, V.int.injEq, V.ref.injEq, V.str.injEq, V.bl.injEq, HO.lst.injEq, HO.tup.injEq, exists_eq_left', exists_and_left, exists_eq_left, List.cons.injEq, and_true, true_and, and_false, false_and, and_self, reduceCtorEq, exists_false, or_false, false_or, exists_const, at0, at1, at2, at3, at4, at5, ix51, ix52, ix54, upd_same, Nat.reduceAdd, Nat.reduceSub, Nat.zero_add, Int.reduceToNat, Int.reduceLE, Int.reduceLT, decide_eq_true_eq, Bool.not_eq_true, if_true, if_false, Bool.false_eq_true, ite_true, ite_false, Bool.not_true, Bool.not_false, decide_true, decide_false, tFor_eq, tLc_eq, iList, iTup, iRng1, iRng2, iStr, tSl, tPart, tNoPart, rSlL, cxOf_K, wipe, ex_ty2, kit_LTl, kit_LTt, kit_LTd, kit_LTs, kit_LTn, kit_LTb, kit_LTi, tM1, rIxS, exists_eq', lt1p, tDNewK, rSlS, rEqNil, nox_K]
    refine ⟨by decide, by decide, ?_⟩
    refine for_go (walk_rangeY (lo := 0) (n := 6)) (LL57 a p l) ⟨_, _, _, _, _, 0, rfl, hp, by omega⟩ (fun _ _ _ _ _ => trivial) (fun i x σ H2 hx q => ?_) (fun σ H2 q => ?_)
    · obtain ⟨v2, v3, v4, v5, v6, c, rfl, hp2, hc⟩ := q
      obtain ⟨rfl, hi⟩ := rng_item hx
      refine seq_gen fun N2 eN2 => ?_
      try simp only [tSeq, tNext, tRet, tRetN, tAsg, gName, gSub, tDrop, tIfS, tOp, tUn, tCB, tCons, tNil, tC, tVar, rI, rI0, rU, tAnd, tOr, tNot, tAndV, tOrV, tNotV, tIf, tTest, tB, tCall, tChain, tLst, tTup, tYes, rIxH, rIsB, rIsBT, rMulS, kd_non, kd_bl, kd_int, kd_str, kd_ref, kdO_lst, kdO_tup, kdO_dK, nq_n, nq_b, nq_i, nq_s, nq_l, nq_t, nq_d, ne_eq, not_false_eq_true, kit_ss, kit_ns, kit_bs, kit_is, kit_ls, kit_ts, kit_ds, kit_bb, V.ty.injEq, and_assoc, rIxU, rLenH, rLenU, rLenS, rInt1, rSetL, rEq, rNe, rCat, L2.start, List.map, List.length, List.length_cons, List.length_nil, List.replicate, List.getElem?_cons_zero, List.getElem?_cons_succ, List.set_cons_zero, List.set_cons_succ, List.set_nil, List.cons_append, List.nil_append, List.append_nil, Option.some.injEq, V.int.injEq, V.ref.injEq, V.str.injEq, V.bl.injEq, HO.lst.injEq, HO.tup.injEq, exists_eq_left', exists_and_left, exists_eq_left, List.cons.injEq, and_true, true_and, and_false, false_and, and_self, reduceCtorEq, exists_false, or_false, false_or, exists_const, at0, at1, at2, at3, at4, at5, ix51, ix52, ix54, upd_same, Nat.reduceAdd, Nat.reduceSub, Nat.zero_add, Int.reduceToNat, Int.reduceLE, Int.reduceLT, decide_eq_true_eq, Bool.not_eq_true, if_true, if_false, Bool.false_eq_true, ite_true, ite_false, Bool.not_true, Bool.not_false, decide_true, decide_false, tFor_eq, tLc_eq, iList, iTup, iRng1, iRng2, iStr, tSl, tPart, tNoPart, rSlL, cxOf_K, wipe, ex_ty2, kit_LTl, kit_LTt, kit_LTd, kit_LTs, kit_LTn, kit_LTb, kit_LTi, tM1, rIxS, exists_eq', lt1p, tDNewK, rSlS, rEqNil, nox_K, tPar]
      refine ⟨p, l, c, rfl, hp2, by omega, fun H3 sA xs ps hp3 nsA off3 hs3 rp3 de => ?_⟩
      have nps := hp2.np nsA
      try dsimp only
      refine ⟨p, l, c + 40, rfl, hp3, by omega, fun H4 sB ys qs hp4 nsB off4 hs4 rq4 df => ?_⟩
      have npb := hp3.np nsB
      have ha4 := off4 sA _ nps.1 nps.2 hs3
      have rp4 := rp3.nl (Nl.off hp3 off4)
      try simp only [tSeq, tNext, tRet, tRetN, tAsg, gName, gSub, tDrop, tIfS, tOp, tUn, tCB, tCons, tNil, tC, tVar, rI, rI0, rU, tAnd, tOr, tNot, tAndV, tOrV, tNotV, tIf, tTest, tB, tCall, tChain, tLst, tTup, tYes, rIxH, rIsB, rIsBT, rMulS, kd_non, kd_bl, kd_int, kd_str, kd_ref, kdO_lst, kdO_tup, kdO_dK, nq_n, nq_b, nq_i, nq_s, nq_l, nq_t, nq_d, ne_eq, not_false_eq_true, kit_ss, kit_ns, kit_bs, kit_is, kit_ls, kit_ts, kit_ds, kit_bb, V.ty.injEq, and_assoc, rIxU, rLenH, rLenU, rLenS, rInt1, rSetL, rEq, rNe, rCat, L2.start, List.map, List.length, List.length_cons, List.length_nil, List.replicate, List.getElem?_cons_zero, List.getElem?_cons_succ, List.set_cons_zero, List.set_cons_succ, List.set_nil, List.cons_append, List.nil_append, List.append_nil, Option.some.injEq, V.int.injEq, V.ref.injEq, V.str.injEq, V.bl.injEq, HO.lst.injEq, HO.tup.injEq, exists_eq_left', exists_and_left, exists_eq_left, List.cons.injEq, and_true, true_and, and_false, false_and, and_self, reduceCtorEq, exists_false, or_false, false_or, exists_const, at0, at1, at2, at3, at4, at5, ix51, ix52, ix54, upd_same, Nat.reduceAdd, Nat.reduceSub, Nat.zero_add, Int.reduceToNat, Int.reduceLE, Int.reduceLT, decide_eq_true_eq, Bool.not_eq_true, if_true, if_false, Bool.false_eq_true, ite_true, ite_false, Bool.not_true, Bool.not_false, decide_true, decide_false, tFor_eq, tLc_eq, iList, iTup, iRng1, iRng2, iStr, tSl, tPart, tNoPart, rSlL, cxOf_K, wipe, ex_ty2, kit_LTl, kit_LTt, kit_LTd, kit_LTs, kit_LTn, kit_LTb, kit_LTi, tM1, rIxS, exists_eq', lt1p, tDNewK, rSlS, rEqNil, nox_K, tPar]
      first | rw [eN2] | (dsimp only; rw [eN2])
      clear eN2 N2
      refine seq_gen fun N2 eN2 => ?_
      try simp only [tSeq, tNext, tRet, tRetN, tAsg, gName, gSub, tDrop, tIfS, tOp, tUn, tCB, tCons, tNil, tC, tVar, rI, rI0, rU, tAnd, tOr, tNot, tAndV, tOrV, tNotV, tIf, tTest, tB, tCall, tChain, tLst, tTup, tYes, rIxH, rIsB, rIsBT, rMulS, kd_non, kd_bl, kd_int, kd_str, kd_ref, kdO_lst, kdO_tup, kdO_dK, nq_n, nq_b, nq_i, nq_s, nq_l, nq_t, nq_d, ne_eq, not_false_eq_true, kit_ss, kit_ns, kit_bs, kit_is, kit_ls, kit_ts, kit_ds, kit_bb, V.ty.injEq, and_assoc, rIxU, rLenH, rLenU, rLenS, rInt1, rSetL, rEq, rNe, rCat, L2.start, List.map, List.length, List.length_cons, List.length_nil, List.replicate, List.getElem?_cons_zero, List.getElem?_cons_succ, List.set_cons_zero, List.set_cons_succ, List.set_nil, List.cons_append, List.nil_append, List.append_nil, Option.some.injEq, V.int.injEq, V.ref.injEq, V.str.injEq, V.bl.injEq, HO.lst.injEq, HO.tup.injEq, exists_eq_left', exists_and_left, exists_eq_left, List.cons.injEq, and_true, true_and, and_false, false_and, and_self, reduceCtorEq, exists_false, or_false, false_or, exists_const, at0, at1, at2, at3, at4, at5, ix51, ix52, ix54, upd_same, Nat.reduceAdd, Nat.reduceSub, Nat.zero_add, Int.reduceToNat, Int.reduceLE, Int.reduceLT, decide_eq_true_eq, Bool.not_eq_true, if_true, if_false, Bool.false_eq_true, ite_true, ite_false, Bool.not_true, Bool.not_false, decide_true, decide_false, tFor_eq, tLc_eq, iList, iTup, iRng1, iRng2, iStr, tSl, tPart, tNoPart, rSlL, cxOf_K, wipe, ex_ty2, kit_LTl, kit_LTt, kit_LTd, kit_LTs, kit_LTn, kit_LTb, kit_LTi, tM1, rIxS, exists_eq', lt1p, tDNewK, rSlS, rEqNil, nox_K]
      suffices go : ∀ (H6 : Hp) (sC : Addr) (ys : List V) (qs : List Pt), PoolAt p l (c + 90) H6 → H6 sA = some (.lst xs) → H6 sC = some (.lst ys) → RPs A.k_Ratio H6 xs 820 ps → RPs A.k_Ratio H6 ys 820 qs → DrwE qs → N2 [some (V.ref a), some (V.ref p), some (V.int (0 + (i : Int))), some (V.ref sA), some (V.ref sC), v5, v6] H6 by
        refine ⟨p, l, 2, c + 80, rfl, by decide, by decide, hp4, by omega, fun m H5 m0 m1 hp5 off5 => ?_⟩
        try dsimp only
        refine ⟨scal_int, ?_⟩
        have nl5 := Nl.off hp4 (Off.s off5)
        have ha5 := (Off.s off5) sA _ nps.1 nps.2 ha4
        by_cases c0 : V.int m = V.int 0
        · rw [if_pos c0]
          refine ⟨p, l, c + 81, sA, xs, ps, rfl, hp5, by omega, nps.1, nps.2, ha5, rp4.nl nl5, de, fun H6 sC zs rs hp6 nsC off6 hs6 rz6 df6 => ?_⟩
          exact go H6 sC zs rs (hp6.mono (by omega)) (off6 sA _ nps.1 nps.2 ha5) hs6 ((rp4.nl nl5).nl (Nl.off hp5 off6)) rz6 df6
        · rw [if_neg c0]
          exact go H5 sB ys qs (hp5.mono (by omega)) ha5 ((Off.s off5) sB _ npb.1 npb.2 hs4) (rp4.nl nl5) (rq4.nl nl5) df
      clear rq4 hs4 df npb nsB ys qs off4 ha4 rp4 hp4 hs3 rp3 off3 hp3 hp2
      intro H6 sC ys qs hp6 ha6 hb6 rp6 rq6 df
      rw [eN2]
      clear eN2 N2
      have gp := de.gp
      have l4 := de.l4
      have xl := rp6.len
      refine seq_gen fun N2 eN2 => ?_
      try simp only [tSeq, tNext, tRet, tRetN, tAsg, gName, gSub, tDrop, tIfS, tOp, tUn, tCB, tCons, tNil, tC, tVar, rI, rI0, rU, tAnd, tOr, tNot, tAndV, tOrV, tNotV, tIf, tTest, tB, tCall, tChain, tLst, tTup, tYes, rIxH, rIsB, rIsBT, rMulS, kd_non, kd_bl, kd_int, kd_str, kd_ref, kdO_lst, kdO_tup, kdO_dK, nq_n, nq_b, nq_i, nq_s, nq_l, nq_t, nq_d, ne_eq, not_false_eq_true, kit_ss, kit_ns, kit_bs, kit_is, kit_ls, kit_ts, kit_ds, kit_bb, V.ty.injEq, and_assoc, rIxU, rLenH, rLenU, rLenS, rInt1, rSetL, rEq, rNe, rCat, L2.start, List.map, List.length, List.length_cons, List.length_nil, List.replicate, List.getElem?_cons_zero, List.getElem?_cons_succ, List.set_cons_zero, List.set_cons_succ, List.set_nil, List.cons_append, List.nil_append, List.append_nil, Option.some.injEq, V.int.injEq, V.ref.injEq, V.str.injEq, V.bl.injEq, HO.lst.injEq, HO.tup.injEq, exists_eq_left', exists_and_left, exists_eq_left, List.cons.injEq, and_true, true_and, and_false, false_and, and_self, reduceCtorEq, exists_false, or_false, false_or, exists_const, at0, at1, at2, at3, at4, at5, ix51, ix52, ix54, upd_same, Nat.reduceAdd, Nat.reduceSub, Nat.zero_add, Int.reduceToNat, Int.reduceLE, Int.reduceLT, decide_eq_true_eq, Bool.not_eq_true, if_true, if_false, Bool.false_eq_true, ite_true, ite_false, Bool.not_true, Bool.not_false, decide_true, decide_false, tFor_eq, tLc_eq, iList, iTup, iRng1, iRng2, iStr, tSl, tPart, tNoPart, rSlL, cxOf_K, wipe, ex_ty2, kit_LTl, kit_LTt, kit_LTd, kit_LTs, kit_LTn, kit_LTb, kit_LTi, tM1, rIxS, exists_eq', lt1p, tDNewK, rSlS, rEqNil, nox_K]
      refine ⟨sA, sC, xs, ys, ps, qs, rfl, ha6, hb6, rp6, rq6, de, df, fun H7 s7 => ⟨true, rfl, ?_⟩⟩
      rw [if_neg (by decide)]
      refine ⟨sA, sA, xs, xs, ps, ps, rfl, s7 _ _ ha6, s7 _ _ ha6, rp6.same s7, rp6.same s7, de, de, fun H8 s8 => ⟨true, rfl, ?_⟩⟩
      rw [if_neg (by decide)]
      first | rw [eN2] | (dsimp only; rw [eN2])
      clear eN2 N2
      have s68 := s7.trans s8
      refine seq_gen fun N2 eN2 => ?_
      try simp only [tSeq, tNext, tRet, tRetN, tAsg, gName, gSub, tDrop, tIfS, tOp, tUn, tCB, tCons, tNil, tC, tVar, rI, rI0, rU, tAnd, tOr, tNot, tAndV, tOrV, tNotV, tIf, tTest, tB, tCall, tChain, tLst, tTup, tYes, rIxH, rIsB, rIsBT, rMulS, kd_non, kd_bl, kd_int, kd_str, kd_ref, kdO_lst, kdO_tup, kdO_dK, nq_n, nq_b, nq_i, nq_s, nq_l, nq_t, nq_d, ne_eq, not_false_eq_true, kit_ss, kit_ns, kit_bs, kit_is, kit_ls, kit_ts, kit_ds, kit_bb, V.ty.injEq, and_assoc, rIxU, rLenH, rLenU, rLenS, rInt1, rSetL, rEq, rNe, rCat, L2.start, List.map, List.length, List.length_cons, List.length_nil, List.replicate, List.getElem?_cons_zero, List.getElem?_cons_succ, List.set_cons_zero, List.set_cons_succ, List.set_nil, List.cons_append, List.nil_append, List.append_nil, Option.some.injEq, V.int.injEq, V.ref.injEq, V.str.injEq, V.bl.injEq, HO.lst.injEq, HO.tup.injEq, exists_eq_left', exists_and_left, exists_eq_left, List.cons.injEq, and_true, true_and, and_false, false_and, and_self, reduceCtorEq, exists_false, or_false, false_or, exists_const, at0, at1, at2, at3, at4, at5, ix51, ix52, ix54, upd_same, Nat.reduceAdd, Nat.reduceSub, Nat.zero_add, Int.reduceToNat, Int.reduceLE, Int.reduceLT, decide_eq_true_eq, Bool.not_eq_true, if_true, if_false, Bool.false_eq_true, ite_true, ite_false, Bool.not_true, Bool.not_false, decide_true, decide_false, tFor_eq, tLc_eq, iList, iTup, iRng1, iRng2, iStr, tSl, tPart, tNoPart, rSlL, cxOf_K, wipe, ex_ty2, kit_LTl, kit_LTt, kit_LTd, kit_LTs, kit_LTn, kit_LTb, kit_LTi, tM1, rIxS, exists_eq', lt1p, tDNewK, rSlS, rEqNil, nox_K, tMake_eq]
      refine rg_yes (b := sA) (xs := xs) (n := 820) (ps := ps) rfl (.inl (s68 _ _ ha6)) (rp6.same s68).num de.ok de.asc (by decide) (by omega) fun H9 g dx kk zs s9 _ _ hg9 hk9 rz9 => ?_
      first | rw [eN2] | (dsimp only; rw [eN2])
      clear eN2 N2
      have rg9 : RgAt A.k_Ranges A.k_Ratio H9 g 820 ps := ⟨⟨dx, kk, zs, hg9, hk9, rz9⟩, by omega, by decide⟩
      have s69 := s68.trans s9
      have hp9 := hp6.same s69
      clear hg9 hk9 rz9
      have inj : ∀ {H0 : Hp} {h : Addr} {m : Nat} {rs : List Pt}, RgAt A.k_Ranges A.k_Ratio H0 h m rs → ∃ dz kz zz, H0 h = some (.ins A.k_Ranges dz (gF kz)) ∧ H0 kz = some (.lst zz) ∧ RPs A.k_Ratio H0 zz m rs := fun h => h.ex
      refine seq_gen fun N2 eN2 => ?_
      have lk1 : ∀ {k : Addr}, (gF k).lookup ("common" : Str) = none := fun {k} => gf_no (by decide +kernel)
      have lk2 : ∀ {k : Addr}, (gF k).lookup ("joined" : Str) = none := fun {k} => gf_no (by decide +kernel)
      try simp only [tSeq, tNext, tRet, tRetN, tAsg, gName, gSub, tDrop, tIfS, tOp, tUn, tCB, tCons, tNil, tC, tVar, rI, rI0, rU, tAnd, tOr, tNot, tAndV, tOrV, tNotV, tIf, tTest, tB, tCall, tChain, tLst, tTup, tYes, rIxH, rIsB, rIsBT, rMulS, kd_non, kd_bl, kd_int, kd_str, kd_ref, kdO_lst, kdO_tup, kdO_dK, nq_n, nq_b, nq_i, nq_s, nq_l, nq_t, nq_d, ne_eq, not_false_eq_true, kit_ss, kit_ns, kit_bs, kit_is, kit_ls, kit_ts, kit_ds, kit_bb, V.ty.injEq, and_assoc, rIxU, rLenH, rLenU, rLenS, rInt1, rSetL, rEq, rNe, rCat, L2.start, List.map, List.length, List.length_cons, List.length_nil, List.replicate, List.getElem?_cons_zero, List.getElem?_cons_succ, List.set_cons_zero, List.set_cons_succ, List.set_nil, List.cons_append, List.nil_append, List.append_nil, Option.some.injEq, V.int.injEq, V.ref.injEq, V.str.injEq, V.bl.injEq, HO.lst.injEq, HO.tup.injEq, exists_eq_left', exists_and_left, exists_eq_left, List.cons.injEq, and_true, true_and, and_false, false_and, and_self, reduceCtorEq, exists_false, or_false, false_or, exists_const, at0, at1, at2, at3, at4, at5, ix51, ix52, ix54, upd_same, Nat.reduceAdd, Nat.reduceSub, Nat.zero_add, Int.reduceToNat, Int.reduceLE, Int.reduceLT, decide_eq_true_eq, Bool.not_eq_true, if_true, if_false, Bool.false_eq_true, ite_true, ite_false, Bool.not_true, Bool.not_false, decide_true, decide_false, tFor_eq, tLc_eq, iList, iTup, iRng1, iRng2, iStr, tSl, tPart, tNoPart, rSlL, cxOf_K, wipe, ex_ty2, kit_LTl, kit_LTt, kit_LTd, kit_LTs, kit_LTn, kit_LTb, kit_LTi, tM1, rIxS, exists_eq', lt1p, tDNewK, rSlS, rEqNil, nox_K, tMeth, ClX.tCMeth, tMake_eq]
      obtain ⟨e1, e2, e3, e4, _, _⟩ := inj rg9
      refine ⟨e1, _, e4, lk1, rfl, fun H10 gw s10 nw rw10 => ?_⟩
      try dsimp only
      have rg10 := rg9.same s10
      refine ⟨g, gw, 820, ps, wholeP, rfl, rg10, rw10.mono (by decide) (by decide), gp, whole_gp, by omega, by decide, fun H11 u s11 nu ru => ?_⟩
      rw [common_whole gp] at ru
      try dsimp only
      have rg11 := rg10.same s11
      refine ne_go ru rg11 fun H12 s12 => ⟨_, rfl, ?_⟩
      rw [if_neg (by decide)]
      have rg12 := rg11.same s12
      obtain ⟨e1, e2, e3, e4, _, _⟩ := inj rg12
      refine ⟨e1, _, e4, lk2, rfl, fun H13 gv s13 nv rv13 => ?_⟩
      try dsimp only
      have rg13 := rg12.same s13
      refine ⟨g, gv, 820, ps, wholeP, rfl, rg13, rv13.mono (by decide) (by decide), gp, whole_gp, by omega, by decide, fun H14 u2 s14 nu2 ru2 => ?_⟩
      rw [join_whole gp] at ru2
      try dsimp only
      refine ⟨rfl, fun H15 gx s15 nx rx => ?_⟩
      try dsimp only
      refine ne_go (ru2.same s15) rx fun H16 s16 => ⟨_, rfl, ?_⟩
      rw [if_neg (by decide)]
      first | rw [eN2] | (dsimp only; rw [eN2])
      clear eN2 N2
      have s916 := (((((s10.trans s11).trans s12).trans s13).trans s14).trans s15).trans s16
      have rg16 := rg9.same s916
      have hp16 := hp9.same s916
      clear rg10 rg11 rg12 rg13 ru ru2 rx rw10 rv13
      have kt : KT0 K A.u0_RangesInit := ⟨T.ut0_RangesInit, T.uk0_RangesInit⟩
      try simp only [tSeq, tNext, tRet, tRetN, tAsg, gName, gSub, tDrop, tIfS, tOp, tUn, tCB, tCons, tNil, tC, tVar, rI, rI0, rU, tAnd, tOr, tNot, tAndV, tOrV, tNotV, tIf, tTest, tB, tCall, tChain, tLst, tTup, tYes, rIxH, rIsB, rIsBT, rMulS, kd_non, kd_bl, kd_int, kd_str, kd_ref, kdO_lst, kdO_tup, kdO_dK, nq_n, nq_b, nq_i, nq_s, nq_l, nq_t, nq_d, ne_eq, not_false_eq_true, kit_ss, kit_ns, kit_bs, kit_is, kit_ls, kit_ts, kit_ds, kit_bb, V.ty.injEq, and_assoc, rIxU, rLenH, rLenU, rLenS, rInt1, rSetL, rEq, rNe, rCat, L2.start, List.map, List.length, List.length_cons, List.length_nil, List.replicate, List.getElem?_cons_zero, List.getElem?_cons_succ, List.set_cons_zero, List.set_cons_succ, List.set_nil, List.cons_append, List.nil_append, List.append_nil, Option.some.injEq, V.int.injEq, V.ref.injEq, V.str.injEq, V.bl.injEq, HO.lst.injEq, HO.tup.injEq, exists_eq_left', exists_and_left, exists_eq_left, List.cons.injEq, and_true, true_and, and_false, false_and, and_self, reduceCtorEq, exists_false, or_false, false_or, exists_const, at0, at1, at2, at3, at4, at5, ix51, ix52, ix54, upd_same, Nat.reduceAdd, Nat.reduceSub, Nat.zero_add, Int.reduceToNat, Int.reduceLE, Int.reduceLT, decide_eq_true_eq, Bool.not_eq_true, if_true, if_false, Bool.false_eq_true, ite_true, ite_false, Bool.not_true, Bool.not_false, decide_true, decide_false, tFor_eq, tLc_eq, iList, iTup, iRng1, iRng2, iStr, tSl, tPart, tNoPart, rSlL, cxOf_K, wipe, ex_ty2, kit_LTl, kit_LTt, kit_LTd, kit_LTs, kit_LTn, kit_LTb, kit_LTi, tM1, rIxS, exists_eq', lt1p, tDNewK, rSlS, rEqNil, nox_K, tMeth, ClX.tCMeth, tMake_eq]
      obtain ⟨e1, e2, e3, e4, _, _⟩ := inj rg16
      refine ⟨e1, _, e4, lk1, ?_⟩
      refine emp_go kt fun H17 q1 s17 _ rq17 => ?_
      try dsimp only
      have rg17 := rg16.same s17
      refine ⟨g, q1, 820, ps, [], rfl, rg17, rq17, gp, nil_gp, by omega, by decide, fun H18 u s18 nu ru => ?_⟩
      rw [common_nil] at ru
      try dsimp only
      refine emp_go kt fun H19 q2 s19 _ rq19 => ?_
      try dsimp only
      refine ne_go (ru.same s19) rq19 fun H20 s20 => ⟨_, rfl, ?_⟩
      rw [if_neg (by decide)]
      have rg20 := ((rg17.same s18).same s19).same s20
      obtain ⟨e1, e2, e3, e4, _, _⟩ := inj rg20
      refine ⟨e1, _, e4, lk2, ?_⟩
      refine emp_go kt fun H21 q3 s21 _ rq21 => ?_
      try dsimp only
      have rg21 := rg20.same s21
      refine ⟨g, q3, 820, ps, [], rfl, rg21, rq21, gp, nil_gp, by omega, by decide, fun H22 u2 s22 nu2 ru2 => ?_⟩
      rw [join_nil gp] at ru2
      try dsimp only
      have rg22 := rg21.same s22
      refine ne_go ru2 rg22 fun H23 s23 => ⟨_, rfl, ?_⟩
      rw [if_neg (by decide)]
      have rg23 := rg22.same s23
      refine emp_go kt fun H24 q4 s24 _ rq24 => ?_
      try dsimp only
      have rg24 := rg23.same s24
      obtain ⟨e1, e2, e3, e4, _, _⟩ := inj rq24
      refine ⟨q4, rfl, e1, _, e4, lk2, ?_⟩
      refine ⟨q4, g, 820, [], ps, rfl, rq24, rg24, nil_gp, gp, by decide, by omega, fun H25 u3 s25 nu3 ru3 => ?_⟩
      rw [nil_join gp] at ru3
      try dsimp only
      refine ne_go ru3 (rg24.same s25) fun H26 s26 => ⟨_, rfl, ?_⟩
      rw [if_neg (by decide)]
      have s1626 := (((((((((s17.trans s18).trans s19).trans s20).trans s21).trans s22).trans s23).trans s24).trans s25).trans s26)
      exact ⟨_, _, _, _, _, c + 90, rfl, hp16.same s1626, by omega⟩
    · obtain ⟨v2, v3, v4, v5, v6, c, rfl, hp2, hc⟩ := q
      (try dsimp only); rw [eN]; clear eN N
      refine seq_gen fun N eN => ?_
      try simp only [tSeq, tNext, tRet, tRetN, tAsg, gName, gSub, tDrop, tIfS, tOp, tUn, tCB, tCons, tNil, tC, tVar, rI, rI0, rU, tAnd, tOr, tNot, tAndV, tOrV, tNotV, tIf, tTest, tB, tCall, tChain, tLst, tTup, tYes, rIxH, rIsB, rIsBT, rMulS, kd_non, kd_bl, kd_int, kd_str, kd_ref, kdO_lst, kdO_tup, kdO_dK, nq_n, nq_b, nq_i, nq_s, nq_l, nq_t, nq_d, ne_eq, not_false_eq_true, kit_ss, kit_ns, kit_bs, kit_is, kit_ls, kit_ts, kit_ds, kit_bb, V.ty.injEq, and_assoc, rIxU, rLenH, rLenU, rLenS, rInt1, rSetL, rEq, rNe, rCat, L2.start, List.map, List.length, List.length_cons, List.length_nil, List.replicate, List.getElem?_cons_zero, List.getElem?_cons_succ, List.set_cons_zero, List.set_cons_succ, List.set_nil, List.cons_append, List.nil_append, List.append_nil, Option.some.injEq, V.int.injEq, V.ref.injEq, V.str.injEq, V.bl.injEq, HO.lst.injEq, HO.tup.injEq, exists_eq_left', exists_and_left, exists_eq_left, List.cons.injEq, and_true, true_and, and_false, false_and, and_self, reduceCtorEq, exists_false, or_false, false_or, exists_const, at0, at1, at2, at3, at4, at5, ix51, ix52, ix54, upd_same, Nat.reduceAdd, Nat.reduceSub, Nat.zero_add, Int.reduceToNat, Int.reduceLE, Int.reduceLT, decide_eq_true_eq, Bool.not_eq_true, if_true, if_false, Bool.false_eq_true, ite_true, ite_false, Bool.not_true, Bool.not_false, decide_true, decide_false, tFor_eq, tLc_eq, iList, iTup, iRng1, iRng2, iStr, tSl, tPart, tNoPart, rSlL, cxOf_K, wipe, ex_ty2, kit_LTl, kit_LTt, kit_LTd, kit_LTs, kit_LTn, kit_LTb, kit_LTi, tM1, rIxS, exists_eq', lt1p, tDNewK, rSlS, rEqNil, nox_K, tMake_eq]
      refine ⟨by decide, ?_⟩
      intro t1 n_t1; generalize g_H3 : upd H2 t1 _ = H3; obtain ⟨s_H3, h_t1⟩ := new_facts n_t1 g_H3; clear g_H3
      refine ⟨by decide, ?_⟩
      intro l1 n_l1; generalize g_H4 : upd H3 l1 _ = H4; obtain ⟨s_H4, h_l1⟩ := new_facts n_l1 g_H4; clear g_H4
      refine rg_yes (b := l1) (xs := [.ref t1]) (n := 2) (ps := [(0, some 1)]) rfl (.inl h_l1) (np_one (s_H4 _ _ h_t1) (num_int (z := 0) (by decide)) (num_int (z := 1) (by decide))) gp_a.1 (asc_of gp_a) (by decide) (Nat.le_of_ble_eq_true rfl) fun H5 g1 d1 k1 zs1 s5 _ _ hg1 hk1 rz1 => ?_
      have rg1 : RgAt A.k_Ranges A.k_Ratio H5 g1 2 [(0, some 1)] := ⟨⟨d1, k1, zs1, hg1, hk1, rz1⟩, by decide, by decide⟩
      try dsimp only
      refine ⟨by decide, ?_⟩
      intro t2 n_t2; generalize g_H6 : upd H5 t2 _ = H6; obtain ⟨s_H6, h_t2⟩ := new_facts n_t2 g_H6; clear g_H6
      refine ⟨by decide, ?_⟩
      intro l2 n_l2; generalize g_H7 : upd H6 l2 _ = H7; obtain ⟨s_H7, h_l2⟩ := new_facts n_l2 g_H7; clear g_H7
      refine rg_yes (b := l2) (xs := [.ref t2]) (n := 2) (ps := [(1, none)]) rfl (.inl h_l2) (np_one (s_H7 _ _ h_t2) (num_int (z := 1) (by decide)) rfl) gp_b.1 (asc_of gp_b) (by decide) (Nat.le_of_ble_eq_true rfl) fun H8 g2 d2 k2 zs2 s8 _ _ hg2 hk2 rz2 => ?_
      have rg2 : RgAt A.k_Ranges A.k_Ratio H8 g2 2 [(1, none)] := ⟨⟨d2, k2, zs2, hg2, hk2, rz2⟩, by decide, by decide⟩
      have rg1 := rg1.same ((s_H6.trans s_H7).trans s8)
      try dsimp only
      refine ⟨by decide, ?_⟩
      intro hv n_hv; generalize g_H9 : upd H8 hv _ = H9; obtain ⟨s_H9, h_hv⟩ := new_facts n_hv g_H9; clear g_H9
      have rg1 := rg1.same s_H9
      have rg2 := rg2.same s_H9
      have lk1 : ∀ {k : Addr}, (gF k).lookup ("common" : Str) = none := fun {k} => gf_no (by decide +kernel)
      have lk2 : ∀ {k : Addr}, (gF k).lookup ("joined" : Str) = none := fun {k} => gf_no (by decide +kernel)
      clear hg1 hk1 rz1 hg2 hk2 rz2
      (try dsimp only); rw [eN]; clear eN N
      try simp only [tSeq, tNext, tRet, tRetN, tAsg, gName, gSub, tDrop, tIfS, tOp, tUn, tCB, tCons, tNil, tC, tVar, rI, rI0, rU, tAnd, tOr, tNot, tAndV, tOrV, tNotV, tIf, tTest, tB, tCall, tChain, tLst, tTup, tYes, rIxH, rIsB, rIsBT, rMulS, kd_non, kd_bl, kd_int, kd_str, kd_ref, kdO_lst, kdO_tup, kdO_dK, nq_n, nq_b, nq_i, nq_s, nq_l, nq_t, nq_d, ne_eq, not_false_eq_true, kit_ss, kit_ns, kit_bs, kit_is, kit_ls, kit_ts, kit_ds, kit_bb, V.ty.injEq, and_assoc, rIxU, rLenH, rLenU, rLenS, rInt1, rSetL, rEq, rNe, rCat, L2.start, List.map, List.length, List.length_cons, List.length_nil, List.replicate, List.getElem?_cons_zero, List.getElem?_cons_succ, List.set_cons_zero, List.set_cons_succ, List.set_nil, List.cons_append, List.nil_append, List.append_nil, Option.some.injEq, V.int.injEq, V.ref.injEq, V.str.injEq, V.bl.injEq, HO.lst.injEq, HO.tup.injEq, exists_eq_left', exists_and_left, exists_eq_left, List.cons.injEq, and_true, true_and, and_false, false_and, and_self, reduceCtorEq, exists_false, or_false, false_or, exists_const, at0, at1, at2, at3, at4, at5, ix51, ix52, ix54, upd_same, Nat.reduceAdd, Nat.reduceSub, Nat.zero_add, Int.reduceToNat, Int.reduceLE, Int.reduceLT, decide_eq_true_eq, Bool.not_eq_true, if_true, if_false, Bool.false_eq_true, ite_true, ite_false, Bool.not_true, Bool.not_false, decide_true, decide_false, tFor_eq, tLc_eq, iList, iTup, iRng1, iRng2, iStr, tSl, tPart, tNoPart, rSlL, cxOf_K, wipe, ex_ty2, kit_LTl, kit_LTt, kit_LTd, kit_LTs, kit_LTn, kit_LTb, kit_LTi, tM1, rIxS, exists_eq', lt1p, tDNewK, rSlS, rEqNil, nox_K, tMake_eq, tMeth, ClX.tCMeth, h_hv]
      obtain ⟨e1, e2, e3, e4, _, _⟩ := rg1.ex
      refine ⟨e1, _, e4, lk1, g1, g2, 2, _, _, rfl, rg1, rg2, gp_a, gp_b, by decide, by decide, fun H10 u s10 nu ru => ?_⟩
      rw [com_ab] at ru
      refine ⟨by decide, ?_⟩
      intro t3 n_t3; generalize g_H11 : upd H10 t3 _ = H11; obtain ⟨s_H11, h_t3⟩ := new_facts n_t3 g_H11; clear g_H11
      refine ⟨by decide, ?_⟩
      intro l3 n_l3; generalize g_H12 : upd H11 l3 _ = H12; obtain ⟨s_H12, h_l3⟩ := new_facts n_l3 g_H12; clear g_H12
      refine rg_yes (b := l3) (xs := [.ref t3]) (n := 2) (ps := [(1, some 1)]) rfl (.inl h_l3) (np_one (s_H12 _ _ h_t3) (num_int (z := 1) (by decide)) (num_int (z := 1) (by decide))) gp_c.1 (asc_of gp_c) (by decide) (Nat.le_of_ble_eq_true rfl) fun H13 g3 d3 k3 zs3 s13 _ _ hg3 hk3 rz3 => ?_
      have rg3 : RgAt A.k_Ranges A.k_Ratio H13 g3 2 [(1, some 1)] := ⟨⟨d3, k3, zs3, hg3, hk3, rz3⟩, by decide, by decide⟩
      try dsimp only
      have s1013 := (s_H11.trans s_H12).trans s13
      refine eq_go (ru.same s1013) rg3 fun H14 s14 => ⟨true, rfl, ?_⟩
      rw [if_pos rfl]
      have s914 := (s10.trans s1013).trans s14
      have rg1 := rg1.same s914
      have rg2 := rg2.same s914
      obtain ⟨e1, e2, e3, e4, _, _⟩ := rg1.ex
      refine ⟨_, s914 _ _ h_hv, .ref g1, rfl, g1, rfl, e1, _, e4, lk2, _, s914 _ _ h_hv, .ref g2, rfl, g1, g2, 2, _, _, rfl, rg1, rg2, gp_a, gp_b, by decide, by decide, fun H15 v s15 nv rv => ?_⟩
      rw [join_ab] at rv
      try dsimp only
      refine ⟨rfl, fun H16 gw s16 nw rw16 => ?_⟩
      try dsimp only
      exact eq_go (rv.same s16) rw16 fun H17 s17 => k H17
end


section
variable {P : Program} {w : World} {K : PySem.W.Frag} {mg : Str → Option Value} {base : Heap} {A : Adr}
theorem ok_law (T : Txt K mg A) : FnOk P w K mg base CX0 15 A.a_Law A.d_Law ["_law_script"] (spLaw K) :=
  have ii := ok_isint T
  have ini := ok_init T ii (ok_gcd T)
  have isn := ok_isnum T ii
  have o := ok_of T ini
  have dr := ok_draw T (ok_mixed T)
  have eq := ok_RatioEq_A T isn o
  have lt := ok_RatioLt T o
  have le := ok_RatioLe T o
  have gt := ok_RatioGt T o
  have ge := ok_RatioGe T o
  have add := ok_RatioAdd T ini o
  have rg := ok_rg T (ok_isrange T isn lt le ge) (ok_ascend T lt gt) (ok_inratios T o)
  have mid := ok_midN T o add (ok_RatioDivided T ini isn o)
  have com := ok_common T (ok_giter T) (ok_cpart T lt gt) rg
  have joi := ok_joined T (ok_giter T) (ok_glen T) (ok_inorder T lt) (ok_merged T gt) rg
  have geq := ok_geq T eq
  ok_law_of T (ok_pool T) dr (ok_drawn T dr (ok_price T dr (ok_lowest T)) ini add (ok_RatioMul T ini o) eq) rg geq (ok_whole T rg) com joi (ok_shifted T dr gt)
    (ok_right T eq (ok_parts T) rg geq (ok_gin T le gt ge) com joi (ok_holds T le gt) (ok_probes T ini add (ok_RatioSub T ini o) gt mid) (ok_apart T lt (ok_parts T) rg geq))
end
theorem all_mk {l : PySem.W.OpenLaw} {w : World} {K : PySem.W.Frag} {h : Heap} {mg : Str → Option Value} {fa : Addr} {C_Ratio : Addr} {foRatioadd roRatioadd : Option Value} {foRatiosub roRatiosub : Option Value} {foRatiomul roRatiomul : Option Value} {C_Ranges : Addr} {f1 : Addr} {od1 an1 : Option Addr} {sl1 : Array (Option Value)} {oc1 dc1 pm1 ct1 : Value} {cd1 : Value} {kV1 : Value} {f2 : Addr} {od2 an2 : Option Addr} {sl2 : Array (Option Value)} {oc2 dc2 pm2 ct2 : Value} {cd2 : Value} {kV2 : Value} {f3 : Addr} {od3 an3 : Option Addr} {sl3 : Array (Option Value)} {oc3 dc3 pm3 ct3 : Value} {cd3 : Value} {kV3 : Value} {T3 : Addr} {tc3 : Value} {tD3 : Option Addr} {ts3 : Array (Option Value)} {nn3 : Nat} {tk3_0 : Tok} {f4 : Addr} {od4 an4 : Option Addr} {sl4 : Array (Option Value)} {oc4 dc4 pm4 ct4 : Value} {cd4 : Value} {kV4 : Value} {p4 : Addr} {rs4 : List Value} {f5 : Addr} {od5 an5 : Option Addr} {sl5 : Array (Option Value)} {oc5 dc5 pm5 ct5 : Value} {cd5 : Value} {kV5 : Value} {p5 : Addr} {rs5 : List Value} {f6 : Addr} {od6 an6 : Option Addr} {sl6 : Array (Option Value)} {oc6 dc6 pm6 ct6 : Value} {cd6 : Value} {kV6 : Value} {p6 : Addr} {rs6 : List Value} {f7 : Addr} {od7 an7 : Option Addr} {sl7 : Array (Option Value)} {oc7 dc7 pm7 ct7 : Value} {cd7 : Value} {kV7 : Value} {f8 : Addr} {od8 an8 : Option Addr} {sl8 : Array (Option Value)} {oc8 dc8 pm8 ct8 : Value} {cd8 : Value} {kV8 : Value} {f9 : Addr} {od9 an9 : Option Addr} {sl9 : Array (Option Value)} {oc9 dc9 pm9 ct9 : Value} {cd9 : Value} {kV9 : Value} {f10 : Addr} {od10 an10 : Option Addr} {sl10 : Array (Option Value)} {oc10 dc10 pm10 ct10 : Value} {cd10 : Value} {kV10 : Value} {f11 : Addr} {od11 an11 : Option Addr} {sl11 : Array (Option Value)} {oc11 dc11 pm11 ct11 : Value} {cd11 : Value} {kV11 : Value} {f12 : Addr} {od12 an12 : Option Addr} {sl12 : Array (Option Value)} {oc12 dc12 pm12 ct12 : Value} {cd12 : Value} {kV12 : Value} {f13 : Addr} {od13 an13 : Option Addr} {sl13 : Array (Option Value)} {oc13 dc13 pm13 ct13 : Value} {cd13 : Value} {kV13 : Value} {f14 : Addr} {od14 an14 : Option Addr} {sl14 : Array (Option Value)} {oc14 dc14 pm14 ct14 : Value} {cd14 : Value} {kV14 : Value} {f15 : Addr} {od15 an15 : Option Addr} {sl15 : Array (Option Value)} {oc15 dc15 pm15 ct15 : Value} {cd15 : Value} {kV15 : Value} {f16 : Addr} {od16 an16 : Option Addr} {sl16 : Array (Option Value)} {oc16 dc16 pm16 ct16 : Value} {cd16 : Value} {kV16 : Value} {f17 : Addr} {od17 an17 : Option Addr} {sl17 : Array (Option Value)} {oc17 dc17 pm17 ct17 : Value} {cd17 : Value} {kV17 : Value} {f18 : Addr} {od18 an18 : Option Addr} {sl18 : Array (Option Value)} {oc18 dc18 pm18 ct18 : Value} {cd18 : Value} {kV18 : Value} {f19 : Addr} {od19 an19 : Option Addr} {sl19 : Array (Option Value)} {oc19 dc19 pm19 ct19 : Value} {cd19 : Value} {kV19 : Value} {f20 : Addr} {od20 an20 : Option Addr} {sl20 : Array (Option Value)} {oc20 dc20 pm20 ct20 : Value} {cd20 : Value} {kV20 : Value} {f21 : Addr} {od21 an21 : Option Addr} {sl21 : Array (Option Value)} {oc21 dc21 pm21 ct21 : Value} {cd21 : Value} {kV21 : Value} {f22 : Addr} {od22 an22 : Option Addr} {sl22 : Array (Option Value)} {oc22 dc22 pm22 ct22 : Value} {cd22 : Value} {kV22 : Value} {f23 : Addr} {od23 an23 : Option Addr} {sl23 : Array (Option Value)} {oc23 dc23 pm23 ct23 : Value} {cd23 : Value} {kV23 : Value} {f24 : Addr} {od24 an24 : Option Addr} {sl24 : Array (Option Value)} {oc24 dc24 pm24 ct24 : Value} {cd24 : Value} {kV24 : Value} {f25 : Addr} {od25 an25 : Option Addr} {sl25 : Array (Option Value)} {oc25 dc25 pm25 ct25 : Value} {cd25 : Value} {kV25 : Value} {f26 : Addr} {od26 an26 : Option Addr} {sl26 : Array (Option Value)} {oc26 dc26 pm26 ct26 : Value} {cd26 : Value} {kV26 : Value} {f27 : Addr} {od27 an27 : Option Addr} {sl27 : Array (Option Value)} {oc27 dc27 pm27 ct27 : Value} {cd27 : Value} {kV27 : Value} {T27 : Addr} {tc27 : Value} {tD27 : Option Addr} {ts27 : Array (Option Value)} {nn27 : Nat} {u27_0 : Addr} {ud27_0 : Option Addr} {un27_0 : Nat} {us27_0 : Array (Option Value)} {f28 : Addr} {od28 an28 : Option Addr} {sl28 : Array (Option Value)} {oc28 dc28 pm28 ct28 : Value} {cd28 : Value} {kV28 : Value} {p28 : Addr} {rs28 : List Value} {f29 : Addr} {od29 an29 : Option Addr} {sl29 : Array (Option Value)} {oc29 dc29 pm29 ct29 : Value} {cd29 : Value} {kV29 : Value} {f30 : Addr} {od30 an30 : Option Addr} {sl30 : Array (Option Value)} {oc30 dc30 pm30 ct30 : Value} {cd30 : Value} {kV30 : Value} {f31 : Addr} {od31 an31 : Option Addr} {sl31 : Array (Option Value)} {oc31 dc31 pm31 ct31 : Value} {cd31 : Value} {kV31 : Value} {f32 : Addr} {od32 an32 : Option Addr} {sl32 : Array (Option Value)} {oc32 dc32 pm32 ct32 : Value} {cd32 : Value} {kV32 : Value} {f33 : Addr} {od33 an33 : Option Addr} {sl33 : Array (Option Value)} {oc33 dc33 pm33 ct33 : Value} {cd33 : Value} {kV33 : Value} {f34 : Addr} {od34 an34 : Option Addr} {sl34 : Array (Option Value)} {oc34 dc34 pm34 ct34 : Value} {cd34 : Value} {kV34 : Value} {f35 : Addr} {od35 an35 : Option Addr} {sl35 : Array (Option Value)} {oc35 dc35 pm35 ct35 : Value} {cd35 : Value} {kV35 : Value} {f36 : Addr} {od36 an36 : Option Addr} {sl36 : Array (Option Value)} {oc36 dc36 pm36 ct36 : Value} {cd36 : Value} {kV36 : Value} {p36 : Addr} {rs36 : List Value} {f37 : Addr} {od37 an37 : Option Addr} {sl37 : Array (Option Value)} {oc37 dc37 pm37 ct37 : Value} {cd37 : Value} {kV37 : Value} {f38 : Addr} {od38 an38 : Option Addr} {sl38 : Array (Option Value)} {oc38 dc38 pm38 ct38 : Value} {cd38 : Value} {kV38 : Value} {f39 : Addr} {od39 an39 : Option Addr} {sl39 : Array (Option Value)} {oc39 dc39 pm39 ct39 : Value} {cd39 : Value} {kV39 : Value} {f40 : Addr} {od40 an40 : Option Addr} {sl40 : Array (Option Value)} {oc40 dc40 pm40 ct40 : Value} {cd40 : Value} {kV40 : Value} {f41 : Addr} {od41 an41 : Option Addr} {sl41 : Array (Option Value)} {oc41 dc41 pm41 ct41 : Value} {cd41 : Value} {kV41 : Value} {f42 : Addr} {od42 an42 : Option Addr} {sl42 : Array (Option Value)} {oc42 dc42 pm42 ct42 : Value} {cd42 : Value} {kV42 : Value} {f43 : Addr} {od43 an43 : Option Addr} {sl43 : Array (Option Value)} {oc43 dc43 pm43 ct43 : Value} {cd43 : Value} {kV43 : Value} {f44 : Addr} {od44 an44 : Option Addr} {sl44 : Array (Option Value)} {oc44 dc44 pm44 ct44 : Value} {cd44 : Value} {kV44 : Value} {f45 : Addr} {od45 an45 : Option Addr} {sl45 : Array (Option Value)} {oc45 dc45 pm45 ct45 : Value} {cd45 : Value} {kV45 : Value} {f46 : Addr} {od46 an46 : Option Addr} {sl46 : Array (Option Value)} {oc46 dc46 pm46 ct46 : Value} {cd46 : Value} {kV46 : Value} {f47 : Addr} {od47 an47 : Option Addr} {sl47 : Array (Option Value)} {oc47 dc47 pm47 ct47 : Value} {cd47 : Value} {kV47 : Value} {f48 : Addr} {od48 an48 : Option Addr} {sl48 : Array (Option Value)} {oc48 dc48 pm48 ct48 : Value} {cd48 : Value} {kV48 : Value}  (X : K.In h) (G : h.Ns mainGlobals mg) (hfa : mg "law" = some (.ref fa))
    (aCRatio : PySem.W.nsIn K mainGlobals "Ratio" = some (some (.ref C_Ratio)))
    (pgRatio : PySem.W.plainGet K C_Ratio Str.empty = true)
    (hdRatio : PySem.W.hasDictIn K C_Ratio = true)
    (poRatio : PySem.W.plainOver K C_Ratio = true)
    (saRatio : PySem.W.findIn K (.ref C_Ratio) "__setattr__" = some (some (.builtin "object.__setattr__")))
    (haRatio : PySem.W.findIn K (.ref C_Ratio) "__class__" = some (some (.builtin "object.__class__")))
    (hnRatio : PySem.W.specialIn K (.builtin "object.__class__") "__get__" = some (some (.builtin "getset_descriptor.__get__")))
    (tkRatio : PySem.W.takesIn K (.builtin "object.__class__") = some true)
    (hmRatio : PySem.W.mroIn K C_Ratio (.type "object") = some true)
    (mkRatio : PySem.W.makesIn K C_Ratio = true)
    (kcRatio : PySem.W.keepIn K (.ref C_Ratio) = true)
    (nRatiokept_top : PySem.W.findIn K (.ref C_Ratio) "kept_top" = some none)
    (nRatiokept_bottom : PySem.W.findIn K (.ref C_Ratio) "kept_bottom" = some none)
    (icRatio : PySem.W.isClsIn K C_Ratio = true)
    (tyRatio : PySem.W.typeIn K (.ref C_Ratio) = some (.type "type"))
    (qoRatioint : PySem.W.subIn K (.ref C_Ratio) (.type "int") = some false)
    (qoRatiobool : PySem.W.subIn K (.ref C_Ratio) (.type "bool") = some false)
    (qiRatioint : PySem.W.subIn K (.type "int") (.ref C_Ratio) = some false)
    (qiRatiobool : PySem.W.subIn K (.type "bool") (.ref C_Ratio) = some false)
    (qiRatiostr : PySem.W.subIn K (.type "str") (.ref C_Ratio) = some false)
    (qiRatiolist : PySem.W.subIn K (.type "list") (.ref C_Ratio) = some false)
    (qiRatiotuple : PySem.W.subIn K (.type "tuple") (.ref C_Ratio) = some false)
    (qiRatiodict : PySem.W.subIn K (.type "dict") (.ref C_Ratio) = some false)
    (qiRatioNoneType : PySem.W.subIn K (.type "NoneType") (.ref C_Ratio) = some false)
    (rdRatio : PySem.W.readsIn K C_Ratio (.type "type") = true)
    (rgRatio : PySem.W.specialIn K (.ref C_Ratio) "__getattribute__" = some (some (.builtin "type.__getattribute__")))
    (wRatioint : PySem.W.notFirst K C_Ratio (.type "int") = true)
    (wRatiobool : PySem.W.notFirst K C_Ratio (.type "bool") = true)
    (wRatiostr : PySem.W.notFirst K C_Ratio (.type "str") = true)
    (wRatiolist : PySem.W.notFirst K C_Ratio (.type "list") = true)
    (wRatiotuple : PySem.W.notFirst K C_Ratio (.type "tuple") = true)
    (wRatiodict : PySem.W.notFirst K C_Ratio (.type "dict") = true)
    (wRatioNoneType : PySem.W.notFirst K C_Ratio (.type "NoneType") = true)
    (sfRatio : PySem.W.selfFirst K C_Ratio = true)
    (nfRatio : PySem.W.notFirst K C_Ratio (.type "int") = true)
    (siRatio : PySem.W.subIn K (.ref C_Ratio) (.type "int") = some false)
    (isRatio : PySem.W.subIn K (.type "int") (.ref C_Ratio) = some false)
    (fo_Ratioadd : PySem.W.findIn K (.type "int") "__add__" = some foRatioadd)
    (ro_Ratioadd : PySem.W.findIn K (.type "int") "__radd__" = some roRatioadd)
    (fo_Ratiosub : PySem.W.findIn K (.type "int") "__sub__" = some foRatiosub)
    (ro_Ratiosub : PySem.W.findIn K (.type "int") "__rsub__" = some roRatiosub)
    (fo_Ratiomul : PySem.W.findIn K (.type "int") "__mul__" = some foRatiomul)
    (ro_Ratiomul : PySem.W.findIn K (.type "int") "__rmul__" = some roRatiomul)
    (aCRanges : PySem.W.nsIn K mainGlobals "Ranges" = some (some (.ref C_Ranges)))
    (pgRanges : PySem.W.plainGet K C_Ranges Str.empty = true)
    (hdRanges : PySem.W.hasDictIn K C_Ranges = true)
    (poRanges : PySem.W.plainOver K C_Ranges = true)
    (saRanges : PySem.W.findIn K (.ref C_Ranges) "__setattr__" = some (some (.builtin "object.__setattr__")))
    (haRanges : PySem.W.findIn K (.ref C_Ranges) "__class__" = some (some (.builtin "object.__class__")))
    (hnRanges : PySem.W.specialIn K (.builtin "object.__class__") "__get__" = some (some (.builtin "getset_descriptor.__get__")))
    (tkRanges : PySem.W.takesIn K (.builtin "object.__class__") = some true)
    (hmRanges : PySem.W.mroIn K C_Ranges (.type "object") = some true)
    (mkRanges : PySem.W.makesIn K C_Ranges = true)
    (kcRanges : PySem.W.keepIn K (.ref C_Ranges) = true)
    (nRangeskept_parts : PySem.W.findIn K (.ref C_Ranges) "kept_parts" = some none)
    (icRanges : PySem.W.isClsIn K C_Ranges = true)
    (tyRanges : PySem.W.typeIn K (.ref C_Ranges) = some (.type "type"))
    (qoRangesint : PySem.W.subIn K (.ref C_Ranges) (.type "int") = some false)
    (qoRangesbool : PySem.W.subIn K (.ref C_Ranges) (.type "bool") = some false)
    (qiRangesint : PySem.W.subIn K (.type "int") (.ref C_Ranges) = some false)
    (qiRangesbool : PySem.W.subIn K (.type "bool") (.ref C_Ranges) = some false)
    (qiRangesstr : PySem.W.subIn K (.type "str") (.ref C_Ranges) = some false)
    (qiRangeslist : PySem.W.subIn K (.type "list") (.ref C_Ranges) = some false)
    (qiRangestuple : PySem.W.subIn K (.type "tuple") (.ref C_Ranges) = some false)
    (qiRangesdict : PySem.W.subIn K (.type "dict") (.ref C_Ranges) = some false)
    (qiRangesNoneType : PySem.W.subIn K (.type "NoneType") (.ref C_Ranges) = some false)
    (rdRanges : PySem.W.readsIn K C_Ranges (.type "type") = true)
    (rgRanges : PySem.W.specialIn K (.ref C_Ranges) "__getattribute__" = some (some (.builtin "type.__getattribute__")))
    (wRangesint : PySem.W.notFirst K C_Ranges (.type "int") = true)
    (wRangesbool : PySem.W.notFirst K C_Ranges (.type "bool") = true)
    (wRangesstr : PySem.W.notFirst K C_Ranges (.type "str") = true)
    (wRangeslist : PySem.W.notFirst K C_Ranges (.type "list") = true)
    (wRangestuple : PySem.W.notFirst K C_Ranges (.type "tuple") = true)
    (wRangesdict : PySem.W.notFirst K C_Ranges (.type "dict") = true)
    (wRangesNoneType : PySem.W.notFirst K C_Ranges (.type "NoneType") = true)
    (sfRanges : PySem.W.selfFirst K C_Ranges = true)
    (nfRanges : PySem.W.notFirst K C_Ranges (.type "int") = true)
    (siRanges : PySem.W.subIn K (.ref C_Ranges) (.type "int") = some false)
    (isRanges : PySem.W.subIn K (.type "int") (.ref C_Ranges) = some false)
    (a1 : PySem.W.nsIn K mainGlobals "is_integer" = some (some (.ref f1)))
    (l1 : K.lookup f1 = some ⟨oc1, od1, .func (PySem.W.fnOf "is_integer" "is_integer" (defArgs sIsInteger) (defBody sIsInteger) (defScope sIsInteger) .none kV1 dc1 pm1 an1 cd1 ct1), sl1⟩)
    (c1 : PySem.W.codeIn K cd1 "is_integer" = true)
    (k1 : PySem.W.keepIn K (.ref f1) = true)
    (a2 : PySem.W.nsIn K mainGlobals "common_divisor" = some (some (.ref f2)))
    (l2 : K.lookup f2 = some ⟨oc2, od2, .func (PySem.W.fnOf "common_divisor" "common_divisor" (defArgs sCommonDivisor) (defBody sCommonDivisor) (defScope sCommonDivisor) .none kV2 dc2 pm2 an2 cd2 ct2), sl2⟩)
    (c2 : PySem.W.codeIn K cd2 "common_divisor" = true)
    (k2 : PySem.W.keepIn K (.ref f2) = true)
    (a3 : PySem.W.findIn K (.ref C_Ratio) "__init__" = some (some (.ref f3)))
    (i3 : PySem.W.isFn K (.ref f3) = true)
    (l3 : K.lookup f3 = some ⟨oc3, od3, .func (PySem.W.fnOf "__init__" "Ratio.__init__" (defArgs sRatioInit) (defBody sRatioInit) (defScope sRatioInit) (.ref T3) kV3 dc3 pm3 an3 cd3 ct3), sl3⟩)
    (c3 : PySem.W.codeIn K cd3 "Ratio.__init__" = true)
    (k3 : PySem.W.keepIn K (.ref f3) = true)
    (lt3 : K.lookup T3 = some ⟨tc3, tD3, .seq #[.int 1 tk3_0] nn3, ts3⟩)
    (a4 : PySem.W.findIn K (.ref C_Ratio) "top" = some (some (.ref p4)))
    (g4 : PySem.W.specialIn K (.ref p4) "__get__" = some (some (.builtin "property.__get__")))
    (tp4 : PySem.W.takesIn K (.ref p4) = some true)
    (r4 : PySem.W.recIn K p4 "property" = some (.ref f4 :: rs4))
    (l4 : K.lookup f4 = some ⟨oc4, od4, .func (PySem.W.fnOf "top" "Ratio.top" (defArgs sRatioTop) (defBody sRatioTop) (defScope sRatioTop) .none kV4 dc4 pm4 an4 cd4 ct4), sl4⟩)
    (c4 : PySem.W.codeIn K cd4 "Ratio.top" = true)
    (k4 : PySem.W.keepIn K (.ref f4) = true)
    (a5 : PySem.W.findIn K (.ref C_Ratio) "bottom" = some (some (.ref p5)))
    (g5 : PySem.W.specialIn K (.ref p5) "__get__" = some (some (.builtin "property.__get__")))
    (tp5 : PySem.W.takesIn K (.ref p5) = some true)
    (r5 : PySem.W.recIn K p5 "property" = some (.ref f5 :: rs5))
    (l5 : K.lookup f5 = some ⟨oc5, od5, .func (PySem.W.fnOf "bottom" "Ratio.bottom" (defArgs sRatioBottom) (defBody sRatioBottom) (defScope sRatioBottom) .none kV5 dc5 pm5 an5 cd5 ct5), sl5⟩)
    (c5 : PySem.W.codeIn K cd5 "Ratio.bottom" = true)
    (k5 : PySem.W.keepIn K (.ref f5) = true)
    (a6 : PySem.W.findCls K (.ref C_Ratio) (.type "type") "middle" = some (.get (.builtin "staticmethod.__get__") (.ref p6) .none (.ref C_Ratio)))
    (r6 : PySem.W.recIn K p6 "staticmethod" = some (.ref f6 :: rs6))
    (l6 : K.lookup f6 = some ⟨oc6, od6, .func (PySem.W.fnOf "middle" "Ratio.middle" (defArgs sRatioMiddle) (defBody sRatioMiddle) (defScope sRatioMiddle) .none kV6 dc6 pm6 an6 cd6 ct6), sl6⟩)
    (c6 : PySem.W.codeIn K cd6 "Ratio.middle" = true)
    (k6 : PySem.W.keepIn K (.ref f6) = true)
    (a7 : PySem.W.findIn K (.ref C_Ratio) "divided" = some (some (.ref f7)))
    (i7 : PySem.W.isFn K (.ref f7) = true)
    (l7 : K.lookup f7 = some ⟨oc7, od7, .func (PySem.W.fnOf "divided" "Ratio.divided" (defArgs sRatioDivided) (defBody sRatioDivided) (defScope sRatioDivided) .none kV7 dc7 pm7 an7 cd7 ct7), sl7⟩)
    (c7 : PySem.W.codeIn K cd7 "Ratio.divided" = true)
    (k7 : PySem.W.keepIn K (.ref f7) = true)
    (a8 : PySem.W.findIn K (.ref C_Ratio) "__add__" = some (some (.ref f8)))
    (i8 : PySem.W.isFn K (.ref f8) = true)
    (l8 : K.lookup f8 = some ⟨oc8, od8, .func (PySem.W.fnOf "__add__" "Ratio.__add__" (defArgs sRatioAdd) (defBody sRatioAdd) (defScope sRatioAdd) .none kV8 dc8 pm8 an8 cd8 ct8), sl8⟩)
    (c8 : PySem.W.codeIn K cd8 "Ratio.__add__" = true)
    (k8 : PySem.W.keepIn K (.ref f8) = true)
    (a9 : PySem.W.findIn K (.ref C_Ratio) "__radd__" = some (some (.ref f9)))
    (i9 : PySem.W.isFn K (.ref f9) = true)
    (l9 : K.lookup f9 = some ⟨oc9, od9, .func (PySem.W.fnOf "__radd__" "Ratio.__radd__" (defArgs sRatioRadd) (defBody sRatioRadd) (defScope sRatioRadd) .none kV9 dc9 pm9 an9 cd9 ct9), sl9⟩)
    (c9 : PySem.W.codeIn K cd9 "Ratio.__radd__" = true)
    (k9 : PySem.W.keepIn K (.ref f9) = true)
    (a10 : PySem.W.findIn K (.ref C_Ratio) "__sub__" = some (some (.ref f10)))
    (i10 : PySem.W.isFn K (.ref f10) = true)
    (l10 : K.lookup f10 = some ⟨oc10, od10, .func (PySem.W.fnOf "__sub__" "Ratio.__sub__" (defArgs sRatioSub) (defBody sRatioSub) (defScope sRatioSub) .none kV10 dc10 pm10 an10 cd10 ct10), sl10⟩)
    (c10 : PySem.W.codeIn K cd10 "Ratio.__sub__" = true)
    (k10 : PySem.W.keepIn K (.ref f10) = true)
    (a11 : PySem.W.findIn K (.ref C_Ratio) "__rsub__" = some (some (.ref f11)))
    (i11 : PySem.W.isFn K (.ref f11) = true)
    (l11 : K.lookup f11 = some ⟨oc11, od11, .func (PySem.W.fnOf "__rsub__" "Ratio.__rsub__" (defArgs sRatioRsub) (defBody sRatioRsub) (defScope sRatioRsub) .none kV11 dc11 pm11 an11 cd11 ct11), sl11⟩)
    (c11 : PySem.W.codeIn K cd11 "Ratio.__rsub__" = true)
    (k11 : PySem.W.keepIn K (.ref f11) = true)
    (a12 : PySem.W.findIn K (.ref C_Ratio) "__mul__" = some (some (.ref f12)))
    (i12 : PySem.W.isFn K (.ref f12) = true)
    (l12 : K.lookup f12 = some ⟨oc12, od12, .func (PySem.W.fnOf "__mul__" "Ratio.__mul__" (defArgs sRatioMul) (defBody sRatioMul) (defScope sRatioMul) .none kV12 dc12 pm12 an12 cd12 ct12), sl12⟩)
    (c12 : PySem.W.codeIn K cd12 "Ratio.__mul__" = true)
    (k12 : PySem.W.keepIn K (.ref f12) = true)
    (a13 : PySem.W.findIn K (.ref C_Ratio) "__rmul__" = some (some (.ref f13)))
    (i13 : PySem.W.isFn K (.ref f13) = true)
    (l13 : K.lookup f13 = some ⟨oc13, od13, .func (PySem.W.fnOf "__rmul__" "Ratio.__rmul__" (defArgs sRatioRmul) (defBody sRatioRmul) (defScope sRatioRmul) .none kV13 dc13 pm13 an13 cd13 ct13), sl13⟩)
    (c13 : PySem.W.codeIn K cd13 "Ratio.__rmul__" = true)
    (k13 : PySem.W.keepIn K (.ref f13) = true)
    (a14 : PySem.W.findIn K (.ref C_Ratio) "__eq__" = some (some (.ref f14)))
    (i14 : PySem.W.isFn K (.ref f14) = true)
    (l14 : K.lookup f14 = some ⟨oc14, od14, .func (PySem.W.fnOf "__eq__" "Ratio.__eq__" (defArgs sRatioEq) (defBody sRatioEq) (defScope sRatioEq) .none kV14 dc14 pm14 an14 cd14 ct14), sl14⟩)
    (c14 : PySem.W.codeIn K cd14 "Ratio.__eq__" = true)
    (k14 : PySem.W.keepIn K (.ref f14) = true)
    (a15 : PySem.W.findIn K (.ref C_Ratio) "__lt__" = some (some (.ref f15)))
    (i15 : PySem.W.isFn K (.ref f15) = true)
    (l15 : K.lookup f15 = some ⟨oc15, od15, .func (PySem.W.fnOf "__lt__" "Ratio.__lt__" (defArgs sRatioLt) (defBody sRatioLt) (defScope sRatioLt) .none kV15 dc15 pm15 an15 cd15 ct15), sl15⟩)
    (c15 : PySem.W.codeIn K cd15 "Ratio.__lt__" = true)
    (k15 : PySem.W.keepIn K (.ref f15) = true)
    (a16 : PySem.W.findIn K (.ref C_Ratio) "__le__" = some (some (.ref f16)))
    (i16 : PySem.W.isFn K (.ref f16) = true)
    (l16 : K.lookup f16 = some ⟨oc16, od16, .func (PySem.W.fnOf "__le__" "Ratio.__le__" (defArgs sRatioLe) (defBody sRatioLe) (defScope sRatioLe) .none kV16 dc16 pm16 an16 cd16 ct16), sl16⟩)
    (c16 : PySem.W.codeIn K cd16 "Ratio.__le__" = true)
    (k16 : PySem.W.keepIn K (.ref f16) = true)
    (a17 : PySem.W.findIn K (.ref C_Ratio) "__gt__" = some (some (.ref f17)))
    (i17 : PySem.W.isFn K (.ref f17) = true)
    (l17 : K.lookup f17 = some ⟨oc17, od17, .func (PySem.W.fnOf "__gt__" "Ratio.__gt__" (defArgs sRatioGt) (defBody sRatioGt) (defScope sRatioGt) .none kV17 dc17 pm17 an17 cd17 ct17), sl17⟩)
    (c17 : PySem.W.codeIn K cd17 "Ratio.__gt__" = true)
    (k17 : PySem.W.keepIn K (.ref f17) = true)
    (a18 : PySem.W.findIn K (.ref C_Ratio) "__ge__" = some (some (.ref f18)))
    (i18 : PySem.W.isFn K (.ref f18) = true)
    (l18 : K.lookup f18 = some ⟨oc18, od18, .func (PySem.W.fnOf "__ge__" "Ratio.__ge__" (defArgs sRatioGe) (defBody sRatioGe) (defScope sRatioGe) .none kV18 dc18 pm18 an18 cd18 ct18), sl18⟩)
    (c18 : PySem.W.codeIn K cd18 "Ratio.__ge__" = true)
    (k18 : PySem.W.keepIn K (.ref f18) = true)
    (a19 : PySem.W.nsIn K mainGlobals "is_number" = some (some (.ref f19)))
    (l19 : K.lookup f19 = some ⟨oc19, od19, .func (PySem.W.fnOf "is_number" "is_number" (defArgs sIsNumber) (defBody sIsNumber) (defScope sIsNumber) .none kV19 dc19 pm19 an19 cd19 ct19), sl19⟩)
    (c19 : PySem.W.codeIn K cd19 "is_number" = true)
    (k19 : PySem.W.keepIn K (.ref f19) = true)
    (a20 : PySem.W.nsIn K mainGlobals "ratio_of" = some (some (.ref f20)))
    (l20 : K.lookup f20 = some ⟨oc20, od20, .func (PySem.W.fnOf "ratio_of" "ratio_of" (defArgs sRatioOf) (defBody sRatioOf) (defScope sRatioOf) .none kV20 dc20 pm20 an20 cd20 ct20), sl20⟩)
    (c20 : PySem.W.codeIn K cd20 "ratio_of" = true)
    (k20 : PySem.W.keepIn K (.ref f20) = true)
    (a21 : PySem.W.nsIn K mainGlobals "is_range" = some (some (.ref f21)))
    (l21 : K.lookup f21 = some ⟨oc21, od21, .func (PySem.W.fnOf "is_range" "is_range" (defArgs sIsRange) (defBody sIsRange) (defScope sIsRange) .none kV21 dc21 pm21 an21 cd21 ct21), sl21⟩)
    (c21 : PySem.W.codeIn K cd21 "is_range" = true)
    (k21 : PySem.W.keepIn K (.ref f21) = true)
    (a22 : PySem.W.nsIn K mainGlobals "ascend" = some (some (.ref f22)))
    (l22 : K.lookup f22 = some ⟨oc22, od22, .func (PySem.W.fnOf "ascend" "ascend" (defArgs sAscend) (defBody sAscend) (defScope sAscend) .none kV22 dc22 pm22 an22 cd22 ct22), sl22⟩)
    (c22 : PySem.W.codeIn K cd22 "ascend" = true)
    (k22 : PySem.W.keepIn K (.ref f22) = true)
    (a23 : PySem.W.nsIn K mainGlobals "in_ratios" = some (some (.ref f23)))
    (l23 : K.lookup f23 = some ⟨oc23, od23, .func (PySem.W.fnOf "in_ratios" "in_ratios" (defArgs sInRatios) (defBody sInRatios) (defScope sInRatios) .none kV23 dc23 pm23 an23 cd23 ct23), sl23⟩)
    (c23 : PySem.W.codeIn K cd23 "in_ratios" = true)
    (k23 : PySem.W.keepIn K (.ref f23) = true)
    (a24 : PySem.W.nsIn K mainGlobals "common_part" = some (some (.ref f24)))
    (l24 : K.lookup f24 = some ⟨oc24, od24, .func (PySem.W.fnOf "common_part" "common_part" (defArgs sCommonPart) (defBody sCommonPart) (defScope sCommonPart) .none kV24 dc24 pm24 an24 cd24 ct24), sl24⟩)
    (c24 : PySem.W.codeIn K cd24 "common_part" = true)
    (k24 : PySem.W.keepIn K (.ref f24) = true)
    (a25 : PySem.W.nsIn K mainGlobals "merged" = some (some (.ref f25)))
    (l25 : K.lookup f25 = some ⟨oc25, od25, .func (PySem.W.fnOf "merged" "merged" (defArgs sMerged) (defBody sMerged) (defScope sMerged) .none kV25 dc25 pm25 an25 cd25 ct25), sl25⟩)
    (c25 : PySem.W.codeIn K cd25 "merged" = true)
    (k25 : PySem.W.keepIn K (.ref f25) = true)
    (a26 : PySem.W.nsIn K mainGlobals "in_order" = some (some (.ref f26)))
    (l26 : K.lookup f26 = some ⟨oc26, od26, .func (PySem.W.fnOf "in_order" "in_order" (defArgs sInOrder) (defBody sInOrder) (defScope sInOrder) .none kV26 dc26 pm26 an26 cd26 ct26), sl26⟩)
    (c26 : PySem.W.codeIn K cd26 "in_order" = true)
    (k26 : PySem.W.keepIn K (.ref f26) = true)
    (a27 : PySem.W.findIn K (.ref C_Ranges) "__init__" = some (some (.ref f27)))
    (i27 : PySem.W.isFn K (.ref f27) = true)
    (l27 : K.lookup f27 = some ⟨oc27, od27, .func (PySem.W.fnOf "__init__" "Ranges.__init__" (defArgs sRangesInit) (defBody sRangesInit) (defScope sRangesInit) (.ref T27) kV27 dc27 pm27 an27 cd27 ct27), sl27⟩)
    (c27 : PySem.W.codeIn K cd27 "Ranges.__init__" = true)
    (k27 : PySem.W.keepIn K (.ref f27) = true)
    (lt27 : K.lookup T27 = some ⟨tc27, tD27, .seq #[.ref u27_0] nn27, ts27⟩)
    (ul27_0 : K.lookup u27_0 = some ⟨.type "tuple", ud27_0, .seq #[] un27_0, us27_0⟩)
    (a28 : PySem.W.findIn K (.ref C_Ranges) "parts" = some (some (.ref p28)))
    (g28 : PySem.W.specialIn K (.ref p28) "__get__" = some (some (.builtin "property.__get__")))
    (tp28 : PySem.W.takesIn K (.ref p28) = some true)
    (r28 : PySem.W.recIn K p28 "property" = some (.ref f28 :: rs28))
    (l28 : K.lookup f28 = some ⟨oc28, od28, .func (PySem.W.fnOf "parts" "Ranges.parts" (defArgs sRangesParts) (defBody sRangesParts) (defScope sRangesParts) .none kV28 dc28 pm28 an28 cd28 ct28), sl28⟩)
    (c28 : PySem.W.codeIn K cd28 "Ranges.parts" = true)
    (k28 : PySem.W.keepIn K (.ref f28) = true)
    (a29 : PySem.W.findIn K (.ref C_Ranges) "__len__" = some (some (.ref f29)))
    (i29 : PySem.W.isFn K (.ref f29) = true)
    (l29 : K.lookup f29 = some ⟨oc29, od29, .func (PySem.W.fnOf "__len__" "Ranges.__len__" (defArgs sRangesLen) (defBody sRangesLen) (defScope sRangesLen) .none kV29 dc29 pm29 an29 cd29 ct29), sl29⟩)
    (c29 : PySem.W.codeIn K cd29 "Ranges.__len__" = true)
    (k29 : PySem.W.keepIn K (.ref f29) = true)
    (a30 : PySem.W.findIn K (.ref C_Ranges) "__bool__" = some (some (.ref f30)))
    (i30 : PySem.W.isFn K (.ref f30) = true)
    (l30 : K.lookup f30 = some ⟨oc30, od30, .func (PySem.W.fnOf "__bool__" "Ranges.__bool__" (defArgs sRangesBool) (defBody sRangesBool) (defScope sRangesBool) .none kV30 dc30 pm30 an30 cd30 ct30), sl30⟩)
    (c30 : PySem.W.codeIn K cd30 "Ranges.__bool__" = true)
    (k30 : PySem.W.keepIn K (.ref f30) = true)
    (a31 : PySem.W.findIn K (.ref C_Ranges) "__contains__" = some (some (.ref f31)))
    (i31 : PySem.W.isFn K (.ref f31) = true)
    (l31 : K.lookup f31 = some ⟨oc31, od31, .func (PySem.W.fnOf "__contains__" "Ranges.__contains__" (defArgs sRangesContains) (defBody sRangesContains) (defScope sRangesContains) .none kV31 dc31 pm31 an31 cd31 ct31), sl31⟩)
    (c31 : PySem.W.codeIn K cd31 "Ranges.__contains__" = true)
    (k31 : PySem.W.keepIn K (.ref f31) = true)
    (a32 : PySem.W.findIn K (.ref C_Ranges) "__iter__" = some (some (.ref f32)))
    (i32 : PySem.W.isFn K (.ref f32) = true)
    (l32 : K.lookup f32 = some ⟨oc32, od32, .func (PySem.W.fnOf "__iter__" "Ranges.__iter__" (defArgs sRangesIter) (defBody sRangesIter) (defScope sRangesIter) .none kV32 dc32 pm32 an32 cd32 ct32), sl32⟩)
    (c32 : PySem.W.codeIn K cd32 "Ranges.__iter__" = true)
    (k32 : PySem.W.keepIn K (.ref f32) = true)
    (a33 : PySem.W.findIn K (.ref C_Ranges) "__eq__" = some (some (.ref f33)))
    (i33 : PySem.W.isFn K (.ref f33) = true)
    (l33 : K.lookup f33 = some ⟨oc33, od33, .func (PySem.W.fnOf "__eq__" "Ranges.__eq__" (defArgs sRangesEq) (defBody sRangesEq) (defScope sRangesEq) .none kV33 dc33 pm33 an33 cd33 ct33), sl33⟩)
    (c33 : PySem.W.codeIn K cd33 "Ranges.__eq__" = true)
    (k33 : PySem.W.keepIn K (.ref f33) = true)
    (ne33 : PySem.W.findIn K (.ref C_Ranges) "__ne__" = some (some (.builtin "object.__ne__")))
    (a34 : PySem.W.findIn K (.ref C_Ranges) "common" = some (some (.ref f34)))
    (i34 : PySem.W.isFn K (.ref f34) = true)
    (l34 : K.lookup f34 = some ⟨oc34, od34, .func (PySem.W.fnOf "common" "Ranges.common" (defArgs sRangesCommon) (defBody sRangesCommon) (defScope sRangesCommon) .none kV34 dc34 pm34 an34 cd34 ct34), sl34⟩)
    (c34 : PySem.W.codeIn K cd34 "Ranges.common" = true)
    (k34 : PySem.W.keepIn K (.ref f34) = true)
    (a35 : PySem.W.findIn K (.ref C_Ranges) "joined" = some (some (.ref f35)))
    (i35 : PySem.W.isFn K (.ref f35) = true)
    (l35 : K.lookup f35 = some ⟨oc35, od35, .func (PySem.W.fnOf "joined" "Ranges.joined" (defArgs sRangesJoined) (defBody sRangesJoined) (defScope sRangesJoined) .none kV35 dc35 pm35 an35 cd35 ct35), sl35⟩)
    (c35 : PySem.W.codeIn K cd35 "Ranges.joined" = true)
    (k35 : PySem.W.keepIn K (.ref f35) = true)
    (a36 : PySem.W.findCls K (.ref C_Ranges) (.type "type") "whole" = some (.get (.builtin "classmethod.__get__") (.ref p36) .none (.ref C_Ranges)))
    (r36 : PySem.W.recIn K p36 "classmethod" = some (.ref f36 :: rs36))
    (l36 : K.lookup f36 = some ⟨oc36, od36, .func (PySem.W.fnOf "whole" "Ranges.whole" (defArgs sRangesWhole) (defBody sRangesWhole) (defScope sRangesWhole) .none kV36 dc36 pm36 an36 cd36 ct36), sl36⟩)
    (c36 : PySem.W.codeIn K cd36 "Ranges.whole" = true)
    (k36 : PySem.W.keepIn K (.ref f36) = true)
    (a37 : PySem.W.nsIn K mainGlobals "_law_pool" = some (some (.ref f37)))
    (l37 : K.lookup f37 = some ⟨oc37, od37, .func (PySem.W.fnOf "_law_pool" "_law_pool" (defArgs sLawPool) (defBody sLawPool) (defScope sLawPool) .none kV37 dc37 pm37 an37 cd37 ct37), sl37⟩)
    (c37 : PySem.W.codeIn K cd37 "_law_pool" = true)
    (k37 : PySem.W.keepIn K (.ref f37) = true)
    (a38 : PySem.W.nsIn K mainGlobals "_law_mixed" = some (some (.ref f38)))
    (l38 : K.lookup f38 = some ⟨oc38, od38, .func (PySem.W.fnOf "_law_mixed" "_law_mixed" (defArgs sLawMixed) (defBody sLawMixed) (defScope sLawMixed) .none kV38 dc38 pm38 an38 cd38 ct38), sl38⟩)
    (c38 : PySem.W.codeIn K cd38 "_law_mixed" = true)
    (k38 : PySem.W.keepIn K (.ref f38) = true)
    (a39 : PySem.W.nsIn K mainGlobals "_law_draw" = some (some (.ref f39)))
    (l39 : K.lookup f39 = some ⟨oc39, od39, .func (PySem.W.fnOf "_law_draw" "_law_draw" (defArgs sLawDraw) (defBody sLawDraw) (defScope sLawDraw) .none kV39 dc39 pm39 an39 cd39 ct39), sl39⟩)
    (c39 : PySem.W.codeIn K cd39 "_law_draw" = true)
    (k39 : PySem.W.keepIn K (.ref f39) = true)
    (a40 : PySem.W.nsIn K mainGlobals "_law_lowest" = some (some (.ref f40)))
    (l40 : K.lookup f40 = some ⟨oc40, od40, .func (PySem.W.fnOf "_law_lowest" "_law_lowest" (defArgs sLawLowest) (defBody sLawLowest) (defScope sLawLowest) .none kV40 dc40 pm40 an40 cd40 ct40), sl40⟩)
    (c40 : PySem.W.codeIn K cd40 "_law_lowest" = true)
    (k40 : PySem.W.keepIn K (.ref f40) = true)
    (a41 : PySem.W.nsIn K mainGlobals "_law_price" = some (some (.ref f41)))
    (l41 : K.lookup f41 = some ⟨oc41, od41, .func (PySem.W.fnOf "_law_price" "_law_price" (defArgs sLawPrice) (defBody sLawPrice) (defScope sLawPrice) .none kV41 dc41 pm41 an41 cd41 ct41), sl41⟩)
    (c41 : PySem.W.codeIn K cd41 "_law_price" = true)
    (k41 : PySem.W.keepIn K (.ref f41) = true)
    (a42 : PySem.W.nsIn K mainGlobals "_law_ranges_drawn" = some (some (.ref f42)))
    (l42 : K.lookup f42 = some ⟨oc42, od42, .func (PySem.W.fnOf "_law_ranges_drawn" "_law_ranges_drawn" (defArgs sLawRangesDrawn) (defBody sLawRangesDrawn) (defScope sLawRangesDrawn) .none kV42 dc42 pm42 an42 cd42 ct42), sl42⟩)
    (c42 : PySem.W.codeIn K cd42 "_law_ranges_drawn" = true)
    (k42 : PySem.W.keepIn K (.ref f42) = true)
    (a43 : PySem.W.nsIn K mainGlobals "_law_holds" = some (some (.ref f43)))
    (l43 : K.lookup f43 = some ⟨oc43, od43, .func (PySem.W.fnOf "_law_holds" "_law_holds" (defArgs sLawHolds) (defBody sLawHolds) (defScope sLawHolds) .none kV43 dc43 pm43 an43 cd43 ct43), sl43⟩)
    (c43 : PySem.W.codeIn K cd43 "_law_holds" = true)
    (k43 : PySem.W.keepIn K (.ref f43) = true)
    (a44 : PySem.W.nsIn K mainGlobals "_law_probes" = some (some (.ref f44)))
    (l44 : K.lookup f44 = some ⟨oc44, od44, .func (PySem.W.fnOf "_law_probes" "_law_probes" (defArgs sLawProbes) (defBody sLawProbes) (defScope sLawProbes) .none kV44 dc44 pm44 an44 cd44 ct44), sl44⟩)
    (c44 : PySem.W.codeIn K cd44 "_law_probes" = true)
    (k44 : PySem.W.keepIn K (.ref f44) = true)
    (a45 : PySem.W.nsIn K mainGlobals "_law_apart" = some (some (.ref f45)))
    (l45 : K.lookup f45 = some ⟨oc45, od45, .func (PySem.W.fnOf "_law_apart" "_law_apart" (defArgs sLawApart) (defBody sLawApart) (defScope sLawApart) .none kV45 dc45 pm45 an45 cd45 ct45), sl45⟩)
    (c45 : PySem.W.codeIn K cd45 "_law_apart" = true)
    (k45 : PySem.W.keepIn K (.ref f45) = true)
    (a46 : PySem.W.nsIn K mainGlobals "_law_right" = some (some (.ref f46)))
    (l46 : K.lookup f46 = some ⟨oc46, od46, .func (PySem.W.fnOf "_law_right" "_law_right" (defArgs sLawRight) (defBody sLawRight) (defScope sLawRight) .none kV46 dc46 pm46 an46 cd46 ct46), sl46⟩)
    (c46 : PySem.W.codeIn K cd46 "_law_right" = true)
    (k46 : PySem.W.keepIn K (.ref f46) = true)
    (a47 : PySem.W.nsIn K mainGlobals "_law_shifted" = some (some (.ref f47)))
    (l47 : K.lookup f47 = some ⟨oc47, od47, .func (PySem.W.fnOf "_law_shifted" "_law_shifted" (defArgs sLawShifted) (defBody sLawShifted) (defScope sLawShifted) .none kV47 dc47 pm47 an47 cd47 ct47), sl47⟩)
    (c47 : PySem.W.codeIn K cd47 "_law_shifted" = true)
    (k47 : PySem.W.keepIn K (.ref f47) = true)
    (a48 : PySem.W.nsIn K mainGlobals "law" = some (some (.ref f48)))
    (l48 : K.lookup f48 = some ⟨oc48, od48, .func (PySem.W.fnOf "law" "law" (defArgs sLaw) (defBody sLaw) (defScope sLaw) .none kV48 dc48 pm48 an48 cd48 ct48), sl48⟩)
    (c48 : PySem.W.codeIn K cd48 "law" = true)
    (k48 : PySem.W.keepIn K (.ref f48) = true)
    (z0 : PySem.W.nsIn K mainGlobals "isinstance" = some none)
    (z1 : PySem.W.nsIn K mainGlobals "int" = some none)
    (z2 : PySem.W.nsIn K mainGlobals "bool" = some none)
    (z3 : PySem.W.nsIn K mainGlobals "abs" = some none)
    (z7 : PySem.W.nsIn K mainGlobals "property" = some none)
    (z8 : PySem.W.nsIn K mainGlobals "staticmethod" = some none)
    (z12 : PySem.W.nsIn K mainGlobals "NotImplemented" = some none)
    (z13 : PySem.W.nsIn K mainGlobals "tuple" = some none)
    (z14 : PySem.W.nsIn K mainGlobals "len" = some none)
    (z15 : PySem.W.nsIn K mainGlobals "zip" = some none)
    (z19 : PySem.W.nsIn K mainGlobals "all" = some none)
    (z20 : PySem.W.nsIn K mainGlobals "list" = some none)
    (z22 : PySem.W.nsIn K mainGlobals "iter" = some none)
    (z27 : PySem.W.nsIn K mainGlobals "classmethod" = some none)
    (z31 : PySem.W.nsIn K mainGlobals "range" = some none) :
    ∃ fd : FuncData, (∀ (s : Shared) (v : Value), BindsTo s fd ⟨[v], []⟩ [("_law_script", v)]) ∧ ∀ base : Heap, K.In base → base.Ns mainGlobals mg → FnOk l.prog w K mg base CX0 15 fa fd ["_law_script"] (spLaw K) := by
  have e := hfa.symm.trans (PySem.W.mg_of X G a48)
  cases e
  have F1 := fun_mk (st := sIsInteger) l1 c1 k1
  have b1 := F1.binds (ps := ["value"]) fun _ _ _ _ _ _ us hl => match us, hl with | [_], _ => rfl
  have F2 := fun_mk (st := sCommonDivisor) l2 c2 k2
  have b2 := F2.binds (ps := ["first", "second"]) fun _ _ _ _ _ _ us hl => match us, hl with | [_, _], _ => rfl
  have F3 : FunD K "__init__" "Ratio.__init__" (defArgs sRatioInit) (defBody sRatioInit) (defScope sRatioInit) [.int 1] [] f3 (PySem.W.fnOf "__init__" "Ratio.__init__" (defArgs sRatioInit) (defBody sRatioInit) (defScope sRatioInit) (.ref T3) kV3 dc3 pm3 an3 cd3 ct3) := ⟨⟨_, _, _, _, _, _, _, _, _, _, rfl, l3, c3, Or.inr ⟨by simp, _, _, _, _, rfl, lt3, rfl, (.cons ⟨_, rfl⟩ .nil)⟩, Or.inl rfl⟩, k3⟩
  have b3 : Binds K (PySem.W.fnOf "__init__" "Ratio.__init__" (defArgs sRatioInit) (defBody sRatioInit) (defScope sRatioInit) (.ref T3) kV3 dc3 pm3 an3 cd3 ct3) ["self", "top", "bottom"] [] := by
    obtain ⟨ds, v, b⟩ := F3.binds1 (ps := ["self", "top", "bottom"]) 3 1 (by simp) (by first | decide | rfl) fun _ _ _ _ _ _ _ us its h1 h2 => match us, its, h1, h2 with | [_, _, _], [_], _, _ => ⟨_, rfl, rfl⟩
    cases v
    exact b
  have e1_3 := F3.binds1 (ps := ["self", "top", "bottom"]) 2 0 (by simp) (by first | decide | rfl) fun _ _ _ _ _ _ _ us its h1 h2 => match us, its, h1, h2 with | [_, _], [_], _, _ => ⟨_, rfl, rfl⟩
  have F4 := fun_mk (st := sRatioTop) l4 c4 k4
  have b4 := F4.binds (ps := ["self"]) fun _ _ _ _ _ _ us hl => match us, hl with | [_], _ => rfl
  have F5 := fun_mk (st := sRatioBottom) l5 c5 k5
  have b5 := F5.binds (ps := ["self"]) fun _ _ _ _ _ _ us hl => match us, hl with | [_], _ => rfl
  have F6 := fun_mk (st := sRatioMiddle) l6 c6 k6
  have b6 := F6.binds (ps := ["first", "second"]) fun _ _ _ _ _ _ us hl => match us, hl with | [_, _], _ => rfl
  have F7 := fun_mk (st := sRatioDivided) l7 c7 k7
  have b7 := F7.binds (ps := ["self", "other"]) fun _ _ _ _ _ _ us hl => match us, hl with | [_, _], _ => rfl
  have F8 := fun_mk (st := sRatioAdd) l8 c8 k8
  have b8 := F8.binds (ps := ["self", "other"]) fun _ _ _ _ _ _ us hl => match us, hl with | [_, _], _ => rfl
  have F9 := fun_mk (st := sRatioRadd) l9 c9 k9
  have b9 := F9.binds (ps := ["self", "other"]) fun _ _ _ _ _ _ us hl => match us, hl with | [_, _], _ => rfl
  have F10 := fun_mk (st := sRatioSub) l10 c10 k10
  have b10 := F10.binds (ps := ["self", "other"]) fun _ _ _ _ _ _ us hl => match us, hl with | [_, _], _ => rfl
  have F11 := fun_mk (st := sRatioRsub) l11 c11 k11
  have b11 := F11.binds (ps := ["self", "other"]) fun _ _ _ _ _ _ us hl => match us, hl with | [_, _], _ => rfl
  have F12 := fun_mk (st := sRatioMul) l12 c12 k12
  have b12 := F12.binds (ps := ["self", "other"]) fun _ _ _ _ _ _ us hl => match us, hl with | [_, _], _ => rfl
  have F13 := fun_mk (st := sRatioRmul) l13 c13 k13
  have b13 := F13.binds (ps := ["self", "other"]) fun _ _ _ _ _ _ us hl => match us, hl with | [_, _], _ => rfl
  have F14 := fun_mk (st := sRatioEq) l14 c14 k14
  have b14 := F14.binds (ps := ["self", "other"]) fun _ _ _ _ _ _ us hl => match us, hl with | [_, _], _ => rfl
  have F15 := fun_mk (st := sRatioLt) l15 c15 k15
  have b15 := F15.binds (ps := ["self", "other"]) fun _ _ _ _ _ _ us hl => match us, hl with | [_, _], _ => rfl
  have F16 := fun_mk (st := sRatioLe) l16 c16 k16
  have b16 := F16.binds (ps := ["self", "other"]) fun _ _ _ _ _ _ us hl => match us, hl with | [_, _], _ => rfl
  have F17 := fun_mk (st := sRatioGt) l17 c17 k17
  have b17 := F17.binds (ps := ["self", "other"]) fun _ _ _ _ _ _ us hl => match us, hl with | [_, _], _ => rfl
  have F18 := fun_mk (st := sRatioGe) l18 c18 k18
  have b18 := F18.binds (ps := ["self", "other"]) fun _ _ _ _ _ _ us hl => match us, hl with | [_, _], _ => rfl
  have F19 := fun_mk (st := sIsNumber) l19 c19 k19
  have b19 := F19.binds (ps := ["value"]) fun _ _ _ _ _ _ us hl => match us, hl with | [_], _ => rfl
  have F20 := fun_mk (st := sRatioOf) l20 c20 k20
  have b20 := F20.binds (ps := ["number"]) fun _ _ _ _ _ _ us hl => match us, hl with | [_], _ => rfl
  have F21 := fun_mk (st := sIsRange) l21 c21 k21
  have b21 := F21.binds (ps := ["value"]) fun _ _ _ _ _ _ us hl => match us, hl with | [_], _ => rfl
  have F22 := fun_mk (st := sAscend) l22 c22 k22
  have b22 := F22.binds (ps := ["parts"]) fun _ _ _ _ _ _ us hl => match us, hl with | [_], _ => rfl
  have F23 := fun_mk (st := sInRatios) l23 c23 k23
  have b23 := F23.binds (ps := ["part"]) fun _ _ _ _ _ _ us hl => match us, hl with | [_], _ => rfl
  have F24 := fun_mk (st := sCommonPart) l24 c24 k24
  have b24 := F24.binds (ps := ["one", "other"]) fun _ _ _ _ _ _ us hl => match us, hl with | [_, _], _ => rfl
  have F25 := fun_mk (st := sMerged) l25 c25 k25
  have b25 := F25.binds (ps := ["parts"]) fun _ _ _ _ _ _ us hl => match us, hl with | [_], _ => rfl
  have F26 := fun_mk (st := sInOrder) l26 c26 k26
  have b26 := F26.binds (ps := ["one", "other"]) fun _ _ _ _ _ _ us hl => match us, hl with | [_, _], _ => rfl
  have F27 : FunD K "__init__" "Ranges.__init__" (defArgs sRangesInit) (defBody sRangesInit) (defScope sRangesInit) [.ref u27_0] [] f27 (PySem.W.fnOf "__init__" "Ranges.__init__" (defArgs sRangesInit) (defBody sRangesInit) (defScope sRangesInit) (.ref T27) kV27 dc27 pm27 an27 cd27 ct27) := ⟨⟨_, _, _, _, _, _, _, _, _, _, rfl, l27, c27, Or.inr ⟨by simp, _, _, _, _, rfl, lt27, rfl, (.cons rfl .nil)⟩, Or.inl rfl⟩, k27⟩
  have b27 : Binds K (PySem.W.fnOf "__init__" "Ranges.__init__" (defArgs sRangesInit) (defBody sRangesInit) (defScope sRangesInit) (.ref T27) kV27 dc27 pm27 an27 cd27 ct27) ["self", "parts"] [] := by
    obtain ⟨ds, v, b⟩ := F27.binds1 (ps := ["self", "parts"]) 2 1 (by simp) (by first | decide | rfl) fun _ _ _ _ _ _ _ us its h1 h2 => match us, its, h1, h2 with | [_, _], [_], _, _ => ⟨_, rfl, rfl⟩
    cases v
    exact b
  have e1_27 := F27.binds1 (ps := ["self", "parts"]) 1 0 (by simp) (by first | decide | rfl) fun _ _ _ _ _ _ _ us its h1 h2 => match us, its, h1, h2 with | [_], [_], _, _ => ⟨_, rfl, rfl⟩
  have F28 := fun_mk (st := sRangesParts) l28 c28 k28
  have b28 := F28.binds (ps := ["self"]) fun _ _ _ _ _ _ us hl => match us, hl with | [_], _ => rfl
  have F29 := fun_mk (st := sRangesLen) l29 c29 k29
  have b29 := F29.binds (ps := ["self"]) fun _ _ _ _ _ _ us hl => match us, hl with | [_], _ => rfl
  have F30 := fun_mk (st := sRangesBool) l30 c30 k30
  have b30 := F30.binds (ps := ["self"]) fun _ _ _ _ _ _ us hl => match us, hl with | [_], _ => rfl
  have F31 := fun_mk (st := sRangesContains) l31 c31 k31
  have b31 := F31.binds (ps := ["self", "number"]) fun _ _ _ _ _ _ us hl => match us, hl with | [_, _], _ => rfl
  have F32 := fun_mk (st := sRangesIter) l32 c32 k32
  have b32 := F32.binds (ps := ["self"]) fun _ _ _ _ _ _ us hl => match us, hl with | [_], _ => rfl
  have F33 := fun_mk (st := sRangesEq) l33 c33 k33
  have b33 := F33.binds (ps := ["self", "other"]) fun _ _ _ _ _ _ us hl => match us, hl with | [_, _], _ => rfl
  have F34 := fun_mk (st := sRangesCommon) l34 c34 k34
  have b34 := F34.binds (ps := ["self", "other"]) fun _ _ _ _ _ _ us hl => match us, hl with | [_, _], _ => rfl
  have F35 := fun_mk (st := sRangesJoined) l35 c35 k35
  have b35 := F35.binds (ps := ["self", "other"]) fun _ _ _ _ _ _ us hl => match us, hl with | [_, _], _ => rfl
  have F36 := fun_mk (st := sRangesWhole) l36 c36 k36
  have b36 := F36.binds (ps := ["cls"]) fun _ _ _ _ _ _ us hl => match us, hl with | [_], _ => rfl
  have F37 := fun_mk (st := sLawPool) l37 c37 k37
  have b37 := F37.binds (ps := ["_law_script"]) fun _ _ _ _ _ _ us hl => match us, hl with | [_], _ => rfl
  have F38 := fun_mk (st := sLawMixed) l38 c38 k38
  have b38 := F38.binds (ps := ["_law_number", "_law_count", "_law_many"]) fun _ _ _ _ _ _ us hl => match us, hl with | [_, _, _], _ => rfl
  have F39 := fun_mk (st := sLawDraw) l39 c39 k39
  have b39 := F39.binds (ps := ["_law_pool_here", "_law_many"]) fun _ _ _ _ _ _ us hl => match us, hl with | [_, _], _ => rfl
  have F40 := fun_mk (st := sLawLowest) l40 c40 k40
  have b40 := F40.binds (ps := ["_law_upper", "_law_lower"]) fun _ _ _ _ _ _ us hl => match us, hl with | [_, _], _ => rfl
  have F41 := fun_mk (st := sLawPrice) l41 c41 k41
  have b41 := F41.binds (ps := ["_law_pool_here", "_law_floor"]) fun _ _ _ _ _ _ us hl => match us, hl with | [_, _], _ => rfl
  have F42 := fun_mk (st := sLawRangesDrawn) l42 c42 k42
  have b42 := F42.binds (ps := ["_law_pool_here"]) fun _ _ _ _ _ _ us hl => match us, hl with | [_], _ => rfl
  have F43 := fun_mk (st := sLawHolds) l43 c43 k43
  have b43 := F43.binds (ps := ["_law_some", "_law_number"]) fun _ _ _ _ _ _ us hl => match us, hl with | [_, _], _ => rfl
  have F44 := fun_mk (st := sLawProbes) l44 c44 k44
  have b44 := F44.binds (ps := ["_law_some"]) fun _ _ _ _ _ _ us hl => match us, hl with | [_], _ => rfl
  have F45 := fun_mk (st := sLawApart) l45 c45 k45
  have b45 := F45.binds (ps := ["_law_ranges"]) fun _ _ _ _ _ _ us hl => match us, hl with | [_], _ => rfl
  have F46 := fun_mk (st := sLawRight) l46 c46 k46
  have b46 := F46.binds (ps := ["_law_first", "_law_second"]) fun _ _ _ _ _ _ us hl => match us, hl with | [_, _], _ => rfl
  have F47 := fun_mk (st := sLawShifted) l47 c47 k47
  have b47 := F47.binds (ps := ["_law_pool_here", "_law_some"]) fun _ _ _ _ _ _ us hl => match us, hl with | [_, _], _ => rfl
  have F48 := fun_mk (st := sLaw) l48 c48 k48
  have b48 := F48.binds (ps := ["_law_script"]) fun _ _ _ _ _ _ us hl => match us, hl with | [_], _ => rfl
  have T : Txt K mg ⟨C_Ratio, C_Ranges, f1, PySem.W.fnOf "is_integer" "is_integer" (defArgs sIsInteger) (defBody sIsInteger) (defScope sIsInteger) .none kV1 dc1 pm1 an1 cd1 ct1, f2, PySem.W.fnOf "common_divisor" "common_divisor" (defArgs sCommonDivisor) (defBody sCommonDivisor) (defScope sCommonDivisor) .none kV2 dc2 pm2 an2 cd2 ct2, f3, PySem.W.fnOf "__init__" "Ratio.__init__" (defArgs sRatioInit) (defBody sRatioInit) (defScope sRatioInit) (.ref T3) kV3 dc3 pm3 an3 cd3 ct3, f4, PySem.W.fnOf "top" "Ratio.top" (defArgs sRatioTop) (defBody sRatioTop) (defScope sRatioTop) .none kV4 dc4 pm4 an4 cd4 ct4, p4, f5, PySem.W.fnOf "bottom" "Ratio.bottom" (defArgs sRatioBottom) (defBody sRatioBottom) (defScope sRatioBottom) .none kV5 dc5 pm5 an5 cd5 ct5, p5, f6, PySem.W.fnOf "middle" "Ratio.middle" (defArgs sRatioMiddle) (defBody sRatioMiddle) (defScope sRatioMiddle) .none kV6 dc6 pm6 an6 cd6 ct6, p6, f7, PySem.W.fnOf "divided" "Ratio.divided" (defArgs sRatioDivided) (defBody sRatioDivided) (defScope sRatioDivided) .none kV7 dc7 pm7 an7 cd7 ct7, f8, PySem.W.fnOf "__add__" "Ratio.__add__" (defArgs sRatioAdd) (defBody sRatioAdd) (defScope sRatioAdd) .none kV8 dc8 pm8 an8 cd8 ct8, f9, PySem.W.fnOf "__radd__" "Ratio.__radd__" (defArgs sRatioRadd) (defBody sRatioRadd) (defScope sRatioRadd) .none kV9 dc9 pm9 an9 cd9 ct9, f10, PySem.W.fnOf "__sub__" "Ratio.__sub__" (defArgs sRatioSub) (defBody sRatioSub) (defScope sRatioSub) .none kV10 dc10 pm10 an10 cd10 ct10, f11, PySem.W.fnOf "__rsub__" "Ratio.__rsub__" (defArgs sRatioRsub) (defBody sRatioRsub) (defScope sRatioRsub) .none kV11 dc11 pm11 an11 cd11 ct11, f12, PySem.W.fnOf "__mul__" "Ratio.__mul__" (defArgs sRatioMul) (defBody sRatioMul) (defScope sRatioMul) .none kV12 dc12 pm12 an12 cd12 ct12, f13, PySem.W.fnOf "__rmul__" "Ratio.__rmul__" (defArgs sRatioRmul) (defBody sRatioRmul) (defScope sRatioRmul) .none kV13 dc13 pm13 an13 cd13 ct13, f14, PySem.W.fnOf "__eq__" "Ratio.__eq__" (defArgs sRatioEq) (defBody sRatioEq) (defScope sRatioEq) .none kV14 dc14 pm14 an14 cd14 ct14, f15, PySem.W.fnOf "__lt__" "Ratio.__lt__" (defArgs sRatioLt) (defBody sRatioLt) (defScope sRatioLt) .none kV15 dc15 pm15 an15 cd15 ct15, f16, PySem.W.fnOf "__le__" "Ratio.__le__" (defArgs sRatioLe) (defBody sRatioLe) (defScope sRatioLe) .none kV16 dc16 pm16 an16 cd16 ct16, f17, PySem.W.fnOf "__gt__" "Ratio.__gt__" (defArgs sRatioGt) (defBody sRatioGt) (defScope sRatioGt) .none kV17 dc17 pm17 an17 cd17 ct17, f18, PySem.W.fnOf "__ge__" "Ratio.__ge__" (defArgs sRatioGe) (defBody sRatioGe) (defScope sRatioGe) .none kV18 dc18 pm18 an18 cd18 ct18, f19, PySem.W.fnOf "is_number" "is_number" (defArgs sIsNumber) (defBody sIsNumber) (defScope sIsNumber) .none kV19 dc19 pm19 an19 cd19 ct19, f20, PySem.W.fnOf "ratio_of" "ratio_of" (defArgs sRatioOf) (defBody sRatioOf) (defScope sRatioOf) .none kV20 dc20 pm20 an20 cd20 ct20, f21, PySem.W.fnOf "is_range" "is_range" (defArgs sIsRange) (defBody sIsRange) (defScope sIsRange) .none kV21 dc21 pm21 an21 cd21 ct21, f22, PySem.W.fnOf "ascend" "ascend" (defArgs sAscend) (defBody sAscend) (defScope sAscend) .none kV22 dc22 pm22 an22 cd22 ct22, f23, PySem.W.fnOf "in_ratios" "in_ratios" (defArgs sInRatios) (defBody sInRatios) (defScope sInRatios) .none kV23 dc23 pm23 an23 cd23 ct23, f24, PySem.W.fnOf "common_part" "common_part" (defArgs sCommonPart) (defBody sCommonPart) (defScope sCommonPart) .none kV24 dc24 pm24 an24 cd24 ct24, f25, PySem.W.fnOf "merged" "merged" (defArgs sMerged) (defBody sMerged) (defScope sMerged) .none kV25 dc25 pm25 an25 cd25 ct25, f26, PySem.W.fnOf "in_order" "in_order" (defArgs sInOrder) (defBody sInOrder) (defScope sInOrder) .none kV26 dc26 pm26 an26 cd26 ct26, f27, PySem.W.fnOf "__init__" "Ranges.__init__" (defArgs sRangesInit) (defBody sRangesInit) (defScope sRangesInit) (.ref T27) kV27 dc27 pm27 an27 cd27 ct27, u27_0, f28, PySem.W.fnOf "parts" "Ranges.parts" (defArgs sRangesParts) (defBody sRangesParts) (defScope sRangesParts) .none kV28 dc28 pm28 an28 cd28 ct28, p28, f29, PySem.W.fnOf "__len__" "Ranges.__len__" (defArgs sRangesLen) (defBody sRangesLen) (defScope sRangesLen) .none kV29 dc29 pm29 an29 cd29 ct29, f30, PySem.W.fnOf "__bool__" "Ranges.__bool__" (defArgs sRangesBool) (defBody sRangesBool) (defScope sRangesBool) .none kV30 dc30 pm30 an30 cd30 ct30, f31, PySem.W.fnOf "__contains__" "Ranges.__contains__" (defArgs sRangesContains) (defBody sRangesContains) (defScope sRangesContains) .none kV31 dc31 pm31 an31 cd31 ct31, f32, PySem.W.fnOf "__iter__" "Ranges.__iter__" (defArgs sRangesIter) (defBody sRangesIter) (defScope sRangesIter) .none kV32 dc32 pm32 an32 cd32 ct32, f33, PySem.W.fnOf "__eq__" "Ranges.__eq__" (defArgs sRangesEq) (defBody sRangesEq) (defScope sRangesEq) .none kV33 dc33 pm33 an33 cd33 ct33, f34, PySem.W.fnOf "common" "Ranges.common" (defArgs sRangesCommon) (defBody sRangesCommon) (defScope sRangesCommon) .none kV34 dc34 pm34 an34 cd34 ct34, f35, PySem.W.fnOf "joined" "Ranges.joined" (defArgs sRangesJoined) (defBody sRangesJoined) (defScope sRangesJoined) .none kV35 dc35 pm35 an35 cd35 ct35, f36, PySem.W.fnOf "whole" "Ranges.whole" (defArgs sRangesWhole) (defBody sRangesWhole) (defScope sRangesWhole) .none kV36 dc36 pm36 an36 cd36 ct36, p36, f37, PySem.W.fnOf "_law_pool" "_law_pool" (defArgs sLawPool) (defBody sLawPool) (defScope sLawPool) .none kV37 dc37 pm37 an37 cd37 ct37, f38, PySem.W.fnOf "_law_mixed" "_law_mixed" (defArgs sLawMixed) (defBody sLawMixed) (defScope sLawMixed) .none kV38 dc38 pm38 an38 cd38 ct38, f39, PySem.W.fnOf "_law_draw" "_law_draw" (defArgs sLawDraw) (defBody sLawDraw) (defScope sLawDraw) .none kV39 dc39 pm39 an39 cd39 ct39, f40, PySem.W.fnOf "_law_lowest" "_law_lowest" (defArgs sLawLowest) (defBody sLawLowest) (defScope sLawLowest) .none kV40 dc40 pm40 an40 cd40 ct40, f41, PySem.W.fnOf "_law_price" "_law_price" (defArgs sLawPrice) (defBody sLawPrice) (defScope sLawPrice) .none kV41 dc41 pm41 an41 cd41 ct41, f42, PySem.W.fnOf "_law_ranges_drawn" "_law_ranges_drawn" (defArgs sLawRangesDrawn) (defBody sLawRangesDrawn) (defScope sLawRangesDrawn) .none kV42 dc42 pm42 an42 cd42 ct42, f43, PySem.W.fnOf "_law_holds" "_law_holds" (defArgs sLawHolds) (defBody sLawHolds) (defScope sLawHolds) .none kV43 dc43 pm43 an43 cd43 ct43, f44, PySem.W.fnOf "_law_probes" "_law_probes" (defArgs sLawProbes) (defBody sLawProbes) (defScope sLawProbes) .none kV44 dc44 pm44 an44 cd44 ct44, f45, PySem.W.fnOf "_law_apart" "_law_apart" (defArgs sLawApart) (defBody sLawApart) (defScope sLawApart) .none kV45 dc45 pm45 an45 cd45 ct45, f46, PySem.W.fnOf "_law_right" "_law_right" (defArgs sLawRight) (defBody sLawRight) (defScope sLawRight) .none kV46 dc46 pm46 an46 cd46 ct46, f47, PySem.W.fnOf "_law_shifted" "_law_shifted" (defArgs sLawShifted) (defBody sLawShifted) (defScope sLawShifted) .none kV47 dc47 pm47 an47 cd47 ct47, _, PySem.W.fnOf "law" "law" (defArgs sLaw) (defBody sLaw) (defScope sLaw) .none kV48 dc48 pm48 an48 cd48 ct48⟩ := ⟨PySem.W.mg_of X G aCRatio, ⟨⟨pgRatio, hdRatio, poRatio, saRatio⟩, haRatio, hnRatio, tkRatio, hmRatio⟩, ⟨mkRatio, a3, i3, kcRatio⟩, nRatiokept_top, nRatiokept_bottom, kit_out qoRatioint, kit_out qoRatiobool, kit_in icRatio tyRatio qiRatioint (by intro z; cases z), kit_in icRatio tyRatio qiRatiobool (by intro z; cases z), kit_in icRatio tyRatio qiRatiostr (by intro z; cases z), kit_in icRatio tyRatio qiRatiolist (by intro z; cases z), kit_in icRatio tyRatio qiRatiotuple (by intro z; cases z), kit_in icRatio tyRatio qiRatiodict (by intro z; cases z), kit_in icRatio tyRatio qiRatioNoneType (by intro z; cases z), ⟨rdRatio, rgRatio⟩, wRatioint, wRatiobool, wRatiostr, wRatiolist, wRatiotuple, wRatiodict, wRatioNoneType, PySem.W.mg_of X G aCRanges, ⟨⟨pgRanges, hdRanges, poRanges, saRanges⟩, haRanges, hnRanges, tkRanges, hmRanges⟩, ⟨mkRanges, a27, i27, kcRanges⟩, nRangeskept_parts, kit_out qoRangesint, kit_out qoRangesbool, kit_in icRanges tyRanges qiRangesint (by intro z; cases z), kit_in icRanges tyRanges qiRangesbool (by intro z; cases z), kit_in icRanges tyRanges qiRangesstr (by intro z; cases z), kit_in icRanges tyRanges qiRangeslist (by intro z; cases z), kit_in icRanges tyRanges qiRangestuple (by intro z; cases z), kit_in icRanges tyRanges qiRangesdict (by intro z; cases z), kit_in icRanges tyRanges qiRangesNoneType (by intro z; cases z), ⟨rdRanges, rgRanges⟩, wRangesint, wRangesbool, wRangesstr, wRangeslist, wRangestuple, wRangesdict, wRangesNoneType, F1, PySem.W.mg_of X G a1, b1, F2, PySem.W.mg_of X G a2, b2, F3, e1_3, ⟨a3, i3, k3⟩, b3, F4, ⟨a4, g4, tp4, ⟨_, r4⟩⟩, b4, F5, ⟨a5, g5, tp5, ⟨_, r5⟩⟩, b5, F6, ⟨a6, ⟨_, r6⟩, k6⟩, b6, F7, ⟨a7, i7, k7⟩, b7, F8, ⟨a8, i8, k8⟩, ⟨sfRatio, a8, i8, ⟨_, a9, Or.inr ⟨_, rfl⟩⟩, ⟨_, fo_Ratioadd⟩, ⟨_, ro_Ratioadd⟩, isRatio⟩, b8, F9, ⟨a9, i9, k9⟩, ⟨sfRatio, ⟨_, a8⟩, a9, i9, siRatio⟩, b9, F10, ⟨a10, i10, k10⟩, ⟨sfRatio, a10, i10, ⟨_, a11, Or.inr ⟨_, rfl⟩⟩, ⟨_, fo_Ratiosub⟩, ⟨_, ro_Ratiosub⟩, isRatio⟩, b10, F11, ⟨a11, i11, k11⟩, ⟨sfRatio, ⟨_, a10⟩, a11, i11, siRatio⟩, b11, F12, ⟨a12, i12, k12⟩, ⟨sfRatio, a12, i12, ⟨_, a13, Or.inr ⟨_, rfl⟩⟩, ⟨_, fo_Ratiomul⟩, ⟨_, ro_Ratiomul⟩, isRatio⟩, b12, F13, ⟨a13, i13, k13⟩, ⟨sfRatio, ⟨_, a12⟩, a13, i13, siRatio⟩, b13, F14, ⟨a14, i14, k14⟩, ⟨a14, i14, nfRatio⟩, ⟨a14, i14, siRatio⟩, b14, F15, ⟨a15, i15, k15⟩, ⟨a15, i15, nfRatio⟩, ⟨a15, i15, siRatio⟩, b15, F16, ⟨a16, i16, k16⟩, ⟨a16, i16, nfRatio⟩, ⟨a16, i16, siRatio⟩, b16, F17, ⟨a17, i17, k17⟩, ⟨a17, i17, nfRatio⟩, ⟨a17, i17, siRatio⟩, b17, F18, ⟨a18, i18, k18⟩, ⟨a18, i18, nfRatio⟩, ⟨a18, i18, siRatio⟩, b18, F19, PySem.W.mg_of X G a19, b19, F20, PySem.W.mg_of X G a20, b20, F21, PySem.W.mg_of X G a21, b21, F22, PySem.W.mg_of X G a22, b22, F23, PySem.W.mg_of X G a23, b23, F24, PySem.W.mg_of X G a24, b24, F25, PySem.W.mg_of X G a25, b25, F26, PySem.W.mg_of X G a26, b26, F27, fun H => Or.inr ⟨_, #[], _, ul27_0, rfl, rfl, by decide, .nil⟩, ⟨_, ul27_0, rfl⟩, e1_27, ⟨a27, i27, k27⟩, b27, F28, ⟨a28, g28, tp28, ⟨_, r28⟩⟩, b28, F29, ⟨a29, i29, k29⟩, ⟨a29, i29⟩, b29, F30, ⟨a30, i30, k30⟩, ⟨a30, i30⟩, b30, F31, ⟨a31, i31, k31⟩, ⟨a31, i31⟩, b31, F32, ⟨a32, i32, k32⟩, ⟨a32, i32⟩, b32, F33, ⟨a33, i33, k33⟩, ⟨a33, i33, ne33, hmRanges⟩, ⟨a33, i33, nfRanges⟩, ⟨a33, i33, siRanges⟩, b33, F34, ⟨a34, i34, k34⟩, b34, F35, ⟨a35, i35, k35⟩, b35, F36, ⟨a36, ⟨_, r36⟩, by unfold PySem.W.fnIn; rw [l36]⟩, b36, F37, PySem.W.mg_of X G a37, b37, F38, PySem.W.mg_of X G a38, b38, F39, PySem.W.mg_of X G a39, b39, F40, PySem.W.mg_of X G a40, b40, F41, PySem.W.mg_of X G a41, b41, F42, PySem.W.mg_of X G a42, b42, F43, PySem.W.mg_of X G a43, b43, F44, PySem.W.mg_of X G a44, b44, F45, PySem.W.mg_of X G a45, b45, F46, PySem.W.mg_of X G a46, b46, F47, PySem.W.mg_of X G a47, b47, F48, PySem.W.mg_of X G a48, b48, PySem.W.mg_none_of X G z0, PySem.W.mg_none_of X G z1, PySem.W.mg_none_of X G z2, PySem.W.mg_none_of X G z3, PySem.W.mg_none_of X G z7, PySem.W.mg_none_of X G z8, PySem.W.mg_none_of X G z12, PySem.W.mg_none_of X G z13, PySem.W.mg_none_of X G z14, PySem.W.mg_none_of X G z15, PySem.W.mg_none_of X G z19, PySem.W.mg_none_of X G z20, PySem.W.mg_none_of X G z22, PySem.W.mg_none_of X G z27, PySem.W.mg_none_of X G z31⟩
  exact ⟨_, fun s v => .of_eq rfl, fun base _ _ => ok_law T⟩

end My
open PySem PySem.W PyProof.Rows in
set_option maxRecDepth 100000 in
set_option maxHeartbeats 0 in
theorem PySem.Challenge.cw_lineorigins_k57_ranges_in_common_and_joi_holds : PySem.Challenge.rw_lineorigins_k57_ranges_in_common_and_joi.Holds := by
  w_on; o_law; k_head; (case hw => w_witness2)
  k_fill
  refine L2.walk_of (l := PySem.Challenge.rw_lineorigins_k57_ranges_in_common_and_joi) (n := 63) (k := 15) (x := "_law_script") (CX := fun _ => L2.CX0) (sp := fun w => My.spLaw _) rfl (by decide) rfl ⟨rfl, by decide, by decide⟩ (fun w h Y => PySem.W.kIn_of Y) ?F (fun _ _ a ns hl _ hS => ⟨a, ns, rfl, hS, hl, fun _ => rfl⟩) (fun _ _ _ _ _ h => h)
  case F =>
    intro w mg fa h KX G hmg
    refine' My.all_mk KX G hmg ?aCRatio ?pgRatio ?hdRatio ?poRatio ?saRatio ?haRatio ?hnRatio ?tkRatio ?hmRatio ?mkRatio ?kcRatio ?nRatiokept_top ?nRatiokept_bottom ?icRatio ?tyRatio ?qoRatioint ?qoRatiobool ?qiRatioint ?qiRatiobool ?qiRatiostr ?qiRatiolist ?qiRatiotuple ?qiRatiodict ?qiRatioNoneType ?rdRatio ?rgRatio ?wRatioint ?wRatiobool ?wRatiostr ?wRatiolist ?wRatiotuple ?wRatiodict ?wRatioNoneType ?sfRatio ?nfRatio ?siRatio ?isRatio ?fo_Ratioadd ?ro_Ratioadd ?fo_Ratiosub ?ro_Ratiosub ?fo_Ratiomul ?ro_Ratiomul ?aCRanges ?pgRanges ?hdRanges ?poRanges ?saRanges ?haRanges ?hnRanges ?tkRanges ?hmRanges ?mkRanges ?kcRanges ?nRangeskept_parts ?icRanges ?tyRanges ?qoRangesint ?qoRangesbool ?qiRangesint ?qiRangesbool ?qiRangesstr ?qiRangeslist ?qiRangestuple ?qiRangesdict ?qiRangesNoneType ?rdRanges ?rgRanges ?wRangesint ?wRangesbool ?wRangesstr ?wRangeslist ?wRangestuple ?wRangesdict ?wRangesNoneType ?sfRanges ?nfRanges ?siRanges ?isRanges ?a1 ?l1 ?c1 ?k1 ?a2 ?l2 ?c2 ?k2 ?a3 ?i3 ?l3 ?c3 ?k3 ?lt3 ?a4 ?g4 ?tp4 ?r4 ?l4 ?c4 ?k4 ?a5 ?g5 ?tp5 ?r5 ?l5 ?c5 ?k5 ?a6 ?r6 ?l6 ?c6 ?k6 ?a7 ?i7 ?l7 ?c7 ?k7 ?a8 ?i8 ?l8 ?c8 ?k8 ?a9 ?i9 ?l9 ?c9 ?k9 ?a10 ?i10 ?l10 ?c10 ?k10 ?a11 ?i11 ?l11 ?c11 ?k11 ?a12 ?i12 ?l12 ?c12 ?k12 ?a13 ?i13 ?l13 ?c13 ?k13 ?a14 ?i14 ?l14 ?c14 ?k14 ?a15 ?i15 ?l15 ?c15 ?k15 ?a16 ?i16 ?l16 ?c16 ?k16 ?a17 ?i17 ?l17 ?c17 ?k17 ?a18 ?i18 ?l18 ?c18 ?k18 ?a19 ?l19 ?c19 ?k19 ?a20 ?l20 ?c20 ?k20 ?a21 ?l21 ?c21 ?k21 ?a22 ?l22 ?c22 ?k22 ?a23 ?l23 ?c23 ?k23 ?a24 ?l24 ?c24 ?k24 ?a25 ?l25 ?c25 ?k25 ?a26 ?l26 ?c26 ?k26 ?a27 ?i27 ?l27 ?c27 ?k27 ?lt27 ?ul27_0 ?a28 ?g28 ?tp28 ?r28 ?l28 ?c28 ?k28 ?a29 ?i29 ?l29 ?c29 ?k29 ?a30 ?i30 ?l30 ?c30 ?k30 ?a31 ?i31 ?l31 ?c31 ?k31 ?a32 ?i32 ?l32 ?c32 ?k32 ?a33 ?i33 ?l33 ?c33 ?k33 ?ne33 ?a34 ?i34 ?l34 ?c34 ?k34 ?a35 ?i35 ?l35 ?c35 ?k35 ?a36 ?r36 ?l36 ?c36 ?k36 ?a37 ?l37 ?c37 ?k37 ?a38 ?l38 ?c38 ?k38 ?a39 ?l39 ?c39 ?k39 ?a40 ?l40 ?c40 ?k40 ?a41 ?l41 ?c41 ?k41 ?a42 ?l42 ?c42 ?k42 ?a43 ?l43 ?c43 ?k43 ?a44 ?l44 ?c44 ?k44 ?a45 ?l45 ?c45 ?k45 ?a46 ?l46 ?c46 ?k46 ?a47 ?l47 ?c47 ?k47 ?a48 ?l48 ?c48 ?k48 ?z0 ?z1 ?z2 ?z3 ?z7 ?z8 ?z12 ?z13 ?z14 ?z15 ?z19 ?z20 ?z22 ?z27 ?z31
    (case aCRatio => k_is); (case pgRatio => k_is); (case hdRatio => k_is); (case poRatio => k_is); (case saRatio => k_is); (case haRatio => k_is); (case hnRatio => k_is); (case tkRatio => k_is); (case hmRatio => k_is); (case mkRatio => k_is); (case kcRatio => k_is); (case nRatiokept_top => k_is); (case nRatiokept_bottom => k_is); (case icRatio => k_is); (case tyRatio => k_is); (case qoRatioint => k_is); (case qoRatiobool => k_is); (case qiRatioint => k_is); (case qiRatiobool => k_is); (case qiRatiostr => k_is); (case qiRatiolist => k_is); (case qiRatiotuple => k_is); (case qiRatiodict => k_is); (case qiRatioNoneType => k_is); (case rdRatio => k_is); (case rgRatio => k_is); (case wRatioint => k_is); (case wRatiobool => k_is); (case wRatiostr => k_is); (case wRatiolist => k_is); (case wRatiotuple => k_is); (case wRatiodict => k_is); (case wRatioNoneType => k_is); (case sfRatio => k_is); (case nfRatio => k_is); (case siRatio => k_is); (case isRatio => k_is); (case fo_Ratioadd => k_is); (case ro_Ratioadd => k_is); (case fo_Ratiosub => k_is); (case ro_Ratiosub => k_is); (case fo_Ratiomul => k_is); (case ro_Ratiomul => k_is); (case aCRanges => k_is); (case pgRanges => k_is); (case hdRanges => k_is); (case poRanges => k_is); (case saRanges => k_is); (case haRanges => k_is); (case hnRanges => k_is); (case tkRanges => k_is); (case hmRanges => k_is); (case mkRanges => k_is); (case kcRanges => k_is); (case nRangeskept_parts => k_is); (case icRanges => k_is); (case tyRanges => k_is); (case qoRangesint => k_is); (case qoRangesbool => k_is); (case qiRangesint => k_is); (case qiRangesbool => k_is); (case qiRangesstr => k_is); (case qiRangeslist => k_is); (case qiRangestuple => k_is); (case qiRangesdict => k_is); (case qiRangesNoneType => k_is); (case rdRanges => k_is); (case rgRanges => k_is); (case wRangesint => k_is); (case wRangesbool => k_is); (case wRangesstr => k_is); (case wRangeslist => k_is); (case wRangestuple => k_is); (case wRangesdict => k_is); (case wRangesNoneType => k_is); (case sfRanges => k_is); (case nfRanges => k_is); (case siRanges => k_is); (case isRanges => k_is); (case a1 => k_is); (case l1 => k_is); (case c1 => k_is); (case k1 => k_is); (case a2 => k_is); (case l2 => k_is); (case c2 => k_is); (case k2 => k_is); (case a3 => k_is); (case i3 => k_is); (case l3 => k_is); (case c3 => k_is); (case k3 => k_is); (case lt3 => k_is); (case a4 => k_is); (case g4 => k_is); (case tp4 => k_is); (case r4 => k_is); (case l4 => k_is); (case c4 => k_is); (case k4 => k_is); (case a5 => k_is); (case g5 => k_is); (case tp5 => k_is); (case r5 => k_is); (case l5 => k_is); (case c5 => k_is); (case k5 => k_is); (case a6 => k_is); (case r6 => k_is); (case l6 => k_is); (case c6 => k_is); (case k6 => k_is); (case a7 => k_is); (case i7 => k_is); (case l7 => k_is); (case c7 => k_is); (case k7 => k_is); (case a8 => k_is); (case i8 => k_is); (case l8 => k_is); (case c8 => k_is); (case k8 => k_is); (case a9 => k_is); (case i9 => k_is); (case l9 => k_is); (case c9 => k_is); (case k9 => k_is); (case a10 => k_is); (case i10 => k_is); (case l10 => k_is); (case c10 => k_is); (case k10 => k_is); (case a11 => k_is); (case i11 => k_is); (case l11 => k_is); (case c11 => k_is); (case k11 => k_is); (case a12 => k_is); (case i12 => k_is); (case l12 => k_is); (case c12 => k_is); (case k12 => k_is); (case a13 => k_is); (case i13 => k_is); (case l13 => k_is); (case c13 => k_is); (case k13 => k_is); (case a14 => k_is); (case i14 => k_is); (case l14 => k_is); (case c14 => k_is); (case k14 => k_is); (case a15 => k_is); (case i15 => k_is); (case l15 => k_is); (case c15 => k_is); (case k15 => k_is); (case a16 => k_is); (case i16 => k_is); (case l16 => k_is); (case c16 => k_is); (case k16 => k_is); (case a17 => k_is); (case i17 => k_is); (case l17 => k_is); (case c17 => k_is); (case k17 => k_is); (case a18 => k_is); (case i18 => k_is); (case l18 => k_is); (case c18 => k_is); (case k18 => k_is); (case a19 => k_is); (case l19 => k_is); (case c19 => k_is); (case k19 => k_is); (case a20 => k_is); (case l20 => k_is); (case c20 => k_is); (case k20 => k_is); (case a21 => k_is); (case l21 => k_is); (case c21 => k_is); (case k21 => k_is); (case a22 => k_is); (case l22 => k_is); (case c22 => k_is); (case k22 => k_is); (case a23 => k_is); (case l23 => k_is); (case c23 => k_is); (case k23 => k_is); (case a24 => k_is); (case l24 => k_is); (case c24 => k_is); (case k24 => k_is); (case a25 => k_is); (case l25 => k_is); (case c25 => k_is); (case k25 => k_is); (case a26 => k_is); (case l26 => k_is); (case c26 => k_is); (case k26 => k_is); (case a27 => k_is); (case i27 => k_is); (case l27 => k_is); (case c27 => k_is); (case k27 => k_is); (case lt27 => k_is); (case ul27_0 => k_is); (case a28 => k_is); (case g28 => k_is); (case tp28 => k_is); (case r28 => k_is); (case l28 => k_is); (case c28 => k_is); (case k28 => k_is); (case a29 => k_is); (case i29 => k_is); (case l29 => k_is); (case c29 => k_is); (case k29 => k_is); (case a30 => k_is); (case i30 => k_is); (case l30 => k_is); (case c30 => k_is); (case k30 => k_is); (case a31 => k_is); (case i31 => k_is); (case l31 => k_is); (case c31 => k_is); (case k31 => k_is); (case a32 => k_is); (case i32 => k_is); (case l32 => k_is); (case c32 => k_is); (case k32 => k_is); (case a33 => k_is); (case i33 => k_is); (case l33 => k_is); (case c33 => k_is); (case k33 => k_is); (case ne33 => k_is); (case a34 => k_is); (case i34 => k_is); (case l34 => k_is); (case c34 => k_is); (case k34 => k_is); (case a35 => k_is); (case i35 => k_is); (case l35 => k_is); (case c35 => k_is); (case k35 => k_is); (case a36 => k_is); (case r36 => k_is); (case l36 => k_is); (case c36 => k_is); (case k36 => k_is); (case a37 => k_is); (case l37 => k_is); (case c37 => k_is); (case k37 => k_is); (case a38 => k_is); (case l38 => k_is); (case c38 => k_is); (case k38 => k_is); (case a39 => k_is); (case l39 => k_is); (case c39 => k_is); (case k39 => k_is); (case a40 => k_is); (case l40 => k_is); (case c40 => k_is); (case k40 => k_is); (case a41 => k_is); (case l41 => k_is); (case c41 => k_is); (case k41 => k_is); (case a42 => k_is); (case l42 => k_is); (case c42 => k_is); (case k42 => k_is); (case a43 => k_is); (case l43 => k_is); (case c43 => k_is); (case k43 => k_is); (case a44 => k_is); (case l44 => k_is); (case c44 => k_is); (case k44 => k_is); (case a45 => k_is); (case l45 => k_is); (case c45 => k_is); (case k45 => k_is); (case a46 => k_is); (case l46 => k_is); (case c46 => k_is); (case k46 => k_is); (case a47 => k_is); (case l47 => k_is); (case c47 => k_is); (case k47 => k_is); (case a48 => k_is); (case l48 => k_is); (case c48 => k_is); (case k48 => k_is); (case z0 => k_is); (case z1 => k_is); (case z2 => k_is); (case z3 => k_is); (case z7 => k_is); (case z8 => k_is); (case z12 => k_is); (case z13 => k_is); (case z14 => k_is); (case z15 => k_is); (case z19 => k_is); (case z20 => k_is); (case z22 => k_is); (case z27 => k_is); (case z31 => k_is)
