import PyProof.Rows.All
import Wide.All
import OpenK.AllK
import Wide.FinOn
import HandS.ForMost
import HandS.IsInst
import HandS.Wide
import HandS.Walk
import HandS.Evl
import HandS.TupLe
import PySem.Challenge.RW_lineorigins_k06_lines_and_texts
set_option Elab.async false
set_option linter.all false
set_option maxRecDepth 100000
set_option maxHeartbeats 4000000
namespace My
open PySem L2
def top (i : Nat) : Stmt := PySem.Challenge.pw_lineorigins_k06_lines_and_texts.main.body.getD i (.Pass ⟨0, 0, 0, 0⟩)
abbrev sIsSign : Stmt := top 3
abbrev nIsSign : List Str := ["sign"]
theorem scIsSign : FnScope nIsSign ["sign"] (defScope sIsSign) := ⟨rfl, rfl, rfl, by decide +kernel, rfl, by decide +kernel, by decide +kernel⟩
abbrev sIsLine : Stmt := top 4
abbrev nIsLine : List Str := ["value", "sign"]
theorem scIsLine : FnScope nIsLine ["value"] (defScope sIsLine) := ⟨rfl, rfl, rfl, by decide +kernel, rfl, by decide +kernel, by decide +kernel⟩
abbrev sIsText : Stmt := top 5
abbrev nIsText : List Str := ["value", "line"]
theorem scIsText : FnScope nIsText ["value"] (defScope sIsText) := ⟨rfl, rfl, rfl, by decide +kernel, rfl, by decide +kernel, by decide +kernel⟩
abbrev sLawPool : Stmt := top 7
abbrev nLawPool : List Str := ["_law_script", "_law_numbers", "_law_seed", "_law_cell"]
theorem scLawPool : FnScope nLawPool ["_law_script"] (defScope sLawPool) := ⟨rfl, rfl, rfl, by decide +kernel, rfl, by decide +kernel, by decide +kernel⟩
abbrev sLawMixed : Stmt := top 8
abbrev nLawMixed : List Str := ["_law_number", "_law_count", "_law_many"]
theorem scLawMixed : FnScope nLawMixed ["_law_number", "_law_count", "_law_many"] (defScope sLawMixed) := ⟨rfl, rfl, rfl, by decide +kernel, rfl, by decide +kernel, by decide +kernel⟩
abbrev sLawDraw : Stmt := top 9
abbrev nLawDraw : List Str := ["_law_pool_here", "_law_many", "_law_at", "_law_numbers", "_law_cell"]
theorem scLawDraw : FnScope nLawDraw ["_law_pool_here", "_law_many"] (defScope sLawDraw) := ⟨rfl, rfl, rfl, by decide +kernel, rfl, by decide +kernel, by decide +kernel⟩
abbrev sLawSigns : Stmt := top 10
abbrev nLawSigns : List Str := ["_law_pool_here", "_law_many", "_law_signs_here", "_law_k"]
theorem scLawSigns : FnScope nLawSigns ["_law_pool_here", "_law_many"] (defScope sLawSigns) := ⟨rfl, rfl, rfl, by decide +kernel, rfl, by decide +kernel, by decide +kernel⟩
abbrev sLawIsLine : Stmt := top 11
abbrev nLawIsLine : List Str := ["_law_thing", "_law_sign"]
theorem scLawIsLine : FnScope nLawIsLine ["_law_thing"] (defScope sLawIsLine) := ⟨rfl, rfl, rfl, by decide +kernel, rfl, by decide +kernel, by decide +kernel⟩
abbrev sLawTruth : Stmt := top 12
abbrev nLawTruth : List Str := ["_law_found", "_law_due"]
theorem scLawTruth : FnScope nLawTruth ["_law_found", "_law_due"] (defScope sLawTruth) := ⟨rfl, rfl, rfl, by decide +kernel, rfl, by decide +kernel, by decide +kernel⟩
abbrev sLaw : Stmt := top 13
abbrev nLaw : List Str := ["_law_script", "_law_pool_here", "_law_lines", "_law_k", "_law_line", "_law_at", "_law_odd", "_law_thing", "_law_good", "_law_many", "_law_some", "_law_bent", "_law_text", "_law_due"]
theorem scLaw : FnScope nLaw ["_law_script"] (defScope sLaw) := ⟨rfl, rfl, rfl, by decide +kernel, rfl, by decide +kernel, by decide +kernel⟩
structure Adr where
  a_IsSign : Addr
  d_IsSign : FuncData
  a_IsLine : Addr
  d_IsLine : FuncData
  a_IsText : Addr
  d_IsText : FuncData
  a_LawPool : Addr
  d_LawPool : FuncData
  a_LawMixed : Addr
  d_LawMixed : FuncData
  a_LawDraw : Addr
  d_LawDraw : FuncData
  a_LawSigns : Addr
  d_LawSigns : FuncData
  a_LawIsLine : Addr
  d_LawIsLine : FuncData
  a_LawTruth : Addr
  d_LawTruth : FuncData
  a_Law : Addr
  d_Law : FuncData
structure Txt (K : PySem.W.Frag) (mg : Str → Option Value) (A : Adr) : Prop where
  f_IsSign : Fun K "is_sign" "is_sign" sIsSign A.a_IsSign A.d_IsSign
  m_IsSign : mg "is_sign" = some (.ref A.a_IsSign)
  b_IsSign : Binds K A.d_IsSign ["sign"] []
  f_IsLine : Fun K "is_line" "is_line" sIsLine A.a_IsLine A.d_IsLine
  m_IsLine : mg "is_line" = some (.ref A.a_IsLine)
  b_IsLine : Binds K A.d_IsLine ["value"] []
  f_IsText : Fun K "is_text" "is_text" sIsText A.a_IsText A.d_IsText
  m_IsText : mg "is_text" = some (.ref A.a_IsText)
  b_IsText : Binds K A.d_IsText ["value"] []
  f_LawPool : Fun K "_law_pool" "_law_pool" sLawPool A.a_LawPool A.d_LawPool
  m_LawPool : mg "_law_pool" = some (.ref A.a_LawPool)
  b_LawPool : Binds K A.d_LawPool ["_law_script"] []
  f_LawMixed : Fun K "_law_mixed" "_law_mixed" sLawMixed A.a_LawMixed A.d_LawMixed
  m_LawMixed : mg "_law_mixed" = some (.ref A.a_LawMixed)
  b_LawMixed : Binds K A.d_LawMixed ["_law_number", "_law_count", "_law_many"] []
  f_LawDraw : Fun K "_law_draw" "_law_draw" sLawDraw A.a_LawDraw A.d_LawDraw
  m_LawDraw : mg "_law_draw" = some (.ref A.a_LawDraw)
  b_LawDraw : Binds K A.d_LawDraw ["_law_pool_here", "_law_many"] []
  f_LawSigns : Fun K "_law_signs" "_law_signs" sLawSigns A.a_LawSigns A.d_LawSigns
  m_LawSigns : mg "_law_signs" = some (.ref A.a_LawSigns)
  b_LawSigns : Binds K A.d_LawSigns ["_law_pool_here", "_law_many"] []
  f_LawIsLine : Fun K "_law_is_line" "_law_is_line" sLawIsLine A.a_LawIsLine A.d_LawIsLine
  m_LawIsLine : mg "_law_is_line" = some (.ref A.a_LawIsLine)
  b_LawIsLine : Binds K A.d_LawIsLine ["_law_thing"] []
  f_LawTruth : Fun K "_law_truth" "_law_truth" sLawTruth A.a_LawTruth A.d_LawTruth
  m_LawTruth : mg "_law_truth" = some (.ref A.a_LawTruth)
  b_LawTruth : Binds K A.d_LawTruth ["_law_found", "_law_due"] []
  f_Law : Fun K "law" "law" sLaw A.a_Law A.d_Law
  m_Law : mg "law" = some (.ref A.a_Law)
  b_Law : Binds K A.d_Law ["_law_script"] []
  z_isinstance : mg "isinstance" = none
  z_str : mg "str" = none
  c_MOST_SIGNS : ∃ t, mg "MOST_SIGNS" = some (.int 40 t)
  z_all : mg "all" = none
  z_len : mg "len" = none
  c_MOST_LINES : ∃ t, mg "MOST_LINES" = some (.int 12 t)
  z_list : mg "list" = none
  z_tuple : mg "tuple" = none
  z_int : mg "int" = none
  z_range : mg "range" = none
  z_bool : mg "bool" = none
/-! ## small words over the hand layer (own work) -/
section
variable {X : Cx}
/-- a list's item, a tuple's item, by the tracked object -/
def rIxH : R2 := fun x y H Q => ∃ p xs i v, x = .ref p ∧ y = .int i ∧ H p = some (.lst xs) ∧ atI xs i = some v ∧ Q v H
def rIxU : R2 := fun x y H Q => ∃ p xs i v, x = .ref p ∧ y = .int i ∧ H p = some (.tup xs) ∧ atI xs i = some v ∧ Q v H
theorem ix_lstH : IxR X rIxH := fun value slice pins s σ H x y v u Q I rx ry h hs => by
  obtain ⟨p, xs, i, z, h1, h2, h3, h4, h5⟩ := h
  exact ix_list value slice pins s σ H x y v u Q I rx ry ⟨p, xs, i, z, h1, h2, SqL.of h3, h4, h5⟩ hs
theorem ix_tupH : IxR X rIxU := fun value slice pins s σ H x y v u Q I rx ry h hs => by
  obtain ⟨p, xs, i, z, h1, h2, h3, h4, h5⟩ := h
  exact ix_tup value slice pins s σ H x y v u Q I rx ry ⟨p, xs, i, z, h1, h2, SqT.of h3, h4, h5⟩ hs
def rLenH : List V → Hp → VK → Prop := fun vs H Q => ∃ p ys, vs = [.ref p] ∧ H p = some (.lst ys) ∧ Q (.int ys.length) H
theorem call_lenH : CallR X (.builtin "len") rLenH := fun pins s σ H xs us Q I r h => by
  obtain ⟨p, ys, h1, h2, h3⟩ := h
  exact call_len_seq pins s σ H xs us Q I r ⟨p, ys, h1, Or.inl (SqL.of h2), h3⟩
def rLenU : List V → Hp → VK → Prop := fun vs H Q => ∃ p ys, vs = [.ref p] ∧ H p = some (.tup ys) ∧ Q (.int ys.length) H
theorem call_lenU : CallR X (.builtin "len") rLenU := fun pins s σ H xs us Q I r h => by
  obtain ⟨p, ys, h1, h2, h3⟩ := h
  exact call_len_seq pins s σ H xs us Q I r ⟨p, ys, h1, Or.inr (SqT.of h2), h3⟩
def rLenS : List V → Hp → VK → Prop := fun vs H Q => ∃ z, vs = [.str z] ∧ z.length ≤ sizeLine ∧ Q (.int z.length) H
theorem call_lenS : CallR X (.builtin "len") rLenS := call_len_str
/-- int(i) of an int -/
def rInt1 : List V → Hp → VK → Prop := fun vs H Q => ∃ i, vs = [.int i] ∧ Q (.int i) H
theorem call_intI : CallR X (.type "int") rInt1 := fun pins s σ H xs us Q I r h => call_int1 pins s σ H xs us Q I r (Or.inl h)
end
section
variable {α : Type} {a b c d e f g h : α} {r : List α}
theorem at0 : atI (a :: r) 0 = some a := by
  have q : ixN (a :: r).length 0 = some 0 := by
    unfold ixN
    rw [if_pos (by decide), if_pos (by rw [List.length_cons]; omega)]
    rfl
  unfold atI
  rw [q]
  rfl
theorem atN (n : Nat) {xs : List α} {v : α} (h : xs[n]? = some v) : atI xs (OfNat.ofNat n) = some v := atI_nat h
theorem at1 : atI (a :: b :: r) 1 = some b := atI_nat (j := 1) rfl
theorem at2 : atI (a :: b :: c :: r) 2 = some c := atI_nat (j := 2) rfl
theorem at3 : atI (a :: b :: c :: d :: r) 3 = some d := atI_nat (j := 3) rfl
theorem at4 : atI (a :: b :: c :: d :: e :: r) 4 = some e := atI_nat (j := 4) rfl
theorem at5 : atI (a :: b :: c :: d :: e :: f :: r) 5 = some f := atI_nat (j := 5) rfl
theorem ix51 : ixN 5 1 = some 1 := rfl
theorem ix52 : ixN 5 2 = some 2 := rfl
theorem ix54 : ixN 5 4 = some 4 := rfl
end
theorem scal_int {a b : Int} : scal (.int a) (.int b) = true := rfl
theorem scal_str {a b : Str} : scal (.str a) (.str b) = true := rfl
theorem scal_bl {a b : Bool} : scal (.bl a) (.bl b) = true := rfl
/-! ### loops -/
/-- the turns of a for, of a comprehension, as one word each (never opened by simp) -/
def forGo (J : It) (g : TG) (tb : TS) (D : Ends) (σ : St) (H1 : Hp) : Prop := ∃ W : Nat → Nat → St → Hp → Prop, (∃ m, W 0 m σ H1) ∧ ∀ i m σ H, W i m σ H →
  (J.stop i H ∧ D.nx σ H) ∨ (J.go i H ∧ ∃ N : St → Hp → Prop, (∀ σ' H', N σ' H' → ∃ m', m' < m ∧ W (i + 1) m' σ' H') ∧ ∀ x H', J.yld i H x H' → g x σ H' fun σ2 H2 => tb { D with nx := N, ct := N, bk := D.nx } σ2 H2)
theorem tFor_eq {wi : TI} {g : TG} {tb : TS} {D : Ends} {σ : St} {H : Hp} : tFor wi g tb D σ H = wi σ H fun J H1 => forGo J g tb D σ H1 := rfl
def lcGo (J : It) (g : TG) (tt : TT) (te : TE) (vs : List Nat) (σ : St) (D : Addr) (Q : VK) (H1 : Hp) : Prop := ∃ W : Nat → Nat → Hp → Prop, (∃ m, W 0 m (upd H1 D (.lst []))) ∧ ∀ i m H, W i m H →
  (J.stop i H ∧ Q (.ref D) H) ∨ (J.go i H ∧ ∃ Nx : Hp → Prop, (∀ H', Nx H' → ∃ m', m' < m ∧ W (i + 1) m' H') ∧ ∀ x H', J.yld i H x H' → g x (wipe σ vs) H' fun σ2 H2 => wipe σ2 vs = wipe σ vs ∧ tt σ2 H2 fun b H3 =>
    if b = true then te σ2 H3 fun y H4 => ∃ acc, H4 D = some (.lst acc) ∧ acc.length < sizeLine ∧ Nx (upd H4 D (.lst (acc ++ [y]))) else Nx H3)
theorem tLc_eq {wi : TI} {g : TG} {tt : TT} {te : TE} {vs : List Nat} {σ : St} {H : Hp} {Q : VK} : tLc wi g tt te vs σ H Q = wi σ H fun J H1 => ∀ D, H1 D = none → lcGo J g tt te vs σ D Q H1 := rfl
/-- what a walk gives, as a list -/
def sgn (c : Nat) : V := .str ⟨#[c]⟩
theorem walk_strY {z : Str} : Walk (Its z) (z.cps.toList.map sgn).length (fun _ => True) (YAt (z.cps.toList.map sgn)) := by
  have e : (z.cps.toList.map sgn).length = z.cps.size := by simp
  rw [e]
  refine walk_str.mono (fun _ h => h) fun i H x H' hi _ y => ?_
  obtain ⟨h1, c, h2, h3⟩ := y
  refine ⟨h1, ?_⟩
  rw [List.getElem?_map]
  have q : z.cps.toList[i]? = some c := by simpa using h2
  rw [q, h3]
  rfl
def rngV (lo : Int) (n : Nat) : List V := (List.range n).map fun i => V.int (lo + (i : Nat))
theorem rngV_len {lo : Int} {n : Nat} : (rngV lo n).length = n := by simp [rngV]
theorem walk_rangeY {lo : Int} {n : Nat} : Walk (Itr lo n) (rngV lo n).length (fun _ => True) (YAt (rngV lo n)) := by
  rw [rngV_len]
  refine walk_range.mono (fun _ h => h) fun i H x H' hi _ y => ?_
  obtain ⟨h1, h2⟩ := y
  refine ⟨h1, ?_⟩
  unfold rngV
  rw [List.getElem?_map, List.getElem?_range hi, h2]
  rfl
theorem take_get {α : Type} {l : List α} {i : Nat} {x : α} (h : l[i]? = some x) : l.take (i + 1) = l.take i ++ [x] := by
  rw [List.take_add_one, h]
  rfl
/-- a comprehension whose turns leave all that is tracked: what it chooses, what it gives -/
theorem lc_same {J : It} {xs : List V} {G : Hp → Prop} (w : Walk J xs.length G (YAt xs)) {g : TG} {tt : TT} {te : TE} {vs : List Nat} {σ : St} {D : Addr} {Q : VK} {H1 : Hp} (sel : V → Bool) (val : V → V)
    (hD : H1 D = none) (hG : ∀ H, Same H1 H → G H) (hz : xs.length ≤ 100000)
    (turn : ∀ x, x ∈ xs → ∀ H, Same H1 H → ∀ (R : VK) (R0 : Hp → Prop), (∀ H', Same H H' → sel x = true → R (val x) H') → (∀ H', Same H H' → sel x = false → R0 H') → g x (wipe σ vs) H fun σ2 H2 => wipe σ2 vs = wipe σ vs ∧ tt σ2 H2 fun b H3 => if b = true then te σ2 H3 R else R0 H3)
    (done : ∀ H, Same H1 H → H D = some (.lst ((xs.filter sel).map val)) → Q (.ref D) H) : lcGo J g tt te vs σ D Q H1 := by
  refine lc_it w (fun i H => Same H1 H ∧ H D = some (.lst (((xs.take i).filter sel).map val))) ⟨fun b o e => by rw [upd_ne (ne_of_none e hD)]; exact e, by rw [upd_same]; rfl⟩ (fun i H _ p => hG H p.1) (fun i x H H' hi p y => ?_) (fun H p => ?_)
  · obtain ⟨rfl, hx⟩ := y
    obtain ⟨s1, hacc⟩ := p
    have hm : x ∈ xs := List.mem_of_getElem? hx
    refine turn x hm _ s1 _ _ (fun H2 s2 hs => ?_) (fun H2 s2 hs => ?_)
    · refine ⟨_, s2 _ _ hacc, ?_, fun b o e => ?_, ?_⟩
      · rw [List.length_map]
        have q1 := List.length_filter_le sel (xs.take i)
        rw [List.length_take] at q1
        exact Nat.lt_of_le_of_lt (m := 100000) (by omega) (by decide)
      · rw [upd_ne (ne_of_none e hD)]
        exact s2 _ _ (s1 _ _ e)
      · rw [upd_same, take_get hx, List.filter_append, List.map_append, List.filter_cons, if_pos hs]
        rfl
    · refine ⟨s1.trans s2, ?_⟩
      rw [s2 _ _ hacc, take_get hx, List.filter_append, List.map_append, List.filter_cons, if_neg (by rw [hs]; decide)]
      simp
  · rw [List.take_length] at p
    exact done H p.1 p.2
theorem same_new {H : Hp} {p : Addr} {o : HO} (h : H p = none) : Same H (upd H p o) := fun b x e => by
  rw [upd_ne (ne_of_none e h)]
  exact e
theorem Same.tup {K : PySem.W.Frag} {H H' : Hp} {a : Addr} {xs : List V} (e : Same H H') (h : SqT K H a xs) : SqT K H' a xs := by
  rcases h with (h | ⟨o, h⟩) | h
  · exact .inl (.inl (e _ _ h))
  · exact .inl (.inr ⟨o, e _ _ h⟩)
  · exact .inr h
theorem cxOf_K {CX : CXT} {P : Program} {w : World} {K : PySem.W.Frag} {mg : Str → Option Value} {base : Heap} {N : List Str} {qual : Str} {scope : Scope} {f : Addr} {cd : Value} {A : Around} {outer : List Env} {s : Shared} {H : Hp} {E : XK} :
    (cxOf CX P w K mg base N qual scope f cd A outer s H E).K = K := rfl
theorem cut_to {xs : List V} {n : Nat} : cutV xs none (some (n : Int)) = xs.take n := by
  unfold cutV
  rw [HT.sIx_none, HT.sIx_nat]
  show List.take (min n xs.length - 0) xs = _
  rw [Nat.sub_zero]
  by_cases h : n ≤ xs.length
  · rw [Nat.min_eq_left h]
  · rw [Nat.min_eq_right (by omega), List.take_of_length_le (by omega), List.take_of_length_le (by omega)]
theorem cut_from {xs : List V} {n : Nat} : cutV xs (some (n : Int)) none = xs.drop n := by
  unfold cutV
  rw [HT.sIx_none, HT.sIx_nat]
  by_cases h : n ≤ xs.length
  · rw [Nat.min_eq_left h, List.take_of_length_le (by rw [List.length_drop]; omega)]
  · rw [Nat.min_eq_right (by omega), List.drop_of_length_le (by omega), List.drop_of_length_le (by omega), List.take_nil]
theorem cut_from1 {xs : List V} {n : Nat} : cutV xs (some ((n : Int) + 1)) none = xs.drop (n + 1) := cut_from (n := n + 1)
theorem mem_int {v : V} {ns : List Int} (h : v ∈ ns.map V.int) : ∃ i, v = .int i := by
  obtain ⟨i, _, e⟩ := List.mem_map.mp h
  exact ⟨i, e.symm⟩
/-- a for over what a walk gives -/
theorem for_go {J : It} {xs : List V} {G : Hp → Prop} (w : Walk J xs.length G (YAt xs)) {g : TG} {tb : TS} {D : Ends} {σ : St} {H : Hp} (Pv : Nat → St → Hp → Prop) (h0 : Pv 0 σ H) (hG : ∀ i σ H, i ≤ xs.length → Pv i σ H → G H)
    (hs : ∀ i x σ H, xs[i]? = some x → Pv i σ H → g x σ H fun σ2 H2 => tb { D with nx := Pv (i + 1), ct := Pv (i + 1), bk := D.nx } σ2 H2) (hd : ∀ σ H, Pv xs.length σ H → D.nx σ H) : forGo J g tb D σ H := by
  refine for_it w Pv h0 hG (fun i x σ H H' hi p y => ?_) hd
  obtain ⟨rfl, hx⟩ := y
  exact hs i x σ _ hx p
theorem new_facts {H H1 : Hp} {p : Addr} {o : HO} (hp : H p = none) (hG : upd H p o = H1) : Same H H1 ∧ H1 p = some o := by
  subst hG
  exact ⟨same_new hp, upd_same⟩

/-! ## the pool of draws -/
def spLawMixed : Sp := fun vs H Q _ => ∃ (n c m : Int), vs = [.int n, .int c, .int m] ∧ 0 ≤ n ∧ n < 4294967296 ∧ 0 ≤ c ∧ c ≤ 100000000 ∧ 0 < m ∧ ∀ v, 0 ≤ v → v < m → Q (.int v) H
theorem pow_ok {n c : Int} (h0 : 0 ≤ n) (h1 : n < 4294967296) (h2 : 0 ≤ c) (h3 : c ≤ 100000000) : (n + 7919 * c).natAbs < 2 ^ 64 := by
  have : (2 : Nat) ^ 64 = 18446744073709551616 := by decide
  omega
theorem nat_lt_of {c : Int} {a m : Nat} (h0 : 0 ≤ c) (h : c < (m : Int)) (hm : m ≤ 2 ^ a) : c.natAbs < 2 ^ a := Nat.lt_of_lt_of_le (by omega) hm
section
variable {P : Program} {w : World} {K : PySem.W.Frag} {mg : Str → Option Value} {base : Heap} {A : Adr}
theorem ok_mixed (T : Txt K mg A) : FnOk P w K mg base CX0 1 A.a_LawMixed A.d_LawMixed ["_law_number", "_law_count", "_law_many"] spLawMixed := by
  refine T.f_LawMixed.ok scLawMixed (fun vs H Q E h => ?_) (fun cdv A' outer s H vs Q E hr h => ?_)
  · obtain ⟨n, c, m, rfl, _⟩ := h
    rfl
  · obtain ⟨n, c, m, rfl, h0, h1, h2, h3, h4, k⟩ := h
    refine ⟨_, (pss_one (ps_ret (pe_op op_mod (pe_op op_fdivW (pe_callTy call_intI (by rfl) T.z_int (by decide +kernel) (pa_cons (pe_op op_mod (pe_op op_pow (pe_callTy call_intI (by rfl) T.z_int (by decide +kernel) (pa_cons (pe_op op_add (pv 0) (pe_op op_mulW pe_int (pv 1))) pa_nil)) pe_int) pe_int) pa_nil)) pe_int) (pv 2)))), ?_⟩
    simp only [tSeq, tNext, tRet, tRetN, tAsg, gName, gSub, tDrop, tIfS, tOp, tUn, tCB, tCons, tNil, tC, tVar, rI, rI0, rU, tAnd, tOr, tNot, tAndV, tOrV, tNotV, tIf, tTest, tB, tCall, tChain, tLst, tTup, tYes, rIxH, rIxU, rLenH, rLenU, rLenS, rInt1, rSetL, rEq, rNe, rCat, L2.start, List.map, List.length, List.length_cons, List.length_nil, List.replicate, List.getElem?_cons_zero, List.getElem?_cons_succ, List.set_cons_zero, List.set_cons_succ, List.set_nil, List.cons_append, List.nil_append, List.append_nil, Option.some.injEq, V.int.injEq, V.ref.injEq, V.str.injEq, V.bl.injEq, HO.lst.injEq, HO.tup.injEq, exists_eq_left', exists_and_left, exists_eq_left, List.cons.injEq, and_true, true_and, and_false, false_and, and_self, reduceCtorEq, exists_false, or_false, false_or, exists_const, at0, at1, at2, at3, at4, at5, ix51, ix52, ix54, upd_same, Nat.reduceAdd, Nat.reduceSub, Nat.zero_add, Int.reduceToNat, Int.reduceLE, Int.reduceLT, decide_eq_true_eq, Bool.not_eq_true, if_true, if_false, Bool.false_eq_true, ite_true, ite_false, Bool.not_true, Bool.not_false, decide_true, decide_false, tFor_eq, tLc_eq, iList, iTup, iRng1, iRng2, iStr, tSl, tPart, tNoPart, rSlL, cxOf_K, wipe]
    refine ⟨wide_mul (a := 13) (b := 27) (by decide) (nat_lt_of (m := 134217728) h2 (by omega) (by decide)) (by decide) (by decide) (by decide), ⟨by decide, by decide, pow_ok h0 h1 h2 h3⟩, wide_div (b := 5) (by decide) (by decide) (by decide) (by decide), h4, k _ (Int.emod_nonneg _ (by omega)) (Int.emod_lt_of_pos _ h4)⟩
/-- the pool's list stands at p, its numbers at l; at most c draws so far -/
def PoolAt (p l : Addr) (c : Nat) (H : Hp) : Prop := ∃ (ns : List Int) (t n z y : Int), H p = some (.lst [.ref l, .int t, .int n, .int z, .int y]) ∧ H l = some (.lst (ns.map V.int)) ∧ 0 ≤ t ∧ ns.length ≤ 63 ∧ 0 ≤ n ∧ n ≤ (c : Int) ∧ 0 ≤ z ∧ z < 2147483647
/-- all but the pool's two lists is as it was -/
def Off (p l : Addr) (H H' : Hp) : Prop := ∀ b, b ≠ p → b ≠ l → H' b = H b
def spLawDraw : Sp := fun vs H Q _ => ∃ (p l : Addr) (m : Int) (c : Nat), vs = [.ref p, .int m] ∧ 0 < m ∧ m < 1000000000000000000000000000000000000000 ∧ PoolAt p l c H ∧ c ≤ 90000000 ∧ ∀ v H', 0 ≤ v → v < m → PoolAt p l (c + 1) H' → Off p l H H' → Q (.int v) H'
theorem ok_draw (T : Txt K mg A) (gLawMixed : FnOk P w K mg base CX0 1 A.a_LawMixed A.d_LawMixed ["_law_number", "_law_count", "_law_many"] spLawMixed) : FnOk P w K mg base CX0 2 A.a_LawDraw A.d_LawDraw ["_law_pool_here", "_law_many"] spLawDraw := by
  refine T.f_LawDraw.ok scLawDraw (fun vs H Q E h => ?_) (fun cdv A' outer s H vs Q E hr h => ?_)
  · obtain ⟨p, l, m, c, rfl, _⟩ := h
    rfl
  · obtain ⟨p, l, m, c, rfl, m0, m1, ⟨ns, t, n, z, y, hp, hl, t0, nl, n0, n1, z0, z1⟩, c1, k⟩ := h
    have npl : p ≠ l := ne_of hp hl (by intro q; cases ns with | nil => cases q | cons _ _ => cases q)
    have e1 : ∀ (G : Hp) (o : HO), upd G p o l = G l := fun G o => upd_ne npl.symm
    have e2 : ∀ (G : Hp) (o : HO), upd G l o p = G p := fun G o => upd_ne npl
    have hm : CDivW 0 m := wide_div (b := 130) m0 (nat_lt_of (m := 1000000000000000000000000000000000000000) (by omega) (by omega) (by decide)) (by decide) (by decide)
    refine ⟨_, (pss_cons (ps_asg (pe_op op_add (pe_ix ix_lstH (pv 0) pe_int (fun _ _ => rfl)) pe_int) (pg_sub (pv 0) pe_int set_list))
      (pss_cons (ps_if (pt_cmpR (op_ge) (pe_ix ix_lstH (pv 0) pe_int (fun _ _ => rfl)) (pe_callB call_lenH (by rfl) T.z_len (by decide +kernel) (pa_cons (pe_ix ix_lstH (pv 0) pe_int (fun _ _ => rfl)) pa_nil)) (nomark _)) (pss_one (ps_ret (pe_call gLawMixed (hr.mono (by decide)) (by rfl) T.m_LawMixed T.f_LawMixed.kp T.b_LawMixed .nil pass0 (pa_cons (pe_ix ix_lstH (pv 0) pe_int (fun _ _ => rfl)) (pa_cons (pe_ix ix_lstH (pv 0) pe_int (fun _ _ => rfl)) (pa_cons (pv 1) pa_nil)))))) pss_nil)
      (pss_cons (ps_set (i := 2) scLawDraw.nd rfl (Or.inl rfl) (pe_ix ix_lstH (pv 0) pe_int (fun _ _ => rfl)))
      (pss_cons (ps_set (i := 3) scLawDraw.nd rfl (Or.inl rfl) (pe_ix ix_lstH (pv 0) pe_int (fun _ _ => rfl)))
      (pss_cons (ps_set (i := 4) scLawDraw.nd rfl (Or.inl rfl) (pe_ix ix_lstH (pv 3) (pv 2) (fun _ _ => rfl)))
      (pss_cons (ps_if (PW.pt (pw_and (pt_cmpR (op_ne) (pe_ix ix_lstH (pv 0) pe_int (fun _ _ => rfl)) pe_int (nomark _)) (pw_and1 (pt_cmpR (op_lt) (pv 4) (pe_op op_pow pe_int pe_int) (nomark _))))) (pss_cons (ps_asg (pe_op op_add (pe_ix ix_lstH (pv 0) pe_int (fun _ _ => rfl)) pe_int) (pg_sub (pv 0) pe_int set_list))
      (pss_cons (ps_if (pt_cmpR (op_eq) (pe_ix ix_lstH (pv 0) pe_int (fun _ _ => rfl)) pe_int (nomark _)) (pss_cons (ps_asg (pe_op op_add (pv 2) pe_int) (pg_sub (pv 0) pe_int set_list))
      (pss_one (ps_asg pe_int (pg_sub (pv 0) pe_int set_list)))) pss_nil)
      (pss_one (ps_ret (pe_call gLawMixed (hr.mono (by decide)) (by rfl) T.m_LawMixed T.f_LawMixed.kp T.b_LawMixed .nil pass0 (pa_cons (pe_op op_mod (pe_callTy call_intI (by rfl) T.z_int (by decide +kernel) (pa_cons (pv 4) pa_nil)) pe_int) (pa_cons (pe_ix ix_lstH (pv 0) pe_int (fun _ _ => rfl)) (pa_cons (pv 1) pa_nil)))))))) pss_nil)
      (pss_cons (ps_asg pe_int (pg_sub (pv 0) pe_int set_list))
      (pss_cons (ps_asg (pe_op op_fdivW (pe_callTy call_intI (by rfl) T.z_int (by decide +kernel) (pa_cons (pv 4) pa_nil)) (pv 1)) (pg_sub (pv 3) (pv 2) set_list))
      (pss_cons (ps_if (pt_cmpR (op_eq) (pe_ix ix_lstH (pv 3) (pv 2) (fun _ _ => rfl)) pe_int (nomark _)) (pss_cons (ps_asg (pe_op op_add (pv 2) pe_int) (pg_sub (pv 0) pe_int set_list))
      (pss_one (ps_asg pe_int (pg_sub (pv 0) pe_int set_list)))) pss_nil)
      (pss_one (ps_ret (pe_op op_mod (pe_callTy call_intI (by rfl) T.z_int (by decide +kernel) (pa_cons (pv 4) pa_nil)) (pv 1))))))))))))), ?_⟩
    have p10 : CPow 10 18 := ⟨by decide, by decide, by decide⟩
    have off : ∀ o o', Off p l H (upd (upd H p o) l o') := fun o o' b hb hb' => by rw [upd_ne hb', upd_ne hb]
    have off2 : ∀ o o', Off p l H (upd (upd H l o) p o') := fun o o' b hb hb' => by rw [upd_ne hb, upd_ne hb']
    have off1 : ∀ o, Off p l H (upd H p o) := fun o b hb hb' => by rw [upd_ne hb]
    have pool : ∀ (t' y' : Int), 0 ≤ t' → PoolAt p l (c + 1) (upd H p (.lst [.ref l, .int t', .int (n + 1), .int z, .int y'])) := fun t' y' h => ⟨ns, t', n + 1, z, y', upd_same, by rw [e1]; exact hl, h, nl, by omega, by omega, z0, z1⟩
    by_cases ht : t < (ns.length : Int)
    · have q : t = ((t.toNat : Nat) : Int) := (Int.toNat_of_nonneg t0).symm
      have q2 : t.toNat < ns.length := by omega
      have ha : atI (ns.map V.int) t = some (.int ns[t.toNat]) := at_of q (by rw [List.getElem?_map, List.getElem?_eq_getElem q2]; rfl)
      have hix : ixN ns.length t = some t.toNat := by
        unfold ixN
        rw [if_pos t0, if_pos ht]
      have hnt : ¬ ((ns.length : Int) ≤ t) := by omega
      have hset : ∀ v, (ns.map V.int).set t.toNat (.int v) = (ns.set t.toNat v).map V.int := fun v => by rw [List.map_set]
      have ha2 : ∀ v, atI ((ns.set t.toNat v).map V.int) t = some (.int v) := fun v => at_of q (by rw [List.getElem?_map, List.getElem?_set_self q2]; rfl)
      generalize ns[t.toNat] = v at ha
      simp only [tSeq, tNext, tRet, tRetN, tAsg, gName, gSub, tDrop, tIfS, tOp, tUn, tCB, tCons, tNil, tC, tVar, rI, rI0, rU, tAnd, tOr, tNot, tAndV, tOrV, tNotV, tIf, tTest, tB, tCall, tChain, tLst, tTup, tYes, rIxH, rIxU, rLenH, rLenU, rLenS, rInt1, rSetL, rEq, rNe, rCat, L2.start, List.map, List.length, List.length_cons, List.length_nil, List.replicate, List.getElem?_cons_zero, List.getElem?_cons_succ, List.set_cons_zero, List.set_cons_succ, List.set_nil, List.cons_append, List.nil_append, List.append_nil, Option.some.injEq, V.int.injEq, V.ref.injEq, V.str.injEq, V.bl.injEq, HO.lst.injEq, HO.tup.injEq, exists_eq_left', exists_and_left, exists_eq_left, List.cons.injEq, and_true, true_and, and_false, false_and, and_self, reduceCtorEq, exists_false, or_false, false_or, exists_const, at0, at1, at2, at3, at4, at5, ix51, ix52, ix54, upd_same, Nat.reduceAdd, Nat.reduceSub, Nat.zero_add, Int.reduceToNat, Int.reduceLE, Int.reduceLT, decide_eq_true_eq, Bool.not_eq_true, if_true, if_false, Bool.false_eq_true, ite_true, ite_false, Bool.not_true, Bool.not_false, decide_true, decide_false, tFor_eq, tLc_eq, iList, iTup, iRng1, iRng2, iStr, tSl, tPart, tNoPart, rSlL, cxOf_K, wipe, hp, hl, e1, e2, upd_upd, ha, hix, hnt, hset, ha2, scal_int, p10, List.length_map]
      have hv0 : 0 ≤ v % 2147483647 := Int.emod_nonneg _ (by decide)
      have hv1 : v % 2147483647 < 2147483647 := Int.emod_lt_of_pos _ (by decide)
      have r0 : 0 ≤ v % m := Int.emod_nonneg _ (by omega)
      have r1 : v % m < m := Int.emod_lt_of_pos _ m0
      have hd : CDivW v m := hm
      have mk : ∀ (t' y' : Int), 0 ≤ t' → spLawMixed [.int (v % 2147483647), .int (n + 1), .int m] (upd H p (.lst [.ref l, .int t', .int (n + 1), .int z, .int y'])) Q E0 := fun t' y' h =>
        ⟨_, _, _, rfl, hv0, by omega, by omega, by omega, m0, fun u u0 u1 => k u _ u0 u1 (pool t' y' h) (off1 _)⟩
      have hB : ∀ (ms : List Int), ms.length = ns.length → ∀ o, PoolAt p l (c + 1) (upd (upd (upd H p o) l (.lst (ms.map V.int))) p (.lst [.ref l, .int (t + 1), .int (n + 1), .int z, .int 0])) := fun ms hms o =>
        ⟨ms, t + 1, n + 1, z, 0, upd_same, by rw [e1, upd_same], by omega, by omega, by omega, by omega, z0, z1⟩
      have hC : ∀ (ms : List Int), ms.length = ns.length → PoolAt p l (c + 1) (upd (upd H p (.lst [.ref l, .int t, .int (n + 1), .int z, .int 2])) l (.lst (ms.map V.int))) := fun ms hms =>
        ⟨ms, t, n + 1, z, 2, by rw [e2, upd_same], upd_same, t0, by omega, by omega, by omega, z0, z1⟩
      have off3 : ∀ o o' o'', Off p l H (upd (upd (upd H p o) l o') p o'') := fun o o' o'' b hb hb' => by rw [upd_ne hb, upd_ne hb', upd_ne hb]
      have fin : CDivW v m ∧ if v / m = 0 then 0 < m ∧ Q (V.int (v % m)) (upd (upd (upd H p (HO.lst [V.ref l, V.int t, V.int (n + 1), V.int z, V.int 2])) l (HO.lst (List.map V.int (ns.set t.toNat (v / m))))) p (HO.lst [V.ref l, V.int (t + 1), V.int (n + 1), V.int z, V.int 0]))
          else 0 < m ∧ Q (V.int (v % m)) (upd (upd H p (HO.lst [V.ref l, V.int t, V.int (n + 1), V.int z, V.int 2])) l (HO.lst (List.map V.int (ns.set t.toNat (v / m))))) := by
        refine ⟨hd, ite2 (fun _ => ⟨m0, k _ _ r0 r1 (hB _ (by rw [List.length_set]) _) (off3 _ _ _)⟩) (fun _ => ⟨m0, k _ _ r0 r1 (hC _ (by rw [List.length_set])) (off _ _)⟩)⟩
      refine ite2 (fun _ => ?_) (fun _ => fin)
      refine ite2 (fun _ => ?_) (fun _ => fin)
      exact ite2 (fun _ => mk (t + 1) 0 (by omega)) (fun _ => mk t (y + 1) t0)
    · have hnt : (ns.length : Int) ≤ t := by omega
      simp only [tSeq, tNext, tRet, tRetN, tAsg, gName, gSub, tDrop, tIfS, tOp, tUn, tCB, tCons, tNil, tC, tVar, rI, rI0, rU, tAnd, tOr, tNot, tAndV, tOrV, tNotV, tIf, tTest, tB, tCall, tChain, tLst, tTup, tYes, rIxH, rIxU, rLenH, rLenU, rLenS, rInt1, rSetL, rEq, rNe, rCat, L2.start, List.map, List.length, List.length_cons, List.length_nil, List.replicate, List.getElem?_cons_zero, List.getElem?_cons_succ, List.set_cons_zero, List.set_cons_succ, List.set_nil, List.cons_append, List.nil_append, List.append_nil, Option.some.injEq, V.int.injEq, V.ref.injEq, V.str.injEq, V.bl.injEq, HO.lst.injEq, HO.tup.injEq, exists_eq_left', exists_and_left, exists_eq_left, List.cons.injEq, and_true, true_and, and_false, false_and, and_self, reduceCtorEq, exists_false, or_false, false_or, exists_const, at0, at1, at2, at3, at4, at5, ix51, ix52, ix54, upd_same, Nat.reduceAdd, Nat.reduceSub, Nat.zero_add, Int.reduceToNat, Int.reduceLE, Int.reduceLT, decide_eq_true_eq, Bool.not_eq_true, if_true, if_false, Bool.false_eq_true, ite_true, ite_false, Bool.not_true, Bool.not_false, decide_true, decide_false, tFor_eq, tLc_eq, iList, iTup, iRng1, iRng2, iStr, tSl, tPart, tNoPart, rSlL, cxOf_K, wipe, hp, hl, e1, e2, upd_upd, hnt, List.length_map]
      exact ⟨_, _, _, rfl, z0, by omega, by omega, by omega, m0, fun u u0 u1 => k u _ u0 u1 (pool t y t0) (off1 _)⟩
def spLawPool (K : PySem.W.Frag) : Sp := fun vs H Q _ => ∃ (a : Addr) (ns : List Int), vs = [.ref a] ∧ SqL K H a (ns.map V.int) ∧ ns.length ≤ 63 ∧ ∀ p l H', PoolAt p l 0 H' → H p = none → H l = none → Same H H' → Q (.ref p) H'
theorem ok_pool (T : Txt K mg A) : FnOk P w K mg base CX0 1 A.a_LawPool A.d_LawPool ["_law_script"] (spLawPool K) := by
  refine T.f_LawPool.ok scLawPool (fun vs H Q E h => ?_) (fun cdv A' outer s H vs Q E hr h => ?_)
  · obtain ⟨a, ns, rfl, _⟩ := h
    rfl
  · obtain ⟨a, ns, rfl, hS, nl, k⟩ := h
    refine ⟨_, (pss_cons (ps_setLc (i := 1) (own := [("_law_cell", 3)]) (g := gName 3) (tt := tYes) (by rfl) scLawPool.nd rfl rfl (sw_true rfl rfl rfl (by decide +kernel)) (pi_list (pe_slice sl_list (pv 0) po_none (po_some pe_int))) (blkOk_by (own := [("_law_cell", 3)]) (N := nLawPool) (sc := defScope sLawPool) (by decide +kernel)) (fun _ _ _ _ _ => pg_name (i := 3) scLawPool.nd rfl (Or.inl rfl)) (fun _ _ _ _ _ => pts_nil) (fun _ _ _ _ _ => (pe_callTy call_intI (by rfl) T.z_int (by decide +kernel) (pa_cons (pv 3) pa_nil))))
      (pss_cons (ps_set (i := 2) scLawPool.nd rfl (Or.inl rfl) pe_int)
      (pss_cons (ps_for PassesOwn.never rfl (pi_list (pv 1)) (pg_name (i := 3) scLawPool.nd rfl (Or.inl rfl)) (pss_one (ps_set (i := 2) scLawPool.nd rfl (Or.inl rfl) (pe_op op_mod (pe_callTy call_intI (by rfl) T.z_int (by decide +kernel) (pa_cons (pe_op op_add (pe_op op_mulW (pv 2) pe_int) (pv 3)) pa_nil)) pe_int))))
      (pss_one (ps_ret (pe_lst (pa_cons (pv 1) (pa_cons pe_int (pa_cons pe_int (pa_cons (pv 2) (pa_cons pe_int pa_nil))))))))))), ?_⟩
    simp only [tSeq, tNext, tRet, tRetN, tAsg, gName, gSub, tDrop, tIfS, tOp, tUn, tCB, tCons, tNil, tC, tVar, rI, rI0, rU, tAnd, tOr, tNot, tAndV, tOrV, tNotV, tIf, tTest, tB, tCall, tChain, tLst, tTup, tYes, rIxH, rIxU, rLenH, rLenU, rLenS, rInt1, rSetL, rEq, rNe, rCat, L2.start, List.map, List.length, List.length_cons, List.length_nil, List.replicate, List.getElem?_cons_zero, List.getElem?_cons_succ, List.set_cons_zero, List.set_cons_succ, List.set_nil, List.cons_append, List.nil_append, List.append_nil, Option.some.injEq, V.int.injEq, V.ref.injEq, V.str.injEq, V.bl.injEq, HO.lst.injEq, HO.tup.injEq, exists_eq_left', exists_and_left, exists_eq_left, List.cons.injEq, and_true, true_and, and_false, false_and, and_self, reduceCtorEq, exists_false, or_false, false_or, exists_const, at0, at1, at2, at3, at4, at5, ix51, ix52, ix54, upd_same, Nat.reduceAdd, Nat.reduceSub, Nat.zero_add, Int.reduceToNat, Int.reduceLE, Int.reduceLT, decide_eq_true_eq, Bool.not_eq_true, if_true, if_false, Bool.false_eq_true, ite_true, ite_false, Bool.not_true, Bool.not_false, decide_true, decide_false, tFor_eq, tLc_eq, iList, iTup, iRng1, iRng2, iStr, tSl, tPart, tNoPart, rSlL, cxOf_K, wipe]
    refine ⟨_, hS, fun p hp => ⟨⟨_, SqL.of upd_same⟩, fun D hD => ?_⟩⟩
    have hc : cutV (ns.map V.int) none (some 63) = ns.map V.int := by
      rw [show (63 : Int) = ((63 : Nat) : Int) from rfl, cut_to, List.take_of_length_le (by rw [List.length_map]; exact nl)]
    rw [hc] at hD ⊢
    have hDn : H D = none := (same_new hp).free hD
    refine lc_same (walk_list (K := K) (xs := ns.map V.int)) (fun _ => true) id hD (fun H2 s2 => s2.seq (SqL.of upd_same)) (by rw [List.length_map]; omega) (fun x hx H2 s2 R R0 h1 _ => ?_) (fun H2 s2 h2 => ?_)
    · obtain ⟨i, rfl⟩ := mem_int hx
      simp only [tSeq, tNext, tRet, tRetN, tAsg, gName, gSub, tDrop, tIfS, tOp, tUn, tCB, tCons, tNil, tC, tVar, rI, rI0, rU, tAnd, tOr, tNot, tAndV, tOrV, tNotV, tIf, tTest, tB, tCall, tChain, tLst, tTup, tYes, rIxH, rIxU, rLenH, rLenU, rLenS, rInt1, rSetL, rEq, rNe, rCat, L2.start, List.map, List.length, List.length_cons, List.length_nil, List.replicate, List.getElem?_cons_zero, List.getElem?_cons_succ, List.set_cons_zero, List.set_cons_succ, List.set_nil, List.cons_append, List.nil_append, List.append_nil, Option.some.injEq, V.int.injEq, V.ref.injEq, V.str.injEq, V.bl.injEq, HO.lst.injEq, HO.tup.injEq, exists_eq_left', exists_and_left, exists_eq_left, List.cons.injEq, and_true, true_and, and_false, false_and, and_self, reduceCtorEq, exists_false, or_false, false_or, exists_const, at0, at1, at2, at3, at4, at5, ix51, ix52, ix54, upd_same, Nat.reduceAdd, Nat.reduceSub, Nat.zero_add, Int.reduceToNat, Int.reduceLE, Int.reduceLT, decide_eq_true_eq, Bool.not_eq_true, if_true, if_false, Bool.false_eq_true, ite_true, ite_false, Bool.not_true, Bool.not_false, decide_true, decide_false, tFor_eq, tLc_eq, iList, iTup, iRng1, iRng2, iStr, tSl, tPart, tNoPart, rSlL, cxOf_K, wipe]
      exact h1 H2 (Same.refl _) rfl
    · have h2 : H2 D = some (.lst (ns.map V.int)) := by
        rw [h2, List.map_id, List.filter_eq_self.mpr fun _ _ => rfl]
      have sm : Same H H2 := (same_new hp).trans s2
      refine ⟨D, rfl, ⟨_, SqL.of h2⟩, for_go (walk_list (K := K) (xs := ns.map V.int)) (fun i σ H' => H' = H2 ∧ ∃ (z : Int) (v : Option V), σ = [some (.ref a), some (.ref D), some (.int z), v] ∧ 0 ≤ z ∧ z < 2147483647) ⟨rfl, 11, _, rfl, by decide, by decide⟩ (fun i σ H' _ q => by rw [q.1]; exact SqL.of h2) (fun i x σ H' hx q => ?_) (fun σ H' q => ?_)⟩
      · obtain ⟨rfl, z, v, rfl, z0, z1⟩ := q
        obtain ⟨u, rfl⟩ := mem_int (List.mem_of_getElem? hx)
        simp only [tSeq, tNext, tRet, tRetN, tAsg, gName, gSub, tDrop, tIfS, tOp, tUn, tCB, tCons, tNil, tC, tVar, rI, rI0, rU, tAnd, tOr, tNot, tAndV, tOrV, tNotV, tIf, tTest, tB, tCall, tChain, tLst, tTup, tYes, rIxH, rIxU, rLenH, rLenU, rLenS, rInt1, rSetL, rEq, rNe, rCat, L2.start, List.map, List.length, List.length_cons, List.length_nil, List.replicate, List.getElem?_cons_zero, List.getElem?_cons_succ, List.set_cons_zero, List.set_cons_succ, List.set_nil, List.cons_append, List.nil_append, List.append_nil, Option.some.injEq, V.int.injEq, V.ref.injEq, V.str.injEq, V.bl.injEq, HO.lst.injEq, HO.tup.injEq, exists_eq_left', exists_and_left, exists_eq_left, List.cons.injEq, and_true, true_and, and_false, false_and, and_self, reduceCtorEq, exists_false, or_false, false_or, exists_const, at0, at1, at2, at3, at4, at5, ix51, ix52, ix54, upd_same, Nat.reduceAdd, Nat.reduceSub, Nat.zero_add, Int.reduceToNat, Int.reduceLE, Int.reduceLT, decide_eq_true_eq, Bool.not_eq_true, if_true, if_false, Bool.false_eq_true, ite_true, ite_false, Bool.not_true, Bool.not_false, decide_true, decide_false, tFor_eq, tLc_eq, iList, iTup, iRng1, iRng2, iStr, tSl, tPart, tNoPart, rSlL, cxOf_K, wipe]
        exact ⟨wide_mul (a := 31) (b := 16) (nat_lt_of (m := 2147483648) z0 (by omega) (by decide)) (by decide) (by decide) (by decide) (by decide), _, _, ⟨rfl, rfl⟩, Int.emod_nonneg _ (by decide), Int.emod_lt_of_pos _ (by decide)⟩
      · obtain ⟨rfl, z, v, rfl, z0, z1⟩ := q
        simp only [tSeq, tNext, tRet, tRetN, tAsg, gName, gSub, tDrop, tIfS, tOp, tUn, tCB, tCons, tNil, tC, tVar, rI, rI0, rU, tAnd, tOr, tNot, tAndV, tOrV, tNotV, tIf, tTest, tB, tCall, tChain, tLst, tTup, tYes, rIxH, rIxU, rLenH, rLenU, rLenS, rInt1, rSetL, rEq, rNe, rCat, L2.start, List.map, List.length, List.length_cons, List.length_nil, List.replicate, List.getElem?_cons_zero, List.getElem?_cons_succ, List.set_cons_zero, List.set_cons_succ, List.set_nil, List.cons_append, List.nil_append, List.append_nil, Option.some.injEq, V.int.injEq, V.ref.injEq, V.str.injEq, V.bl.injEq, HO.lst.injEq, HO.tup.injEq, exists_eq_left', exists_and_left, exists_eq_left, List.cons.injEq, and_true, true_and, and_false, false_and, and_self, reduceCtorEq, exists_false, or_false, false_or, exists_const, at0, at1, at2, at3, at4, at5, ix51, ix52, ix54, upd_same, Nat.reduceAdd, Nat.reduceSub, Nat.zero_add, Int.reduceToNat, Int.reduceLE, Int.reduceLT, decide_eq_true_eq, Bool.not_eq_true, if_true, if_false, Bool.false_eq_true, ite_true, ite_false, Bool.not_true, Bool.not_false, decide_true, decide_false, tFor_eq, tLc_eq, iList, iTup, iRng1, iRng2, iStr, tSl, tPart, tNoPart, rSlL, cxOf_K, wipe]
        refine ⟨by decide, fun q hq => ?_⟩
        have nq : D ≠ q := ne_of_none h2 hq
        exact k q D _ ⟨ns, 0, 0, z, 0, upd_same, by rw [upd_ne nq]; exact h2, by omega, nl, by omega, by omega, z0, z1⟩ (sm.free hq) hDn (sm.trans (same_new hq))
end


/-! ### kinds of things -/
def kdO : Option HO → String
  | some (.lst _) => "list"
  | some (.tup _) => "tuple"
  | some (.dK _) => "dict"
  | _ => "?"
def kd (H : Hp) : V → String
  | .non => "NoneType"
  | .bl _ => "bool"
  | .int _ => "int"
  | .str _ => "str"
  | .ref a => kdO (H a)
  | _ => "?"
theorem kd_non {H : Hp} : kd H .non = "NoneType" := rfl
theorem kd_bl {H : Hp} {b : Bool} : kd H (.bl b) = "bool" := rfl
theorem kd_int {H : Hp} {i : Int} : kd H (.int i) = "int" := rfl
theorem kd_str {H : Hp} {z : Str} : kd H (.str z) = "str" := rfl
theorem kd_ref {H : Hp} {a : Addr} : kd H (.ref a) = kdO (H a) := rfl
theorem kdO_lst {xs : List V} : kdO (some (.lst xs)) = "list" := rfl
theorem kdO_tup {xs : List V} : kdO (some (.tup xs)) = "tuple" := rfl
theorem kdO_dK {kvs : List (Key × V)} : kdO (some (.dK kvs)) = "dict" := rfl
theorem nq_n : "NoneType" ≠ "?" := by decide
theorem nq_b : "bool" ≠ "?" := by decide
theorem nq_i : "int" ≠ "?" := by decide
theorem nq_s : "str" ≠ "?" := by decide
theorem nq_l : "list" ≠ "?" := by decide
theorem nq_t : "tuple" ≠ "?" := by decide
theorem nq_d : "dict" ≠ "?" := by decide
theorem kd_ty {K : PySem.W.Frag} {H : Hp} {v : V} (h : kd H v ≠ "?") : TyX K H v (.type (kd H v)) := by
  cases v with
  | non => exact .base .non
  | bl b => exact .base (.bl b)
  | int i => exact .base (.int i)
  | str z => exact .base (.str z)
  | byt b => exact absurd rfl h
  | flt b => exact absurd rfl h
  | ty n => exact absurd rfl h
  | ref a =>
    have h : kdO (H a) ≠ "?" := h
    show TyX K H (.ref a) (.type (kdO (H a)))
    cases e : H a with
    | none => rw [e] at h; exact absurd rfl h
    | some o =>
      rw [e] at h
      cases o with
      | lst xs => exact .base (.lst e)
      | tup xs => exact .base (.tup e)
      | dK kvs => exact .base (.dK e)
      | _ => exact absurd rfl h
def kitAnyB (t : String) : List String → Option Bool
  | [] => some false
  | c :: r => match kitB t c with
    | some true => some true
    | some false => kitAnyB t r
    | none => none
theorem kitAnyB_ok {K : PySem.W.Frag} {t : String} : ∀ {cs : List String} {b : Bool}, kitAnyB t cs = some b → PySem.W.kitAny K (.type t) (cs.map Value.type) = some b
  | [], b, h => h
  | c :: r, b, h => by
    unfold kitAnyB at h
    show PySem.W.kitAny K (.type t) (Value.type c :: r.map Value.type) = some b
    unfold PySem.W.kitAny
    cases e : kitB t c with
    | none => rw [e] at h; cases h
    | some d =>
      rw [kit_ty e]
      rw [e] at h
      cases d with
      | true => exact h
      | false => exact kitAnyB_ok h
theorem clsV_all : ∀ (cs : List String), Paired ClsV (cs.map V.ty) (cs.map Value.type)
  | [] => .nil
  | c :: r => .cons (.ty c) (clsV_all r)
section
variable {X : Cx}
/-- isinstance(x, T), T a built-in class; a tuple of such -/
def rIsB : List V → Hp → VK → Prop := fun vs H Q => ∃ x T b, vs = [x, .ty T] ∧ kd H x ≠ "?" ∧ kitB (kd H x) T = some b ∧ Q (.bl b) H
theorem call_isB : CallR X (.builtin "isinstance") rIsB := fun pins s σ H xs us Q I r h => by
  obtain ⟨x, T, b, h1, h2, h3, h4⟩ := h
  exact call_isi pins s σ H xs us Q I r ⟨x, .ty T, _, _, b, h1, .ty T, kd_ty h2, kit_ty h3, h4⟩
def rIsBT : List V → Hp → VK → Prop := fun vs H Q => ∃ x p ts cs b, vs = [x, .ref p] ∧ H p = some (.tup ts) ∧ ts = List.map V.ty cs ∧ kd H x ≠ "?" ∧ kitAnyB (kd H x) cs = some b ∧ Q (.bl b) H
theorem call_isBT : CallR X (.builtin "isinstance") rIsBT := fun pins s σ H xs us Q I r h => by
  obtain ⟨x, p, ts, cs, b, h1, h2, rfl, h3, h4, h5⟩ := h
  exact call_isiT pins s σ H xs us Q I r ⟨x, p, _, _, _, b, h1, h2, clsV_all cs, kd_ty h3, kitAnyB_ok h4, h5⟩
theorem ex_ty2 {a b : String} {P : List String → Prop} : (∃ cs, [V.ty a, V.ty b] = List.map V.ty cs ∧ P cs) ↔ P [a, b] := by
  constructor
  · rintro ⟨cs, h, p⟩
    match cs, h with
    | [c, d], h =>
      injection h with h1 h2
      injection h1 with h1
      injection h2 with h2 _
      injection h2 with h2
      subst h1 h2
      exact p
  · exact fun p => ⟨[a, b], rfl, p⟩
def rMulS : R2 := fun x y H Q => ∃ z n, x = .str z ∧ y = .int n ∧ MulOk z n ∧ Q (.str (Txt.mul z n)) H
theorem op_mul_str : OpR X (binaryOp .Mult) rMulS := fun pins s σ H x y v u Q I rx ry h => by
  obtain ⟨z, n, rfl, rfl, h1, q⟩ := h
  obtain ⟨t, rfl⟩ := rx
  obtain ⟨t', rfl⟩ := ry
  exact PySem.SB.mul h1 fun t2 k => ⟨.str _, H, I.tok k, ⟨_, rfl⟩, q⟩
end
theorem kit_ss : kitB "str" "str" = some true := by decide +kernel
theorem kit_ns : kitB "NoneType" "str" = some false := by decide +kernel
theorem kit_bs : kitB "bool" "str" = some false := by decide +kernel
theorem kit_is : kitB "int" "str" = some false := by decide +kernel
theorem kit_ls : kitB "list" "str" = some false := by decide +kernel
theorem kit_ts : kitB "tuple" "str" = some false := by decide +kernel
theorem kit_ds : kitB "dict" "str" = some false := by decide +kernel
theorem kit_bb : kitB "bool" "bool" = some true := by decide +kernel
theorem kit_LTl : kitAnyB "list" ["list", "tuple"] = some true := by decide +kernel
theorem kit_LTt : kitAnyB "tuple" ["list", "tuple"] = some true := by decide +kernel
theorem kit_LTd : kitAnyB "dict" ["list", "tuple"] = some false := by decide +kernel
theorem kit_LTs : kitAnyB "str" ["list", "tuple"] = some false := by decide +kernel
theorem kit_LTn : kitAnyB "NoneType" ["list", "tuple"] = some false := by decide +kernel
theorem kit_LTb : kitAnyB "bool" ["list", "tuple"] = some false := by decide +kernel
theorem kit_LTi : kitAnyB "int" ["list", "tuple"] = some false := by decide +kernel
/-- a small text -/
def Sm (z : Str) : Prop := z.length ≤ 1000 ∧ ∀ c ∈ z.cps.toList, c < 128
/-- a thing that the laws hand about -/
inductive Thg (H : Hp) : V → Prop
  | non : Thg H .non
  | bl (b : Bool) : Thg H (.bl b)
  | int (i : Int) : Thg H (.int i)
  | str {z : Str} (h : Sm z) : Thg H (.str z)
  | lst {a : Addr} {xs : List V} (e : H a = some (.lst xs)) : Thg H (.ref a)
  | tup {a : Addr} {xs : List V} (e : H a = some (.tup xs)) : Thg H (.ref a)
  | dic {a : Addr} {kvs : List (Key × V)} (e : H a = some (.dK kvs)) : Thg H (.ref a)
theorem Thg.mono {H H' : Hp} {v : V} (s : Same H H') (h : Thg H v) : Thg H' v := by
  cases h with
  | non => exact .non
  | bl b => exact .bl b
  | int i => exact .int i
  | str h => exact .str h
  | lst e => exact .lst (s _ _ e)
  | tup e => exact .tup (s _ _ e)
  | dic e => exact .dic (s _ _ e)
def codeOf : V → Nat
  | .str z => z.cps.toList.headD 0
  | _ => 0
theorem codeOf_sgn {c : Nat} : codeOf (sgn c) = c := rfl
theorem mem_sgn {x : V} {l : List Nat} (h : x ∈ l.map sgn) : ∃ c, c ∈ l ∧ x = sgn c := by
  obtain ⟨c, h1, h2⟩ := List.mem_map.mp h
  exact ⟨c, h1, h2.symm⟩
theorem filter_all {α : Type} {l : List α} : l.filter (fun _ => true) = l := List.filter_eq_self.mpr fun _ _ => rfl
theorem size1000 {n : Nat} (h : n ≤ 1000) : n ≤ sizeLine := Nat.le_trans h (by decide)
theorem lt1p {a b : Nat} : ([a] < [b]) ↔ a < b := by
  refine ⟨fun h => ?_, fun h => List.cons_lt_cons_iff.mpr (.inl h)⟩
  rcases List.cons_lt_cons_iff.mp h with h | ⟨_, h⟩
  · exact h
  · exact absurd h (List.not_lt_nil _)
section
variable {X : Cx}
/-- a list == [] -/
def rEqNil : R2 := fun x y H Q => ∃ a b xs ys, x = .ref a ∧ y = .ref b ∧ H a = some (.lst xs) ∧ H b = some (.lst ys) ∧ ys = [] ∧ Q (.bl xs.isEmpty) H
theorem op_eqNil (hu : X.A.units + 64 < cLine) : OpR X (compareOp .Eq) rEqNil := fun pins s σ H x y v u Q I rx ry h => by
  obtain ⟨a, b, xs, ys, rfl, rfl, ha, hb, rfl, q⟩ := h
  cases rx
  cases ry
  obtain ⟨its, r, pl, hz⟩ := I.list (SqL.of ha)
  obtain ⟨its2, r2, pl2, hz2⟩ := I.list (SqL.of hb)
  have hl := r.length
  have hl2 := r2.length
  have hu' : X.A.units < cLine := by omega
  cases xs with
  | nil =>
    have e1 : its = [] := List.eq_nil_of_length_eq_zero hl.symm
    have e2 : its2 = [] := List.eq_nil_of_length_eq_zero hl2.symm
    subst e1 e2
    exact SeqAt.eq_listAt (e := fun _ => true) pl.isList pl2.isList rfl hu' (fun j h1 _ => absurd h1 (by simp)) ⟨.bl true, H, I, rfl, q⟩
  | cons x r' =>
    refine SeqAt.eq_list_lengthsAt pl.isList pl2.isList ?_ hu' ⟨.bl false, H, I, rfl, q⟩
    simp only [List.size_toArray, ← hl, ← hl2, List.length_cons, List.length_nil]
    simp
end

/-! ## lines -/
def signOk (c : Nat) : Bool := decide (32 ≤ c) && decide (c ≤ 126)
def isLineV : V → Bool
  | .str z => decide (z.length ≤ 40) && z.cps.toList.all signOk
  | _ => false
theorem cSp : (Str.ofString " ").cps.toList = [32] := by decide +kernel
theorem cTi : (Str.ofString "~").cps.toList = [126] := by decide +kernel
section
variable {P : Program} {w : World} {K : PySem.W.Frag} {mg : Str → Option Value} {base : Heap} {A : Adr}
def spIsSign : Sp := fun vs H Q _ => ∃ c : Nat, vs = [.str ⟨#[c]⟩] ∧ Q (.bl (signOk c)) H
theorem ok_is_sign (T : Txt K mg A) : FnOk P w K mg base CX0 1 A.a_IsSign A.d_IsSign ["sign"] spIsSign := by
  refine T.f_IsSign.ok scIsSign (fun vs H Q E h => ?_) (fun cdv A' outer s H vs Q E hr h => ?_)
  · obtain ⟨c, rfl, _⟩ := h
    rfl
  · obtain ⟨c, rfl, k⟩ := h
    refine ⟨_, (pss_one (ps_ret (pe_chain (op_le_str) (op_le_str) pe_str (pv 0) pe_str))), ?_⟩
    try simp only [tSeq, tNext, tRet, tRetN, tAsg, gName, gSub, tDrop, tIfS, tOp, tUn, tCB, tCons, tNil, tC, tVar, rI, rI0, rU, tAnd, tOr, tNot, tAndV, tOrV, tNotV, tIf, tTest, tB, tCall, tChain, tLst, tTup, tYes, rIxH, rIsB, rIsBT, rMulS, kd_non, kd_bl, kd_int, kd_str, kd_ref, kdO_lst, kdO_tup, kdO_dK, nq_n, nq_b, nq_i, nq_s, nq_l, nq_t, nq_d, ne_eq, not_false_eq_true, kit_ss, kit_ns, kit_bs, kit_is, kit_ls, kit_ts, kit_ds, kit_bb, V.ty.injEq, and_assoc, rIxU, rLenH, rLenU, rLenS, rInt1, rSetL, rEq, rNe, rCat, L2.start, List.map, List.length, List.length_cons, List.length_nil, List.replicate, List.getElem?_cons_zero, List.getElem?_cons_succ, List.set_cons_zero, List.set_cons_succ, List.set_nil, List.cons_append, List.nil_append, List.append_nil, Option.some.injEq, V.int.injEq, V.ref.injEq, V.str.injEq, V.bl.injEq, HO.lst.injEq, HO.tup.injEq, exists_eq_left', exists_and_left, exists_eq_left, List.cons.injEq, and_true, true_and, and_false, false_and, and_self, reduceCtorEq, exists_false, or_false, false_or, exists_const, at0, at1, at2, at3, at4, at5, ix51, ix52, ix54, upd_same, Nat.reduceAdd, Nat.reduceSub, Nat.zero_add, Int.reduceToNat, Int.reduceLE, Int.reduceLT, decide_eq_true_eq, Bool.not_eq_true, if_true, if_false, Bool.false_eq_true, ite_true, ite_false, Bool.not_true, Bool.not_false, decide_true, decide_false, tFor_eq, tLc_eq, iList, iTup, iRng1, iRng2, iStr, tSl, tPart, tNoPart, rSlL, cxOf_K, wipe, ex_ty2, kit_LTl, kit_LTt, kit_LTd, kit_LTs, kit_LTn, kit_LTb, kit_LTi, tM1, rIxS, exists_eq', lt1p, tDNewK, rSlS, rEqNil, cSp, cTi]
    have e : signOk c = (!decide (c < 32) && !decide (126 < c)) := by
      unfold signOk
      rw [Bool.eq_iff_iff]
      simp only [Bool.and_eq_true, Bool.not_eq_true', decide_eq_true_eq, decide_eq_false_iff_not]
      omega
    rw [e] at k
    refine ite2 (fun h => ?_) (fun h => ?_)
    · rw [h] at k
      exact k
    · rw [Bool.not_eq_true] at h
      rw [h] at k
      exact k
def spIsLine : Sp := fun vs H Q _ => ∃ v, vs = [v] ∧ Thg H v ∧ ∀ H', Same H H' → Q (.bl (isLineV v)) H'
theorem ok_is_line (T : Txt K mg A) (gIsSign : FnOk P w K mg base CX0 1 A.a_IsSign A.d_IsSign ["sign"] spIsSign) : FnOk P w K mg base CX0 2 A.a_IsLine A.d_IsLine ["value"] spIsLine := by
  refine T.f_IsLine.ok scIsLine (fun vs H Q E h => ?_) (fun cdv A' outer s H vs Q E hr h => ?_)
  · obtain ⟨v, rfl, _⟩ := h
    rfl
  · obtain ⟨v, rfl, ht, k⟩ := h
    refine ⟨_, (pss_one (ps_ret (pe_and (pe_callB call_isB (by rfl) T.z_isinstance (by decide +kernel) (pa_cons (pv 0) (pa_cons (pe_bltn (v := .ty "str") (by rfl) T.z_str (by decide +kernel) rfl) pa_nil))) (pe_and (pe_cmpR (op_le) (pe_callB call_lenS (by rfl) T.z_len (by decide +kernel) (pa_cons (pv 0) pa_nil)) (pe_glob (v := .int 40) (by rfl) T.c_MOST_SIGNS.choose_spec ⟨_, rfl⟩) (nomark _)) (pe_one (pe_callB (cr_all rfl) (by rfl) T.z_all (by decide +kernel) (pa_cons (pe_lc (own := [("sign", 1)]) (g := gName 1) (tt := tYes) (by rfl) scIsLine.nd (pi_str (pv 0)) (blkOk_by (own := [("sign", 1)]) (N := nIsLine) (sc := defScope sIsLine) (by decide +kernel)) (fun _ _ _ _ _ => pg_name (i := 1) scIsLine.nd rfl (Or.inl rfl)) (fun _ _ _ _ _ => pts_nil) (fun _ _ _ _ _ => (pe_call gIsSign (hr.mono (by decide)) (by rfl) T.m_IsSign T.f_IsSign.kp T.b_IsSign .nil pass0 (pa_cons (pv 1) pa_nil)))) pa_nil))))))), ?_⟩
    cases ht with
    | str hz =>
      try simp only [tSeq, tNext, tRet, tRetN, tAsg, gName, gSub, tDrop, tIfS, tOp, tUn, tCB, tCons, tNil, tC, tVar, rI, rI0, rU, tAnd, tOr, tNot, tAndV, tOrV, tNotV, tIf, tTest, tB, tCall, tChain, tLst, tTup, tYes, rIxH, rIsB, rIsBT, rMulS, kd_non, kd_bl, kd_int, kd_str, kd_ref, kdO_lst, kdO_tup, kdO_dK, nq_n, nq_b, nq_i, nq_s, nq_l, nq_t, nq_d, ne_eq, not_false_eq_true, kit_ss, kit_ns, kit_bs, kit_is, kit_ls, kit_ts, kit_ds, kit_bb, V.ty.injEq, and_assoc, rIxU, rLenH, rLenU, rLenS, rInt1, rSetL, rEq, rNe, rCat, L2.start, List.map, List.length, List.length_cons, List.length_nil, List.replicate, List.getElem?_cons_zero, List.getElem?_cons_succ, List.set_cons_zero, List.set_cons_succ, List.set_nil, List.cons_append, List.nil_append, List.append_nil, Option.some.injEq, V.int.injEq, V.ref.injEq, V.str.injEq, V.bl.injEq, HO.lst.injEq, HO.tup.injEq, exists_eq_left', exists_and_left, exists_eq_left, List.cons.injEq, and_true, true_and, and_false, false_and, and_self, reduceCtorEq, exists_false, or_false, false_or, exists_const, at0, at1, at2, at3, at4, at5, ix51, ix52, ix54, upd_same, Nat.reduceAdd, Nat.reduceSub, Nat.zero_add, Int.reduceToNat, Int.reduceLE, Int.reduceLT, decide_eq_true_eq, Bool.not_eq_true, if_true, if_false, Bool.false_eq_true, ite_true, ite_false, Bool.not_true, Bool.not_false, decide_true, decide_false, tFor_eq, tLc_eq, iList, iTup, iRng1, iRng2, iStr, tSl, tPart, tNoPart, rSlL, cxOf_K, wipe, ex_ty2, kit_LTl, kit_LTt, kit_LTd, kit_LTs, kit_LTn, kit_LTb, kit_LTi, tM1, rIxS, exists_eq', lt1p, tDNewK, rSlS, rEqNil]
      rename_i z
      have hz1 := hz.1
      refine ⟨size1000 hz1, ite2 (fun h => fun D hD => ?_) (fun h => ?_)⟩
      · refine lc_same walk_strY (fun _ => true) (fun v => .bl (signOk (codeOf v))) hD (fun _ _ => trivial) (by rw [List.length_map, Array.length_toList]; show z.length ≤ _; omega) (fun x hx H2 s2 R R0 h1 _ => ?_) (fun H2 s2 h2 => ?_)
        · obtain ⟨c, hc, rfl⟩ := mem_sgn hx
          try simp only [tSeq, tNext, tRet, tRetN, tAsg, gName, gSub, tDrop, tIfS, tOp, tUn, tCB, tCons, tNil, tC, tVar, rI, rI0, rU, tAnd, tOr, tNot, tAndV, tOrV, tNotV, tIf, tTest, tB, tCall, tChain, tLst, tTup, tYes, rIxH, rIsB, rIsBT, rMulS, kd_non, kd_bl, kd_int, kd_str, kd_ref, kdO_lst, kdO_tup, kdO_dK, nq_n, nq_b, nq_i, nq_s, nq_l, nq_t, nq_d, ne_eq, not_false_eq_true, kit_ss, kit_ns, kit_bs, kit_is, kit_ls, kit_ts, kit_ds, kit_bb, V.ty.injEq, and_assoc, rIxU, rLenH, rLenU, rLenS, rInt1, rSetL, rEq, rNe, rCat, L2.start, List.map, List.length, List.length_cons, List.length_nil, List.replicate, List.getElem?_cons_zero, List.getElem?_cons_succ, List.set_cons_zero, List.set_cons_succ, List.set_nil, List.cons_append, List.nil_append, List.append_nil, Option.some.injEq, V.int.injEq, V.ref.injEq, V.str.injEq, V.bl.injEq, HO.lst.injEq, HO.tup.injEq, exists_eq_left', exists_and_left, exists_eq_left, List.cons.injEq, and_true, true_and, and_false, false_and, and_self, reduceCtorEq, exists_false, or_false, false_or, exists_const, at0, at1, at2, at3, at4, at5, ix51, ix52, ix54, upd_same, Nat.reduceAdd, Nat.reduceSub, Nat.zero_add, Int.reduceToNat, Int.reduceLE, Int.reduceLT, decide_eq_true_eq, Bool.not_eq_true, if_true, if_false, Bool.false_eq_true, ite_true, ite_false, Bool.not_true, Bool.not_false, decide_true, decide_false, tFor_eq, tLc_eq, iList, iTup, iRng1, iRng2, iStr, tSl, tPart, tNoPart, rSlL, cxOf_K, wipe, ex_ty2, kit_LTl, kit_LTt, kit_LTd, kit_LTs, kit_LTn, kit_LTb, kit_LTi, tM1, rIxS, exists_eq', lt1p, tDNewK, rSlS, rEqNil]
          exact ⟨c, rfl, h1 H2 (Same.refl _) rfl⟩
        · rw [filter_all, List.map_map] at h2
          refine ⟨D, z.cps.toList.map signOk, rfl, SqL.of (by rw [h2, List.map_map]; rfl), ?_⟩
          have e : isLineV (.str z) = (z.cps.toList.map signOk).all id := by
            show (decide (z.length ≤ 40) && z.cps.toList.all signOk) = _
            rw [decide_eq_true (show z.length ≤ 40 by omega), Bool.true_and, List.all_map]
            rfl
          rw [← e]
          exact k H2 s2
      · have e : isLineV (.str z) = false := by
          show (decide (z.length ≤ 40) && z.cps.toList.all signOk) = _
          rw [decide_eq_false (show ¬ z.length ≤ 40 by omega), Bool.false_and]
        rw [← e]
        exact k H (Same.refl H)
    | lst e =>
      try simp only [tSeq, tNext, tRet, tRetN, tAsg, gName, gSub, tDrop, tIfS, tOp, tUn, tCB, tCons, tNil, tC, tVar, rI, rI0, rU, tAnd, tOr, tNot, tAndV, tOrV, tNotV, tIf, tTest, tB, tCall, tChain, tLst, tTup, tYes, rIxH, rIsB, rIsBT, rMulS, kd_non, kd_bl, kd_int, kd_str, kd_ref, kdO_lst, kdO_tup, kdO_dK, nq_n, nq_b, nq_i, nq_s, nq_l, nq_t, nq_d, ne_eq, not_false_eq_true, kit_ss, kit_ns, kit_bs, kit_is, kit_ls, kit_ts, kit_ds, kit_bb, V.ty.injEq, and_assoc, rIxU, rLenH, rLenU, rLenS, rInt1, rSetL, rEq, rNe, rCat, L2.start, List.map, List.length, List.length_cons, List.length_nil, List.replicate, List.getElem?_cons_zero, List.getElem?_cons_succ, List.set_cons_zero, List.set_cons_succ, List.set_nil, List.cons_append, List.nil_append, List.append_nil, Option.some.injEq, V.int.injEq, V.ref.injEq, V.str.injEq, V.bl.injEq, HO.lst.injEq, HO.tup.injEq, exists_eq_left', exists_and_left, exists_eq_left, List.cons.injEq, and_true, true_and, and_false, false_and, and_self, reduceCtorEq, exists_false, or_false, false_or, exists_const, at0, at1, at2, at3, at4, at5, ix51, ix52, ix54, upd_same, Nat.reduceAdd, Nat.reduceSub, Nat.zero_add, Int.reduceToNat, Int.reduceLE, Int.reduceLT, decide_eq_true_eq, Bool.not_eq_true, if_true, if_false, Bool.false_eq_true, ite_true, ite_false, Bool.not_true, Bool.not_false, decide_true, decide_false, tFor_eq, tLc_eq, iList, iTup, iRng1, iRng2, iStr, tSl, tPart, tNoPart, rSlL, cxOf_K, wipe, ex_ty2, kit_LTl, kit_LTt, kit_LTd, kit_LTs, kit_LTn, kit_LTb, kit_LTi, tM1, rIxS, exists_eq', lt1p, tDNewK, rSlS, rEqNil, e]
      exact k H (Same.refl H)
    | tup e =>
      try simp only [tSeq, tNext, tRet, tRetN, tAsg, gName, gSub, tDrop, tIfS, tOp, tUn, tCB, tCons, tNil, tC, tVar, rI, rI0, rU, tAnd, tOr, tNot, tAndV, tOrV, tNotV, tIf, tTest, tB, tCall, tChain, tLst, tTup, tYes, rIxH, rIsB, rIsBT, rMulS, kd_non, kd_bl, kd_int, kd_str, kd_ref, kdO_lst, kdO_tup, kdO_dK, nq_n, nq_b, nq_i, nq_s, nq_l, nq_t, nq_d, ne_eq, not_false_eq_true, kit_ss, kit_ns, kit_bs, kit_is, kit_ls, kit_ts, kit_ds, kit_bb, V.ty.injEq, and_assoc, rIxU, rLenH, rLenU, rLenS, rInt1, rSetL, rEq, rNe, rCat, L2.start, List.map, List.length, List.length_cons, List.length_nil, List.replicate, List.getElem?_cons_zero, List.getElem?_cons_succ, List.set_cons_zero, List.set_cons_succ, List.set_nil, List.cons_append, List.nil_append, List.append_nil, Option.some.injEq, V.int.injEq, V.ref.injEq, V.str.injEq, V.bl.injEq, HO.lst.injEq, HO.tup.injEq, exists_eq_left', exists_and_left, exists_eq_left, List.cons.injEq, and_true, true_and, and_false, false_and, and_self, reduceCtorEq, exists_false, or_false, false_or, exists_const, at0, at1, at2, at3, at4, at5, ix51, ix52, ix54, upd_same, Nat.reduceAdd, Nat.reduceSub, Nat.zero_add, Int.reduceToNat, Int.reduceLE, Int.reduceLT, decide_eq_true_eq, Bool.not_eq_true, if_true, if_false, Bool.false_eq_true, ite_true, ite_false, Bool.not_true, Bool.not_false, decide_true, decide_false, tFor_eq, tLc_eq, iList, iTup, iRng1, iRng2, iStr, tSl, tPart, tNoPart, rSlL, cxOf_K, wipe, ex_ty2, kit_LTl, kit_LTt, kit_LTd, kit_LTs, kit_LTn, kit_LTb, kit_LTi, tM1, rIxS, exists_eq', lt1p, tDNewK, rSlS, rEqNil, e]
      exact k H (Same.refl H)
    | dic e =>
      try simp only [tSeq, tNext, tRet, tRetN, tAsg, gName, gSub, tDrop, tIfS, tOp, tUn, tCB, tCons, tNil, tC, tVar, rI, rI0, rU, tAnd, tOr, tNot, tAndV, tOrV, tNotV, tIf, tTest, tB, tCall, tChain, tLst, tTup, tYes, rIxH, rIsB, rIsBT, rMulS, kd_non, kd_bl, kd_int, kd_str, kd_ref, kdO_lst, kdO_tup, kdO_dK, nq_n, nq_b, nq_i, nq_s, nq_l, nq_t, nq_d, ne_eq, not_false_eq_true, kit_ss, kit_ns, kit_bs, kit_is, kit_ls, kit_ts, kit_ds, kit_bb, V.ty.injEq, and_assoc, rIxU, rLenH, rLenU, rLenS, rInt1, rSetL, rEq, rNe, rCat, L2.start, List.map, List.length, List.length_cons, List.length_nil, List.replicate, List.getElem?_cons_zero, List.getElem?_cons_succ, List.set_cons_zero, List.set_cons_succ, List.set_nil, List.cons_append, List.nil_append, List.append_nil, Option.some.injEq, V.int.injEq, V.ref.injEq, V.str.injEq, V.bl.injEq, HO.lst.injEq, HO.tup.injEq, exists_eq_left', exists_and_left, exists_eq_left, List.cons.injEq, and_true, true_and, and_false, false_and, and_self, reduceCtorEq, exists_false, or_false, false_or, exists_const, at0, at1, at2, at3, at4, at5, ix51, ix52, ix54, upd_same, Nat.reduceAdd, Nat.reduceSub, Nat.zero_add, Int.reduceToNat, Int.reduceLE, Int.reduceLT, decide_eq_true_eq, Bool.not_eq_true, if_true, if_false, Bool.false_eq_true, ite_true, ite_false, Bool.not_true, Bool.not_false, decide_true, decide_false, tFor_eq, tLc_eq, iList, iTup, iRng1, iRng2, iStr, tSl, tPart, tNoPart, rSlL, cxOf_K, wipe, ex_ty2, kit_LTl, kit_LTt, kit_LTd, kit_LTs, kit_LTn, kit_LTb, kit_LTi, tM1, rIxS, exists_eq', lt1p, tDNewK, rSlS, rEqNil, e]
      exact k H (Same.refl H)
    | non =>
      try simp only [tSeq, tNext, tRet, tRetN, tAsg, gName, gSub, tDrop, tIfS, tOp, tUn, tCB, tCons, tNil, tC, tVar, rI, rI0, rU, tAnd, tOr, tNot, tAndV, tOrV, tNotV, tIf, tTest, tB, tCall, tChain, tLst, tTup, tYes, rIxH, rIsB, rIsBT, rMulS, kd_non, kd_bl, kd_int, kd_str, kd_ref, kdO_lst, kdO_tup, kdO_dK, nq_n, nq_b, nq_i, nq_s, nq_l, nq_t, nq_d, ne_eq, not_false_eq_true, kit_ss, kit_ns, kit_bs, kit_is, kit_ls, kit_ts, kit_ds, kit_bb, V.ty.injEq, and_assoc, rIxU, rLenH, rLenU, rLenS, rInt1, rSetL, rEq, rNe, rCat, L2.start, List.map, List.length, List.length_cons, List.length_nil, List.replicate, List.getElem?_cons_zero, List.getElem?_cons_succ, List.set_cons_zero, List.set_cons_succ, List.set_nil, List.cons_append, List.nil_append, List.append_nil, Option.some.injEq, V.int.injEq, V.ref.injEq, V.str.injEq, V.bl.injEq, HO.lst.injEq, HO.tup.injEq, exists_eq_left', exists_and_left, exists_eq_left, List.cons.injEq, and_true, true_and, and_false, false_and, and_self, reduceCtorEq, exists_false, or_false, false_or, exists_const, at0, at1, at2, at3, at4, at5, ix51, ix52, ix54, upd_same, Nat.reduceAdd, Nat.reduceSub, Nat.zero_add, Int.reduceToNat, Int.reduceLE, Int.reduceLT, decide_eq_true_eq, Bool.not_eq_true, if_true, if_false, Bool.false_eq_true, ite_true, ite_false, Bool.not_true, Bool.not_false, decide_true, decide_false, tFor_eq, tLc_eq, iList, iTup, iRng1, iRng2, iStr, tSl, tPart, tNoPart, rSlL, cxOf_K, wipe, ex_ty2, kit_LTl, kit_LTt, kit_LTd, kit_LTs, kit_LTn, kit_LTb, kit_LTi, tM1, rIxS, exists_eq', lt1p, tDNewK, rSlS, rEqNil]
      exact k H (Same.refl H)
    | bl b =>
      try simp only [tSeq, tNext, tRet, tRetN, tAsg, gName, gSub, tDrop, tIfS, tOp, tUn, tCB, tCons, tNil, tC, tVar, rI, rI0, rU, tAnd, tOr, tNot, tAndV, tOrV, tNotV, tIf, tTest, tB, tCall, tChain, tLst, tTup, tYes, rIxH, rIsB, rIsBT, rMulS, kd_non, kd_bl, kd_int, kd_str, kd_ref, kdO_lst, kdO_tup, kdO_dK, nq_n, nq_b, nq_i, nq_s, nq_l, nq_t, nq_d, ne_eq, not_false_eq_true, kit_ss, kit_ns, kit_bs, kit_is, kit_ls, kit_ts, kit_ds, kit_bb, V.ty.injEq, and_assoc, rIxU, rLenH, rLenU, rLenS, rInt1, rSetL, rEq, rNe, rCat, L2.start, List.map, List.length, List.length_cons, List.length_nil, List.replicate, List.getElem?_cons_zero, List.getElem?_cons_succ, List.set_cons_zero, List.set_cons_succ, List.set_nil, List.cons_append, List.nil_append, List.append_nil, Option.some.injEq, V.int.injEq, V.ref.injEq, V.str.injEq, V.bl.injEq, HO.lst.injEq, HO.tup.injEq, exists_eq_left', exists_and_left, exists_eq_left, List.cons.injEq, and_true, true_and, and_false, false_and, and_self, reduceCtorEq, exists_false, or_false, false_or, exists_const, at0, at1, at2, at3, at4, at5, ix51, ix52, ix54, upd_same, Nat.reduceAdd, Nat.reduceSub, Nat.zero_add, Int.reduceToNat, Int.reduceLE, Int.reduceLT, decide_eq_true_eq, Bool.not_eq_true, if_true, if_false, Bool.false_eq_true, ite_true, ite_false, Bool.not_true, Bool.not_false, decide_true, decide_false, tFor_eq, tLc_eq, iList, iTup, iRng1, iRng2, iStr, tSl, tPart, tNoPart, rSlL, cxOf_K, wipe, ex_ty2, kit_LTl, kit_LTt, kit_LTd, kit_LTs, kit_LTn, kit_LTb, kit_LTi, tM1, rIxS, exists_eq', lt1p, tDNewK, rSlS, rEqNil]
      exact k H (Same.refl H)
    | int i =>
      try simp only [tSeq, tNext, tRet, tRetN, tAsg, gName, gSub, tDrop, tIfS, tOp, tUn, tCB, tCons, tNil, tC, tVar, rI, rI0, rU, tAnd, tOr, tNot, tAndV, tOrV, tNotV, tIf, tTest, tB, tCall, tChain, tLst, tTup, tYes, rIxH, rIsB, rIsBT, rMulS, kd_non, kd_bl, kd_int, kd_str, kd_ref, kdO_lst, kdO_tup, kdO_dK, nq_n, nq_b, nq_i, nq_s, nq_l, nq_t, nq_d, ne_eq, not_false_eq_true, kit_ss, kit_ns, kit_bs, kit_is, kit_ls, kit_ts, kit_ds, kit_bb, V.ty.injEq, and_assoc, rIxU, rLenH, rLenU, rLenS, rInt1, rSetL, rEq, rNe, rCat, L2.start, List.map, List.length, List.length_cons, List.length_nil, List.replicate, List.getElem?_cons_zero, List.getElem?_cons_succ, List.set_cons_zero, List.set_cons_succ, List.set_nil, List.cons_append, List.nil_append, List.append_nil, Option.some.injEq, V.int.injEq, V.ref.injEq, V.str.injEq, V.bl.injEq, HO.lst.injEq, HO.tup.injEq, exists_eq_left', exists_and_left, exists_eq_left, List.cons.injEq, and_true, true_and, and_false, false_and, and_self, reduceCtorEq, exists_false, or_false, false_or, exists_const, at0, at1, at2, at3, at4, at5, ix51, ix52, ix54, upd_same, Nat.reduceAdd, Nat.reduceSub, Nat.zero_add, Int.reduceToNat, Int.reduceLE, Int.reduceLT, decide_eq_true_eq, Bool.not_eq_true, if_true, if_false, Bool.false_eq_true, ite_true, ite_false, Bool.not_true, Bool.not_false, decide_true, decide_false, tFor_eq, tLc_eq, iList, iTup, iRng1, iRng2, iStr, tSl, tPart, tNoPart, rSlL, cxOf_K, wipe, ex_ty2, kit_LTl, kit_LTt, kit_LTd, kit_LTs, kit_LTn, kit_LTb, kit_LTi, tM1, rIxS, exists_eq', lt1p, tDNewK, rSlS, rEqNil]
      exact k H (Same.refl H)
/-- the items of a list or a tuple -/
def seqO : Option HO → Option (List V)
  | some (.lst xs) => some xs
  | some (.tup xs) => some xs
  | _ => none
def seqV (H : Hp) : V → Option (List V)
  | .ref a => seqO (H a)
  | _ => none
def isTextV (H : Hp) (v : V) : Bool := match seqV H v with
  | some xs => decide (xs.length ≤ 12) && xs.all isLineV
  | none => false
def spIsText : Sp := fun vs H Q _ => ∃ v, vs = [v] ∧ Thg H v ∧ (∀ xs, seqV H v = some xs → xs.length ≤ 1000 ∧ ∀ x ∈ xs, Thg H x) ∧ ∀ H', Same H H' → Q (.bl (isTextV H v)) H'
theorem text_of {H : Hp} {v : V} {xs : List V} (h : seqV H v = some xs) : isTextV H v = (decide (xs.length ≤ 12) && xs.all isLineV) := by
  unfold isTextV
  rw [h]
theorem text_no {H : Hp} {v : V} (h : seqV H v = none) : isTextV H v = false := by
  unfold isTextV
  rw [h]
theorem ok_is_text (T : Txt K mg A) (gIsLine : FnOk P w K mg base CX0 2 A.a_IsLine A.d_IsLine ["value"] spIsLine) : FnOk P w K mg base CX0 3 A.a_IsText A.d_IsText ["value"] spIsText := by
  refine T.f_IsText.ok scIsText (fun vs H Q E h => ?_) (fun cdv A' outer s H vs Q E hr h => ?_)
  · obtain ⟨v, rfl, _⟩ := h
    rfl
  · obtain ⟨v, rfl, ht, hx, k⟩ := h
    cases ht with
    | lst e =>
      rename_i a xs
      refine ⟨_, (pss_one (ps_ret (pe_and (pe_callB call_isBT (by rfl) T.z_isinstance (by decide +kernel) (pa_cons (pv 0) (pa_cons (pe_tup (pa_cons (pe_bltn (v := .ty "list") (by rfl) T.z_list (by decide +kernel) rfl) (pa_cons (pe_bltn (v := .ty "tuple") (by rfl) T.z_tuple (by decide +kernel) rfl) pa_nil))) pa_nil))) (pe_and (pe_cmpR (op_le) (pe_callB call_lenH (by rfl) T.z_len (by decide +kernel) (pa_cons (pv 0) pa_nil)) (pe_glob (v := .int 12) (by rfl) T.c_MOST_LINES.choose_spec ⟨_, rfl⟩) (nomark _)) (pe_one (pe_callB (cr_all rfl) (by rfl) T.z_all (by decide +kernel) (pa_cons (pe_lc (own := [("line", 1)]) (g := gName 1) (tt := tYes) (by rfl) scIsText.nd (pi_list (pv 0)) (blkOk_by (own := [("line", 1)]) (N := nIsText) (sc := defScope sIsText) (by decide +kernel)) (fun _ _ _ _ _ => pg_name (i := 1) scIsText.nd rfl (Or.inl rfl)) (fun _ _ _ _ _ => pts_nil) (fun _ _ _ _ _ => (pe_call gIsLine (hr.mono (by decide)) (by rfl) T.m_IsLine T.f_IsLine.kp T.b_IsLine .nil pass0 (pa_cons (pv 1) pa_nil)))) pa_nil))))))), ?_⟩
      try simp only [tSeq, tNext, tRet, tRetN, tAsg, gName, gSub, tDrop, tIfS, tOp, tUn, tCB, tCons, tNil, tC, tVar, rI, rI0, rU, tAnd, tOr, tNot, tAndV, tOrV, tNotV, tIf, tTest, tB, tCall, tChain, tLst, tTup, tYes, rIxH, rIsB, rIsBT, rMulS, kd_non, kd_bl, kd_int, kd_str, kd_ref, kdO_lst, kdO_tup, kdO_dK, nq_n, nq_b, nq_i, nq_s, nq_l, nq_t, nq_d, ne_eq, not_false_eq_true, kit_ss, kit_ns, kit_bs, kit_is, kit_ls, kit_ts, kit_ds, kit_bb, V.ty.injEq, and_assoc, rIxU, rLenH, rLenU, rLenS, rInt1, rSetL, rEq, rNe, rCat, L2.start, List.map, List.length, List.length_cons, List.length_nil, List.replicate, List.getElem?_cons_zero, List.getElem?_cons_succ, List.set_cons_zero, List.set_cons_succ, List.set_nil, List.cons_append, List.nil_append, List.append_nil, Option.some.injEq, V.int.injEq, V.ref.injEq, V.str.injEq, V.bl.injEq, HO.lst.injEq, HO.tup.injEq, exists_eq_left', exists_and_left, exists_eq_left, List.cons.injEq, and_true, true_and, and_false, false_and, and_self, reduceCtorEq, exists_false, or_false, false_or, exists_const, at0, at1, at2, at3, at4, at5, ix51, ix52, ix54, upd_same, Nat.reduceAdd, Nat.reduceSub, Nat.zero_add, Int.reduceToNat, Int.reduceLE, Int.reduceLT, decide_eq_true_eq, Bool.not_eq_true, if_true, if_false, Bool.false_eq_true, ite_true, ite_false, Bool.not_true, Bool.not_false, decide_true, decide_false, tFor_eq, tLc_eq, iList, iTup, iRng1, iRng2, iStr, tSl, tPart, tNoPart, rSlL, cxOf_K, wipe, ex_ty2, kit_LTl, kit_LTt, kit_LTd, kit_LTs, kit_LTn, kit_LTb, kit_LTi, tM1, rIxS, exists_eq', lt1p, tDNewK, rSlS, rEqNil, e]
      refine ⟨by decide, ?_⟩
      intro p n_p; generalize g_H1 : upd H p _ = H1; obtain ⟨s_H1, h_p⟩ := new_facts n_p g_H1; clear g_H1
      have e1 := s_H1 _ _ e
      obtain ⟨hl, hth⟩ := hx xs (by show seqO (H a) = _; rw [e]; rfl)
      have ev : isTextV H (.ref a) = (decide (xs.length ≤ 12) && xs.all isLineV) := text_of (by show seqO (H a) = _; rw [e]; rfl)
      try simp only [tSeq, tNext, tRet, tRetN, tAsg, gName, gSub, tDrop, tIfS, tOp, tUn, tCB, tCons, tNil, tC, tVar, rI, rI0, rU, tAnd, tOr, tNot, tAndV, tOrV, tNotV, tIf, tTest, tB, tCall, tChain, tLst, tTup, tYes, rIxH, rIsB, rIsBT, rMulS, kd_non, kd_bl, kd_int, kd_str, kd_ref, kdO_lst, kdO_tup, kdO_dK, nq_n, nq_b, nq_i, nq_s, nq_l, nq_t, nq_d, ne_eq, not_false_eq_true, kit_ss, kit_ns, kit_bs, kit_is, kit_ls, kit_ts, kit_ds, kit_bb, V.ty.injEq, and_assoc, rIxU, rLenH, rLenU, rLenS, rInt1, rSetL, rEq, rNe, rCat, L2.start, List.map, List.length, List.length_cons, List.length_nil, List.replicate, List.getElem?_cons_zero, List.getElem?_cons_succ, List.set_cons_zero, List.set_cons_succ, List.set_nil, List.cons_append, List.nil_append, List.append_nil, Option.some.injEq, V.int.injEq, V.ref.injEq, V.str.injEq, V.bl.injEq, HO.lst.injEq, HO.tup.injEq, exists_eq_left', exists_and_left, exists_eq_left, List.cons.injEq, and_true, true_and, and_false, false_and, and_self, reduceCtorEq, exists_false, or_false, false_or, exists_const, at0, at1, at2, at3, at4, at5, ix51, ix52, ix54, upd_same, Nat.reduceAdd, Nat.reduceSub, Nat.zero_add, Int.reduceToNat, Int.reduceLE, Int.reduceLT, decide_eq_true_eq, Bool.not_eq_true, if_true, if_false, Bool.false_eq_true, ite_true, ite_false, Bool.not_true, Bool.not_false, decide_true, decide_false, tFor_eq, tLc_eq, iList, iTup, iRng1, iRng2, iStr, tSl, tPart, tNoPart, rSlL, cxOf_K, wipe, ex_ty2, kit_LTl, kit_LTt, kit_LTd, kit_LTs, kit_LTn, kit_LTb, kit_LTi, tM1, rIxS, exists_eq', lt1p, tDNewK, rSlS, rEqNil, e1]
      refine ite2 (fun h => ⟨⟨_, SqL.of e1⟩, fun D hD => ?_⟩) (fun h => ?_)
      · refine lc_same (walk_list (K := K) (xs := xs)) (fun _ => true) (fun v => .bl (isLineV v)) hD (fun _ s2 => s2.seq (SqL.of e1)) (by omega) (fun x hx H2 s2 R R0 h1 _ => ?_) (fun H2 s2 h2 => ?_)
        · try simp only [tSeq, tNext, tRet, tRetN, tAsg, gName, gSub, tDrop, tIfS, tOp, tUn, tCB, tCons, tNil, tC, tVar, rI, rI0, rU, tAnd, tOr, tNot, tAndV, tOrV, tNotV, tIf, tTest, tB, tCall, tChain, tLst, tTup, tYes, rIxH, rIsB, rIsBT, rMulS, kd_non, kd_bl, kd_int, kd_str, kd_ref, kdO_lst, kdO_tup, kdO_dK, nq_n, nq_b, nq_i, nq_s, nq_l, nq_t, nq_d, ne_eq, not_false_eq_true, kit_ss, kit_ns, kit_bs, kit_is, kit_ls, kit_ts, kit_ds, kit_bb, V.ty.injEq, and_assoc, rIxU, rLenH, rLenU, rLenS, rInt1, rSetL, rEq, rNe, rCat, L2.start, List.map, List.length, List.length_cons, List.length_nil, List.replicate, List.getElem?_cons_zero, List.getElem?_cons_succ, List.set_cons_zero, List.set_cons_succ, List.set_nil, List.cons_append, List.nil_append, List.append_nil, Option.some.injEq, V.int.injEq, V.ref.injEq, V.str.injEq, V.bl.injEq, HO.lst.injEq, HO.tup.injEq, exists_eq_left', exists_and_left, exists_eq_left, List.cons.injEq, and_true, true_and, and_false, false_and, and_self, reduceCtorEq, exists_false, or_false, false_or, exists_const, at0, at1, at2, at3, at4, at5, ix51, ix52, ix54, upd_same, Nat.reduceAdd, Nat.reduceSub, Nat.zero_add, Int.reduceToNat, Int.reduceLE, Int.reduceLT, decide_eq_true_eq, Bool.not_eq_true, if_true, if_false, Bool.false_eq_true, ite_true, ite_false, Bool.not_true, Bool.not_false, decide_true, decide_false, tFor_eq, tLc_eq, iList, iTup, iRng1, iRng2, iStr, tSl, tPart, tNoPart, rSlL, cxOf_K, wipe, ex_ty2, kit_LTl, kit_LTt, kit_LTd, kit_LTs, kit_LTn, kit_LTb, kit_LTi, tM1, rIxS, exists_eq', lt1p, tDNewK, rSlS, rEqNil]
          exact ⟨x, rfl, (hth x hx).mono (s_H1.trans s2), fun H3 s3 => h1 H3 s3 rfl⟩
        · rw [filter_all] at h2
          refine ⟨D, xs.map isLineV, rfl, SqL.of (by rw [h2, List.map_map]; rfl), ?_⟩
          rw [decide_eq_true (show xs.length ≤ 12 by omega), Bool.true_and] at ev
          have e2 : (xs.map isLineV).all id = xs.all isLineV := by rw [List.all_map]; rfl
          rw [e2, ← ev]
          exact k H2 (s_H1.trans s2)
      · rw [decide_eq_false (show ¬ xs.length ≤ 12 by omega), Bool.false_and] at ev
        rw [← ev]
        exact k _ s_H1
    | tup e =>
      rename_i a xs
      refine ⟨_, (pss_one (ps_ret (pe_and (pe_callB call_isBT (by rfl) T.z_isinstance (by decide +kernel) (pa_cons (pv 0) (pa_cons (pe_tup (pa_cons (pe_bltn (v := .ty "list") (by rfl) T.z_list (by decide +kernel) rfl) (pa_cons (pe_bltn (v := .ty "tuple") (by rfl) T.z_tuple (by decide +kernel) rfl) pa_nil))) pa_nil))) (pe_and (pe_cmpR (op_le) (pe_callB call_lenU (by rfl) T.z_len (by decide +kernel) (pa_cons (pv 0) pa_nil)) (pe_glob (v := .int 12) (by rfl) T.c_MOST_LINES.choose_spec ⟨_, rfl⟩) (nomark _)) (pe_one (pe_callB (cr_all rfl) (by rfl) T.z_all (by decide +kernel) (pa_cons (pe_lc (own := [("line", 1)]) (g := gName 1) (tt := tYes) (by rfl) scIsText.nd (pi_tup (pv 0)) (blkOk_by (own := [("line", 1)]) (N := nIsText) (sc := defScope sIsText) (by decide +kernel)) (fun _ _ _ _ _ => pg_name (i := 1) scIsText.nd rfl (Or.inl rfl)) (fun _ _ _ _ _ => pts_nil) (fun _ _ _ _ _ => (pe_call gIsLine (hr.mono (by decide)) (by rfl) T.m_IsLine T.f_IsLine.kp T.b_IsLine .nil pass0 (pa_cons (pv 1) pa_nil)))) pa_nil))))))), ?_⟩
      try simp only [tSeq, tNext, tRet, tRetN, tAsg, gName, gSub, tDrop, tIfS, tOp, tUn, tCB, tCons, tNil, tC, tVar, rI, rI0, rU, tAnd, tOr, tNot, tAndV, tOrV, tNotV, tIf, tTest, tB, tCall, tChain, tLst, tTup, tYes, rIxH, rIsB, rIsBT, rMulS, kd_non, kd_bl, kd_int, kd_str, kd_ref, kdO_lst, kdO_tup, kdO_dK, nq_n, nq_b, nq_i, nq_s, nq_l, nq_t, nq_d, ne_eq, not_false_eq_true, kit_ss, kit_ns, kit_bs, kit_is, kit_ls, kit_ts, kit_ds, kit_bb, V.ty.injEq, and_assoc, rIxU, rLenH, rLenU, rLenS, rInt1, rSetL, rEq, rNe, rCat, L2.start, List.map, List.length, List.length_cons, List.length_nil, List.replicate, List.getElem?_cons_zero, List.getElem?_cons_succ, List.set_cons_zero, List.set_cons_succ, List.set_nil, List.cons_append, List.nil_append, List.append_nil, Option.some.injEq, V.int.injEq, V.ref.injEq, V.str.injEq, V.bl.injEq, HO.lst.injEq, HO.tup.injEq, exists_eq_left', exists_and_left, exists_eq_left, List.cons.injEq, and_true, true_and, and_false, false_and, and_self, reduceCtorEq, exists_false, or_false, false_or, exists_const, at0, at1, at2, at3, at4, at5, ix51, ix52, ix54, upd_same, Nat.reduceAdd, Nat.reduceSub, Nat.zero_add, Int.reduceToNat, Int.reduceLE, Int.reduceLT, decide_eq_true_eq, Bool.not_eq_true, if_true, if_false, Bool.false_eq_true, ite_true, ite_false, Bool.not_true, Bool.not_false, decide_true, decide_false, tFor_eq, tLc_eq, iList, iTup, iRng1, iRng2, iStr, tSl, tPart, tNoPart, rSlL, cxOf_K, wipe, ex_ty2, kit_LTl, kit_LTt, kit_LTd, kit_LTs, kit_LTn, kit_LTb, kit_LTi, tM1, rIxS, exists_eq', lt1p, tDNewK, rSlS, rEqNil, e]
      refine ⟨by decide, ?_⟩
      intro p n_p; generalize g_H1 : upd H p _ = H1; obtain ⟨s_H1, h_p⟩ := new_facts n_p g_H1; clear g_H1
      have e1 := s_H1 _ _ e
      obtain ⟨hl, hth⟩ := hx xs (by show seqO (H a) = _; rw [e]; rfl)
      have ev : isTextV H (.ref a) = (decide (xs.length ≤ 12) && xs.all isLineV) := text_of (by show seqO (H a) = _; rw [e]; rfl)
      try simp only [tSeq, tNext, tRet, tRetN, tAsg, gName, gSub, tDrop, tIfS, tOp, tUn, tCB, tCons, tNil, tC, tVar, rI, rI0, rU, tAnd, tOr, tNot, tAndV, tOrV, tNotV, tIf, tTest, tB, tCall, tChain, tLst, tTup, tYes, rIxH, rIsB, rIsBT, rMulS, kd_non, kd_bl, kd_int, kd_str, kd_ref, kdO_lst, kdO_tup, kdO_dK, nq_n, nq_b, nq_i, nq_s, nq_l, nq_t, nq_d, ne_eq, not_false_eq_true, kit_ss, kit_ns, kit_bs, kit_is, kit_ls, kit_ts, kit_ds, kit_bb, V.ty.injEq, and_assoc, rIxU, rLenH, rLenU, rLenS, rInt1, rSetL, rEq, rNe, rCat, L2.start, List.map, List.length, List.length_cons, List.length_nil, List.replicate, List.getElem?_cons_zero, List.getElem?_cons_succ, List.set_cons_zero, List.set_cons_succ, List.set_nil, List.cons_append, List.nil_append, List.append_nil, Option.some.injEq, V.int.injEq, V.ref.injEq, V.str.injEq, V.bl.injEq, HO.lst.injEq, HO.tup.injEq, exists_eq_left', exists_and_left, exists_eq_left, List.cons.injEq, and_true, true_and, and_false, false_and, and_self, reduceCtorEq, exists_false, or_false, false_or, exists_const, at0, at1, at2, at3, at4, at5, ix51, ix52, ix54, upd_same, Nat.reduceAdd, Nat.reduceSub, Nat.zero_add, Int.reduceToNat, Int.reduceLE, Int.reduceLT, decide_eq_true_eq, Bool.not_eq_true, if_true, if_false, Bool.false_eq_true, ite_true, ite_false, Bool.not_true, Bool.not_false, decide_true, decide_false, tFor_eq, tLc_eq, iList, iTup, iRng1, iRng2, iStr, tSl, tPart, tNoPart, rSlL, cxOf_K, wipe, ex_ty2, kit_LTl, kit_LTt, kit_LTd, kit_LTs, kit_LTn, kit_LTb, kit_LTi, tM1, rIxS, exists_eq', lt1p, tDNewK, rSlS, rEqNil, e1]
      refine ite2 (fun h => ⟨⟨_, SqT.of e1⟩, fun D hD => ?_⟩) (fun h => ?_)
      · refine lc_same (walk_tup (K := K) (xs := xs)) (fun _ => true) (fun v => .bl (isLineV v)) hD (fun _ s2 => Same.tup s2 (SqT.of e1)) (by omega) (fun x hx H2 s2 R R0 h1 _ => ?_) (fun H2 s2 h2 => ?_)
        · try simp only [tSeq, tNext, tRet, tRetN, tAsg, gName, gSub, tDrop, tIfS, tOp, tUn, tCB, tCons, tNil, tC, tVar, rI, rI0, rU, tAnd, tOr, tNot, tAndV, tOrV, tNotV, tIf, tTest, tB, tCall, tChain, tLst, tTup, tYes, rIxH, rIsB, rIsBT, rMulS, kd_non, kd_bl, kd_int, kd_str, kd_ref, kdO_lst, kdO_tup, kdO_dK, nq_n, nq_b, nq_i, nq_s, nq_l, nq_t, nq_d, ne_eq, not_false_eq_true, kit_ss, kit_ns, kit_bs, kit_is, kit_ls, kit_ts, kit_ds, kit_bb, V.ty.injEq, and_assoc, rIxU, rLenH, rLenU, rLenS, rInt1, rSetL, rEq, rNe, rCat, L2.start, List.map, List.length, List.length_cons, List.length_nil, List.replicate, List.getElem?_cons_zero, List.getElem?_cons_succ, List.set_cons_zero, List.set_cons_succ, List.set_nil, List.cons_append, List.nil_append, List.append_nil, Option.some.injEq, V.int.injEq, V.ref.injEq, V.str.injEq, V.bl.injEq, HO.lst.injEq, HO.tup.injEq, exists_eq_left', exists_and_left, exists_eq_left, List.cons.injEq, and_true, true_and, and_false, false_and, and_self, reduceCtorEq, exists_false, or_false, false_or, exists_const, at0, at1, at2, at3, at4, at5, ix51, ix52, ix54, upd_same, Nat.reduceAdd, Nat.reduceSub, Nat.zero_add, Int.reduceToNat, Int.reduceLE, Int.reduceLT, decide_eq_true_eq, Bool.not_eq_true, if_true, if_false, Bool.false_eq_true, ite_true, ite_false, Bool.not_true, Bool.not_false, decide_true, decide_false, tFor_eq, tLc_eq, iList, iTup, iRng1, iRng2, iStr, tSl, tPart, tNoPart, rSlL, cxOf_K, wipe, ex_ty2, kit_LTl, kit_LTt, kit_LTd, kit_LTs, kit_LTn, kit_LTb, kit_LTi, tM1, rIxS, exists_eq', lt1p, tDNewK, rSlS, rEqNil]
          exact ⟨x, rfl, (hth x hx).mono (s_H1.trans s2), fun H3 s3 => h1 H3 s3 rfl⟩
        · rw [filter_all] at h2
          refine ⟨D, xs.map isLineV, rfl, SqL.of (by rw [h2, List.map_map]; rfl), ?_⟩
          rw [decide_eq_true (show xs.length ≤ 12 by omega), Bool.true_and] at ev
          have e2 : (xs.map isLineV).all id = xs.all isLineV := by rw [List.all_map]; rfl
          rw [e2, ← ev]
          exact k H2 (s_H1.trans s2)
      · rw [decide_eq_false (show ¬ xs.length ≤ 12 by omega), Bool.false_and] at ev
        rw [← ev]
        exact k _ s_H1
    | dic e =>
      refine ⟨_, (pss_one (ps_ret (pe_and (pe_callB call_isBT (by rfl) T.z_isinstance (by decide +kernel) (pa_cons (pv 0) (pa_cons (pe_tup (pa_cons (pe_bltn (v := .ty "list") (by rfl) T.z_list (by decide +kernel) rfl) (pa_cons (pe_bltn (v := .ty "tuple") (by rfl) T.z_tuple (by decide +kernel) rfl) pa_nil))) pa_nil))) (pe_and (pe_cmpR (op_le) (pe_callB call_lenH (by rfl) T.z_len (by decide +kernel) (pa_cons (pv 0) pa_nil)) (pe_glob (v := .int 12) (by rfl) T.c_MOST_LINES.choose_spec ⟨_, rfl⟩) (nomark _)) (pe_one (pe_callB (cr_all rfl) (by rfl) T.z_all (by decide +kernel) (pa_cons (pe_lc (own := [("line", 1)]) (g := gName 1) (tt := tYes) (by rfl) scIsText.nd (pi_list (pv 0)) (blkOk_by (own := [("line", 1)]) (N := nIsText) (sc := defScope sIsText) (by decide +kernel)) (fun _ _ _ _ _ => pg_name (i := 1) scIsText.nd rfl (Or.inl rfl)) (fun _ _ _ _ _ => pts_nil) (fun _ _ _ _ _ => (pe_call gIsLine (hr.mono (by decide)) (by rfl) T.m_IsLine T.f_IsLine.kp T.b_IsLine .nil pass0 (pa_cons (pv 1) pa_nil)))) pa_nil))))))), ?_⟩
      try simp only [tSeq, tNext, tRet, tRetN, tAsg, gName, gSub, tDrop, tIfS, tOp, tUn, tCB, tCons, tNil, tC, tVar, rI, rI0, rU, tAnd, tOr, tNot, tAndV, tOrV, tNotV, tIf, tTest, tB, tCall, tChain, tLst, tTup, tYes, rIxH, rIsB, rIsBT, rMulS, kd_non, kd_bl, kd_int, kd_str, kd_ref, kdO_lst, kdO_tup, kdO_dK, nq_n, nq_b, nq_i, nq_s, nq_l, nq_t, nq_d, ne_eq, not_false_eq_true, kit_ss, kit_ns, kit_bs, kit_is, kit_ls, kit_ts, kit_ds, kit_bb, V.ty.injEq, and_assoc, rIxU, rLenH, rLenU, rLenS, rInt1, rSetL, rEq, rNe, rCat, L2.start, List.map, List.length, List.length_cons, List.length_nil, List.replicate, List.getElem?_cons_zero, List.getElem?_cons_succ, List.set_cons_zero, List.set_cons_succ, List.set_nil, List.cons_append, List.nil_append, List.append_nil, Option.some.injEq, V.int.injEq, V.ref.injEq, V.str.injEq, V.bl.injEq, HO.lst.injEq, HO.tup.injEq, exists_eq_left', exists_and_left, exists_eq_left, List.cons.injEq, and_true, true_and, and_false, false_and, and_self, reduceCtorEq, exists_false, or_false, false_or, exists_const, at0, at1, at2, at3, at4, at5, ix51, ix52, ix54, upd_same, Nat.reduceAdd, Nat.reduceSub, Nat.zero_add, Int.reduceToNat, Int.reduceLE, Int.reduceLT, decide_eq_true_eq, Bool.not_eq_true, if_true, if_false, Bool.false_eq_true, ite_true, ite_false, Bool.not_true, Bool.not_false, decide_true, decide_false, tFor_eq, tLc_eq, iList, iTup, iRng1, iRng2, iStr, tSl, tPart, tNoPart, rSlL, cxOf_K, wipe, ex_ty2, kit_LTl, kit_LTt, kit_LTd, kit_LTs, kit_LTn, kit_LTb, kit_LTi, tM1, rIxS, exists_eq', lt1p, tDNewK, rSlS, rEqNil, e]
      refine ⟨by decide, ?_⟩
      intro p n_p; generalize g_H1 : upd H p _ = H1; obtain ⟨s_H1, h_p⟩ := new_facts n_p g_H1; clear g_H1
      have e1 := s_H1 _ _ e
      try simp only [tSeq, tNext, tRet, tRetN, tAsg, gName, gSub, tDrop, tIfS, tOp, tUn, tCB, tCons, tNil, tC, tVar, rI, rI0, rU, tAnd, tOr, tNot, tAndV, tOrV, tNotV, tIf, tTest, tB, tCall, tChain, tLst, tTup, tYes, rIxH, rIsB, rIsBT, rMulS, kd_non, kd_bl, kd_int, kd_str, kd_ref, kdO_lst, kdO_tup, kdO_dK, nq_n, nq_b, nq_i, nq_s, nq_l, nq_t, nq_d, ne_eq, not_false_eq_true, kit_ss, kit_ns, kit_bs, kit_is, kit_ls, kit_ts, kit_ds, kit_bb, V.ty.injEq, and_assoc, rIxU, rLenH, rLenU, rLenS, rInt1, rSetL, rEq, rNe, rCat, L2.start, List.map, List.length, List.length_cons, List.length_nil, List.replicate, List.getElem?_cons_zero, List.getElem?_cons_succ, List.set_cons_zero, List.set_cons_succ, List.set_nil, List.cons_append, List.nil_append, List.append_nil, Option.some.injEq, V.int.injEq, V.ref.injEq, V.str.injEq, V.bl.injEq, HO.lst.injEq, HO.tup.injEq, exists_eq_left', exists_and_left, exists_eq_left, List.cons.injEq, and_true, true_and, and_false, false_and, and_self, reduceCtorEq, exists_false, or_false, false_or, exists_const, at0, at1, at2, at3, at4, at5, ix51, ix52, ix54, upd_same, Nat.reduceAdd, Nat.reduceSub, Nat.zero_add, Int.reduceToNat, Int.reduceLE, Int.reduceLT, decide_eq_true_eq, Bool.not_eq_true, if_true, if_false, Bool.false_eq_true, ite_true, ite_false, Bool.not_true, Bool.not_false, decide_true, decide_false, tFor_eq, tLc_eq, iList, iTup, iRng1, iRng2, iStr, tSl, tPart, tNoPart, rSlL, cxOf_K, wipe, ex_ty2, kit_LTl, kit_LTt, kit_LTd, kit_LTs, kit_LTn, kit_LTb, kit_LTi, tM1, rIxS, exists_eq', lt1p, tDNewK, rSlS, rEqNil, e1]
      rw [← text_no (H := H) (v := .ref _) (by show seqO (H _) = _; rw [e]; rfl)]
      exact k _ s_H1
    | non =>
      refine ⟨_, (pss_one (ps_ret (pe_and (pe_callB call_isBT (by rfl) T.z_isinstance (by decide +kernel) (pa_cons (pv 0) (pa_cons (pe_tup (pa_cons (pe_bltn (v := .ty "list") (by rfl) T.z_list (by decide +kernel) rfl) (pa_cons (pe_bltn (v := .ty "tuple") (by rfl) T.z_tuple (by decide +kernel) rfl) pa_nil))) pa_nil))) (pe_and (pe_cmpR (op_le) (pe_callB call_lenH (by rfl) T.z_len (by decide +kernel) (pa_cons (pv 0) pa_nil)) (pe_glob (v := .int 12) (by rfl) T.c_MOST_LINES.choose_spec ⟨_, rfl⟩) (nomark _)) (pe_one (pe_callB (cr_all rfl) (by rfl) T.z_all (by decide +kernel) (pa_cons (pe_lc (own := [("line", 1)]) (g := gName 1) (tt := tYes) (by rfl) scIsText.nd (pi_list (pv 0)) (blkOk_by (own := [("line", 1)]) (N := nIsText) (sc := defScope sIsText) (by decide +kernel)) (fun _ _ _ _ _ => pg_name (i := 1) scIsText.nd rfl (Or.inl rfl)) (fun _ _ _ _ _ => pts_nil) (fun _ _ _ _ _ => (pe_call gIsLine (hr.mono (by decide)) (by rfl) T.m_IsLine T.f_IsLine.kp T.b_IsLine .nil pass0 (pa_cons (pv 1) pa_nil)))) pa_nil))))))), ?_⟩
      try simp only [tSeq, tNext, tRet, tRetN, tAsg, gName, gSub, tDrop, tIfS, tOp, tUn, tCB, tCons, tNil, tC, tVar, rI, rI0, rU, tAnd, tOr, tNot, tAndV, tOrV, tNotV, tIf, tTest, tB, tCall, tChain, tLst, tTup, tYes, rIxH, rIsB, rIsBT, rMulS, kd_non, kd_bl, kd_int, kd_str, kd_ref, kdO_lst, kdO_tup, kdO_dK, nq_n, nq_b, nq_i, nq_s, nq_l, nq_t, nq_d, ne_eq, not_false_eq_true, kit_ss, kit_ns, kit_bs, kit_is, kit_ls, kit_ts, kit_ds, kit_bb, V.ty.injEq, and_assoc, rIxU, rLenH, rLenU, rLenS, rInt1, rSetL, rEq, rNe, rCat, L2.start, List.map, List.length, List.length_cons, List.length_nil, List.replicate, List.getElem?_cons_zero, List.getElem?_cons_succ, List.set_cons_zero, List.set_cons_succ, List.set_nil, List.cons_append, List.nil_append, List.append_nil, Option.some.injEq, V.int.injEq, V.ref.injEq, V.str.injEq, V.bl.injEq, HO.lst.injEq, HO.tup.injEq, exists_eq_left', exists_and_left, exists_eq_left, List.cons.injEq, and_true, true_and, and_false, false_and, and_self, reduceCtorEq, exists_false, or_false, false_or, exists_const, at0, at1, at2, at3, at4, at5, ix51, ix52, ix54, upd_same, Nat.reduceAdd, Nat.reduceSub, Nat.zero_add, Int.reduceToNat, Int.reduceLE, Int.reduceLT, decide_eq_true_eq, Bool.not_eq_true, if_true, if_false, Bool.false_eq_true, ite_true, ite_false, Bool.not_true, Bool.not_false, decide_true, decide_false, tFor_eq, tLc_eq, iList, iTup, iRng1, iRng2, iStr, tSl, tPart, tNoPart, rSlL, cxOf_K, wipe, ex_ty2, kit_LTl, kit_LTt, kit_LTd, kit_LTs, kit_LTn, kit_LTb, kit_LTi, tM1, rIxS, exists_eq', lt1p, tDNewK, rSlS, rEqNil]
      refine ⟨by decide, fun p hp => k _ (same_new hp)⟩
    | bl b =>
      refine ⟨_, (pss_one (ps_ret (pe_and (pe_callB call_isBT (by rfl) T.z_isinstance (by decide +kernel) (pa_cons (pv 0) (pa_cons (pe_tup (pa_cons (pe_bltn (v := .ty "list") (by rfl) T.z_list (by decide +kernel) rfl) (pa_cons (pe_bltn (v := .ty "tuple") (by rfl) T.z_tuple (by decide +kernel) rfl) pa_nil))) pa_nil))) (pe_and (pe_cmpR (op_le) (pe_callB call_lenH (by rfl) T.z_len (by decide +kernel) (pa_cons (pv 0) pa_nil)) (pe_glob (v := .int 12) (by rfl) T.c_MOST_LINES.choose_spec ⟨_, rfl⟩) (nomark _)) (pe_one (pe_callB (cr_all rfl) (by rfl) T.z_all (by decide +kernel) (pa_cons (pe_lc (own := [("line", 1)]) (g := gName 1) (tt := tYes) (by rfl) scIsText.nd (pi_list (pv 0)) (blkOk_by (own := [("line", 1)]) (N := nIsText) (sc := defScope sIsText) (by decide +kernel)) (fun _ _ _ _ _ => pg_name (i := 1) scIsText.nd rfl (Or.inl rfl)) (fun _ _ _ _ _ => pts_nil) (fun _ _ _ _ _ => (pe_call gIsLine (hr.mono (by decide)) (by rfl) T.m_IsLine T.f_IsLine.kp T.b_IsLine .nil pass0 (pa_cons (pv 1) pa_nil)))) pa_nil))))))), ?_⟩
      try simp only [tSeq, tNext, tRet, tRetN, tAsg, gName, gSub, tDrop, tIfS, tOp, tUn, tCB, tCons, tNil, tC, tVar, rI, rI0, rU, tAnd, tOr, tNot, tAndV, tOrV, tNotV, tIf, tTest, tB, tCall, tChain, tLst, tTup, tYes, rIxH, rIsB, rIsBT, rMulS, kd_non, kd_bl, kd_int, kd_str, kd_ref, kdO_lst, kdO_tup, kdO_dK, nq_n, nq_b, nq_i, nq_s, nq_l, nq_t, nq_d, ne_eq, not_false_eq_true, kit_ss, kit_ns, kit_bs, kit_is, kit_ls, kit_ts, kit_ds, kit_bb, V.ty.injEq, and_assoc, rIxU, rLenH, rLenU, rLenS, rInt1, rSetL, rEq, rNe, rCat, L2.start, List.map, List.length, List.length_cons, List.length_nil, List.replicate, List.getElem?_cons_zero, List.getElem?_cons_succ, List.set_cons_zero, List.set_cons_succ, List.set_nil, List.cons_append, List.nil_append, List.append_nil, Option.some.injEq, V.int.injEq, V.ref.injEq, V.str.injEq, V.bl.injEq, HO.lst.injEq, HO.tup.injEq, exists_eq_left', exists_and_left, exists_eq_left, List.cons.injEq, and_true, true_and, and_false, false_and, and_self, reduceCtorEq, exists_false, or_false, false_or, exists_const, at0, at1, at2, at3, at4, at5, ix51, ix52, ix54, upd_same, Nat.reduceAdd, Nat.reduceSub, Nat.zero_add, Int.reduceToNat, Int.reduceLE, Int.reduceLT, decide_eq_true_eq, Bool.not_eq_true, if_true, if_false, Bool.false_eq_true, ite_true, ite_false, Bool.not_true, Bool.not_false, decide_true, decide_false, tFor_eq, tLc_eq, iList, iTup, iRng1, iRng2, iStr, tSl, tPart, tNoPart, rSlL, cxOf_K, wipe, ex_ty2, kit_LTl, kit_LTt, kit_LTd, kit_LTs, kit_LTn, kit_LTb, kit_LTi, tM1, rIxS, exists_eq', lt1p, tDNewK, rSlS, rEqNil]
      refine ⟨by decide, fun p hp => k _ (same_new hp)⟩
    | int i =>
      refine ⟨_, (pss_one (ps_ret (pe_and (pe_callB call_isBT (by rfl) T.z_isinstance (by decide +kernel) (pa_cons (pv 0) (pa_cons (pe_tup (pa_cons (pe_bltn (v := .ty "list") (by rfl) T.z_list (by decide +kernel) rfl) (pa_cons (pe_bltn (v := .ty "tuple") (by rfl) T.z_tuple (by decide +kernel) rfl) pa_nil))) pa_nil))) (pe_and (pe_cmpR (op_le) (pe_callB call_lenH (by rfl) T.z_len (by decide +kernel) (pa_cons (pv 0) pa_nil)) (pe_glob (v := .int 12) (by rfl) T.c_MOST_LINES.choose_spec ⟨_, rfl⟩) (nomark _)) (pe_one (pe_callB (cr_all rfl) (by rfl) T.z_all (by decide +kernel) (pa_cons (pe_lc (own := [("line", 1)]) (g := gName 1) (tt := tYes) (by rfl) scIsText.nd (pi_list (pv 0)) (blkOk_by (own := [("line", 1)]) (N := nIsText) (sc := defScope sIsText) (by decide +kernel)) (fun _ _ _ _ _ => pg_name (i := 1) scIsText.nd rfl (Or.inl rfl)) (fun _ _ _ _ _ => pts_nil) (fun _ _ _ _ _ => (pe_call gIsLine (hr.mono (by decide)) (by rfl) T.m_IsLine T.f_IsLine.kp T.b_IsLine .nil pass0 (pa_cons (pv 1) pa_nil)))) pa_nil))))))), ?_⟩
      try simp only [tSeq, tNext, tRet, tRetN, tAsg, gName, gSub, tDrop, tIfS, tOp, tUn, tCB, tCons, tNil, tC, tVar, rI, rI0, rU, tAnd, tOr, tNot, tAndV, tOrV, tNotV, tIf, tTest, tB, tCall, tChain, tLst, tTup, tYes, rIxH, rIsB, rIsBT, rMulS, kd_non, kd_bl, kd_int, kd_str, kd_ref, kdO_lst, kdO_tup, kdO_dK, nq_n, nq_b, nq_i, nq_s, nq_l, nq_t, nq_d, ne_eq, not_false_eq_true, kit_ss, kit_ns, kit_bs, kit_is, kit_ls, kit_ts, kit_ds, kit_bb, V.ty.injEq, and_assoc, rIxU, rLenH, rLenU, rLenS, rInt1, rSetL, rEq, rNe, rCat, L2.start, List.map, List.length, List.length_cons, List.length_nil, List.replicate, List.getElem?_cons_zero, List.getElem?_cons_succ, List.set_cons_zero, List.set_cons_succ, List.set_nil, List.cons_append, List.nil_append, List.append_nil, Option.some.injEq, V.int.injEq, V.ref.injEq, V.str.injEq, V.bl.injEq, HO.lst.injEq, HO.tup.injEq, exists_eq_left', exists_and_left, exists_eq_left, List.cons.injEq, and_true, true_and, and_false, false_and, and_self, reduceCtorEq, exists_false, or_false, false_or, exists_const, at0, at1, at2, at3, at4, at5, ix51, ix52, ix54, upd_same, Nat.reduceAdd, Nat.reduceSub, Nat.zero_add, Int.reduceToNat, Int.reduceLE, Int.reduceLT, decide_eq_true_eq, Bool.not_eq_true, if_true, if_false, Bool.false_eq_true, ite_true, ite_false, Bool.not_true, Bool.not_false, decide_true, decide_false, tFor_eq, tLc_eq, iList, iTup, iRng1, iRng2, iStr, tSl, tPart, tNoPart, rSlL, cxOf_K, wipe, ex_ty2, kit_LTl, kit_LTt, kit_LTd, kit_LTs, kit_LTn, kit_LTb, kit_LTi, tM1, rIxS, exists_eq', lt1p, tDNewK, rSlS, rEqNil]
      refine ⟨by decide, fun p hp => k _ (same_new hp)⟩
    | str hz =>
      refine ⟨_, (pss_one (ps_ret (pe_and (pe_callB call_isBT (by rfl) T.z_isinstance (by decide +kernel) (pa_cons (pv 0) (pa_cons (pe_tup (pa_cons (pe_bltn (v := .ty "list") (by rfl) T.z_list (by decide +kernel) rfl) (pa_cons (pe_bltn (v := .ty "tuple") (by rfl) T.z_tuple (by decide +kernel) rfl) pa_nil))) pa_nil))) (pe_and (pe_cmpR (op_le) (pe_callB call_lenH (by rfl) T.z_len (by decide +kernel) (pa_cons (pv 0) pa_nil)) (pe_glob (v := .int 12) (by rfl) T.c_MOST_LINES.choose_spec ⟨_, rfl⟩) (nomark _)) (pe_one (pe_callB (cr_all rfl) (by rfl) T.z_all (by decide +kernel) (pa_cons (pe_lc (own := [("line", 1)]) (g := gName 1) (tt := tYes) (by rfl) scIsText.nd (pi_list (pv 0)) (blkOk_by (own := [("line", 1)]) (N := nIsText) (sc := defScope sIsText) (by decide +kernel)) (fun _ _ _ _ _ => pg_name (i := 1) scIsText.nd rfl (Or.inl rfl)) (fun _ _ _ _ _ => pts_nil) (fun _ _ _ _ _ => (pe_call gIsLine (hr.mono (by decide)) (by rfl) T.m_IsLine T.f_IsLine.kp T.b_IsLine .nil pass0 (pa_cons (pv 1) pa_nil)))) pa_nil))))))), ?_⟩
      try simp only [tSeq, tNext, tRet, tRetN, tAsg, gName, gSub, tDrop, tIfS, tOp, tUn, tCB, tCons, tNil, tC, tVar, rI, rI0, rU, tAnd, tOr, tNot, tAndV, tOrV, tNotV, tIf, tTest, tB, tCall, tChain, tLst, tTup, tYes, rIxH, rIsB, rIsBT, rMulS, kd_non, kd_bl, kd_int, kd_str, kd_ref, kdO_lst, kdO_tup, kdO_dK, nq_n, nq_b, nq_i, nq_s, nq_l, nq_t, nq_d, ne_eq, not_false_eq_true, kit_ss, kit_ns, kit_bs, kit_is, kit_ls, kit_ts, kit_ds, kit_bb, V.ty.injEq, and_assoc, rIxU, rLenH, rLenU, rLenS, rInt1, rSetL, rEq, rNe, rCat, L2.start, List.map, List.length, List.length_cons, List.length_nil, List.replicate, List.getElem?_cons_zero, List.getElem?_cons_succ, List.set_cons_zero, List.set_cons_succ, List.set_nil, List.cons_append, List.nil_append, List.append_nil, Option.some.injEq, V.int.injEq, V.ref.injEq, V.str.injEq, V.bl.injEq, HO.lst.injEq, HO.tup.injEq, exists_eq_left', exists_and_left, exists_eq_left, List.cons.injEq, and_true, true_and, and_false, false_and, and_self, reduceCtorEq, exists_false, or_false, false_or, exists_const, at0, at1, at2, at3, at4, at5, ix51, ix52, ix54, upd_same, Nat.reduceAdd, Nat.reduceSub, Nat.zero_add, Int.reduceToNat, Int.reduceLE, Int.reduceLT, decide_eq_true_eq, Bool.not_eq_true, if_true, if_false, Bool.false_eq_true, ite_true, ite_false, Bool.not_true, Bool.not_false, decide_true, decide_false, tFor_eq, tLc_eq, iList, iTup, iRng1, iRng2, iStr, tSl, tPart, tNoPart, rSlL, cxOf_K, wipe, ex_ty2, kit_LTl, kit_LTt, kit_LTd, kit_LTs, kit_LTn, kit_LTb, kit_LTi, tM1, rIxS, exists_eq', lt1p, tDNewK, rSlS, rEqNil]
      refine ⟨by decide, fun p hp => k _ (same_new hp)⟩
end


/-! ### the world of a law: the pool, and what is known beside it -/
def OffS (p l : Addr) (H H' : Hp) : Prop := ∀ b o, b ≠ p → b ≠ l → H b = some o → H' b = some o
theorem OffS.refl {p l : Addr} {H : Hp} : OffS p l H H := fun _ _ _ _ h => h
theorem OffS.trans {p l : Addr} {H H1 H2 : Hp} (a : OffS p l H H1) (b : OffS p l H1 H2) : OffS p l H H2 := fun x o h1 h2 h => b x o h1 h2 (a x o h1 h2 h)
theorem Off.s {p l : Addr} {H H' : Hp} (h : Off p l H H') : OffS p l H H' := fun b o h1 h2 e => by rw [h b h1 h2]; exact e
theorem same_off {p l : Addr} {H H' : Hp} (h : Same H H') : OffS p l H H' := fun b o _ _ e => h b o e
theorem PoolAt.mono {p l : Addr} {c c' : Nat} {H : Hp} (h : PoolAt p l c H) (hc : c ≤ c') : PoolAt p l c' H := by
  obtain ⟨ns, t, n, z, y, h1, h2, h3, h4, h5, h6, h7⟩ := h
  exact ⟨ns, t, n, z, y, h1, h2, h3, h4, h5, by omega, h7⟩
theorem PoolAt.same {p l : Addr} {c : Nat} {H H' : Hp} (s : Same H H') (h : PoolAt p l c H) : PoolAt p l c H' := by
  obtain ⟨ns, t, n, z, y, h1, h2, h3⟩ := h
  exact ⟨ns, t, n, z, y, s _ _ h1, s _ _ h2, h3⟩
theorem PoolAt.np {p l : Addr} {c : Nat} {H : Hp} {q : Addr} (h : PoolAt p l c H) (hq : H q = none) : q ≠ p ∧ q ≠ l := by
  obtain ⟨ns, t, n, z, y, h1, h2, h3⟩ := h
  exact ⟨(ne_of_none h1 hq).symm, (ne_of_none h2 hq).symm⟩
/-- G: what is known, all of it in H, nothing of it the pool's -/
structure Wd (p l : Addr) (c : Nat) (G H : Hp) : Prop where
  pool : PoolAt p l c H
  kn : Same G H
  gp : G p = none
  gl : G l = none
theorem Wd.mono {p l : Addr} {c c' : Nat} {G H : Hp} (h : Wd p l c G H) (hc : c ≤ c') : Wd p l c' G H := ⟨h.pool.mono hc, h.kn, h.gp, h.gl⟩
theorem Wd.ne {p l : Addr} {c : Nat} {G H : Hp} (h : Wd p l c G H) {b : Addr} {o : HO} (e : G b = some o) : b ≠ p ∧ b ≠ l := ⟨ne_of_none e h.gp, ne_of_none e h.gl⟩
/-- all but the pool kept, the pool as it is now -/
theorem Wd.turn {p l : Addr} {c c' : Nat} {G H H' : Hp} (h : Wd p l c G H) (hp : PoolAt p l c' H') (off : OffS p l H H') : Wd p l c' G H' :=
  ⟨hp, fun b o e => off b o (h.ne e).1 (h.ne e).2 (h.kn b o e), h.gp, h.gl⟩
theorem Wd.same {p l : Addr} {c : Nat} {G H H' : Hp} (h : Wd p l c G H) (s : Same H H') : Wd p l c G H' := h.turn (h.pool.same s) (same_off s)
theorem Wd.add {p l : Addr} {c : Nat} {G H H' : Hp} {q : Addr} {o : HO} (h : Wd p l c G H) (s : OffS p l H H') (hp : PoolAt p l c H') (hq : H q = none) (e : H' q = some o) : Wd p l c (upd G q o) H' := by
  have n := h.pool.np hq
  refine ⟨hp, fun b u hb => ?_, by rw [upd_ne n.1.symm]; exact h.gp, by rw [upd_ne n.2.symm]; exact h.gl⟩
  by_cases hbq : b = q
  · subst hbq
    rw [upd_same] at hb
    rw [← Option.some.inj hb]
    exact e
  · rw [upd_ne hbq] at hb
    exact (h.turn hp s).kn b u hb
theorem Wd.new {p l : Addr} {c : Nat} {G H : Hp} {q : Addr} {o : HO} (h : Wd p l c G H) (hq : H q = none) : Wd p l c (upd G q o) (upd H q o) :=
  h.add (same_off (same_new hq)) (h.pool.same (same_new hq)) hq upd_same
theorem Wd.free {p l : Addr} {c : Nat} {G H : Hp} {q : Addr} (h : Wd p l c G H) (hq : H q = none) : G q = none := h.kn.free hq
theorem Wd.alloc {p l : Addr} {c : Nat} {G H H1 : Hp} {q : Addr} {o : HO} (h : Wd p l c G H) (hq : H q = none) (s : Same H H1) (e : H1 q = some o) : ∃ G1, Wd p l c G1 H1 ∧ Same G G1 ∧ G1 q = some o :=
  ⟨_, h.add (same_off s) (h.pool.same s) hq e, same_new (h.free hq), upd_same⟩
/-- what has come: more is known, all but the pool is kept, what is newly known was free -/
structure Gw (p l : Addr) (G H G' H' : Hp) : Prop where
  gg : Same G G'
  off : OffS p l H H'
  fr : ∀ b o, G' b = some o → G b = some o ∨ H b = none
theorem Gw.refl {p l : Addr} {G H : Hp} : Gw p l G H G H := ⟨Same.refl _, OffS.refl, fun _ _ h => .inl h⟩
theorem Gw.trans {p l : Addr} {c : Nat} {G H G1 H1 G2 H2 : Hp} (a : Gw p l G H G1 H1) (w1 : PoolAt p l c H1) (b : Gw p l G1 H1 G2 H2) : Gw p l G H G2 H2 := by
  refine ⟨a.gg.trans b.gg, a.off.trans b.off, fun x o h => ?_⟩
  rcases b.fr x o h with h1 | h1
  · exact a.fr x o h1
  · refine .inr ?_
    cases q : H x with
    | none => rfl
    | some u =>
      have n := w1.np h1
      rw [a.off x u n.1 n.2 q] at h1
      cases h1
theorem Gw.same {p l : Addr} {G H H' : Hp} (s : Same H H') : Gw p l G H G H' := ⟨Same.refl _, same_off s, fun _ _ h => .inl h⟩
theorem Gw.of {p l : Addr} {G H H' : Hp} (s : OffS p l H H') : Gw p l G H G H' := ⟨Same.refl _, s, fun _ _ h => .inl h⟩
theorem Gw.add {p l : Addr} {G H H' : Hp} {q : Addr} {o : HO} (s : OffS p l H H') (hq : H q = none) (hg : G q = none) : Gw p l G H (upd G q o) H' := by
  refine ⟨same_new hg, s, fun b u h => ?_⟩
  by_cases e : b = q
  · subst e
    exact .inr hq
  · rw [upd_ne e] at h
    exact .inl h
/-- a comprehension whose turns draw: at most k draws a turn, each item is as Pz says -/
theorem lc_pool {J : It} {xs : List V} {Gd : Hp → Prop} (w : Walk J xs.length Gd (YAt xs)) {g : TG} {tt : TT} {te : TE} {vs : List Nat} {σ : St} {D : Addr} {Q : VK} {H1 G : Hp} {p l : Addr} {c k : Nat} (Pz : V → Hp → Prop) (hmono : ∀ v G G', Same G G' → Pz v G → Pz v G')
    (hw : Wd p l c G H1) (hD : H1 D = none) (hGd : ∀ H, OffS p l H1 H → Gd H) (hz : xs.length ≤ 100000)
    (turn : ∀ x, x ∈ xs → ∀ G2 H2 c2, Gw p l G H1 G2 H2 → Wd p l c2 G2 H2 → c2 ≤ c + k * xs.length → ∀ (R : VK) (R0 : Hp → Prop), (∀ v G3 H3, Pz v G3 → Wd p l (c2 + k) G3 H3 → Gw p l G2 H2 G3 H3 → R v H3) → g x (wipe σ vs) H2 fun σ2 H3 => wipe σ2 vs = wipe σ vs ∧ tt σ2 H3 fun b H4 => if b = true then te σ2 H4 R else R0 H4)
    (done : ∀ acc G' H', acc.length = xs.length → (∀ v ∈ acc, Pz v G') → Gw p l G H1 G' H' → Wd p l (c + k * xs.length) G' H' → G' D = some (.lst acc) → Q (.ref D) H') : lcGo J g tt te vs σ D Q H1 := by
  have nD := hw.pool.np hD
  have offD : ∀ {H2 H3 : Hp} {o : HO}, OffS p l H1 H2 → OffS p l H2 H3 → OffS p l H1 (upd H3 D o) := fun a b x o h1 h2 e => by
    rw [upd_ne (ne_of_none e hD)]
    exact b x o h1 h2 (a x o h1 h2 e)
  refine lc_it w (fun i H => ∃ G' acc, acc.length = i ∧ (∀ v ∈ acc, Pz v G') ∧ Gw p l G H1 G' H ∧ Wd p l (c + k * i) G' H ∧ G' D = none ∧ H D = some (.lst acc)) ?_ (fun i H _ q => ?_) (fun i x H H' hi q y => ?_) (fun H q => ?_)
  · exact ⟨G, [], rfl, fun _ h => (nomatch h), Gw.same (same_new hD), (hw.same (same_new hD)), hw.free hD, upd_same⟩
  · obtain ⟨G', acc, _, _, gw, _⟩ := q
    exact hGd H gw.off
  · obtain ⟨rfl, hx⟩ := y
    obtain ⟨G2, acc, ha, hP, gw, hw2, gD, hacc⟩ := q
    have hk : k * i ≤ k * xs.length := Nat.mul_le_mul_left k (by omega)
    refine turn x (List.mem_of_getElem? hx) G2 _ (c + k * i) gw hw2 (by omega) _ _ fun v G3 H3 hv hw3 g3 => ?_
    have hD3 : H3 D = some (.lst acc) := g3.off D _ nD.1 nD.2 hacc
    have gD3 : G3 D = none := by
      cases e : G3 D with
      | none => rfl
      | some o =>
        rcases g3.fr D o e with h | h
        · rw [gD] at h; cases h
        · rw [hacc] at h; cases h
    have gw3 : Gw p l G H1 G3 H3 := gw.trans hw2.pool g3
    refine ⟨acc, hD3, Nat.lt_of_le_of_lt (m := 100000) (by omega) (by decide), G3, acc ++ [v], by rw [List.length_append, ha]; rfl, fun u hu => ?_, ⟨gw3.gg, offD gw3.off OffS.refl, gw3.fr⟩, ?_, gD3, upd_same⟩
    · rcases List.mem_append.mp hu with h | h
      · exact hmono u _ _ g3.gg (hP u h)
      · rw [List.mem_singleton.mp h]
        exact hv
    · have e : c + k * (i + 1) = c + k * i + k := by rw [Nat.mul_add, Nat.mul_one, Nat.add_assoc]
      rw [e]
      obtain ⟨ns, t, n, z, y, h1, h2, h3⟩ := hw3.pool
      refine ⟨⟨ns, t, n, z, y, by rw [upd_ne nD.1.symm]; exact h1, by rw [upd_ne nD.2.symm]; exact h2, h3⟩, fun b o hb => ?_, hw3.gp, hw3.gl⟩
      rw [upd_ne (ne_of_none hb gD3)]
      exact hw3.kn b o hb
  · obtain ⟨G', acc, ha, hP, gw, hw2, gD, hacc⟩ := q
    have sg : Same G' (upd G' D (.lst acc)) := same_new gD
    refine done acc (upd G' D (.lst acc)) H ha (fun v hv => hmono v _ _ sg (hP v hv)) ⟨gw.gg.trans sg, gw.off, fun b o hb => ?_⟩ ⟨hw2.pool, fun b o hb => ?_, by rw [upd_ne nD.1.symm]; exact hw2.gp, by rw [upd_ne nD.2.symm]; exact hw2.gl⟩ upd_same
    · by_cases e : b = D
      · subst e
        exact .inr hD
      · rw [upd_ne e] at hb
        exact gw.fr b o hb
    · by_cases e : b = D
      · subst e
        rw [upd_same] at hb
        rw [← Option.some.inj hb]
        exact hacc
      · rw [upd_ne e] at hb
        exact hw2.kn b o hb
/-! ### data compared -/
theorem dp_strs {K : PySem.W.Frag} {H : Hp} : ∀ (zs : List Str), DpAll K H (zs.map V.str) (zs.map PyData.str)
  | [] => .nil
  | z :: r => .cons (.str z) (dp_strs r)
theorem lay_strs : ∀ (zs : List Str), (∀ z ∈ zs, ∀ c ∈ z.cps.toList, c < 128) → PyData.canLayAll0 (zs.map PyData.str) = true
  | [], _ => rfl
  | z :: r, h => by
    have h1 : PyData.strOk z = true := by
      unfold PyData.strOk
      rw [Array.all_eq_true']
      intro c hc
      exact decide_eq_true (Nat.lt_trans (h z List.mem_cons_self c (by simpa using hc)) (by decide))
    show (PyData.canLay0 (.str z) && PyData.canLayAll0 (r.map PyData.str)) = true
    rw [lay_strs r fun y hy => h y (List.mem_cons_of_mem _ hy), Bool.and_true]
    exact h1
theorem dep_strs : ∀ (zs : List Str), PyData.depthAll (zs.map PyData.str) ≤ 1
  | [] => by simp [PyData.depthAll]
  | z :: r => by
    have := dep_strs r
    simp only [List.map_cons, PyData.depthAll, PyData.depth]
    omega
theorem shaped_strs {zs : List Str} (h : ∀ z ∈ zs, ∀ c ∈ z.cps.toList, c < 128) : SeqAt.shaped (.list (zs.map PyData.str)) = true := by
  unfold SeqAt.shaped
  have h1 := dep_strs zs
  have h2 : PyData.canLay0 (.list (zs.map PyData.str)) = true := lay_strs zs h
  rw [h2, Bool.true_and]
  refine decide_eq_true ?_
  simp only [PyData.depth]
  omega
theorem shaped_nil : SeqAt.shaped (.list []) = true := by decide
theorem eqv_nil {ds : List PyData} : PyData.eqv (.list ds) (.list []) = ds.isEmpty := by
  cases ds <;> simp [PyData.eqv, PyData.eqvAll]
theorem strs_of {xs : List V} (h : ∀ x ∈ xs, ∃ z, x = V.str z) : ∃ zs : List Str, xs = zs.map V.str := by
  induction xs with
  | nil => exact ⟨[], rfl⟩
  | cons x r ih =>
    obtain ⟨z, rfl⟩ := h x List.mem_cons_self
    obtain ⟨zs, rfl⟩ := ih fun y hy => h y (List.mem_cons_of_mem _ hy)
    exact ⟨z :: zs, rfl⟩
/-- texts == [] -/
theorem eqD_nil {K : PySem.W.Frag} {H : Hp} {a b : Addr} {zs : List Str} {Q : VK} (ha : H a = some (.lst (zs.map V.str))) (hb : H b = some (.lst [])) (h : ∀ z ∈ zs, ∀ c ∈ z.cps.toList, c < 128) (k : Q (.bl zs.isEmpty) H) : rEqD K (.ref a) (.ref b) H Q := by
  refine ⟨.list (zs.map PyData.str), .list [], .lst (SqL.of ha) (dp_strs zs), .lst (SqL.of hb) .nil, shaped_strs h, shaped_nil, ?_⟩
  rw [eqv_nil]
  cases zs <;> exact k
theorem eqD_nn {K : PySem.W.Frag} {H : Hp} {a b : Addr} {Q : VK} (ha : H a = some (.lst [])) (hb : H b = some (.lst [])) (k : Q (.bl true) H) : rEqD K (.ref a) (.ref b) H Q := eqD_nil (zs := []) ha hb (fun _ h => (nomatch h)) k
theorem neD_nn {K : PySem.W.Frag} {H : Hp} {a b : Addr} {Q : VK} (ha : H a = some (.lst [])) (hb : H b = some (.lst [])) (k : Q (.bl false) H) : rNeD K (.ref a) (.ref b) H Q := by
  refine ⟨.list [], .list [], .lst (SqL.of ha) .nil, .lst (SqL.of hb) .nil, shaped_nil, shaped_nil, ?_⟩
  rw [eqv_nil]
  exact k
/-! ### texts -/
theorem join_sm {ys : List Str} (h1 : ∀ y ∈ ys, y.length = 1) (h2 : ∀ y ∈ ys, ∀ c ∈ y.cps.toList, c < 128) : (Txt.join Str.empty ys).length ≤ ys.length ∧ ∀ c ∈ (Txt.join Str.empty ys).cps.toList, c < 128 := by
  have e : Txt.join Str.empty ys = Str.join Str.empty ys := StrLaws.glued_eq_join _ _
  rw [e]
  refine ⟨?_, fun c hc => ?_⟩
  · refine Nat.le_trans (StrLaws.join_length_le _ _) ?_
    have e2 : ys.map (·.length) = ys.map (fun _ => 1) := List.map_congr_left h1
    rw [e2, List.map_const', List.sum_replicate_nat]
    show ys.length * 1 + ys.length * 0 ≤ ys.length
    omega
  · rcases (PyProof.Rows.mem_join _ c ys).mp hc with ⟨t, ht, h⟩ | ⟨_, h⟩
    · exact h2 t ht c h
    · exact absurd (show c ∈ ([] : List Nat) from h) List.not_mem_nil
theorem at_of' {α : Type} {xs : List α} {z : Int} {j : Nat} {v : α} (e : z = (j : Int)) (h : xs[j]? = some v) : atI xs z = some v := by
  rw [e]
  exact atI_nat h
theorem atI_ex {α : Type} {xs : List α} {i : Int} (h0 : 0 ≤ i) (h1 : i < (xs.length : Int)) : ∃ v, atI xs i = some v ∧ v ∈ xs ∧ xs[i.toNat]? = some v := by
  have q : i = ((i.toNat : Nat) : Int) := (Int.toNat_of_nonneg h0).symm
  have q2 : i.toNat < xs.length := by omega
  have q3 : xs[i.toNat]? = some xs[i.toNat] := List.getElem?_eq_getElem q2
  exact ⟨xs[i.toNat], at_of' q q3, List.getElem_mem q2, q3⟩
theorem int62 {m : Int} (h0 : 0 ≤ m) (h : m ≤ 100000) : -2 ^ 62 ≤ m ∧ m < 2 ^ 62 := by
  have e : (2 : Int) ^ 62 = 4611686018427387904 := by decide
  omega
theorem wd0 {p l : Addr} {c : Nat} {H : Hp} (h : PoolAt p l c H) : Wd p l c (fun _ => none) H := ⟨h, fun _ _ e => (nomatch e), rfl, rfl⟩
theorem filter_empty {α : Type} {l : List α} {f : α → Bool} : (l.filter fun c => !f c).isEmpty = l.all f := by
  induction l with
  | nil => rfl
  | cons a r ih =>
    rw [List.filter_cons, List.all_cons]
    cases e : f a with
    | true => simpa [e] using ih
    | false => simp [e]
theorem rng_item {lo : Int} {n i : Nat} {x : V} (h : (rngV lo n)[i]? = some x) : x = .int (lo + (i : Int)) ∧ i < n := by
  have hi : i < n := by
    have := (List.getElem?_eq_some_iff.mp h).1
    rw [rngV_len] at this
    exact this
  unfold rngV at h
  rw [List.getElem?_map, List.getElem?_range hi] at h
  exact ⟨(Option.some.inj h).symm, hi⟩
theorem cutS_sm {z : Str} {lo hi : Option Int} (h : ∀ c ∈ z.cps.toList, c < 128) : ∀ c ∈ (cutS z lo hi).cps.toList, c < 128 := fun c hc => by
  unfold cutS at hc
  have hc : c ∈ (z.cps.toList.drop (HT.sIx z.length 0 lo)).take (HT.sIx z.length z.length hi - HT.sIx z.length 0 lo) := by simpa using hc
  exact h c (List.mem_of_mem_drop (List.mem_of_mem_take hc))
theorem app_sm {x y : Str} (h1 : ∀ c ∈ x.cps.toList, c < 128) (h2 : ∀ c ∈ y.cps.toList, c < 128) : ∀ c ∈ (x ++ y).cps.toList, c < 128 := fun c hc => by
  have e : (x ++ y).cps.toList = x.cps.toList ++ y.cps.toList := by
    show (x.cps ++ y.cps).toList = _
    rw [Array.toList_append]
  rw [e] at hc
  rcases List.mem_append.mp hc with h | h
  · exact h1 c h
  · exact h2 c h
theorem app_len {x y : Str} : (x ++ y).length = x.length + y.length := by
  show (x.cps ++ y.cps).size = _
  rw [Array.size_append]
  rfl



theorem empS : Str.ofString "" = Str.empty := by decide +kernel
theorem sign_lo {c : Nat} (h : c < 32) : (!signOk c) = true := by
  unfold signOk
  rw [decide_eq_false (show ¬ 32 ≤ c by omega)]
  rfl
theorem sign_hi {c : Nat} (h : 126 < c) : (!signOk c) = true := by
  unfold signOk
  rw [decide_eq_false (show ¬ c ≤ 126 by omega), Bool.and_false]
  rfl
theorem sign_ok {c : Nat} (h : ¬ c < 32) (h' : ¬ 126 < c) : (!signOk c) = false := by
  unfold signOk
  rw [decide_eq_true (show 32 ≤ c by omega), decide_eq_true (show c ≤ 126 by omega)]
  rfl
section
variable {P : Program} {w : World} {K : PySem.W.Frag} {mg : Str → Option Value} {base : Heap} {A : Adr}
def spLawTruth : Sp := fun vs H Q _ => ∃ a b : Bool, vs = [.bl a, .bl b] ∧ Q (.bl (decide (a = b))) H
theorem ok_truth (T : Txt K mg A) : FnOk P w K mg base CX0 1 A.a_LawTruth A.d_LawTruth ["_law_found", "_law_due"] spLawTruth := by
  refine T.f_LawTruth.ok scLawTruth (fun vs H Q E h => ?_) (fun cdv A' outer s H vs Q E hr h => ?_)
  · obtain ⟨a, b, rfl, _⟩ := h
    rfl
  · obtain ⟨a, b, rfl, k⟩ := h
    refine ⟨_, (pss_one (ps_ret (pe_and (pe_callB call_isB (by rfl) T.z_isinstance (by decide +kernel) (pa_cons (pv 0) (pa_cons (pe_bltn (v := .ty "bool") (by rfl) T.z_bool (by decide +kernel) rfl) pa_nil))) (pe_one (pe_cmpR (op_eq) (pv 0) (pv 1) (nomark _)))))), ?_⟩
    try simp only [tSeq, tNext, tRet, tRetN, tAsg, gName, gSub, tDrop, tIfS, tOp, tUn, tCB, tCons, tNil, tC, tVar, rI, rI0, rU, tAnd, tOr, tNot, tAndV, tOrV, tNotV, tIf, tTest, tB, tCall, tChain, tLst, tTup, tYes, rIxH, rIsB, rIsBT, rMulS, kd_non, kd_bl, kd_int, kd_str, kd_ref, kdO_lst, kdO_tup, kdO_dK, nq_n, nq_b, nq_i, nq_s, nq_l, nq_t, nq_d, ne_eq, not_false_eq_true, kit_ss, kit_ns, kit_bs, kit_is, kit_ls, kit_ts, kit_ds, kit_bb, V.ty.injEq, and_assoc, rIxU, rLenH, rLenU, rLenS, rInt1, rSetL, rEq, rNe, rCat, L2.start, List.map, List.length, List.length_cons, List.length_nil, List.replicate, List.getElem?_cons_zero, List.getElem?_cons_succ, List.set_cons_zero, List.set_cons_succ, List.set_nil, List.cons_append, List.nil_append, List.append_nil, Option.some.injEq, V.int.injEq, V.ref.injEq, V.str.injEq, V.bl.injEq, HO.lst.injEq, HO.tup.injEq, exists_eq_left', exists_and_left, exists_eq_left, List.cons.injEq, and_true, true_and, and_false, false_and, and_self, reduceCtorEq, exists_false, or_false, false_or, exists_const, at0, at1, at2, at3, at4, at5, ix51, ix52, ix54, upd_same, Nat.reduceAdd, Nat.reduceSub, Nat.zero_add, Int.reduceToNat, Int.reduceLE, Int.reduceLT, decide_eq_true_eq, Bool.not_eq_true, if_true, if_false, Bool.false_eq_true, ite_true, ite_false, Bool.not_true, Bool.not_false, decide_true, decide_false, tFor_eq, tLc_eq, iList, iTup, iRng1, iRng2, iStr, tSl, tPart, tNoPart, rSlL, cxOf_K, wipe, ex_ty2, kit_LTl, kit_LTt, kit_LTd, kit_LTs, kit_LTn, kit_LTb, kit_LTi, tM1, rIxS, exists_eq', lt1p, tDNewK, rSlS, rEqNil, scal_bl]
    exact k
def spLawIsLine : Sp := spIsLine
theorem ok_law_is_line (T : Txt K mg A) : FnOk P w K mg base CX0 1 A.a_LawIsLine A.d_LawIsLine ["_law_thing"] spLawIsLine := by
  refine T.f_LawIsLine.ok scLawIsLine (fun vs H Q E h => ?_) (fun cdv A' outer s H vs Q E hr h => ?_)
  · obtain ⟨v, rfl, _⟩ := h
    rfl
  · obtain ⟨v, rfl, ht, k⟩ := h
    refine ⟨_, (pss_cons (ps_if (PW.pt (pw_or (pt_not (pt_val (pe_callB call_isB (by rfl) T.z_isinstance (by decide +kernel) (pa_cons (pv 0) (pa_cons (pe_bltn (v := .ty "str") (by rfl) T.z_str (by decide +kernel) rfl) pa_nil))))) (pw_or1 (pt_cmpR (op_gt) (pe_callB call_lenS (by rfl) T.z_len (by decide +kernel) (pa_cons (pv 0) pa_nil)) pe_int (nomark _))))) (pss_one (ps_ret pe_bl)) pss_nil)
      (pss_one (ps_ret (pe_cmpR (op_eqNil hr.units) (pe_lc (own := [("_law_sign", 1)]) (g := gName 1)  (by rfl) scLawIsLine.nd (pi_str (pv 0)) (blkOk_by (own := [("_law_sign", 1)]) (N := nLawIsLine) (sc := defScope sLawIsLine) (by decide +kernel)) (fun _ _ _ _ _ => pg_name (i := 1) scLawIsLine.nd rfl (Or.inl rfl)) (fun _ _ _ _ _ => (pts_one (PW.pt (pw_or (pt_cmpR (op_lt_str) (pv 1) pe_str (nomark _)) (pw_or1 (pt_cmpR (op_gt_str) (pv 1) pe_str (nomark _))))))) (fun _ _ _ _ _ => (pv 1))) (pe_lst pa_nil) (nomark _))))), ?_⟩
    cases ht with
    | str hz =>
      rename_i z
      try simp only [tSeq, tNext, tRet, tRetN, tAsg, gName, gSub, tDrop, tIfS, tOp, tUn, tCB, tCons, tNil, tC, tVar, rI, rI0, rU, tAnd, tOr, tNot, tAndV, tOrV, tNotV, tIf, tTest, tB, tCall, tChain, tLst, tTup, tYes, rIxH, rIsB, rIsBT, rMulS, kd_non, kd_bl, kd_int, kd_str, kd_ref, kdO_lst, kdO_tup, kdO_dK, nq_n, nq_b, nq_i, nq_s, nq_l, nq_t, nq_d, ne_eq, not_false_eq_true, kit_ss, kit_ns, kit_bs, kit_is, kit_ls, kit_ts, kit_ds, kit_bb, V.ty.injEq, and_assoc, rIxU, rLenH, rLenU, rLenS, rInt1, rSetL, rEq, rNe, rCat, L2.start, List.map, List.length, List.length_cons, List.length_nil, List.replicate, List.getElem?_cons_zero, List.getElem?_cons_succ, List.set_cons_zero, List.set_cons_succ, List.set_nil, List.cons_append, List.nil_append, List.append_nil, Option.some.injEq, V.int.injEq, V.ref.injEq, V.str.injEq, V.bl.injEq, HO.lst.injEq, HO.tup.injEq, exists_eq_left', exists_and_left, exists_eq_left, List.cons.injEq, and_true, true_and, and_false, false_and, and_self, reduceCtorEq, exists_false, or_false, false_or, exists_const, at0, at1, at2, at3, at4, at5, ix51, ix52, ix54, upd_same, Nat.reduceAdd, Nat.reduceSub, Nat.zero_add, Int.reduceToNat, Int.reduceLE, Int.reduceLT, decide_eq_true_eq, Bool.not_eq_true, if_true, if_false, Bool.false_eq_true, ite_true, ite_false, Bool.not_true, Bool.not_false, decide_true, decide_false, tFor_eq, tLc_eq, iList, iTup, iRng1, iRng2, iStr, tSl, tPart, tNoPart, rSlL, cxOf_K, wipe, ex_ty2, kit_LTl, kit_LTt, kit_LTd, kit_LTs, kit_LTn, kit_LTb, kit_LTi, tM1, rIxS, exists_eq', lt1p, tDNewK, rSlS, rEqNil]
      have hz1 := hz.1
      refine ⟨size1000 hz1, ite2 (fun h => ?_) (fun h => ?_)⟩
      · have e : isLineV (.str z) = false := by
          show (decide (z.length ≤ 40) && z.cps.toList.all signOk) = _
          rw [decide_eq_false (show ¬ z.length ≤ 40 by omega), Bool.false_and]
        rw [← e]
        exact k H (Same.refl H)
      · intro D hD
        refine lc_same walk_strY (fun v => !signOk (codeOf v)) id hD (fun _ _ => trivial) (by rw [List.length_map, Array.length_toList]; show z.length ≤ _; omega) (fun x hx H2 s2 R R0 h1 h0 => ?_) (fun H2 s2 h2 => ?_)
        · obtain ⟨c, hc, rfl⟩ := mem_sgn hx
          try simp only [tSeq, tNext, tRet, tRetN, tAsg, gName, gSub, tDrop, tIfS, tOp, tUn, tCB, tCons, tNil, tC, tVar, rI, rI0, rU, tAnd, tOr, tNot, tAndV, tOrV, tNotV, tIf, tTest, tB, tCall, tChain, tLst, tTup, tYes, rIxH, rIsB, rIsBT, rMulS, kd_non, kd_bl, kd_int, kd_str, kd_ref, kdO_lst, kdO_tup, kdO_dK, nq_n, nq_b, nq_i, nq_s, nq_l, nq_t, nq_d, ne_eq, not_false_eq_true, kit_ss, kit_ns, kit_bs, kit_is, kit_ls, kit_ts, kit_ds, kit_bb, V.ty.injEq, and_assoc, rIxU, rLenH, rLenU, rLenS, rInt1, rSetL, rEq, rNe, rCat, L2.start, List.map, List.length, List.length_cons, List.length_nil, List.replicate, List.getElem?_cons_zero, List.getElem?_cons_succ, List.set_cons_zero, List.set_cons_succ, List.set_nil, List.cons_append, List.nil_append, List.append_nil, Option.some.injEq, V.int.injEq, V.ref.injEq, V.str.injEq, V.bl.injEq, HO.lst.injEq, HO.tup.injEq, exists_eq_left', exists_and_left, exists_eq_left, List.cons.injEq, and_true, true_and, and_false, false_and, and_self, reduceCtorEq, exists_false, or_false, false_or, exists_const, at0, at1, at2, at3, at4, at5, ix51, ix52, ix54, upd_same, Nat.reduceAdd, Nat.reduceSub, Nat.zero_add, Int.reduceToNat, Int.reduceLE, Int.reduceLT, decide_eq_true_eq, Bool.not_eq_true, if_true, if_false, Bool.false_eq_true, ite_true, ite_false, Bool.not_true, Bool.not_false, decide_true, decide_false, tFor_eq, tLc_eq, iList, iTup, iRng1, iRng2, iStr, tSl, tPart, tNoPart, rSlL, cxOf_K, wipe, ex_ty2, kit_LTl, kit_LTt, kit_LTd, kit_LTs, kit_LTn, kit_LTb, kit_LTi, tM1, rIxS, exists_eq', lt1p, tDNewK, rSlS, rEqNil, sgn, cSp, cTi]
          exact ite2 (fun h => h1 _ (Same.refl _) (sign_lo h)) (fun h => ite2 (fun h' => h1 _ (Same.refl _) (sign_hi h')) (fun h' => h0 _ (Same.refl _) (sign_ok h h')))
        · refine ⟨by decide, fun q hq => ?_⟩
          try simp only [tSeq, tNext, tRet, tRetN, tAsg, gName, gSub, tDrop, tIfS, tOp, tUn, tCB, tCons, tNil, tC, tVar, rI, rI0, rU, tAnd, tOr, tNot, tAndV, tOrV, tNotV, tIf, tTest, tB, tCall, tChain, tLst, tTup, tYes, rIxH, rIsB, rIsBT, rMulS, kd_non, kd_bl, kd_int, kd_str, kd_ref, kdO_lst, kdO_tup, kdO_dK, nq_n, nq_b, nq_i, nq_s, nq_l, nq_t, nq_d, ne_eq, not_false_eq_true, kit_ss, kit_ns, kit_bs, kit_is, kit_ls, kit_ts, kit_ds, kit_bb, V.ty.injEq, and_assoc, rIxU, rLenH, rLenU, rLenS, rInt1, rSetL, rEq, rNe, rCat, L2.start, List.map, List.length, List.length_cons, List.length_nil, List.replicate, List.getElem?_cons_zero, List.getElem?_cons_succ, List.set_cons_zero, List.set_cons_succ, List.set_nil, List.cons_append, List.nil_append, List.append_nil, Option.some.injEq, V.int.injEq, V.ref.injEq, V.str.injEq, V.bl.injEq, HO.lst.injEq, HO.tup.injEq, exists_eq_left', exists_and_left, exists_eq_left, List.cons.injEq, and_true, true_and, and_false, false_and, and_self, reduceCtorEq, exists_false, or_false, false_or, exists_const, at0, at1, at2, at3, at4, at5, ix51, ix52, ix54, upd_same, Nat.reduceAdd, Nat.reduceSub, Nat.zero_add, Int.reduceToNat, Int.reduceLE, Int.reduceLT, decide_eq_true_eq, Bool.not_eq_true, if_true, if_false, Bool.false_eq_true, ite_true, ite_false, Bool.not_true, Bool.not_false, decide_true, decide_false, tFor_eq, tLc_eq, iList, iTup, iRng1, iRng2, iStr, tSl, tPart, tNoPart, rSlL, cxOf_K, wipe, ex_ty2, kit_LTl, kit_LTt, kit_LTd, kit_LTs, kit_LTn, kit_LTb, kit_LTi, tM1, rIxS, exists_eq', lt1p, tDNewK, rSlS, rEqNil, upd_ne (ne_of_none h2 hq), h2]
          have e2 : isLineV (.str z) = (List.map id (List.filter (fun v => !signOk (codeOf v)) (List.map sgn z.cps.toList))).isEmpty := by
            show (decide (z.length ≤ 40) && z.cps.toList.all signOk) = _
            rw [decide_eq_true (show z.length ≤ 40 by omega), Bool.true_and, List.map_id, filter_empty, List.all_map]
            rfl
          rw [← e2]
          exact k _ (s2.trans (same_new hq))
    | lst e =>
      try simp only [tSeq, tNext, tRet, tRetN, tAsg, gName, gSub, tDrop, tIfS, tOp, tUn, tCB, tCons, tNil, tC, tVar, rI, rI0, rU, tAnd, tOr, tNot, tAndV, tOrV, tNotV, tIf, tTest, tB, tCall, tChain, tLst, tTup, tYes, rIxH, rIsB, rIsBT, rMulS, kd_non, kd_bl, kd_int, kd_str, kd_ref, kdO_lst, kdO_tup, kdO_dK, nq_n, nq_b, nq_i, nq_s, nq_l, nq_t, nq_d, ne_eq, not_false_eq_true, kit_ss, kit_ns, kit_bs, kit_is, kit_ls, kit_ts, kit_ds, kit_bb, V.ty.injEq, and_assoc, rIxU, rLenH, rLenU, rLenS, rInt1, rSetL, rEq, rNe, rCat, L2.start, List.map, List.length, List.length_cons, List.length_nil, List.replicate, List.getElem?_cons_zero, List.getElem?_cons_succ, List.set_cons_zero, List.set_cons_succ, List.set_nil, List.cons_append, List.nil_append, List.append_nil, Option.some.injEq, V.int.injEq, V.ref.injEq, V.str.injEq, V.bl.injEq, HO.lst.injEq, HO.tup.injEq, exists_eq_left', exists_and_left, exists_eq_left, List.cons.injEq, and_true, true_and, and_false, false_and, and_self, reduceCtorEq, exists_false, or_false, false_or, exists_const, at0, at1, at2, at3, at4, at5, ix51, ix52, ix54, upd_same, Nat.reduceAdd, Nat.reduceSub, Nat.zero_add, Int.reduceToNat, Int.reduceLE, Int.reduceLT, decide_eq_true_eq, Bool.not_eq_true, if_true, if_false, Bool.false_eq_true, ite_true, ite_false, Bool.not_true, Bool.not_false, decide_true, decide_false, tFor_eq, tLc_eq, iList, iTup, iRng1, iRng2, iStr, tSl, tPart, tNoPart, rSlL, cxOf_K, wipe, ex_ty2, kit_LTl, kit_LTt, kit_LTd, kit_LTs, kit_LTn, kit_LTb, kit_LTi, tM1, rIxS, exists_eq', lt1p, tDNewK, rSlS, rEqNil, e]
      exact k H (Same.refl H)
    | tup e =>
      try simp only [tSeq, tNext, tRet, tRetN, tAsg, gName, gSub, tDrop, tIfS, tOp, tUn, tCB, tCons, tNil, tC, tVar, rI, rI0, rU, tAnd, tOr, tNot, tAndV, tOrV, tNotV, tIf, tTest, tB, tCall, tChain, tLst, tTup, tYes, rIxH, rIsB, rIsBT, rMulS, kd_non, kd_bl, kd_int, kd_str, kd_ref, kdO_lst, kdO_tup, kdO_dK, nq_n, nq_b, nq_i, nq_s, nq_l, nq_t, nq_d, ne_eq, not_false_eq_true, kit_ss, kit_ns, kit_bs, kit_is, kit_ls, kit_ts, kit_ds, kit_bb, V.ty.injEq, and_assoc, rIxU, rLenH, rLenU, rLenS, rInt1, rSetL, rEq, rNe, rCat, L2.start, List.map, List.length, List.length_cons, List.length_nil, List.replicate, List.getElem?_cons_zero, List.getElem?_cons_succ, List.set_cons_zero, List.set_cons_succ, List.set_nil, List.cons_append, List.nil_append, List.append_nil, Option.some.injEq, V.int.injEq, V.ref.injEq, V.str.injEq, V.bl.injEq, HO.lst.injEq, HO.tup.injEq, exists_eq_left', exists_and_left, exists_eq_left, List.cons.injEq, and_true, true_and, and_false, false_and, and_self, reduceCtorEq, exists_false, or_false, false_or, exists_const, at0, at1, at2, at3, at4, at5, ix51, ix52, ix54, upd_same, Nat.reduceAdd, Nat.reduceSub, Nat.zero_add, Int.reduceToNat, Int.reduceLE, Int.reduceLT, decide_eq_true_eq, Bool.not_eq_true, if_true, if_false, Bool.false_eq_true, ite_true, ite_false, Bool.not_true, Bool.not_false, decide_true, decide_false, tFor_eq, tLc_eq, iList, iTup, iRng1, iRng2, iStr, tSl, tPart, tNoPart, rSlL, cxOf_K, wipe, ex_ty2, kit_LTl, kit_LTt, kit_LTd, kit_LTs, kit_LTn, kit_LTb, kit_LTi, tM1, rIxS, exists_eq', lt1p, tDNewK, rSlS, rEqNil, e]
      exact k H (Same.refl H)
    | dic e =>
      try simp only [tSeq, tNext, tRet, tRetN, tAsg, gName, gSub, tDrop, tIfS, tOp, tUn, tCB, tCons, tNil, tC, tVar, rI, rI0, rU, tAnd, tOr, tNot, tAndV, tOrV, tNotV, tIf, tTest, tB, tCall, tChain, tLst, tTup, tYes, rIxH, rIsB, rIsBT, rMulS, kd_non, kd_bl, kd_int, kd_str, kd_ref, kdO_lst, kdO_tup, kdO_dK, nq_n, nq_b, nq_i, nq_s, nq_l, nq_t, nq_d, ne_eq, not_false_eq_true, kit_ss, kit_ns, kit_bs, kit_is, kit_ls, kit_ts, kit_ds, kit_bb, V.ty.injEq, and_assoc, rIxU, rLenH, rLenU, rLenS, rInt1, rSetL, rEq, rNe, rCat, L2.start, List.map, List.length, List.length_cons, List.length_nil, List.replicate, List.getElem?_cons_zero, List.getElem?_cons_succ, List.set_cons_zero, List.set_cons_succ, List.set_nil, List.cons_append, List.nil_append, List.append_nil, Option.some.injEq, V.int.injEq, V.ref.injEq, V.str.injEq, V.bl.injEq, HO.lst.injEq, HO.tup.injEq, exists_eq_left', exists_and_left, exists_eq_left, List.cons.injEq, and_true, true_and, and_false, false_and, and_self, reduceCtorEq, exists_false, or_false, false_or, exists_const, at0, at1, at2, at3, at4, at5, ix51, ix52, ix54, upd_same, Nat.reduceAdd, Nat.reduceSub, Nat.zero_add, Int.reduceToNat, Int.reduceLE, Int.reduceLT, decide_eq_true_eq, Bool.not_eq_true, if_true, if_false, Bool.false_eq_true, ite_true, ite_false, Bool.not_true, Bool.not_false, decide_true, decide_false, tFor_eq, tLc_eq, iList, iTup, iRng1, iRng2, iStr, tSl, tPart, tNoPart, rSlL, cxOf_K, wipe, ex_ty2, kit_LTl, kit_LTt, kit_LTd, kit_LTs, kit_LTn, kit_LTb, kit_LTi, tM1, rIxS, exists_eq', lt1p, tDNewK, rSlS, rEqNil, e]
      exact k H (Same.refl H)
    | non =>
      try simp only [tSeq, tNext, tRet, tRetN, tAsg, gName, gSub, tDrop, tIfS, tOp, tUn, tCB, tCons, tNil, tC, tVar, rI, rI0, rU, tAnd, tOr, tNot, tAndV, tOrV, tNotV, tIf, tTest, tB, tCall, tChain, tLst, tTup, tYes, rIxH, rIsB, rIsBT, rMulS, kd_non, kd_bl, kd_int, kd_str, kd_ref, kdO_lst, kdO_tup, kdO_dK, nq_n, nq_b, nq_i, nq_s, nq_l, nq_t, nq_d, ne_eq, not_false_eq_true, kit_ss, kit_ns, kit_bs, kit_is, kit_ls, kit_ts, kit_ds, kit_bb, V.ty.injEq, and_assoc, rIxU, rLenH, rLenU, rLenS, rInt1, rSetL, rEq, rNe, rCat, L2.start, List.map, List.length, List.length_cons, List.length_nil, List.replicate, List.getElem?_cons_zero, List.getElem?_cons_succ, List.set_cons_zero, List.set_cons_succ, List.set_nil, List.cons_append, List.nil_append, List.append_nil, Option.some.injEq, V.int.injEq, V.ref.injEq, V.str.injEq, V.bl.injEq, HO.lst.injEq, HO.tup.injEq, exists_eq_left', exists_and_left, exists_eq_left, List.cons.injEq, and_true, true_and, and_false, false_and, and_self, reduceCtorEq, exists_false, or_false, false_or, exists_const, at0, at1, at2, at3, at4, at5, ix51, ix52, ix54, upd_same, Nat.reduceAdd, Nat.reduceSub, Nat.zero_add, Int.reduceToNat, Int.reduceLE, Int.reduceLT, decide_eq_true_eq, Bool.not_eq_true, if_true, if_false, Bool.false_eq_true, ite_true, ite_false, Bool.not_true, Bool.not_false, decide_true, decide_false, tFor_eq, tLc_eq, iList, iTup, iRng1, iRng2, iStr, tSl, tPart, tNoPart, rSlL, cxOf_K, wipe, ex_ty2, kit_LTl, kit_LTt, kit_LTd, kit_LTs, kit_LTn, kit_LTb, kit_LTi, tM1, rIxS, exists_eq', lt1p, tDNewK, rSlS, rEqNil]
      exact k H (Same.refl H)
    | bl b =>
      try simp only [tSeq, tNext, tRet, tRetN, tAsg, gName, gSub, tDrop, tIfS, tOp, tUn, tCB, tCons, tNil, tC, tVar, rI, rI0, rU, tAnd, tOr, tNot, tAndV, tOrV, tNotV, tIf, tTest, tB, tCall, tChain, tLst, tTup, tYes, rIxH, rIsB, rIsBT, rMulS, kd_non, kd_bl, kd_int, kd_str, kd_ref, kdO_lst, kdO_tup, kdO_dK, nq_n, nq_b, nq_i, nq_s, nq_l, nq_t, nq_d, ne_eq, not_false_eq_true, kit_ss, kit_ns, kit_bs, kit_is, kit_ls, kit_ts, kit_ds, kit_bb, V.ty.injEq, and_assoc, rIxU, rLenH, rLenU, rLenS, rInt1, rSetL, rEq, rNe, rCat, L2.start, List.map, List.length, List.length_cons, List.length_nil, List.replicate, List.getElem?_cons_zero, List.getElem?_cons_succ, List.set_cons_zero, List.set_cons_succ, List.set_nil, List.cons_append, List.nil_append, List.append_nil, Option.some.injEq, V.int.injEq, V.ref.injEq, V.str.injEq, V.bl.injEq, HO.lst.injEq, HO.tup.injEq, exists_eq_left', exists_and_left, exists_eq_left, List.cons.injEq, and_true, true_and, and_false, false_and, and_self, reduceCtorEq, exists_false, or_false, false_or, exists_const, at0, at1, at2, at3, at4, at5, ix51, ix52, ix54, upd_same, Nat.reduceAdd, Nat.reduceSub, Nat.zero_add, Int.reduceToNat, Int.reduceLE, Int.reduceLT, decide_eq_true_eq, Bool.not_eq_true, if_true, if_false, Bool.false_eq_true, ite_true, ite_false, Bool.not_true, Bool.not_false, decide_true, decide_false, tFor_eq, tLc_eq, iList, iTup, iRng1, iRng2, iStr, tSl, tPart, tNoPart, rSlL, cxOf_K, wipe, ex_ty2, kit_LTl, kit_LTt, kit_LTd, kit_LTs, kit_LTn, kit_LTb, kit_LTi, tM1, rIxS, exists_eq', lt1p, tDNewK, rSlS, rEqNil]
      exact k H (Same.refl H)
    | int i =>
      try simp only [tSeq, tNext, tRet, tRetN, tAsg, gName, gSub, tDrop, tIfS, tOp, tUn, tCB, tCons, tNil, tC, tVar, rI, rI0, rU, tAnd, tOr, tNot, tAndV, tOrV, tNotV, tIf, tTest, tB, tCall, tChain, tLst, tTup, tYes, rIxH, rIsB, rIsBT, rMulS, kd_non, kd_bl, kd_int, kd_str, kd_ref, kdO_lst, kdO_tup, kdO_dK, nq_n, nq_b, nq_i, nq_s, nq_l, nq_t, nq_d, ne_eq, not_false_eq_true, kit_ss, kit_ns, kit_bs, kit_is, kit_ls, kit_ts, kit_ds, kit_bb, V.ty.injEq, and_assoc, rIxU, rLenH, rLenU, rLenS, rInt1, rSetL, rEq, rNe, rCat, L2.start, List.map, List.length, List.length_cons, List.length_nil, List.replicate, List.getElem?_cons_zero, List.getElem?_cons_succ, List.set_cons_zero, List.set_cons_succ, List.set_nil, List.cons_append, List.nil_append, List.append_nil, Option.some.injEq, V.int.injEq, V.ref.injEq, V.str.injEq, V.bl.injEq, HO.lst.injEq, HO.tup.injEq, exists_eq_left', exists_and_left, exists_eq_left, List.cons.injEq, and_true, true_and, and_false, false_and, and_self, reduceCtorEq, exists_false, or_false, false_or, exists_const, at0, at1, at2, at3, at4, at5, ix51, ix52, ix54, upd_same, Nat.reduceAdd, Nat.reduceSub, Nat.zero_add, Int.reduceToNat, Int.reduceLE, Int.reduceLT, decide_eq_true_eq, Bool.not_eq_true, if_true, if_false, Bool.false_eq_true, ite_true, ite_false, Bool.not_true, Bool.not_false, decide_true, decide_false, tFor_eq, tLc_eq, iList, iTup, iRng1, iRng2, iStr, tSl, tPart, tNoPart, rSlL, cxOf_K, wipe, ex_ty2, kit_LTl, kit_LTt, kit_LTd, kit_LTs, kit_LTn, kit_LTb, kit_LTi, tM1, rIxS, exists_eq', lt1p, tDNewK, rSlS, rEqNil]
      exact k H (Same.refl H)
def spLawSigns : Sp := fun vs H Q _ => ∃ (p l : Addr) (c m : Nat), vs = [.ref p, .int (m : Int)] ∧ m ≤ 100 ∧ PoolAt p l c H ∧ c ≤ 80000000 ∧ ∀ z H', z.length ≤ m → (∀ c ∈ z.cps.toList, c < 128) → PoolAt p l (c + m) H' → OffS p l H H' → Q (.str z) H'
theorem ok_signs (T : Txt K mg A) (gLawDraw : FnOk P w K mg base CX0 2 A.a_LawDraw A.d_LawDraw ["_law_pool_here", "_law_many"] spLawDraw) : FnOk P w K mg base CX0 3 A.a_LawSigns A.d_LawSigns ["_law_pool_here", "_law_many"] spLawSigns := by
  refine T.f_LawSigns.ok scLawSigns (fun vs H Q E h => ?_) (fun cdv A' outer s H vs Q E hr h => ?_)
  · obtain ⟨p, l, c, m, rfl, _⟩ := h
    rfl
  · obtain ⟨p, l, c, m, rfl, m1, hp, hc, k⟩ := h
    refine ⟨_, (pss_cons (ps_set (i := 2) scLawSigns.nd rfl (Or.inr rfl) pe_str)
      (pss_cons (ps_set (i := 2) scLawSigns.nd rfl (Or.inr rfl) (pe_op op_add_str (pv 2) pe_str))
      (pss_one (ps_ret (pe_join pe_str (pe_lc (own := [("_law_k", 3)]) (g := gName 3) (tt := tYes) (by rfl) scLawSigns.nd (pi_range1 (by rfl) T.z_range (pa_cons (pv 1) pa_nil)) (blkOk_by (own := [("_law_k", 3)]) (N := nLawSigns) (sc := defScope sLawSigns) (by decide +kernel)) (fun _ _ _ _ _ => pg_name (i := 3) scLawSigns.nd rfl (Or.inl rfl)) (fun _ _ _ _ _ => pts_nil) (fun _ _ _ _ _ => (pe_ix ix_str (pv 2) (pe_call gLawDraw (hr.mono (by decide)) (by rfl) T.m_LawDraw T.f_LawDraw.kp T.b_LawDraw .nil pass0 (pa_cons (pv 0) (pa_cons pe_int pa_nil))) (fun _ _ => rfl))))))))), ?_⟩
    try simp only [tSeq, tNext, tRet, tRetN, tAsg, gName, gSub, tDrop, tIfS, tOp, tUn, tCB, tCons, tNil, tC, tVar, rI, rI0, rU, tAnd, tOr, tNot, tAndV, tOrV, tNotV, tIf, tTest, tB, tCall, tChain, tLst, tTup, tYes, rIxH, rIsB, rIsBT, rMulS, kd_non, kd_bl, kd_int, kd_str, kd_ref, kdO_lst, kdO_tup, kdO_dK, nq_n, nq_b, nq_i, nq_s, nq_l, nq_t, nq_d, ne_eq, not_false_eq_true, kit_ss, kit_ns, kit_bs, kit_is, kit_ls, kit_ts, kit_ds, kit_bb, V.ty.injEq, and_assoc, rIxU, rLenH, rLenU, rLenS, rInt1, rSetL, rEq, rNe, rCat, L2.start, List.map, List.length, List.length_cons, List.length_nil, List.replicate, List.getElem?_cons_zero, List.getElem?_cons_succ, List.set_cons_zero, List.set_cons_succ, List.set_nil, List.cons_append, List.nil_append, List.append_nil, Option.some.injEq, V.int.injEq, V.ref.injEq, V.str.injEq, V.bl.injEq, HO.lst.injEq, HO.tup.injEq, exists_eq_left', exists_and_left, exists_eq_left, List.cons.injEq, and_true, true_and, and_false, false_and, and_self, reduceCtorEq, exists_false, or_false, false_or, exists_const, at0, at1, at2, at3, at4, at5, ix51, ix52, ix54, upd_same, Nat.reduceAdd, Nat.reduceSub, Nat.zero_add, Int.reduceToNat, Int.reduceLE, Int.reduceLT, decide_eq_true_eq, Bool.not_eq_true, if_true, if_false, Bool.false_eq_true, ite_true, ite_false, Bool.not_true, Bool.not_false, decide_true, decide_false, tFor_eq, tLc_eq, iList, iTup, iRng1, iRng2, iStr, tSl, tPart, tNoPart, rSlL, cxOf_K, wipe, ex_ty2, kit_LTl, kit_LTt, kit_LTd, kit_LTs, kit_LTn, kit_LTb, kit_LTi, tM1, rIxS, exists_eq', lt1p, tDNewK, rSlS, rEqNil]
    have hm := int62 (m := (m : Int)) (by omega) (by omega)
    refine ⟨by decide +kernel, hm.1, hm.2, fun D hD => ?_⟩
    have em : (m : Int).toNat = m := Int.toNat_natCast m
    have sl : (Str.ofString " !\"#$&'()*+,-./0123456789:;<=>?@" ++ Str.ofString "ABCDEFGHIJKLMNOPQRSTUVWXYZ[\\]^_`abcdefghijklmnopqrstuvwxyz{|}~").cps.toList.length = 94 := by decide +kernel
    have sa : (Str.ofString " !\"#$&'()*+,-./0123456789:;<=>?@" ++ Str.ofString "ABCDEFGHIJKLMNOPQRSTUVWXYZ[\\]^_`abcdefghijklmnopqrstuvwxyz{|}~").cps.toList.all (fun c => decide (c < 128)) = true := by decide +kernel
    generalize (Str.ofString " !\"#$&'()*+,-./0123456789:;<=>?@" ++ Str.ofString "ABCDEFGHIJKLMNOPQRSTUVWXYZ[\\]^_`abcdefghijklmnopqrstuvwxyz{|}~") = S at sl sa ⊢
    rw [em]
    refine lc_pool (walk_rangeY (lo := 0) (n := m)) (k := 1) (fun v _ => ∃ y : Str, v = .str y ∧ y.length = 1 ∧ ∀ c ∈ y.cps.toList, c < 128) (fun _ _ _ _ h => h) (wd0 hp) hD (fun _ _ => trivial) (by rw [rngV_len]; omega) (fun x hx G2 H2 c2 gw hw hc2 R R0 h1 => ?_) (fun acc G' H' ha hP gw hw hD' => ?_)
    · rw [rngV_len] at hc2
      try simp only [tSeq, tNext, tRet, tRetN, tAsg, gName, gSub, tDrop, tIfS, tOp, tUn, tCB, tCons, tNil, tC, tVar, rI, rI0, rU, tAnd, tOr, tNot, tAndV, tOrV, tNotV, tIf, tTest, tB, tCall, tChain, tLst, tTup, tYes, rIxH, rIsB, rIsBT, rMulS, kd_non, kd_bl, kd_int, kd_str, kd_ref, kdO_lst, kdO_tup, kdO_dK, nq_n, nq_b, nq_i, nq_s, nq_l, nq_t, nq_d, ne_eq, not_false_eq_true, kit_ss, kit_ns, kit_bs, kit_is, kit_ls, kit_ts, kit_ds, kit_bb, V.ty.injEq, and_assoc, rIxU, rLenH, rLenU, rLenS, rInt1, rSetL, rEq, rNe, rCat, L2.start, List.map, List.length, List.length_cons, List.length_nil, List.replicate, List.getElem?_cons_zero, List.getElem?_cons_succ, List.set_cons_zero, List.set_cons_succ, List.set_nil, List.cons_append, List.nil_append, List.append_nil, Option.some.injEq, V.int.injEq, V.ref.injEq, V.str.injEq, V.bl.injEq, HO.lst.injEq, HO.tup.injEq, exists_eq_left', exists_and_left, exists_eq_left, List.cons.injEq, and_true, true_and, and_false, false_and, and_self, reduceCtorEq, exists_false, or_false, false_or, exists_const, at0, at1, at2, at3, at4, at5, ix51, ix52, ix54, upd_same, Nat.reduceAdd, Nat.reduceSub, Nat.zero_add, Int.reduceToNat, Int.reduceLE, Int.reduceLT, decide_eq_true_eq, Bool.not_eq_true, if_true, if_false, Bool.false_eq_true, ite_true, ite_false, Bool.not_true, Bool.not_false, decide_true, decide_false, tFor_eq, tLc_eq, iList, iTup, iRng1, iRng2, iStr, tSl, tPart, tNoPart, rSlL, cxOf_K, wipe, ex_ty2, kit_LTl, kit_LTt, kit_LTd, kit_LTs, kit_LTn, kit_LTb, kit_LTi, tM1, rIxS, exists_eq', lt1p, tDNewK, rSlS, rEqNil]
      refine ⟨p, l, 94, c2, rfl, by decide, by decide, hw.pool, by omega, fun v H3 v0 v1 hp3 off => ?_⟩
      try simp only [tSeq, tNext, tRet, tRetN, tAsg, gName, gSub, tDrop, tIfS, tOp, tUn, tCB, tCons, tNil, tC, tVar, rI, rI0, rU, tAnd, tOr, tNot, tAndV, tOrV, tNotV, tIf, tTest, tB, tCall, tChain, tLst, tTup, tYes, rIxH, rIsB, rIsBT, rMulS, kd_non, kd_bl, kd_int, kd_str, kd_ref, kdO_lst, kdO_tup, kdO_dK, nq_n, nq_b, nq_i, nq_s, nq_l, nq_t, nq_d, ne_eq, not_false_eq_true, kit_ss, kit_ns, kit_bs, kit_is, kit_ls, kit_ts, kit_ds, kit_bb, V.ty.injEq, and_assoc, rIxU, rLenH, rLenU, rLenS, rInt1, rSetL, rEq, rNe, rCat, L2.start, List.map, List.length, List.length_cons, List.length_nil, List.replicate, List.getElem?_cons_zero, List.getElem?_cons_succ, List.set_cons_zero, List.set_cons_succ, List.set_nil, List.cons_append, List.nil_append, List.append_nil, Option.some.injEq, V.int.injEq, V.ref.injEq, V.str.injEq, V.bl.injEq, HO.lst.injEq, HO.tup.injEq, exists_eq_left', exists_and_left, exists_eq_left, List.cons.injEq, and_true, true_and, and_false, false_and, and_self, reduceCtorEq, exists_false, or_false, false_or, exists_const, at0, at1, at2, at3, at4, at5, ix51, ix52, ix54, upd_same, Nat.reduceAdd, Nat.reduceSub, Nat.zero_add, Int.reduceToNat, Int.reduceLE, Int.reduceLT, decide_eq_true_eq, Bool.not_eq_true, if_true, if_false, Bool.false_eq_true, ite_true, ite_false, Bool.not_true, Bool.not_false, decide_true, decide_false, tFor_eq, tLc_eq, iList, iTup, iRng1, iRng2, iStr, tSl, tPart, tNoPart, rSlL, cxOf_K, wipe, ex_ty2, kit_LTl, kit_LTt, kit_LTd, kit_LTs, kit_LTn, kit_LTb, kit_LTi, tM1, rIxS, exists_eq', lt1p, tDNewK, rSlS, rEqNil]
      obtain ⟨d, hd, hm, _⟩ := atI_ex (xs := S.cps.toList) v0 (by rw [sl]; exact v1)
      refine ⟨size1000 (by have e : S.length = S.cps.toList.length := by rw [Array.length_toList]; rfl
                           omega), d, hd, h1 _ G2 H3 ⟨_, rfl, rfl, fun e he => ?_⟩ (hw.turn hp3 (Off.s off)) (Gw.of (Off.s off))⟩
      have he2 : e = d := by simpa using he
      subst he2
      exact of_decide_eq_true (List.all_eq_true.mp sa e hm)
    · rw [rngV_len] at ha hw
      obtain ⟨ys, rfl⟩ := strs_of (xs := acc) fun v hv => ⟨_, (hP v hv).choose_spec.1⟩
      have hy : ∀ y ∈ ys, y.length = 1 ∧ ∀ c ∈ y.cps.toList, c < 128 := fun y hy => by
        obtain ⟨y', e, h⟩ := hP (.str y) (List.mem_map_of_mem hy)
        injection e with e
        subst e
        exact h
      rw [List.length_map] at ha
      have hj := join_sm (fun y h => (hy y h).1) (fun y h => (hy y h).2)
      refine ⟨D, rfl, ys, .inl (SqL.of (hw.kn _ _ hD')), ?_, ?_⟩
      · have e2 : ys.map (fun x => x.length) = ys.map (fun _ => 1) := List.map_congr_left fun y h => (hy y h).1
        rw [e2, List.map_const', List.sum_replicate_nat]
        show ys.length * 1 + ys.length * 0 ≤ _
        omega
      · rw [empS]
        exact k _ _ (by omega) hj.2 (by rw [Nat.one_mul] at hw; exact hw.pool) gw.off
end


theorem sm_lit {z : Str} (h : (decide (z.length ≤ 1000) && z.cps.toList.all fun c => decide (c < 128)) = true) : Sm z := by
  rw [Bool.and_eq_true] at h
  exact ⟨of_decide_eq_true h.1, fun c hc => of_decide_eq_true (List.all_eq_true.mp h.2 c hc)⟩
theorem sm4 : ∀ z ∈ [Str.ofString "", Str.ofString " ", Txt.mul (Str.ofString "~") 40, Txt.mul (Str.ofString "~") 41], Sm z := by
  intro z hz
  simp only [List.mem_cons, List.not_mem_nil, or_false] at hz
  rcases hz with rfl | rfl | rfl | rfl
  · exact sm_lit (by decide +kernel)
  · exact sm_lit (by decide +kernel)
  · exact sm_lit (by decide +kernel)
  · exact sm_lit (by decide +kernel)
/-- the first loop -/
def L1 (a p l : Addr) (i : Nat) (σ : St) (H : Hp) : Prop := ∃ (b : Addr) (zs : List Str) (G : Hp) (c : Nat) (v3 v4 v5 : Option V), σ = [some (.ref a), some (.ref p), some (.ref b), v3, v4, v5, none, none, none, none, none, none, none, none] ∧ Wd p l c G H ∧ c ≤ 50 * i ∧ G b = some (.lst (zs.map V.str)) ∧ zs.length = 4 + 2 * i ∧ (∀ z ∈ zs, Sm z) ∧ Str.empty ∈ zs
def L2' (a p l b o : Addr) (G : Hp) (i : Nat) (σ : St) (H : Hp) : Prop := ∃ (v3 v4 v5 v7 : Option V), σ = [some (.ref a), some (.ref p), some (.ref b), v3, v4, v5, some (.ref o), v7, none, none, none, none, none, none] ∧ Wd p l 500 G H ∧ i ≤ i
def L3 (a p l b o g : Addr) (G : Hp) (i : Nat) (σ : St) (H : Hp) : Prop := ∃ (v3 v4 v5 v7 v9 v10 v11 v12 v13 : Option V) (c : Nat), σ = [some (.ref a), some (.ref p), some (.ref b), v3, v4, v5, some (.ref o), v7, some (.ref g), v9, v10, v11, v12, v13] ∧ Wd p l c G H ∧ c ≤ 500 + 100 * i
def L4 (a p l b o g d t : Addr) (m : Nat) (G : Hp) (c : Nat) (i : Nat) (σ : St) (H : Hp) : Prop := ∃ (v3 v4 v5 v7 v12 v13 : Option V), σ = [some (.ref a), some (.ref p), some (.ref b), v3, v4, v5, some (.ref o), v7, some (.ref g), some (.int m), some (.ref d), some (.ref t), v12, v13] ∧ Wd p l c G H
section
variable {P : Program} {w : World} {K : PySem.W.Frag} {mg : Str → Option Value} {base : Heap} {A : Adr}
def spLaw (K : PySem.W.Frag) : Sp := fun vs H Q _ => ∃ (a : Addr) (ns : List Int), vs = [.ref a] ∧ SqL K H a (ns.map V.int) ∧ ns.length ≤ 63 ∧ ∀ H', Q (.bl true) H'
theorem ok_law_of (T : Txt K mg A) (gLawPool : FnOk P w K mg base CX0 1 A.a_LawPool A.d_LawPool ["_law_script"] (spLawPool K)) (gLawDraw : FnOk P w K mg base CX0 2 A.a_LawDraw A.d_LawDraw ["_law_pool_here", "_law_many"] spLawDraw)
    (gLawSigns : FnOk P w K mg base CX0 3 A.a_LawSigns A.d_LawSigns ["_law_pool_here", "_law_many"] spLawSigns) (gLawTruth : FnOk P w K mg base CX0 1 A.a_LawTruth A.d_LawTruth ["_law_found", "_law_due"] spLawTruth)
    (gLawIsLine : FnOk P w K mg base CX0 1 A.a_LawIsLine A.d_LawIsLine ["_law_thing"] spLawIsLine) (gIsLine : FnOk P w K mg base CX0 2 A.a_IsLine A.d_IsLine ["value"] spIsLine) (gIsText : FnOk P w K mg base CX0 3 A.a_IsText A.d_IsText ["value"] spIsText) :
    FnOk P w K mg base CX0 4 A.a_Law A.d_Law ["_law_script"] (spLaw K) := by
  refine T.f_Law.ok scLaw (fun vs H Q E h => ?_) (fun cdv A' outer s H vs Q E hr h => ?_)
  · obtain ⟨a, ns, rfl, _⟩ := h
    rfl
  · obtain ⟨a, ns, rfl, hS, hlen, k⟩ := h
    refine ⟨_, (pss_cons (ps_set (i := 1) scLaw.nd rfl (Or.inr rfl) (pe_call gLawPool (hr.mono (by decide)) (by rfl) T.m_LawPool T.f_LawPool.kp T.b_LawPool .nil pass0 (pa_cons (pv 0) pa_nil)))
      (pss_cons (ps_set (i := 2) scLaw.nd rfl (Or.inl rfl) (pe_lst (pa_cons pe_str (pa_cons pe_str (pa_cons (pe_op op_mul_str pe_str pe_int) (pa_cons (pe_op op_mul_str pe_str pe_int) pa_nil))))))
      (pss_cons (ps_for PassesOwn.never rfl (pi_range1 (by rfl) T.z_range (pa_cons pe_int pa_nil)) (pg_name (i := 3) scLaw.nd rfl (Or.inl rfl)) (pss_cons (ps_set (i := 4) scLaw.nd rfl (Or.inl rfl) (pe_call gLawSigns (hr.mono (by decide)) (by rfl) T.m_LawSigns T.f_LawSigns.kp T.b_LawSigns .nil pass0 (pa_cons (pv 1) (pa_cons (pe_ix ix_lstH (pe_lst (pa_cons pe_int (pa_cons pe_int (pa_cons pe_int (pa_cons pe_int (pa_cons pe_int (pa_cons pe_int (pa_cons pe_int (pa_cons pe_int pa_nil))))))))) (pv 3) (fun _ _ => rfl)) pa_nil))))
      (pss_cons (ps_set (i := 5) scLaw.nd rfl (Or.inl rfl) (pe_call gLawDraw (hr.mono (by decide)) (by rfl) T.m_LawDraw T.f_LawDraw.kp T.b_LawDraw .nil pass0 (pa_cons (pv 1) (pa_cons (pe_op op_add (pe_callB call_lenS (by rfl) T.z_len (by decide +kernel) (pa_cons (pv 4) pa_nil)) pe_int) pa_nil))))
      (pss_one (ps_set (i := 2) scLaw.nd rfl (Or.inl rfl) (pe_op op_cat (pv 2) (pe_lst (pa_cons (pv 4) (pa_cons (pe_op op_add_str (pe_op op_add_str (pe_slice sl_str (pv 4) po_none (po_some (pv 5))) (pe_ix ix_lstH (pe_lst (pa_cons pe_str (pa_cons pe_str pa_nil))) (pe_call gLawDraw (hr.mono (by decide)) (by rfl) T.m_LawDraw T.f_LawDraw.kp T.b_LawDraw .nil pass0 (pa_cons (pv 1) (pa_cons pe_int pa_nil))) (fun _ _ => rfl))) (pe_slice sl_str (pv 4) (po_some (pv 5)) po_none)) pa_nil)))))))))
      (pss_cons (ps_if (pt_cmpR (op_neD hr.units) (pe_lc (own := [("_law_line", 4)]) (g := gName 4)  (by rfl) scLaw.nd (pi_list (pv 2)) (blkOk_by (own := [("_law_line", 4)]) (N := nLaw) (sc := defScope sLaw) (by decide +kernel)) (fun _ _ _ _ _ => pg_name (i := 4) scLaw.nd rfl (Or.inl rfl)) (fun _ _ _ _ _ => (pts_one (pt_not (pt_val (pe_call gLawTruth (hr.mono (by decide)) (by rfl) T.m_LawTruth T.f_LawTruth.kp T.b_LawTruth .nil pass0 (pa_cons (pe_call gIsLine (hr.mono (by decide)) (by rfl) T.m_IsLine T.f_IsLine.kp T.b_IsLine .nil pass0 (pa_cons (pv 4) pa_nil)) (pa_cons (pe_call gLawIsLine (hr.mono (by decide)) (by rfl) T.m_LawIsLine T.f_LawIsLine.kp T.b_LawIsLine .nil pass0 (pa_cons (pv 4) pa_nil)) pa_nil))))))) (fun _ _ _ _ _ => (pv 4))) (pe_lst pa_nil) (nomark _)) (pss_one (ps_ret pe_bl)) pss_nil)
      (pss_cons (ps_set (i := 6) scLaw.nd rfl (Or.inl rfl) (pe_lst (pa_cons pe_non (pa_cons pe_int (pa_cons pe_bl (pa_cons (pe_lst (pa_cons pe_str pa_nil)) (pa_cons (pe_tup (pa_cons pe_str pa_nil)) (pa_cons pe_dnewK (pa_cons pe_str (pa_cons (pe_ix ix_lstH (pv 2) (pe_call gLawDraw (hr.mono (by decide)) (by rfl) T.m_LawDraw T.f_LawDraw.kp T.b_LawDraw .nil pass0 (pa_cons (pv 1) (pa_cons (pe_callB call_lenH (by rfl) T.z_len (by decide +kernel) (pa_cons (pv 2) pa_nil)) pa_nil))) (fun _ _ => rfl)) pa_nil))))))))))
      (pss_cons (ps_for PassesOwn.never rfl (pi_list (pv 6)) (pg_name (i := 7) scLaw.nd rfl (Or.inl rfl)) (pss_one (ps_if (pt_not (pt_val (pe_call gLawTruth (hr.mono (by decide)) (by rfl) T.m_LawTruth T.f_LawTruth.kp T.b_LawTruth .nil pass0 (pa_cons (pe_call gIsLine (hr.mono (by decide)) (by rfl) T.m_IsLine T.f_IsLine.kp T.b_IsLine .nil pass0 (pa_cons (pv 7) pa_nil)) (pa_cons (pe_call gLawIsLine (hr.mono (by decide)) (by rfl) T.m_LawIsLine T.f_LawIsLine.kp T.b_LawIsLine .nil pass0 (pa_cons (pv 7) pa_nil)) pa_nil))))) (pss_one (ps_ret pe_bl)) pss_nil)))
      (pss_cons (ps_set (i := 8) scLaw.nd rfl (Or.inr rfl) (pe_lc (own := [("_law_line", 4)]) (g := gName 4)  (by rfl) scLaw.nd (pi_list (pv 2)) (blkOk_by (own := [("_law_line", 4)]) (N := nLaw) (sc := defScope sLaw) (by decide +kernel)) (fun _ _ _ _ _ => pg_name (i := 4) scLaw.nd rfl (Or.inl rfl)) (fun _ _ _ _ _ => (pts_one (pt_val (pe_call gLawIsLine (hr.mono (by decide)) (by rfl) T.m_LawIsLine T.f_LawIsLine.kp T.b_LawIsLine .nil pass0 (pa_cons (pv 4) pa_nil))))) (fun _ _ _ _ _ => (pv 4))))
      (pss_cons (ps_for PassesOwn.never rfl (pi_list (pe_lst (pa_cons pe_int (pa_cons pe_int (pa_cons pe_int (pa_cons pe_int (pa_cons pe_int (pa_cons pe_int (pa_cons pe_int pa_nil))))))))) (pg_name (i := 9) scLaw.nd rfl (Or.inl rfl)) (pss_cons (ps_setLc (i := 10) (own := [("_law_k", 3)]) (g := gName 3) (tt := tYes) (by rfl) scLaw.nd rfl rfl (sw_true rfl rfl rfl (by decide +kernel)) (pi_range1 (by rfl) T.z_range (pa_cons (pv 9) pa_nil)) (blkOk_by (own := [("_law_k", 3)]) (N := nLaw) (sc := defScope sLaw) (by decide +kernel)) (fun _ _ _ _ _ => pg_name (i := 3) scLaw.nd rfl (Or.inl rfl)) (fun _ _ _ _ _ => pts_nil) (fun _ _ _ _ _ => (pe_ix ix_lstH (pv 8) (pe_call gLawDraw (hr.mono (by decide)) (by rfl) T.m_LawDraw T.f_LawDraw.kp T.b_LawDraw .nil pass0 (pa_cons (pv 1) (pa_cons (pe_callB call_lenH (by rfl) T.z_len (by decide +kernel) (pa_cons (pv 8) pa_nil)) pa_nil))) (fun _ _ => rfl))))
      (pss_cons (ps_set (i := 5) scLaw.nd rfl (Or.inl rfl) (pe_call gLawDraw (hr.mono (by decide)) (by rfl) T.m_LawDraw T.f_LawDraw.kp T.b_LawDraw .nil pass0 (pa_cons (pv 1) (pa_cons (pe_op op_add (pv 9) pe_int) pa_nil))))
      (pss_cons (ps_set (i := 11) scLaw.nd rfl (Or.inl rfl) (pe_op op_cat (pe_op op_cat (pe_slice sl_list (pv 10) po_none (po_some (pv 5))) (pe_lst (pa_cons (pe_ix ix_lstH (pv 6) (pe_call gLawDraw (hr.mono (by decide)) (by rfl) T.m_LawDraw T.f_LawDraw.kp T.b_LawDraw .nil pass0 (pa_cons (pv 1) (pa_cons (pe_callB call_lenH (by rfl) T.z_len (by decide +kernel) (pa_cons (pv 6) pa_nil)) pa_nil))) (fun _ _ => rfl)) pa_nil))) (pe_slice sl_list (pv 10) (po_some (pe_op op_add (pv 5) pe_int)) po_none)))
      (pss_cons (ps_for PassesOwn.never rfl (pi_list (pe_lst (pa_cons (pv 10) (pa_cons (pe_callTy call_tuple_of (by rfl) T.z_tuple (by decide +kernel) (pa_cons (pv 10) pa_nil)) pa_nil)))) (pg_name (i := 12) scLaw.nd rfl (Or.inl rfl)) (pss_one (ps_if (pt_not (pt_val (pe_call gLawTruth (hr.mono (by decide)) (by rfl) T.m_LawTruth T.f_LawTruth.kp T.b_LawTruth .nil pass0 (pa_cons (pe_call gIsText (hr.mono (by decide)) (by rfl) T.m_IsText T.f_IsText.kp T.b_IsText .nil pass0 (pa_cons (pv 12) pa_nil)) (pa_cons (pe_cmpR (op_le) (pv 9) pe_int (nomark _)) pa_nil))))) (pss_one (ps_ret pe_bl)) pss_nil)))
      (pss_cons (ps_set (i := 13) scLaw.nd rfl (Or.inl rfl) (pe_and (pe_cmpR (op_le) (pe_callB call_lenH (by rfl) T.z_len (by decide +kernel) (pa_cons (pv 11) pa_nil)) pe_int (nomark _)) (pe_one (pe_cmpR (op_eqNil hr.units) (pe_lc (own := [("_law_line", 4)]) (g := gName 4)  (by rfl) scLaw.nd (pi_list (pv 11)) (blkOk_by (own := [("_law_line", 4)]) (N := nLaw) (sc := defScope sLaw) (by decide +kernel)) (fun _ _ _ _ _ => pg_name (i := 4) scLaw.nd rfl (Or.inl rfl)) (fun _ _ _ _ _ => (pts_one (pt_not (pt_val (pe_call gLawIsLine (hr.mono (by decide)) (by rfl) T.m_LawIsLine T.f_LawIsLine.kp T.b_LawIsLine .nil pass0 (pa_cons (pv 4) pa_nil)))))) (fun _ _ _ _ _ => (pv 4))) (pe_lst pa_nil) (nomark _)))))
      (pss_one (ps_if (pt_not (pt_val (pe_call gLawTruth (hr.mono (by decide)) (by rfl) T.m_LawTruth T.f_LawTruth.kp T.b_LawTruth .nil pass0 (pa_cons (pe_call gIsText (hr.mono (by decide)) (by rfl) T.m_IsText T.f_IsText.kp T.b_IsText .nil pass0 (pa_cons (pv 11) pa_nil)) (pa_cons (pv 13) pa_nil))))) (pss_one (ps_ret pe_bl)) pss_nil))))))))
      (pss_one (ps_ret (pe_cmpR (op_eqNil hr.units) (pe_lc (own := [("_law_thing", 7)]) (g := gName 7)  (by rfl) scLaw.nd (pi_list (pe_lst (pa_cons pe_non (pa_cons pe_str (pa_cons pe_int (pa_cons pe_dnewK (pa_cons pe_bl pa_nil))))))) (blkOk_by (own := [("_law_thing", 7)]) (N := nLaw) (sc := defScope sLaw) (by decide +kernel)) (fun _ _ _ _ _ => pg_name (i := 7) scLaw.nd rfl (Or.inl rfl)) (fun _ _ _ _ _ => (pts_one (pt_cmpR (op_isnot_bl) (pe_call gIsText (hr.mono (by decide)) (by rfl) T.m_IsText T.f_IsText.kp T.b_IsText .nil pass0 (pa_cons (pv 7) pa_nil)) pe_bl (nomark _)))) (fun _ _ _ _ _ => (pv 7))) (pe_lst pa_nil) (nomark _)))))))))))), ?_⟩
    try simp only [tSeq, tNext, tRet, tRetN, tAsg, gName, gSub, tDrop, tIfS, tOp, tUn, tCB, tCons, tNil, tC, tVar, rI, rI0, rU, tAnd, tOr, tNot, tAndV, tOrV, tNotV, tIf, tTest, tB, tCall, tChain, tLst, tTup, tYes, rIxH, rIsB, rIsBT, rMulS, kd_non, kd_bl, kd_int, kd_str, kd_ref, kdO_lst, kdO_tup, kdO_dK, nq_n, nq_b, nq_i, nq_s, nq_l, nq_t, nq_d, ne_eq, not_false_eq_true, kit_ss, kit_ns, kit_bs, kit_is, kit_ls, kit_ts, kit_ds, kit_bb, V.ty.injEq, and_assoc, rIxU, rLenH, rLenU, rLenS, rInt1, rSetL, rEq, rNe, rCat, L2.start, List.map, List.length, List.length_cons, List.length_nil, List.replicate, List.getElem?_cons_zero, List.getElem?_cons_succ, List.set_cons_zero, List.set_cons_succ, List.set_nil, List.cons_append, List.nil_append, List.append_nil, Option.some.injEq, V.int.injEq, V.ref.injEq, V.str.injEq, V.bl.injEq, HO.lst.injEq, HO.tup.injEq, exists_eq_left', exists_and_left, exists_eq_left, List.cons.injEq, and_true, true_and, and_false, false_and, and_self, reduceCtorEq, exists_false, or_false, false_or, exists_const, at0, at1, at2, at3, at4, at5, ix51, ix52, ix54, upd_same, Nat.reduceAdd, Nat.reduceSub, Nat.zero_add, Int.reduceToNat, Int.reduceLE, Int.reduceLT, decide_eq_true_eq, Bool.not_eq_true, if_true, if_false, Bool.false_eq_true, ite_true, ite_false, Bool.not_true, Bool.not_false, decide_true, decide_false, tFor_eq, tLc_eq, iList, iTup, iRng1, iRng2, iStr, tSl, tPart, tNoPart, rSlL, cxOf_K, wipe, ex_ty2, kit_LTl, kit_LTt, kit_LTd, kit_LTs, kit_LTn, kit_LTb, kit_LTi, tM1, rIxS, exists_eq', lt1p, tDNewK, rSlS, rEqNil]
    refine ⟨a, ns, rfl, hS, hlen, fun p l H1 hp np nl s1 => ?_⟩
    try simp only [tSeq, tNext, tRet, tRetN, tAsg, gName, gSub, tDrop, tIfS, tOp, tUn, tCB, tCons, tNil, tC, tVar, rI, rI0, rU, tAnd, tOr, tNot, tAndV, tOrV, tNotV, tIf, tTest, tB, tCall, tChain, tLst, tTup, tYes, rIxH, rIsB, rIsBT, rMulS, kd_non, kd_bl, kd_int, kd_str, kd_ref, kdO_lst, kdO_tup, kdO_dK, nq_n, nq_b, nq_i, nq_s, nq_l, nq_t, nq_d, ne_eq, not_false_eq_true, kit_ss, kit_ns, kit_bs, kit_is, kit_ls, kit_ts, kit_ds, kit_bb, V.ty.injEq, and_assoc, rIxU, rLenH, rLenU, rLenS, rInt1, rSetL, rEq, rNe, rCat, L2.start, List.map, List.length, List.length_cons, List.length_nil, List.replicate, List.getElem?_cons_zero, List.getElem?_cons_succ, List.set_cons_zero, List.set_cons_succ, List.set_nil, List.cons_append, List.nil_append, List.append_nil, Option.some.injEq, V.int.injEq, V.ref.injEq, V.str.injEq, V.bl.injEq, HO.lst.injEq, HO.tup.injEq, exists_eq_left', exists_and_left, exists_eq_left, List.cons.injEq, and_true, true_and, and_false, false_and, and_self, reduceCtorEq, exists_false, or_false, false_or, exists_const, at0, at1, at2, at3, at4, at5, ix51, ix52, ix54, upd_same, Nat.reduceAdd, Nat.reduceSub, Nat.zero_add, Int.reduceToNat, Int.reduceLE, Int.reduceLT, decide_eq_true_eq, Bool.not_eq_true, if_true, if_false, Bool.false_eq_true, ite_true, ite_false, Bool.not_true, Bool.not_false, decide_true, decide_false, tFor_eq, tLc_eq, iList, iTup, iRng1, iRng2, iStr, tSl, tPart, tNoPart, rSlL, cxOf_K, wipe, ex_ty2, kit_LTl, kit_LTt, kit_LTd, kit_LTs, kit_LTn, kit_LTb, kit_LTi, tM1, rIxS, exists_eq', lt1p, tDNewK, rSlS, rEqNil]
    refine ⟨PyProof.Rows.mulOk_of 16 1048576 (by decide +kernel) (by decide) (by decide) (by decide) (by decide), PyProof.Rows.mulOk_of 16 1048576 (by decide +kernel) (by decide) (by decide) (by decide) (by decide), by decide, ?_⟩
    intro b nb
    refine ⟨by decide, by decide, ?_⟩
    have w0 : Wd p l 0 (upd (fun _ => none) b (.lst [V.str (Str.ofString ""), V.str (Str.ofString " "), V.str (Txt.mul (Str.ofString "~") 40), V.str (Txt.mul (Str.ofString "~") 41)])) (upd H1 b (.lst [V.str (Str.ofString ""), V.str (Str.ofString " "), V.str (Txt.mul (Str.ofString "~") 40), V.str (Txt.mul (Str.ofString "~") 41)])) := (wd0 hp).new nb
    refine for_go (walk_rangeY (lo := 0) (n := 8)) (L1 a p l)
      ⟨b, [Str.ofString "", Str.ofString " ", Txt.mul (Str.ofString "~") 40, Txt.mul (Str.ofString "~") 41], _, 0, _, _, _, rfl, w0, by omega, upd_same, rfl, sm4, by rw [empS]; exact List.mem_cons_self⟩ (fun _ _ _ _ _ => trivial) (fun i x σ H2 hx q => ?_) (fun σ H2 q => ?_)
    · obtain ⟨b, zs, G, c, v3, v4, v5, rfl, w2, hc, gb, zl, zsm, zem⟩ := q
      obtain ⟨rfl, hi⟩ := rng_item hx
      try simp only [tSeq, tNext, tRet, tRetN, tAsg, gName, gSub, tDrop, tIfS, tOp, tUn, tCB, tCons, tNil, tC, tVar, rI, rI0, rU, tAnd, tOr, tNot, tAndV, tOrV, tNotV, tIf, tTest, tB, tCall, tChain, tLst, tTup, tYes, rIxH, rIsB, rIsBT, rMulS, kd_non, kd_bl, kd_int, kd_str, kd_ref, kdO_lst, kdO_tup, kdO_dK, nq_n, nq_b, nq_i, nq_s, nq_l, nq_t, nq_d, ne_eq, not_false_eq_true, kit_ss, kit_ns, kit_bs, kit_is, kit_ls, kit_ts, kit_ds, kit_bb, V.ty.injEq, and_assoc, rIxU, rLenH, rLenU, rLenS, rInt1, rSetL, rEq, rNe, rCat, L2.start, List.map, List.length, List.length_cons, List.length_nil, List.replicate, List.getElem?_cons_zero, List.getElem?_cons_succ, List.set_cons_zero, List.set_cons_succ, List.set_nil, List.cons_append, List.nil_append, List.append_nil, Option.some.injEq, V.int.injEq, V.ref.injEq, V.str.injEq, V.bl.injEq, HO.lst.injEq, HO.tup.injEq, exists_eq_left', exists_and_left, exists_eq_left, List.cons.injEq, and_true, true_and, and_false, false_and, and_self, reduceCtorEq, exists_false, or_false, false_or, exists_const, at0, at1, at2, at3, at4, at5, ix51, ix52, ix54, upd_same, Nat.reduceAdd, Nat.reduceSub, Nat.zero_add, Int.reduceToNat, Int.reduceLE, Int.reduceLT, decide_eq_true_eq, Bool.not_eq_true, if_true, if_false, Bool.false_eq_true, ite_true, ite_false, Bool.not_true, Bool.not_false, decide_true, decide_false, tFor_eq, tLc_eq, iList, iTup, iRng1, iRng2, iStr, tSl, tPart, tNoPart, rSlL, cxOf_K, wipe, ex_ty2, kit_LTl, kit_LTt, kit_LTd, kit_LTs, kit_LTn, kit_LTb, kit_LTi, tM1, rIxS, exists_eq', lt1p, tDNewK, rSlS, rEqNil]
      refine ⟨by decide, ?_⟩
      intro q1 n_q1; generalize g_H3 : upd H2 q1 _ = H3; obtain ⟨s_H3, h_q1⟩ := new_facts n_q1 g_H3; clear g_H3
      have w3 := w2.same s_H3
      obtain ⟨v, hv, hm, _⟩ := atI_ex (xs := [V.int 0, V.int 1, V.int 5, V.int 39, V.int 40, V.int 41, V.int 42, V.int 20]) (i := 0 + (i : Int)) (by omega) (by show _ < (8 : Int); omega)
      obtain ⟨m, rfl, hm⟩ : ∃ m : Nat, v = .int (m : Int) ∧ m ≤ 42 := by
        simp only [List.mem_cons, List.not_mem_nil, or_false] at hm
        rcases hm with rfl | rfl | rfl | rfl | rfl | rfl | rfl | rfl
        · exact ⟨0, rfl, by decide⟩
        · exact ⟨1, rfl, by decide⟩
        · exact ⟨5, rfl, by decide⟩
        · exact ⟨39, rfl, by decide⟩
        · exact ⟨40, rfl, by decide⟩
        · exact ⟨41, rfl, by decide⟩
        · exact ⟨42, rfl, by decide⟩
        · exact ⟨20, rfl, by decide⟩
      try simp only [tSeq, tNext, tRet, tRetN, tAsg, gName, gSub, tDrop, tIfS, tOp, tUn, tCB, tCons, tNil, tC, tVar, rI, rI0, rU, tAnd, tOr, tNot, tAndV, tOrV, tNotV, tIf, tTest, tB, tCall, tChain, tLst, tTup, tYes, rIxH, rIsB, rIsBT, rMulS, kd_non, kd_bl, kd_int, kd_str, kd_ref, kdO_lst, kdO_tup, kdO_dK, nq_n, nq_b, nq_i, nq_s, nq_l, nq_t, nq_d, ne_eq, not_false_eq_true, kit_ss, kit_ns, kit_bs, kit_is, kit_ls, kit_ts, kit_ds, kit_bb, V.ty.injEq, and_assoc, rIxU, rLenH, rLenU, rLenS, rInt1, rSetL, rEq, rNe, rCat, L2.start, List.map, List.length, List.length_cons, List.length_nil, List.replicate, List.getElem?_cons_zero, List.getElem?_cons_succ, List.set_cons_zero, List.set_cons_succ, List.set_nil, List.cons_append, List.nil_append, List.append_nil, Option.some.injEq, V.int.injEq, V.ref.injEq, V.str.injEq, V.bl.injEq, HO.lst.injEq, HO.tup.injEq, exists_eq_left', exists_and_left, exists_eq_left, List.cons.injEq, and_true, true_and, and_false, false_and, and_self, reduceCtorEq, exists_false, or_false, false_or, exists_const, at0, at1, at2, at3, at4, at5, ix51, ix52, ix54, upd_same, Nat.reduceAdd, Nat.reduceSub, Nat.zero_add, Int.reduceToNat, Int.reduceLE, Int.reduceLT, decide_eq_true_eq, Bool.not_eq_true, if_true, if_false, Bool.false_eq_true, ite_true, ite_false, Bool.not_true, Bool.not_false, decide_true, decide_false, tFor_eq, tLc_eq, iList, iTup, iRng1, iRng2, iStr, tSl, tPart, tNoPart, rSlL, cxOf_K, wipe, ex_ty2, kit_LTl, kit_LTt, kit_LTd, kit_LTs, kit_LTn, kit_LTb, kit_LTi, tM1, rIxS, exists_eq', lt1p, tDNewK, rSlS, rEqNil, h_q1, hv]
      refine ⟨p, l, c, m, rfl, by omega, w3.pool, by omega, fun z H4 hz1 hz2 hp4 off4 => ?_⟩
      have w4 := w3.turn hp4 off4
      try simp only [tSeq, tNext, tRet, tRetN, tAsg, gName, gSub, tDrop, tIfS, tOp, tUn, tCB, tCons, tNil, tC, tVar, rI, rI0, rU, tAnd, tOr, tNot, tAndV, tOrV, tNotV, tIf, tTest, tB, tCall, tChain, tLst, tTup, tYes, rIxH, rIsB, rIsBT, rMulS, kd_non, kd_bl, kd_int, kd_str, kd_ref, kdO_lst, kdO_tup, kdO_dK, nq_n, nq_b, nq_i, nq_s, nq_l, nq_t, nq_d, ne_eq, not_false_eq_true, kit_ss, kit_ns, kit_bs, kit_is, kit_ls, kit_ts, kit_ds, kit_bb, V.ty.injEq, and_assoc, rIxU, rLenH, rLenU, rLenS, rInt1, rSetL, rEq, rNe, rCat, L2.start, List.map, List.length, List.length_cons, List.length_nil, List.replicate, List.getElem?_cons_zero, List.getElem?_cons_succ, List.set_cons_zero, List.set_cons_succ, List.set_nil, List.cons_append, List.nil_append, List.append_nil, Option.some.injEq, V.int.injEq, V.ref.injEq, V.str.injEq, V.bl.injEq, HO.lst.injEq, HO.tup.injEq, exists_eq_left', exists_and_left, exists_eq_left, List.cons.injEq, and_true, true_and, and_false, false_and, and_self, reduceCtorEq, exists_false, or_false, false_or, exists_const, at0, at1, at2, at3, at4, at5, ix51, ix52, ix54, upd_same, Nat.reduceAdd, Nat.reduceSub, Nat.zero_add, Int.reduceToNat, Int.reduceLE, Int.reduceLT, decide_eq_true_eq, Bool.not_eq_true, if_true, if_false, Bool.false_eq_true, ite_true, ite_false, Bool.not_true, Bool.not_false, decide_true, decide_false, tFor_eq, tLc_eq, iList, iTup, iRng1, iRng2, iStr, tSl, tPart, tNoPart, rSlL, cxOf_K, wipe, ex_ty2, kit_LTl, kit_LTt, kit_LTd, kit_LTs, kit_LTn, kit_LTb, kit_LTi, tM1, rIxS, exists_eq', lt1p, tDNewK, rSlS, rEqNil]
      refine ⟨size1000 (by omega), p, l, _, _, rfl, by omega, by omega, w4.pool, by omega, fun v H5 v0 v1 hp5 off5 => ?_⟩
      have w5 := w4.turn hp5 (Off.s off5)
      try simp only [tSeq, tNext, tRet, tRetN, tAsg, gName, gSub, tDrop, tIfS, tOp, tUn, tCB, tCons, tNil, tC, tVar, rI, rI0, rU, tAnd, tOr, tNot, tAndV, tOrV, tNotV, tIf, tTest, tB, tCall, tChain, tLst, tTup, tYes, rIxH, rIsB, rIsBT, rMulS, kd_non, kd_bl, kd_int, kd_str, kd_ref, kdO_lst, kdO_tup, kdO_dK, nq_n, nq_b, nq_i, nq_s, nq_l, nq_t, nq_d, ne_eq, not_false_eq_true, kit_ss, kit_ns, kit_bs, kit_is, kit_ls, kit_ts, kit_ds, kit_bb, V.ty.injEq, and_assoc, rIxU, rLenH, rLenU, rLenS, rInt1, rSetL, rEq, rNe, rCat, L2.start, List.map, List.length, List.length_cons, List.length_nil, List.replicate, List.getElem?_cons_zero, List.getElem?_cons_succ, List.set_cons_zero, List.set_cons_succ, List.set_nil, List.cons_append, List.nil_append, List.append_nil, Option.some.injEq, V.int.injEq, V.ref.injEq, V.str.injEq, V.bl.injEq, HO.lst.injEq, HO.tup.injEq, exists_eq_left', exists_and_left, exists_eq_left, List.cons.injEq, and_true, true_and, and_false, false_and, and_self, reduceCtorEq, exists_false, or_false, false_or, exists_const, at0, at1, at2, at3, at4, at5, ix51, ix52, ix54, upd_same, Nat.reduceAdd, Nat.reduceSub, Nat.zero_add, Int.reduceToNat, Int.reduceLE, Int.reduceLT, decide_eq_true_eq, Bool.not_eq_true, if_true, if_false, Bool.false_eq_true, ite_true, ite_false, Bool.not_true, Bool.not_false, decide_true, decide_false, tFor_eq, tLc_eq, iList, iTup, iRng1, iRng2, iStr, tSl, tPart, tNoPart, rSlL, cxOf_K, wipe, ex_ty2, kit_LTl, kit_LTt, kit_LTd, kit_LTs, kit_LTn, kit_LTb, kit_LTi, tM1, rIxS, exists_eq', lt1p, tDNewK, rSlS, rEqNil, rSlS]
      refine ⟨size1000 (by omega), by decide, ?_⟩
      intro q2 n_q2; generalize g_H6 : upd H5 q2 _ = H6; obtain ⟨s_H6, h_q2⟩ := new_facts n_q2 g_H6; clear g_H6
      have w6 := w5.same s_H6
      refine ⟨p, l, 2, _, rfl, by omega, by omega, w6.pool, by omega, fun u H7 u0 u1 hp7 off7 => ?_⟩
      have w7 := w6.turn hp7 (Off.s off7)
      have nq := w5.pool.np n_q2
      have h_q2' : H7 q2 = _ := (off7 q2 nq.1 nq.2).trans h_q2
      obtain ⟨v', hv', hm', _⟩ := atI_ex (xs := [V.str (Str.ofString "\n"), V.str (Str.ofString "\n\n")]) (i := u) u0 (by show _ < (2 : Int); exact u1)
      obtain ⟨y, rfl, hy1, hy2⟩ : ∃ y : Str, v' = .str y ∧ y.length ≤ 2 ∧ ∀ c ∈ y.cps.toList, c < 128 := by
        simp only [List.mem_cons, List.not_mem_nil, or_false] at hm'
        rcases hm' with rfl | rfl
        · exact ⟨_, rfl, by decide +kernel, (sm_lit (by decide +kernel)).2⟩
        · exact ⟨_, rfl, by decide +kernel, (sm_lit (by decide +kernel)).2⟩
      have k1 := cutS_length z none (some v)
      have k2 := cutS_length z (some v) none
      try simp only [tSeq, tNext, tRet, tRetN, tAsg, gName, gSub, tDrop, tIfS, tOp, tUn, tCB, tCons, tNil, tC, tVar, rI, rI0, rU, tAnd, tOr, tNot, tAndV, tOrV, tNotV, tIf, tTest, tB, tCall, tChain, tLst, tTup, tYes, rIxH, rIsB, rIsBT, rMulS, kd_non, kd_bl, kd_int, kd_str, kd_ref, kdO_lst, kdO_tup, kdO_dK, nq_n, nq_b, nq_i, nq_s, nq_l, nq_t, nq_d, ne_eq, not_false_eq_true, kit_ss, kit_ns, kit_bs, kit_is, kit_ls, kit_ts, kit_ds, kit_bb, V.ty.injEq, and_assoc, rIxU, rLenH, rLenU, rLenS, rInt1, rSetL, rEq, rNe, rCat, L2.start, List.map, List.length, List.length_cons, List.length_nil, List.replicate, List.getElem?_cons_zero, List.getElem?_cons_succ, List.set_cons_zero, List.set_cons_succ, List.set_nil, List.cons_append, List.nil_append, List.append_nil, Option.some.injEq, V.int.injEq, V.ref.injEq, V.str.injEq, V.bl.injEq, HO.lst.injEq, HO.tup.injEq, exists_eq_left', exists_and_left, exists_eq_left, List.cons.injEq, and_true, true_and, and_false, false_and, and_self, reduceCtorEq, exists_false, or_false, false_or, exists_const, at0, at1, at2, at3, at4, at5, ix51, ix52, ix54, upd_same, Nat.reduceAdd, Nat.reduceSub, Nat.zero_add, Int.reduceToNat, Int.reduceLE, Int.reduceLT, decide_eq_true_eq, Bool.not_eq_true, if_true, if_false, Bool.false_eq_true, ite_true, ite_false, Bool.not_true, Bool.not_false, decide_true, decide_false, tFor_eq, tLc_eq, iList, iTup, iRng1, iRng2, iStr, tSl, tPart, tNoPart, rSlL, cxOf_K, wipe, ex_ty2, kit_LTl, kit_LTt, kit_LTd, kit_LTs, kit_LTn, kit_LTb, kit_LTi, tM1, rIxS, exists_eq', lt1p, tDNewK, rSlS, rEqNil, h_q2', hv', app_len]
      refine ⟨size1000 (by omega), size1000 (by omega), size1000 (by omega), by decide, ?_⟩
      intro q3 n_q3; generalize g_H8 : upd H7 q3 _ = H8; obtain ⟨s_H8, h_q3⟩ := new_facts n_q3 g_H8; clear g_H8
      have w8 := w7.same s_H8
      try simp only [tSeq, tNext, tRet, tRetN, tAsg, gName, gSub, tDrop, tIfS, tOp, tUn, tCB, tCons, tNil, tC, tVar, rI, rI0, rU, tAnd, tOr, tNot, tAndV, tOrV, tNotV, tIf, tTest, tB, tCall, tChain, tLst, tTup, tYes, rIxH, rIsB, rIsBT, rMulS, kd_non, kd_bl, kd_int, kd_str, kd_ref, kdO_lst, kdO_tup, kdO_dK, nq_n, nq_b, nq_i, nq_s, nq_l, nq_t, nq_d, ne_eq, not_false_eq_true, kit_ss, kit_ns, kit_bs, kit_is, kit_ls, kit_ts, kit_ds, kit_bb, V.ty.injEq, and_assoc, rIxU, rLenH, rLenU, rLenS, rInt1, rSetL, rEq, rNe, rCat, L2.start, List.map, List.length, List.length_cons, List.length_nil, List.replicate, List.getElem?_cons_zero, List.getElem?_cons_succ, List.set_cons_zero, List.set_cons_succ, List.set_nil, List.cons_append, List.nil_append, List.append_nil, Option.some.injEq, V.int.injEq, V.ref.injEq, V.str.injEq, V.bl.injEq, HO.lst.injEq, HO.tup.injEq, exists_eq_left', exists_and_left, exists_eq_left, List.cons.injEq, and_true, true_and, and_false, false_and, and_self, reduceCtorEq, exists_false, or_false, false_or, exists_const, at0, at1, at2, at3, at4, at5, ix51, ix52, ix54, upd_same, Nat.reduceAdd, Nat.reduceSub, Nat.zero_add, Int.reduceToNat, Int.reduceLE, Int.reduceLT, decide_eq_true_eq, Bool.not_eq_true, if_true, if_false, Bool.false_eq_true, ite_true, ite_false, Bool.not_true, Bool.not_false, decide_true, decide_false, tFor_eq, tLc_eq, iList, iTup, iRng1, iRng2, iStr, tSl, tPart, tNoPart, rSlL, cxOf_K, wipe, ex_ty2, kit_LTl, kit_LTt, kit_LTd, kit_LTs, kit_LTn, kit_LTb, kit_LTi, tM1, rIxS, exists_eq', lt1p, tDNewK, rSlS, rEqNil, h_q3, w8.kn _ _ gb, List.length_map]
      refine ⟨size1000 (by omega), ?_⟩
      intro q4 n_q4; generalize g_H9 : upd H8 q4 _ = H9; obtain ⟨s_H9, h_q4⟩ := new_facts n_q4 g_H9; clear g_H9
      have w9 := w8.add (same_off s_H9) (w8.pool.same s_H9) n_q4 h_q4
      exact ⟨q4, zs ++ [z, cutS z none (some v) ++ y ++ cutS z (some v) none], _, _, _, _, _, rfl, w9, by omega, by rw [upd_same, List.map_append]; rfl, by rw [List.length_append, zl]; show _ + 2 = _; omega, fun r hr => by
        rcases List.mem_append.mp hr with h | h
        · exact zsm r h
        · simp only [List.mem_cons, List.not_mem_nil, or_false] at h
          rcases h with rfl | rfl
          · exact ⟨by omega, hz2⟩
          · exact ⟨by rw [app_len, app_len]; omega, app_sm (app_sm (cutS_sm hz2) hy2) (cutS_sm hz2)⟩, List.mem_append_left _ zem⟩
    · obtain ⟨b, zs, G, c, v3, v4, v5, rfl, w2, hc, gb, zl, zsm, zem⟩ := q
      rw [rngV_len] at hc zl
      have hb := w2.kn _ _ gb
      try simp only [tSeq, tNext, tRet, tRetN, tAsg, gName, gSub, tDrop, tIfS, tOp, tUn, tCB, tCons, tNil, tC, tVar, rI, rI0, rU, tAnd, tOr, tNot, tAndV, tOrV, tNotV, tIf, tTest, tB, tCall, tChain, tLst, tTup, tYes, rIxH, rIsB, rIsBT, rMulS, kd_non, kd_bl, kd_int, kd_str, kd_ref, kdO_lst, kdO_tup, kdO_dK, nq_n, nq_b, nq_i, nq_s, nq_l, nq_t, nq_d, ne_eq, not_false_eq_true, kit_ss, kit_ns, kit_bs, kit_is, kit_ls, kit_ts, kit_ds, kit_bb, V.ty.injEq, and_assoc, rIxU, rLenH, rLenU, rLenS, rInt1, rSetL, rEq, rNe, rCat, L2.start, List.map, List.length, List.length_cons, List.length_nil, List.replicate, List.getElem?_cons_zero, List.getElem?_cons_succ, List.set_cons_zero, List.set_cons_succ, List.set_nil, List.cons_append, List.nil_append, List.append_nil, Option.some.injEq, V.int.injEq, V.ref.injEq, V.str.injEq, V.bl.injEq, HO.lst.injEq, HO.tup.injEq, exists_eq_left', exists_and_left, exists_eq_left, List.cons.injEq, and_true, true_and, and_false, false_and, and_self, reduceCtorEq, exists_false, or_false, false_or, exists_const, at0, at1, at2, at3, at4, at5, ix51, ix52, ix54, upd_same, Nat.reduceAdd, Nat.reduceSub, Nat.zero_add, Int.reduceToNat, Int.reduceLE, Int.reduceLT, decide_eq_true_eq, Bool.not_eq_true, if_true, if_false, Bool.false_eq_true, ite_true, ite_false, Bool.not_true, Bool.not_false, decide_true, decide_false, tFor_eq, tLc_eq, iList, iTup, iRng1, iRng2, iStr, tSl, tPart, tNoPart, rSlL, cxOf_K, wipe, ex_ty2, kit_LTl, kit_LTt, kit_LTd, kit_LTs, kit_LTn, kit_LTb, kit_LTi, tM1, rIxS, exists_eq', lt1p, tDNewK, rSlS, rEqNil]
      refine ⟨⟨_, SqL.of hb⟩, fun D hD => ?_⟩
      have thz : ∀ z ∈ zs, ∀ {H' : Hp}, Thg H' (.str z) := fun z hz H' => .str (zsm z hz)
      refine lc_same (walk_list (K := K) (xs := zs.map V.str)) (fun _ => false) id hD (fun H3 s3 => s3.seq (SqL.of hb)) (by rw [List.length_map]; omega) (fun x hx H3 s3 R R0 h1 h0 => ?_) (fun H3 s3 h3 => ?_)
      · obtain ⟨z, hz, rfl⟩ := List.mem_map.mp hx
        try simp only [tSeq, tNext, tRet, tRetN, tAsg, gName, gSub, tDrop, tIfS, tOp, tUn, tCB, tCons, tNil, tC, tVar, rI, rI0, rU, tAnd, tOr, tNot, tAndV, tOrV, tNotV, tIf, tTest, tB, tCall, tChain, tLst, tTup, tYes, rIxH, rIsB, rIsBT, rMulS, kd_non, kd_bl, kd_int, kd_str, kd_ref, kdO_lst, kdO_tup, kdO_dK, nq_n, nq_b, nq_i, nq_s, nq_l, nq_t, nq_d, ne_eq, not_false_eq_true, kit_ss, kit_ns, kit_bs, kit_is, kit_ls, kit_ts, kit_ds, kit_bb, V.ty.injEq, and_assoc, rIxU, rLenH, rLenU, rLenS, rInt1, rSetL, rEq, rNe, rCat, L2.start, List.map, List.length, List.length_cons, List.length_nil, List.replicate, List.getElem?_cons_zero, List.getElem?_cons_succ, List.set_cons_zero, List.set_cons_succ, List.set_nil, List.cons_append, List.nil_append, List.append_nil, Option.some.injEq, V.int.injEq, V.ref.injEq, V.str.injEq, V.bl.injEq, HO.lst.injEq, HO.tup.injEq, exists_eq_left', exists_and_left, exists_eq_left, List.cons.injEq, and_true, true_and, and_false, false_and, and_self, reduceCtorEq, exists_false, or_false, false_or, exists_const, at0, at1, at2, at3, at4, at5, ix51, ix52, ix54, upd_same, Nat.reduceAdd, Nat.reduceSub, Nat.zero_add, Int.reduceToNat, Int.reduceLE, Int.reduceLT, decide_eq_true_eq, Bool.not_eq_true, if_true, if_false, Bool.false_eq_true, ite_true, ite_false, Bool.not_true, Bool.not_false, decide_true, decide_false, tFor_eq, tLc_eq, iList, iTup, iRng1, iRng2, iStr, tSl, tPart, tNoPart, rSlL, cxOf_K, wipe, ex_ty2, kit_LTl, kit_LTt, kit_LTd, kit_LTs, kit_LTn, kit_LTb, kit_LTi, tM1, rIxS, exists_eq', lt1p, tDNewK, rSlS, rEqNil]
        refine ⟨_, rfl, thz z hz, fun H4 s4 => ⟨_, rfl, thz z hz, fun H5 s5 => ⟨_, _, rfl, ?_⟩⟩⟩
        try simp only [tSeq, tNext, tRet, tRetN, tAsg, gName, gSub, tDrop, tIfS, tOp, tUn, tCB, tCons, tNil, tC, tVar, rI, rI0, rU, tAnd, tOr, tNot, tAndV, tOrV, tNotV, tIf, tTest, tB, tCall, tChain, tLst, tTup, tYes, rIxH, rIsB, rIsBT, rMulS, kd_non, kd_bl, kd_int, kd_str, kd_ref, kdO_lst, kdO_tup, kdO_dK, nq_n, nq_b, nq_i, nq_s, nq_l, nq_t, nq_d, ne_eq, not_false_eq_true, kit_ss, kit_ns, kit_bs, kit_is, kit_ls, kit_ts, kit_ds, kit_bb, V.ty.injEq, and_assoc, rIxU, rLenH, rLenU, rLenS, rInt1, rSetL, rEq, rNe, rCat, L2.start, List.map, List.length, List.length_cons, List.length_nil, List.replicate, List.getElem?_cons_zero, List.getElem?_cons_succ, List.set_cons_zero, List.set_cons_succ, List.set_nil, List.cons_append, List.nil_append, List.append_nil, Option.some.injEq, V.int.injEq, V.ref.injEq, V.str.injEq, V.bl.injEq, HO.lst.injEq, HO.tup.injEq, exists_eq_left', exists_and_left, exists_eq_left, List.cons.injEq, and_true, true_and, and_false, false_and, and_self, reduceCtorEq, exists_false, or_false, false_or, exists_const, at0, at1, at2, at3, at4, at5, ix51, ix52, ix54, upd_same, Nat.reduceAdd, Nat.reduceSub, Nat.zero_add, Int.reduceToNat, Int.reduceLE, Int.reduceLT, decide_eq_true_eq, Bool.not_eq_true, if_true, if_false, Bool.false_eq_true, ite_true, ite_false, Bool.not_true, Bool.not_false, decide_true, decide_false, tFor_eq, tLc_eq, iList, iTup, iRng1, iRng2, iStr, tSl, tPart, tNoPart, rSlL, cxOf_K, wipe, ex_ty2, kit_LTl, kit_LTt, kit_LTd, kit_LTs, kit_LTn, kit_LTb, kit_LTi, tM1, rIxS, exists_eq', lt1p, tDNewK, rSlS, rEqNil]
        exact h0 _ (s4.trans s5) rfl
      · refine ⟨by decide, fun q nq => ?_⟩
        have e : List.map id (List.filter (fun _ => false) (List.map V.str zs)) = [] := by
          rw [List.map_id]
          exact List.filter_eq_nil_iff.mpr fun _ _ => by simp
        rw [e] at h3
        have w3 := (w2.same s3).same (same_new (o := .lst []) nq)
        refine neD_nn (by rw [upd_ne (ne_of_none h3 nq)]; exact h3) upd_same ?_
        try simp only [tSeq, tNext, tRet, tRetN, tAsg, gName, gSub, tDrop, tIfS, tOp, tUn, tCB, tCons, tNil, tC, tVar, rI, rI0, rU, tAnd, tOr, tNot, tAndV, tOrV, tNotV, tIf, tTest, tB, tCall, tChain, tLst, tTup, tYes, rIxH, rIsB, rIsBT, rMulS, kd_non, kd_bl, kd_int, kd_str, kd_ref, kdO_lst, kdO_tup, kdO_dK, nq_n, nq_b, nq_i, nq_s, nq_l, nq_t, nq_d, ne_eq, not_false_eq_true, kit_ss, kit_ns, kit_bs, kit_is, kit_ls, kit_ts, kit_ds, kit_bb, V.ty.injEq, and_assoc, rIxU, rLenH, rLenU, rLenS, rInt1, rSetL, rEq, rNe, rCat, L2.start, List.map, List.length, List.length_cons, List.length_nil, List.replicate, List.getElem?_cons_zero, List.getElem?_cons_succ, List.set_cons_zero, List.set_cons_succ, List.set_nil, List.cons_append, List.nil_append, List.append_nil, Option.some.injEq, V.int.injEq, V.ref.injEq, V.str.injEq, V.bl.injEq, HO.lst.injEq, HO.tup.injEq, exists_eq_left', exists_and_left, exists_eq_left, List.cons.injEq, and_true, true_and, and_false, false_and, and_self, reduceCtorEq, exists_false, or_false, false_or, exists_const, at0, at1, at2, at3, at4, at5, ix51, ix52, ix54, upd_same, Nat.reduceAdd, Nat.reduceSub, Nat.zero_add, Int.reduceToNat, Int.reduceLE, Int.reduceLT, decide_eq_true_eq, Bool.not_eq_true, if_true, if_false, Bool.false_eq_true, ite_true, ite_false, Bool.not_true, Bool.not_false, decide_true, decide_false, tFor_eq, tLc_eq, iList, iTup, iRng1, iRng2, iStr, tSl, tPart, tNoPart, rSlL, cxOf_K, wipe, ex_ty2, kit_LTl, kit_LTt, kit_LTd, kit_LTs, kit_LTn, kit_LTb, kit_LTi, tM1, rIxS, exists_eq', lt1p, tDNewK, rSlS, rEqNil]
        generalize upd H3 q (HO.lst []) = H4 at w3 ⊢
        -- the odd things
        refine ⟨by decide, ?_⟩
        intro q1 n_q1; generalize g_H5 : upd H4 q1 _ = H5; obtain ⟨s_H5, h_q1⟩ := new_facts n_q1 g_H5; clear g_H5; obtain ⟨G5, w_G5, k_G5, f_q1⟩ := w3.alloc n_q1 s_H5 h_q1
        refine ⟨by decide, ?_⟩
        intro q2 n_q2; generalize g_H6 : upd H5 q2 _ = H6; obtain ⟨s_H6, h_q2⟩ := new_facts n_q2 g_H6; clear g_H6; obtain ⟨G6, w_G6, k_G6, f_q2⟩ := w_G5.alloc n_q2 s_H6 h_q2
        intro q3 n_q3; generalize g_H7 : upd H6 q3 _ = H7; obtain ⟨s_H7, h_q3⟩ := new_facts n_q3 g_H7; clear g_H7; obtain ⟨G7, w_G7, k_G7, f_q3⟩ := w_G6.alloc n_q3 s_H7 h_q3
        have gb7 := k_G7 _ _ (k_G6 _ _ (k_G5 _ _ gb))
        have f1 := k_G7 _ _ (k_G6 _ _ f_q1)
        have f2 := k_G7 _ _ f_q2
        try simp only [tSeq, tNext, tRet, tRetN, tAsg, gName, gSub, tDrop, tIfS, tOp, tUn, tCB, tCons, tNil, tC, tVar, rI, rI0, rU, tAnd, tOr, tNot, tAndV, tOrV, tNotV, tIf, tTest, tB, tCall, tChain, tLst, tTup, tYes, rIxH, rIsB, rIsBT, rMulS, kd_non, kd_bl, kd_int, kd_str, kd_ref, kdO_lst, kdO_tup, kdO_dK, nq_n, nq_b, nq_i, nq_s, nq_l, nq_t, nq_d, ne_eq, not_false_eq_true, kit_ss, kit_ns, kit_bs, kit_is, kit_ls, kit_ts, kit_ds, kit_bb, V.ty.injEq, and_assoc, rIxU, rLenH, rLenU, rLenS, rInt1, rSetL, rEq, rNe, rCat, L2.start, List.map, List.length, List.length_cons, List.length_nil, List.replicate, List.getElem?_cons_zero, List.getElem?_cons_succ, List.set_cons_zero, List.set_cons_succ, List.set_nil, List.cons_append, List.nil_append, List.append_nil, Option.some.injEq, V.int.injEq, V.ref.injEq, V.str.injEq, V.bl.injEq, HO.lst.injEq, HO.tup.injEq, exists_eq_left', exists_and_left, exists_eq_left, List.cons.injEq, and_true, true_and, and_false, false_and, and_self, reduceCtorEq, exists_false, or_false, false_or, exists_const, at0, at1, at2, at3, at4, at5, ix51, ix52, ix54, upd_same, Nat.reduceAdd, Nat.reduceSub, Nat.zero_add, Int.reduceToNat, Int.reduceLE, Int.reduceLT, decide_eq_true_eq, Bool.not_eq_true, if_true, if_false, Bool.false_eq_true, ite_true, ite_false, Bool.not_true, Bool.not_false, decide_true, decide_false, tFor_eq, tLc_eq, iList, iTup, iRng1, iRng2, iStr, tSl, tPart, tNoPart, rSlL, cxOf_K, wipe, ex_ty2, kit_LTl, kit_LTt, kit_LTd, kit_LTs, kit_LTn, kit_LTb, kit_LTi, tM1, rIxS, exists_eq', lt1p, tDNewK, rSlS, rEqNil, w_G7.kn _ _ gb7, List.length_map]
        refine ⟨p, l, _, _, rfl, by omega, by omega, w_G7.pool, by omega, fun u H8 u0 u1 hp8 off8 => ?_⟩
        have w8 := w_G7.turn hp8 (Off.s off8)
        obtain ⟨v, hv, hm, _⟩ := atI_ex (xs := zs.map V.str) (i := u) u0 (by rw [List.length_map]; exact u1)
        obtain ⟨z0, hz0, rfl⟩ := List.mem_map.mp hm
        try simp only [tSeq, tNext, tRet, tRetN, tAsg, gName, gSub, tDrop, tIfS, tOp, tUn, tCB, tCons, tNil, tC, tVar, rI, rI0, rU, tAnd, tOr, tNot, tAndV, tOrV, tNotV, tIf, tTest, tB, tCall, tChain, tLst, tTup, tYes, rIxH, rIsB, rIsBT, rMulS, kd_non, kd_bl, kd_int, kd_str, kd_ref, kdO_lst, kdO_tup, kdO_dK, nq_n, nq_b, nq_i, nq_s, nq_l, nq_t, nq_d, ne_eq, not_false_eq_true, kit_ss, kit_ns, kit_bs, kit_is, kit_ls, kit_ts, kit_ds, kit_bb, V.ty.injEq, and_assoc, rIxU, rLenH, rLenU, rLenS, rInt1, rSetL, rEq, rNe, rCat, L2.start, List.map, List.length, List.length_cons, List.length_nil, List.replicate, List.getElem?_cons_zero, List.getElem?_cons_succ, List.set_cons_zero, List.set_cons_succ, List.set_nil, List.cons_append, List.nil_append, List.append_nil, Option.some.injEq, V.int.injEq, V.ref.injEq, V.str.injEq, V.bl.injEq, HO.lst.injEq, HO.tup.injEq, exists_eq_left', exists_and_left, exists_eq_left, List.cons.injEq, and_true, true_and, and_false, false_and, and_self, reduceCtorEq, exists_false, or_false, false_or, exists_const, at0, at1, at2, at3, at4, at5, ix51, ix52, ix54, upd_same, Nat.reduceAdd, Nat.reduceSub, Nat.zero_add, Int.reduceToNat, Int.reduceLE, Int.reduceLT, decide_eq_true_eq, Bool.not_eq_true, if_true, if_false, Bool.false_eq_true, ite_true, ite_false, Bool.not_true, Bool.not_false, decide_true, decide_false, tFor_eq, tLc_eq, iList, iTup, iRng1, iRng2, iStr, tSl, tPart, tNoPart, rSlL, cxOf_K, wipe, ex_ty2, kit_LTl, kit_LTt, kit_LTd, kit_LTs, kit_LTn, kit_LTb, kit_LTi, tM1, rIxS, exists_eq', lt1p, tDNewK, rSlS, rEqNil, w8.kn _ _ gb7, hv]
        refine ⟨by decide, ?_⟩
        intro q4 n_q4; generalize g_H9 : upd H8 q4 _ = H9; obtain ⟨s_H9, h_q4⟩ := new_facts n_q4 g_H9; clear g_H9; obtain ⟨G9, w_G9, k_G9, f_q4⟩ := w8.alloc n_q4 s_H9 h_q4
        have gb9 := k_G9 _ _ gb7
        have od : ∀ v ∈ [V.non, V.int 1, V.bl true, V.ref q1, V.ref q2, V.ref q3, V.str (Str.ofString "a\n"), V.str z0], Thg G9 v := by
          intro v hv
          simp only [List.mem_cons, List.not_mem_nil, or_false] at hv
          rcases hv with rfl | rfl | rfl | rfl | rfl | rfl | rfl | rfl
          · exact .non
          · exact .int _
          · exact .bl _
          · exact .lst (k_G9 _ _ f1)
          · exact .tup (k_G9 _ _ f2)
          · exact .dic (k_G9 _ _ f_q3)
          · exact .str (sm_lit (by decide +kernel))
          · exact thz z0 hz0
        generalize eo : [V.non, V.int 1, V.bl true, V.ref q1, V.ref q2, V.ref q3, V.str (Str.ofString "a\n"), V.str z0] = os at h_q4 f_q4 od
        have ol : os.length = 8 := by rw [← eo]; rfl
        clear eo hv hm
        refine ⟨⟨_, SqL.of h_q4⟩, for_go (walk_list (K := K) (xs := os)) (L2' a p l b q4 G9) ?_ (fun i σ H' _ q => ?_) (fun i x σ H' hx q => ?_) (fun σ H' q => ?_)⟩
        · exact ⟨_, _, _, _, rfl, w_G9.mono (by omega), Nat.le_refl _⟩
        · obtain ⟨v3, v4, v5, v7, rfl, w', _⟩ := q
          exact SqL.of (w'.kn _ _ f_q4)
        · obtain ⟨v3, v4, v5, v7, rfl, w', _⟩ := q
          have ht := (od x (List.mem_of_getElem? hx)).mono w'.kn
          try simp only [tSeq, tNext, tRet, tRetN, tAsg, gName, gSub, tDrop, tIfS, tOp, tUn, tCB, tCons, tNil, tC, tVar, rI, rI0, rU, tAnd, tOr, tNot, tAndV, tOrV, tNotV, tIf, tTest, tB, tCall, tChain, tLst, tTup, tYes, rIxH, rIsB, rIsBT, rMulS, kd_non, kd_bl, kd_int, kd_str, kd_ref, kdO_lst, kdO_tup, kdO_dK, nq_n, nq_b, nq_i, nq_s, nq_l, nq_t, nq_d, ne_eq, not_false_eq_true, kit_ss, kit_ns, kit_bs, kit_is, kit_ls, kit_ts, kit_ds, kit_bb, V.ty.injEq, and_assoc, rIxU, rLenH, rLenU, rLenS, rInt1, rSetL, rEq, rNe, rCat, L2.start, List.map, List.length, List.length_cons, List.length_nil, List.replicate, List.getElem?_cons_zero, List.getElem?_cons_succ, List.set_cons_zero, List.set_cons_succ, List.set_nil, List.cons_append, List.nil_append, List.append_nil, Option.some.injEq, V.int.injEq, V.ref.injEq, V.str.injEq, V.bl.injEq, HO.lst.injEq, HO.tup.injEq, exists_eq_left', exists_and_left, exists_eq_left, List.cons.injEq, and_true, true_and, and_false, false_and, and_self, reduceCtorEq, exists_false, or_false, false_or, exists_const, at0, at1, at2, at3, at4, at5, ix51, ix52, ix54, upd_same, Nat.reduceAdd, Nat.reduceSub, Nat.zero_add, Int.reduceToNat, Int.reduceLE, Int.reduceLT, decide_eq_true_eq, Bool.not_eq_true, if_true, if_false, Bool.false_eq_true, ite_true, ite_false, Bool.not_true, Bool.not_false, decide_true, decide_false, tFor_eq, tLc_eq, iList, iTup, iRng1, iRng2, iStr, tSl, tPart, tNoPart, rSlL, cxOf_K, wipe, ex_ty2, kit_LTl, kit_LTt, kit_LTd, kit_LTs, kit_LTn, kit_LTb, kit_LTi, tM1, rIxS, exists_eq', lt1p, tDNewK, rSlS, rEqNil]
          refine ⟨_, rfl, ht, fun H4 s4 => ⟨_, rfl, ht.mono s4, fun H5 s5 => ⟨_, _, rfl, ?_⟩⟩⟩
          try simp only [tSeq, tNext, tRet, tRetN, tAsg, gName, gSub, tDrop, tIfS, tOp, tUn, tCB, tCons, tNil, tC, tVar, rI, rI0, rU, tAnd, tOr, tNot, tAndV, tOrV, tNotV, tIf, tTest, tB, tCall, tChain, tLst, tTup, tYes, rIxH, rIsB, rIsBT, rMulS, kd_non, kd_bl, kd_int, kd_str, kd_ref, kdO_lst, kdO_tup, kdO_dK, nq_n, nq_b, nq_i, nq_s, nq_l, nq_t, nq_d, ne_eq, not_false_eq_true, kit_ss, kit_ns, kit_bs, kit_is, kit_ls, kit_ts, kit_ds, kit_bb, V.ty.injEq, and_assoc, rIxU, rLenH, rLenU, rLenS, rInt1, rSetL, rEq, rNe, rCat, L2.start, List.map, List.length, List.length_cons, List.length_nil, List.replicate, List.getElem?_cons_zero, List.getElem?_cons_succ, List.set_cons_zero, List.set_cons_succ, List.set_nil, List.cons_append, List.nil_append, List.append_nil, Option.some.injEq, V.int.injEq, V.ref.injEq, V.str.injEq, V.bl.injEq, HO.lst.injEq, HO.tup.injEq, exists_eq_left', exists_and_left, exists_eq_left, List.cons.injEq, and_true, true_and, and_false, false_and, and_self, reduceCtorEq, exists_false, or_false, false_or, exists_const, at0, at1, at2, at3, at4, at5, ix51, ix52, ix54, upd_same, Nat.reduceAdd, Nat.reduceSub, Nat.zero_add, Int.reduceToNat, Int.reduceLE, Int.reduceLT, decide_eq_true_eq, Bool.not_eq_true, if_true, if_false, Bool.false_eq_true, ite_true, ite_false, Bool.not_true, Bool.not_false, decide_true, decide_false, tFor_eq, tLc_eq, iList, iTup, iRng1, iRng2, iStr, tSl, tPart, tNoPart, rSlL, cxOf_K, wipe, ex_ty2, kit_LTl, kit_LTt, kit_LTd, kit_LTs, kit_LTn, kit_LTb, kit_LTi, tM1, rIxS, exists_eq', lt1p, tDNewK, rSlS, rEqNil]
          exact ⟨_, _, _, _, rfl, (w'.same s4).same s5, Nat.le_refl _⟩
        · obtain ⟨v3, v4, v5, v7, rfl, w', _⟩ := q
          have hb' := w'.kn _ _ gb9
          try simp only [tSeq, tNext, tRet, tRetN, tAsg, gName, gSub, tDrop, tIfS, tOp, tUn, tCB, tCons, tNil, tC, tVar, rI, rI0, rU, tAnd, tOr, tNot, tAndV, tOrV, tNotV, tIf, tTest, tB, tCall, tChain, tLst, tTup, tYes, rIxH, rIsB, rIsBT, rMulS, kd_non, kd_bl, kd_int, kd_str, kd_ref, kdO_lst, kdO_tup, kdO_dK, nq_n, nq_b, nq_i, nq_s, nq_l, nq_t, nq_d, ne_eq, not_false_eq_true, kit_ss, kit_ns, kit_bs, kit_is, kit_ls, kit_ts, kit_ds, kit_bb, V.ty.injEq, and_assoc, rIxU, rLenH, rLenU, rLenS, rInt1, rSetL, rEq, rNe, rCat, L2.start, List.map, List.length, List.length_cons, List.length_nil, List.replicate, List.getElem?_cons_zero, List.getElem?_cons_succ, List.set_cons_zero, List.set_cons_succ, List.set_nil, List.cons_append, List.nil_append, List.append_nil, Option.some.injEq, V.int.injEq, V.ref.injEq, V.str.injEq, V.bl.injEq, HO.lst.injEq, HO.tup.injEq, exists_eq_left', exists_and_left, exists_eq_left, List.cons.injEq, and_true, true_and, and_false, false_and, and_self, reduceCtorEq, exists_false, or_false, false_or, exists_const, at0, at1, at2, at3, at4, at5, ix51, ix52, ix54, upd_same, Nat.reduceAdd, Nat.reduceSub, Nat.zero_add, Int.reduceToNat, Int.reduceLE, Int.reduceLT, decide_eq_true_eq, Bool.not_eq_true, if_true, if_false, Bool.false_eq_true, ite_true, ite_false, Bool.not_true, Bool.not_false, decide_true, decide_false, tFor_eq, tLc_eq, iList, iTup, iRng1, iRng2, iStr, tSl, tPart, tNoPart, rSlL, cxOf_K, wipe, ex_ty2, kit_LTl, kit_LTt, kit_LTd, kit_LTs, kit_LTn, kit_LTb, kit_LTi, tM1, rIxS, exists_eq', lt1p, tDNewK, rSlS, rEqNil]
          refine ⟨⟨_, SqL.of hb'⟩, fun D2 hD2 => ?_⟩
          refine lc_same (walk_list (K := K) (xs := zs.map V.str)) isLineV id hD2 (fun H3 s3 => s3.seq (SqL.of hb')) (by rw [List.length_map]; omega) (fun x hx H3 s3 R R0 h1 h0 => ?_) (fun H3 s3 h3 => ?_)
          · obtain ⟨z, hz, rfl⟩ := List.mem_map.mp hx
            try simp only [tSeq, tNext, tRet, tRetN, tAsg, gName, gSub, tDrop, tIfS, tOp, tUn, tCB, tCons, tNil, tC, tVar, rI, rI0, rU, tAnd, tOr, tNot, tAndV, tOrV, tNotV, tIf, tTest, tB, tCall, tChain, tLst, tTup, tYes, rIxH, rIsB, rIsBT, rMulS, kd_non, kd_bl, kd_int, kd_str, kd_ref, kdO_lst, kdO_tup, kdO_dK, nq_n, nq_b, nq_i, nq_s, nq_l, nq_t, nq_d, ne_eq, not_false_eq_true, kit_ss, kit_ns, kit_bs, kit_is, kit_ls, kit_ts, kit_ds, kit_bb, V.ty.injEq, and_assoc, rIxU, rLenH, rLenU, rLenS, rInt1, rSetL, rEq, rNe, rCat, L2.start, List.map, List.length, List.length_cons, List.length_nil, List.replicate, List.getElem?_cons_zero, List.getElem?_cons_succ, List.set_cons_zero, List.set_cons_succ, List.set_nil, List.cons_append, List.nil_append, List.append_nil, Option.some.injEq, V.int.injEq, V.ref.injEq, V.str.injEq, V.bl.injEq, HO.lst.injEq, HO.tup.injEq, exists_eq_left', exists_and_left, exists_eq_left, List.cons.injEq, and_true, true_and, and_false, false_and, and_self, reduceCtorEq, exists_false, or_false, false_or, exists_const, at0, at1, at2, at3, at4, at5, ix51, ix52, ix54, upd_same, Nat.reduceAdd, Nat.reduceSub, Nat.zero_add, Int.reduceToNat, Int.reduceLE, Int.reduceLT, decide_eq_true_eq, Bool.not_eq_true, if_true, if_false, Bool.false_eq_true, ite_true, ite_false, Bool.not_true, Bool.not_false, decide_true, decide_false, tFor_eq, tLc_eq, iList, iTup, iRng1, iRng2, iStr, tSl, tPart, tNoPart, rSlL, cxOf_K, wipe, ex_ty2, kit_LTl, kit_LTt, kit_LTd, kit_LTs, kit_LTn, kit_LTb, kit_LTi, tM1, rIxS, exists_eq', lt1p, tDNewK, rSlS, rEqNil]
            refine ⟨_, rfl, thz z hz, fun H4 s4 => ?_⟩
            try simp only [tSeq, tNext, tRet, tRetN, tAsg, gName, gSub, tDrop, tIfS, tOp, tUn, tCB, tCons, tNil, tC, tVar, rI, rI0, rU, tAnd, tOr, tNot, tAndV, tOrV, tNotV, tIf, tTest, tB, tCall, tChain, tLst, tTup, tYes, rIxH, rIsB, rIsBT, rMulS, kd_non, kd_bl, kd_int, kd_str, kd_ref, kdO_lst, kdO_tup, kdO_dK, nq_n, nq_b, nq_i, nq_s, nq_l, nq_t, nq_d, ne_eq, not_false_eq_true, kit_ss, kit_ns, kit_bs, kit_is, kit_ls, kit_ts, kit_ds, kit_bb, V.ty.injEq, and_assoc, rIxU, rLenH, rLenU, rLenS, rInt1, rSetL, rEq, rNe, rCat, L2.start, List.map, List.length, List.length_cons, List.length_nil, List.replicate, List.getElem?_cons_zero, List.getElem?_cons_succ, List.set_cons_zero, List.set_cons_succ, List.set_nil, List.cons_append, List.nil_append, List.append_nil, Option.some.injEq, V.int.injEq, V.ref.injEq, V.str.injEq, V.bl.injEq, HO.lst.injEq, HO.tup.injEq, exists_eq_left', exists_and_left, exists_eq_left, List.cons.injEq, and_true, true_and, and_false, false_and, and_self, reduceCtorEq, exists_false, or_false, false_or, exists_const, at0, at1, at2, at3, at4, at5, ix51, ix52, ix54, upd_same, Nat.reduceAdd, Nat.reduceSub, Nat.zero_add, Int.reduceToNat, Int.reduceLE, Int.reduceLT, decide_eq_true_eq, Bool.not_eq_true, if_true, if_false, Bool.false_eq_true, ite_true, ite_false, Bool.not_true, Bool.not_false, decide_true, decide_false, tFor_eq, tLc_eq, iList, iTup, iRng1, iRng2, iStr, tSl, tPart, tNoPart, rSlL, cxOf_K, wipe, ex_ty2, kit_LTl, kit_LTt, kit_LTd, kit_LTs, kit_LTn, kit_LTb, kit_LTi, tM1, rIxS, exists_eq', lt1p, tDNewK, rSlS, rEqNil]
            exact ite2 (fun h => h1 _ s4 h) (fun h => h0 _ s4 (by simpa using h))
          · have eg : List.map id (List.filter isLineV (List.map V.str zs)) = (zs.filter fun z => isLineV (.str z)).map V.str := by
              rw [List.map_id, List.filter_map]
              rfl
            rw [eg] at h3
            have gl0 : 0 < (zs.filter fun z => isLineV (.str z)).length := List.length_pos_of_mem (List.mem_filter.mpr ⟨zem, by decide +kernel⟩)
            have gl1 : (zs.filter fun z => isLineV (.str z)).length ≤ 20 := by
              have := List.length_filter_le (fun z => isLineV (.str z)) zs
              omega
            have gok : ∀ z ∈ (zs.filter fun z => isLineV (.str z)), Sm z ∧ isLineV (.str z) = true := fun z hz => ⟨zsm z (List.mem_filter.mp hz).1, (List.mem_filter.mp hz).2⟩
            generalize (zs.filter fun z => isLineV (.str z)) = gs at h3 gl0 gl1 gok
            obtain ⟨G3, w_G3, k_G3, f_D2⟩ := w'.alloc hD2 s3 h3
            refine ⟨by decide, ?_⟩
            intro q5 n_q5; generalize g_H4 : upd H3 q5 _ = H4; obtain ⟨s_H4, h_q5⟩ := new_facts n_q5 g_H4; clear g_H4; obtain ⟨G4, w_G4, k_G4, f_q5⟩ := w_G3.alloc n_q5 s_H4 h_q5
            have fo := k_G4 _ _ (k_G3 _ _ f_q4)
            have fg := k_G4 _ _ f_D2
            have odd : ∀ v ∈ os, Thg G4 v := fun v hv => (od v hv).mono (k_G3.trans k_G4)
            refine ⟨⟨_, SqL.of h_q5⟩, for_go (walk_list (K := K) (xs := [V.int 0, V.int 1, V.int 5, V.int 11, V.int 12, V.int 13, V.int 14])) (L3 a p l b q4 D2 G4) ⟨_, _, _, _, _, _, _, _, _, _, rfl, w_G4, by omega⟩ (fun i σ H' _ q => ?_) (fun i x σ H' hx q => ?_) (fun σ H' q => ?_)⟩
            · obtain ⟨v3, v4, v5, v7, v9, v10, v11, v12, v13, c', rfl, w', _⟩ := q
              exact SqL.of (w'.kn _ _ f_q5)
            · obtain ⟨v3, v4, v5, v7, v9, v10, v11, v12, v13, c', rfl, w5, hc5⟩ := q
              have hi : i < 7 := (List.getElem?_eq_some_iff.mp hx).1
              obtain ⟨m, rfl, hm⟩ : ∃ m : Nat, x = .int (m : Int) ∧ m ≤ 14 := by
                have hm := List.mem_of_getElem? hx
                simp only [List.mem_cons, List.not_mem_nil, or_false] at hm
                rcases hm with rfl | rfl | rfl | rfl | rfl | rfl | rfl
                · exact ⟨0, rfl, by decide⟩
                · exact ⟨1, rfl, by decide⟩
                · exact ⟨5, rfl, by decide⟩
                · exact ⟨11, rfl, by decide⟩
                · exact ⟨12, rfl, by decide⟩
                · exact ⟨13, rfl, by decide⟩
                · exact ⟨14, rfl, by decide⟩
              have m62 := int62 (m := (m : Int)) (by omega) (by omega)
              try simp only [tSeq, tNext, tRet, tRetN, tAsg, gName, gSub, tDrop, tIfS, tOp, tUn, tCB, tCons, tNil, tC, tVar, rI, rI0, rU, tAnd, tOr, tNot, tAndV, tOrV, tNotV, tIf, tTest, tB, tCall, tChain, tLst, tTup, tYes, rIxH, rIsB, rIsBT, rMulS, kd_non, kd_bl, kd_int, kd_str, kd_ref, kdO_lst, kdO_tup, kdO_dK, nq_n, nq_b, nq_i, nq_s, nq_l, nq_t, nq_d, ne_eq, not_false_eq_true, kit_ss, kit_ns, kit_bs, kit_is, kit_ls, kit_ts, kit_ds, kit_bb, V.ty.injEq, and_assoc, rIxU, rLenH, rLenU, rLenS, rInt1, rSetL, rEq, rNe, rCat, L2.start, List.map, List.length, List.length_cons, List.length_nil, List.replicate, List.getElem?_cons_zero, List.getElem?_cons_succ, List.set_cons_zero, List.set_cons_succ, List.set_nil, List.cons_append, List.nil_append, List.append_nil, Option.some.injEq, V.int.injEq, V.ref.injEq, V.str.injEq, V.bl.injEq, HO.lst.injEq, HO.tup.injEq, exists_eq_left', exists_and_left, exists_eq_left, List.cons.injEq, and_true, true_and, and_false, false_and, and_self, reduceCtorEq, exists_false, or_false, false_or, exists_const, at0, at1, at2, at3, at4, at5, ix51, ix52, ix54, upd_same, Nat.reduceAdd, Nat.reduceSub, Nat.zero_add, Int.reduceToNat, Int.reduceLE, Int.reduceLT, decide_eq_true_eq, Bool.not_eq_true, if_true, if_false, Bool.false_eq_true, ite_true, ite_false, Bool.not_true, Bool.not_false, decide_true, decide_false, tFor_eq, tLc_eq, iList, iTup, iRng1, iRng2, iStr, tSl, tPart, tNoPart, rSlL, cxOf_K, wipe, ex_ty2, kit_LTl, kit_LTt, kit_LTd, kit_LTs, kit_LTn, kit_LTb, kit_LTi, tM1, rIxS, exists_eq', lt1p, tDNewK, rSlS, rEqNil]
              refine ⟨m62.1, m62.2, fun D3 hD3 => ?_⟩
              rw [Int.toNat_natCast]
              refine lc_pool (walk_rangeY (lo := 0) (n := m)) (k := 1) (fun v _ => ∃ z : Str, v = .str z ∧ Sm z ∧ isLineV (.str z) = true) (fun _ _ _ _ h => h) w5 hD3 (fun _ _ => trivial) (by rw [rngV_len]; omega) (fun x hx G6 H6 c6 gw w6 hc6 R R0 h1 => ?_) (fun acc G6 H6 ha hP gw w6 hD' => ?_)
              · rw [rngV_len] at hc6
                have hg6 := w6.kn _ _ (gw.gg _ _ fg)
                try simp only [tSeq, tNext, tRet, tRetN, tAsg, gName, gSub, tDrop, tIfS, tOp, tUn, tCB, tCons, tNil, tC, tVar, rI, rI0, rU, tAnd, tOr, tNot, tAndV, tOrV, tNotV, tIf, tTest, tB, tCall, tChain, tLst, tTup, tYes, rIxH, rIsB, rIsBT, rMulS, kd_non, kd_bl, kd_int, kd_str, kd_ref, kdO_lst, kdO_tup, kdO_dK, nq_n, nq_b, nq_i, nq_s, nq_l, nq_t, nq_d, ne_eq, not_false_eq_true, kit_ss, kit_ns, kit_bs, kit_is, kit_ls, kit_ts, kit_ds, kit_bb, V.ty.injEq, and_assoc, rIxU, rLenH, rLenU, rLenS, rInt1, rSetL, rEq, rNe, rCat, L2.start, List.map, List.length, List.length_cons, List.length_nil, List.replicate, List.getElem?_cons_zero, List.getElem?_cons_succ, List.set_cons_zero, List.set_cons_succ, List.set_nil, List.cons_append, List.nil_append, List.append_nil, Option.some.injEq, V.int.injEq, V.ref.injEq, V.str.injEq, V.bl.injEq, HO.lst.injEq, HO.tup.injEq, exists_eq_left', exists_and_left, exists_eq_left, List.cons.injEq, and_true, true_and, and_false, false_and, and_self, reduceCtorEq, exists_false, or_false, false_or, exists_const, at0, at1, at2, at3, at4, at5, ix51, ix52, ix54, upd_same, Nat.reduceAdd, Nat.reduceSub, Nat.zero_add, Int.reduceToNat, Int.reduceLE, Int.reduceLT, decide_eq_true_eq, Bool.not_eq_true, if_true, if_false, Bool.false_eq_true, ite_true, ite_false, Bool.not_true, Bool.not_false, decide_true, decide_false, tFor_eq, tLc_eq, iList, iTup, iRng1, iRng2, iStr, tSl, tPart, tNoPart, rSlL, cxOf_K, wipe, ex_ty2, kit_LTl, kit_LTt, kit_LTd, kit_LTs, kit_LTn, kit_LTb, kit_LTi, tM1, rIxS, exists_eq', lt1p, tDNewK, rSlS, rEqNil, hg6, List.length_map]
                refine ⟨p, l, _, _, rfl, by omega, by omega, w6.pool, by omega, fun u H7 u0 u1 hp7 off7 => ?_⟩
                have w7 := w6.turn hp7 (Off.s off7)
                obtain ⟨v, hv, hm, _⟩ := atI_ex (xs := gs.map V.str) (i := u) u0 (by rw [List.length_map]; exact u1)
                obtain ⟨z1, hz1, rfl⟩ := List.mem_map.mp hm
                try simp only [tSeq, tNext, tRet, tRetN, tAsg, gName, gSub, tDrop, tIfS, tOp, tUn, tCB, tCons, tNil, tC, tVar, rI, rI0, rU, tAnd, tOr, tNot, tAndV, tOrV, tNotV, tIf, tTest, tB, tCall, tChain, tLst, tTup, tYes, rIxH, rIsB, rIsBT, rMulS, kd_non, kd_bl, kd_int, kd_str, kd_ref, kdO_lst, kdO_tup, kdO_dK, nq_n, nq_b, nq_i, nq_s, nq_l, nq_t, nq_d, ne_eq, not_false_eq_true, kit_ss, kit_ns, kit_bs, kit_is, kit_ls, kit_ts, kit_ds, kit_bb, V.ty.injEq, and_assoc, rIxU, rLenH, rLenU, rLenS, rInt1, rSetL, rEq, rNe, rCat, L2.start, List.map, List.length, List.length_cons, List.length_nil, List.replicate, List.getElem?_cons_zero, List.getElem?_cons_succ, List.set_cons_zero, List.set_cons_succ, List.set_nil, List.cons_append, List.nil_append, List.append_nil, Option.some.injEq, V.int.injEq, V.ref.injEq, V.str.injEq, V.bl.injEq, HO.lst.injEq, HO.tup.injEq, exists_eq_left', exists_and_left, exists_eq_left, List.cons.injEq, and_true, true_and, and_false, false_and, and_self, reduceCtorEq, exists_false, or_false, false_or, exists_const, at0, at1, at2, at3, at4, at5, ix51, ix52, ix54, upd_same, Nat.reduceAdd, Nat.reduceSub, Nat.zero_add, Int.reduceToNat, Int.reduceLE, Int.reduceLT, decide_eq_true_eq, Bool.not_eq_true, if_true, if_false, Bool.false_eq_true, ite_true, ite_false, Bool.not_true, Bool.not_false, decide_true, decide_false, tFor_eq, tLc_eq, iList, iTup, iRng1, iRng2, iStr, tSl, tPart, tNoPart, rSlL, cxOf_K, wipe, ex_ty2, kit_LTl, kit_LTt, kit_LTd, kit_LTs, kit_LTn, kit_LTb, kit_LTi, tM1, rIxS, exists_eq', lt1p, tDNewK, rSlS, rEqNil, w7.kn _ _ (gw.gg _ _ fg), hv]
                exact h1 _ _ _ ⟨_, rfl, gok z1 hz1⟩ w7 (Gw.of (Off.s off7))
              · rw [rngV_len] at ha w6
                rw [Nat.one_mul] at w6
                have accL : acc.all isLineV = true := List.all_eq_true.mpr fun v hv => by
                  obtain ⟨z, rfl, _, h⟩ := hP v hv
                  exact h
                have accT : ∀ v ∈ acc, ∀ {H' : Hp}, Thg H' v := fun v hv H' => by
                  obtain ⟨z, rfl, h, _⟩ := hP v hv
                  exact .str h
                have fo6 := gw.gg _ _ fo
                have odd6 : ∀ v ∈ os, Thg G6 v := fun v hv => (odd v hv).mono gw.gg
                have sg := gw.gg
                clear gw hP
                try simp only [tSeq, tNext, tRet, tRetN, tAsg, gName, gSub, tDrop, tIfS, tOp, tUn, tCB, tCons, tNil, tC, tVar, rI, rI0, rU, tAnd, tOr, tNot, tAndV, tOrV, tNotV, tIf, tTest, tB, tCall, tChain, tLst, tTup, tYes, rIxH, rIsB, rIsBT, rMulS, kd_non, kd_bl, kd_int, kd_str, kd_ref, kdO_lst, kdO_tup, kdO_dK, nq_n, nq_b, nq_i, nq_s, nq_l, nq_t, nq_d, ne_eq, not_false_eq_true, kit_ss, kit_ns, kit_bs, kit_is, kit_ls, kit_ts, kit_ds, kit_bb, V.ty.injEq, and_assoc, rIxU, rLenH, rLenU, rLenS, rInt1, rSetL, rEq, rNe, rCat, L2.start, List.map, List.length, List.length_cons, List.length_nil, List.replicate, List.getElem?_cons_zero, List.getElem?_cons_succ, List.set_cons_zero, List.set_cons_succ, List.set_nil, List.cons_append, List.nil_append, List.append_nil, Option.some.injEq, V.int.injEq, V.ref.injEq, V.str.injEq, V.bl.injEq, HO.lst.injEq, HO.tup.injEq, exists_eq_left', exists_and_left, exists_eq_left, List.cons.injEq, and_true, true_and, and_false, false_and, and_self, reduceCtorEq, exists_false, or_false, false_or, exists_const, at0, at1, at2, at3, at4, at5, ix51, ix52, ix54, upd_same, Nat.reduceAdd, Nat.reduceSub, Nat.zero_add, Int.reduceToNat, Int.reduceLE, Int.reduceLT, decide_eq_true_eq, Bool.not_eq_true, if_true, if_false, Bool.false_eq_true, ite_true, ite_false, Bool.not_true, Bool.not_false, decide_true, decide_false, tFor_eq, tLc_eq, iList, iTup, iRng1, iRng2, iStr, tSl, tPart, tNoPart, rSlL, cxOf_K, wipe, ex_ty2, kit_LTl, kit_LTt, kit_LTd, kit_LTs, kit_LTn, kit_LTb, kit_LTi, tM1, rIxS, exists_eq', lt1p, tDNewK, rSlS, rEqNil]
                refine ⟨p, l, _, _, rfl, by omega, by omega, w6.pool, by omega, fun u H7 u0 u1 hp7 off7 => ?_⟩
                have w7 := w6.turn hp7 (Off.s off7)
                have eu : u = ((u.toNat : Nat) : Int) := (Int.toNat_of_nonneg u0).symm
                have hu : u.toNat ≤ m := by omega
                generalize u.toNat = n at eu hu
                subst eu
                try simp only [tSeq, tNext, tRet, tRetN, tAsg, gName, gSub, tDrop, tIfS, tOp, tUn, tCB, tCons, tNil, tC, tVar, rI, rI0, rU, tAnd, tOr, tNot, tAndV, tOrV, tNotV, tIf, tTest, tB, tCall, tChain, tLst, tTup, tYes, rIxH, rIsB, rIsBT, rMulS, kd_non, kd_bl, kd_int, kd_str, kd_ref, kdO_lst, kdO_tup, kdO_dK, nq_n, nq_b, nq_i, nq_s, nq_l, nq_t, nq_d, ne_eq, not_false_eq_true, kit_ss, kit_ns, kit_bs, kit_is, kit_ls, kit_ts, kit_ds, kit_bb, V.ty.injEq, and_assoc, rIxU, rLenH, rLenU, rLenS, rInt1, rSetL, rEq, rNe, rCat, L2.start, List.map, List.length, List.length_cons, List.length_nil, List.replicate, List.getElem?_cons_zero, List.getElem?_cons_succ, List.set_cons_zero, List.set_cons_succ, List.set_nil, List.cons_append, List.nil_append, List.append_nil, Option.some.injEq, V.int.injEq, V.ref.injEq, V.str.injEq, V.bl.injEq, HO.lst.injEq, HO.tup.injEq, exists_eq_left', exists_and_left, exists_eq_left, List.cons.injEq, and_true, true_and, and_false, false_and, and_self, reduceCtorEq, exists_false, or_false, false_or, exists_const, at0, at1, at2, at3, at4, at5, ix51, ix52, ix54, upd_same, Nat.reduceAdd, Nat.reduceSub, Nat.zero_add, Int.reduceToNat, Int.reduceLE, Int.reduceLT, decide_eq_true_eq, Bool.not_eq_true, if_true, if_false, Bool.false_eq_true, ite_true, ite_false, Bool.not_true, Bool.not_false, decide_true, decide_false, tFor_eq, tLc_eq, iList, iTup, iRng1, iRng2, iStr, tSl, tPart, tNoPart, rSlL, cxOf_K, wipe, ex_ty2, kit_LTl, kit_LTt, kit_LTd, kit_LTs, kit_LTn, kit_LTb, kit_LTi, tM1, rIxS, exists_eq', lt1p, tDNewK, rSlS, rEqNil]
                refine ⟨acc, SqL.of (w7.kn _ _ hD'), ?_⟩
                intro q6 n_q6; generalize g_H8 : upd H7 q6 _ = H8; obtain ⟨s_H8, h_q6⟩ := new_facts n_q6 g_H8; clear g_H8; obtain ⟨G8, w_G8, k_G8, f_q6⟩ := w7.alloc n_q6 s_H8 h_q6
                rw [cut_to] at h_q6 f_q6
                have fo8 := w_G8.kn _ _ (k_G8 _ _ fo6)
                try simp only [tSeq, tNext, tRet, tRetN, tAsg, gName, gSub, tDrop, tIfS, tOp, tUn, tCB, tCons, tNil, tC, tVar, rI, rI0, rU, tAnd, tOr, tNot, tAndV, tOrV, tNotV, tIf, tTest, tB, tCall, tChain, tLst, tTup, tYes, rIxH, rIsB, rIsBT, rMulS, kd_non, kd_bl, kd_int, kd_str, kd_ref, kdO_lst, kdO_tup, kdO_dK, nq_n, nq_b, nq_i, nq_s, nq_l, nq_t, nq_d, ne_eq, not_false_eq_true, kit_ss, kit_ns, kit_bs, kit_is, kit_ls, kit_ts, kit_ds, kit_bb, V.ty.injEq, and_assoc, rIxU, rLenH, rLenU, rLenS, rInt1, rSetL, rEq, rNe, rCat, L2.start, List.map, List.length, List.length_cons, List.length_nil, List.replicate, List.getElem?_cons_zero, List.getElem?_cons_succ, List.set_cons_zero, List.set_cons_succ, List.set_nil, List.cons_append, List.nil_append, List.append_nil, Option.some.injEq, V.int.injEq, V.ref.injEq, V.str.injEq, V.bl.injEq, HO.lst.injEq, HO.tup.injEq, exists_eq_left', exists_and_left, exists_eq_left, List.cons.injEq, and_true, true_and, and_false, false_and, and_self, reduceCtorEq, exists_false, or_false, false_or, exists_const, at0, at1, at2, at3, at4, at5, ix51, ix52, ix54, upd_same, Nat.reduceAdd, Nat.reduceSub, Nat.zero_add, Int.reduceToNat, Int.reduceLE, Int.reduceLT, decide_eq_true_eq, Bool.not_eq_true, if_true, if_false, Bool.false_eq_true, ite_true, ite_false, Bool.not_true, Bool.not_false, decide_true, decide_false, tFor_eq, tLc_eq, iList, iTup, iRng1, iRng2, iStr, tSl, tPart, tNoPart, rSlL, cxOf_K, wipe, ex_ty2, kit_LTl, kit_LTt, kit_LTd, kit_LTs, kit_LTn, kit_LTb, kit_LTi, tM1, rIxS, exists_eq', lt1p, tDNewK, rSlS, rEqNil, fo8, ol]
                refine ⟨p, l, _, _, rfl, by omega, by omega, w_G8.pool, by omega, fun u H9 u0 u1 hp9 off9 => ?_⟩
                have w9 := w_G8.turn hp9 (Off.s off9)
                obtain ⟨x5, hx5, hm5, _⟩ := atI_ex (xs := os) (i := u) u0 (by rw [ol]; exact u1)
                have tx5 := odd6 x5 hm5
                try simp only [tSeq, tNext, tRet, tRetN, tAsg, gName, gSub, tDrop, tIfS, tOp, tUn, tCB, tCons, tNil, tC, tVar, rI, rI0, rU, tAnd, tOr, tNot, tAndV, tOrV, tNotV, tIf, tTest, tB, tCall, tChain, tLst, tTup, tYes, rIxH, rIsB, rIsBT, rMulS, kd_non, kd_bl, kd_int, kd_str, kd_ref, kdO_lst, kdO_tup, kdO_dK, nq_n, nq_b, nq_i, nq_s, nq_l, nq_t, nq_d, ne_eq, not_false_eq_true, kit_ss, kit_ns, kit_bs, kit_is, kit_ls, kit_ts, kit_ds, kit_bb, V.ty.injEq, and_assoc, rIxU, rLenH, rLenU, rLenS, rInt1, rSetL, rEq, rNe, rCat, L2.start, List.map, List.length, List.length_cons, List.length_nil, List.replicate, List.getElem?_cons_zero, List.getElem?_cons_succ, List.set_cons_zero, List.set_cons_succ, List.set_nil, List.cons_append, List.nil_append, List.append_nil, Option.some.injEq, V.int.injEq, V.ref.injEq, V.str.injEq, V.bl.injEq, HO.lst.injEq, HO.tup.injEq, exists_eq_left', exists_and_left, exists_eq_left, List.cons.injEq, and_true, true_and, and_false, false_and, and_self, reduceCtorEq, exists_false, or_false, false_or, exists_const, at0, at1, at2, at3, at4, at5, ix51, ix52, ix54, upd_same, Nat.reduceAdd, Nat.reduceSub, Nat.zero_add, Int.reduceToNat, Int.reduceLE, Int.reduceLT, decide_eq_true_eq, Bool.not_eq_true, if_true, if_false, Bool.false_eq_true, ite_true, ite_false, Bool.not_true, Bool.not_false, decide_true, decide_false, tFor_eq, tLc_eq, iList, iTup, iRng1, iRng2, iStr, tSl, tPart, tNoPart, rSlL, cxOf_K, wipe, ex_ty2, kit_LTl, kit_LTt, kit_LTd, kit_LTs, kit_LTn, kit_LTb, kit_LTi, tM1, rIxS, exists_eq', lt1p, tDNewK, rSlS, rEqNil, w9.kn _ _ (k_G8 _ _ fo6), hx5]
                refine ⟨by decide, ?_⟩
                intro q7 n_q7; generalize g_H10 : upd H9 q7 _ = H10; obtain ⟨s_H10, h_q7⟩ := new_facts n_q7 g_H10; clear g_H10; obtain ⟨G10, w_G10, k_G10, f_q7⟩ := w9.alloc n_q7 s_H10 h_q7
                try simp only [tSeq, tNext, tRet, tRetN, tAsg, gName, gSub, tDrop, tIfS, tOp, tUn, tCB, tCons, tNil, tC, tVar, rI, rI0, rU, tAnd, tOr, tNot, tAndV, tOrV, tNotV, tIf, tTest, tB, tCall, tChain, tLst, tTup, tYes, rIxH, rIsB, rIsBT, rMulS, kd_non, kd_bl, kd_int, kd_str, kd_ref, kdO_lst, kdO_tup, kdO_dK, nq_n, nq_b, nq_i, nq_s, nq_l, nq_t, nq_d, ne_eq, not_false_eq_true, kit_ss, kit_ns, kit_bs, kit_is, kit_ls, kit_ts, kit_ds, kit_bb, V.ty.injEq, and_assoc, rIxU, rLenH, rLenU, rLenS, rInt1, rSetL, rEq, rNe, rCat, L2.start, List.map, List.length, List.length_cons, List.length_nil, List.replicate, List.getElem?_cons_zero, List.getElem?_cons_succ, List.set_cons_zero, List.set_cons_succ, List.set_nil, List.cons_append, List.nil_append, List.append_nil, Option.some.injEq, V.int.injEq, V.ref.injEq, V.str.injEq, V.bl.injEq, HO.lst.injEq, HO.tup.injEq, exists_eq_left', exists_and_left, exists_eq_left, List.cons.injEq, and_true, true_and, and_false, false_and, and_self, reduceCtorEq, exists_false, or_false, false_or, exists_const, at0, at1, at2, at3, at4, at5, ix51, ix52, ix54, upd_same, Nat.reduceAdd, Nat.reduceSub, Nat.zero_add, Int.reduceToNat, Int.reduceLE, Int.reduceLT, decide_eq_true_eq, Bool.not_eq_true, if_true, if_false, Bool.false_eq_true, ite_true, ite_false, Bool.not_true, Bool.not_false, decide_true, decide_false, tFor_eq, tLc_eq, iList, iTup, iRng1, iRng2, iStr, tSl, tPart, tNoPart, rSlL, cxOf_K, wipe, ex_ty2, kit_LTl, kit_LTt, kit_LTd, kit_LTs, kit_LTn, kit_LTb, kit_LTi, tM1, rIxS, exists_eq', lt1p, tDNewK, rSlS, rEqNil, w_G10.kn _ _ (k_G10 _ _ f_q6), h_q7]
                refine ⟨size1000 (by rw [List.length_take]; omega), ?_⟩
                intro q8 n_q8; generalize g_H11 : upd H10 q8 _ = H11; obtain ⟨s_H11, h_q8⟩ := new_facts n_q8 g_H11; clear g_H11; obtain ⟨G11, w_G11, k_G11, f_q8⟩ := w_G10.alloc n_q8 s_H11 h_q8
                try simp only [tSeq, tNext, tRet, tRetN, tAsg, gName, gSub, tDrop, tIfS, tOp, tUn, tCB, tCons, tNil, tC, tVar, rI, rI0, rU, tAnd, tOr, tNot, tAndV, tOrV, tNotV, tIf, tTest, tB, tCall, tChain, tLst, tTup, tYes, rIxH, rIsB, rIsBT, rMulS, kd_non, kd_bl, kd_int, kd_str, kd_ref, kdO_lst, kdO_tup, kdO_dK, nq_n, nq_b, nq_i, nq_s, nq_l, nq_t, nq_d, ne_eq, not_false_eq_true, kit_ss, kit_ns, kit_bs, kit_is, kit_ls, kit_ts, kit_ds, kit_bb, V.ty.injEq, and_assoc, rIxU, rLenH, rLenU, rLenS, rInt1, rSetL, rEq, rNe, rCat, L2.start, List.map, List.length, List.length_cons, List.length_nil, List.replicate, List.getElem?_cons_zero, List.getElem?_cons_succ, List.set_cons_zero, List.set_cons_succ, List.set_nil, List.cons_append, List.nil_append, List.append_nil, Option.some.injEq, V.int.injEq, V.ref.injEq, V.str.injEq, V.bl.injEq, HO.lst.injEq, HO.tup.injEq, exists_eq_left', exists_and_left, exists_eq_left, List.cons.injEq, and_true, true_and, and_false, false_and, and_self, reduceCtorEq, exists_false, or_false, false_or, exists_const, at0, at1, at2, at3, at4, at5, ix51, ix52, ix54, upd_same, Nat.reduceAdd, Nat.reduceSub, Nat.zero_add, Int.reduceToNat, Int.reduceLE, Int.reduceLT, decide_eq_true_eq, Bool.not_eq_true, if_true, if_false, Bool.false_eq_true, ite_true, ite_false, Bool.not_true, Bool.not_false, decide_true, decide_false, tFor_eq, tLc_eq, iList, iTup, iRng1, iRng2, iStr, tSl, tPart, tNoPart, rSlL, cxOf_K, wipe, ex_ty2, kit_LTl, kit_LTt, kit_LTd, kit_LTs, kit_LTn, kit_LTb, kit_LTi, tM1, rIxS, exists_eq', lt1p, tDNewK, rSlS, rEqNil]
                refine ⟨acc, SqL.of (w_G11.kn _ _ (k_G11 _ _ (k_G10 _ _ (k_G8 _ _ hD')))), ?_⟩
                intro q9 n_q9; generalize g_H12 : upd H11 q9 _ = H12; obtain ⟨s_H12, h_q9⟩ := new_facts n_q9 g_H12; clear g_H12; obtain ⟨G12, w_G12, k_G12, f_q9⟩ := w_G11.alloc n_q9 s_H12 h_q9
                rw [cut_from1] at h_q9 f_q9
                try simp only [tSeq, tNext, tRet, tRetN, tAsg, gName, gSub, tDrop, tIfS, tOp, tUn, tCB, tCons, tNil, tC, tVar, rI, rI0, rU, tAnd, tOr, tNot, tAndV, tOrV, tNotV, tIf, tTest, tB, tCall, tChain, tLst, tTup, tYes, rIxH, rIsB, rIsBT, rMulS, kd_non, kd_bl, kd_int, kd_str, kd_ref, kdO_lst, kdO_tup, kdO_dK, nq_n, nq_b, nq_i, nq_s, nq_l, nq_t, nq_d, ne_eq, not_false_eq_true, kit_ss, kit_ns, kit_bs, kit_is, kit_ls, kit_ts, kit_ds, kit_bb, V.ty.injEq, and_assoc, rIxU, rLenH, rLenU, rLenS, rInt1, rSetL, rEq, rNe, rCat, L2.start, List.map, List.length, List.length_cons, List.length_nil, List.replicate, List.getElem?_cons_zero, List.getElem?_cons_succ, List.set_cons_zero, List.set_cons_succ, List.set_nil, List.cons_append, List.nil_append, List.append_nil, Option.some.injEq, V.int.injEq, V.ref.injEq, V.str.injEq, V.bl.injEq, HO.lst.injEq, HO.tup.injEq, exists_eq_left', exists_and_left, exists_eq_left, List.cons.injEq, and_true, true_and, and_false, false_and, and_self, reduceCtorEq, exists_false, or_false, false_or, exists_const, at0, at1, at2, at3, at4, at5, ix51, ix52, ix54, upd_same, Nat.reduceAdd, Nat.reduceSub, Nat.zero_add, Int.reduceToNat, Int.reduceLE, Int.reduceLT, decide_eq_true_eq, Bool.not_eq_true, if_true, if_false, Bool.false_eq_true, ite_true, ite_false, Bool.not_true, Bool.not_false, decide_true, decide_false, tFor_eq, tLc_eq, iList, iTup, iRng1, iRng2, iStr, tSl, tPart, tNoPart, rSlL, cxOf_K, wipe, ex_ty2, kit_LTl, kit_LTt, kit_LTd, kit_LTs, kit_LTn, kit_LTb, kit_LTi, tM1, rIxS, exists_eq', lt1p, tDNewK, rSlS, rEqNil, w_G12.kn _ _ (k_G12 _ _ f_q8), h_q9, cut_from1]
                refine ⟨size1000 (by rw [List.length_append, List.length_take, List.length_drop]; show _ + 1 + _ ≤ _; omega), ?_⟩
                intro q10 n_q10; generalize g_H13 : upd H12 q10 _ = H13; obtain ⟨s_H13, h_q10⟩ := new_facts n_q10 g_H13; clear g_H13; obtain ⟨G13, w_G13, k_G13, f_q10⟩ := w_G12.alloc n_q10 s_H13 h_q10
                have sg13 : Same G6 G13 := k_G8.trans (k_G10.trans (k_G11.trans (k_G12.trans k_G13)))
                have hbt : ∀ v ∈ acc.take n ++ [x5] ++ acc.drop (n + 1), Thg G13 v := fun v hv => by
                  rcases List.mem_append.mp hv with h | h
                  · rcases List.mem_append.mp h with h | h
                    · exact accT v (List.mem_of_mem_take h)
                    · rw [List.mem_singleton.mp h]
                      exact tx5.mono sg13
                  · exact accT v (List.mem_of_mem_drop h)
                have hbl : (acc.take n ++ [x5] ++ acc.drop (n + 1)).length ≤ 20 := by
                  rw [List.length_append, List.length_append, List.length_take, List.length_drop]
                  show _ + 1 + _ ≤ _
                  omega
                generalize acc.take n ++ [x5] ++ acc.drop (n + 1) = bent at h_q10 f_q10 hbt hbl
                have hD13 := sg13 _ _ hD'
                try simp only [tSeq, tNext, tRet, tRetN, tAsg, gName, gSub, tDrop, tIfS, tOp, tUn, tCB, tCons, tNil, tC, tVar, rI, rI0, rU, tAnd, tOr, tNot, tAndV, tOrV, tNotV, tIf, tTest, tB, tCall, tChain, tLst, tTup, tYes, rIxH, rIsB, rIsBT, rMulS, kd_non, kd_bl, kd_int, kd_str, kd_ref, kdO_lst, kdO_tup, kdO_dK, nq_n, nq_b, nq_i, nq_s, nq_l, nq_t, nq_d, ne_eq, not_false_eq_true, kit_ss, kit_ns, kit_bs, kit_is, kit_ls, kit_ts, kit_ds, kit_bb, V.ty.injEq, and_assoc, rIxU, rLenH, rLenU, rLenS, rInt1, rSetL, rEq, rNe, rCat, L2.start, List.map, List.length, List.length_cons, List.length_nil, List.replicate, List.getElem?_cons_zero, List.getElem?_cons_succ, List.set_cons_zero, List.set_cons_succ, List.set_nil, List.cons_append, List.nil_append, List.append_nil, Option.some.injEq, V.int.injEq, V.ref.injEq, V.str.injEq, V.bl.injEq, HO.lst.injEq, HO.tup.injEq, exists_eq_left', exists_and_left, exists_eq_left, List.cons.injEq, and_true, true_and, and_false, false_and, and_self, reduceCtorEq, exists_false, or_false, false_or, exists_const, at0, at1, at2, at3, at4, at5, ix51, ix52, ix54, upd_same, Nat.reduceAdd, Nat.reduceSub, Nat.zero_add, Int.reduceToNat, Int.reduceLE, Int.reduceLT, decide_eq_true_eq, Bool.not_eq_true, if_true, if_false, Bool.false_eq_true, ite_true, ite_false, Bool.not_true, Bool.not_false, decide_true, decide_false, tFor_eq, tLc_eq, iList, iTup, iRng1, iRng2, iStr, tSl, tPart, tNoPart, rSlL, cxOf_K, wipe, ex_ty2, kit_LTl, kit_LTt, kit_LTd, kit_LTs, kit_LTn, kit_LTb, kit_LTi, tM1, rIxS, exists_eq', lt1p, tDNewK, rSlS, rEqNil]
                refine ⟨acc, .inl ⟨SqL.of (w_G13.kn _ _ hD13), ?_⟩⟩
                intro q11 n_q11; generalize g_H14 : upd H13 q11 _ = H14; obtain ⟨s_H14, h_q11⟩ := new_facts n_q11 g_H14; clear g_H14; obtain ⟨G14, w_G14, k_G14, f_q11⟩ := w_G13.alloc n_q11 s_H14 h_q11
                refine ⟨by decide, ?_⟩
                intro q12 n_q12; generalize g_H15 : upd H14 q12 _ = H15; obtain ⟨s_H15, h_q12⟩ := new_facts n_q12 g_H15; clear g_H15; obtain ⟨G15, w_G15, k_G15, f_q12⟩ := w_G14.alloc n_q12 s_H15 h_q12
                have hD15 := k_G15 _ _ (k_G14 _ _ hD13)
                have hU15 := k_G15 _ _ f_q11
                have hB15 := k_G15 _ _ (k_G14 _ _ f_q10)
                have bt15 : ∀ v ∈ bent, Thg G15 v := fun v hv => (hbt v hv).mono (k_G14.trans k_G15)
                have sg15 : Same G4 G15 := sg.trans (sg13.trans (k_G14.trans k_G15))
                have hc15 : Wd p l (500 + 100 * (i + 1)) G15 H15 := w_G15.mono (by omega)
                refine ⟨⟨_, SqL.of h_q12⟩, for_go (walk_list (K := K) (xs := [V.ref D3, V.ref q11])) (L4 a p l b q4 D2 D3 q10 m G15 (500 + 100 * (i + 1))) ⟨_, _, _, _, _, _, rfl, hc15⟩ (fun i σ H' _ q => ?_) (fun j x σ H' hx q => ?_) (fun σ H' q => ?_)⟩
                · obtain ⟨v3, v4, v5, v7, v12, v13, rfl, w'⟩ := q
                  exact SqL.of (w'.kn _ _ f_q12)
                · obtain ⟨v3, v4, v5, v7, v12, v13, rfl, w'⟩ := q
                  have hd' := w'.kn _ _ hD15
                  have hu' := w'.kn _ _ hU15
                  have hx2 : Thg H' x ∧ seqV H' x = some acc := by
                    have hm := List.mem_of_getElem? hx
                    simp only [List.mem_cons, List.not_mem_nil, or_false] at hm
                    rcases hm with rfl | rfl
                    · exact ⟨.lst hd', by show seqO (H' D3) = _; rw [hd']; rfl⟩
                    · exact ⟨.tup hu', by show seqO (H' q11) = _; rw [hu']; rfl⟩
                  have et : isTextV H' x = decide ((m : Int) ≤ 12) := by
                    rw [text_of hx2.2, accL, Bool.and_true, ha]
                    exact decide_eq_decide.mpr (by omega)
                  try simp only [tSeq, tNext, tRet, tRetN, tAsg, gName, gSub, tDrop, tIfS, tOp, tUn, tCB, tCons, tNil, tC, tVar, rI, rI0, rU, tAnd, tOr, tNot, tAndV, tOrV, tNotV, tIf, tTest, tB, tCall, tChain, tLst, tTup, tYes, rIxH, rIsB, rIsBT, rMulS, kd_non, kd_bl, kd_int, kd_str, kd_ref, kdO_lst, kdO_tup, kdO_dK, nq_n, nq_b, nq_i, nq_s, nq_l, nq_t, nq_d, ne_eq, not_false_eq_true, kit_ss, kit_ns, kit_bs, kit_is, kit_ls, kit_ts, kit_ds, kit_bb, V.ty.injEq, and_assoc, rIxU, rLenH, rLenU, rLenS, rInt1, rSetL, rEq, rNe, rCat, L2.start, List.map, List.length, List.length_cons, List.length_nil, List.replicate, List.getElem?_cons_zero, List.getElem?_cons_succ, List.set_cons_zero, List.set_cons_succ, List.set_nil, List.cons_append, List.nil_append, List.append_nil, Option.some.injEq, V.int.injEq, V.ref.injEq, V.str.injEq, V.bl.injEq, HO.lst.injEq, HO.tup.injEq, exists_eq_left', exists_and_left, exists_eq_left, List.cons.injEq, and_true, true_and, and_false, false_and, and_self, reduceCtorEq, exists_false, or_false, false_or, exists_const, at0, at1, at2, at3, at4, at5, ix51, ix52, ix54, upd_same, Nat.reduceAdd, Nat.reduceSub, Nat.zero_add, Int.reduceToNat, Int.reduceLE, Int.reduceLT, decide_eq_true_eq, Bool.not_eq_true, if_true, if_false, Bool.false_eq_true, ite_true, ite_false, Bool.not_true, Bool.not_false, decide_true, decide_false, tFor_eq, tLc_eq, iList, iTup, iRng1, iRng2, iStr, tSl, tPart, tNoPart, rSlL, cxOf_K, wipe, ex_ty2, kit_LTl, kit_LTt, kit_LTd, kit_LTs, kit_LTn, kit_LTb, kit_LTi, tM1, rIxS, exists_eq', lt1p, tDNewK, rSlS, rEqNil]
                  refine ⟨x, rfl, hx2.1, fun xs hxs => ?_, fun H5 s5 => ?_⟩
                  · have e := Option.some.inj (hx2.2.symm.trans hxs)
                    subst e
                    exact ⟨by omega, fun v hv => accT v hv⟩
                  · rw [et]
                    refine ⟨_, _, rfl, ?_⟩
                    try simp only [tSeq, tNext, tRet, tRetN, tAsg, gName, gSub, tDrop, tIfS, tOp, tUn, tCB, tCons, tNil, tC, tVar, rI, rI0, rU, tAnd, tOr, tNot, tAndV, tOrV, tNotV, tIf, tTest, tB, tCall, tChain, tLst, tTup, tYes, rIxH, rIsB, rIsBT, rMulS, kd_non, kd_bl, kd_int, kd_str, kd_ref, kdO_lst, kdO_tup, kdO_dK, nq_n, nq_b, nq_i, nq_s, nq_l, nq_t, nq_d, ne_eq, not_false_eq_true, kit_ss, kit_ns, kit_bs, kit_is, kit_ls, kit_ts, kit_ds, kit_bb, V.ty.injEq, and_assoc, rIxU, rLenH, rLenU, rLenS, rInt1, rSetL, rEq, rNe, rCat, L2.start, List.map, List.length, List.length_cons, List.length_nil, List.replicate, List.getElem?_cons_zero, List.getElem?_cons_succ, List.set_cons_zero, List.set_cons_succ, List.set_nil, List.cons_append, List.nil_append, List.append_nil, Option.some.injEq, V.int.injEq, V.ref.injEq, V.str.injEq, V.bl.injEq, HO.lst.injEq, HO.tup.injEq, exists_eq_left', exists_and_left, exists_eq_left, List.cons.injEq, and_true, true_and, and_false, false_and, and_self, reduceCtorEq, exists_false, or_false, false_or, exists_const, at0, at1, at2, at3, at4, at5, ix51, ix52, ix54, upd_same, Nat.reduceAdd, Nat.reduceSub, Nat.zero_add, Int.reduceToNat, Int.reduceLE, Int.reduceLT, decide_eq_true_eq, Bool.not_eq_true, if_true, if_false, Bool.false_eq_true, ite_true, ite_false, Bool.not_true, Bool.not_false, decide_true, decide_false, tFor_eq, tLc_eq, iList, iTup, iRng1, iRng2, iStr, tSl, tPart, tNoPart, rSlL, cxOf_K, wipe, ex_ty2, kit_LTl, kit_LTt, kit_LTd, kit_LTs, kit_LTn, kit_LTb, kit_LTi, tM1, rIxS, exists_eq', lt1p, tDNewK, rSlS, rEqNil]
                    exact ⟨_, _, _, _, _, _, rfl, w'.same s5⟩
                · obtain ⟨v3, v4, v5, v7, v12, v13, rfl, w'⟩ := q
                  have hB' := w'.kn _ _ hB15
                  have txt : ∀ (H5 : Hp) (QQ : VK) (EE : XK), Same H' H5 → (∀ H6, Same H5 H6 → QQ (.bl (decide (bent.length ≤ 12) && bent.all isLineV)) H6) → spIsText [.ref q10] H5 QQ EE := fun H5 QQ EE s5 hq => by
                    have e5 := s5 _ _ hB'
                    have sq : seqV H5 (.ref q10) = some bent := by show seqO (H5 q10) = _; rw [e5]; rfl
                    refine ⟨_, rfl, .lst e5, fun xs hxs => ?_, fun H6 s6 => ?_⟩
                    · have e := Option.some.inj (sq.symm.trans hxs)
                      subst e
                      exact ⟨by omega, fun v hv => ((bt15 v hv).mono w'.kn).mono s5⟩
                    · rw [text_of sq]
                      exact hq H6 s6
                  try simp only [tSeq, tNext, tRet, tRetN, tAsg, gName, gSub, tDrop, tIfS, tOp, tUn, tCB, tCons, tNil, tC, tVar, rI, rI0, rU, tAnd, tOr, tNot, tAndV, tOrV, tNotV, tIf, tTest, tB, tCall, tChain, tLst, tTup, tYes, rIxH, rIsB, rIsBT, rMulS, kd_non, kd_bl, kd_int, kd_str, kd_ref, kdO_lst, kdO_tup, kdO_dK, nq_n, nq_b, nq_i, nq_s, nq_l, nq_t, nq_d, ne_eq, not_false_eq_true, kit_ss, kit_ns, kit_bs, kit_is, kit_ls, kit_ts, kit_ds, kit_bb, V.ty.injEq, and_assoc, rIxU, rLenH, rLenU, rLenS, rInt1, rSetL, rEq, rNe, rCat, L2.start, List.map, List.length, List.length_cons, List.length_nil, List.replicate, List.getElem?_cons_zero, List.getElem?_cons_succ, List.set_cons_zero, List.set_cons_succ, List.set_nil, List.cons_append, List.nil_append, List.append_nil, Option.some.injEq, V.int.injEq, V.ref.injEq, V.str.injEq, V.bl.injEq, HO.lst.injEq, HO.tup.injEq, exists_eq_left', exists_and_left, exists_eq_left, List.cons.injEq, and_true, true_and, and_false, false_and, and_self, reduceCtorEq, exists_false, or_false, false_or, exists_const, at0, at1, at2, at3, at4, at5, ix51, ix52, ix54, upd_same, Nat.reduceAdd, Nat.reduceSub, Nat.zero_add, Int.reduceToNat, Int.reduceLE, Int.reduceLT, decide_eq_true_eq, Bool.not_eq_true, if_true, if_false, Bool.false_eq_true, ite_true, ite_false, Bool.not_true, Bool.not_false, decide_true, decide_false, tFor_eq, tLc_eq, iList, iTup, iRng1, iRng2, iStr, tSl, tPart, tNoPart, rSlL, cxOf_K, wipe, ex_ty2, kit_LTl, kit_LTt, kit_LTd, kit_LTs, kit_LTn, kit_LTb, kit_LTi, tM1, rIxS, exists_eq', lt1p, tDNewK, rSlS, rEqNil, hB']
                  refine ite2 (fun hlen => ⟨⟨_, SqL.of hB'⟩, fun D4 hD4 => ?_⟩) (fun hlen => ?_)
                  · refine lc_same (walk_list (K := K) (xs := bent)) (fun v => !isLineV v) id hD4 (fun H3 s3 => s3.seq (SqL.of hB')) (by omega) (fun x hx H7 s7 R R0 h1 h0 => ?_) (fun H7 s7 h7 => ?_)
                    · try simp only [tSeq, tNext, tRet, tRetN, tAsg, gName, gSub, tDrop, tIfS, tOp, tUn, tCB, tCons, tNil, tC, tVar, rI, rI0, rU, tAnd, tOr, tNot, tAndV, tOrV, tNotV, tIf, tTest, tB, tCall, tChain, tLst, tTup, tYes, rIxH, rIsB, rIsBT, rMulS, kd_non, kd_bl, kd_int, kd_str, kd_ref, kdO_lst, kdO_tup, kdO_dK, nq_n, nq_b, nq_i, nq_s, nq_l, nq_t, nq_d, ne_eq, not_false_eq_true, kit_ss, kit_ns, kit_bs, kit_is, kit_ls, kit_ts, kit_ds, kit_bb, V.ty.injEq, and_assoc, rIxU, rLenH, rLenU, rLenS, rInt1, rSetL, rEq, rNe, rCat, L2.start, List.map, List.length, List.length_cons, List.length_nil, List.replicate, List.getElem?_cons_zero, List.getElem?_cons_succ, List.set_cons_zero, List.set_cons_succ, List.set_nil, List.cons_append, List.nil_append, List.append_nil, Option.some.injEq, V.int.injEq, V.ref.injEq, V.str.injEq, V.bl.injEq, HO.lst.injEq, HO.tup.injEq, exists_eq_left', exists_and_left, exists_eq_left, List.cons.injEq, and_true, true_and, and_false, false_and, and_self, reduceCtorEq, exists_false, or_false, false_or, exists_const, at0, at1, at2, at3, at4, at5, ix51, ix52, ix54, upd_same, Nat.reduceAdd, Nat.reduceSub, Nat.zero_add, Int.reduceToNat, Int.reduceLE, Int.reduceLT, decide_eq_true_eq, Bool.not_eq_true, if_true, if_false, Bool.false_eq_true, ite_true, ite_false, Bool.not_true, Bool.not_false, decide_true, decide_false, tFor_eq, tLc_eq, iList, iTup, iRng1, iRng2, iStr, tSl, tPart, tNoPart, rSlL, cxOf_K, wipe, ex_ty2, kit_LTl, kit_LTt, kit_LTd, kit_LTs, kit_LTn, kit_LTb, kit_LTi, tM1, rIxS, exists_eq', lt1p, tDNewK, rSlS, rEqNil]
                      refine ⟨x, rfl, ((bt15 x hx).mono w'.kn).mono s7, fun H8 s8 => ?_⟩
                      try simp only [tSeq, tNext, tRet, tRetN, tAsg, gName, gSub, tDrop, tIfS, tOp, tUn, tCB, tCons, tNil, tC, tVar, rI, rI0, rU, tAnd, tOr, tNot, tAndV, tOrV, tNotV, tIf, tTest, tB, tCall, tChain, tLst, tTup, tYes, rIxH, rIsB, rIsBT, rMulS, kd_non, kd_bl, kd_int, kd_str, kd_ref, kdO_lst, kdO_tup, kdO_dK, nq_n, nq_b, nq_i, nq_s, nq_l, nq_t, nq_d, ne_eq, not_false_eq_true, kit_ss, kit_ns, kit_bs, kit_is, kit_ls, kit_ts, kit_ds, kit_bb, V.ty.injEq, and_assoc, rIxU, rLenH, rLenU, rLenS, rInt1, rSetL, rEq, rNe, rCat, L2.start, List.map, List.length, List.length_cons, List.length_nil, List.replicate, List.getElem?_cons_zero, List.getElem?_cons_succ, List.set_cons_zero, List.set_cons_succ, List.set_nil, List.cons_append, List.nil_append, List.append_nil, Option.some.injEq, V.int.injEq, V.ref.injEq, V.str.injEq, V.bl.injEq, HO.lst.injEq, HO.tup.injEq, exists_eq_left', exists_and_left, exists_eq_left, List.cons.injEq, and_true, true_and, and_false, false_and, and_self, reduceCtorEq, exists_false, or_false, false_or, exists_const, at0, at1, at2, at3, at4, at5, ix51, ix52, ix54, upd_same, Nat.reduceAdd, Nat.reduceSub, Nat.zero_add, Int.reduceToNat, Int.reduceLE, Int.reduceLT, decide_eq_true_eq, Bool.not_eq_true, if_true, if_false, Bool.false_eq_true, ite_true, ite_false, Bool.not_true, Bool.not_false, decide_true, decide_false, tFor_eq, tLc_eq, iList, iTup, iRng1, iRng2, iStr, tSl, tPart, tNoPart, rSlL, cxOf_K, wipe, ex_ty2, kit_LTl, kit_LTt, kit_LTd, kit_LTs, kit_LTn, kit_LTb, kit_LTi, tM1, rIxS, exists_eq', lt1p, tDNewK, rSlS, rEqNil]
                      exact ite2 (fun h => h1 _ s8 h) (fun h => h0 _ s8 (by simpa using h))
                    · refine ⟨by decide, fun q hq => ?_⟩
                      try simp only [tSeq, tNext, tRet, tRetN, tAsg, gName, gSub, tDrop, tIfS, tOp, tUn, tCB, tCons, tNil, tC, tVar, rI, rI0, rU, tAnd, tOr, tNot, tAndV, tOrV, tNotV, tIf, tTest, tB, tCall, tChain, tLst, tTup, tYes, rIxH, rIsB, rIsBT, rMulS, kd_non, kd_bl, kd_int, kd_str, kd_ref, kdO_lst, kdO_tup, kdO_dK, nq_n, nq_b, nq_i, nq_s, nq_l, nq_t, nq_d, ne_eq, not_false_eq_true, kit_ss, kit_ns, kit_bs, kit_is, kit_ls, kit_ts, kit_ds, kit_bb, V.ty.injEq, and_assoc, rIxU, rLenH, rLenU, rLenS, rInt1, rSetL, rEq, rNe, rCat, L2.start, List.map, List.length, List.length_cons, List.length_nil, List.replicate, List.getElem?_cons_zero, List.getElem?_cons_succ, List.set_cons_zero, List.set_cons_succ, List.set_nil, List.cons_append, List.nil_append, List.append_nil, Option.some.injEq, V.int.injEq, V.ref.injEq, V.str.injEq, V.bl.injEq, HO.lst.injEq, HO.tup.injEq, exists_eq_left', exists_and_left, exists_eq_left, List.cons.injEq, and_true, true_and, and_false, false_and, and_self, reduceCtorEq, exists_false, or_false, false_or, exists_const, at0, at1, at2, at3, at4, at5, ix51, ix52, ix54, upd_same, Nat.reduceAdd, Nat.reduceSub, Nat.zero_add, Int.reduceToNat, Int.reduceLE, Int.reduceLT, decide_eq_true_eq, Bool.not_eq_true, if_true, if_false, Bool.false_eq_true, ite_true, ite_false, Bool.not_true, Bool.not_false, decide_true, decide_false, tFor_eq, tLc_eq, iList, iTup, iRng1, iRng2, iStr, tSl, tPart, tNoPart, rSlL, cxOf_K, wipe, ex_ty2, kit_LTl, kit_LTt, kit_LTd, kit_LTs, kit_LTn, kit_LTb, kit_LTi, tM1, rIxS, exists_eq', lt1p, tDNewK, rSlS, rEqNil, upd_ne (ne_of_none h7 hq), h7]
                      rw [List.map_id, filter_empty]
                      refine txt _ _ _ (s7.trans (same_new hq)) fun H8 s8 => ?_
                      rw [decide_eq_true (show bent.length ≤ 12 by omega), Bool.true_and]
                      refine ⟨_, _, rfl, ?_⟩
                      try simp only [tSeq, tNext, tRet, tRetN, tAsg, gName, gSub, tDrop, tIfS, tOp, tUn, tCB, tCons, tNil, tC, tVar, rI, rI0, rU, tAnd, tOr, tNot, tAndV, tOrV, tNotV, tIf, tTest, tB, tCall, tChain, tLst, tTup, tYes, rIxH, rIsB, rIsBT, rMulS, kd_non, kd_bl, kd_int, kd_str, kd_ref, kdO_lst, kdO_tup, kdO_dK, nq_n, nq_b, nq_i, nq_s, nq_l, nq_t, nq_d, ne_eq, not_false_eq_true, kit_ss, kit_ns, kit_bs, kit_is, kit_ls, kit_ts, kit_ds, kit_bb, V.ty.injEq, and_assoc, rIxU, rLenH, rLenU, rLenS, rInt1, rSetL, rEq, rNe, rCat, L2.start, List.map, List.length, List.length_cons, List.length_nil, List.replicate, List.getElem?_cons_zero, List.getElem?_cons_succ, List.set_cons_zero, List.set_cons_succ, List.set_nil, List.cons_append, List.nil_append, List.append_nil, Option.some.injEq, V.int.injEq, V.ref.injEq, V.str.injEq, V.bl.injEq, HO.lst.injEq, HO.tup.injEq, exists_eq_left', exists_and_left, exists_eq_left, List.cons.injEq, and_true, true_and, and_false, false_and, and_self, reduceCtorEq, exists_false, or_false, false_or, exists_const, at0, at1, at2, at3, at4, at5, ix51, ix52, ix54, upd_same, Nat.reduceAdd, Nat.reduceSub, Nat.zero_add, Int.reduceToNat, Int.reduceLE, Int.reduceLT, decide_eq_true_eq, Bool.not_eq_true, if_true, if_false, Bool.false_eq_true, ite_true, ite_false, Bool.not_true, Bool.not_false, decide_true, decide_false, tFor_eq, tLc_eq, iList, iTup, iRng1, iRng2, iStr, tSl, tPart, tNoPart, rSlL, cxOf_K, wipe, ex_ty2, kit_LTl, kit_LTt, kit_LTd, kit_LTs, kit_LTn, kit_LTb, kit_LTi, tM1, rIxS, exists_eq', lt1p, tDNewK, rSlS, rEqNil]
                      exact ⟨_, _, _, _, _, _, _, _, _, _, rfl, ⟨(((w'.same s7).same (same_new hq)).same s8).pool, sg15.trans ((((w'.same s7).same (same_new hq)).same s8).kn), w_G4.gp, w_G4.gl⟩, Nat.le_refl _⟩
                  · refine txt _ _ _ (Same.refl _) fun H8 s8 => ?_
                    rw [decide_eq_false (show ¬ bent.length ≤ 12 by omega), Bool.false_and]
                    refine ⟨_, _, rfl, ?_⟩
                    try simp only [tSeq, tNext, tRet, tRetN, tAsg, gName, gSub, tDrop, tIfS, tOp, tUn, tCB, tCons, tNil, tC, tVar, rI, rI0, rU, tAnd, tOr, tNot, tAndV, tOrV, tNotV, tIf, tTest, tB, tCall, tChain, tLst, tTup, tYes, rIxH, rIsB, rIsBT, rMulS, kd_non, kd_bl, kd_int, kd_str, kd_ref, kdO_lst, kdO_tup, kdO_dK, nq_n, nq_b, nq_i, nq_s, nq_l, nq_t, nq_d, ne_eq, not_false_eq_true, kit_ss, kit_ns, kit_bs, kit_is, kit_ls, kit_ts, kit_ds, kit_bb, V.ty.injEq, and_assoc, rIxU, rLenH, rLenU, rLenS, rInt1, rSetL, rEq, rNe, rCat, L2.start, List.map, List.length, List.length_cons, List.length_nil, List.replicate, List.getElem?_cons_zero, List.getElem?_cons_succ, List.set_cons_zero, List.set_cons_succ, List.set_nil, List.cons_append, List.nil_append, List.append_nil, Option.some.injEq, V.int.injEq, V.ref.injEq, V.str.injEq, V.bl.injEq, HO.lst.injEq, HO.tup.injEq, exists_eq_left', exists_and_left, exists_eq_left, List.cons.injEq, and_true, true_and, and_false, false_and, and_self, reduceCtorEq, exists_false, or_false, false_or, exists_const, at0, at1, at2, at3, at4, at5, ix51, ix52, ix54, upd_same, Nat.reduceAdd, Nat.reduceSub, Nat.zero_add, Int.reduceToNat, Int.reduceLE, Int.reduceLT, decide_eq_true_eq, Bool.not_eq_true, if_true, if_false, Bool.false_eq_true, ite_true, ite_false, Bool.not_true, Bool.not_false, decide_true, decide_false, tFor_eq, tLc_eq, iList, iTup, iRng1, iRng2, iStr, tSl, tPart, tNoPart, rSlL, cxOf_K, wipe, ex_ty2, kit_LTl, kit_LTt, kit_LTd, kit_LTs, kit_LTn, kit_LTb, kit_LTi, tM1, rIxS, exists_eq', lt1p, tDNewK, rSlS, rEqNil]
                    exact ⟨_, _, _, _, _, _, _, _, _, _, rfl, ⟨(w'.same s8).pool, sg15.trans (w'.same s8).kn, w_G4.gp, w_G4.gl⟩, Nat.le_refl _⟩
            · obtain ⟨v3, v4, v5, v7, v9, v10, v11, v12, v13, c', rfl, w5, hc5⟩ := q
              try simp only [tSeq, tNext, tRet, tRetN, tAsg, gName, gSub, tDrop, tIfS, tOp, tUn, tCB, tCons, tNil, tC, tVar, rI, rI0, rU, tAnd, tOr, tNot, tAndV, tOrV, tNotV, tIf, tTest, tB, tCall, tChain, tLst, tTup, tYes, rIxH, rIsB, rIsBT, rMulS, kd_non, kd_bl, kd_int, kd_str, kd_ref, kdO_lst, kdO_tup, kdO_dK, nq_n, nq_b, nq_i, nq_s, nq_l, nq_t, nq_d, ne_eq, not_false_eq_true, kit_ss, kit_ns, kit_bs, kit_is, kit_ls, kit_ts, kit_ds, kit_bb, V.ty.injEq, and_assoc, rIxU, rLenH, rLenU, rLenS, rInt1, rSetL, rEq, rNe, rCat, L2.start, List.map, List.length, List.length_cons, List.length_nil, List.replicate, List.getElem?_cons_zero, List.getElem?_cons_succ, List.set_cons_zero, List.set_cons_succ, List.set_nil, List.cons_append, List.nil_append, List.append_nil, Option.some.injEq, V.int.injEq, V.ref.injEq, V.str.injEq, V.bl.injEq, HO.lst.injEq, HO.tup.injEq, exists_eq_left', exists_and_left, exists_eq_left, List.cons.injEq, and_true, true_and, and_false, false_and, and_self, reduceCtorEq, exists_false, or_false, false_or, exists_const, at0, at1, at2, at3, at4, at5, ix51, ix52, ix54, upd_same, Nat.reduceAdd, Nat.reduceSub, Nat.zero_add, Int.reduceToNat, Int.reduceLE, Int.reduceLT, decide_eq_true_eq, Bool.not_eq_true, if_true, if_false, Bool.false_eq_true, ite_true, ite_false, Bool.not_true, Bool.not_false, decide_true, decide_false, tFor_eq, tLc_eq, iList, iTup, iRng1, iRng2, iStr, tSl, tPart, tNoPart, rSlL, cxOf_K, wipe, ex_ty2, kit_LTl, kit_LTt, kit_LTd, kit_LTs, kit_LTn, kit_LTb, kit_LTi, tM1, rIxS, exists_eq', lt1p, tDNewK, rSlS, rEqNil]
              intro q6 n_q6; generalize g_H5 : upd H' q6 _ = H5; obtain ⟨s_H5, h_q6⟩ := new_facts n_q6 g_H5; clear g_H5; obtain ⟨G5, w_G5, k_G5, f_q6⟩ := w5.alloc n_q6 s_H5 h_q6
              refine ⟨by decide, ?_⟩
              intro q7 n_q7; generalize g_H6 : upd H5 q7 _ = H6; obtain ⟨s_H6, h_q7⟩ := new_facts n_q7 g_H6; clear g_H6; obtain ⟨G6, w_G6, k_G6, f_q7⟩ := w_G5.alloc n_q7 s_H6 h_q7
              refine ⟨⟨_, SqL.of h_q7⟩, fun D3 hD3 => ?_⟩
              refine lc_same (walk_list (K := K) (xs := [V.non, V.str (Str.ofString "a"), V.int 3, V.ref q6, V.bl true])) (fun _ => false) id hD3 (fun H3 s3 => s3.seq (SqL.of h_q7)) (by show 5 ≤ 100000; decide) (fun x hx H7 s7 R R0 h1 h0 => ?_) (fun H7 s7 h7 => ?_)
              · have hq6 : H7 q6 = some (.dK []) := s7 _ _ (w_G6.kn _ _ (k_G6 _ _ f_q6))
                have hx2 : Thg H7 x ∧ seqV H7 x = none := by
                  simp only [List.mem_cons, List.not_mem_nil, or_false] at hx
                  rcases hx with rfl | rfl | rfl | rfl | rfl
                  · exact ⟨.non, rfl⟩
                  · exact ⟨.str (sm_lit (by decide +kernel)), rfl⟩
                  · exact ⟨.int _, rfl⟩
                  · exact ⟨.dic hq6, by show seqO (H7 q6) = _; rw [hq6]; rfl⟩
                  · exact ⟨.bl _, rfl⟩
                try simp only [tSeq, tNext, tRet, tRetN, tAsg, gName, gSub, tDrop, tIfS, tOp, tUn, tCB, tCons, tNil, tC, tVar, rI, rI0, rU, tAnd, tOr, tNot, tAndV, tOrV, tNotV, tIf, tTest, tB, tCall, tChain, tLst, tTup, tYes, rIxH, rIsB, rIsBT, rMulS, kd_non, kd_bl, kd_int, kd_str, kd_ref, kdO_lst, kdO_tup, kdO_dK, nq_n, nq_b, nq_i, nq_s, nq_l, nq_t, nq_d, ne_eq, not_false_eq_true, kit_ss, kit_ns, kit_bs, kit_is, kit_ls, kit_ts, kit_ds, kit_bb, V.ty.injEq, and_assoc, rIxU, rLenH, rLenU, rLenS, rInt1, rSetL, rEq, rNe, rCat, L2.start, List.map, List.length, List.length_cons, List.length_nil, List.replicate, List.getElem?_cons_zero, List.getElem?_cons_succ, List.set_cons_zero, List.set_cons_succ, List.set_nil, List.cons_append, List.nil_append, List.append_nil, Option.some.injEq, V.int.injEq, V.ref.injEq, V.str.injEq, V.bl.injEq, HO.lst.injEq, HO.tup.injEq, exists_eq_left', exists_and_left, exists_eq_left, List.cons.injEq, and_true, true_and, and_false, false_and, and_self, reduceCtorEq, exists_false, or_false, false_or, exists_const, at0, at1, at2, at3, at4, at5, ix51, ix52, ix54, upd_same, Nat.reduceAdd, Nat.reduceSub, Nat.zero_add, Int.reduceToNat, Int.reduceLE, Int.reduceLT, decide_eq_true_eq, Bool.not_eq_true, if_true, if_false, Bool.false_eq_true, ite_true, ite_false, Bool.not_true, Bool.not_false, decide_true, decide_false, tFor_eq, tLc_eq, iList, iTup, iRng1, iRng2, iStr, tSl, tPart, tNoPart, rSlL, cxOf_K, wipe, ex_ty2, kit_LTl, kit_LTt, kit_LTd, kit_LTs, kit_LTn, kit_LTb, kit_LTi, tM1, rIxS, exists_eq', lt1p, tDNewK, rSlS, rEqNil]
                refine ⟨x, rfl, hx2.1, fun xs hxs => (by rw [hx2.2] at hxs; cases hxs), fun H8 s8 => ?_⟩
                rw [text_no hx2.2]
                try simp only [tSeq, tNext, tRet, tRetN, tAsg, gName, gSub, tDrop, tIfS, tOp, tUn, tCB, tCons, tNil, tC, tVar, rI, rI0, rU, tAnd, tOr, tNot, tAndV, tOrV, tNotV, tIf, tTest, tB, tCall, tChain, tLst, tTup, tYes, rIxH, rIsB, rIsBT, rMulS, kd_non, kd_bl, kd_int, kd_str, kd_ref, kdO_lst, kdO_tup, kdO_dK, nq_n, nq_b, nq_i, nq_s, nq_l, nq_t, nq_d, ne_eq, not_false_eq_true, kit_ss, kit_ns, kit_bs, kit_is, kit_ls, kit_ts, kit_ds, kit_bb, V.ty.injEq, and_assoc, rIxU, rLenH, rLenU, rLenS, rInt1, rSetL, rEq, rNe, rCat, L2.start, List.map, List.length, List.length_cons, List.length_nil, List.replicate, List.getElem?_cons_zero, List.getElem?_cons_succ, List.set_cons_zero, List.set_cons_succ, List.set_nil, List.cons_append, List.nil_append, List.append_nil, Option.some.injEq, V.int.injEq, V.ref.injEq, V.str.injEq, V.bl.injEq, HO.lst.injEq, HO.tup.injEq, exists_eq_left', exists_and_left, exists_eq_left, List.cons.injEq, and_true, true_and, and_false, false_and, and_self, reduceCtorEq, exists_false, or_false, false_or, exists_const, at0, at1, at2, at3, at4, at5, ix51, ix52, ix54, upd_same, Nat.reduceAdd, Nat.reduceSub, Nat.zero_add, Int.reduceToNat, Int.reduceLE, Int.reduceLT, decide_eq_true_eq, Bool.not_eq_true, if_true, if_false, Bool.false_eq_true, ite_true, ite_false, Bool.not_true, Bool.not_false, decide_true, decide_false, tFor_eq, tLc_eq, iList, iTup, iRng1, iRng2, iStr, tSl, tPart, tNoPart, rSlL, cxOf_K, wipe, ex_ty2, kit_LTl, kit_LTt, kit_LTd, kit_LTs, kit_LTn, kit_LTb, kit_LTi, tM1, rIxS, exists_eq', lt1p, tDNewK, rSlS, rEqNil]
                exact h0 _ s8 rfl
              · refine ⟨by decide, fun q hq => ?_⟩
                try simp only [tSeq, tNext, tRet, tRetN, tAsg, gName, gSub, tDrop, tIfS, tOp, tUn, tCB, tCons, tNil, tC, tVar, rI, rI0, rU, tAnd, tOr, tNot, tAndV, tOrV, tNotV, tIf, tTest, tB, tCall, tChain, tLst, tTup, tYes, rIxH, rIsB, rIsBT, rMulS, kd_non, kd_bl, kd_int, kd_str, kd_ref, kdO_lst, kdO_tup, kdO_dK, nq_n, nq_b, nq_i, nq_s, nq_l, nq_t, nq_d, ne_eq, not_false_eq_true, kit_ss, kit_ns, kit_bs, kit_is, kit_ls, kit_ts, kit_ds, kit_bb, V.ty.injEq, and_assoc, rIxU, rLenH, rLenU, rLenS, rInt1, rSetL, rEq, rNe, rCat, L2.start, List.map, List.length, List.length_cons, List.length_nil, List.replicate, List.getElem?_cons_zero, List.getElem?_cons_succ, List.set_cons_zero, List.set_cons_succ, List.set_nil, List.cons_append, List.nil_append, List.append_nil, Option.some.injEq, V.int.injEq, V.ref.injEq, V.str.injEq, V.bl.injEq, HO.lst.injEq, HO.tup.injEq, exists_eq_left', exists_and_left, exists_eq_left, List.cons.injEq, and_true, true_and, and_false, false_and, and_self, reduceCtorEq, exists_false, or_false, false_or, exists_const, at0, at1, at2, at3, at4, at5, ix51, ix52, ix54, upd_same, Nat.reduceAdd, Nat.reduceSub, Nat.zero_add, Int.reduceToNat, Int.reduceLE, Int.reduceLT, decide_eq_true_eq, Bool.not_eq_true, if_true, if_false, Bool.false_eq_true, ite_true, ite_false, Bool.not_true, Bool.not_false, decide_true, decide_false, tFor_eq, tLc_eq, iList, iTup, iRng1, iRng2, iStr, tSl, tPart, tNoPart, rSlL, cxOf_K, wipe, ex_ty2, kit_LTl, kit_LTt, kit_LTd, kit_LTs, kit_LTn, kit_LTb, kit_LTi, tM1, rIxS, exists_eq', lt1p, tDNewK, rSlS, rEqNil, upd_ne (ne_of_none h7 hq), h7]
                exact k _
end

section
variable {P : Program} {w : World} {K : PySem.W.Frag} {mg : Str → Option Value} {base : Heap} {A : Adr}
theorem ok_law (T : Txt K mg A) : FnOk P w K mg base CX0 4 A.a_Law A.d_Law ["_law_script"] (spLaw K) :=
  ok_law_of T (ok_pool T) (ok_draw T (ok_mixed T)) (ok_signs T (ok_draw T (ok_mixed T))) (ok_truth T) (ok_law_is_line T) (ok_is_line T (ok_is_sign T)) (ok_is_text T (ok_is_line T (ok_is_sign T)))
end
theorem all_mk {l : PySem.W.OpenLaw} {w : World} {K : PySem.W.Frag} {h : Heap} {mg : Str → Option Value} {fa : Addr} {f1 : Addr} {od1 an1 : Option Addr} {sl1 : Array (Option Value)} {oc1 kV1 dc1 pm1 cd1 ct1 : Value} {f2 : Addr} {od2 an2 : Option Addr} {sl2 : Array (Option Value)} {oc2 kV2 dc2 pm2 cd2 ct2 : Value} {f3 : Addr} {od3 an3 : Option Addr} {sl3 : Array (Option Value)} {oc3 kV3 dc3 pm3 cd3 ct3 : Value} {f4 : Addr} {od4 an4 : Option Addr} {sl4 : Array (Option Value)} {oc4 kV4 dc4 pm4 cd4 ct4 : Value} {f5 : Addr} {od5 an5 : Option Addr} {sl5 : Array (Option Value)} {oc5 kV5 dc5 pm5 cd5 ct5 : Value} {f6 : Addr} {od6 an6 : Option Addr} {sl6 : Array (Option Value)} {oc6 kV6 dc6 pm6 cd6 ct6 : Value} {f7 : Addr} {od7 an7 : Option Addr} {sl7 : Array (Option Value)} {oc7 kV7 dc7 pm7 cd7 ct7 : Value} {f8 : Addr} {od8 an8 : Option Addr} {sl8 : Array (Option Value)} {oc8 kV8 dc8 pm8 cd8 ct8 : Value} {f9 : Addr} {od9 an9 : Option Addr} {sl9 : Array (Option Value)} {oc9 kV9 dc9 pm9 cd9 ct9 : Value} {f10 : Addr} {od10 an10 : Option Addr} {sl10 : Array (Option Value)} {oc10 kV10 dc10 pm10 cd10 ct10 : Value} {t2 : Tok} {t6 : Tok} (X : K.In h) (G : h.Ns mainGlobals mg) (hfa : mg "law" = some (.ref fa))
    (a1 : PySem.W.nsIn K mainGlobals "is_sign" = some (some (.ref f1)))
    (l1 : K.lookup f1 = some ⟨oc1, od1, .func (PySem.W.fnOf "is_sign" "is_sign" (defArgs sIsSign) (defBody sIsSign) (defScope sIsSign) .none kV1 dc1 pm1 an1 cd1 ct1), sl1⟩)
    (c1 : PySem.W.codeIn K cd1 "is_sign" = true)
    (k1 : PySem.W.keepIn K (.ref f1) = true)
    (a2 : PySem.W.nsIn K mainGlobals "is_line" = some (some (.ref f2)))
    (l2 : K.lookup f2 = some ⟨oc2, od2, .func (PySem.W.fnOf "is_line" "is_line" (defArgs sIsLine) (defBody sIsLine) (defScope sIsLine) .none kV2 dc2 pm2 an2 cd2 ct2), sl2⟩)
    (c2 : PySem.W.codeIn K cd2 "is_line" = true)
    (k2 : PySem.W.keepIn K (.ref f2) = true)
    (a3 : PySem.W.nsIn K mainGlobals "is_text" = some (some (.ref f3)))
    (l3 : K.lookup f3 = some ⟨oc3, od3, .func (PySem.W.fnOf "is_text" "is_text" (defArgs sIsText) (defBody sIsText) (defScope sIsText) .none kV3 dc3 pm3 an3 cd3 ct3), sl3⟩)
    (c3 : PySem.W.codeIn K cd3 "is_text" = true)
    (k3 : PySem.W.keepIn K (.ref f3) = true)
    (a4 : PySem.W.nsIn K mainGlobals "_law_pool" = some (some (.ref f4)))
    (l4 : K.lookup f4 = some ⟨oc4, od4, .func (PySem.W.fnOf "_law_pool" "_law_pool" (defArgs sLawPool) (defBody sLawPool) (defScope sLawPool) .none kV4 dc4 pm4 an4 cd4 ct4), sl4⟩)
    (c4 : PySem.W.codeIn K cd4 "_law_pool" = true)
    (k4 : PySem.W.keepIn K (.ref f4) = true)
    (a5 : PySem.W.nsIn K mainGlobals "_law_mixed" = some (some (.ref f5)))
    (l5 : K.lookup f5 = some ⟨oc5, od5, .func (PySem.W.fnOf "_law_mixed" "_law_mixed" (defArgs sLawMixed) (defBody sLawMixed) (defScope sLawMixed) .none kV5 dc5 pm5 an5 cd5 ct5), sl5⟩)
    (c5 : PySem.W.codeIn K cd5 "_law_mixed" = true)
    (k5 : PySem.W.keepIn K (.ref f5) = true)
    (a6 : PySem.W.nsIn K mainGlobals "_law_draw" = some (some (.ref f6)))
    (l6 : K.lookup f6 = some ⟨oc6, od6, .func (PySem.W.fnOf "_law_draw" "_law_draw" (defArgs sLawDraw) (defBody sLawDraw) (defScope sLawDraw) .none kV6 dc6 pm6 an6 cd6 ct6), sl6⟩)
    (c6 : PySem.W.codeIn K cd6 "_law_draw" = true)
    (k6 : PySem.W.keepIn K (.ref f6) = true)
    (a7 : PySem.W.nsIn K mainGlobals "_law_signs" = some (some (.ref f7)))
    (l7 : K.lookup f7 = some ⟨oc7, od7, .func (PySem.W.fnOf "_law_signs" "_law_signs" (defArgs sLawSigns) (defBody sLawSigns) (defScope sLawSigns) .none kV7 dc7 pm7 an7 cd7 ct7), sl7⟩)
    (c7 : PySem.W.codeIn K cd7 "_law_signs" = true)
    (k7 : PySem.W.keepIn K (.ref f7) = true)
    (a8 : PySem.W.nsIn K mainGlobals "_law_is_line" = some (some (.ref f8)))
    (l8 : K.lookup f8 = some ⟨oc8, od8, .func (PySem.W.fnOf "_law_is_line" "_law_is_line" (defArgs sLawIsLine) (defBody sLawIsLine) (defScope sLawIsLine) .none kV8 dc8 pm8 an8 cd8 ct8), sl8⟩)
    (c8 : PySem.W.codeIn K cd8 "_law_is_line" = true)
    (k8 : PySem.W.keepIn K (.ref f8) = true)
    (a9 : PySem.W.nsIn K mainGlobals "_law_truth" = some (some (.ref f9)))
    (l9 : K.lookup f9 = some ⟨oc9, od9, .func (PySem.W.fnOf "_law_truth" "_law_truth" (defArgs sLawTruth) (defBody sLawTruth) (defScope sLawTruth) .none kV9 dc9 pm9 an9 cd9 ct9), sl9⟩)
    (c9 : PySem.W.codeIn K cd9 "_law_truth" = true)
    (k9 : PySem.W.keepIn K (.ref f9) = true)
    (a10 : PySem.W.nsIn K mainGlobals "law" = some (some (.ref f10)))
    (l10 : K.lookup f10 = some ⟨oc10, od10, .func (PySem.W.fnOf "law" "law" (defArgs sLaw) (defBody sLaw) (defScope sLaw) .none kV10 dc10 pm10 an10 cd10 ct10), sl10⟩)
    (c10 : PySem.W.codeIn K cd10 "law" = true)
    (k10 : PySem.W.keepIn K (.ref f10) = true)
    (z0 : PySem.W.nsIn K mainGlobals "isinstance" = some none)
    (z1 : PySem.W.nsIn K mainGlobals "str" = some none)
    (z2 : PySem.W.nsIn K mainGlobals "MOST_SIGNS" = some (some (.int 40 t2)))
    (z3 : PySem.W.nsIn K mainGlobals "all" = some none)
    (z4 : PySem.W.nsIn K mainGlobals "len" = some none)
    (z6 : PySem.W.nsIn K mainGlobals "MOST_LINES" = some (some (.int 12 t6)))
    (z7 : PySem.W.nsIn K mainGlobals "list" = some none)
    (z8 : PySem.W.nsIn K mainGlobals "tuple" = some none)
    (z10 : PySem.W.nsIn K mainGlobals "int" = some none)
    (z13 : PySem.W.nsIn K mainGlobals "range" = some none)
    (z14 : PySem.W.nsIn K mainGlobals "bool" = some none) :
    ∃ fd : FuncData, (∀ (s : Shared) (v : Value), BindsTo s fd ⟨[v], []⟩ [("_law_script", v)]) ∧ ∀ base : Heap, K.In base → base.Ns mainGlobals mg → FnOk l.prog w K mg base CX0 4 fa fd ["_law_script"] (spLaw K) := by
  have e := hfa.symm.trans (PySem.W.mg_of X G a10)
  cases e
  have F1 := fun_mk (st := sIsSign) l1 c1 k1
  have b1 := F1.binds (ps := ["sign"]) fun _ _ _ _ _ _ us hl => match us, hl with | [_], _ => rfl
  have F2 := fun_mk (st := sIsLine) l2 c2 k2
  have b2 := F2.binds (ps := ["value"]) fun _ _ _ _ _ _ us hl => match us, hl with | [_], _ => rfl
  have F3 := fun_mk (st := sIsText) l3 c3 k3
  have b3 := F3.binds (ps := ["value"]) fun _ _ _ _ _ _ us hl => match us, hl with | [_], _ => rfl
  have F4 := fun_mk (st := sLawPool) l4 c4 k4
  have b4 := F4.binds (ps := ["_law_script"]) fun _ _ _ _ _ _ us hl => match us, hl with | [_], _ => rfl
  have F5 := fun_mk (st := sLawMixed) l5 c5 k5
  have b5 := F5.binds (ps := ["_law_number", "_law_count", "_law_many"]) fun _ _ _ _ _ _ us hl => match us, hl with | [_, _, _], _ => rfl
  have F6 := fun_mk (st := sLawDraw) l6 c6 k6
  have b6 := F6.binds (ps := ["_law_pool_here", "_law_many"]) fun _ _ _ _ _ _ us hl => match us, hl with | [_, _], _ => rfl
  have F7 := fun_mk (st := sLawSigns) l7 c7 k7
  have b7 := F7.binds (ps := ["_law_pool_here", "_law_many"]) fun _ _ _ _ _ _ us hl => match us, hl with | [_, _], _ => rfl
  have F8 := fun_mk (st := sLawIsLine) l8 c8 k8
  have b8 := F8.binds (ps := ["_law_thing"]) fun _ _ _ _ _ _ us hl => match us, hl with | [_], _ => rfl
  have F9 := fun_mk (st := sLawTruth) l9 c9 k9
  have b9 := F9.binds (ps := ["_law_found", "_law_due"]) fun _ _ _ _ _ _ us hl => match us, hl with | [_, _], _ => rfl
  have F10 := fun_mk (st := sLaw) l10 c10 k10
  have b10 := F10.binds (ps := ["_law_script"]) fun _ _ _ _ _ _ us hl => match us, hl with | [_], _ => rfl
  have T : Txt K mg ⟨f1, PySem.W.fnOf "is_sign" "is_sign" (defArgs sIsSign) (defBody sIsSign) (defScope sIsSign) .none kV1 dc1 pm1 an1 cd1 ct1, f2, PySem.W.fnOf "is_line" "is_line" (defArgs sIsLine) (defBody sIsLine) (defScope sIsLine) .none kV2 dc2 pm2 an2 cd2 ct2, f3, PySem.W.fnOf "is_text" "is_text" (defArgs sIsText) (defBody sIsText) (defScope sIsText) .none kV3 dc3 pm3 an3 cd3 ct3, f4, PySem.W.fnOf "_law_pool" "_law_pool" (defArgs sLawPool) (defBody sLawPool) (defScope sLawPool) .none kV4 dc4 pm4 an4 cd4 ct4, f5, PySem.W.fnOf "_law_mixed" "_law_mixed" (defArgs sLawMixed) (defBody sLawMixed) (defScope sLawMixed) .none kV5 dc5 pm5 an5 cd5 ct5, f6, PySem.W.fnOf "_law_draw" "_law_draw" (defArgs sLawDraw) (defBody sLawDraw) (defScope sLawDraw) .none kV6 dc6 pm6 an6 cd6 ct6, f7, PySem.W.fnOf "_law_signs" "_law_signs" (defArgs sLawSigns) (defBody sLawSigns) (defScope sLawSigns) .none kV7 dc7 pm7 an7 cd7 ct7, f8, PySem.W.fnOf "_law_is_line" "_law_is_line" (defArgs sLawIsLine) (defBody sLawIsLine) (defScope sLawIsLine) .none kV8 dc8 pm8 an8 cd8 ct8, f9, PySem.W.fnOf "_law_truth" "_law_truth" (defArgs sLawTruth) (defBody sLawTruth) (defScope sLawTruth) .none kV9 dc9 pm9 an9 cd9 ct9, _, PySem.W.fnOf "law" "law" (defArgs sLaw) (defBody sLaw) (defScope sLaw) .none kV10 dc10 pm10 an10 cd10 ct10⟩ := ⟨F1, PySem.W.mg_of X G a1, b1, F2, PySem.W.mg_of X G a2, b2, F3, PySem.W.mg_of X G a3, b3, F4, PySem.W.mg_of X G a4, b4, F5, PySem.W.mg_of X G a5, b5, F6, PySem.W.mg_of X G a6, b6, F7, PySem.W.mg_of X G a7, b7, F8, PySem.W.mg_of X G a8, b8, F9, PySem.W.mg_of X G a9, b9, F10, PySem.W.mg_of X G a10, b10, PySem.W.mg_none_of X G z0, PySem.W.mg_none_of X G z1, ⟨_, PySem.W.mg_of X G z2⟩, PySem.W.mg_none_of X G z3, PySem.W.mg_none_of X G z4, ⟨_, PySem.W.mg_of X G z6⟩, PySem.W.mg_none_of X G z7, PySem.W.mg_none_of X G z8, PySem.W.mg_none_of X G z10, PySem.W.mg_none_of X G z13, PySem.W.mg_none_of X G z14⟩
  exact ⟨_, fun s v => .of_eq rfl, fun base _ _ => ok_law T⟩
end My
open PySem PySem.W PyProof.Rows in
set_option maxRecDepth 100000 in
set_option maxHeartbeats 0 in
theorem PySem.Challenge.cw_lineorigins_k06_lines_and_texts_holds : PySem.Challenge.rw_lineorigins_k06_lines_and_texts.Holds := by
  w_on; o_law; k_head; (case hw => w_witness2)
  k_fill
  refine L2.walk_of (l := PySem.Challenge.rw_lineorigins_k06_lines_and_texts) (n := 63) (k := 4) (x := "_law_script") (CX := fun _ => L2.CX0) (sp := fun w => My.spLaw _) rfl (by decide) rfl ⟨rfl, by decide, by decide⟩ (fun w h Y => PySem.W.kIn_of Y) ?F (fun _ _ a ns hl _ hS => ⟨a, ns, rfl, hS, hl, fun _ => rfl⟩) (fun _ _ _ _ _ h => h)
  case F =>
    intro w mg fa h KX G hmg
    refine' My.all_mk KX G hmg ?a1 ?l1 ?c1 ?k1 ?a2 ?l2 ?c2 ?k2 ?a3 ?l3 ?c3 ?k3 ?a4 ?l4 ?c4 ?k4 ?a5 ?l5 ?c5 ?k5 ?a6 ?l6 ?c6 ?k6 ?a7 ?l7 ?c7 ?k7 ?a8 ?l8 ?c8 ?k8 ?a9 ?l9 ?c9 ?k9 ?a10 ?l10 ?c10 ?k10 ?z0 ?z1 ?z2 ?z3 ?z4 ?z6 ?z7 ?z8 ?z10 ?z13 ?z14
    (case a1 => k_is); (case l1 => k_is); (case c1 => k_is); (case k1 => k_is); (case a2 => k_is); (case l2 => k_is); (case c2 => k_is); (case k2 => k_is); (case a3 => k_is); (case l3 => k_is); (case c3 => k_is); (case k3 => k_is); (case a4 => k_is); (case l4 => k_is); (case c4 => k_is); (case k4 => k_is); (case a5 => k_is); (case l5 => k_is); (case c5 => k_is); (case k5 => k_is); (case a6 => k_is); (case l6 => k_is); (case c6 => k_is); (case k6 => k_is); (case a7 => k_is); (case l7 => k_is); (case c7 => k_is); (case k7 => k_is); (case a8 => k_is); (case l8 => k_is); (case c8 => k_is); (case k8 => k_is); (case a9 => k_is); (case l9 => k_is); (case c9 => k_is); (case k9 => k_is); (case a10 => k_is); (case l10 => k_is); (case c10 => k_is); (case k10 => k_is); (case z0 => k_is); (case z1 => k_is); (case z2 => k_is); (case z3 => k_is); (case z4 => k_is); (case z6 => k_is); (case z7 => k_is); (case z8 => k_is); (case z10 => k_is); (case z13 => k_is); (case z14 => k_is)
