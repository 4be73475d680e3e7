import PyProof.Rows.All
import HandS.ExcIs
import KE.KExcIs
import PySem.Challenge.RW_oncedefaults_k38_callers_made
set_option Elab.async false
set_option linter.all false
set_option maxRecDepth 100000
/-! Mir, part R: repr of small things; isinstance of a held exception. -/
namespace Mir
open PySem PySem.Spec PyProof.Rows L2
def reprP : PV → Option (List Nat)
  | .bl true => some [84, 114, 117, 101]
  | .bl false => some [70, 97, 108, 115, 101]
  | .non => some [78, 111, 110, 101]
  | _ => none
/-- repr(x), x True, False or None -/
def bRepr : ON := fun vs s => match vs with
  | [x] => (ofO (reprP x) s).bind fun l s => .ok (.str l) s
  | _ => .stuck
def rpV : V → Option Str
  | .bl true => some (St8 [84, 114, 117, 101])
  | .bl false => some (St8 [70, 97, 108, 115, 101])
  | .non => some (St8 [78, 111, 110, 101])
  | _ => none
theorem call_reprB {X : Cx} : CallR X (.builtin "repr") (fun xs H Q => ∃ x t, xs = [x] ∧ rpV x = some t ∧ Q (.str t) H) := by
  intro pins s σ H xs us Q I r h
  obtain ⟨x, t, rfl, hz, q⟩ := h
  obtain ⟨u, rfl, rx⟩ := vals1 r
  cases x with
  | bl b =>
    obtain rfl : u = .bool b := rx
    refine PySem.P.repr_of_bool ⟨.str t, H, I.tok _, ?_, q⟩
    cases b <;> (simp only [rpV, Option.some.injEq] at hz; subst hz; exact ⟨_, rfl⟩)
  | non =>
    obtain rfl : u = Value.none := rx
    refine PySem.P.repr_of_none ⟨.str t, H, I.tok _, ?_, q⟩
    simp only [rpV, Option.some.injEq] at hz; subst hz; exact ⟨_, rfl⟩
  | _ => cases hz
section
variable {X : Cx} {T : Tb}
theorem scr_repr : CallR X (.builtin "repr") (rN X.K T bRepr) := cr_of call_reprB fun P F io s xs vs H Q rx hS hp => by
  unfold bRepr at hp
  split at hp
  · obtain ⟨v, rfl, r1⟩ := rx.one
    rename_i x
    cases x with
    | bl b =>
      cases r1
      cases b
      · exact ⟨_, _, rfl, rfl, hp.ok_of Le.refl (.str _) hS⟩
      · exact ⟨_, _, rfl, rfl, hp.ok_of Le.refl (.str _) hS⟩
    | non => cases r1; exact ⟨_, _, rfl, rfl, hp.ok_of Le.refl (.str _) hS⟩
    | _ => exact hp.elim
  · exact hp.elim
end
@[simp] theorem bRepr_bl (b : Bool) (s : Store) : bRepr [.bl b] s = .ok (.str (if b then [84, 114, 117, 101] else [70, 97, 108, 115, 101])) s := by cases b <;> rfl
@[simp] theorem sCont_ap (σ : Env) (s : Store) : sCont σ s = .ok (σ, .cont) s := rfl
@[simp] theorem sBrk_ap (σ : Env) (s : Store) : sBrk σ s = .ok (σ, .brk) s := rfl
/-! ### isinstance of a held exception -/
/-- what the class C says when isinstance asks its instances for D -/
structure XisC (K : PySem.W.Frag) (C : Addr) (cv : Value) (b : Bool) : Prop where
  ok : ExcC K C
  kit : PySem.W.kitOne K (.ref C) cv = some b
def xisB (C D : Str) (b : Bool) (K : PySem.W.Frag) : Bool :=
  xfB K (He.ga K C) && (decide (PySem.W.findIn K (.ref (He.ga K C)) "__class__" = some (some (.builtin "object.__class__"))) && (decide (PySem.W.specialIn K (.builtin "object.__class__") "__get__" = some (some (.builtin "getset_descriptor.__get__"))) && (decide (PySem.W.takesIn K (.builtin "object.__class__") = some true) &&
    (decide (PySem.W.mroIn K (He.ga K C) (.type "object") = some true) && decide (PySem.W.kitOne K (.ref (He.ga K C)) (.ref (He.ga K D)) = some b)))))
theorem xisB_ok {C D : Str} {b : Bool} {K : PySem.W.Frag} (h : xisB C D b K = true) : XisC K (He.ga K C) (.ref (He.ga K D)) b := by
  unfold xisB at h
  simp only [Bool.and_eq_true, decide_eq_true_eq] at h
  obtain ⟨h1, h2, h3, h4, h5, h6⟩ := h
  have q := xfB_ok h1
  exact ⟨⟨q.ga, q.gg, q.exC, q.hdC, h2, h3, h4, h5⟩, h6⟩
/-- isinstance(e, D), e the exception that the suite holds, it has a field -/
def eXis (b : Bool) (vs : List PV) : EM := fun _ s => if vs.isEmpty = true then .stuck else .ok (.bl b) s
@[simp] theorem eXis_ap (b : Bool) (v : PV) (vs : List PV) (σ : Env) (s : Store) : eXis b (v :: vs) σ s = .ok (.bl b) s := rfl
def rIsD (a D : Addr) (b : Bool) (d : Option Addr) : List V → Hp → VK → Prop := fun xs H Q => xs = [.ref a, .ref D] ∧ (∃ dd fs, d = some dd ∧ H dd = some (.xd fs)) ∧ Q (.bl b) H
theorem call_isD {X : Cx} {a C D : Addr} {oe : Obj} {d : Option Addr} {b : Bool} {pn : List (Addr × Obj)} (E : XisC X.K C (.ref D) b) (hz : Zc (.ref C) d oe) (hf : ∃ vs, oe.data = .fields vs) : CallR (X.suite a ((a, oe) :: pn)) (.builtin "isinstance") (rIsD a D b d) := by
  intro pins s σ H xs us Q I r h
  obtain ⟨rfl, ⟨dd, fs, ed, ea⟩, q⟩ := h
  obtain ⟨u, w', rfl, r1, r2⟩ := vals2 r
  obtain rfl : u = Value.ref a := r1
  obtain rfl : w' = Value.ref D := r2
  subst ed
  obtain ⟨ha, _⟩ := I.pin (a, oe) (List.mem_append_left _ List.mem_cons_self)
  obtain ⟨vs, hd⟩ := hf
  have hx : ObjOk X.prog X.w H s.heap dd (.xd fs) := I.hok dd _ ea
  obtain ⟨mA, hns, hr⟩ := hx
  obtain ⟨od, ho, hl⟩ := lookIn_ns hns
  have J : PySem.W.InstAt s.heap a oe C (some od) := ⟨ha, hz.1, by unfold PySem.W.notCls; rw [hd] <;> rfl, by rw [hz.2]; exact ho⟩
  obtain ⟨cd, hc, _⟩ := PySem.W.any_some E.ok.hd
  exact PySem.W.kia_one (PySem.W.kitx_exc (by rw [hc]; rfl) E.ok.hg E.ok.hk E.ok.hs E.ok.ha E.ok.hn E.ok.ht E.ok.hm) I.kIn J E.kit (fun z => nomatch z) fun tk => ⟨.bl b, H, I.kept (t' := tk) fun _ _ z => z, rfl, q⟩
section
variable {X : Cx} {T : Tb} {W : WX} {i c : Nat} {a D : Addr} {oe : Obj} {d : Option Addr} {b : Bool} {vs : List PV} {pn : List (Addr × Obj)} {x y z : Str} {p p2 p3 pos : Pos}
theorem me_xis (E : XisC X.K (T.ca c) (.ref D) b) (hz : Zc (.ref (T.ca c)) d oe) (hf : ∃ vs, oe.data = .fields vs)
    (hx : PE (X.suite a ((a, oe) :: pn)) (.Name x p) (tVar i)) (hg : Gl (X.suite a ((a, oe) :: pn)) z) (hm : X.mg z = none) (hv : bootBuiltins z = some (.builtin "isinstance"))
    (hgD : Gl (X.suite a ((a, oe) :: pn)) y) (hmD : X.mg y = some (.ref D)) (hn : z ≠ "__name__" := by decide) (hdb : (z == ("__debug__" : Str)) = false := by decide) (hdy : (y == ("__debug__" : Str)) = false := by decide)
    (he : starEach [.Name x p, .Name y p2] X.env = (false, eval (.Name x p) X.env) :: starEach [.Name y p2] X.env := by rfl) (he2 : starEach [.Name y p2] X.env = (false, eval (.Name y p2) X.env) :: starEach [] X.env := by rfl) (hpl : (backTo pos (starEach [.Name x p, .Name y p2] X.env)).any (·.1) = false := by rfl) :
    PE (X.suite a ((a, oe) :: pn)) (.Call (.Name z p3) [.Name x p, .Name y p2] [] pos) (tE X.K (excT X.K T i a d c vs) W (eXis b vs)) := by
  refine PE.weak (pe_callB (call_isD E hz hf) hg hm hv (pa_cons hx (pa_cons (pe_glob (v := .ref D) hgD hmD rfl hdy) pa_nil he2) he) hn hdb he hpl) fun σ H Q ⟨P, F, io, en, s, hE, hS, hp⟩ => ?_
  obtain ⟨h1, h2⟩ := hE.gh
  unfold eXis at hp
  cases vs with
  | nil => exact hp.elim
  | cons v vs =>
    obtain ⟨dd, fv, q1, q2, q3, q4⟩ := h2 (by simp)
    exact ⟨.ref a, h1, rfl, ⟨dd, _, q1, hS.sub _ _ q2⟩, hp.ok_of Le.refl (.bl b) hS⟩
end
end Mir
/-! what the helpers of the laws from k35 on draw -/
namespace DL
open Mir
/-- the bag: three numbers, and those that are left -/
abbrev bg (a b c : Int) (r : List Int) : PV := .lst (.int a :: .int b :: .int c :: r.map .int)
def dr1 : SM := sIf (qAnd (qBl (eOp2 pyEq (eOp2 pyIdx (eVar 0) (eC (.int 0))) (eC (.int 0)))) (qBl (eOp2 pyGt (eBlt bLen (aCons (eVar 0) (aNil))) (eC (.int 3))))) (sSeq (sAsg (eMt mPop (eVar 0) (aCons (eC (.int 3)) (aNil))) (gName 2)) (sIf (qBl (eOp2 pyGe (eVar 2) (eOp2 pyPow (eC (.int 10)) (eC (.int 18))))) (sSetI (eVar 0) (eC (.int 0)) (eVar 2)) (sSetI (eVar 0) (eC (.int 1)) (eOp2 pyMod (eBlt bInt (aCons (eOp2 pyAdd (eOp2 pyMul (eOp2 pyIdx (eVar 0) (eC (.int 1))) (eC (.int 69621))) (eVar 2)) (aNil))) (eC (.int 2147483647)))))) (sNext)
def dr2 : SM := sSeq (sIf (qBl (eOp2 pyGt (eOp2 pyIdx (eVar 0) (eC (.int 0))) (eC (.int 0)))) (sSeq (sAsg (eOp2 pyMod (eBlt bInt (aCons (eOp2 pyIdx (eVar 0) (eC (.int 0))) (aNil))) (eVar 1)) (gName 3)) (sSeq (sSetI (eVar 0) (eC (.int 0)) (eOp2 pyFdiv (eOp2 pyIdx (eVar 0) (eC (.int 0))) (eVar 1))) (sRet (eVar 3)))) (sNext)) (sSeq (sAugI (eVar 0) (eC (.int 2)) (eC (.int 1))) (sSeq (sSetI (eVar 0) (eC (.int 1)) (eOp2 pyMod (eBlt bInt (aCons (eOp2 pyAdd (eOp2 pyMul (eOp2 pyIdx (eVar 0) (eC (.int 1))) (eC (.int 48271))) (eOp2 pyMul (eOp2 pyIdx (eVar 0) (eC (.int 2))) (eC (.int 9973)))) (aNil))) (eC (.int 2147483629)))) (sRet (eOp2 pyMod (eBlt bInt (aCons (eOp2 pyFdiv (eOp2 pyIdx (eVar 0) (eC (.int 1))) (eC (.int 5))) (aNil))) (eVar 1)))))
def drM : SM := sSeq dr1 dr2
noncomputable def dDraw : ON := runDef finV 4 drM
theorem dr2_eq (pre e : Store) (a b c m : Int) (r : List Int) (y z : Option PV) (h : 0 < m) (h2 : m < 2 ^ 127) :
    ∃ v a' b' c' σ', 0 ≤ v ∧ v < m ∧ dr2 [some (.loc pre.length), some (.int m), y, z] (pre ++ bg a b c r :: e) = .ok (σ', .ret (.int v)) (pre ++ bg a' b' c' r :: e) := by
  have m1 : ∀ i s, pyMod (.int i) (.int m) s = .ok (.int (i % m)) s := fun i s => pyMod_ok s h
  have m2 : ∀ i s, pyFdiv (.int i) (.int m) s = .ok (.int (i / m)) s := fun i s => pyFdiv_ok s h (by omega)
  have m3 : ∀ i s, pyMul (.int i) (.int 48271) s = .ok (.int (i * 48271)) s := fun i s => pyMulR s (by omega)
  have m4 : ∀ i s, pyMul (.int i) (.int 9973) s = .ok (.int (i * 9973)) s := fun i s => pyMulR s (by omega)
  have m5 : ∀ i s, pyMod (.int i) (.int 2147483629) s = .ok (.int (i % 2147483629)) s := fun i s => pyMod_ok s (by omega)
  have m6 : ∀ i s, pyFdiv (.int i) (.int 5) s = .ok (.int (i / 5)) s := fun i s => pyFdiv_ok s (by omega) (by omega)
  have i0 : ixP (r.length + 1 + 1 + 1) 0 = some 0 := by simp [ixP]; omega
  have i1 : ixP (r.length + 1 + 1 + 1) 1 = some 1 := by simp [ixP]; omega
  have i2 : ixP (r.length + 1 + 1 + 1) 2 = some 2 := by simp [ixP]; omega
  unfold dr2
  by_cases ha : 0 < a
  · refine ⟨a % m, a / m, b, c, [some (.loc pre.length), some (.int m), y, some (.int (a % m))], Int.emod_nonneg _ (by omega), Int.emod_lt_of_pos _ h, ?_⟩
    simp [ha, m1, m2, i0]
  · refine ⟨(((b * 48271 + (c + 1) * 9973) % 2147483629) / 5) % m, a, (b * 48271 + (c + 1) * 9973) % 2147483629, c + 1, [some (.loc pre.length), some (.int m), y, z], Int.emod_nonneg _ (by omega), Int.emod_lt_of_pos _ h, ?_⟩
    simp [ha, sAugI, m1, m3, m4, m5, m6, i1, i2]
theorem dr1_eq (pre e : Store) (a b c m : Int) (r : List Int) (hr : r.length ≤ 100) :
    ∃ a' b' r' y, r'.length ≤ 100 ∧ dr1 [some (.loc pre.length), some (.int m), none, none] (pre ++ bg a b c r :: e) = .ok ([some (.loc pre.length), some (.int m), y, none], .next) (pre ++ bg a' b' c r' :: e) := by
  unfold dr1
  by_cases ha : a = 0
  · subst ha
    cases r with
    | nil => exact ⟨0, b, [], none, by simp, by simp [bLen, lenP]⟩
    | cons x r =>
      have l3 : (3 : Int) < (r.length : Int) + 1 + 1 + 1 + 1 := by omega
      have m3 : ∀ i s, pyMul (.int i) (.int 69621) s = .ok (.int (i * 69621)) s := fun i s => pyMulR s (by omega)
      have m5 : ∀ i s, pyMod (.int i) (.int 2147483647) s = .ok (.int (i % 2147483647)) s := fun i s => pyMod_ok s (by omega)
      have i0 : ixP (r.length + 1 + 1 + 1) 0 = some 0 := by simp [ixP]; omega
      have i1 : ixP (r.length + 1 + 1 + 1) 1 = some 1 := by simp [ixP]; omega
      have pw : ∀ s, pyPow (.int 10) (.int 18) s = .ok (.int (10 ^ 18)) s := fun s => by simp [pyPow]
      have hr' : r.length ≤ 100 := by simp at hr; omega
      by_cases hx : (1000000000000000000 : Int) ≤ x
      · refine ⟨x, b, r, some (.int x), hr', ?_⟩
        simp [bLen, lenP, l3, isL, mPop, pw, hx, i0]
      · refine ⟨0, (b * 69621 + x) % 2147483647, r, some (.int x), hr', ?_⟩
        simp [bLen, lenP, l3, isL, mPop, pw, hx, i1, m3, m5]
  · exact ⟨a, b, r, none, hr, by simp [ha]⟩
def isBag (x : PV) : Prop := ∃ a b c r, r.length ≤ 100 ∧ x = bg a b c r
theorem isBag.lb {x : PV} (h : isBag x) (n : Nat) : Mir.lb n x = true := by
  obtain ⟨a, b, c, r, _, rfl⟩ := h
  have : Mir.lbs n (r.map PV.int) = true := isDs_lb 0 n _ (by simp [isD])
  simp [bg, this]
theorem draw_eq (pre e : Store) {x : PV} {m : Int} (hx : isBag x) (h : 0 < m) (h2 : m < 2 ^ 127) :
    ∃ (v : Int) (x' : PV), 0 ≤ v ∧ v < m ∧ isBag x' ∧ dDraw [.loc pre.length, .int m] (pre ++ x :: e) = .ok (.int v) (pre ++ x' :: e) := by
  obtain ⟨a, b, c, r, hr, rfl⟩ := hx
  obtain ⟨a1, b1, r1, y, hr1, e1⟩ := dr1_eq pre e a b c m r hr
  obtain ⟨v, a2, b2, c2, σ', v0, v1, e2⟩ := dr2_eq pre e a1 b1 c m r1 y none h h2
  have hb : isBag (bg a2 b2 c2 r1) := ⟨a2, b2, c2, r1, hr1, rfl⟩
  refine ⟨v, _, v0, v1, hb, ?_⟩
  unfold dDraw
  rw [runDef_ap]
  unfold drM
  rw [sSeq_ap]
  have el : ([PV.loc pre.length, PV.int m].map some ++ List.replicate (4 - [PV.loc pre.length, PV.int m].length) none) = [some (.loc pre.length), some (.int m), none, none] := rfl
  rw [el, e1]
  simp only [Res.bind_ok]
  rw [e2]
  exact finV_data (by simp) (kept_mid pre e _ _ (hb.lb _)) (by simp)
/-! ### the bag of a script -/
noncomputable def bagM : SM := sRetL (aCat (eLst (aCons (eC (.int 0)) (aCons (eC (.int 7)) (aCons (eC (.int 0)) (aNil))))) (eBlt bList (aCons (eVar 0) (aNil))))
/-! ### names -/
abbrev ABC : List Nat := [97, 98, 99, 100, 101, 102, 103, 104, 105, 106, 107, 108, 109, 110, 111, 112, 113, 114, 115, 116, 117, 118, 119, 120, 121, 122]
abbrev KEPT : List Nat := [109, 97, 114, 107, 115, 32, 107, 105, 110, 100, 32, 118, 97, 108, 117, 101, 32, 100, 101, 102, 32, 114, 101, 116, 117, 114, 110, 32, 110, 111, 110, 101, 32, 99, 111, 112, 121, 32, 105, 102, 32, 117, 110, 108, 101, 115, 115, 32, 105, 110, 32, 105, 115, 32, 109, 97, 114, 107, 32, 98, 111, 120, 32, 111, 110, 99, 101, 32, 97, 110, 101, 119, 32, 101, 97, 114, 108, 121, 32, 108, 97, 116, 101, 32, 99, 108, 115, 32, 115, 101, 108, 102, 32, 109, 101, 116, 104, 111, 100]
abbrev WDS : List (List Nat) := [[109, 97, 114, 107, 115], [107, 105, 110, 100], [118, 97, 108, 117, 101], [100, 101, 102], [114, 101, 116, 117, 114, 110], [110, 111, 110, 101], [99, 111, 112, 121], [105, 102], [117, 110, 108, 101, 115, 115], [105, 110], [105, 115], [109, 97, 114, 107], [98, 111, 120], [111, 110, 99, 101], [97, 110, 101, 119], [101, 97, 114, 108, 121], [108, 97, 116, 101], [99, 108, 115], [115, 101, 108, 102], [109, 101, 116, 104, 111, 100]]
theorem kept_spl : TL.spl [32] 0 [] KEPT = WDS := by decide
def isLow (c : Nat) : Prop := 97 ≤ c ∧ c ≤ 122
theorem abc_at {i : Int} (h0 : 0 ≤ i) (h1 : i < 26) (s : Store) : pyIdx (.str ABC) (.int i) s = .ok (.str [97 + i.toNat]) s := by
  have hj : i.toNat < 26 := by omega
  have : atP ABC i = some (97 + i.toNat) := by
    refine atP_of (j := i.toNat) (by omega) ?_
    generalize i.toNat = j at hj
    revert j
    decide
  have z : ABC.length ≤ sz := by decide
  simp only [pyIdx, this, if_pos z]
  rfl
theorem isLow_at {i : Int} (h1 : i < 26) : isLow (97 + i.toNat) := by unfold isLow; omega
def sg (i : Int) : Nat := 97 + (i % 26).toNat
theorem sg_low (i : Int) : isLow (sg i) := by unfold sg; exact isLow_at (by omega)
/-- a right name -/
structure isNm (w : List Nat) : Prop where
  ne : 1 ≤ w.length
  le : w.length ≤ 8
  low : ∀ c ∈ w, isLow c
  no : w ∉ WDS
structure wdOk (sh : Int) (i : Nat) (w : List Nat) : Prop where
  ex : ∃ u : List Nat, u.length ≤ 6 ∧ (∀ c ∈ u, isLow c) ∧ w = if u ++ [sg (sh + i)] ∈ WDS then u ++ [sg (sh + i)] ++ [sg (sh + 4)] ++ [sg (sh + 4)] else u ++ [sg (sh + i)]
theorem wds_len : ∀ w ∈ WDS, w.length ≤ 6 := by decide
theorem wds_sp : ∀ w ∈ WDS, ∀ c ∈ ABC, w ++ [c] ++ [c] ∉ WDS := by decide +kernel
theorem low_mem {c : Nat} (h : isLow c) : c ∈ ABC := by
  have : ∀ c, c < 26 → 97 + c ∈ ABC := by decide
  have h2 := this (c - 97) (by unfold isLow at h; omega)
  have e : 97 + (c - 97) = c := by unfold isLow at h; omega
  rwa [e] at h2
theorem wdOk.nm {sh : Int} {i : Nat} {w : List Nat} (h : wdOk sh i w) : isNm w := by
  obtain ⟨u, h1, h2, h3⟩ := h.ex
  have lv : ∀ c ∈ u ++ [sg (sh + i)], isLow c := fun c hc => by
    rcases List.mem_append.mp hc with q | q
    · exact h2 c q
    · simp at q; subst q; exact sg_low _
  split at h3
  · rename_i hw
    have l6 := wds_len _ hw
    subst h3
    refine ⟨by simp, by rw [List.length_append, List.length_append]; simp only [List.length_cons, List.length_nil]; omega, fun c hc => ?_, wds_sp _ hw _ (low_mem (sg_low _))⟩
    rcases List.mem_append.mp hc with q | q
    · rcases List.mem_append.mp q with q | q
      · exact lv c q
      · simp at q; subst q; exact sg_low _
    · simp at q; subst q; exact sg_low _
  · rename_i hw
    subst h3
    exact ⟨by simp, by simp; omega, lv, hw⟩
theorem sg_ne {sh : Int} {i j : Nat} (hi : i ≤ 4) (hj : j ≤ 4) (h : sg (sh + i) = sg (sh + j)) : i = j := by unfold sg at h; omega
theorem last_inj {α : Type} {u v : List α} {a b : α} (h : u ++ [a] = v ++ [b]) : u = v ∧ a = b := by
  have := List.append_inj' h rfl
  exact ⟨this.1, by simpa using this.2⟩
theorem wdOk.ne {sh : Int} {i j : Nat} {w : List Nat} (hi : i < 4) (hj : j < 4) (h : wdOk sh i w) (h' : wdOk sh j w) : i = j := by
  obtain ⟨u, _, _, e⟩ := h.ex
  obtain ⟨v, _, _, e'⟩ := h'.ex
  have d4 : ∀ k : Nat, k < 4 → sg (sh + k) ≠ sg (sh + 4) := fun k hk z => by
    have := sg_ne (i := k) (j := 4) (by omega) (by omega) z
    omega
  split at e <;> split at e' <;> rw [e] at e'
  · obtain ⟨e1, _⟩ := last_inj e'
    obtain ⟨e1, _⟩ := last_inj e1
    exact sg_ne (by omega) (by omega) (last_inj e1).2
  · exact absurd (last_inj e').2.symm (d4 j hj)
  · exact absurd (last_inj e').2 (d4 i hi)
  · exact sg_ne (by omega) (by omega) (last_inj e').2
/-- four names: right ones, no two alike -/
structure Nm4 (l : List (List Nat)) : Prop where
  w : ∀ x ∈ l, isNm x
  nd : l.Nodup
  len : l.length = 4
theorem nm4_of {sh : Int} {l : List (List Nat)} (hl : l.length = 4) (h : ∀ i w, l[i]? = some w → wdOk sh i w) : Nm4 l := by
  refine ⟨fun x hx => ?_, ?_, hl⟩
  · obtain ⟨i, hi, rfl⟩ := List.getElem_of_mem hx
    exact (h i _ (List.getElem?_eq_getElem hi)).nm
  · rw [List.nodup_iff_pairwise_ne, List.pairwise_iff_getElem]
    intro i j hi hj hij e
    have h1 := h i _ (List.getElem?_eq_getElem hi)
    have h2 := h j _ (List.getElem?_eq_getElem hj)
    rw [← e] at h2
    have := h1.ne (by omega) (by omega) h2
    omega
noncomputable def nmBody : SM := sSeq (sAsg (eJoin (eC (.str [])) (eLst (aComp (iRange1 (eCallK (fun vs _ => dDraw vs) (aCons (eVar 0) (aCons (eC (.int 7)) (aNil))) (aNil))) (gName 9) (qYes) (eOp2 pyIdx (eVar 2) (eCallK (fun vs _ => dDraw vs) (aCons (eVar 0) (aCons (eC (.int 26)) (aNil))) (aNil))) [9]))) (gName 8)) (sSeq (sAsg (eOp2 pyAdd (eVar 8) (eOp2 pyIdx (eVar 2) (eOp2 pyMod (eBlt bInt (aCons (eOp2 pyAdd (eVar 4) (eVar 7)) (aNil))) (eC (.int 26))))) (gName 8)) (sExp (eMt mAppend (eVar 6) (aCons (eIf (qBl (eOp2 pyIn (eVar 8) (eSplit (eVar 3) (eC (.str [32]))))) (eOp2 pyAdd (eOp2 pyAdd (eVar 8) (eVar 5)) (eVar 5)) (eVar 8)) (aNil)))))
noncomputable def nmM : SM := sSeq (sAsg (eC (.str ABC)) (gName 2)) (sSeq (sAsg (eC (.str KEPT)) (gName 3)) (sSeq (sAsg (eCallK (fun vs _ => dDraw vs) (aCons (eVar 0) (aCons (eC (.int 26)) (aNil))) (aNil)) (gName 4)) (sSeq (sAsg (eOp2 pyIdx (eVar 2) (eOp2 pyMod (eBlt bInt (aCons (eOp2 pyAdd (eVar 4) (eVar 1)) (aNil))) (eC (.int 26)))) (gName 5)) (sSeq (sNew (aNil) 6) (sSeq (sFor (iRange1 (eVar 1)) (gName 7) nmBody) (sRet (eVar 6)))))))
noncomputable def dNames : ON := runDef finV 10 nmM
abbrev nE (p : Nat) (sh : Int) (n k w : Option PV) : Env := [some (.loc p), some (.int 4), some (.str ABC), some (.str KEPT), some (.int sh), some (.str [sg (sh + 4)]), n, k, w, none]
theorem low_flat {ys : List (List Nat)} (h : ∀ y ∈ ys, ∃ c, isLow c ∧ y = [c]) : ys.flatten.length = ys.length ∧ (∀ c ∈ ys.flatten, isLow c) ∧ (ys.map (·.length)).sum = ys.length := by
  induction ys with
  | nil => simp
  | cons y ys ih =>
    obtain ⟨c, hc, rfl⟩ := h y (List.mem_cons_self ..)
    obtain ⟨i1, i2, i3⟩ := ih fun z hz => h z (List.mem_cons_of_mem _ hz)
    refine ⟨by simp [i1], fun d hd => ?_, by simp [i3]; omega⟩
    simp at hd
    rcases hd with rfl | ⟨z, hz, hd⟩
    · exact hc
    · exact i2 d (by simp; exact ⟨z, hz, hd⟩)
theorem wds_data : (WDS.map PV.str).all (isD dp) = true := by decide
theorem in_wds (w : List Nat) (hw : w.length ≠ 1 ∨ True) (s : Store) : pyIn (.str w) (.lst (WDS.map PV.str)) s = .ok (.bl (decide (w ∈ WDS))) s := by
  have h : ∀ l : List (List Nat), (l.map PV.str).any (fun z => eqF dp z (.str w)) = decide (w ∈ l) := by
    intro l
    induction l with
    | nil => simp
    | cons x l ih =>
      simp only [List.map_cons, List.any_cons, ih, List.mem_cons]
      have : eqF dp (.str x) (.str w) = (x == w) := rfl
      rw [this]
      by_cases q : x = w
      · subst q; simp
      · simp [q, Ne.symm q]
  unfold pyIn inP
  have hd : isD dp (.str w) = true := rfl
  have e : itemsOf s (.lst (WDS.map PV.str)) = some (WDS.map PV.str) := rfl
  split
  · rename_i h1; cases h1
  · rw [e]
    simp only [hd, wds_data, Bool.and_self, if_true, h]
    rfl
theorem body_eq (pre : Store) {sh : Int} (h0 : 0 ≤ sh) (h1 : sh < 26) (i : Nat) (hi : i < 4) (L : List (List Nat)) (hL : L.length < 100) {x : PV} (hx : isBag x) (w : Option PV) :
    ∃ v u x', isBag x' ∧ wdOk sh i v ∧ nmBody (nE pre.length sh (some (.loc (pre.length + 1))) (some (.int i)) w) (pre ++ [x, .lst (L.map .str)]) = .ok (nE pre.length sh (some (.loc (pre.length + 1))) (some (.int i)) u, .next) (pre ++ [x', .lst ((L ++ [v]).map .str)]) := by
  obtain ⟨n, x1, n0, n1, hx1, e1⟩ := draw_eq pre [.lst (L.map .str)] (m := 7) hx (by omega) (by omega)
  obtain ⟨ys, s1, c1, c2, c3, c4⟩ := compGo_inv (g := gName 9) (t := qYes) (e := eOp2 pyIdx (eVar 2) (eCallK (fun vs _ => dDraw vs) (aCons (eVar 0) (aCons (eC (.int 26)) (aNil))) (aNil))) (σ := nE pre.length sh (some (.loc (pre.length + 1))) (some (.int i)) w) (w := ⟨(List.range n.toNat).map fun k => .int (k : Nat), none⟩) rfl
    (fun s => ∃ x, isBag x ∧ s = pre ++ [x, .lst (L.map .str)]) (fun y => ∃ c, isLow c ∧ y = .str [c]) ((List.range n.toNat).map fun k => .int (k : Nat)) [] (pre ++ [x1, .lst (L.map .str)]) ⟨x1, hx1, rfl⟩ (by
      rintro y - s ⟨x, hx, rfl⟩
      obtain ⟨v, x2, v0, v1, hx2, e2⟩ := draw_eq pre [.lst (L.map .str)] (m := 26) hx (by omega) (by omega)
      refine ⟨_, _, .str [97 + v.toNat], pre ++ [x2, .lst (L.map .str)], rfl, rfl, ?_, ⟨x2, hx2, rfl⟩, _, isLow_at v1, rfl⟩
      simp [e2, abc_at v0 v1])
  obtain ⟨x2, hx2, rfl⟩ := c4
  obtain ⟨us, rfl, hus⟩ : ∃ us : List (List Nat), ys = us.map .str ∧ ∀ y ∈ us, ∃ c, isLow c ∧ y = [c] := by
    clear c1 c2
    induction ys with
    | nil => exact ⟨[], rfl, by simp⟩
    | cons y ys ih =>
      obtain ⟨us, h1, h2⟩ := ih fun z hz => c3 z (List.mem_cons_of_mem _ hz)
      obtain ⟨c, hc, rfl⟩ := c3 y (List.mem_cons_self ..)
      exact ⟨[c] :: us, by simp [h1], fun z hz => by
        rcases List.mem_cons.mp hz with rfl | hz
        · exact ⟨c, hc, rfl⟩
        · exact h2 z hz⟩
  obtain ⟨f1, f2, f3⟩ := low_flat hus
  have ul : us.length ≤ 6 := by
    have : us.length = n.toNat := by simpa using c2
    omega
  have n2 : -4611686018427387904 ≤ n := by omega
  have n3 : n ≤ 16777216 := by omega
  have ul2 : us.length ≤ sz := by simp only [sz]; omega
  have ad : ∀ s, pyAdd (.str us.flatten) (.str [sg (sh + i)]) s = .ok (.str (us.flatten ++ [sg (sh + i)])) s := fun s => pyAdd_str s (by rw [f1]; simp only [sz, List.length_cons, List.length_nil]; omega)
  have ad2 : ∀ s, pyAdd (.str (us.flatten ++ [sg (sh + i)])) (.str [sg (sh + 4)]) s = .ok (.str (us.flatten ++ [sg (sh + i)] ++ [sg (sh + 4)])) s := fun s => pyAdd_str s (by rw [List.length_append, f1]; simp only [sz, List.length_cons, List.length_nil]; omega)
  have ad3 : ∀ s, pyAdd (.str (us.flatten ++ [sg (sh + i)] ++ [sg (sh + 4)])) (.str [sg (sh + 4)]) s = .ok (.str (us.flatten ++ [sg (sh + i)] ++ [sg (sh + 4)] ++ [sg (sh + 4)])) s := fun s => pyAdd_str s (by rw [List.length_append, List.length_append, f1]; simp only [sz, List.length_cons, List.length_nil]; omega)
  have ab : ∀ s, pyIdx (.str ABC) (.int ((sh + i) % 26)) s = .ok (.str [sg (sh + i)]) s := fun s => by rw [abc_at (by omega) (by omega)]; rfl
  have md : ∀ s, pyMod (.int (sh + i)) (.int 26) s = .ok (.int ((sh + i) % 26)) s := fun s => pyMod_ok s (by omega)
  have hL2 : L.length < sz := by simp only [sz]; omega
  have iw := fun s => in_wds (us.flatten ++ [sg (sh + i)]) (.inr trivial) s
  generalize hvv : (if us.flatten ++ [sg (sh + i)] ∈ WDS then us.flatten ++ [sg (sh + i)] ++ [sg (sh + 4)] ++ [sg (sh + 4)] else us.flatten ++ [sg (sh + i)]) = v
  have ok : wdOk sh i v := ⟨us.flatten, by omega, f2, hvv.symm⟩
  refine ⟨v, some (.str (us.flatten ++ [sg (sh + i)])), x2, hx2, ok, ?_⟩
  have sm : (us.map (·.length)).sum ≤ sz := by rw [f3]; exact ul2
  simp only [List.append_assoc, List.cons_append, List.nil_append] at ad2 ad3
  unfold nmBody
  simp only [nE] at c1 ⊢
  simp [iRange1, e1, n2, n3, wipe]
  simp at c1
  rw [c1]
  simp [strsOf_map, sm, join_nil, md, ab, ad]
  have g1 : isL (pre ++ [x2, .lst (L.map .str)]) (.loc (pre.length + 1)) = true := by unfold isL; rw [der1 pre [] x2]
  have z101 : (101 : Nat) ≤ sz := by decide
  simp only [g1, z101, if_true, kept_spl, Res.bind_ok, iw, noX_ok]
  by_cases hw : us.flatten ++ [sg (sh + i)] ∈ WDS
  · rw [if_pos hw] at hvv
    simp [hw, ad2, ad3, mAppend, get1, set1, hL2]
    simpa using hvv
  · rw [if_neg hw] at hvv
    simp [hw, mAppend, get1, set1, hL2]
    simpa using hvv
theorem names_eq (pre : Store) {x : PV} (hx : isBag x) : ∃ l x', Nm4 l ∧ isBag x' ∧ dNames [.loc pre.length, .int 4] (pre ++ [x]) = .ok (.lst (l.map .str)) (pre ++ [x']) := by
  obtain ⟨sh, x1, h0, h1, hx1, e1⟩ := draw_eq pre [] (m := 26) hx (by omega) (by omega)
  have md : ∀ s, pyMod (.int (sh + 4)) (.int 26) s = .ok (.int ((sh + 4) % 26)) s := fun s => pyMod_ok s (by omega)
  have ab : ∀ s, pyIdx (.str ABC) (.int ((sh + 4) % 26)) s = .ok (.str [sg (sh + 4)]) s := fun s => by rw [abc_at (by omega) (by omega)]; rfl
  obtain ⟨σ', s', f1, L, w, x2, k, f2, f3, f4, f5⟩ := forGo_inv (g := gName 7) (b := nmBody) (keep := keepAs (nE pre.length sh (some (.loc (pre.length + 1))) none none)) (w := ⟨(List.range 4).map fun k => .int (k : Nat), none⟩)
    (fun n xs σ s => ∃ (L : List (List Nat)) (w : Option PV) (x : PV) (k : Option PV), isBag x ∧ n ≤ 4 ∧ (σ = nE pre.length sh (some (.loc (pre.length + 1))) none none ∧ xs = ((List.range 4).drop n).map (fun k => .int (k : Nat))) ∧ (s = pre ++ [x, .lst (L.map .str)] ∧ L.length = n ∧ ∀ i w, L[i]? = some w → wdOk sh i w))
    ((List.range 4).map fun k => .int (k : Nat)) 0 (nE pre.length sh (some (.loc (pre.length + 1))) none none) (pre ++ [x1, .lst []]) ⟨[], none, x1, none, hx1, by omega, ⟨rfl, rfl⟩, rfl, rfl, by simp⟩ (fun _ _ _ _ _ => trivial) (by
      rintro n y ys σ s ⟨L, w, x, k, hx, hn, ⟨rfl, hy⟩, rfl, hl, hw⟩
      have hn4 : n < 4 := by
        rcases Nat.lt_or_ge n 4 with q | q
        · exact q
        · have : n = 4 := by omega
          subst this
          have z : ((List.range 4).drop 4).map (fun k : Nat => PV.int k) = [] := rfl
          rw [z] at hy; cases hy
      have hy2 : y = .int (n : Nat) ∧ ys = ((List.range 4).drop (n + 1)).map (fun k => .int (k : Nat)) := by
        have h4 : (List.range 4).drop n = n :: (List.range 4).drop (n + 1) := by
          rw [List.drop_eq_getElem_cons (by simp; exact hn4)]; simp
        rw [h4, List.map_cons] at hy
        exact ⟨(List.cons.inj hy).1, (List.cons.inj hy).2⟩
      obtain ⟨rfl, rfl⟩ := hy2
      obtain ⟨v, u, x', hx', hv, e⟩ := body_eq pre h0 h1 n hn4 L (by omega) hx none
      refine ⟨_, _, _, _, _, rfl, e, .inl rfl, L ++ [v], none, x', none, hx', by omega, ⟨by simp [keepAs], rfl⟩, rfl, by simp [hl], fun i w hi => ?_⟩
      rcases Nat.lt_trichotomy i L.length with q | q | q
      · rw [List.getElem?_append_left q] at hi
        exact hw i w hi
      · subst q
        simp at hi
        subst hi
        rw [hl]; exact hv
      · rw [List.getElem?_eq_none (by simp; omega)] at hi
        cases hi)
  obtain ⟨rfl, hl, hw⟩ := f5
  refine ⟨L, x2, nm4_of (by simpa using hl) hw, f2, ?_⟩
  unfold dNames
  rw [runDef_ap]
  unfold nmM
  obtain ⟨rfl, -⟩ := f4
  simp [e1, md, ab, iRange1, sz]
  simp only [nE] at f1
  rw [f1]
  simp
  have lbq : ∀ n, lbs n (L.map PV.str) = true := fun n => isDs_lb 0 n _ (by simp [isD])
  have f := finV_new (old := pre ++ [x]) (new := pre ++ [x2]) (e := [.lst (L.map .str)]) (n := pre.length + 1) (c := .lst (L.map .str)) (by simp) (kept_mid pre [] _ _ (f2.lb _)) (by simp)
      (by rw [List.append_assoc]; exact get1 pre [] _ _) (by rw [lb_lst]; exact lbq _)
  rw [List.append_assoc] at f
  exact f
theorem bag_eq (s : Store) {ns : List Int} (hl : ns.length ≤ 63) : ∃ x, isBag x ∧ runDef finL 1 bagM [.ro (ns.map .int)] s = .ok (.loc s.length) (s ++ [x]) := by
  refine ⟨bg 0 7 0 ns, ⟨0, 7, 0, ns, by omega, rfl⟩, ?_⟩
  rw [runDef_ap]
  unfold bagM
  have h1 : bList [.ro (ns.map .int)] s = .ok (.lst (ns.map .int)) s := rfl
  have z : 3 + ns.length ≤ sz := by simp only [sz]; omega
  simp [h1, z]
  exact finL_new (by have : lbs s.length (ns.map PV.int) = true := isDs_lb 0 _ _ (by simp [isD]); simp [this])
end DL
/-! what the package's functions about names and parts answer, for any plain data -/
namespace PL
open Mir
def c_LETTERS : PV := .str [97, 98, 99, 100, 101, 102, 103, 104, 105, 106, 107, 108, 109, 110, 111, 112, 113, 114, 115, 116, 117, 118, 119, 120, 121, 122]
def c_WORDS : PV := .tup [.str [109, 97, 114, 107, 115], .str [107, 105, 110, 100], .str [118, 97, 108, 117, 101], .str [100, 101, 102], .str [114, 101, 116, 117, 114, 110], .str [110, 111, 110, 101], .str [99, 111, 112, 121], .str [105, 102], .str [117, 110, 108, 101, 115, 115], .str [105, 110], .str [105, 115], .str [109, 97, 114, 107], .str [98, 111, 120], .str [111, 110, 99, 101], .str [97, 110, 101, 119], .str [101, 97, 114, 108, 121], .str [108, 97, 116, 101], .str [99, 108, 115], .str [115, 101, 108, 102], .str [109, 101, 116, 104, 111, 100]]
def c_MOST_LETTERS : PV := .int 8
noncomputable def m_is_name (tab : List ((Tg × Tg) × Bool)) : SM := sSeq (sIf (qOr (qNot (qOf (eBlt (bIsi tab) (aCons (eVar 0) (aCons (eC (.ty "str")) (aNil)))))) (qNot (qBl (eChain pyLe pyLe (eC (.int 1)) (eBlt bLen (aCons (eVar 0) (aNil))) (eC c_MOST_LETTERS))))) (sRet (eC (.bl false))) (sNext)) (sRet (eAnd (eOp2 pyNotIn (eVar 0) (eC c_WORDS)) (eBlt bAll (aCons (eLst (aComp (iSeq (eVar 0)) (gName 1) (qYes) (eOp2 pyIn (eVar 1) (eC c_LETTERS)) [1])) (aNil)))))
noncomputable def d_is_name (tab : List ((Tg × Tg) × Bool)) : ON := runDef finV 2 (m_is_name tab)
noncomputable def m_are_items (tab : List ((Tg × Tg) × Bool)) : SM := sSeq (sIf (qOr (qNot (qOf (eBlt (bIsi tab) (aCons (eVar 0) (aCons (eC (.ty "tuple")) (aNil)))))) (qNot (qOf (eBlt bAll (aCons (eLst (aComp (iSeq (eVar 0)) (gName 2) (qYes) (eCallK (fun vs _ => d_is_name tab vs) (aCons (eVar 2) (aNil)) (aNil)) [2])) (aNil)))))) (sRet (eC (.bl false))) (sNext)) (sRet (eBlt bAll (aCons (eLst (aComp (iRange1 (eOp2 pySub (eBlt bLen (aCons (eVar 0) (aNil))) (eC (.int 1)))) (gName 1) (qYes) (eOp2 pyLt (eOp2 pyIdx (eVar 0) (eVar 1)) (eOp2 pyIdx (eVar 0) (eOp2 pyAdd (eVar 1) (eC (.int 1))))) [1])) (aNil))))
noncomputable def d_are_items (tab : List ((Tg × Tg) × Bool)) : ON := runDef finV 3 (m_are_items tab)
noncomputable def m_is_owner (tab : List ((Tg × Tg) × Bool)) : SM := sRet (eOr (eCallK (fun vs _ => d_is_name tab vs) (aCons (eVar 0) (aNil)) (aNil)) (eAnd (eBlt (bIsi tab) (aCons (eVar 0) (aCons (eC (.ty "str")) (aNil)))) (eOp2 pyEq (eVar 0) (eC (.str [99, 108, 115])))))
noncomputable def d_is_owner (tab : List ((Tg × Tg) × Bool)) : ON := runDef finV 1 (m_is_owner tab)
noncomputable def m_is_truth (tab : List ((Tg × Tg) × Bool)) : SM := sRet (eBlt (bIsi tab) (aCons (eVar 0) (aCons (eC (.ty "bool")) (aNil))))
noncomputable def d_is_truth (tab : List ((Tg × Tg) × Bool)) : ON := runDef finV 1 (m_is_truth tab)
noncomputable def m_has_word (tab : List ((Tg × Tg) × Bool)) : SM := sRet (eAnd (eBlt (bIsi tab) (aCons (eVar 0) (aCons (eC (.ty "tuple")) (aNil)))) (eAnd (eOp2 pyGt (eBlt bLen (aCons (eVar 0) (aNil))) (eC (.int 0))) (eBlt (bIsi tab) (aCons (eOp2 pyIdx (eVar 0) (eC (.int 0))) (aCons (eC (.ty "str")) (aNil))))))
noncomputable def d_has_word (tab : List ((Tg × Tg) × Bool)) : ON := runDef finV 1 (m_has_word tab)
noncomputable def m_is_default (tab : List ((Tg × Tg) × Bool)) : SM := sSeq (sIf (qNot (qOf (eCallK (fun vs _ => d_has_word tab vs) (aCons (eVar 1) (aNil)) (aNil)))) (sRet (eC (.bl false))) (sNext)) (sSeq (sPar (aCons (eOp2 pyIdx (eVar 1) (eC (.int 0))) (aCons (eBlt bLen (aCons (eVar 1) (aNil))) aNil)) 2 3) (sSeq (sIf (qBl (eOp2 pyEq (eVar 0) (eC (.str [109, 97, 114, 107])))) (sRet (eAnd (eOp2 pyEq (eVar 2) (eC (.str [109, 97, 114, 107]))) (eAnd (eOp2 pyEq (eVar 3) (eC (.int 2))) (eCallK (fun vs _ => d_is_name tab vs) (aCons (eOp2 pyIdx (eVar 1) (eC (.int 1))) (aNil)) (aNil))))) (sNext)) (sSeq (sIf (qBl (eOp2 pyIn (eVar 2) (eTup (aCons (eC (.str [111, 110, 99, 101])) (aCons (eC (.str [97, 110, 101, 119])) (aNil)))))) (sRet (eAnd (eOp2 pyEq (eVar 3) (eC (.int 2))) (eCallK (fun vs _ => d_are_items tab vs) (aCons (eOp2 pyIdx (eVar 1) (eC (.int 1))) (aNil)) (aNil)))) (sNext)) (sSeq (sIf (qBl (eOp2 pyEq (eVar 2) (eC (.str [101, 97, 114, 108, 121])))) (sRet (eAnd (eOp2 pyEq (eVar 3) (eC (.int 3))) (eAnd (eCallK (fun vs _ => d_is_name tab vs) (aCons (eOp2 pyIdx (eVar 1) (eC (.int 1))) (aNil)) (aNil)) (eCallK (fun vs _ => d_is_name tab vs) (aCons (eOp2 pyIdx (eVar 1) (eC (.int 2))) (aNil)) (aNil))))) (sNext)) (sRet (eAnd (eOp2 pyEq (eVar 2) (eC (.str [108, 97, 116, 101]))) (eAnd (eOp2 pyEq (eVar 3) (eC (.int 3))) (eAnd (eCallK (fun vs _ => d_is_owner tab vs) (aCons (eOp2 pyIdx (eVar 1) (eC (.int 1))) (aNil)) (aNil)) (eCallK (fun vs _ => d_is_name tab vs) (aCons (eOp2 pyIdx (eVar 1) (eC (.int 2))) (aNil)) (aNil))))))))))
noncomputable def d_is_default (tab : List ((Tg × Tg) × Bool)) : ON := runDef finV 4 (m_is_default tab)
noncomputable def m_look_name (tab : List ((Tg × Tg) × Bool)) (cN : Nat) : SM := sIf (qNot (qOf (eCallK (fun vs _ => d_is_name tab vs) (aCons (eVar 0) (aNil)) (aNil)))) (sRaise cN (aCons (eVar 0) (aNil))) (sNext)
noncomputable def d_look_name (tab : List ((Tg × Tg) × Bool)) (cN : Nat) : ON := runDef finV 1 (m_look_name tab cN)
noncomputable def m_Param_init (tab : List ((Tg × Tg) × Bool)) (cN : Nat) (cP : Nat) (tn th td tm : List (Nat × Nat)) : SM := sSeq (sExp (eCallK (fun vs _ => d_look_name tab cN vs) (aCons (eVar 1) (aNil)) (aNil))) (sSeq (sIf (qOr (qNot (qOf (eBlt (bIsi tab) (aCons (eVar 2) (aCons (eC (.ty "str")) (aNil)))))) (qBl (eOp2 pyNotIn (eVar 2) (eTup (aCons (eC (.str [109, 97, 114, 107])) (aCons (eC (.str [98, 111, 120])) (aNil))))))) (sRaise cP (aCons (eC (.str [104, 111, 108, 100, 115])) (aNil))) (sNext)) (sSeq (sIf (qAnd (qBl (eNotB (eOp1 (pyIs .non) (eVar 3)))) (qNot (qOf (eCallK (fun vs _ => d_is_default tab vs) (aCons (eVar 2) (aCons (eVar 3) (aNil))) (aNil))))) (sRaise cP (aCons (eC (.str [100, 101, 102, 97, 117, 108, 116])) (aNil))) (sNext)) (sSeq (sIf (qNot (qOf (eCallK (fun vs _ => d_is_truth tab vs) (aCons (eVar 4) (aNil)) (aNil)))) (sRaise cP (aCons (eC (.str [110, 97, 109, 101, 100])) (aNil))) (sNext)) (sSeq (sSetF tn (eVar 0) (eVar 1)) (sSeq (sSetF th (eVar 0) (eVar 2)) (sSeq (sSetF td (eVar 0) (eVar 3)) (sSetF tm (eVar 0) (eVar 4))))))))
noncomputable def d_Param_init (tab : List ((Tg × Tg) × Bool)) (cN : Nat) (cP : Nat) (tn th td tm : List (Nat × Nat)) : ON := runDef finV 5 (m_Param_init tab cN cP tn th td tm)
/-! ### plain data -/
abbrev WDS : List (List Nat) := [[109, 97, 114, 107, 115], [107, 105, 110, 100], [118, 97, 108, 117, 101], [100, 101, 102], [114, 101, 116, 117, 114, 110], [110, 111, 110, 101], [99, 111, 112, 121], [105, 102], [117, 110, 108, 101, 115, 115], [105, 110], [105, 115], [109, 97, 114, 107], [98, 111, 120], [111, 110, 99, 101], [97, 110, 101, 119], [101, 97, 114, 108, 121], [108, 97, 116, 101], [99, 108, 115], [115, 101, 108, 102], [109, 101, 116, 104, 111, 100]]
abbrev ABC : List Nat := [97, 98, 99, 100, 101, 102, 103, 104, 105, 106, 107, 108, 109, 110, 111, 112, 113, 114, 115, 116, 117, 118, 119, 120, 121, 122]
abbrev sMark : List Nat := [109, 97, 114, 107]
abbrev sBox : List Nat := [98, 111, 120]
abbrev sOnce : List Nat := [111, 110, 99, 101]
abbrev sAnew : List Nat := [97, 110, 101, 119]
abbrev sEarly : List Nat := [101, 97, 114, 108, 121]
abbrev sLate : List Nat := [108, 97, 116, 101]
abbrev sCls : List Nat := [99, 108, 115]
/-- data: texts are short -/
def G : Nat → PV → Bool
  | _, .non => true
  | _, .bl _ => true
  | _, .int _ => true
  | _, .str l => decide (l.length ≤ 1000)
  | n + 1, .tup xs => decide (xs.length ≤ 1000) && xs.all (G n)
  | n + 1, .lst xs => decide (xs.length ≤ 1000) && xs.all (G n)
  | _, _ => false
theorem G_isD : ∀ (n : Nat) (v : PV), G n v = true → isD n v = true
  | n, .non, _ => by cases n <;> rfl
  | n, .bl _, _ => by cases n <;> rfl
  | n, .int _, _ => by cases n <;> rfl
  | n, .str _, _ => by cases n <;> rfl
  | n + 1, .tup xs, h => by
    simp only [G, Bool.and_eq_true, List.all_eq_true] at h
    simp only [isD, List.all_eq_true]
    exact fun x hx => G_isD n x (h.2 x hx)
  | n + 1, .lst xs, h => by
    simp only [G, Bool.and_eq_true, List.all_eq_true] at h
    simp only [isD, List.all_eq_true]
    exact fun x hx => G_isD n x (h.2 x hx)
  | 0, .tup xs, h => by simp [G] at h
  | 0, .lst xs, h => by simp [G] at h
  | n, .ro xs, h => by cases n <;> simp [G] at h
  | n, .dic _ _, h => by cases n <;> simp [G] at h
  | n, .ins _ _, h => by cases n <;> simp [G] at h
  | n, .loc _, h => by cases n <;> simp [G] at h
  | n, .fn _, h => by cases n <;> simp [G] at h
  | n, .cls _, h => by cases n <;> simp [G] at h
  | n, .ty _, h => by cases n <;> simp [G] at h
theorem G_mono : ∀ (n : Nat) (v : PV), G n v = true → G (n + 1) v = true
  | n, .non, _ => by cases n <;> rfl
  | n, .bl _, _ => by cases n <;> rfl
  | n, .int _, _ => by cases n <;> rfl
  | n, .str _, h => by cases n <;> exact h
  | n + 1, .tup xs, h => by
    simp only [G, Bool.and_eq_true, List.all_eq_true] at h ⊢
    exact ⟨h.1, fun x hx => G_mono n x (h.2 x hx)⟩
  | n + 1, .lst xs, h => by
    simp only [G, Bool.and_eq_true, List.all_eq_true] at h ⊢
    exact ⟨h.1, fun x hx => G_mono n x (h.2 x hx)⟩
  | 0, .tup xs, h => by simp [G] at h
  | 0, .lst xs, h => by simp [G] at h
  | n, .ro xs, h => by cases n <;> simp [G] at h
  | n, .dic _ _, h => by cases n <;> simp [G] at h
  | n, .ins _ _, h => by cases n <;> simp [G] at h
  | n, .loc _, h => by cases n <;> simp [G] at h
  | n, .fn _, h => by cases n <;> simp [G] at h
  | n, .cls _, h => by cases n <;> simp [G] at h
  | n, .ty _, h => by cases n <;> simp [G] at h
theorem G_le {n m : Nat} {x : PV} (hm : n ≤ m) (h : G n x = true) : G m x = true := by
  induction hm with
  | refl => exact h
  | step _ ih => exact G_mono _ _ ih
theorem G_deref {n : Nat} {x : PV} {s : Store} (h : G n x = true) : deref s x = x := by
  cases x <;> first | rfl | (cases n <;> simp [G] at h)
theorem G_lb {n : Nat} {x : PV} (b : Nat) (h : G n x = true) : lb b x = true := isD_lb n b x (G_isD n x h)
theorem G_lbs {n : Nat} {l : List PV} (b : Nat) (h : ∀ x ∈ l, G n x = true) : lbs b l = true := lbs_iff.mpr fun x hx => G_lb b (h x hx)
theorem pyNe_G {x y : PV} {s : Store} (h : G dp x = true) (h' : G dp y = true) : pyNe x y s = .ok (.bl (!eqF dp x y)) s := by
  unfold pyNe
  rw [G_deref h, G_deref h', G_isD _ _ h, G_isD _ _ h']; rfl
theorem pyEq_G {x y : PV} {s : Store} (h : G dp x = true) (h' : G dp y = true) : pyEq x y s = .ok (.bl (eqF dp x y)) s := by
  unfold pyEq
  rw [G_deref h, G_deref h', G_isD _ _ h, G_isD _ _ h']; rfl
theorem pyIn_tup {x : PV} {s : Store} {xs : List PV} (h : isD dp x = true) (h' : xs.all (isD dp) = true) : pyIn x (.tup xs) s = .ok (.bl (xs.any fun z => eqF dp z x)) s := by
  unfold pyIn inP
  split
  · rename_i heq; cases heq
  · simp [h, h']
theorem pyNotIn_tup {x : PV} {s : Store} {xs : List PV} (h : isD dp x = true) (h' : xs.all (isD dp) = true) : pyNotIn x (.tup xs) s = .ok (.bl (!(xs.any fun z => eqF dp z x))) s := by
  unfold pyNotIn inP
  split
  · rename_i heq; cases heq
  · simp [h, h']
theorem pyIn_lst {x : PV} {s : Store} {xs : List PV} (h : isD dp x = true) (h' : xs.all (isD dp) = true) : pyIn x (.lst xs) s = .ok (.bl (xs.any fun z => eqF dp z x)) s := by
  unfold pyIn inP
  split
  · rename_i heq; cases heq
  · simp [h, h']
/-- what the table of classes must tell -/
structure TabOk (tab : List ((Tg × Tg) × Bool)) : Prop where
  s : ∀ b ∈ ["NoneType", "bool", "int", "str", "tuple", "list"], tab.lookup (.t b, .t "str") = some (b == "str")
  t : ∀ b ∈ ["NoneType", "bool", "int", "str", "tuple", "list"], tab.lookup (.t b, .t "tuple") = some (b == "tuple")
  b : ∀ b ∈ ["NoneType", "bool", "int", "str", "tuple", "list"], tab.lookup (.t b, .t "bool") = some (b == "bool")
def isStr : PV → Bool
  | .str _ => true
  | _ => false
def isTup : PV → Bool
  | .tup _ => true
  | _ => false
def isBl : PV → Bool
  | .bl _ => true
  | _ => false
section
variable {tab : List ((Tg × Tg) × Bool)} (K : TabOk tab) {n : Nat} {x : PV} {s : Store}
include K
theorem isi_str (h : G n x = true) : bIsi tab [x, .ty "str"] s = .ok (.bl (isStr x)) s := by
  cases x <;> first | (rw [bIsi_ty]; simp only [tgOf_non, tgOf_bl, tgOf_int, tgOf_str, tgOf_tup, tgOf_lst, Option.bind_some]; rw [K.s _ (by simp)]; rfl) | (cases n <;> simp [G] at h)
theorem isi_tup (h : G n x = true) : bIsi tab [x, .ty "tuple"] s = .ok (.bl (isTup x)) s := by
  cases x <;> first | (rw [bIsi_ty]; simp only [tgOf_non, tgOf_bl, tgOf_int, tgOf_str, tgOf_tup, tgOf_lst, Option.bind_some]; rw [K.t _ (by simp)]; rfl) | (cases n <;> simp [G] at h)
theorem isi_bool (h : G n x = true) : bIsi tab [x, .ty "bool"] s = .ok (.bl (isBl x)) s := by
  cases x <;> first | (rw [bIsi_ty]; simp only [tgOf_non, tgOf_bl, tgOf_int, tgOf_str, tgOf_tup, tgOf_lst, Option.bind_some]; rw [K.b _ (by simp)]; rfl) | (cases n <;> simp [G] at h)
end
theorem len2 {α : Type} (w : α) (r : List α) : ((((w :: r).length : Int)) == 2) = (match r with | [_] => true | _ => false) := by
  match r with
  | [] => rfl
  | [_] => rfl
  | _ :: _ :: r =>
    show ((((r.length + 3 : Nat) : Int)) == 2) = false
    rw [beq_eq_false_iff_ne]; omega
theorem len3 {α : Type} (w : α) (r : List α) : ((((w :: r).length : Int)) == 3) = (match r with | [_, _] => true | _ => false) := by
  match r with
  | [] => rfl
  | [_] => rfl
  | [_, _] => rfl
  | _ :: _ :: _ :: r =>
    show ((((r.length + 4 : Nat) : Int)) == 3) = false
    rw [beq_eq_false_iff_ne]; omega
/-! ### names -/
def inW (w : List Nat) : Bool := decide (w ∈ WDS)
def isLow (c : Nat) : Bool := decide (c ∈ ABC)
def nmB (w : List Nat) : Bool := decide (1 ≤ w.length) && decide (w.length ≤ 8) && (!inW w && w.all isLow)
def nmP : PV → Bool
  | .str w => nmB w
  | _ => false
theorem any_words (w : List Nat) : ∀ l : List (List Nat), (l.map PV.str).any (fun z => eqF dp z (.str w)) = decide (w ∈ l)
  | [] => by simp
  | x :: l => by
    simp only [List.map_cons, List.any_cons, any_words w l, List.mem_cons]
    have : eqF dp (.str x) (.str w) = (x == w) := rfl
    rw [this]
    by_cases q : x = w
    · subst q; simp
    · simp [q, Ne.symm q]
theorem wordsE : c_WORDS = .tup (WDS.map .str) := rfl
theorem notin_words (w : List Nat) (s : Store) : pyNotIn (.str w) c_WORDS s = .ok (.bl (!inW w)) s := by
  rw [wordsE, pyNotIn_tup rfl (by decide), any_words]; rfl
theorem all_map {α : Type} {s : Store} (l : List α) (p : α → Bool) : bAll [.lst (l.map fun c => PV.bl (p c))] s = .ok (.bl (l.all p)) s := by
  unfold bAll
  simp [blsOf_mapP]
section
variable {tab : List ((Tg × Tg) × Bool)} (K : TabOk tab) {n : Nat} {x : PV}
include K
theorem isname_eq (h : G n x = true) (s : Store) : d_is_name tab [x] s = .ok (.bl (nmP x)) s := by
  have fin : ∀ b, finV s (.bl b) s = .ok (.bl b) s := fun b => finV_data rfl (kept_refl _ _) (by simp)
  have hi := isi_str K (s := s) h
  unfold d_is_name
  rw [runDef_ap]
  unfold m_is_name
  by_cases hs : isStr x = true
  case neg =>
    simp [hi, hs]
    rw [fin]
    cases x <;> first | rfl | (simp [isStr] at hs)
  case pos =>
    cases x <;> first | (simp [isStr] at hs; done) | skip
    rename_i w
    have hw : w.length ≤ 1000 := by cases n <;> simpa [G] using h
    have hz : w.length ≤ sz := by simp only [sz]; omega
    have hg : compGo ⟨w.map fun c => PV.str [c], none⟩ (gName 1) qYes (eOp2 pyIn (eVar 1) (eC c_LETTERS)) [some (.str w), none] (w.map fun c => PV.str [c]) [] s = .ok (w.map fun c => PV.bl (isLow c)) s := by
      rw [compGo_pure (fun _ => true) (fun y => match y with | .str [c] => .bl (isLow c) | _ => .non)]
      · rw [List.filter_eq_self.mpr (by simp), List.nil_append, List.map_map]; rfl
      · intro y hy
        obtain ⟨c, hc, rfl⟩ := List.mem_map.mp hy
        refine ⟨_, rfl, rfl, fun _ => ?_⟩
        have : inP s (.str [c]) c_LETTERS = some (isLow c) := rfl
        simp only [eOp2_ap, eVar_ap, eC_ap]
        simp [pyIn, this]
    simp only [isStr] at hi
    by_cases g1 : 1 ≤ w.length
    · by_cases g2 : w.length ≤ 8
      · have i1 : (1 : Int) ≤ (w.length : Int) := by omega
        have i2 : (w.length : Int) ≤ 8 := by omega
        have am := all_map (s := s) w isLow
        cases hin : inW w
        · simp [hi, bLen_str _ hz, c_MOST_LETTERS, i1, i2, notin_words, hin, iSeq, hz, wipe, hg, am]
          rw [fin]
          simp only [nmP, nmB, g1, g2, hin]
          simp
        · simp [hi, bLen_str _ hz, c_MOST_LETTERS, i1, i2, notin_words, hin]
          rw [fin]
          simp only [nmP, nmB, hin]
          simp
      · have i1 : (1 : Int) ≤ (w.length : Int) := by omega
        have i2 : ¬ (w.length : Int) ≤ 8 := by omega
        simp [hi, bLen_str _ hz, c_MOST_LETTERS, i1, i2]
        rw [fin]
        simp [nmP, nmB, g2]
    · have i1 : ¬ (1 : Int) ≤ (w.length : Int) := by omega
      simp [hi, bLen_str _ hz, c_MOST_LETTERS, i1]
      rw [fin]
      simp only [nmP, nmB, decide_eq_false g1]
      simp
def strOf : PV → List Nat
  | .str w => w
  | _ => []
def ascB (xs : List PV) : Bool := (List.range (xs.length - 1)).all fun k => decide (strOf (xs.getD k .non) < strOf (xs.getD (k + 1) .non))
/-- is this a tuple of names in order -/
def itP : PV → Bool
  | .tup xs => xs.all nmP && ascB xs
  | _ => false
theorem items_eq (h : G (n + 1) x = true) (s : Store) : d_are_items tab [x] s = .ok (.bl (itP x)) s := by
  have fin : ∀ b, finV s (.bl b) s = .ok (.bl b) s := fun b => finV_data rfl (kept_refl _ _) (by simp)
  have hi := isi_tup K (s := s) h
  unfold d_are_items
  rw [runDef_ap]
  unfold m_are_items
  by_cases ht : isTup x = true
  case neg =>
    simp [hi, ht]
    rw [fin]
    cases x <;> first | rfl | (simp [isTup] at ht)
  case pos =>
    cases x <;> first | (simp [isTup] at ht; done) | skip
    rename_i xs
    simp only [G, Bool.and_eq_true, List.all_eq_true, decide_eq_true_eq] at h
    obtain ⟨hl, hx⟩ := h
    have c1 : compGo ⟨xs, none⟩ (gName 2) qYes (eCallK (fun vs _ => d_is_name tab vs) (aCons (eVar 2) aNil) aNil) [some (.tup xs), none, none] xs [] s = .ok (xs.map fun y => PV.bl (nmP y)) s := by
      rw [compGo_pure (fun _ => true) (fun y => .bl (nmP y))]
      · rw [List.filter_eq_self.mpr (by simp)]; simp
      · intro y hy
        refine ⟨_, rfl, rfl, fun _ => ?_⟩
        simp [isname_eq K (hx y hy)]
    have a1 := all_map (s := s) xs nmP
    simp only [isTup] at hi
    cases hn : xs.all nmP
    · rw [hn] at a1
      simp [hi, iSeq, wipe, c1, a1]
      rw [fin]
      simp [itP, hn]
    · rw [hn] at a1
      have st : ∀ k (hk : k < xs.length), ∃ w, xs[k] = .str w := fun k hk => by
        have := List.all_eq_true.mp hn xs[k] (List.getElem_mem hk)
        cases hz : xs[k] <;> rw [hz] at this <;> first | exact ⟨_, rfl⟩ | (simp [nmP] at this)
      have c2 : compGo ⟨(List.range (xs.length - 1)).map fun k => .int (k : Nat), none⟩ (gName 1) qYes (eOp2 pyLt (eOp2 pyIdx (eVar 0) (eVar 1)) (eOp2 pyIdx (eVar 0) (eOp2 pyAdd (eVar 1) (eC (.int 1))))) [some (.tup xs), none, none] ((List.range (xs.length - 1)).map fun k => .int (k : Nat)) [] s = .ok ((List.range (xs.length - 1)).map fun k => PV.bl (decide (strOf (xs.getD k .non) < strOf (xs.getD (k + 1) .non)))) s := by
        rw [compGo_pure (fun _ => true) (fun y => match y with | .int i => .bl (decide (strOf (xs.getD i.toNat .non) < strOf (xs.getD (i.toNat + 1) .non))) | _ => .non)]
        · rw [List.filter_eq_self.mpr (by simp), List.nil_append, List.map_map]; rfl
        · intro y hy
          obtain ⟨k, hk, rfl⟩ := List.mem_map.mp hy
          have hk' := List.mem_range.mp hk
          have b1 : k < xs.length := by omega
          have b2 : k + 1 < xs.length := by omega
          obtain ⟨u, hu⟩ := st k b1
          obtain ⟨v, hv⟩ := st (k + 1) b2
          refine ⟨_, rfl, rfl, fun _ => ?_⟩
          have a1 : atP xs (k : Int) = some (.str u) := atP_of rfl (by rw [List.getElem?_eq_getElem b1, hu])
          have a2 : atP xs ((k : Int) + 1) = some (.str v) := atP_of (j := k + 1) (by omega) (by rw [List.getElem?_eq_getElem b2, hv])
          simp [a1, a2, List.getElem?_eq_getElem b1, List.getElem?_eq_getElem b2, hu, hv, strOf]
      have a2 := all_map (s := s) (List.range (xs.length - 1)) (fun k => decide (strOf (xs.getD k .non) < strOf (xs.getD (k + 1) .non)))
      have e3 : ((xs.length : Int) - 1).toNat = xs.length - 1 := by omega
      have e4 : -4611686018427387904 ≤ (xs.length : Int) - 1 := by omega
      have e5 : (xs.length : Int) - 1 ≤ 16777216 := by omega
      generalize (List.range (xs.length - 1)).map (fun k => PV.bl (decide (strOf (xs.getD k .non) < strOf (xs.getD (k + 1) .non)))) = LL at c2 a2
      simp [hi, iSeq, wipe, c1, a1, iRange1, e3, e4, e5, c2, a2]
      rw [fin]
      simp only [itP, hn, Bool.true_and]
      rfl
/-- .. the name of a kind, or cls -/
def owP : PV → Bool
  | .str w => nmB w || w == sCls
  | _ => false
theorem owner_eq (h : G n x = true) (s : Store) : d_is_owner tab [x] s = .ok (.bl (owP x)) s := by
  have fin : ∀ b, finV s (.bl b) s = .ok (.bl b) s := fun b => finV_data rfl (kept_refl _ _) (by simp)
  have hi := isi_str K (s := s) h
  unfold d_is_owner
  rw [runDef_ap]
  unfold m_is_owner
  have h1 := isname_eq K h s
  cases hb : nmP x
  · rw [hb] at h1
    by_cases hs : isStr x = true
    · cases x <;> first | (simp [isStr] at hs; done) | skip
      rename_i w
      simp only [nmP] at hb
      simp only [isStr] at hi
      simp [-bIsi_ty, h1, hi]
      rw [fin]
      simp [owP, hb]
    · simp [-bIsi_ty, h1, hi, hs]
      rw [fin]
      cases x <;> first | rfl | (simp [isStr] at hs)
  · rw [hb] at h1
    simp [h1]
    rw [fin]
    cases x <;> first | (simp [nmP] at hb; done) | skip
    simp only [nmP] at hb
    simp [owP, hb]
theorem truth_eq (h : G n x = true) (s : Store) : d_is_truth tab [x] s = .ok (.bl (isBl x)) s := by
  have fin : ∀ b, finV s (.bl b) s = .ok (.bl b) s := fun b => finV_data rfl (kept_refl _ _) (by simp)
  unfold d_is_truth
  rw [runDef_ap]
  unfold m_is_truth
  simp [isi_bool K (s := s) h, fin]
def hwP : PV → Bool
  | .tup (.str _ :: _) => true
  | _ => false
theorem word_eq (h : G (n + 1) x = true) (s : Store) : d_has_word tab [x] s = .ok (.bl (hwP x)) s := by
  have fin : ∀ b, finV s (.bl b) s = .ok (.bl b) s := fun b => finV_data rfl (kept_refl _ _) (by simp)
  have hi := isi_tup K (s := s) h
  unfold d_has_word
  rw [runDef_ap]
  unfold m_has_word
  by_cases ht : isTup x = true
  case neg =>
    simp [hi, ht]
    rw [fin]
    cases x <;> first | rfl | (simp [isTup] at ht)
  case pos =>
    cases x <;> first | (simp [isTup] at ht; done) | skip
    rename_i xs
    simp only [G, Bool.and_eq_true, List.all_eq_true, decide_eq_true_eq] at h
    simp only [isTup] at hi
    cases xs with
    | nil => simp [hi]; rw [fin]; rfl
    | cons a r =>
      have h2 := isi_str K (s := s) (h.2 a (by simp))
      have h3 : (0 : Int) < (r.length : Int) + 1 := by omega
      simp [-bIsi_ty, hi, h2, h3]
      rw [fin]
      cases a <;> rfl
/-- what a default may be, for a parameter that holds h -/
def dfP (h : List Nat) : PV → Bool
  | .tup (.str w :: r) => if h == sMark then w == sMark && (match r with
      | [a] => nmP a
      | _ => false)
    else if w == sOnce || w == sAnew then (match r with
      | [a] => itP a
      | _ => false)
    else if w == sEarly then (match r with
      | [a, b] => nmP a && nmP b
      | _ => false)
    else w == sLate && (match r with
      | [a, b] => owP a && nmP b
      | _ => false)
  | _ => false
set_option maxHeartbeats 0 in
theorem default_eq {h : List Nat} (h1 : h.length ≠ 1) (hx : G (n + 2) x = true) (s : Store) : d_is_default tab [.str h, x] s = .ok (.bl (dfP h x)) s := by
  have fin : ∀ b, finV s (.bl b) s = .ok (.bl b) s := fun b => finV_data rfl (kept_refl _ _) (by simp)
  have hw := word_eq K hx s
  unfold d_is_default
  rw [runDef_ap]
  unfold m_is_default
  cases hb : hwP x
  case false =>
    rw [hb] at hw
    simp [hw]
    rw [fin]
    unfold dfP
    split
    · rename_i w r; simp [hwP] at hb
    · rfl
  case true =>
    rw [hb] at hw
    obtain ⟨w, r, rfl⟩ : ∃ w r, x = .tup (.str w :: r) := by
      unfold hwP at hb
      split at hb
      · exact ⟨_, _, rfl⟩
      · cases hb
    simp only [G, Bool.and_eq_true, List.all_eq_true, decide_eq_true_eq] at hx
    obtain ⟨hl, hr⟩ := hx
    have hr' : ∀ y ∈ r, G (n + 1) y = true := fun y hy => hr y (List.mem_cons_of_mem _ hy)
    have pi : pyIn (.str w) (.tup [.str sOnce, .str sAnew]) s = .ok (.bl (w == sOnce || w == sAnew)) s := by
      rw [pyIn_tup rfl rfl]
      simp only [List.any_cons, List.any_nil, Bool.or_false]
      have e1 : eqF dp (.str sOnce) (.str w) = (w == sOnce) := BEq.comm
      have e2 : eqF dp (.str sAnew) (.str w) = (w == sAnew) := BEq.comm
      rw [e1, e2]
    have L2 := len2 (PV.str w) r
    have L3 := len3 (PV.str w) r
    simp only [List.length_cons] at L2 L3
    by_cases hm : h = sMark
    · subst hm
      by_cases q : w = sMark
      · subst q
        match r, hr', L2 with
        | [a], hr', _ => simp [hw, dfP, isname_eq K (hr' a (by simp)), fin]
        | [], _, _ => simp [hw, dfP, fin]
        | a :: b :: r, _, L2 => 
          have : ¬ ((r.length : Int) + 1 + 1 + 1 = 2) := by omega
          simp [hw, dfP, fin, this]
      · have q' : (w == sMark) = false := by simpa using q
        simp [hw, q', fin]
        simp [dfP, q']
    · have hm' : (h == sMark) = false := by simpa using hm
      by_cases q1 : (w == sOnce || w == sAnew) = true
      · rw [q1] at pi
        match r, hr' with
        | [a], hr' => simp [hw, hm', pi, items_eq K (hr' a (by simp)), fin, dfP, q1]
        | [], _ => simp [hw, hm', pi, fin, dfP, q1]
        | a :: b :: r, _ =>
          have : ¬ ((r.length : Int) + 1 + 1 + 1 = 2) := by omega
          simp [hw, hm', pi, this, fin, dfP, q1]
      · simp only [Bool.not_eq_true] at q1
        rw [q1] at pi
        by_cases q2 : w = sEarly
        · subst q2
          match r, hr' with
          | [a, b], hr' =>
            have e1 := isname_eq K (hr' a (by simp)) s
            have e2 := isname_eq K (hr' b (by simp)) s
            cases ha : nmP a <;> rw [ha] at e1 <;> simp [hw, hm', pi, e1, e2, fin, dfP, q1, ha]
          | [], _ => simp [hw, hm', pi, fin, dfP, q1]
          | [_], _ => simp [hw, hm', pi, fin, dfP, q1]
          | a :: b :: c :: r, _ =>
            have : ¬ ((r.length : Int) + 1 + 1 + 1 + 1 = 3) := by omega
            simp [hw, hm', pi, this, fin, dfP, q1]
        · have q2' : (w == sEarly) = false := by simpa using q2
          by_cases q3 : w = sLate
          · subst q3
            match r, hr' with
            | [a, b], hr' =>
              have e1 := owner_eq K (hr' a (by simp)) s
              have e2 := isname_eq K (hr' b (by simp)) s
              cases ha : owP a <;> rw [ha] at e1 <;> simp [hw, hm', pi, e1, e2, fin, dfP, q1, ha]
            | [], _ => simp [hw, hm', pi, fin, dfP, q1]
            | [_], _ => simp [hw, hm', pi, fin, dfP, q1]
            | a :: b :: c :: r, _ =>
              have : ¬ ((r.length : Int) + 1 + 1 + 1 + 1 = 3) := by omega
              simp [hw, hm', pi, this, fin, dfP, q1]
          · have q3' : (w == sLate) = false := by simpa using q3
            simp [hw, hm', pi, q2', q3', fin]
            simp only [dfP, hm', q1, q2', q3', Bool.false_eq_true, if_false, Bool.false_and]
/-- the first fault of a parameter's parts: 0 name, 1 holds, 2 default, 3 named -/
def holdsOk : PV → Bool
  | .str h => h == sMark || h == sBox
  | _ => false
def parFault (nm ho de na : PV) : Option Nat :=
  if nmP nm = false then some 0 else if holdsOk ho = false then some 1 else if (match de with
    | .non => false
    | _ => !dfP (strOf ho) de) = true then some 2 else if isBl na = false then some 3 else none
variable {cN cP : Nat} {tn th td tm : List (Nat × Nat)}
theorem look_ok (h : G n x = true) (hn : nmP x = true) (s : Store) : d_look_name tab cN [x] s = .ok .non s := by
  have h1 := isname_eq K h s
  rw [hn] at h1
  unfold d_look_name
  rw [runDef_ap]
  unfold m_look_name
  simp [h1]
  rw [finV_data rfl (kept_refl _ _) (by simp)]
theorem finX_same {e : PV} {s : Store} (h : lb s.length e = true) : finX s e s = .exc e s := by
  unfold finX
  rw [if_pos ⟨kept_refl _ _, Nat.le_refl _, h⟩, List.take_length]
theorem finX_drop {e : PV} {s r : Store} (h : lb s.length e = true) : finX s e (s ++ r) = .exc e s := by
  unfold finX
  have hk : Kept s.length s (s ++ r) := fun i hi => by left; rw [List.getElem?_append_left hi]
  have hl : s.length ≤ (s ++ r).length := by simp
  rw [if_pos ⟨hk, hl, h⟩]
  simp
theorem look_bad (h : G n x = true) (hn : nmP x = false) (s : Store) : d_look_name tab cN [x] s = .exc (.ins cN [x]) s := by
  have h1 := isname_eq K h s
  rw [hn] at h1
  unfold d_look_name
  rw [runDef_ap]
  unfold m_look_name
  simp [h1]
  exact finX_same K (by simp [G_lb s.length h])
/-- what the making of a parameter comes to -/
def parRes (c0 cN cP : Nat) (nm ho de na : PV) (s : Store) : Res PV := match parFault nm ho de na with
  | some 0 => .exc (.ins cN [nm]) s
  | some 1 => .exc (.ins cP [.str [104, 111, 108, 100, 115]]) s
  | some 2 => .exc (.ins cP [.str [100, 101, 102, 97, 117, 108, 116]]) s
  | some _ => .exc (.ins cP [.str [110, 97, 109, 101, 100]]) s
  | none => .ok (.ins c0 [nm, ho, de, na]) s
structure FldOk (c0 : Nat) (tn th td tm : List (Nat × Nat)) : Prop where
  n : tn.lookup c0 = some 0
  h : th.lookup c0 = some 1
  d : td.lookup c0 = some 2
  m : tm.lookup c0 = some 3
omit K in
theorem isN_some {x : PV} (s : Store) (h : x ≠ .non) : pyIs .non x s = .ok (.bl false) s := by
  cases x <;> first | rfl | exact absurd rfl h
omit K in
theorem isN_non (s : Store) : pyIs .non .non s = .ok (.bl true) s := rfl
theorem notin_mb {h : List Nat} (s : Store) : pyNotIn (.str h) (.tup [.str sMark, .str sBox]) s = .ok (.bl (!(h == sMark || h == sBox))) s := by
  rw [pyNotIn_tup rfl rfl]
  simp only [List.any_cons, List.any_nil, Bool.or_false]
  have e1 : eqF dp (.str sMark) (.str h) = (h == sMark) := BEq.comm
  have e2 : eqF dp (.str sBox) (.str h) = (h == sBox) := BEq.comm
  rw [e1, e2]
set_option maxHeartbeats 0 in
theorem new_par {c0 : Nat} {nm ho de na : PV} (hf : FldOk c0 tn th td tm) (h1 : G 5 nm = true) (h2 : G 5 ho = true) (h3 : G 5 de = true) (h4 : G 5 na = true) (s : Store) :
    newOf c0 finV (fun vs zs => d_Param_init tab cN cP tn th td tm (pickL [0, 1, 2, 3, 4] (vs ++ ([] : List PV) ++ zs))) [nm] [ho, de, na] s = parRes c0 cN cP nm ho de na s := by
  have l1 := fun b => G_lb b h1
  have l2 := fun b => G_lb b h2
  have l3 := fun b => G_lb b h3
  have l4 := fun b => G_lb b h4
  have t4 := truth_eq K h4
  unfold newOf
  simp only [pickL, List.append_nil, List.cons_append, List.nil_append]
  show (match d_Param_init tab cN cP tn th td tm [.loc s.length, nm, ho, de, na] (s ++ [.ins c0 []]) with
    | .ok .non s1 => finV s (.loc s.length) s1
    | .ok _ _ => .stuck
    | .exc e s1 => finX s e s1
    | .stuck => .stuck) = _
  have bad : ∀ c (v : PV), (∀ b, lb b v = true) → d_Param_init tab cN cP tn th td tm [.loc s.length, nm, ho, de, na] (s ++ [.ins c0 []]) = .exc (.ins c [v]) (s ++ [.ins c0 []]) →
      (match d_Param_init tab cN cP tn th td tm [.loc s.length, nm, ho, de, na] (s ++ [.ins c0 []]) with
    | .ok .non s1 => finV s (.loc s.length) s1
    | .ok _ _ => .stuck
    | .exc e s1 => finX s e s1
    | .stuck => .stuck) = .exc (.ins c [v]) s := fun c v hv e => by
    rw [e]
    exact finX_drop K (by simp [hv])
  have body : ∀ r, m_Param_init tab cN cP tn th td tm [some (.loc s.length), some nm, some ho, some de, some na] (s ++ [.ins c0 []]) = r → d_Param_init tab cN cP tn th td tm [.loc s.length, nm, ho, de, na] (s ++ [.ins c0 []]) = (match r with
    | .ok (_, .ret v) s1 => finV (s ++ [.ins c0 []]) v s1
    | .ok (_, .next) s1 => finV (s ++ [.ins c0 []]) .non s1
    | .ok _ _ => .stuck
    | .exc e s1 => finX (s ++ [.ins c0 []]) e s1
    | .stuck => .stuck) := fun r e => by
    unfold d_Param_init
    rw [runDef_ap]
    simp only [List.map_cons, List.map_nil, List.length_cons, List.length_nil, Nat.sub_self, List.replicate_zero, List.append_nil, Nat.reduceAdd]
    rw [e] <;> rfl
  have exc : ∀ c (v : PV), (∀ b, lb b v = true) → m_Param_init tab cN cP tn th td tm [some (.loc s.length), some nm, some ho, some de, some na] (s ++ [.ins c0 []]) = .exc (.ins c [v]) (s ++ [.ins c0 []]) → _ := fun c v hv e => bad c v hv (by rw [body _ e]; exact finX_same K (by simp [hv]))
  unfold parRes parFault
  cases hn : nmP nm
  · simp only [if_true]
    refine exc cN nm l1 ?_
    unfold m_Param_init
    simp [look_bad K h1 hn]
  · simp only [Bool.true_eq_false, if_false]
    have lk := look_ok K (cN := cN) h1 hn
    cases hh : holdsOk ho
    · simp only [if_true]
      refine exc cP _ (by simp) ?_
      unfold m_Param_init
      by_cases hs : isStr ho = true
      · cases ho <;> first | (simp [isStr] at hs; done) | skip
        rename_i w
        have i2 := isi_str K (s := s ++ [.ins c0 []]) h2
        simp only [isStr] at i2
        simp only [holdsOk] at hh
        have nm2 := notin_mb K (h := w) (s ++ [.ins c0 []])
        rw [hh] at nm2
        simp [-bIsi_ty, lk, i2, nm2]
      · have i2 := isi_str K (s := s ++ [.ins c0 []]) h2
        simp [-bIsi_ty, lk, i2, hs]
    · simp only [Bool.true_eq_false, if_false]
      obtain ⟨w, rfl, hw⟩ : ∃ w, ho = .str w ∧ (w == sMark || w == sBox) = true := by
        cases ho <;> first | (simp [holdsOk] at hh; done) | skip
        exact ⟨_, rfl, hh⟩
      have i2 := isi_str K (s := s ++ [.ins c0 []]) h2
      simp only [isStr] at i2
      have nm2 := notin_mb K (h := w) (s ++ [.ins c0 []])
      rw [hw] at nm2
      have wl : w.length ≠ 1 := by
        simp only [Bool.or_eq_true, beq_iff_eq] at hw
        rcases hw with rfl | rfl <;> decide
      by_cases hd : (match de with | .non => false | _ => !dfP (strOf (.str w)) de) = true
      · rw [if_pos hd]
        refine exc cP _ (by simp) ?_
        unfold m_Param_init
        have nd : de ≠ .non := by intro e; subst e; simp at hd
        have hd2 : dfP w de = false := by
          cases de <;> first | exact absurd rfl nd | (simpa [strOf] using hd)
        have df := default_eq K (n := 3) wl h3 (s ++ [.ins c0 []])
        rw [hd2] at df
        simp [-bIsi_ty, lk, i2, nm2, isN_some _ nd, df]
      · rw [if_neg hd]
        have pre : ∀ s' : Store, s' = s ++ [.ins c0 []] → (qAnd (qBl (eNotB (eOp1 (pyIs .non) (eVar 3)))) (qNot (qOf (eCallK (fun vs _ => d_is_default tab vs) (aCons (eVar 2) (aCons (eVar 3) (aNil))) (aNil))))) [some (.loc s.length), some nm, some (.str w), some de, some na] s' = .ok false s' := fun s' es => by
          by_cases nd : de = .non
          · subst nd; simp [isN_non]
          · have hd2 : dfP w de = true := by
              cases de <;> first | exact absurd rfl nd | (simpa [strOf] using hd)
            have df := default_eq K (n := 3) wl h3 s'
            rw [hd2] at df
            simp [isN_some _ nd, df]
        cases hb : isBl na
        · simp only [if_true]
          refine exc cP _ (by simp) ?_
          rw [hb] at t4
          unfold m_Param_init
          have p := pre _ rfl
          rw [sSeq_ap]
          simp [-bIsi_ty, -qAnd_ap, lk, i2, nm2, p, t4]
        · simp only [Bool.true_eq_false, if_false]
          rw [hb] at t4
          have p := pre _ rfl
          have e : m_Param_init tab cN cP tn th td tm [some (.loc s.length), some nm, some (.str w), some de, some na] (s ++ [.ins c0 []]) = .ok ([some (.loc s.length), some nm, some (.str w), some de, some na], .next) (s ++ [.ins c0 [nm, .str w, de, na]]) := by
            unfold m_Param_init
            rw [sSeq_ap]
            simp [-bIsi_ty, -qAnd_ap, lk, i2, nm2, p, t4, hf.n, hf.h, hf.d, hf.m, putF]
          rw [body _ e]
          have f1 : finV (s ++ [.ins c0 []]) .non (s ++ [.ins c0 [nm, .str w, de, na]]) = .ok .non (s ++ [.ins c0 [nm, .str w, de, na]]) := finV_data (by simp) (kept_mid s [] _ _ (by simp [l1, l3, l4])) (by simp)
          simp only [f1]
          exact finV_new rfl (kept_refl _ _) (Nat.le_refl _) (by simp) (by simp [l1, l3, l4])
end
end PL
namespace K38
open PySem PySem.Spec PyProof.Rows L2 Mir
/-! ## the text of law_k38_callers_made -/
def top (i : Nat) : Stmt := PySem.Challenge.pw_oncedefaults_k38_callers_made.main.body.getD i (.Pass ⟨0, 0, 0, 0⟩)
def sub (i j : Nat) : Stmt := (clsBody (top i)).getD j (.Pass ⟨0, 0, 0, 0⟩)
def caN : List Str := ["Callers", "BadCallers"]
def flN : List (List Str) := [["methods", "changes", "passes"], ["part"]]
def file0 : Str := PySem.Challenge.pw_oncedefaults_k38_callers_made.main.file
abbrev tb (K : PySem.W.Frag) : Tb := tbM K caN flN
def c_LETTERS : PV := .str [97, 98, 99, 100, 101, 102, 103, 104, 105, 106, 107, 108, 109, 110, 111, 112, 113, 114, 115, 116, 117, 118, 119, 120, 121, 122]
def c_WORDS : PV := .tup [.str [109, 97, 114, 107, 115], .str [107, 105, 110, 100], .str [118, 97, 108, 117, 101], .str [100, 101, 102], .str [114, 101, 116, 117, 114, 110], .str [110, 111, 110, 101], .str [99, 111, 112, 121], .str [105, 102], .str [117, 110, 108, 101, 115, 115], .str [105, 110], .str [105, 115], .str [109, 97, 114, 107], .str [98, 111, 120], .str [111, 110, 99, 101], .str [97, 110, 101, 119], .str [101, 97, 114, 108, 121], .str [108, 97, 116, 101], .str [99, 108, 115], .str [115, 101, 108, 102], .str [109, 101, 116, 104, 111, 100]]
def c_MOST_LETTERS : PV := .int 8
def t_passes : List (Nat × Nat) := [(0, 2)]
def t_changes : List (Nat × Nat) := [(0, 1)]
def t_methods : List (Nat × Nat) := [(0, 0)]
def isiT : List ((Tg × Tg) × Bool) := [((.t "NoneType", .t "str"), false), ((.t "bool", .t "str"), false), ((.t "int", .t "str"), false), ((.t "str", .t "str"), true), ((.t "tuple", .t "str"), false), ((.t "list", .t "str"), false), ((.c 0, .t "str"), false), ((.t "NoneType", .t "tuple"), false), ((.t "bool", .t "tuple"), false), ((.t "int", .t "tuple"), false), ((.t "str", .t "tuple"), false), ((.t "tuple", .t "tuple"), true), ((.t "list", .t "tuple"), false), ((.c 0, .t "tuple"), false), ((.t "NoneType", .t "bool"), false), ((.t "bool", .t "bool"), true), ((.t "int", .t "bool"), false), ((.t "str", .t "bool"), false), ((.t "tuple", .t "bool"), false), ((.t "list", .t "bool"), false), ((.c 0, .t "bool"), false), ((.t "NoneType", .c 0), false), ((.t "bool", .c 0), false), ((.t "int", .c 0), false), ((.t "str", .c 0), false), ((.t "tuple", .c 0), false), ((.t "list", .c 0), false), ((.c 0, .c 0), true)]
@[simp] theorem isi_0 : isiT.lookup (.t "NoneType", .t "str") = some false := by decide
@[simp] theorem isi_1 : isiT.lookup (.t "bool", .t "str") = some false := by decide
@[simp] theorem isi_2 : isiT.lookup (.t "int", .t "str") = some false := by decide
@[simp] theorem isi_3 : isiT.lookup (.t "str", .t "str") = some true := by decide
@[simp] theorem isi_4 : isiT.lookup (.t "tuple", .t "str") = some false := by decide
@[simp] theorem isi_5 : isiT.lookup (.t "list", .t "str") = some false := by decide
@[simp] theorem isi_6 : isiT.lookup (.c 0, .t "str") = some false := by decide
@[simp] theorem isi_7 : isiT.lookup (.t "NoneType", .t "tuple") = some false := by decide
@[simp] theorem isi_8 : isiT.lookup (.t "bool", .t "tuple") = some false := by decide
@[simp] theorem isi_9 : isiT.lookup (.t "int", .t "tuple") = some false := by decide
@[simp] theorem isi_10 : isiT.lookup (.t "str", .t "tuple") = some false := by decide
@[simp] theorem isi_11 : isiT.lookup (.t "tuple", .t "tuple") = some true := by decide
@[simp] theorem isi_12 : isiT.lookup (.t "list", .t "tuple") = some false := by decide
@[simp] theorem isi_13 : isiT.lookup (.c 0, .t "tuple") = some false := by decide
@[simp] theorem isi_14 : isiT.lookup (.t "NoneType", .t "bool") = some false := by decide
@[simp] theorem isi_15 : isiT.lookup (.t "bool", .t "bool") = some true := by decide
@[simp] theorem isi_16 : isiT.lookup (.t "int", .t "bool") = some false := by decide
@[simp] theorem isi_17 : isiT.lookup (.t "str", .t "bool") = some false := by decide
@[simp] theorem isi_18 : isiT.lookup (.t "tuple", .t "bool") = some false := by decide
@[simp] theorem isi_19 : isiT.lookup (.t "list", .t "bool") = some false := by decide
@[simp] theorem isi_20 : isiT.lookup (.c 0, .t "bool") = some false := by decide
@[simp] theorem isi_21 : isiT.lookup (.t "NoneType", .c 0) = some false := by decide
@[simp] theorem isi_22 : isiT.lookup (.t "bool", .c 0) = some false := by decide
@[simp] theorem isi_23 : isiT.lookup (.t "int", .c 0) = some false := by decide
@[simp] theorem isi_24 : isiT.lookup (.t "str", .c 0) = some false := by decide
@[simp] theorem isi_25 : isiT.lookup (.t "tuple", .c 0) = some false := by decide
@[simp] theorem isi_26 : isiT.lookup (.t "list", .c 0) = some false := by decide
@[simp] theorem isi_27 : isiT.lookup (.c 0, .c 0) = some true := by decide
/-! ### what the defs do -/
noncomputable section
def N_is_truth : List Str := ["thing"]
def m_is_truth : SM := sRet (eBlt (bIsi isiT) (aCons (eVar 0) (aCons (eC (.ty "bool")) (aNil))))
def d_is_truth : ON := runDef finV 1 m_is_truth
def N_is_name : List Str := ["thing", "sign"]
def m_is_name : SM := sSeq (sIf (qOr (qNot (qOf (eBlt (bIsi isiT) (aCons (eVar 0) (aCons (eC (.ty "str")) (aNil)))))) (qNot (qBl (eChain pyLe pyLe (eC (.int 1)) (eBlt bLen (aCons (eVar 0) (aNil))) (eC c_MOST_LETTERS))))) (sRet (eC (.bl false))) (sNext)) (sRet (eAnd (eOp2 pyNotIn (eVar 0) (eC c_WORDS)) (eBlt bAll (aCons (eLst (aComp (iSeq (eVar 0)) (gName 1) (qYes) (eOp2 pyIn (eVar 1) (eC c_LETTERS)) [1])) (aNil)))))
def d_is_name : ON := runDef finV 2 m_is_name
def N_are_pairs : List Str := ["thing", "k", "pair"]
def b_are_pairs_0 : SM := sSeq (sIf (qOr (qNot (qOf (eBlt (bIsi isiT) (aCons (eVar 2) (aCons (eC (.ty "tuple")) (aNil)))))) (qBl (eOp2 pyNe (eBlt bLen (aCons (eVar 2) (aNil))) (eC (.int 2))))) (sRet (eC (.bl false))) (sNext)) (sIf (qOr (qNot (qOf (eCallK (fun vs _ => d_is_name vs) (aCons (eOp2 pyIdx (eVar 2) (eC (.int 0))) (aNil)) (aNil)))) (qOr (qNot (qOf (eCallK (fun vs _ => d_is_name vs) (aCons (eOp2 pyIdx (eVar 2) (eC (.int 1))) (aNil)) (aNil)))) (qBl (eOp2 pyIn (eVar 2) (eSlice (eVar 0) (oNone) (oSome (eVar 1))))))) (sRet (eC (.bl false))) (sNext))
def m_are_pairs : SM := sSeq (sIf (qNot (qOf (eBlt (bIsi isiT) (aCons (eVar 0) (aCons (eC (.ty "tuple")) (aNil)))))) (sRet (eC (.bl false))) (sNext)) (sSeq (sFor (iEnum (eVar 0)) (gTup [1, 2]) (b_are_pairs_0)) (sRet (eC (.bl true))))
def d_are_pairs : ON := runDef finV 3 m_are_pairs
def N_Callers_init : List Str := ["self", "methods", "changes", "passes"]
def m_Callers_init : SM := sSeq (sIf (qAnd (qBl (eNotB (eOp1 (pyIs .non) (eVar 1)))) (qNot (qOf (eCallK (fun vs _ => d_are_pairs vs) (aCons (eVar 1) (aNil)) (aNil))))) (sRaise 1 (aCons (eC (.str [109, 101, 116, 104, 111, 100, 115])) (aNil))) (sNext)) (sSeq (sIf (qNot (qOf (eCallK (fun vs _ => d_is_truth vs) (aCons (eVar 2) (aNil)) (aNil)))) (sRaise 1 (aCons (eC (.str [99, 104, 97, 110, 103, 101, 115])) (aNil))) (sNext)) (sSeq (sIf (qNot (qOf (eCallK (fun vs _ => d_is_truth vs) (aCons (eVar 3) (aNil)) (aNil)))) (sRaise 1 (aCons (eC (.str [112, 97, 115, 115, 101, 115])) (aNil))) (sNext)) (sSeq (sSetF t_methods (eVar 0) (eVar 1)) (sSeq (sSetF t_changes (eVar 0) (eVar 2)) (sSetF t_passes (eVar 0) (eVar 3))))))
def d_Callers_init : ON := runDef finV 4 m_Callers_init
def N_Callers_eq : List Str := ["self", "other"]
def m_Callers_eq : SM := sSeq (sIf (qNot (qOf (eBlt (bIsi isiT) (aCons (eVar 1) (aCons (eC (.cls 0)) (aNil)))))) (sRet (eC (.bl false))) (sNext)) (sRet (eAnd (eOp2 pyEq (eFld t_methods (eVar 0)) (eFld t_methods (eVar 1))) (eAnd (eOp2 pyEq (eFld t_changes (eVar 0)) (eFld t_changes (eVar 1))) (eOp2 pyEq (eFld t_passes (eVar 0)) (eFld t_passes (eVar 1))))))
def d_Callers_eq : ON := runDef finV 2 m_Callers_eq
def eqG : List Tg := [.t "NoneType", .t "bool", .t "int", .t "str", .t "tuple", .t "list", .c 0]
def eqT : EqTab := [(0, eqG, fun vs _ => d_Callers_eq vs)]
def N_law_made : List Str := ["_law_parts", "e"]
def m_law_made : SM := sSeq (sTry (sRet (eCallK (newOf 0 finV (fun vs zs => d_Callers_init (pickL [0, 1, 3, 4] (vs ++ ([(.non)] : List PV) ++ ([] : List PV) ++ zs)))) (aCons (eOp2 pyIdx (eVar 0) (eC (.int 0))) (aNil)) (aCons (eOp2 pyIdx (eVar 0) (eC (.int 1))) (aCons (eOp2 pyIdx (eVar 0) (eC (.int 2))) (aNil))))) [⟨[(1, true)], some 1, fun _ vs => sIf (qAnd (qOf (eXis true vs)) (qNot (qOf (eXis false vs)))) (sRet (eXf 0 vs)) (sNext)⟩]) (sRet (eC .non))
def d_law_made : ON := runDef finV 2 m_law_made
def N_law_are_pairs : List Str := ["_law_thing", "_law_names_here", "_law_k", "_law_pair"]
def b_law_are_pairs_0 : SM := sSeq (sAsg (eOp2 pyIdx (eVar 0) (eVar 2)) (gName 3)) (sSeq (sIf (qOr (qNot (qOf (eBlt (bIsi isiT) (aCons (eVar 3) (aCons (eC (.ty "tuple")) (aNil)))))) (qOr (qBl (eOp2 pyNe (eBlt bLen (aCons (eVar 3) (aNil))) (eC (.int 2)))) (qBl (eOp2 pyIn (eVar 3) (eSlice (eVar 0) (oNone) (oSome (eVar 2))))))) (sRet (eC (.bl false))) (sNext)) (sIf (qOr (qBl (eOp2 pyNotIn (eOp2 pyIdx (eVar 3) (eC (.int 0))) (eVar 1))) (qBl (eOp2 pyNotIn (eOp2 pyIdx (eVar 3) (eC (.int 1))) (eVar 1)))) (sRet (eC (.bl false))) (sNext)))
def m_law_are_pairs : SM := sSeq (sIf (qNot (qOf (eBlt (bIsi isiT) (aCons (eVar 0) (aCons (eC (.ty "tuple")) (aNil)))))) (sRet (eC (.bl false))) (sNext)) (sSeq (sFor (iRange1 (eBlt bLen (aCons (eVar 0) (aNil)))) (gName 2) (b_law_are_pairs_0)) (sRet (eC (.bl true))))
def d_law_are_pairs : ON := runDef finV 4 m_law_are_pairs
def N_law_due : List Str := ["_law_parts", "_law_names_here"]
def m_law_due : SM := sSeq (sIf (qAnd (qBl (eNotB (eOp1 (pyIs .non) (eOp2 pyIdx (eVar 0) (eC (.int 0)))))) (qNot (qOf (eCallK (fun vs _ => d_law_are_pairs vs) (aCons (eOp2 pyIdx (eVar 0) (eC (.int 0))) (aCons (eVar 1) (aNil))) (aNil))))) (sRet (eC (.str [109, 101, 116, 104, 111, 100, 115]))) (sNext)) (sSeq (sIf (qNot (qOf (eBlt (bIsi isiT) (aCons (eOp2 pyIdx (eVar 0) (eC (.int 1))) (aCons (eC (.ty "bool")) (aNil)))))) (sRet (eC (.str [99, 104, 97, 110, 103, 101, 115]))) (sNext)) (sRet (eIf (qOf (eBlt (bIsi isiT) (aCons (eOp2 pyIdx (eVar 0) (eC (.int 2))) (aCons (eC (.ty "bool")) (aNil))))) (eC .non) (eC (.str [112, 97, 115, 115, 101, 115])))))
def d_law_due : ON := runDef finV 2 m_law_due
def N_law_draw : List Str := ["_law_bag_here", "_law_many", "_law_cell", "_law_digit"]
def m_law_draw : SM := sSeq (sIf (qAnd (qBl (eOp2 pyEq (eOp2 pyIdx (eVar 0) (eC (.int 0))) (eC (.int 0)))) (qBl (eOp2 pyGt (eBlt bLen (aCons (eVar 0) (aNil))) (eC (.int 3))))) (sSeq (sAsg (eMt mPop (eVar 0) (aCons (eC (.int 3)) (aNil))) (gName 2)) (sIf (qBl (eOp2 pyGe (eVar 2) (eOp2 pyPow (eC (.int 10)) (eC (.int 18))))) (sSetI (eVar 0) (eC (.int 0)) (eVar 2)) (sSetI (eVar 0) (eC (.int 1)) (eOp2 pyMod (eBlt bInt (aCons (eOp2 pyAdd (eOp2 pyMul (eOp2 pyIdx (eVar 0) (eC (.int 1))) (eC (.int 69621))) (eVar 2)) (aNil))) (eC (.int 2147483647)))))) (sNext)) (sSeq (sIf (qBl (eOp2 pyGt (eOp2 pyIdx (eVar 0) (eC (.int 0))) (eC (.int 0)))) (sSeq (sAsg (eOp2 pyMod (eBlt bInt (aCons (eOp2 pyIdx (eVar 0) (eC (.int 0))) (aNil))) (eVar 1)) (gName 3)) (sSeq (sSetI (eVar 0) (eC (.int 0)) (eOp2 pyFdiv (eOp2 pyIdx (eVar 0) (eC (.int 0))) (eVar 1))) (sRet (eVar 3)))) (sNext)) (sSeq (sAugI (eVar 0) (eC (.int 2)) (eC (.int 1))) (sSeq (sSetI (eVar 0) (eC (.int 1)) (eOp2 pyMod (eBlt bInt (aCons (eOp2 pyAdd (eOp2 pyMul (eOp2 pyIdx (eVar 0) (eC (.int 1))) (eC (.int 48271))) (eOp2 pyMul (eOp2 pyIdx (eVar 0) (eC (.int 2))) (eC (.int 9973)))) (aNil))) (eC (.int 2147483629)))) (sRet (eOp2 pyMod (eBlt bInt (aCons (eOp2 pyFdiv (eOp2 pyIdx (eVar 0) (eC (.int 1))) (eC (.int 5))) (aNil))) (eVar 1))))))
def d_law_draw : ON := runDef finV 4 m_law_draw
def N_law_truth : List Str := ["_law_bag_here"]
def m_law_truth : SM := sRet (eOp2 pyIdx (eLst (aCons (eC (.bl true)) (aCons (eC (.bl false)) (aCons (eC (.bl true)) (aCons (eC (.bl false)) (aCons (eC (.bl true)) (aCons (eC (.bl false)) (aCons (eC .non) (aCons (eC (.int 1)) (aCons (eC (.int 0)) (aCons (eC (.str [84, 114, 117, 101])) (aCons (eTup (aNil)) (aNil))))))))))))) (eCallK (fun vs _ => d_law_draw vs) (aCons (eVar 0) (aCons (eC (.int 11)) (aNil))) (aNil)))
def d_law_truth : ON := runDef finV 1 m_law_truth
def N_law_pairs_drawn : List Str := ["_law_bag_here", "_law_names_here", "_law_found", "_law_k"]
def b_law_pairs_drawn_0 : SM := sExp (eMt mAppend (eVar 2) (aCons (eTup (aCons (eOp2 pyIdx (eVar 1) (eCallK (fun vs _ => d_law_draw vs) (aCons (eVar 0) (aCons (eBlt bLen (aCons (eVar 1) (aNil))) (aNil))) (aNil))) (aCons (eOp2 pyIdx (eVar 1) (eCallK (fun vs _ => d_law_draw vs) (aCons (eVar 0) (aCons (eBlt bLen (aCons (eVar 1) (aNil))) (aNil))) (aNil))) (aNil)))) (aNil)))
def m_law_pairs_drawn : SM := sSeq (sNew (aNil) 2) (sSeq (sFor (iRange1 (eCallK (fun vs _ => d_law_draw vs) (aCons (eVar 0) (aCons (eC (.int 5)) (aNil))) (aNil))) (gName 3) (b_law_pairs_drawn_0)) (sRet (eBlt bTuple (aCons (eVar 2) (aNil)))))
def d_law_pairs_drawn : ON := runDef finV 4 m_law_pairs_drawn
def N_law_methods : List Str := ["_law_bag_here", "_law_names_here", "_law_pairs", "_law_word", "_law_odd"]
def m_law_methods : SM := sSeq (sAsg (eCallK (fun vs _ => d_law_pairs_drawn vs) (aCons (eVar 0) (aCons (eVar 1) (aNil))) (aNil)) (gName 2)) (sSeq (sAsg (eCallK (fun vs _ => d_law_draw vs) (aCons (eVar 0) (aCons (eC (.int 9)) (aNil))) (aNil)) (gName 3)) (sSeq (sIf (qBl (eOp2 pyLt (eVar 3) (eC (.int 4)))) (sRet (eIf (qBl (eOp2 pyEq (eVar 3) (eC (.int 0)))) (eC .non) (eVar 2))) (sNext)) (sSeq (sIf (qBl (eOp2 pyEq (eVar 3) (eC (.int 4)))) (sRet (eBlt bList (aCons (eVar 2) (aNil)))) (sNext)) (sSeq (sIf (qBl (eOp2 pyEq (eVar 3) (eC (.int 5)))) (sRet (eOp2 pyAdd (eVar 2) (eTup (aCons (eTup (aCons (eJoin (eC (.str [])) (eLst (aCons (eOp2 pyIdx (eVar 1) (eC (.int 0))) (aCons (eOp2 pyIdx (eVar 1) (eC (.int 1))) (aCons (eC (.str [97, 97, 97, 97, 97, 97, 97, 97])) (aNil)))))) (aCons (eOp2 pyIdx (eVar 1) (eC (.int 1))) (aNil)))) (aNil))))) (sNext)) (sSeq (sIf (qBl (eOp2 pyEq (eVar 3) (eC (.int 6)))) (sRet (eOp2 pyAdd (eVar 2) (eTup (aCons (eTup (aCons (eOp2 pyIdx (eVar 1) (eC (.int 0))) (aCons (eOp2 pyIdx (eVar 1) (eC (.int 1))) (aCons (eOp2 pyIdx (eVar 1) (eC (.int 2))) (aNil))))) (aNil))))) (sNext)) (sSeq (sIf (qBl (eOp2 pyEq (eVar 3) (eC (.int 7)))) (sRet (eOp2 pyAdd (eVar 2) (eTup (aCons (eLst (aCons (eOp2 pyIdx (eVar 1) (eC (.int 0))) (aCons (eOp2 pyIdx (eVar 1) (eC (.int 1))) (aNil)))) (aNil))))) (sNext)) (sSeq (sAsg (eLst (aCons (eC (.bl true)) (aCons (eC (.bl false)) (aCons (eC (.int 0)) (aCons (eC (.str [])) (aCons (eC (.str [99, 108, 115])) (aCons (eTup (aCons (eC (.str [98, 111, 120])) (aCons (eOp2 pyIdx (eVar 1) (eC (.int 0))) (aNil)))) (aCons (eTup (aCons (eTup (aCons (eOp2 pyIdx (eVar 1) (eC (.int 0))) (aCons (eC (.str [109, 101, 116, 104, 111, 100])) (aNil)))) (aNil))) (aCons (eTup (aCons (eTup (aCons (eOp2 pyIdx (eVar 1) (eC (.int 0))) (aCons (eC .non) (aNil)))) (aNil))) (aCons (eTup (aCons (eC (.int 1)) (aCons (eC (.int 2)) (aNil)))) (aNil))))))))))) (gName 4)) (sRet (eOp2 pyIdx (eVar 4) (eCallK (fun vs _ => d_law_draw vs) (aCons (eVar 0) (aCons (eBlt bLen (aCons (eVar 4) (aNil))) (aNil))) (aNil)))))))))))
def d_law_methods : ON := runDef finV 5 m_law_methods
def N_law_names : List Str := ["_law_bag_here", "_law_many", "_law_letters", "_law_kept", "_law_shift", "_law_spare", "_law_found", "_law_k", "_law_word", "_law_j"]
def b_law_names_0 : SM := sSeq (sAsg (eJoin (eC (.str [])) (eLst (aComp (iRange1 (eCallK (fun vs _ => d_law_draw vs) (aCons (eVar 0) (aCons (eC (.int 7)) (aNil))) (aNil))) (gName 9) (qYes) (eOp2 pyIdx (eVar 2) (eCallK (fun vs _ => d_law_draw vs) (aCons (eVar 0) (aCons (eC (.int 26)) (aNil))) (aNil))) [9]))) (gName 8)) (sSeq (sAsg (eOp2 pyAdd (eVar 8) (eOp2 pyIdx (eVar 2) (eOp2 pyMod (eBlt bInt (aCons (eOp2 pyAdd (eVar 4) (eVar 7)) (aNil))) (eC (.int 26))))) (gName 8)) (sExp (eMt mAppend (eVar 6) (aCons (eIf (qBl (eOp2 pyIn (eVar 8) (eSplit (eVar 3) (eC (.str [32]))))) (eOp2 pyAdd (eOp2 pyAdd (eVar 8) (eVar 5)) (eVar 5)) (eVar 8)) (aNil)))))
def m_law_names : SM := sSeq (sAsg (eC (.str [97, 98, 99, 100, 101, 102, 103, 104, 105, 106, 107, 108, 109, 110, 111, 112, 113, 114, 115, 116, 117, 118, 119, 120, 121, 122])) (gName 2)) (sSeq (sAsg (eC (.str [109, 97, 114, 107, 115, 32, 107, 105, 110, 100, 32, 118, 97, 108, 117, 101, 32, 100, 101, 102, 32, 114, 101, 116, 117, 114, 110, 32, 110, 111, 110, 101, 32, 99, 111, 112, 121, 32, 105, 102, 32, 117, 110, 108, 101, 115, 115, 32, 105, 110, 32, 105, 115, 32, 109, 97, 114, 107, 32, 98, 111, 120, 32, 111, 110, 99, 101, 32, 97, 110, 101, 119, 32, 101, 97, 114, 108, 121, 32, 108, 97, 116, 101, 32, 99, 108, 115, 32, 115, 101, 108, 102, 32, 109, 101, 116, 104, 111, 100])) (gName 3)) (sSeq (sAsg (eCallK (fun vs _ => d_law_draw vs) (aCons (eVar 0) (aCons (eC (.int 26)) (aNil))) (aNil)) (gName 4)) (sSeq (sAsg (eOp2 pyIdx (eVar 2) (eOp2 pyMod (eBlt bInt (aCons (eOp2 pyAdd (eVar 4) (eVar 1)) (aNil))) (eC (.int 26)))) (gName 5)) (sSeq (sNew (aNil) 6) (sSeq (sFor (iRange1 (eVar 1)) (gName 7) (b_law_names_0)) (sRet (eVar 6)))))))
def d_law_names : ON := runDef finV 10 m_law_names
def N_law_bag : List Str := ["_law_script"]
def m_law_bag : SM := sRetL (aCat (eLst (aCons (eC (.int 0)) (aCons (eC (.int 7)) (aCons (eC (.int 0)) (aNil))))) (eBlt bList (aCons (eVar 0) (aNil))))
def d_law_bag : ON := runDef finL 1 m_law_bag
def N_law : List Str := ["_law_script", "_law_bag_here", "_law_names_here", "_law_made_here", "_law_k", "_law_one", "_law_plain", "_law_parts", "_law_due_here", "_law_actual", "_law_other"]
def b_law_0 : SM := sIf (qOr (qBl (eOp2 pyNe (eOwnEq eqT (eOp2 pyIdx (eVar 5) (eC (.int 1))) (eOp2 pyIdx (eVar 10) (eC (.int 1)))) (eOp2 pyEq (eOp2 pyIdx (eVar 5) (eC (.int 0))) (eOp2 pyIdx (eVar 10) (eC (.int 0)))))) (qBl (eOp2 pyEq (eOwnNe eqT (eOp2 pyIdx (eVar 5) (eC (.int 1))) (eOp2 pyIdx (eVar 10) (eC (.int 1)))) (eOp2 pyEq (eOp2 pyIdx (eVar 5) (eC (.int 0))) (eOp2 pyIdx (eVar 10) (eC (.int 0))))))) (sRet (eC (.bl false))) (sNext)
def b_law_1 : SM := sSeq (sFor (iSeq (eVar 3)) (gName 10) (b_law_0)) (sSeq (sIf (qOr (qBl (eOwnNe eqT (eOp2 pyIdx (eVar 5) (eC (.int 1))) (eCallK (newOf 0 finV (fun vs zs => d_Callers_init (pickL [0, 1, 3, 4] (vs ++ ([(.non)] : List PV) ++ ([] : List PV) ++ zs)))) (aCons (eOp2 pyIdx (eOp2 pyIdx (eVar 5) (eC (.int 0))) (eC (.int 0))) (aNil)) (aCons (eOp2 pyIdx (eOp2 pyIdx (eVar 5) (eC (.int 0))) (eC (.int 1))) (aCons (eOp2 pyIdx (eOp2 pyIdx (eVar 5) (eC (.int 0))) (eC (.int 2))) (aNil)))))) (qBl (eOwnEq eqT (eOp2 pyIdx (eVar 5) (eC (.int 1))) (eOp2 pyIdx (eVar 5) (eC (.int 0)))))) (sRet (eC (.bl false))) (sNext)) (sSeq (sIf (qBl (eOwnEq eqT (eOp2 pyIdx (eVar 5) (eC (.int 1))) (eCallK (newOf 0 finV (fun vs zs => d_Callers_init (pickL [0, 1, 3, 4] (vs ++ ([(.non)] : List PV) ++ ([] : List PV) ++ zs)))) (aCons (eOp2 pyIdx (eOp2 pyIdx (eVar 5) (eC (.int 0))) (eC (.int 0))) (aNil)) (aCons (eNot (eOp2 pyIdx (eOp2 pyIdx (eVar 5) (eC (.int 0))) (eC (.int 1)))) (aCons (eOp2 pyIdx (eOp2 pyIdx (eVar 5) (eC (.int 0))) (eC (.int 2))) (aNil)))))) (sRet (eC (.bl false))) (sNext)) (sIf (qBl (eOwnEq eqT (eOp2 pyIdx (eVar 5) (eC (.int 1))) (eCallK (newOf 0 finV (fun vs zs => d_Callers_init (pickL [0, 1, 3, 4] (vs ++ ([(.non)] : List PV) ++ ([] : List PV) ++ zs)))) (aCons (eOp2 pyIdx (eOp2 pyIdx (eVar 5) (eC (.int 0))) (eC (.int 0))) (aNil)) (aCons (eOp2 pyIdx (eOp2 pyIdx (eVar 5) (eC (.int 0))) (eC (.int 1))) (aCons (eNot (eOp2 pyIdx (eOp2 pyIdx (eVar 5) (eC (.int 0))) (eC (.int 2)))) (aNil)))))) (sRet (eC (.bl false))) (sNext))))
def b_law_2 : SM := sSeq (sAsg (eTup (aCons (eCallK (fun vs _ => d_law_methods vs) (aCons (eVar 1) (aCons (eVar 2) (aNil))) (aNil)) (aCons (eCallK (fun vs _ => d_law_truth vs) (aCons (eVar 1) (aNil)) (aNil)) (aCons (eCallK (fun vs _ => d_law_truth vs) (aCons (eVar 1) (aNil)) (aNil)) (aNil))))) (gName 7)) (sSeq (sAsg (eCallK (fun vs _ => d_law_due vs) (aCons (eVar 7) (aCons (eVar 2) (aNil))) (aNil)) (gName 8)) (sSeq (sAsg (eCallK (fun vs _ => d_law_made vs) (aCons (eVar 7) (aNil)) (aNil)) (gName 9)) (sSeq (sIf (qBl (eNotB (eOp1 (pyIs .non) (eVar 8)))) (sSeq (sIf (qOr (qNot (qOf (eBlt (bIsi isiT) (aCons (eVar 9) (aCons (eC (.ty "str")) (aNil)))))) (qBl (eOp2 pyNe (eVar 9) (eVar 8)))) (sRet (eC (.bl false))) (sNext)) (sCont)) (sNext)) (sSeq (sIf (qOr (qNot (qOf (eBlt (bIsi isiT) (aCons (eVar 9) (aCons (eC (.cls 0)) (aNil)))))) (qBl (eOp2 pyNe (eFld t_methods (eVar 9)) (eOp2 pyIdx (eVar 7) (eC (.int 0)))))) (sRet (eC (.bl false))) (sNext)) (sSeq (sIf (qOr (qBl (eOp2 pyNe (eBlt bRepr (aCons (eFld t_changes (eVar 9)) (aNil))) (eBlt bRepr (aCons (eOp2 pyIdx (eVar 7) (eC (.int 1))) (aNil))))) (qBl (eOp2 pyNe (eBlt bRepr (aCons (eFld t_passes (eVar 9)) (aNil))) (eBlt bRepr (aCons (eOp2 pyIdx (eVar 7) (eC (.int 2))) (aNil)))))) (sRet (eC (.bl false))) (sNext)) (sSeq (sIf (qBl (eOp2 pyNe (eBlt (bIsi isiT) (aCons (eOp2 pyIdx (eVar 7) (eC (.int 0))) (aCons (eC (.ty "tuple")) (aNil)))) (eBlt (bIsi isiT) (aCons (eFld t_methods (eVar 9)) (aCons (eC (.ty "tuple")) (aNil)))))) (sRet (eC (.bl false))) (sNext)) (sExp (eMt mAppend (eVar 3) (aCons (eTup (aCons (eVar 7) (aCons (eVar 9) (aNil)))) (aNil))))))))))
def m_law : SM := sSeq (sAsg (eCallK (fun vs _ => d_law_bag vs) (aCons (eVar 0) (aNil)) (aNil)) (gName 1)) (sSeq (sAsg (eCallK (fun vs _ => d_law_names vs) (aCons (eVar 1) (aCons (eC (.int 4)) (aNil))) (aNil)) (gName 2)) (sSeq (sNew (aNil) 3) (sSeq (sFor (iRange1 (eC (.int 4))) (gName 4) (b_law_2)) (sSeq (sFor (iSeq (eVar 3)) (gName 5) (b_law_1)) (sSeq (sAsg (eCallK (newOf 0 finV (fun vs zs => d_Callers_init (pickL [0, 1, 2, 3] (vs ++ ([(.non)] : List PV) ++ ([(.bl true), (.bl true)] : List PV) ++ zs)))) aNil (aNil)) (gName 6)) (sRet (eAnd (eOp1 (pyIs .non) (eFld t_methods (eVar 6))) (eAnd (eOp1 (pyIs (.bl true)) (eFld t_changes (eVar 6))) (eOp1 (pyIs (.bl true)) (eFld t_passes (eVar 6)))))))))))
def d_law : ON := runDef finV 11 m_law
end
/-! ### facts -/
abbrev s_is_truth : Stmt := top 10
def D_is_truth : He.DefD := ⟨("is_truth", none), "is_truth", "is_truth", defArgs s_is_truth, defBody s_is_truth, defScope s_is_truth, [], []⟩
abbrev s_is_name : Stmt := top 9
def D_is_name : He.DefD := ⟨("is_name", none), "is_name", "is_name", defArgs s_is_name, defBody s_is_name, defScope s_is_name, [], []⟩
abbrev s_are_pairs : Stmt := top 12
def D_are_pairs : He.DefD := ⟨("are_pairs", none), "are_pairs", "are_pairs", defArgs s_are_pairs, defBody s_are_pairs, defScope s_are_pairs, [], []⟩
abbrev s_Callers_init : Stmt := sub 13 0
def D_Callers_init : He.DefD := ⟨("Callers", some "__init__"), "__init__", "Callers.__init__", defArgs s_Callers_init, defBody s_Callers_init, defScope s_Callers_init, [.non], [("changes", .bl true), ("passes", .bl true)]⟩
abbrev s_Callers_eq : Stmt := sub 13 2
def D_Callers_eq : He.DefD := ⟨("Callers", some "__eq__"), "__eq__", "Callers.__eq__", defArgs s_Callers_eq, defBody s_Callers_eq, defScope s_Callers_eq, [], []⟩
abbrev s_law_made : Stmt := top 22
def D_law_made : He.DefD := ⟨("_law_made", none), "_law_made", "_law_made", defArgs s_law_made, defBody s_law_made, defScope s_law_made, [], []⟩
abbrev s_law_are_pairs : Stmt := top 19
def D_law_are_pairs : He.DefD := ⟨("_law_are_pairs", none), "_law_are_pairs", "_law_are_pairs", defArgs s_law_are_pairs, defBody s_law_are_pairs, defScope s_law_are_pairs, [], []⟩
abbrev s_law_due : Stmt := top 23
def D_law_due : He.DefD := ⟨("_law_due", none), "_law_due", "_law_due", defArgs s_law_due, defBody s_law_due, defScope s_law_due, [], []⟩
abbrev s_law_draw : Stmt := top 16
def D_law_draw : He.DefD := ⟨("_law_draw", none), "_law_draw", "_law_draw", defArgs s_law_draw, defBody s_law_draw, defScope s_law_draw, [], []⟩
abbrev s_law_truth : Stmt := top 21
def D_law_truth : He.DefD := ⟨("_law_truth", none), "_law_truth", "_law_truth", defArgs s_law_truth, defBody s_law_truth, defScope s_law_truth, [], []⟩
abbrev s_law_pairs_drawn : Stmt := top 18
def D_law_pairs_drawn : He.DefD := ⟨("_law_pairs_drawn", none), "_law_pairs_drawn", "_law_pairs_drawn", defArgs s_law_pairs_drawn, defBody s_law_pairs_drawn, defScope s_law_pairs_drawn, [], []⟩
abbrev s_law_methods : Stmt := top 20
def D_law_methods : He.DefD := ⟨("_law_methods", none), "_law_methods", "_law_methods", defArgs s_law_methods, defBody s_law_methods, defScope s_law_methods, [], []⟩
abbrev s_law_names : Stmt := top 17
def D_law_names : He.DefD := ⟨("_law_names", none), "_law_names", "_law_names", defArgs s_law_names, defBody s_law_names, defScope s_law_names, [], []⟩
abbrev s_law_bag : Stmt := top 15
def D_law_bag : He.DefD := ⟨("_law_bag", none), "_law_bag", "_law_bag", defArgs s_law_bag, defBody s_law_bag, defScope s_law_bag, [], []⟩
abbrev s_law : Stmt := top 24
def D_law : He.DefD := ⟨("law", none), "law", "law", defArgs s_law, defBody s_law, defScope s_law, [], []⟩
def fn : List He.DefD := [D_is_truth, D_is_name, D_are_pairs, D_Callers_init, D_Callers_eq, D_law_made, D_law_are_pairs, D_law_due, D_law_draw, D_law_truth, D_law_pairs_drawn, D_law_methods, D_law_names, D_law_bag, D_law]
abbrev sx_BadCallers : Stmt := sub 3 0
def XC_BadCallers : XcD := ⟨"BadCallers", true, ["part"], ⟨"__init__", "BadCallers.__init__", defArgs sx_BadCallers, defBody sx_BadCallers, defScope sx_BadCallers⟩⟩
def fa : List He.Fa := [.glo "is_truth", .keep "is_truth", .glo "BadCallers", .glo "is_name", .keep "is_name", .glo "are_pairs", .keep "are_pairs", .glo "Callers", .glo "BadWorld", .glo "PartError", .glo "_law_made", .keep "_law_made", .glo "_law_are_pairs", .keep "_law_are_pairs", .glo "_law_due", .keep "_law_due", .glo "_law_draw", .keep "_law_draw", .glo "_law_truth", .keep "_law_truth", .glo "_law_pairs_drawn", .keep "_law_pairs_drawn", .glo "_law_methods", .keep "_law_methods", .glo "_law_names", .keep "_law_names", .glo "_law_bag", .keep "_law_bag", .glo "law", .free "isinstance", .free "bool", .free "super", .free "enumerate", .free "all", .free "len", .free "str", .free "tuple", .free "range", .free "repr", .free "int", .free "list", .cls "Callers", .mkr "Callers", .noat "Callers" "passes", .noat "Callers" "changes", .noat "Callers" "methods", .meth "Callers" "__eq__"]
def ex : Ex := [fun K => conC K "LETTERS" c_LETTERS, fun K => conC K "WORDS" c_WORDS, fun K => conC K "MOST_LETTERS" c_MOST_LETTERS, fun K => insB K (He.ga K "Callers"), xcB file0 XC_BadCallers, exmB caN "BadCallers" [(1, true)], fun K => xfB1 K "BadCallers" "part", xisB "BadCallers" "BadWorld" false, xisB "BadCallers" "PartError" true, kitB2 caN isiT, nfB caN 0 eqG, neB caN 0]
def xs : List XcD := [XC_BadCallers]
section
variable {P : Program} {w : World} {K : PySem.W.Frag} {h base : Heap} {mg : Str → Option Value} (c : SaysN P file0 fa fn xs ex K) (X : K.In h) (G : h.Ns mainGlobals mg)
include c X G in
theorem hg_is_truth : mg "is_truth" = some (.ref (He.ga K "is_truth")) := He.glo_ok X G (c.d.fact 0 (f := .glo "is_truth") rfl)
include c in
theorem hk_is_truth : PySem.W.keepIn K (.ref (He.ga K "is_truth")) = true := c.d.fact 1 (f := .keep "is_truth") rfl
include c X G in
theorem hg_BadCallers : mg "BadCallers" = some (.ref (He.ga K "BadCallers")) := He.glo_ok X G (c.d.fact 2 (f := .glo "BadCallers") rfl)
include c X G in
theorem hg_is_name : mg "is_name" = some (.ref (He.ga K "is_name")) := He.glo_ok X G (c.d.fact 3 (f := .glo "is_name") rfl)
include c in
theorem hk_is_name : PySem.W.keepIn K (.ref (He.ga K "is_name")) = true := c.d.fact 4 (f := .keep "is_name") rfl
include c X G in
theorem hg_are_pairs : mg "are_pairs" = some (.ref (He.ga K "are_pairs")) := He.glo_ok X G (c.d.fact 5 (f := .glo "are_pairs") rfl)
include c in
theorem hk_are_pairs : PySem.W.keepIn K (.ref (He.ga K "are_pairs")) = true := c.d.fact 6 (f := .keep "are_pairs") rfl
include c X G in
theorem hg_Callers : mg "Callers" = some (.ref (He.ga K "Callers")) := He.glo_ok X G (c.d.fact 7 (f := .glo "Callers") rfl)
include c X G in
theorem hg_BadWorld : mg "BadWorld" = some (.ref (He.ga K "BadWorld")) := He.glo_ok X G (c.d.fact 8 (f := .glo "BadWorld") rfl)
include c X G in
theorem hg_PartError : mg "PartError" = some (.ref (He.ga K "PartError")) := He.glo_ok X G (c.d.fact 9 (f := .glo "PartError") rfl)
include c X G in
theorem hg__law_made : mg "_law_made" = some (.ref (He.ga K "_law_made")) := He.glo_ok X G (c.d.fact 10 (f := .glo "_law_made") rfl)
include c in
theorem hk__law_made : PySem.W.keepIn K (.ref (He.ga K "_law_made")) = true := c.d.fact 11 (f := .keep "_law_made") rfl
include c X G in
theorem hg__law_are_pairs : mg "_law_are_pairs" = some (.ref (He.ga K "_law_are_pairs")) := He.glo_ok X G (c.d.fact 12 (f := .glo "_law_are_pairs") rfl)
include c in
theorem hk__law_are_pairs : PySem.W.keepIn K (.ref (He.ga K "_law_are_pairs")) = true := c.d.fact 13 (f := .keep "_law_are_pairs") rfl
include c X G in
theorem hg__law_due : mg "_law_due" = some (.ref (He.ga K "_law_due")) := He.glo_ok X G (c.d.fact 14 (f := .glo "_law_due") rfl)
include c in
theorem hk__law_due : PySem.W.keepIn K (.ref (He.ga K "_law_due")) = true := c.d.fact 15 (f := .keep "_law_due") rfl
include c X G in
theorem hg__law_draw : mg "_law_draw" = some (.ref (He.ga K "_law_draw")) := He.glo_ok X G (c.d.fact 16 (f := .glo "_law_draw") rfl)
include c in
theorem hk__law_draw : PySem.W.keepIn K (.ref (He.ga K "_law_draw")) = true := c.d.fact 17 (f := .keep "_law_draw") rfl
include c X G in
theorem hg__law_truth : mg "_law_truth" = some (.ref (He.ga K "_law_truth")) := He.glo_ok X G (c.d.fact 18 (f := .glo "_law_truth") rfl)
include c in
theorem hk__law_truth : PySem.W.keepIn K (.ref (He.ga K "_law_truth")) = true := c.d.fact 19 (f := .keep "_law_truth") rfl
include c X G in
theorem hg__law_pairs_drawn : mg "_law_pairs_drawn" = some (.ref (He.ga K "_law_pairs_drawn")) := He.glo_ok X G (c.d.fact 20 (f := .glo "_law_pairs_drawn") rfl)
include c in
theorem hk__law_pairs_drawn : PySem.W.keepIn K (.ref (He.ga K "_law_pairs_drawn")) = true := c.d.fact 21 (f := .keep "_law_pairs_drawn") rfl
include c X G in
theorem hg__law_methods : mg "_law_methods" = some (.ref (He.ga K "_law_methods")) := He.glo_ok X G (c.d.fact 22 (f := .glo "_law_methods") rfl)
include c in
theorem hk__law_methods : PySem.W.keepIn K (.ref (He.ga K "_law_methods")) = true := c.d.fact 23 (f := .keep "_law_methods") rfl
include c X G in
theorem hg__law_names : mg "_law_names" = some (.ref (He.ga K "_law_names")) := He.glo_ok X G (c.d.fact 24 (f := .glo "_law_names") rfl)
include c in
theorem hk__law_names : PySem.W.keepIn K (.ref (He.ga K "_law_names")) = true := c.d.fact 25 (f := .keep "_law_names") rfl
include c X G in
theorem hg__law_bag : mg "_law_bag" = some (.ref (He.ga K "_law_bag")) := He.glo_ok X G (c.d.fact 26 (f := .glo "_law_bag") rfl)
include c in
theorem hk__law_bag : PySem.W.keepIn K (.ref (He.ga K "_law_bag")) = true := c.d.fact 27 (f := .keep "_law_bag") rfl
include c X G in
theorem hg_law : mg "law" = some (.ref (He.ga K "law")) := He.glo_ok X G (c.d.fact 28 (f := .glo "law") rfl)
include c X G in
theorem hb_isinstance : mg "isinstance" = none := He.free_ok X G (c.d.fact 29 (f := .free "isinstance") rfl)
include c X G in
theorem hb_bool : mg "bool" = none := He.free_ok X G (c.d.fact 30 (f := .free "bool") rfl)
include c X G in
theorem hb_super : mg "super" = none := He.free_ok X G (c.d.fact 31 (f := .free "super") rfl)
include c X G in
theorem hb_enumerate : mg "enumerate" = none := He.free_ok X G (c.d.fact 32 (f := .free "enumerate") rfl)
include c X G in
theorem hb_all : mg "all" = none := He.free_ok X G (c.d.fact 33 (f := .free "all") rfl)
include c X G in
theorem hb_len : mg "len" = none := He.free_ok X G (c.d.fact 34 (f := .free "len") rfl)
include c X G in
theorem hb_str : mg "str" = none := He.free_ok X G (c.d.fact 35 (f := .free "str") rfl)
include c X G in
theorem hb_tuple : mg "tuple" = none := He.free_ok X G (c.d.fact 36 (f := .free "tuple") rfl)
include c X G in
theorem hb_range : mg "range" = none := He.free_ok X G (c.d.fact 37 (f := .free "range") rfl)
include c X G in
theorem hb_repr : mg "repr" = none := He.free_ok X G (c.d.fact 38 (f := .free "repr") rfl)
include c X G in
theorem hb_int : mg "int" = none := He.free_ok X G (c.d.fact 39 (f := .free "int") rfl)
include c X G in
theorem hb_list : mg "list" = none := He.free_ok X G (c.d.fact 40 (f := .free "list") rfl)
include c X G in
theorem hc_LETTERS : ∃ v u, mg "LETTERS" = some u ∧ RelV v u ∧ ∀ F io, R K (tb K) F io c_LETTERS v := con_ok X G (c.xx 0 (f := fun K => conC K "LETTERS" c_LETTERS) rfl)
include c X G in
theorem hc_WORDS : ∃ v u, mg "WORDS" = some u ∧ RelV v u ∧ ∀ F io, R K (tb K) F io c_WORDS v := con_ok X G (c.xx 1 (f := fun K => conC K "WORDS" c_WORDS) rfl)
include c X G in
theorem hc_MOST_LETTERS : ∃ v u, mg "MOST_LETTERS" = some u ∧ RelV v u ∧ ∀ F io, R K (tb K) F io c_MOST_LETTERS v := con_ok X G (c.xx 2 (f := fun K => conC K "MOST_LETTERS" c_MOST_LETTERS) rfl)
include c in
theorem hcl_Callers : Cls K (He.ga K "Callers") := He.cls_ok (c.d.fact 41 (f := .cls "Callers") rfl)
include c in
theorem hmk_Callers : Mk K ((tb K).ca 0) (He.ma K (He.ga K "Callers") "__init__") := He.mkr_ok (c.d.fact 42 (f := .mkr "Callers") rfl)
include c in
theorem hin_Callers : InsOk K ((tb K).ca 0) := insB_ok (hcl_Callers c) (c.xx 3 (f := fun K => insB K (He.ga K "Callers")) rfl)
include c in
theorem hR_BadCallers : RaiseS P w K (tb K) 1 1 := c.raise1 0 (x := XC_BadCallers) rfl (j := 4) rfl rfl (f := "part") rfl rfl ⟨rfl, rfl, by decide, rfl, by decide, rfl, rfl⟩ (by decide) (by decide) rfl rfl rfl (fun _ => rfl) (fun _ _ _ _ _ _ _ _ _ => rfl)
include c in
theorem hcl_x_BadCallers : ∀ q ∈ ([(1, true)] : List (Nat × Bool)), PySem.W.exmOne K (.ref ((tb K).ca q.1)) (.ref (He.ga K "BadCallers")) = some q.2 := exmB_ok (c.xx 5 (f := exmB caN "BadCallers" [(1, true)]) rfl)
include c in
theorem hxf_BadCallers_part : XfC K ((tb K).ca 1) ∧ PySem.W.findIn K (.ref ((tb K).ca 1)) "part" = some none := xfB1_ok (c.xx 6 (f := fun K => xfB1 K "BadCallers" "part") rfl)
include c in
theorem hxi_BadCallers_BadWorld : XisC K ((tb K).ca 1) (.ref (He.ga K "BadWorld")) false := xisB_ok (c.xx 7 (f := xisB "BadCallers" "BadWorld" false) rfl)
include c in
theorem hxi_BadCallers_PartError : XisC K ((tb K).ca 1) (.ref (He.ga K "PartError")) true := xisB_ok (c.xx 8 (f := xisB "BadCallers" "PartError" true) rfl)
include c in
theorem hf_passes_Callers : FldS K (tb K) "passes" 0 2 := ⟨hcl_Callers c, He.noat_ok (c.d.fact 43 (f := .noat "Callers" "passes") rfl), (show (flN.getD 0 [])[2]? = some _ by decide), (show (flN.getD 0 []).Nodup by decide), (show (flN.getD 0 []).length ≤ 40 by decide)⟩
include c in
theorem hf_passes : ∀ q ∈ t_passes, FldS K (tb K) "passes" q.1 q.2 := by
  intro q hq
  simp only [t_passes, List.mem_cons, List.not_mem_nil, or_false] at hq
  rcases hq with rfl
  · exact hf_passes_Callers c
include c in
theorem hf_changes_Callers : FldS K (tb K) "changes" 0 1 := ⟨hcl_Callers c, He.noat_ok (c.d.fact 44 (f := .noat "Callers" "changes") rfl), (show (flN.getD 0 [])[1]? = some _ by decide), (show (flN.getD 0 []).Nodup by decide), (show (flN.getD 0 []).length ≤ 40 by decide)⟩
include c in
theorem hf_changes : ∀ q ∈ t_changes, FldS K (tb K) "changes" q.1 q.2 := by
  intro q hq
  simp only [t_changes, List.mem_cons, List.not_mem_nil, or_false] at hq
  rcases hq with rfl
  · exact hf_changes_Callers c
include c in
theorem hf_methods_Callers : FldS K (tb K) "methods" 0 0 := ⟨hcl_Callers c, He.noat_ok (c.d.fact 45 (f := .noat "Callers" "methods") rfl), (show (flN.getD 0 [])[0]? = some _ by decide), (show (flN.getD 0 []).Nodup by decide), (show (flN.getD 0 []).length ≤ 40 by decide)⟩
include c in
theorem hf_methods : ∀ q ∈ t_methods, FldS K (tb K) "methods" q.1 q.2 := by
  intro q hq
  simp only [t_methods, List.mem_cons, List.not_mem_nil, or_false] at hq
  rcases hq with rfl
  · exact hf_methods_Callers c
include c in
theorem hIns : ∀ n, n < 1 → InsOk K ((tb K).ca n) := by
  intro n hn
  match n, hn with
  | 0, _ => exact hin_Callers c
include c in
theorem hIsi : IsiS K (tb K) isiT := by
  intro e he
  have h1 := List.all_eq_true.mp (c.xx 9 (f := kitB2 caN isiT) rfl) e he
  refine ⟨by rw [tgA_eq, tgA_eq]; exact of_decide_eq_true h1, fun n hn => ?_⟩
  have h2 : isiT.all (fun e => match e.1.1 with
    | .c n => decide (n < 1)
    | _ => true) = true := by decide
  have h3 := List.all_eq_true.mp h2 e he
  rw [hn] at h3
  exact hIns c n (of_decide_eq_true h3)
theorem sc_is_truth : FnScope N_is_truth ["thing"] (defScope s_is_truth) := ⟨rfl, rfl, rfl, by decide +kernel, rfl, by decide +kernel, by decide +kernel⟩
include c X G in
theorem ok_is_truth {fd : FuncData} (F : FunD K D_is_truth.name D_is_truth.qual D_is_truth.params D_is_truth.body D_is_truth.scope (D_is_truth.dvs K) (D_is_truth.kws K) (He.fAd K D_is_truth.at_) fd) : FnOk P w K mg h (L2.CX P w) 1 (He.fAd K D_is_truth.at_) fd ["thing"] (spM K (tb K) 1 (d_is_truth)) :=
  fn_ok F sc_is_truth finV_ok rfl fun cdv A outer s H E hr =>
    (ms_one (ms_ret (me_blt (scr_isi (hIsi c)) rfl (hb_isinstance c X G) rfl (ma_cons (me_var 0 (pv 0)) (ma_cons (me_bty (n := "bool") rfl (hb_bool c X G) rfl) ma_nil)))))
include c X G in
theorem fs_is_truth : FnS P w K mg h (tb K) 1 (He.fAd K D_is_truth.at_) 1 [] (fun vs _ => d_is_truth vs) := by
  obtain ⟨fd, F⟩ := c.d.def_ 0 (d := D_is_truth) rfl
  exact ⟨fd, _, _, _, ok_is_truth c X G F, callS_plain F rfl (fun _ _ _ _ _ _ us hl => match us, hl with | [_], _ => rfl), rfl⟩
theorem sc_is_name : FnScope N_is_name ["thing"] (defScope s_is_name) := ⟨rfl, rfl, rfl, by decide +kernel, rfl, by decide +kernel, by decide +kernel⟩
include c X G in
theorem ok_is_name {fd : FuncData} (F : FunD K D_is_name.name D_is_name.qual D_is_name.params D_is_name.body D_is_name.scope (D_is_name.dvs K) (D_is_name.kws K) (He.fAd K D_is_name.at_) fd) : FnOk P w K mg h (L2.CX P w) 1 (He.fAd K D_is_name.at_) fd ["thing"] (spM K (tb K) 1 (d_is_name)) :=
  fn_ok F sc_is_name finV_ok rfl fun cdv A outer s H E hr =>
    (ms_cons (ms_if (PW.pt (qw_or (qe_not (qe_of (me_blt (scr_isi (hIsi c)) rfl (hb_isinstance c X G) rfl (ma_cons (me_var 0 (pv 0)) (ma_cons (me_bty (n := "str") rfl (hb_str c X G) rfl) ma_nil))))) (qw_or1 (qe_not (qe_chain sop_le sop_le me_int (me_blt scr_len rfl (hb_len c X G) rfl (ma_cons (me_var 0 (pv 0)) ma_nil)) (me_con rfl (hc_MOST_LETTERS c X G))))))) (ms_one (ms_ret me_bl)) ms_nil) (ms_one (ms_ret (me_and (me_cmp (sop_notIn (ru hr)) (me_var 0 (pv 0)) (me_con rfl (hc_WORDS c X G)) (by with_unfolding_all rfl)) (me_and1 (me_blt (scr_all rfl) rfl (hb_all c X G) rfl (ma_cons (me_fresh (mf_comp (own := [("sign", 1)]) rfl sc_is_name.nd (mi_seq (me_var 0 (pv 0))) (show BlkOk N_is_name (defScope s_is_name) _ [("sign", 1)] from ⟨rfl, by decide +kernel, by decide +kernel, by decide +kernel, by decide +kernel⟩) (fun _ _ _ _ _ => pg_name sc_is_name.nd rfl (Or.inl rfl)) (gin_name (by decide)) (fun _ _ _ _ _ => pts0) (fun _ _ _ _ _ => (me_cmp (sop_in (ru hr)) (me_var 1 (pv 1)) (me_con rfl (hc_LETTERS c X G)) (by with_unfolding_all rfl))))) ma_nil)))))))
include c X G in
theorem fs_is_name : FnS P w K mg h (tb K) 1 (He.fAd K D_is_name.at_) 1 [] (fun vs _ => d_is_name vs) := by
  obtain ⟨fd, F⟩ := c.d.def_ 1 (d := D_is_name) rfl
  exact ⟨fd, _, _, _, ok_is_name c X G F, callS_plain F rfl (fun _ _ _ _ _ _ us hl => match us, hl with | [_], _ => rfl), rfl⟩
theorem sc_are_pairs : FnScope N_are_pairs ["thing"] (defScope s_are_pairs) := ⟨rfl, rfl, rfl, by decide +kernel, rfl, by decide +kernel, by decide +kernel⟩
include c X G in
theorem ok_are_pairs {fd : FuncData} (F : FunD K D_are_pairs.name D_are_pairs.qual D_are_pairs.params D_are_pairs.body D_are_pairs.scope (D_are_pairs.dvs K) (D_are_pairs.kws K) (He.fAd K D_are_pairs.at_) fd) : FnOk P w K mg h (L2.CX P w) 2 (He.fAd K D_are_pairs.at_) fd ["thing"] (spM K (tb K) 1 (d_are_pairs)) :=
  fn_ok F sc_are_pairs finV_ok rfl fun cdv A outer s H E hr =>
    (ms_cons (ms_if (qe_not (qe_of (me_blt (scr_isi (hIsi c)) rfl (hb_isinstance c X G) rfl (ma_cons (me_var 0 (pv 0)) (ma_cons (me_bty (n := "tuple") rfl (hb_tuple c X G) rfl) ma_nil))))) (ms_one (ms_ret me_bl)) ms_nil) (ms_cons (ms_for passesB rfl (mi_enum rfl (hb_enumerate c X G) (me_var 0 (pv 0))) (mg_tup rfl (mgs_cons (pg_name sc_are_pairs.nd rfl (by first | exact Or.inl rfl | exact Or.inr rfl)) (mgs_cons (pg_name sc_are_pairs.nd rfl (by first | exact Or.inl rfl | exact Or.inr rfl)) mgs_nil))) (gok_tup [1, 2]) (ms_cons (ms_if (PW.pt (qw_or (qe_not (qe_of (me_blt (scr_isi (hIsi c)) rfl (hb_isinstance c X G) rfl (ma_cons (me_var 2 (pv 2)) (ma_cons (me_bty (n := "tuple") rfl (hb_tuple c X G) rfl) ma_nil))))) (qw_or1 (qe_cmp (sop_ne (ru hr)) (me_blt scr_len rfl (hb_len c X G) rfl (ma_cons (me_var 2 (pv 2)) ma_nil)) me_int (nomark _))))) (ms_one (ms_ret me_bl)) ms_nil) (ms_one (ms_if (PW.pt (qw_or (qe_not (qe_of (me_call (fs_is_name (w := w) (P := P) c X G) (hr.mono (by decide)) takesB rfl (hg_is_name c X G) (hk_is_name c) (ma_cons (me_idx (me_var 2 (pv 2)) me_int (fun _ _ => rfl)) ma_nil) (len_cons len_nil) mk_nil len_nil))) (qw_or (qe_not (qe_of (me_call (fs_is_name (w := w) (P := P) c X G) (hr.mono (by decide)) takesB rfl (hg_is_name c X G) (hk_is_name c) (ma_cons (me_idx (me_var 2 (pv 2)) me_int (fun _ _ => rfl)) ma_nil) (len_cons len_nil) mk_nil len_nil))) (qw_or1 (qe_cmp (sop_in (ru hr)) (me_var 2 (pv 2)) (me_slice (me_var 0 (pv 0)) mo_none (mo_some (me_var 1 (pv 1)))) (by with_unfolding_all rfl)))))) (ms_one (ms_ret me_bl)) ms_nil)))) (ms_one (ms_ret me_bl))))
include c X G in
theorem fs_are_pairs : FnS P w K mg h (tb K) 2 (He.fAd K D_are_pairs.at_) 1 [] (fun vs _ => d_are_pairs vs) := by
  obtain ⟨fd, F⟩ := c.d.def_ 2 (d := D_are_pairs) rfl
  exact ⟨fd, _, _, _, ok_are_pairs c X G F, callS_plain F rfl (fun _ _ _ _ _ _ us hl => match us, hl with | [_], _ => rfl), rfl⟩
theorem sc_Callers_init : FnScope N_Callers_init ["self", "methods", "changes", "passes"] (defScope s_Callers_init) := ⟨rfl, rfl, rfl, by decide +kernel, rfl, by decide +kernel, by decide +kernel⟩
include c X G in
theorem ok_Callers_init {fd : FuncData} (F : FunD K D_Callers_init.name D_Callers_init.qual D_Callers_init.params D_Callers_init.body D_Callers_init.scope (D_Callers_init.dvs K) (D_Callers_init.kws K) (He.fAd K D_Callers_init.at_) fd) : FnOk P w K mg h (L2.CX P w) 3 (He.fAd K D_Callers_init.at_) fd ["self", "methods", "changes", "passes"] (spM K (tb K) 4 (d_Callers_init)) :=
  fn_ok F sc_Callers_init finV_ok rfl fun cdv A outer s H E hr =>
    (ms_cons (ms_if (PW.pt (qw_and (qe_notN (me_var 1 (pv 1))) (qw_and1 (qe_not (qe_of (me_call (fs_are_pairs (w := w) (P := P) c X G) (hr.mono (by decide)) takesB rfl (hg_are_pairs c X G) (hk_are_pairs c) (ma_cons (me_var 1 (pv 1)) ma_nil) (len_cons len_nil) mk_nil len_nil)))))) (ms_one (ms_raise (hR_BadCallers (P := P) (w := w) c) (hb_super c X G) hr rfl takesB rfl (hg_BadCallers c X G) (ma_cons (me_str rfl) ma_nil) (len_cons len_nil))) ms_nil) (ms_cons (ms_if (qe_not (qe_of (me_call (fs_is_truth (w := w) (P := P) c X G) (hr.mono (by decide)) takesB rfl (hg_is_truth c X G) (hk_is_truth c) (ma_cons (me_var 2 (pv 2)) ma_nil) (len_cons len_nil) mk_nil len_nil))) (ms_one (ms_raise (hR_BadCallers (P := P) (w := w) c) (hb_super c X G) hr rfl takesB rfl (hg_BadCallers c X G) (ma_cons (me_str rfl) ma_nil) (len_cons len_nil))) ms_nil) (ms_cons (ms_if (qe_not (qe_of (me_call (fs_is_truth (w := w) (P := P) c X G) (hr.mono (by decide)) takesB rfl (hg_is_truth c X G) (hk_is_truth c) (ma_cons (me_var 3 (pv 3)) ma_nil) (len_cons len_nil) mk_nil len_nil))) (ms_one (ms_raise (hR_BadCallers (P := P) (w := w) c) (hb_super c X G) hr rfl takesB rfl (hg_BadCallers c X G) (ma_cons (me_str rfl) ma_nil) (len_cons len_nil))) ms_nil) (ms_cons (ms_fld (me_var 0 (pv 0)) (me_var 1 (pv 1)) (hf_methods c)) (ms_cons (ms_fld (me_var 0 (pv 0)) (me_var 2 (pv 2)) (hf_changes c)) (ms_one (ms_fld (me_var 0 (pv 0)) (me_var 3 (pv 3)) (hf_passes c))))))))
include c X G in
theorem fs_Callers_init_1_ : FnS P w K mg h (tb K) 3 (He.fAd K D_Callers_init.at_) 1 [] (fun vs zs => d_Callers_init (pickL [0, 1, 2, 3] (vs ++ ([(.non)] : List PV) ++ ([(.bl true), (.bl true)] : List PV) ++ zs))) := by
  obtain ⟨fd, F⟩ := c.d.def_ 3 (d := D_Callers_init) rfl
  exact ⟨fd, _, _, _, ok_Callers_init c X G F, callS_pk (n := 1) (ks := []) (ms := [("changes", .bl true), ("passes", .bl true)]) (pd := [(.non)]) (mp := [(.bl true), (.bl true)]) (sel := [0, 1, 2, 3]) F (List.cons_ne_nil _ _) (List.cons_ne_nil _ _) (List.forall_mem_cons.mpr ⟨(.head _), (List.forall_mem_cons.mpr ⟨(.tail _ (.head _)), (fun _ h => nomatch h)⟩)⟩) (fun _ _ => (.cons .non .nil)) (fun _ _ => (.cons (.bl _) (.cons (.bl _) .nil))) (by decide) (fun _ _ _ _ _ _ _ us its mv ws h1 h2 h3 h4 => match us, its, mv, ws, h1, h2, h3, h4 with | [_], [_], [_, _], [], _, _, _, _ => ⟨_, rfl, ⟨_, _, _, _, _, _, rfl, rfl, ⟨_, _, _, _, _, _, rfl, rfl, rfl⟩⟩⟩), rfl⟩
include c X G in
theorem fs_Callers_init_2_changes_passes : FnS P w K mg h (tb K) 3 (He.fAd K D_Callers_init.at_) 2 ["changes", "passes"] (fun vs zs => d_Callers_init (pickL [0, 1, 3, 4] (vs ++ ([(.non)] : List PV) ++ ([] : List PV) ++ zs))) := by
  obtain ⟨fd, F⟩ := c.d.def_ 3 (d := D_Callers_init) rfl
  exact ⟨fd, _, _, _, ok_Callers_init c X G F, callS_pk (n := 2) (ks := ["changes", "passes"]) (ms := []) (pd := [(.non)]) (mp := []) (sel := [0, 1, 3, 4]) F (List.cons_ne_nil _ _) (List.cons_ne_nil _ _) (fun _ h => nomatch h) (fun _ _ => (.cons .non .nil)) (fun _ _ => .nil) (by decide) (fun _ _ _ _ _ _ _ us its mv ws h1 h2 h3 h4 => match us, its, mv, ws, h1, h2, h3, h4 with | [_, _], [_], [], [_, _], _, _, _, _ => ⟨_, rfl, rfl⟩), rfl⟩
theorem sc_Callers_eq : FnScope N_Callers_eq ["self", "other"] (defScope s_Callers_eq) := ⟨rfl, rfl, rfl, by decide +kernel, rfl, by decide +kernel, by decide +kernel⟩
include c X G in
theorem ok_Callers_eq {fd : FuncData} (F : FunD K D_Callers_eq.name D_Callers_eq.qual D_Callers_eq.params D_Callers_eq.body D_Callers_eq.scope (D_Callers_eq.dvs K) (D_Callers_eq.kws K) (He.fAd K D_Callers_eq.at_) fd) : FnOk P w K mg h (L2.CX P w) 1 (He.fAd K D_Callers_eq.at_) fd ["self", "other"] (spM K (tb K) 2 (d_Callers_eq)) :=
  fn_ok F sc_Callers_eq finV_ok rfl fun cdv A outer s H E hr =>
    (ms_cons (ms_if (qe_not (qe_of (me_blt (scr_isi (hIsi c)) rfl (hb_isinstance c X G) rfl (ma_cons (me_var 1 (pv 1)) (ma_cons (me_gcls (T := tb K) (c := 0) rfl (hg_Callers c X G)) ma_nil))))) (ms_one (ms_ret me_bl)) ms_nil) (ms_one (ms_ret (me_and (me_cmp (sop_eq (ru hr)) (me_fld (me_var 0 (pv 0)) (hf_methods c)) (me_fld (me_var 1 (pv 1)) (hf_methods c)) (nomark _)) (me_and (me_cmp (sop_eq (ru hr)) (me_fld (me_var 0 (pv 0)) (hf_changes c)) (me_fld (me_var 1 (pv 1)) (hf_changes c)) (nomark _)) (me_and1 (me_cmp (sop_eq (ru hr)) (me_fld (me_var 0 (pv 0)) (hf_passes c)) (me_fld (me_var 1 (pv 1)) (hf_passes c)) (nomark _))))))))
include c X G in
theorem fs_Callers_eq : FnS P w K mg h (tb K) 1 (He.fAd K D_Callers_eq.at_) 2 [] (fun vs _ => d_Callers_eq vs) := by
  obtain ⟨fd, F⟩ := c.d.def_ 4 (d := D_Callers_eq) rfl
  exact ⟨fd, _, _, _, ok_Callers_eq c X G F, callS_plain F rfl (fun _ _ _ _ _ _ us hl => match us, hl with | [_, _], _ => rfl), rfl⟩
include c in
theorem hNf_Callers : ∀ g ∈ eqG, PySem.W.notFirst K ((tb K).ca 0) ((tb K).tgv g) = true ∧ ∀ d, g = .c d → InsOk K ((tb K).ca d) := by
  intro g hg
  have h1 := List.all_eq_true.mp (c.xx 10 (f := nfB caN 0 eqG) rfl) g hg
  refine ⟨by rw [tgA_eq]; exact h1, fun n hn => ?_⟩
  have h2 : eqG.all (fun e => match e with
    | .c n => decide (n < 1)
    | _ => true) = true := by decide
  have h3 := List.all_eq_true.mp h2 g hg
  rw [hn] at h3
  exact hIns c n (of_decide_eq_true h3)
include c in
theorem hNe_Callers : PySem.W.findIn K (.ref ((tb K).ca 0)) "__ne__" = some (some (.builtin "object.__ne__")) ∧ PySem.W.mroIn K ((tb K).ca 0) (.type "object") = some true := by
  have h1 := c.xx 11 (f := neB caN 0) rfl
  unfold neB at h1
  rw [Bool.and_eq_true] at h1
  exact ⟨of_decide_eq_true h1.1, of_decide_eq_true h1.2⟩
abbrev KEQ : Nat := 1
include c X G in
theorem hEq : ∀ q ∈ eqT, EqS P w K mg h (tb K) KEQ q.1 q.2.1 q.2.2 := by
  intro q hq
  simp only [eqT, List.mem_cons, List.not_mem_nil, or_false] at hq
  subst hq
  exact ⟨⟨_, (He.meth_ok (c.d.fact 46 (f := .meth "Callers" "__eq__") rfl)).at_, (He.meth_ok (c.d.fact 46 (f := .meth "Callers" "__eq__") rfl)).fn, fs_Callers_eq c X G⟩, hNf_Callers c, hNe_Callers c⟩
theorem sc_law_made : FnScope N_law_made ["_law_parts"] (defScope s_law_made) := ⟨rfl, rfl, rfl, by decide +kernel, rfl, by decide +kernel, by decide +kernel⟩
include c X G in
theorem ok_law_made {fd : FuncData} (F : FunD K D_law_made.name D_law_made.qual D_law_made.params D_law_made.body D_law_made.scope (D_law_made.dvs K) (D_law_made.kws K) (He.fAd K D_law_made.at_) fd) : FnOk P w K mg h (L2.CX P w) 5 (He.fAd K D_law_made.at_) fd ["_law_parts"] (spM K (tb K) 1 (d_law_made)) :=
  fn_ok F sc_law_made finV_ok rfl fun cdv A outer s H E hr =>
    (ms_cons (ms_try rfl rfl (fun W1 pn1 xe1 tkW => (mx_ret (me_new (c := 0) finV_ok (hmk_Callers c) (fs_Callers_init_2_changes_passes (w := w) (P := P) c X G) (hr.mono (by decide)) tkW rfl (hg_Callers c X G) (ma_cons (me_idx (me_var 0 (pv 0)) me_int (fun _ _ => rfl)) ma_nil) (len_cons len_nil) (mk_cons (me_idx (me_var 0 (pv 0)) me_int (fun _ _ => rfl)) (mk_cons (me_idx (me_var 0 (pv 0)) me_int (fun _ _ => rfl)) mk_nil)) (len_cons (len_cons len_nil))))) (cls_as (i := 1) rfl rfl sc_law_made.nd rfl rfl ⟨rfl, by decide, .inl (hg_BadCallers c X G)⟩ (hcl_x_BadCallers c) (fun a oe d pn c1 vs ht hz hf => by
      have ec := tab_one (n := 1) (by decide) ht
      subst ec
      exact (ms_one (ms_if (PW.pt (qw_and (qe_of (me_xis (c := 1) (hxi_BadCallers_PartError c) hz hf (pv 1) rfl (hb_isinstance c X G) rfl rfl (hg_PartError c X G))) (qw_and1 (qe_not (qe_of (me_xis (c := 1) (hxi_BadCallers_BadWorld c) hz hf (pv 1) rfl (hb_isinstance c X G) rfl rfl (hg_BadWorld c X G))))))) (ms_one (ms_ret (me_xf (j := 0) (c := 1) (hxf_BadCallers_part c).1 (hxf_BadCallers_part c).2 rfl (show (flN.getD 1 []).Nodup by decide) hz hf (pv 1)))) ms_nil))) (cls_nil rfl rfl takesB))) (ms_one (ms_ret me_non)))
include c X G in
theorem fs_law_made : FnS P w K mg h (tb K) 5 (He.fAd K D_law_made.at_) 1 [] (fun vs _ => d_law_made vs) := by
  obtain ⟨fd, F⟩ := c.d.def_ 5 (d := D_law_made) rfl
  exact ⟨fd, _, _, _, ok_law_made c X G F, callS_plain F rfl (fun _ _ _ _ _ _ us hl => match us, hl with | [_], _ => rfl), rfl⟩
theorem sc_law_are_pairs : FnScope N_law_are_pairs ["_law_thing", "_law_names_here"] (defScope s_law_are_pairs) := ⟨rfl, rfl, rfl, by decide +kernel, rfl, by decide +kernel, by decide +kernel⟩
include c X G in
theorem ok_law_are_pairs {fd : FuncData} (F : FunD K D_law_are_pairs.name D_law_are_pairs.qual D_law_are_pairs.params D_law_are_pairs.body D_law_are_pairs.scope (D_law_are_pairs.dvs K) (D_law_are_pairs.kws K) (He.fAd K D_law_are_pairs.at_) fd) : FnOk P w K mg h (L2.CX P w) 1 (He.fAd K D_law_are_pairs.at_) fd ["_law_thing", "_law_names_here"] (spM K (tb K) 2 (d_law_are_pairs)) :=
  fn_ok F sc_law_are_pairs finV_ok rfl fun cdv A outer s H E hr =>
    (ms_cons (ms_if (qe_not (qe_of (me_blt (scr_isi (hIsi c)) rfl (hb_isinstance c X G) rfl (ma_cons (me_var 0 (pv 0)) (ma_cons (me_bty (n := "tuple") rfl (hb_tuple c X G) rfl) ma_nil))))) (ms_one (ms_ret me_bl)) ms_nil) (ms_cons (ms_for passesB rfl (mi_range1 rfl (hb_range c X G) (me_blt scr_len rfl (hb_len c X G) rfl (ma_cons (me_var 0 (pv 0)) ma_nil))) (mg_name (pg_name sc_law_are_pairs.nd rfl (by first | exact Or.inl rfl | exact Or.inr rfl))) (gok_name 2) (ms_cons (ms_asg (me_idx (me_var 0 (pv 0)) (me_var 2 (pv 2)) (fun _ _ => rfl)) (mg_name (pg_name sc_law_are_pairs.nd rfl (by first | exact Or.inl rfl | exact Or.inr rfl))) (gok_name 3)) (ms_cons (ms_if (PW.pt (qw_or (qe_not (qe_of (me_blt (scr_isi (hIsi c)) rfl (hb_isinstance c X G) rfl (ma_cons (me_var 3 (pv 3)) (ma_cons (me_bty (n := "tuple") rfl (hb_tuple c X G) rfl) ma_nil))))) (qw_or (qe_cmp (sop_ne (ru hr)) (me_blt scr_len rfl (hb_len c X G) rfl (ma_cons (me_var 3 (pv 3)) ma_nil)) me_int (nomark _)) (qw_or1 (qe_cmp (sop_in (ru hr)) (me_var 3 (pv 3)) (me_slice (me_var 0 (pv 0)) mo_none (mo_some (me_var 2 (pv 2)))) (by with_unfolding_all rfl)))))) (ms_one (ms_ret me_bl)) ms_nil) (ms_one (ms_if (PW.pt (qw_or (qe_cmp (sop_notIn (ru hr)) (me_idx (me_var 3 (pv 3)) me_int (fun _ _ => rfl)) (me_var 1 (pv 1)) (by with_unfolding_all rfl)) (qw_or1 (qe_cmp (sop_notIn (ru hr)) (me_idx (me_var 3 (pv 3)) me_int (fun _ _ => rfl)) (me_var 1 (pv 1)) (by with_unfolding_all rfl))))) (ms_one (ms_ret me_bl)) ms_nil))))) (ms_one (ms_ret me_bl))))
include c X G in
theorem fs_law_are_pairs : FnS P w K mg h (tb K) 1 (He.fAd K D_law_are_pairs.at_) 2 [] (fun vs _ => d_law_are_pairs vs) := by
  obtain ⟨fd, F⟩ := c.d.def_ 6 (d := D_law_are_pairs) rfl
  exact ⟨fd, _, _, _, ok_law_are_pairs c X G F, callS_plain F rfl (fun _ _ _ _ _ _ us hl => match us, hl with | [_, _], _ => rfl), rfl⟩
theorem sc_law_due : FnScope N_law_due ["_law_parts", "_law_names_here"] (defScope s_law_due) := ⟨rfl, rfl, rfl, by decide +kernel, rfl, by decide +kernel, by decide +kernel⟩
include c X G in
theorem ok_law_due {fd : FuncData} (F : FunD K D_law_due.name D_law_due.qual D_law_due.params D_law_due.body D_law_due.scope (D_law_due.dvs K) (D_law_due.kws K) (He.fAd K D_law_due.at_) fd) : FnOk P w K mg h (L2.CX P w) 2 (He.fAd K D_law_due.at_) fd ["_law_parts", "_law_names_here"] (spM K (tb K) 2 (d_law_due)) :=
  fn_ok F sc_law_due finV_ok rfl fun cdv A outer s H E hr =>
    (ms_cons (ms_if (PW.pt (qw_and (qe_notN (me_idx (me_var 0 (pv 0)) me_int (fun _ _ => rfl))) (qw_and1 (qe_not (qe_of (me_call (fs_law_are_pairs (w := w) (P := P) c X G) (hr.mono (by decide)) takesB rfl (hg__law_are_pairs c X G) (hk__law_are_pairs c) (ma_cons (me_idx (me_var 0 (pv 0)) me_int (fun _ _ => rfl)) (ma_cons (me_var 1 (pv 1)) ma_nil)) (len_cons (len_cons len_nil)) mk_nil len_nil)))))) (ms_one (ms_ret (me_str rfl))) ms_nil) (ms_cons (ms_if (qe_not (qe_of (me_blt (scr_isi (hIsi c)) rfl (hb_isinstance c X G) rfl (ma_cons (me_idx (me_var 0 (pv 0)) me_int (fun _ _ => rfl)) (ma_cons (me_bty (n := "bool") rfl (hb_bool c X G) rfl) ma_nil))))) (ms_one (ms_ret (me_str rfl))) ms_nil) (ms_one (ms_ret (me_if (qe_of (me_blt (scr_isi (hIsi c)) rfl (hb_isinstance c X G) rfl (ma_cons (me_idx (me_var 0 (pv 0)) me_int (fun _ _ => rfl)) (ma_cons (me_bty (n := "bool") rfl (hb_bool c X G) rfl) ma_nil)))) me_non (me_str rfl))))))
include c X G in
theorem fs_law_due : FnS P w K mg h (tb K) 2 (He.fAd K D_law_due.at_) 2 [] (fun vs _ => d_law_due vs) := by
  obtain ⟨fd, F⟩ := c.d.def_ 7 (d := D_law_due) rfl
  exact ⟨fd, _, _, _, ok_law_due c X G F, callS_plain F rfl (fun _ _ _ _ _ _ us hl => match us, hl with | [_, _], _ => rfl), rfl⟩
theorem sc_law_draw : FnScope N_law_draw ["_law_bag_here", "_law_many"] (defScope s_law_draw) := ⟨rfl, rfl, rfl, by decide +kernel, rfl, by decide +kernel, by decide +kernel⟩
include c X G in
theorem ok_law_draw {fd : FuncData} (F : FunD K D_law_draw.name D_law_draw.qual D_law_draw.params D_law_draw.body D_law_draw.scope (D_law_draw.dvs K) (D_law_draw.kws K) (He.fAd K D_law_draw.at_) fd) : FnOk P w K mg h (L2.CX P w) 1 (He.fAd K D_law_draw.at_) fd ["_law_bag_here", "_law_many"] (spM K (tb K) 2 (d_law_draw)) :=
  fn_ok F sc_law_draw finV_ok rfl fun cdv A outer s H E hr =>
    (ms_cons (ms_if (PW.pt (qw_and (qe_cmp (sop_eq (ru hr)) (me_idx (me_var 0 (pv 0)) me_int (fun _ _ => rfl)) me_int (nomark _)) (qw_and1 (qe_cmp sop_gt (me_blt scr_len rfl (hb_len c X G) rfl (ma_cons (me_var 0 (pv 0)) ma_nil)) me_int (nomark _))))) (ms_cons (ms_asg (me_mt PySem.F.slot_list_pop PySem.F.type_list_pop mt_popAt smt_pop (me_var 0 (pv 0)) (ma_cons me_int ma_nil)) (mg_name (pg_name sc_law_draw.nd rfl (by first | exact Or.inl rfl | exact Or.inr rfl))) (gok_name 2)) (ms_one (ms_if (qe_cmp sop_ge (me_var 2 (pv 2)) (me_op2 sop_pow me_int me_int) (nomark _)) (ms_one (ms_setI (me_var 2 (pv 2)) (me_var 0 (pv 0)) me_int)) (ms_one (ms_setI (me_op2 sop_mod (me_bltT scr_int rfl (hb_int c X G) rfl (ma_cons (me_op2 sop_add (me_op2 sop_mul (me_idx (me_var 0 (pv 0)) me_int (fun _ _ => rfl)) me_int) (me_var 2 (pv 2))) ma_nil)) me_int) (me_var 0 (pv 0)) me_int))))) ms_nil) (ms_cons (ms_if (qe_cmp sop_gt (me_idx (me_var 0 (pv 0)) me_int (fun _ _ => rfl)) me_int (nomark _)) (ms_cons (ms_asg (me_op2 sop_mod (me_bltT scr_int rfl (hb_int c X G) rfl (ma_cons (me_idx (me_var 0 (pv 0)) me_int (fun _ _ => rfl)) ma_nil)) (me_var 1 (pv 1))) (mg_name (pg_name sc_law_draw.nd rfl (by first | exact Or.inl rfl | exact Or.inr rfl))) (gok_name 3)) (ms_cons (ms_setI (me_op2 sop_fdiv (me_idx (me_var 0 (pv 0)) me_int (fun _ _ => rfl)) (me_var 1 (pv 1))) (me_var 0 (pv 0)) me_int) (ms_one (ms_ret (me_var 3 (pv 3)))))) ms_nil) (ms_cons (ms_augI (me_var 0 (pv 0)) me_int me_int) (ms_cons (ms_setI (me_op2 sop_mod (me_bltT scr_int rfl (hb_int c X G) rfl (ma_cons (me_op2 sop_add (me_op2 sop_mul (me_idx (me_var 0 (pv 0)) me_int (fun _ _ => rfl)) me_int) (me_op2 sop_mul (me_idx (me_var 0 (pv 0)) me_int (fun _ _ => rfl)) me_int)) ma_nil)) me_int) (me_var 0 (pv 0)) me_int) (ms_one (ms_ret (me_op2 sop_mod (me_bltT scr_int rfl (hb_int c X G) rfl (ma_cons (me_op2 sop_fdiv (me_idx (me_var 0 (pv 0)) me_int (fun _ _ => rfl)) me_int) ma_nil)) (me_var 1 (pv 1)))))))))
include c X G in
theorem fs_law_draw : FnS P w K mg h (tb K) 1 (He.fAd K D_law_draw.at_) 2 [] (fun vs _ => d_law_draw vs) := by
  obtain ⟨fd, F⟩ := c.d.def_ 8 (d := D_law_draw) rfl
  exact ⟨fd, _, _, _, ok_law_draw c X G F, callS_plain F rfl (fun _ _ _ _ _ _ us hl => match us, hl with | [_, _], _ => rfl), rfl⟩
theorem sc_law_truth : FnScope N_law_truth ["_law_bag_here"] (defScope s_law_truth) := ⟨rfl, rfl, rfl, by decide +kernel, rfl, by decide +kernel, by decide +kernel⟩
include c X G in
theorem ok_law_truth {fd : FuncData} (F : FunD K D_law_truth.name D_law_truth.qual D_law_truth.params D_law_truth.body D_law_truth.scope (D_law_truth.dvs K) (D_law_truth.kws K) (He.fAd K D_law_truth.at_) fd) : FnOk P w K mg h (L2.CX P w) 2 (He.fAd K D_law_truth.at_) fd ["_law_bag_here"] (spM K (tb K) 1 (d_law_truth)) :=
  fn_ok F sc_law_truth finV_ok rfl fun cdv A outer s H E hr =>
    (ms_one (ms_ret (me_idx (me_fresh (mf_lst (ma_cons me_bl (ma_cons me_bl (ma_cons me_bl (ma_cons me_bl (ma_cons me_bl (ma_cons me_bl (ma_cons me_non (ma_cons me_int (ma_cons me_int (ma_cons (me_str rfl) (ma_cons (me_tup ma_nil len_nil) ma_nil))))))))))) (len_cons (len_cons (len_cons (len_cons (len_cons (len_cons (len_cons (len_cons (len_cons (len_cons (len_cons len_nil))))))))))))) (me_call (fs_law_draw (w := w) (P := P) c X G) (hr.mono (by decide)) takesB rfl (hg__law_draw c X G) (hk__law_draw c) (ma_cons (me_var 0 (pv 0)) (ma_cons me_int ma_nil)) (len_cons (len_cons len_nil)) mk_nil len_nil) (fun _ _ => rfl))))
include c X G in
theorem fs_law_truth : FnS P w K mg h (tb K) 2 (He.fAd K D_law_truth.at_) 1 [] (fun vs _ => d_law_truth vs) := by
  obtain ⟨fd, F⟩ := c.d.def_ 9 (d := D_law_truth) rfl
  exact ⟨fd, _, _, _, ok_law_truth c X G F, callS_plain F rfl (fun _ _ _ _ _ _ us hl => match us, hl with | [_], _ => rfl), rfl⟩
theorem sc_law_pairs_drawn : FnScope N_law_pairs_drawn ["_law_bag_here", "_law_names_here"] (defScope s_law_pairs_drawn) := ⟨rfl, rfl, rfl, by decide +kernel, rfl, by decide +kernel, by decide +kernel⟩
include c X G in
theorem ok_law_pairs_drawn {fd : FuncData} (F : FunD K D_law_pairs_drawn.name D_law_pairs_drawn.qual D_law_pairs_drawn.params D_law_pairs_drawn.body D_law_pairs_drawn.scope (D_law_pairs_drawn.dvs K) (D_law_pairs_drawn.kws K) (He.fAd K D_law_pairs_drawn.at_) fd) : FnOk P w K mg h (L2.CX P w) 2 (He.fAd K D_law_pairs_drawn.at_) fd ["_law_bag_here", "_law_names_here"] (spM K (tb K) 2 (d_law_pairs_drawn)) :=
  fn_ok F sc_law_pairs_drawn finV_ok rfl fun cdv A outer s H E hr =>
    (ms_cons (ms_new (mf_lst ma_nil len_nil) (pg_name sc_law_pairs_drawn.nd rfl (by first | exact Or.inl rfl | exact Or.inr rfl))) (ms_cons (ms_for passesB rfl (mi_range1 rfl (hb_range c X G) (me_call (fs_law_draw (w := w) (P := P) c X G) (hr.mono (by decide)) takesB rfl (hg__law_draw c X G) (hk__law_draw c) (ma_cons (me_var 0 (pv 0)) (ma_cons me_int ma_nil)) (len_cons (len_cons len_nil)) mk_nil len_nil)) (mg_name (pg_name sc_law_pairs_drawn.nd rfl (by first | exact Or.inl rfl | exact Or.inr rfl))) (gok_name 3) (ms_one (ms_expr (me_mt PySem.F.slot_list_append PySem.F.type_list_append mt_append smt_append (me_var 2 (pv 2)) (ma_cons (me_tup (ma_cons (me_idx (me_var 1 (pv 1)) (me_call (fs_law_draw (w := w) (P := P) c X G) (hr.mono (by decide)) takesB rfl (hg__law_draw c X G) (hk__law_draw c) (ma_cons (me_var 0 (pv 0)) (ma_cons (me_blt scr_len rfl (hb_len c X G) rfl (ma_cons (me_var 1 (pv 1)) ma_nil)) ma_nil)) (len_cons (len_cons len_nil)) mk_nil len_nil) (fun _ _ => rfl)) (ma_cons (me_idx (me_var 1 (pv 1)) (me_call (fs_law_draw (w := w) (P := P) c X G) (hr.mono (by decide)) takesB rfl (hg__law_draw c X G) (hk__law_draw c) (ma_cons (me_var 0 (pv 0)) (ma_cons (me_blt scr_len rfl (hb_len c X G) rfl (ma_cons (me_var 1 (pv 1)) ma_nil)) ma_nil)) (len_cons (len_cons len_nil)) mk_nil len_nil) (fun _ _ => rfl)) ma_nil)) (len_cons (len_cons len_nil))) ma_nil))))) (ms_one (ms_ret (me_bltT scr_tuple rfl (hb_tuple c X G) rfl (ma_cons (me_var 2 (pv 2)) ma_nil))))))
include c X G in
theorem fs_law_pairs_drawn : FnS P w K mg h (tb K) 2 (He.fAd K D_law_pairs_drawn.at_) 2 [] (fun vs _ => d_law_pairs_drawn vs) := by
  obtain ⟨fd, F⟩ := c.d.def_ 10 (d := D_law_pairs_drawn) rfl
  exact ⟨fd, _, _, _, ok_law_pairs_drawn c X G F, callS_plain F rfl (fun _ _ _ _ _ _ us hl => match us, hl with | [_, _], _ => rfl), rfl⟩
theorem sc_law_methods : FnScope N_law_methods ["_law_bag_here", "_law_names_here"] (defScope s_law_methods) := ⟨rfl, rfl, rfl, by decide +kernel, rfl, by decide +kernel, by decide +kernel⟩
include c X G in
theorem ok_law_methods {fd : FuncData} (F : FunD K D_law_methods.name D_law_methods.qual D_law_methods.params D_law_methods.body D_law_methods.scope (D_law_methods.dvs K) (D_law_methods.kws K) (He.fAd K D_law_methods.at_) fd) : FnOk P w K mg h (L2.CX P w) 3 (He.fAd K D_law_methods.at_) fd ["_law_bag_here", "_law_names_here"] (spM K (tb K) 2 (d_law_methods)) :=
  fn_ok F sc_law_methods finV_ok rfl fun cdv A outer s H E hr =>
    (ms_cons (ms_asg (me_call (fs_law_pairs_drawn (w := w) (P := P) c X G) (hr.mono (by decide)) takesB rfl (hg__law_pairs_drawn c X G) (hk__law_pairs_drawn c) (ma_cons (me_var 0 (pv 0)) (ma_cons (me_var 1 (pv 1)) ma_nil)) (len_cons (len_cons len_nil)) mk_nil len_nil) (mg_name (pg_name sc_law_methods.nd rfl (by first | exact Or.inl rfl | exact Or.inr rfl))) (gok_name 2)) (ms_cons (ms_asg (me_call (fs_law_draw (w := w) (P := P) c X G) (hr.mono (by decide)) takesB rfl (hg__law_draw c X G) (hk__law_draw c) (ma_cons (me_var 0 (pv 0)) (ma_cons me_int ma_nil)) (len_cons (len_cons len_nil)) mk_nil len_nil) (mg_name (pg_name sc_law_methods.nd rfl (by first | exact Or.inl rfl | exact Or.inr rfl))) (gok_name 3)) (ms_cons (ms_if (qe_cmp sop_lt (me_var 3 (pv 3)) me_int (nomark _)) (ms_one (ms_ret (me_if (qe_cmp (sop_eq (ru hr)) (me_var 3 (pv 3)) me_int (nomark _)) me_non (me_var 2 (pv 2))))) ms_nil) (ms_cons (ms_if (qe_cmp (sop_eq (ru hr)) (me_var 3 (pv 3)) me_int (nomark _)) (ms_one (ms_ret (me_bltT scr_list rfl (hb_list c X G) rfl (ma_cons (me_var 2 (pv 2)) ma_nil)))) ms_nil) (ms_cons (ms_if (qe_cmp (sop_eq (ru hr)) (me_var 3 (pv 3)) me_int (nomark _)) (ms_one (ms_ret (me_op2 sop_add (me_var 2 (pv 2)) (me_tup (ma_cons (me_tup (ma_cons (me_join (me_str rfl) (me_fresh (mf_lst (ma_cons (me_idx (me_var 1 (pv 1)) me_int (fun _ _ => rfl)) (ma_cons (me_idx (me_var 1 (pv 1)) me_int (fun _ _ => rfl)) (ma_cons (me_str rfl) ma_nil))) (len_cons (len_cons (len_cons len_nil)))))) (ma_cons (me_idx (me_var 1 (pv 1)) me_int (fun _ _ => rfl)) ma_nil)) (len_cons (len_cons len_nil))) ma_nil) (len_cons len_nil))))) ms_nil) (ms_cons (ms_if (qe_cmp (sop_eq (ru hr)) (me_var 3 (pv 3)) me_int (nomark _)) (ms_one (ms_ret (me_op2 sop_add (me_var 2 (pv 2)) (me_tup (ma_cons (me_tup (ma_cons (me_idx (me_var 1 (pv 1)) me_int (fun _ _ => rfl)) (ma_cons (me_idx (me_var 1 (pv 1)) me_int (fun _ _ => rfl)) (ma_cons (me_idx (me_var 1 (pv 1)) me_int (fun _ _ => rfl)) ma_nil))) (len_cons (len_cons (len_cons len_nil)))) ma_nil) (len_cons len_nil))))) ms_nil) (ms_cons (ms_if (qe_cmp (sop_eq (ru hr)) (me_var 3 (pv 3)) me_int (nomark _)) (ms_one (ms_ret (me_op2 sop_add (me_var 2 (pv 2)) (me_tup (ma_cons (me_fresh (mf_lst (ma_cons (me_idx (me_var 1 (pv 1)) me_int (fun _ _ => rfl)) (ma_cons (me_idx (me_var 1 (pv 1)) me_int (fun _ _ => rfl)) ma_nil)) (len_cons (len_cons len_nil)))) ma_nil) (len_cons len_nil))))) ms_nil) (ms_cons (ms_asg (me_fresh (mf_lst (ma_cons me_bl (ma_cons me_bl (ma_cons me_int (ma_cons (me_str rfl) (ma_cons (me_str rfl) (ma_cons (me_tup (ma_cons (me_str rfl) (ma_cons (me_idx (me_var 1 (pv 1)) me_int (fun _ _ => rfl)) ma_nil)) (len_cons (len_cons len_nil))) (ma_cons (me_tup (ma_cons (me_tup (ma_cons (me_idx (me_var 1 (pv 1)) me_int (fun _ _ => rfl)) (ma_cons (me_str rfl) ma_nil)) (len_cons (len_cons len_nil))) ma_nil) (len_cons len_nil)) (ma_cons (me_tup (ma_cons (me_tup (ma_cons (me_idx (me_var 1 (pv 1)) me_int (fun _ _ => rfl)) (ma_cons me_non ma_nil)) (len_cons (len_cons len_nil))) ma_nil) (len_cons len_nil)) (ma_cons (me_tup (ma_cons me_int (ma_cons me_int ma_nil)) (len_cons (len_cons len_nil))) ma_nil))))))))) (len_cons (len_cons (len_cons (len_cons (len_cons (len_cons (len_cons (len_cons (len_cons len_nil))))))))))) (mg_name (pg_name sc_law_methods.nd rfl (by first | exact Or.inl rfl | exact Or.inr rfl))) (gok_name 4)) (ms_one (ms_ret (me_idx (me_var 4 (pv 4)) (me_call (fs_law_draw (w := w) (P := P) c X G) (hr.mono (by decide)) takesB rfl (hg__law_draw c X G) (hk__law_draw c) (ma_cons (me_var 0 (pv 0)) (ma_cons (me_blt scr_len rfl (hb_len c X G) rfl (ma_cons (me_var 4 (pv 4)) ma_nil)) ma_nil)) (len_cons (len_cons len_nil)) mk_nil len_nil) (fun _ _ => rfl))))))))))))
include c X G in
theorem fs_law_methods : FnS P w K mg h (tb K) 3 (He.fAd K D_law_methods.at_) 2 [] (fun vs _ => d_law_methods vs) := by
  obtain ⟨fd, F⟩ := c.d.def_ 11 (d := D_law_methods) rfl
  exact ⟨fd, _, _, _, ok_law_methods c X G F, callS_plain F rfl (fun _ _ _ _ _ _ us hl => match us, hl with | [_, _], _ => rfl), rfl⟩
theorem sc_law_names : FnScope N_law_names ["_law_bag_here", "_law_many"] (defScope s_law_names) := ⟨rfl, rfl, rfl, by decide +kernel, rfl, by decide +kernel, by decide +kernel⟩
include c X G in
theorem ok_law_names {fd : FuncData} (F : FunD K D_law_names.name D_law_names.qual D_law_names.params D_law_names.body D_law_names.scope (D_law_names.dvs K) (D_law_names.kws K) (He.fAd K D_law_names.at_) fd) : FnOk P w K mg h (L2.CX P w) 2 (He.fAd K D_law_names.at_) fd ["_law_bag_here", "_law_many"] (spM K (tb K) 2 (d_law_names)) :=
  fn_ok F sc_law_names finV_ok rfl fun cdv A outer s H E hr =>
    (ms_cons (ms_asg (me_str rfl) (mg_name (pg_name sc_law_names.nd rfl (by first | exact Or.inl rfl | exact Or.inr rfl))) (gok_name 2)) (ms_cons (ms_asg (me_str rfl) (mg_name (pg_name sc_law_names.nd rfl (by first | exact Or.inl rfl | exact Or.inr rfl))) (gok_name 3)) (ms_cons (ms_asg (me_call (fs_law_draw (w := w) (P := P) c X G) (hr.mono (by decide)) takesB rfl (hg__law_draw c X G) (hk__law_draw c) (ma_cons (me_var 0 (pv 0)) (ma_cons me_int ma_nil)) (len_cons (len_cons len_nil)) mk_nil len_nil) (mg_name (pg_name sc_law_names.nd rfl (by first | exact Or.inl rfl | exact Or.inr rfl))) (gok_name 4)) (ms_cons (ms_asg (me_idx (me_var 2 (pv 2)) (me_op2 sop_mod (me_bltT scr_int rfl (hb_int c X G) rfl (ma_cons (me_op2 sop_add (me_var 4 (pv 4)) (me_var 1 (pv 1))) ma_nil)) me_int) (fun _ _ => rfl)) (mg_name (pg_name sc_law_names.nd rfl (by first | exact Or.inl rfl | exact Or.inr rfl))) (gok_name 5)) (ms_cons (ms_new (mf_lst ma_nil len_nil) (pg_name sc_law_names.nd rfl (by first | exact Or.inl rfl | exact Or.inr rfl))) (ms_cons (ms_for passesB rfl (mi_range1 rfl (hb_range c X G) (me_var 1 (pv 1))) (mg_name (pg_name sc_law_names.nd rfl (by first | exact Or.inl rfl | exact Or.inr rfl))) (gok_name 7) (ms_cons (ms_asg (me_join (me_str rfl) (me_fresh (mf_comp (own := [("_law_j", 9)]) rfl sc_law_names.nd (mi_range1 rfl (hb_range c X G) (me_call (fs_law_draw (w := w) (P := P) c X G) (hr.mono (by decide)) takesB rfl (hg__law_draw c X G) (hk__law_draw c) (ma_cons (me_var 0 (pv 0)) (ma_cons me_int ma_nil)) (len_cons (len_cons len_nil)) mk_nil len_nil)) (show BlkOk N_law_names (defScope s_law_names) _ [("_law_j", 9)] from ⟨rfl, by decide +kernel, by decide +kernel, by decide +kernel, by decide +kernel⟩) (fun _ _ _ _ _ => pg_name sc_law_names.nd rfl (Or.inl rfl)) (gin_name (by decide)) (fun _ _ _ _ _ => pts0) (fun _ _ _ _ _ => (me_idx (me_var 2 (pv 2)) (me_call (fs_law_draw (w := w) (P := P) c X G) (hr.mono (by decide)) tkz0 rfl (hg__law_draw c X G) (hk__law_draw c) (ma_cons (me_var 0 (pv 0)) (ma_cons me_int ma_nil)) (len_cons (len_cons len_nil)) mk_nil len_nil) (fun _ _ => rfl)))))) (mg_name (pg_name sc_law_names.nd rfl (by first | exact Or.inl rfl | exact Or.inr rfl))) (gok_name 8)) (ms_cons (ms_asg (me_op2 sop_add (me_var 8 (pv 8)) (me_idx (me_var 2 (pv 2)) (me_op2 sop_mod (me_bltT scr_int rfl (hb_int c X G) rfl (ma_cons (me_op2 sop_add (me_var 4 (pv 4)) (me_var 7 (pv 7))) ma_nil)) me_int) (fun _ _ => rfl))) (mg_name (pg_name sc_law_names.nd rfl (by first | exact Or.inl rfl | exact Or.inr rfl))) (gok_name 8)) (ms_one (ms_expr (me_mt PySem.F.slot_list_append PySem.F.type_list_append mt_append smt_append (me_var 6 (pv 6)) (ma_cons (me_if (qe_cmp (sop_in (ru hr)) (me_var 8 (pv 8)) (me_split (me_var 3 (pv 3)) (me_str rfl)) (by with_unfolding_all rfl)) (me_op2 sop_add (me_op2 sop_add (me_var 8 (pv 8)) (me_var 5 (pv 5))) (me_var 5 (pv 5))) (me_var 8 (pv 8))) ma_nil))))))) (ms_one (ms_ret (me_var 6 (pv 6))))))))))
include c X G in
theorem fs_law_names : FnS P w K mg h (tb K) 2 (He.fAd K D_law_names.at_) 2 [] (fun vs _ => d_law_names vs) := by
  obtain ⟨fd, F⟩ := c.d.def_ 12 (d := D_law_names) rfl
  exact ⟨fd, _, _, _, ok_law_names c X G F, callS_plain F rfl (fun _ _ _ _ _ _ us hl => match us, hl with | [_, _], _ => rfl), rfl⟩
theorem sc_law_bag : FnScope N_law_bag ["_law_script"] (defScope s_law_bag) := ⟨rfl, rfl, rfl, by decide +kernel, rfl, by decide +kernel, by decide +kernel⟩
include c X G in
theorem ok_law_bag {fd : FuncData} (F : FunD K D_law_bag.name D_law_bag.qual D_law_bag.params D_law_bag.body D_law_bag.scope (D_law_bag.dvs K) (D_law_bag.kws K) (He.fAd K D_law_bag.at_) fd) : FnOk P w K mg h (L2.CX P w) 1 (He.fAd K D_law_bag.at_) fd ["_law_script"] (spM K (tb K) 1 (d_law_bag)) :=
  fn_ok F sc_law_bag finL_ok rfl fun cdv A outer s H E hr =>
    (ms_one (ms_retL (mf_cat (me_fresh (mf_lst (ma_cons me_int (ma_cons me_int (ma_cons me_int ma_nil))) (len_cons (len_cons (len_cons len_nil))))) (me_bltT scr_list rfl (hb_list c X G) rfl (ma_cons (me_var 0 (pv 0)) ma_nil)))))
include c X G in
theorem fs_law_bag : FnS P w K mg h (tb K) 1 (He.fAd K D_law_bag.at_) 1 [] (fun vs _ => d_law_bag vs) := by
  obtain ⟨fd, F⟩ := c.d.def_ 13 (d := D_law_bag) rfl
  exact ⟨fd, _, _, _, ok_law_bag c X G F, callS_plain F rfl (fun _ _ _ _ _ _ us hl => match us, hl with | [_], _ => rfl), rfl⟩
theorem sc_law : FnScope N_law ["_law_script"] (defScope s_law) := ⟨rfl, rfl, rfl, by decide +kernel, rfl, by decide +kernel, by decide +kernel⟩
include c X G in
theorem ok_law {fd : FuncData} (F : FunD K D_law.name D_law.qual D_law.params D_law.body D_law.scope (D_law.dvs K) (D_law.kws K) (He.fAd K D_law.at_) fd) : FnOk P w K mg h (L2.CX P w) 6 (He.fAd K D_law.at_) fd ["_law_script"] (spM K (tb K) 1 (d_law)) :=
  fn_ok F sc_law finV_ok rfl fun cdv A outer s H E hr =>
    (ms_cons (ms_asg (me_call (fs_law_bag (w := w) (P := P) c X G) (hr.mono (by decide)) takesB rfl (hg__law_bag c X G) (hk__law_bag c) (ma_cons (me_var 0 (pv 0)) ma_nil) (len_cons len_nil) mk_nil len_nil) (mg_name (pg_name sc_law.nd rfl (by first | exact Or.inl rfl | exact Or.inr rfl))) (gok_name 1)) (ms_cons (ms_asg (me_call (fs_law_names (w := w) (P := P) c X G) (hr.mono (by decide)) takesB rfl (hg__law_names c X G) (hk__law_names c) (ma_cons (me_var 1 (pv 1)) (ma_cons me_int ma_nil)) (len_cons (len_cons len_nil)) mk_nil len_nil) (mg_name (pg_name sc_law.nd rfl (by first | exact Or.inl rfl | exact Or.inr rfl))) (gok_name 2)) (ms_cons (ms_new (mf_lst ma_nil len_nil) (pg_name sc_law.nd rfl (by first | exact Or.inl rfl | exact Or.inr rfl))) (ms_cons (ms_for passesB rfl (mi_range1 rfl (hb_range c X G) me_int) (mg_name (pg_name sc_law.nd rfl (by first | exact Or.inl rfl | exact Or.inr rfl))) (gok_name 4) (ms_cons (ms_asg (me_tup (ma_cons (me_call (fs_law_methods (w := w) (P := P) c X G) (hr.mono (by decide)) takesB rfl (hg__law_methods c X G) (hk__law_methods c) (ma_cons (me_var 1 (pv 1)) (ma_cons (me_var 2 (pv 2)) ma_nil)) (len_cons (len_cons len_nil)) mk_nil len_nil) (ma_cons (me_call (fs_law_truth (w := w) (P := P) c X G) (hr.mono (by decide)) takesB rfl (hg__law_truth c X G) (hk__law_truth c) (ma_cons (me_var 1 (pv 1)) ma_nil) (len_cons len_nil) mk_nil len_nil) (ma_cons (me_call (fs_law_truth (w := w) (P := P) c X G) (hr.mono (by decide)) takesB rfl (hg__law_truth c X G) (hk__law_truth c) (ma_cons (me_var 1 (pv 1)) ma_nil) (len_cons len_nil) mk_nil len_nil) ma_nil))) (len_cons (len_cons (len_cons len_nil)))) (mg_name (pg_name sc_law.nd rfl (by first | exact Or.inl rfl | exact Or.inr rfl))) (gok_name 7)) (ms_cons (ms_asg (me_call (fs_law_due (w := w) (P := P) c X G) (hr.mono (by decide)) takesB rfl (hg__law_due c X G) (hk__law_due c) (ma_cons (me_var 7 (pv 7)) (ma_cons (me_var 2 (pv 2)) ma_nil)) (len_cons (len_cons len_nil)) mk_nil len_nil) (mg_name (pg_name sc_law.nd rfl (by first | exact Or.inl rfl | exact Or.inr rfl))) (gok_name 8)) (ms_cons (ms_asg (me_call (fs_law_made (w := w) (P := P) c X G) (hr.mono (by decide)) takesB rfl (hg__law_made c X G) (hk__law_made c) (ma_cons (me_var 7 (pv 7)) ma_nil) (len_cons len_nil) mk_nil len_nil) (mg_name (pg_name sc_law.nd rfl (by first | exact Or.inl rfl | exact Or.inr rfl))) (gok_name 9)) (ms_cons (ms_if (qe_notN (me_var 8 (pv 8))) (ms_cons (ms_if (PW.pt (qw_or (qe_not (qe_of (me_blt (scr_isi (hIsi c)) rfl (hb_isinstance c X G) rfl (ma_cons (me_var 9 (pv 9)) (ma_cons (me_bty (n := "str") rfl (hb_str c X G) rfl) ma_nil))))) (qw_or1 (qe_cmp (sop_ne (ru hr)) (me_var 9 (pv 9)) (me_var 8 (pv 8)) (nomark _))))) (ms_one (ms_ret me_bl)) ms_nil) (ms_one ms_continue)) ms_nil) (ms_cons (ms_if (PW.pt (qw_or (qe_not (qe_of (me_blt (scr_isi (hIsi c)) rfl (hb_isinstance c X G) rfl (ma_cons (me_var 9 (pv 9)) (ma_cons (me_gcls (T := tb K) (c := 0) rfl (hg_Callers c X G)) ma_nil))))) (qw_or1 (qe_cmp (sop_ne (ru hr)) (me_fld (me_var 9 (pv 9)) (hf_methods c)) (me_idx (me_var 7 (pv 7)) me_int (fun _ _ => rfl)) (nomark _))))) (ms_one (ms_ret me_bl)) ms_nil) (ms_cons (ms_if (PW.pt (qw_or (qe_cmp (sop_ne (ru hr)) (me_blt scr_repr rfl (hb_repr c X G) rfl (ma_cons (me_fld (me_var 9 (pv 9)) (hf_changes c)) ma_nil)) (me_blt scr_repr rfl (hb_repr c X G) rfl (ma_cons (me_idx (me_var 7 (pv 7)) me_int (fun _ _ => rfl)) ma_nil)) (nomark _)) (qw_or1 (qe_cmp (sop_ne (ru hr)) (me_blt scr_repr rfl (hb_repr c X G) rfl (ma_cons (me_fld (me_var 9 (pv 9)) (hf_passes c)) ma_nil)) (me_blt scr_repr rfl (hb_repr c X G) rfl (ma_cons (me_idx (me_var 7 (pv 7)) me_int (fun _ _ => rfl)) ma_nil)) (nomark _))))) (ms_one (ms_ret me_bl)) ms_nil) (ms_cons (ms_if (qe_cmp (sop_ne (ru hr)) (me_blt (scr_isi (hIsi c)) rfl (hb_isinstance c X G) rfl (ma_cons (me_idx (me_var 7 (pv 7)) me_int (fun _ _ => rfl)) (ma_cons (me_bty (n := "tuple") rfl (hb_tuple c X G) rfl) ma_nil))) (me_blt (scr_isi (hIsi c)) rfl (hb_isinstance c X G) rfl (ma_cons (me_fld (me_var 9 (pv 9)) (hf_methods c)) (ma_cons (me_bty (n := "tuple") rfl (hb_tuple c X G) rfl) ma_nil))) (nomark _)) (ms_one (ms_ret me_bl)) ms_nil) (ms_one (ms_expr (me_mt PySem.F.slot_list_append PySem.F.type_list_append mt_append smt_append (me_var 3 (pv 3)) (ma_cons (me_tup (ma_cons (me_var 7 (pv 7)) (ma_cons (me_var 9 (pv 9)) ma_nil)) (len_cons (len_cons len_nil))) ma_nil)))))))))))) (ms_cons (ms_for passesB rfl (mi_seq (me_var 3 (pv 3))) (mg_name (pg_name sc_law.nd rfl (by first | exact Or.inl rfl | exact Or.inr rfl))) (gok_name 5) (ms_cons (ms_for passesB rfl (mi_seq (me_var 3 (pv 3))) (mg_name (pg_name sc_law.nd rfl (by first | exact Or.inl rfl | exact Or.inr rfl))) (gok_name 10) (ms_one (ms_if (PW.pt (qw_or (qe_cmp (sop_ne (ru hr)) (me_ownEq (k := KEQ) (hEq c X G) (hr.mono (by decide)) takesB (me_idx (me_var 5 (pv 5)) me_int (fun _ _ => rfl)) (me_idx (me_var 10 (pv 10)) me_int (fun _ _ => rfl)) (nomark _)) (me_cmp (sop_eq (ru hr)) (me_idx (me_var 5 (pv 5)) me_int (fun _ _ => rfl)) (me_idx (me_var 10 (pv 10)) me_int (fun _ _ => rfl)) (nomark _)) (nomark _)) (qw_or1 (qe_cmp (sop_eq (ru hr)) (me_ownNe (k := KEQ) (hEq c X G) (hr.mono (by decide)) takesB (me_idx (me_var 5 (pv 5)) me_int (fun _ _ => rfl)) (me_idx (me_var 10 (pv 10)) me_int (fun _ _ => rfl)) (nomark _)) (me_cmp (sop_eq (ru hr)) (me_idx (me_var 5 (pv 5)) me_int (fun _ _ => rfl)) (me_idx (me_var 10 (pv 10)) me_int (fun _ _ => rfl)) (nomark _)) (nomark _))))) (ms_one (ms_ret me_bl)) ms_nil))) (ms_cons (ms_if (PW.pt (qw_or (qe_ownNe (k := KEQ) (hEq c X G) (hr.mono (by decide)) takesB (me_idx (me_var 5 (pv 5)) me_int (fun _ _ => rfl)) (me_new (c := 0) finV_ok (hmk_Callers c) (fs_Callers_init_2_changes_passes (w := w) (P := P) c X G) (hr.mono (by decide)) takesB rfl (hg_Callers c X G) (ma_cons (me_idx (me_idx (me_var 5 (pv 5)) me_int (fun _ _ => rfl)) me_int (fun _ _ => rfl)) ma_nil) (len_cons len_nil) (mk_cons (me_idx (me_idx (me_var 5 (pv 5)) me_int (fun _ _ => rfl)) me_int (fun _ _ => rfl)) (mk_cons (me_idx (me_idx (me_var 5 (pv 5)) me_int (fun _ _ => rfl)) me_int (fun _ _ => rfl)) mk_nil)) (len_cons (len_cons len_nil))) (nomark _)) (qw_or1 (qe_ownEq (k := KEQ) (hEq c X G) (hr.mono (by decide)) takesB (me_idx (me_var 5 (pv 5)) me_int (fun _ _ => rfl)) (me_idx (me_var 5 (pv 5)) me_int (fun _ _ => rfl)) (nomark _))))) (ms_one (ms_ret me_bl)) ms_nil) (ms_cons (ms_if (qe_ownEq (k := KEQ) (hEq c X G) (hr.mono (by decide)) takesB (me_idx (me_var 5 (pv 5)) me_int (fun _ _ => rfl)) (me_new (c := 0) finV_ok (hmk_Callers c) (fs_Callers_init_2_changes_passes (w := w) (P := P) c X G) (hr.mono (by decide)) takesB rfl (hg_Callers c X G) (ma_cons (me_idx (me_idx (me_var 5 (pv 5)) me_int (fun _ _ => rfl)) me_int (fun _ _ => rfl)) ma_nil) (len_cons len_nil) (mk_cons (me_not (me_idx (me_idx (me_var 5 (pv 5)) me_int (fun _ _ => rfl)) me_int (fun _ _ => rfl))) (mk_cons (me_idx (me_idx (me_var 5 (pv 5)) me_int (fun _ _ => rfl)) me_int (fun _ _ => rfl)) mk_nil)) (len_cons (len_cons len_nil))) (nomark _)) (ms_one (ms_ret me_bl)) ms_nil) (ms_one (ms_if (qe_ownEq (k := KEQ) (hEq c X G) (hr.mono (by decide)) takesB (me_idx (me_var 5 (pv 5)) me_int (fun _ _ => rfl)) (me_new (c := 0) finV_ok (hmk_Callers c) (fs_Callers_init_2_changes_passes (w := w) (P := P) c X G) (hr.mono (by decide)) takesB rfl (hg_Callers c X G) (ma_cons (me_idx (me_idx (me_var 5 (pv 5)) me_int (fun _ _ => rfl)) me_int (fun _ _ => rfl)) ma_nil) (len_cons len_nil) (mk_cons (me_idx (me_idx (me_var 5 (pv 5)) me_int (fun _ _ => rfl)) me_int (fun _ _ => rfl)) (mk_cons (me_not (me_idx (me_idx (me_var 5 (pv 5)) me_int (fun _ _ => rfl)) me_int (fun _ _ => rfl))) mk_nil)) (len_cons (len_cons len_nil))) (nomark _)) (ms_one (ms_ret me_bl)) ms_nil)))))) (ms_cons (ms_asg (me_new0 (c := 0) finV_ok (hmk_Callers c) (fs_Callers_init_1_ (w := w) (P := P) c X G) (hr.mono (by decide)) takesB rfl (hg_Callers c X G) mk_nil len_nil) (mg_name (pg_name sc_law.nd rfl (by first | exact Or.inl rfl | exact Or.inr rfl))) (gok_name 6)) (ms_one (ms_ret (me_and (me_isN (me_fld (me_var 6 (pv 6)) (hf_methods c))) (me_and (me_isB (me_fld (me_var 6 (pv 6)) (hf_changes c))) (me_and1 (me_isB (me_fld (me_var 6 (pv 6)) (hf_passes c))))))))))))))
include c X G in
theorem fs_law : FnS P w K mg h (tb K) 6 (He.fAd K D_law.at_) 1 [] (fun vs _ => d_law vs) := by
  obtain ⟨fd, F⟩ := c.d.def_ 14 (d := D_law) rfl
  exact ⟨fd, _, _, _, ok_law c X G F, callS_plain F rfl (fun _ _ _ _ _ _ us hl => match us, hl with | [_], _ => rfl), rfl⟩
end
end K38
namespace K38
open Mir
open DL (isNm Nm4 isBag)
open PL (G nmP nmB isBl isTup isStr)
theorem tabOk : PL.TabOk isiT := ⟨by decide, by decide, by decide⟩
theorem nameE : d_is_name = PL.d_is_name isiT := rfl
theorem truthE : d_is_truth = PL.d_is_truth isiT := rfl
theorem drawE : d_law_draw = DL.dDraw := rfl
theorem namesE : d_law_names = DL.dNames := rfl
/-- the pairs from here on, behind those -/
def apO (f : PV → Bool) (pre : List PV) : PV → Bool
  | .tup [a, b] => f a && f b && !(pre.any fun z => eqF dp z (.tup [a, b]))
  | _ => false
theorem apO_two (f : PV → Bool) (pre : List PV) (a b : PV) : apO f pre (.tup [a, b]) = (f a && f b && !(pre.any fun z => eqF dp z (.tup [a, b]))) := rfl
theorem apO_len (f : PV → Bool) (pre : List PV) {ys : List PV} (h : (ys.length : Int) ≠ 2) : apO f pre (.tup ys) = false := by
  match ys, h with
  | [], _ => rfl
  | [_], _ => rfl
  | [_, _], h => exact absurd rfl h
  | _ :: _ :: _ :: _, _ => rfl
theorem apO_no (f : PV → Bool) (pre : List PV) {x : PV} (h : isTup x = false) : apO f pre x = false := by
  cases x <;> first | rfl | (simp [isTup] at h)
def apG (f : PV → Bool) : List PV → List PV → Bool
  | _, [] => true
  | pre, x :: r => apO f pre x && apG f (pre ++ [x]) r
def apP (f : PV → Bool) : PV → Bool
  | .tup xs => apG f [] xs
  | _ => false
theorem pairSplit (x : PV) : (∃ a b, x = .tup [a, b]) ∨ (isTup x = true ∧ ∃ xs, x = .tup xs ∧ (xs.length : Int) ≠ 2) ∨ isTup x = false := by
  cases x <;> first | exact .inr (.inr rfl) | skip
  rename_i xs
  match xs with
  | [a, b] => exact .inl ⟨a, b, rfl⟩
  | [] => exact .inr (.inl ⟨rfl, _, rfl, by simp⟩)
  | [_] => exact .inr (.inl ⟨rfl, _, rfl, by simp⟩)
  | _ :: _ :: _ :: r => exact .inr (.inl ⟨rfl, _, rfl, by simp; omega⟩)
theorem in_tup {x : PV} {xs : List PV} (s : Store) (h : isD dp x = true) (h' : xs.all (isD dp) = true) : pyIn x (.tup xs) s = .ok (.bl (xs.any fun z => eqF dp z x)) s := by
  unfold pyIn inP
  split
  · rename_i heq; cases heq
  · simp [h, h']
theorem GD {x : PV} (h : G 4 x = true) : isD dp x = true := PL.G_isD _ _ (PL.G_mono _ _ (PL.G_mono _ _ (PL.G_mono _ _ (PL.G_mono _ _ (PL.G_mono _ _ (PL.G_mono _ _ (PL.G_mono _ _ (PL.G_mono _ _ h))))))))
theorem Gall {n : Nat} {xs : List PV} (h : G (n + 1) (.tup xs) = true) : xs.length ≤ 1000 ∧ ∀ x ∈ xs, G n x = true := by
  simp only [G, Bool.and_eq_true, List.all_eq_true, decide_eq_true_eq] at h
  exact h
theorem pairs_eq {x : PV} (hx : G 5 x = true) (s : Store) : d_are_pairs [x] s = .ok (.bl (apP nmP x)) s := by
  have fin : ∀ b, finV s (.bl b) s = .ok (.bl b) s := fun b => finV_data rfl (kept_refl _ _) (by simp)
  have hi := PL.isi_tup (s := s) tabOk hx
  unfold d_are_pairs
  rw [runDef_ap]
  unfold m_are_pairs
  by_cases ht : isTup x = true
  case neg =>
    have ht' : isTup x = false := by simpa using ht
    have : apP nmP x = false := by cases x <;> first | rfl | (simp [isTup] at ht')
    simp [-bIsi_ty, hi, ht', this, fin]
  case pos =>
    obtain ⟨L, rfl⟩ : ∃ L, x = .tup L := by cases x <;> first | (simp [isTup] at ht; done) | exact ⟨_, rfl⟩
    obtain ⟨hl, hG⟩ := Gall hx
    obtain ⟨σ', f, s', e1, e2⟩ := forGo_ret (g := gTup [1, 2]) (b := b_are_pairs_0) (keep := keepAs [some (.tup L), none, none]) (w := ⟨enumI 0 L, none⟩)
      (fun n xs σ s1 => xs = enumI n (L.drop n) ∧ apG nmP [] L = apG nmP (L.take n) (L.drop n) ∧ (σ = [some (.tup L), none, none] ∧ s1 = s)) (fun v s1 => v = .bl false ∧ apG nmP [] L = false ∧ s1 = s) (enumI 0 L) 0 [some (.tup L), none, none] s ⟨by simp, by simp, rfl, rfl⟩ (fun _ _ _ _ _ => trivial) (by
        rintro n x xs σ s1 ⟨hx, hap, rfl, rfl⟩
        have hn : n < L.length := by
          rcases Nat.lt_or_ge n L.length with q | q
          · exact q
          · rw [List.drop_of_length_le q] at hx; simp [enumI] at hx
        rw [List.drop_eq_getElem_cons hn] at hx hap
        simp only [enumI] at hx
        obtain ⟨rfl, rfl⟩ := List.cons.inj hx
        have hg := hG L[n] (List.getElem_mem hn)
        have cut : cutP L none (some (n : Int)) = L.take n := cut_lo (by omega)
        have hin := in_tup (x := L[n]) (xs := L.take n) s1 (GD hg) (by rw [List.all_eq_true]; exact fun y hy => GD (hG y (List.mem_of_mem_take hy)))
        have hi := PL.isi_tup (s := s1) tabOk hg
        have tk : L.take n ++ [L[n]] = L.take (n + 1) := by rw [List.take_succ_eq_append_getElem hn]
        simp only [apG, tk] at hap
        rcases pairSplit L[n] with ⟨a, b, ex⟩ | ⟨t, ys, ex, hy⟩ | t
        · rw [ex] at hg hin hi hap
          obtain ⟨_, hab⟩ := Gall hg
          have na := PL.isname_eq tabOk (hab a (by simp)) s1
          have nb := PL.isname_eq tabOk (hab b (by simp)) s1
          simp only [isTup] at hi
          rw [apO_two] at hap
          cases ha : nmP a
          · refine ⟨_, _, [some (.tup L), some (.int n), some (.tup [a, b])], .ret (.bl false), s1, rfl, ?_, .inr ⟨_, rfl, rfl, by rw [hap, ha]; rfl, rfl⟩⟩
            rw [ha] at na
            unfold b_are_pairs_0
            simp [-bIsi_ty, ex, hi, nameE, na]
          · cases hb : nmP b
            · refine ⟨_, _, [some (.tup L), some (.int n), some (.tup [a, b])], .ret (.bl false), s1, rfl, ?_, .inr ⟨_, rfl, rfl, by rw [hap, ha, hb]; rfl, rfl⟩⟩
              rw [ha] at na
              rw [hb] at nb
              unfold b_are_pairs_0
              simp [-bIsi_ty, ex, hi, nameE, na, nb]
            · rw [ha] at na
              rw [hb] at nb
              cases hq : (L.take n).any fun z => eqF dp z (.tup [a, b])
              · rw [hq] at hin
                refine ⟨_, _, [some (.tup L), some (.int n), some (.tup [a, b])], .next, s1, rfl, ?_, .inl ⟨.inl rfl, rfl, by rw [hap, ha, hb, hq]; rfl, rfl, rfl⟩⟩
                unfold b_are_pairs_0
                simp [-bIsi_ty, ex, hi, nameE, na, nb, sliceV, cut, hin]
              · rw [hq] at hin
                refine ⟨_, _, [some (.tup L), some (.int n), some (.tup [a, b])], .ret (.bl false), s1, rfl, ?_, .inr ⟨_, rfl, rfl, by rw [hap, ha, hb, hq]; rfl, rfl⟩⟩
                unfold b_are_pairs_0
                simp [-bIsi_ty, ex, hi, nameE, na, nb, sliceV, cut, hin]
        · rw [ex] at hi
          simp only [isTup] at hi
          have z : apO nmP (L.take n) L[n] = false := by rw [ex]; exact apO_len _ _ hy
          refine ⟨_, _, [some (.tup L), some (.int n), some L[n]], .ret (.bl false), s1, rfl, ?_, .inr ⟨_, rfl, rfl, by rw [hap, z]; rfl, rfl⟩⟩
          unfold b_are_pairs_0
          simp [-bIsi_ty, ex, hi, hy]
        · rw [t] at hi
          have z : apO nmP (L.take n) L[n] = false := apO_no _ _ t
          refine ⟨_, _, [some (.tup L), some (.int n), some L[n]], .ret (.bl false), s1, rfl, ?_, .inr ⟨_, rfl, rfl, by rw [hap, z]; rfl, rfl⟩⟩
          unfold b_are_pairs_0
          simp [-bIsi_ty, hi])
    have z : L.length ≤ sz := by simp only [sz]; omega
    simp only [isTup] at hi
    rcases e2 with ⟨rfl, h1, h2, rfl, rfl⟩ | ⟨v, rfl, rfl, h2, rfl⟩
    · have ht : apP nmP (.tup L) = true := by
        show apG nmP [] L = true
        rw [h2]
        have : L.drop (0 + (enumI 0 L).length) = [] := by
          cases hd : L.drop (0 + (enumI 0 L).length) with
          | nil => rfl
          | cons a b => rw [hd] at h1; simp [enumI] at h1
        rw [this]; rfl
      simp [-bIsi_ty, hi, iEnum, z, e1, ht, fin]
    · have ht : apP nmP (.tup L) = false := h2
      simp [-bIsi_ty, hi, iEnum, z, e1, ht, fin]
end K38
namespace K38
open Mir
open DL (isNm Nm4 isBag)
open PL (G nmP nmB isBl isTup isStr)
def memN (l : List (List Nat)) : PV → Bool
  | .str w => decide (w ∈ l)
  | _ => false
theorem any_mem (l : List (List Nat)) (y : PV) : (l.map PV.str).any (fun z => eqF dp z y) = memN l y := by
  induction l with
  | nil => cases y <;> rfl
  | cons a l ih =>
    simp only [List.map_cons, List.any_cons, ih]
    cases y with
    | str w =>
      simp only [memN]
      show ((a == w) || decide (w ∈ l)) = decide (w ∈ a :: l)
      by_cases h : a = w
      · simp [h]
      · have h2 : (a == w) = false := beq_eq_false_iff_ne.mpr h
        rw [h2, Bool.false_or]
        exact decide_eq_decide.mpr ⟨fun q => List.mem_cons_of_mem _ q, fun q => (List.mem_cons.mp q).resolve_left (Ne.symm h)⟩
    | _ => rfl
theorem notin_names (l : List (List Nat)) {y : PV} (s : Store) (h : isD dp y = true) : pyNotIn y (.lst (l.map .str)) s = .ok (.bl (!memN l y)) s := by
  unfold pyNotIn inP
  split
  · rename_i heq; cases heq
  · rename_i x' y' _
    have : (l.map PV.str).all (isD dp) = true := by rw [List.all_eq_true]; intro z hz; obtain ⟨w, _, rfl⟩ := List.mem_map.mp hz; rfl
    simp only [itemsOf_lst, h, this, Bool.and_self, if_true, any_mem]
    rfl
theorem idx_at (L : List PV) (n : Nat) (hn : n < L.length) (s : Store) : pyIdx (.tup L) (.int n) s = .ok L[n] s := by
  rw [pyIdx_tup, atP_of (j := n) (by simp) (by rw [List.getElem?_eq_getElem hn])]
  rfl
theorem lpairs_eq (l : List (List Nat)) {x : PV} (hx : G 5 x = true) (s : Store) : d_law_are_pairs [x, .lst (l.map .str)] s = .ok (.bl (apP (memN l) x)) s := by
  have fin : ∀ b, finV s (.bl b) s = .ok (.bl b) s := fun b => finV_data rfl (kept_refl _ _) (by simp)
  have hi := PL.isi_tup (s := s) tabOk hx
  unfold d_law_are_pairs
  rw [runDef_ap]
  unfold m_law_are_pairs
  by_cases ht : isTup x = true
  case neg =>
    have ht' : isTup x = false := by simpa using ht
    have : apP (memN l) x = false := by cases x <;> first | rfl | (simp [isTup] at ht')
    simp [-bIsi_ty, hi, ht', this, fin]
  case pos =>
    obtain ⟨L, rfl⟩ : ∃ L, x = .tup L := by cases x <;> first | (simp [isTup] at ht; done) | exact ⟨_, rfl⟩
    obtain ⟨hl, hG⟩ := Gall hx
    generalize hE : ([some (.tup L), some (.lst (l.map .str)), none, none] : Env) = E0
    obtain ⟨σ', f, s', e1, e2⟩ := forGo_ret (g := gName 2) (b := b_law_are_pairs_0) (keep := keepAs E0) (w := ⟨(List.range L.length).map fun k => .int (k : Nat), none⟩)
      (fun n xs σ s1 => n ≤ L.length ∧ xs = (((List.range L.length).drop n).map fun k => .int (k : Nat)) ∧ apG (memN l) [] L = apG (memN l) (L.take n) (L.drop n) ∧ (σ = E0 ∧ s1 = s)) (fun v s1 => v = .bl false ∧ apG (memN l) [] L = false ∧ s1 = s) ((List.range L.length).map fun k => .int (k : Nat)) 0 E0 s ⟨by omega, by simp, by simp, rfl, rfl⟩ (fun _ _ _ _ _ => trivial) (by
        rintro n x xs σ s1 ⟨hle, hx, hap, rfl, rfl⟩
        subst hE
        have hn : n < L.length := by
          rcases Nat.lt_or_ge n L.length with q | q
          · exact q
          · rw [List.drop_of_length_le (by simpa using q)] at hx; simp at hx
        have hn2 : n < (List.range L.length).length := by simpa using hn
        rw [List.drop_eq_getElem_cons hn2] at hx
        rw [List.drop_eq_getElem_cons hn] at hap
        simp only [List.map_cons, List.getElem_range] at hx
        obtain ⟨rfl, rfl⟩ := List.cons.inj hx
        have hg := hG L[n] (List.getElem_mem hn)
        have cut : cutP L none (some (n : Int)) = L.take n := cut_lo (by omega)
        have hin := in_tup (x := L[n]) (xs := L.take n) s1 (GD hg) (by rw [List.all_eq_true]; exact fun y hy => GD (hG y (List.mem_of_mem_take hy)))
        have hi := PL.isi_tup (s := s1) tabOk hg
        have ix := idx_at L n hn s1
        have tk : L.take n ++ [L[n]] = L.take (n + 1) := by rw [List.take_succ_eq_append_getElem hn]
        simp only [apG, tk] at hap
        rcases pairSplit L[n] with ⟨a, b, ex⟩ | ⟨t, ys, ex, hy⟩ | t
        · rw [ex] at hg hin hi hap ix
          obtain ⟨_, hab⟩ := Gall hg
          have na := notin_names l s1 (GD (PL.G_mono _ _ (hab a (by simp))))
          have nb := notin_names l s1 (GD (PL.G_mono _ _ (hab b (by simp))))
          simp only [isTup] at hi
          rw [apO_two] at hap
          cases hq : (L.take n).any fun z => eqF dp z (.tup [a, b])
          case true =>
            rw [hq] at hin
            refine ⟨_, _, [some (.tup L), some (.lst (l.map .str)), some (.int n), some (.tup [a, b])], .ret (.bl false), s1, rfl, ?_, .inr ⟨_, rfl, rfl, by rw [hap, hq]; simp, rfl⟩⟩
            unfold b_law_are_pairs_0
            simp [-bIsi_ty, -pyIdx_tup, ix, hi, sliceV, cut, hin]
          case false =>
            rw [hq] at hin
            cases ha : memN l a
            · refine ⟨_, _, [some (.tup L), some (.lst (l.map .str)), some (.int n), some (.tup [a, b])], .ret (.bl false), s1, rfl, ?_, .inr ⟨_, rfl, rfl, by rw [hap, ha]; rfl, rfl⟩⟩
              rw [ha] at na
              unfold b_law_are_pairs_0
              simp only [sSeq_ap, sAsg_ap, eOp2_ap, eVar_ap, List.getElem?_cons_zero, List.getElem?_cons_succ, Res.bind_ok, ix]
              simp [-bIsi_ty, ix, hi, sliceV, cut, hin, na]
            · cases hb : memN l b
              · refine ⟨_, _, [some (.tup L), some (.lst (l.map .str)), some (.int n), some (.tup [a, b])], .ret (.bl false), s1, rfl, ?_, .inr ⟨_, rfl, rfl, by rw [hap, ha, hb]; rfl, rfl⟩⟩
                rw [ha] at na
                rw [hb] at nb
                unfold b_law_are_pairs_0
                simp only [sSeq_ap, sAsg_ap, eOp2_ap, eVar_ap, List.getElem?_cons_zero, List.getElem?_cons_succ, Res.bind_ok, ix]
                simp [-bIsi_ty, ix, hi, sliceV, cut, hin, na, nb]
              · refine ⟨_, _, [some (.tup L), some (.lst (l.map .str)), some (.int n), some (.tup [a, b])], .next, s1, rfl, ?_, .inl ⟨.inl rfl, by omega, rfl, by rw [hap, ha, hb, hq]; rfl, rfl, rfl⟩⟩
                rw [ha] at na
                rw [hb] at nb
                unfold b_law_are_pairs_0
                simp only [sSeq_ap, sAsg_ap, eOp2_ap, eVar_ap, List.getElem?_cons_zero, List.getElem?_cons_succ, Res.bind_ok, ix]
                simp [-bIsi_ty, ix, hi, sliceV, cut, hin, na, nb]
        · rw [ex] at hi ix
          simp only [isTup] at hi
          have z : apO (memN l) (L.take n) L[n] = false := by rw [ex]; exact apO_len _ _ hy
          refine ⟨_, _, [some (.tup L), some (.lst (l.map .str)), some (.int n), some L[n]], .ret (.bl false), s1, rfl, ?_, .inr ⟨_, rfl, rfl, by rw [hap, z]; rfl, rfl⟩⟩
          unfold b_law_are_pairs_0
          simp only [sSeq_ap, sAsg_ap, eOp2_ap, eVar_ap, List.getElem?_cons_zero, List.getElem?_cons_succ, Res.bind_ok, ix]
          simp [-bIsi_ty, ix, ex, hi, hy]
        · rw [t] at hi
          have z : apO (memN l) (L.take n) L[n] = false := apO_no _ _ t
          refine ⟨_, _, [some (.tup L), some (.lst (l.map .str)), some (.int n), some L[n]], .ret (.bl false), s1, rfl, ?_, .inr ⟨_, rfl, rfl, by rw [hap, z]; rfl, rfl⟩⟩
          unfold b_law_are_pairs_0
          simp only [sSeq_ap, sAsg_ap, eOp2_ap, eVar_ap, List.getElem?_cons_zero, List.getElem?_cons_succ, Res.bind_ok, ix]
          simp [-bIsi_ty, ix, hi])
    have z1 : -4611686018427387904 ≤ (L.length : Int) := by omega
    have z2 : (L.length : Int) ≤ 16777216 := by omega
    simp only [isTup] at hi
    subst hE
    rcases e2 with ⟨rfl, h0, h1, h2, rfl, rfl⟩ | ⟨v, rfl, rfl, h2, rfl⟩
    · have ht : apP (memN l) (.tup L) = true := by
        show apG (memN l) [] L = true
        rw [h2]
        have : L.drop (0 + ((List.range L.length).map fun k => PV.int (k : Nat)).length) = [] := by simp
        rw [this]; rfl
      simp [-bIsi_ty, hi, iRange1, z1, z2, e1, ht, fin]
    · have ht : apP (memN l) (.tup L) = false := h2
      simp [-bIsi_ty, hi, iRange1, z1, z2, e1, ht, fin]
end K38
namespace K38
open Mir
open DL (isNm Nm4 isBag)
open PL (G nmP nmB isBl isTup isStr)
abbrev pr (p : List Nat × List Nat) : PV := .tup [.str p.1, .str p.2]
theorem isNm_nm {w : List Nat} (h : isNm w) : nmB w = true := by
  have no : PL.inW w = false := by
    unfold PL.inW
    rw [decide_eq_false_iff_not]
    exact h.no
  have al : w.all PL.isLow = true := by
    rw [List.all_eq_true]
    intro c hc
    have := h.low c hc
    unfold PL.isLow
    exact decide_eq_true (DL.low_mem this)
  unfold nmB
  rw [no, al, decide_eq_true h.ne, decide_eq_true h.le]
  rfl
theorem apO_congr {f g : PV → Bool} {x : PV} (pre : List PV) (h : ∀ a b, x = .tup [a, b] → (f a && f b) = (g a && g b)) : apO f pre x = apO g pre x := by
  rcases pairSplit x with ⟨a, b, rfl⟩ | ⟨_, ys, rfl, hy⟩ | t
  · rw [apO_two, apO_two, h a b rfl]
  · rw [apO_len _ _ hy, apO_len _ _ hy]
  · rw [apO_no _ _ t, apO_no _ _ t]
theorem apG_congr {f g : PV → Bool} : ∀ (L pre : List PV), (∀ x ∈ L, ∀ a b, x = .tup [a, b] → (f a && f b) = (g a && g b)) → apG f pre L = apG g pre L
  | [], _, _ => rfl
  | x :: L, pre, h => by
    simp only [apG]
    rw [apO_congr pre (h x (List.mem_cons_self ..)), apG_congr L _ fun y hy => h y (List.mem_cons_of_mem _ hy)]
/-- both tellings agree -/
structure MsF (l : List (List Nat)) (ms : PV) : Prop where
  g : G 4 ms = true
  ag : ms = .non ∨ apP nmP ms = apP (memN l) ms
theorem msF_tup {l : List (List Nat)} {L : List PV} (g : G 4 (.tup L) = true) (h : ∀ x ∈ L, ∀ a b, x = .tup [a, b] → (nmP a && nmP b) = (memN l a && memN l b)) : MsF l (.tup L) := ⟨g, .inr (apG_congr L [] h)⟩
theorem msF_no {l : List (List Nat)} {x : PV} (g : G 4 x = true) (h : isTup x = false) : MsF l x := ⟨g, .inr (by cases x <;> first | rfl | (simp [isTup] at h))⟩
theorem mem_two {l : List (List Nat)} {w : List Nat} (hw : ∀ x ∈ l, isNm x) (h : w ∈ l) : nmP (.str w) = true ∧ memN l (.str w) = true := ⟨isNm_nm (hw w h), decide_eq_true h⟩
theorem fin_bag {e : Store} {x x' v : PV} (h : isBag x') (hv : G 5 v = true) : finV (x :: e) v (x' :: e) = .ok v (x' :: e) :=
  finV_data (by simp) (kept_mid [] e _ _ (h.lb _)) (PL.G_lb _ hv)
theorem draw1 (e : Store) {x : PV} {m : Int} (hx : isBag x) (h : 0 < m) (h2 : m < 2 ^ 127) :
    ∃ (v : Int) (x' : PV), 0 ≤ v ∧ v < m ∧ isBag x' ∧ DL.dDraw [.loc 0, .int m] (x :: e) = .ok (.int v) (x' :: e) := DL.draw_eq [] e hx h h2
def TR : List PV := [.bl true, .bl false, .bl true, .bl false, .bl true, .bl false, .non, .int 1, .int 0, .str [84, 114, 117, 101], .tup []]
theorem truth_mk (y : PV) {x : PV} (hx : isBag x) : ∃ v x', G 4 v = true ∧ isBag x' ∧ d_law_truth [.loc 0] [x, y] = .ok v [x', y] := by
  obtain ⟨t, x1, t0, t1, hx1, e1⟩ := draw1 [y] (m := 11) hx (by omega) (by omega)
  obtain ⟨z, hy, ey⟩ := atP_lt (xs := TR) t0 (by simpa [TR] using t1)
  have gy : G 4 z = true := by
    simp only [TR, List.mem_cons, List.not_mem_nil, or_false] at hy
    rcases hy with rfl | rfl | rfl | rfl | rfl | rfl | rfl | rfl | rfl | rfl | rfl <;> rfl
  refine ⟨z, x1, gy, hx1, ?_⟩
  unfold d_law_truth
  rw [runDef_ap]
  unfold m_law_truth
  simp only [TR] at ey
  simp [drawE, e1, ey]
  exact fin_bag hx1 (PL.G_mono _ _ gy)
theorem pairs_mk (y : PV) {x : PV} (hx : isBag x) (w0 w1 w2 w3 : List Nat) : ∃ (q : List (List Nat × List Nat)) (x' : PV), q.length ≤ 4 ∧ (∀ p ∈ q, p.1 ∈ [w0, w1, w2, w3] ∧ p.2 ∈ [w0, w1, w2, w3]) ∧ isBag x' ∧
    d_law_pairs_drawn [.loc 0, .lst [.str w0, .str w1, .str w2, .str w3]] [x, y] = .ok (.tup (q.map pr)) [x', y] := by
  obtain ⟨n, x1, n0, n1, hx1, e1⟩ := draw1 [y, .lst []] (m := 5) hx (by omega) (by omega)
  generalize hE : ([some (.loc 0), some (.lst [.str w0, .str w1, .str w2, .str w3]), some (.loc 2), none] : Env) = E0
  obtain ⟨σ', s', f1, q, x2, hk, hq1, hq2, hx2, rfl, rfl⟩ := forGo_inv (g := gName 3) (b := b_law_pairs_drawn_0) (keep := keepAs E0) (w := ⟨(List.range n.toNat).map fun k => .int (k : Nat), none⟩)
    (fun k xs σ s => ∃ (q : List (List Nat × List Nat)) (x' : PV), k + xs.length = n.toNat ∧ q.length ≤ k ∧ (∀ p ∈ q, p.1 ∈ [w0, w1, w2, w3] ∧ p.2 ∈ [w0, w1, w2, w3]) ∧ isBag x' ∧ σ = E0 ∧ s = [x', y, .lst (q.map pr)]) ((List.range n.toNat).map fun k => .int (k : Nat)) 0 E0 [x1, y, .lst []]
    ⟨[], x1, by simp, by simp, by simp, hx1, rfl, rfl⟩ (fun _ _ _ _ _ => trivial) (by
      rintro k z ys σ s ⟨q, x', hk, hq1, hq2, hx', rfl, rfl⟩
      subst hE
      obtain ⟨a, x2, a0, a1, hx2, e2⟩ := draw1 [y, .lst (q.map pr)] (m := 4) hx' (by omega) (by omega)
      obtain ⟨b, x3, b0, b1, hx3, e3⟩ := draw1 [y, .lst (q.map pr)] (m := 4) hx2 (by omega) (by omega)
      obtain ⟨u, hu, eu⟩ := atP_lt (xs := [PV.str w0, .str w1, .str w2, .str w3]) a0 (by simpa using a1)
      obtain ⟨v, hv, ev⟩ := atP_lt (xs := [PV.str w0, .str w1, .str w2, .str w3]) b0 (by simpa using b1)
      have pick : ∀ z ∈ [PV.str w0, .str w1, .str w2, .str w3], ∃ w ∈ [w0, w1, w2, w3], z = .str w := fun z hz => by
        obtain ⟨w, hw, e⟩ := List.mem_map.mp (show z ∈ [w0, w1, w2, w3].map PV.str from hz)
        exact ⟨w, hw, e.symm⟩
      obtain ⟨u', hu', rfl⟩ := pick u hu
      obtain ⟨v', hv', rfl⟩ := pick v hv
      have zz : q.length < sz := by simp only [sz]; simp at hk; omega
      refine ⟨_, _, [some (.loc 0), some (.lst [.str w0, .str w1, .str w2, .str w3]), some (.loc 2), some z], .next, [x3, y, .lst ((q ++ [(u', v')]).map pr)], rfl, ?_, .inl rfl, q ++ [(u', v')], x3, by simp at hk ⊢; omega, by simp; omega, ?_, hx3, by simp [keepAs], rfl⟩
      · unfold b_law_pairs_drawn_0
        simp [drawE, e2, e3, eu, ev, isL, deref, mAppend, zz]
      · intro p hp
        rcases List.mem_append.mp hp with h | h
        · exact hq2 p h
        · simp only [List.mem_singleton] at h; subst h; exact ⟨hu', hv'⟩)
  have hq4 : q.length ≤ 4 := by simp at hq1; omega
  refine ⟨q, x2, hq4, hq2, hx2, ?_⟩
  unfold d_law_pairs_drawn
  rw [runDef_ap]
  unfold m_law_pairs_drawn
  have v1 : -4611686018427387904 ≤ n := by omega
  have v2 : n ≤ 16777216 := by omega
  subst hE
  have hd : isD 3 (.tup (q.map pr)) = true := by simp [isD]
  have fin : finV [x, y] (.tup (q.map pr)) [x2, y, .lst (q.map pr)] = .ok (.tup (q.map pr)) [x2, y] :=
    finV_drop (old := [x, y]) (new := [x2, y]) (e := [.lst (q.map pr)]) (v := .tup (q.map pr)) (by simp) (kept_mid [] [y] _ _ (hx2.lb _)) (isD_lb 3 _ _ hd)
  have bt : bTuple [.loc 2] [x2, y, .lst (q.map pr)] = .ok (.tup (q.map pr)) [x2, y, .lst (q.map pr)] := rfl
  simp [drawE, e1, iRange1, v1, v2, f1, bt, fin]
end K38
namespace K38
open Mir
open DL (isNm Nm4 isBag)
open PL (G nmP nmB isBl isTup isStr)
theorem list_tup (xs : List PV) (s : Store) : bList [.tup xs] s = .ok (.lst xs) s := rfl
theorem add_tup (s : Store) {a b : List PV} (h : a.length + b.length ≤ sz) : pyAdd (.tup a) (.tup b) s = .ok (.tup (a ++ b)) s := by simp [pyAdd, h]
theorem nm_long {w : List Nat} (h : 9 ≤ w.length) : nmB w = false := by
  unfold nmB
  rw [decide_eq_false (by omega : ¬ w.length ≤ 8)]; simp
theorem methods_mk (y : PV) {x : PV} (hx : isBag x) {w0 w1 w2 w3 : List Nat} (hl : Nm4 [w0, w1, w2, w3]) : ∃ (ms x' : PV), MsF [w0, w1, w2, w3] ms ∧ isBag x' ∧
    d_law_methods [.loc 0, .lst [.str w0, .str w1, .str w2, .str w3]] [x, y] = .ok ms [x', y] := by
  obtain ⟨q, x1, hq1, hq2, hx1, e1⟩ := pairs_mk y hx w0 w1 w2 w3
  obtain ⟨v, x2, v0, v1, hx2, e2⟩ := draw1 [y] (m := 9) hx1 (by omega) (by omega)
  have nm := fun w (h : w ∈ [w0, w1, w2, w3]) => mem_two hl.w h
  have W0 := nm w0 (by simp)
  have W1 := nm w1 (by simp)
  have len : ∀ w ∈ [w0, w1, w2, w3], w.length ≤ 8 := fun w h => (hl.w w h).le
  have L0 := len w0 (by simp)
  have L1 := len w1 (by simp)
  have L2 := len w2 (by simp)
  have P0 := (hl.w w0 (by simp)).ne
  have hG : ∀ p ∈ q, G 3 (pr p) = true := fun p hp => by
    have h1 := len _ (hq2 p hp).1
    have h2 := len _ (hq2 p hp).2
    simp [G]; omega
  have hGm : (q.map pr).all (G 3) = true := by
    rw [List.all_eq_true]; intro y hy; obtain ⟨p, hp, rfl⟩ := List.mem_map.mp hy; exact hG p hp
  have ag : ∀ y ∈ q.map pr, ∀ a b, y = .tup [a, b] → (nmP a && nmP b) = (memN [w0, w1, w2, w3] a && memN [w0, w1, w2, w3] b) := by
    intro y hy a b e
    obtain ⟨p, hp, rfl⟩ := List.mem_map.mp hy
    simp only [pr, PV.tup.injEq, List.cons.injEq, and_true] at e
    obtain ⟨rfl, rfl⟩ := e
    obtain ⟨h1, h2⟩ := nm _ (hq2 p hp).1
    obtain ⟨h3, h4⟩ := nm _ (hq2 p hp).2
    rw [h1, h2, h3, h4]
  have qt : MsF [w0, w1, w2, w3] (.tup (q.map pr)) := msF_tup (by simp [G, hGm]; omega) ag
  have one : ∀ z : PV, G 3 z = true → (∀ a b, z = .tup [a, b] → (nmP a && nmP b) = (memN [w0, w1, w2, w3] a && memN [w0, w1, w2, w3] b)) → MsF [w0, w1, w2, w3] (.tup (q.map pr ++ [z])) := fun z hz h => by
    refine msF_tup (by simp only [G, List.all_append, hGm, List.all_cons, List.all_nil, hz, Bool.and_true, List.length_append, List.length_map, List.length_cons, List.length_nil, decide_eq_true_eq]; omega) fun y hy a b e => ?_
    rcases List.mem_append.mp hy with k | k
    · exact ag y k a b e
    · simp only [List.mem_singleton] at k; subst k; exact h a b e
  have fin : ∀ {x' ms : PV}, isBag x' → MsF [w0, w1, w2, w3] ms → finV [x, y] ms [x', y] = .ok ms [x', y] := fun h1 h2 => fin_bag h1 (PL.G_mono _ _ h2.g)
  have add : ∀ (z : PV) s, pyAdd (.tup (q.map pr)) (.tup [z]) s = .ok (.tup (q.map pr ++ [z])) s := fun z s => add_tup s (by simp [sz]; omega)
  unfold d_law_methods
  simp only [runDef_ap]
  unfold m_law_methods
  by_cases c0 : v = 0
  · subst c0
    refine ⟨.non, x2, ⟨rfl, .inl rfl⟩, hx2, ?_⟩
    simp [drawE, e1, e2, fin hx2 (⟨rfl, .inl rfl⟩ : MsF [w0, w1, w2, w3] .non)]
  by_cases c1 : v < 4
  · refine ⟨_, x2, qt, hx2, ?_⟩
    simp [drawE, e1, e2, c0, c1, fin hx2 qt]
  by_cases c4 : v = 4
  · subst c4
    have m : MsF [w0, w1, w2, w3] (.lst (q.map pr)) := msF_no (by simp [G, hGm]; omega) rfl
    refine ⟨_, x2, m, hx2, ?_⟩
    simp [drawE, e1, e2, list_tup, fin hx2 m]
  by_cases c5 : v = 5
  · subst c5
    have long : 9 ≤ (w0 ++ (w1 ++ [97, 97, 97, 97, 97, 97, 97, 97])).length := by simp; omega
    have n1 : nmP (.str (w0 ++ (w1 ++ [97, 97, 97, 97, 97, 97, 97, 97]))) = false := nm_long long
    have n2 : memN [w0, w1, w2, w3] (.str (w0 ++ (w1 ++ [97, 97, 97, 97, 97, 97, 97, 97]))) = false := decide_eq_false fun h => by have := len _ h; omega
    have m := one (.tup [.str (w0 ++ (w1 ++ [97, 97, 97, 97, 97, 97, 97, 97])), .str w1]) (by simp [G]; omega) (fun a b e => by
      simp only [PV.tup.injEq, List.cons.injEq, and_true] at e
      obtain ⟨rfl, rfl⟩ := e
      rw [n1, n2]; rfl)
    refine ⟨_, x2, m, hx2, ?_⟩
    have z : w0.length + (w1.length + 8) ≤ sz := by simp only [sz]; omega
    simp [drawE, e1, e2, strsOf, join_nil, z, add, fin hx2 m]
  by_cases c6 : v = 6
  · subst c6
    have m := one (.tup [.str w0, .str w1, .str w2]) (by simp [G]; omega) (fun a b e => by simp at e)
    refine ⟨_, x2, m, hx2, ?_⟩
    simp [drawE, e1, e2, add, fin hx2 m]
  by_cases c7 : v = 7
  · subst c7
    have m := one (.lst [.str w0, .str w1]) (by simp [G]; omega) (fun a b e => by simp at e)
    refine ⟨_, x2, m, hx2, ?_⟩
    simp [drawE, e1, e2, add, fin hx2 m]
  obtain ⟨t, x3, t0, t1, hx3, e3⟩ := draw1 [y] (m := 9) hx2 (by omega) (by omega)
  let L : List PV := [.bl true, .bl false, .int 0, .str [], .str [99, 108, 115], .tup [.str [98, 111, 120], .str w0], .tup [.tup [.str w0, .str [109, 101, 116, 104, 111, 100]]], .tup [.tup [.str w0, .non]], .tup [.int 1, .int 2]]
  obtain ⟨r, hy, ey⟩ := atP_lt (xs := L) t0 (by simpa [L] using t1)
  have m : MsF [w0, w1, w2, w3] r := by
    have no1 : memN [w0, w1, w2, w3] (.str [109, 101, 116, 104, 111, 100]) = false := decide_eq_false fun h => (hl.w _ h).no (by decide)
    simp only [L, List.mem_cons, List.not_mem_nil, or_false] at hy
    rcases hy with rfl | rfl | rfl | rfl | rfl | rfl | rfl | rfl | rfl
    · exact msF_no rfl rfl
    · exact msF_no rfl rfl
    · exact msF_no rfl rfl
    · exact msF_no rfl rfl
    · exact msF_no rfl rfl
    · exact msF_tup (by simp [G]; omega) (by simp)
    · exact msF_tup (by simp [G]; omega) (by
        intro z hz a b e
        simp only [List.mem_singleton] at hz
        subst hz
        simp only [PV.tup.injEq, List.cons.injEq, and_true] at e
        obtain ⟨rfl, rfl⟩ := e
        rw [no1, show nmP (.str [109, 101, 116, 104, 111, 100]) = false by decide]; simp)
    · exact msF_tup (by simp [G]; omega) (by
        intro z hz a b e
        simp only [List.mem_singleton] at hz
        subst hz
        simp only [PV.tup.injEq, List.cons.injEq, and_true] at e
        obtain ⟨rfl, rfl⟩ := e
        simp [nmP, memN])
    · exact msF_tup (by simp [G]) (by simp)
  refine ⟨r, x3, m, hx3, ?_⟩
  simp only [L] at ey
  simp [drawE, e1, e2, e3, c0, c1, c4, c5, c6, c7, ey, fin hx3 m]
end K38
namespace K38
open Mir
open DL (isNm Nm4 isBag)
open PL (G nmP nmB isBl isTup isStr)
/-- the fault of the parts: 0 methods, 1 changes, 2 passes -/
def msBad : PV → Bool
  | .non => false
  | x => !apP nmP x
theorem msBad_some {x : PV} (h : x ≠ .non) : msBad x = !apP nmP x := by
  cases x <;> first | rfl | exact absurd rfl h
def crFault (ms ch ps : PV) : Option (List Nat) :=
  if msBad ms = true then some [109, 101, 116, 104, 111, 100, 115] else if isBl ch = false then some [99, 104, 97, 110, 103, 101, 115] else if isBl ps = false then some [112, 97, 115, 115, 101, 115] else none
abbrev cr (ms ch ps : PV) : PV := .ins 0 [ms, ch, ps]
theorem G5 {x : PV} (h : G 4 x = true) : G 5 x = true := PL.G_mono _ _ h
theorem isN_some {x : PV} (s : Store) (h : x ≠ .non) : pyIs .non x s = .ok (.bl false) s := by
  cases x <;> first | rfl | exact absurd rfl h
theorem isN_non (s : Store) : pyIs .non .non s = .ok (.bl true) s := rfl
theorem init_eq {ms ch ps : PV} (h1 : G 4 ms = true) (h2 : G 4 ch = true) (h3 : G 4 ps = true) (s : Store) :
    d_Callers_init [.loc s.length, ms, ch, ps] (s ++ [.ins 0 []]) = (match crFault ms ch ps with
      | some w => .exc (.ins 1 [.str w]) (s ++ [.ins 0 []])
      | none => .ok .non (s ++ [cr ms ch ps])) := by
  have l1 := fun b => PL.G_lb b h1
  have l2 := fun b => PL.G_lb b h2
  have l3 := fun b => PL.G_lb b h3
  have t2 := PL.truth_eq tabOk h2 (s ++ [.ins 0 []])
  have t3 := PL.truth_eq tabOk h3 (s ++ [.ins 0 []])
  have ap := pairs_eq (G5 h1) (s ++ [.ins 0 []])
  have xs : ∀ w, finX (s ++ [.ins 0 []]) (.ins 1 [.str w]) (s ++ [.ins 0 []]) = .exc (.ins 1 [.str w]) (s ++ [.ins 0 []]) := fun w => by
    unfold finX
    rw [if_pos ⟨kept_refl _ _, Nat.le_refl _, by simp⟩, List.take_length]
  have fin : finV (s ++ [.ins 0 []]) .non (s ++ [cr ms ch ps]) = .ok .non (s ++ [cr ms ch ps]) := finV_data (by simp) (kept_mid s [] _ _ (by simp [l1, l2, l3])) (by simp)
  have pre : (qAnd (qBl (eNotB (eOp1 (pyIs .non) (eVar 1)))) (qNot (qOf (eCallK (fun vs _ => d_are_pairs vs) (aCons (eVar 1) (aNil)) (aNil))))) [some (.loc s.length), some ms, some ch, some ps] (s ++ [.ins 0 []]) = .ok (msBad ms) (s ++ [.ins 0 []]) := by
    by_cases hm : ms = .non
    · subst hm; simp [isN_non, msBad]
    · cases ha : apP nmP ms <;> rw [ha] at ap <;> simp [isN_some _ hm, ap, msBad_some hm, ha]
  unfold d_Callers_init crFault
  rw [runDef_ap]
  unfold m_Callers_init
  by_cases c1 : msBad ms = true
  · rw [c1] at pre
    rw [if_pos c1]
    simp [-qAnd_ap, pre, xs]
  · rw [Bool.not_eq_true] at c1
    rw [c1] at pre
    rw [if_neg (by rw [c1]; decide)]
    cases c2 : isBl ch
    · rw [c2] at t2
      simp [-qAnd_ap, pre, truthE, t2, xs]
    · rw [c2] at t2
      cases c3 : isBl ps
      · rw [c3] at t3
        simp [-qAnd_ap, pre, truthE, t2, t3, xs]
      · rw [c3] at t3
        simp [-qAnd_ap, pre, truthE, t2, t3, t_methods, t_changes, t_passes, putF]
        exact fin
theorem new_eq {ms ch ps : PV} (h1 : G 4 ms = true) (h2 : G 4 ch = true) (h3 : G 4 ps = true) (s : Store) :
    newOf 0 finV (fun vs zs => d_Callers_init (pickL [0, 1, 3, 4] (vs ++ (.non :: zs)))) [ms] [ch, ps] s = (match crFault ms ch ps with
      | some w => .exc (.ins 1 [.str w]) s
      | none => .ok (cr ms ch ps) s) := by
  have l1 := fun b => PL.G_lb b h1
  have l2 := fun b => PL.G_lb b h2
  have l3 := fun b => PL.G_lb b h3
  have i := init_eq h1 h2 h3 s
  unfold newOf
  simp only [pickL, List.append_nil, List.cons_append, List.nil_append]
  cases hf : crFault ms ch ps with
  | some w =>
    rw [hf] at i
    simp [i]
    exact PL.finX_drop tabOk (by simp)
  | none =>
    rw [hf] at i
    simp [i]
    exact finV_new rfl (kept_refl _ _) (Nat.le_refl _) (by simp) (by simp [l1, l2, l3])
theorem plain_eq (s : Store) : newOf 0 finV (fun vs zs => d_Callers_init (pickL [0, 1, 2, 3] (vs ++ (.non :: .bl true :: .bl true :: zs)))) [] [] s = .ok (cr .non (.bl true) (.bl true)) s := by
  have i := init_eq (ms := .non) (ch := .bl true) (ps := .bl true) rfl rfl rfl s
  unfold newOf
  simp only [pickL, List.append_nil, List.cons_append, List.nil_append]
  have hf : crFault .non (.bl true) (.bl true) = none := rfl
  rw [hf] at i
  simp [i]
  exact finV_new rfl (kept_refl _ _) (Nat.le_refl _) (by simp) (by simp)
def faultV : Option (List Nat) → PV
  | some w => .str w
  | none => .non
theorem made_eq {ms ch ps : PV} (h1 : G 4 ms = true) (h2 : G 4 ch = true) (h3 : G 4 ps = true) (s : Store) :
    d_law_made [.tup [ms, ch, ps]] s = .ok (match crFault ms ch ps with
      | some w => .str w
      | none => cr ms ch ps) s := by
  have l1 := fun b => PL.G_lb b h1
  have l2 := fun b => PL.G_lb b h2
  have l3 := fun b => PL.G_lb b h3
  have nw := new_eq h1 h2 h3 s
  have st : ∀ (b : SM) (hs : List Hd) (σ : Env) (s : Store), sTry b hs σ s = (match b σ s with
    | .ok r s1 => .ok r s1
    | .exc (.ins c vs) s1 => tryHs hs c vs σ s1
    | _ => .stuck) := fun _ _ _ _ => rfl
  unfold d_law_made
  rw [runDef_ap]
  unfold m_law_made
  cases hf : crFault ms ch ps with
  | some w =>
    rw [hf] at nw
    have fin : finV s (.str w) s = .ok (.str w) s := finV_data rfl (kept_refl _ _) (by simp)
    simp [st, nw, tryHs, List.lookup, offSlot, slotIn, fin]
  | none =>
    rw [hf] at nw
    have fin : finV s (cr ms ch ps) s = .ok (cr ms ch ps) s := finV_data rfl (kept_refl _ _) (by simp [l1, l2, l3])
    simp [st, nw, fin]
theorem due_eq {l : List (List Nat)} {ms ch ps : PV} (h1 : MsF l ms) (h2 : G 4 ch = true) (h3 : G 4 ps = true) (s : Store) :
    d_law_due [.tup [ms, ch, ps], .lst (l.map .str)] s = .ok (faultV (crFault ms ch ps)) s := by
  have b2 := PL.isi_bool (s := s) tabOk h2
  have b3 := PL.isi_bool (s := s) tabOk h3
  have ap := lpairs_eq l (G5 h1.g) s
  have fin : ∀ w, finV s (faultV w) s = .ok (faultV w) s := fun w => finV_data rfl (kept_refl _ _) (by cases w <;> simp [faultV])
  have pre : (qAnd (qBl (eNotB (eOp1 (pyIs .non) (eOp2 pyIdx (eVar 0) (eC (.int 0)))))) (qNot (qOf (eCallK (fun vs _ => d_law_are_pairs vs) (aCons (eOp2 pyIdx (eVar 0) (eC (.int 0))) (aCons (eVar 1) (aNil))) (aNil))))) [some (.tup [ms, ch, ps]), some (.lst (l.map .str))] s = .ok (msBad ms) s := by
    by_cases hm : ms = .non
    · subst hm; simp [isN_non, msBad]
    · have ag := h1.ag.resolve_left hm
      rw [← ag] at ap
      cases ha : apP nmP ms <;> rw [ha] at ap <;> simp [isN_some _ hm, ap, msBad_some hm, ha]
  unfold d_law_due crFault
  rw [runDef_ap]
  unfold m_law_due
  by_cases c1 : msBad ms = true
  · rw [c1] at pre
    rw [if_pos c1]
    have f := fin (some [109, 101, 116, 104, 111, 100, 115])
    simp only [faultV] at f
    simp [-qAnd_ap, pre, f, faultV]
  · rw [Bool.not_eq_true] at c1
    rw [c1] at pre
    rw [if_neg (by rw [c1]; decide)]
    cases c2 : isBl ch
    · rw [c2] at b2
      have f := fin (some [99, 104, 97, 110, 103, 101, 115])
      simp only [faultV] at f
      simp [-qAnd_ap, -bIsi_ty, pre, b2, f, faultV]
    · rw [c2] at b2
      cases c3 : isBl ps
      · rw [c3] at b3
        have f := fin (some [112, 97, 115, 115, 101, 115])
        simp only [faultV] at f
        simp [-qAnd_ap, -bIsi_ty, pre, b2, b3, f, faultV]
      · rw [c3] at b3
        have f := fin none
        simp only [faultV] at f
        simp [-qAnd_ap, -bIsi_ty, pre, b2, b3, f, faultV]
end K38
namespace K38
open Mir
open DL (isNm Nm4 isBag)
open PL (G nmP nmB isBl isTup isStr)
theorem eqL_congr {f g : PV → PV → Bool} : ∀ (xs ys : List PV), (∀ x ∈ xs, ∀ y ∈ ys, f x y = g x y) → eqL f xs ys = eqL g xs ys
  | [], [], _ => rfl
  | [], _ :: _, _ => rfl
  | _ :: _, [], _ => rfl
  | x :: xs, y :: ys, h => by
    simp only [eqL]
    rw [h x (List.mem_cons_self ..) y (List.mem_cons_self ..), eqL_congr xs ys fun a ha b hb => h a (List.mem_cons_of_mem _ ha) b (List.mem_cons_of_mem _ hb)]
theorem eqF_succ : ∀ (n : Nat) (x y : PV), G n x = true → G n y = true → eqF (n + 1) x y = eqF n x y
  | 0, x, y, hx, hy => by cases x <;> cases y <;> first | rfl | (simp [G] at hx; done) | (simp [G] at hy; done)
  | n + 1, .tup xs, .tup ys, hx, hy => by
    simp only [G, Bool.and_eq_true, List.all_eq_true] at hx hy
    simp only [eqF]
    exact eqL_congr xs ys fun a ha b hb => eqF_succ n a b (hx.2 a ha) (hy.2 b hb)
  | n + 1, .lst xs, .lst ys, hx, hy => by
    simp only [G, Bool.and_eq_true, List.all_eq_true] at hx hy
    simp only [eqF]
    exact eqL_congr xs ys fun a ha b hb => eqF_succ n a b (hx.2 a ha) (hy.2 b hb)
  | n + 1, x, y, hx, hy => by
    cases x <;> cases y <;> first
      | rfl
      | (simp [G] at hx; done)
      | (simp [G] at hy; done)
      | (simp only [G, Bool.and_eq_true, List.all_eq_true] at hx hy
         simp only [eqF]
         exact eqL_congr _ _ fun a ha b hb => eqF_succ n a b (hx.2 a ha) (hy.2 b hb))
theorem G_le {n m : Nat} {x : PV} (hm : n ≤ m) (h : G n x = true) : G m x = true := by
  induction hm with
  | refl => exact h
  | step _ ih => exact PL.G_mono _ _ ih
theorem eq11 {x y : PV} (hx : G 4 x = true) (hy : G 4 y = true) : eqF 12 x y = eqF 11 x y := eqF_succ 11 x y (G_le (by decide) hx) (G_le (by decide) hy)
def eqE (a : PV) (c p : Bool) (a' : PV) (c' p' : Bool) : Bool := eqF 12 a a' && (c == c' && p == p')
theorem derG {x : PV} (h : G 4 x = true) (s : Store) : deref s x = x := by cases x <;> first | rfl | (simp [G] at h)
theorem eqG4 {x y : PV} (hx : G 4 x = true) (hy : G 4 y = true) (s : Store) : pyEq x y s = .ok (.bl (eqF 12 x y)) s := by
  unfold pyEq
  rw [derG hx, derG hy, GD hx, GD hy]; rfl
theorem neG4 {x y : PV} (hx : G 4 x = true) (hy : G 4 y = true) (s : Store) : pyNe x y s = .ok (.bl (!eqF 12 x y)) s := by
  unfold pyNe
  rw [derG hx, derG hy, GD hx, GD hy]; rfl
theorem refG {x : PV} (hx : G 4 x = true) : eqF 12 x x = true := eqF_refl _ _ (GD hx)
theorem eqBl (a b : Bool) (s : Store) : pyEq (.bl a) (.bl b) s = .ok (.bl (a == b)) s := rfl
theorem neBl (a b : Bool) (s : Store) : pyNe (.bl a) (.bl b) s = .ok (.bl (!(a == b))) s := rfl
section
variable {a a' : PV} {c p c' p' : Bool}
theorem own_eq (h : G 4 a = true) (h' : G 4 a' = true) (s : Store) : d_Callers_eq [cr a (.bl c) (.bl p), cr a' (.bl c') (.bl p')] s = .ok (.bl (eqE a c p a' c' p')) s := by
  have fin : ∀ b, finV s (.bl b) s = .ok (.bl b) s := fun b => finV_data rfl (kept_refl _ _) (by simp)
  have e := eqG4 h h' s
  unfold d_Callers_eq eqE
  rw [runDef_ap]
  unfold m_Callers_eq
  cases q : eqF 12 a a'
  · rw [q] at e
    simp [t_methods, t_changes, t_passes, e, fin]
  · rw [q] at e
    cases q2 : c == c'
    · simp [t_methods, t_changes, t_passes, e, eqBl, q2, fin]
    · simp [t_methods, t_changes, t_passes, e, eqBl, q2, fin]
theorem own_tup (xs : List PV) (s : Store) : d_Callers_eq [cr a (.bl c) (.bl p), .tup xs] s = .ok (.bl false) s := by
  have fin : ∀ b, finV s (.bl b) s = .ok (.bl b) s := fun b => finV_data rfl (kept_refl _ _) (by simp)
  unfold d_Callers_eq
  rw [runDef_ap]
  unfold m_Callers_eq
  simp [fin]
theorem tup_eq (h : G 4 a = true) (h' : G 4 a' = true) (s : Store) : pyEq (.tup [a, .bl c, .bl p]) (.tup [a', .bl c', .bl p']) s = .ok (.bl (eqE a c p a' c' p')) s := by
  have g : ∀ {a : PV} {c p : Bool}, G 4 a = true → isD dp (.tup [a, .bl c, .bl p]) = true := fun h => by
    have := PL.G_isD 11 _ (G_le (by decide : 4 ≤ 11) h)
    simp [isD, dp, this]
  unfold pyEq eqE
  simp only [deref_tup, g h, g h', Bool.and_self, if_true]
  rw [eq11 h h']
  show Res.ok (PV.bl (eqF 11 a a' && (c == c' && (p == p' && true)))) s = _
  rw [Bool.and_true]
theorem eqCC (s : Store) (vs ws : List PV) : eqOf eqT s (.ins 0 vs) (.ins 0 ws) = some fun vs _ => d_Callers_eq vs := by
  unfold eqOf
  simp [eqT, eqG]
theorem eqCT (s : Store) (vs ws : List PV) : eqOf eqT s (.ins 0 vs) (.tup ws) = some fun vs _ => d_Callers_eq vs := by
  unfold eqOf
  simp [eqT, eqG]
end
/-- what is kept of a turn: the parts and the instance -/
def It (v : PV) : Prop := ∃ (ms : PV) (c p : Bool), G 4 ms = true ∧ msBad ms = false ∧ v = .tup [.tup [ms, .bl c, .bl p], cr ms (.bl c) (.bl p)]
theorem fault_none {ms : PV} (h : msBad ms = false) (c p : Bool) : crFault ms (.bl c) (.bl p) = none := by
  unfold crFault
  rw [h]; rfl
theorem fault_inv {ms ch ps : PV} (h : crFault ms ch ps = none) : msBad ms = false ∧ (∃ c, ch = .bl c) ∧ ∃ p, ps = .bl p := by
  unfold crFault at h
  cases h1 : msBad ms
  · rw [h1, if_neg (by decide)] at h
    cases h2 : isBl ch
    · rw [h2] at h; cases h
    · rw [h2, if_neg (by decide)] at h
      cases h3 : isBl ps
      · rw [h3] at h; cases h
      · refine ⟨rfl, ?_, ?_⟩
        · cases ch <;> first | (cases h2; done) | exact ⟨_, rfl⟩
        · cases ps <;> first | (cases h3; done) | exact ⟨_, rfl⟩
  · rw [h1] at h; cases h
end K38
namespace K38
open Mir
open DL (isNm Nm4 isBag)
open PL (G nmP nmB isBl isTup isStr)
section
variable (ns : List Int) (w0 w1 w2 w3 : List Nat)
abbrev En (k one pl pt du ac ot : Option PV) : Env := [some (.ro (ns.map .int)), some (.loc 0), some (.lst [.str w0, .str w1, .str w2, .str w3]), some (.loc 1), k, one, pl, pt, du, ac, ot]
variable {ns w0 w1 w2 w3}
theorem neS {w : List Nat} (s : Store) : pyNe (.str w) (.str w) s = .ok (.bl false) s := by simp
/-- a turn of the first loop -/
theorem turn (hl : Nm4 [w0, w1, w2, w3]) (k : PV) {x : PV} (hx : isBag x) (items : List PV) (hlen : items.length < 100) (hit : ∀ v ∈ items, It v) :
    ∃ (pt du ac : Option PV) (f : Fl) (x' : PV) (items' : List PV), (f = .next ∨ f = .cont) ∧ isBag x' ∧ items'.length ≤ items.length + 1 ∧ (∀ v ∈ items', It v) ∧
      b_law_2 (En ns w0 w1 w2 w3 (some k) none none none none none none) [x, .lst items] = .ok (En ns w0 w1 w2 w3 (some k) none none pt du ac none, f) [x', .lst items'] := by
  obtain ⟨ms, x1, hm, hx1, e1⟩ := methods_mk (.lst items) hx hl
  obtain ⟨ch, x2, hc, hx2, e2⟩ := truth_mk (.lst items) hx1
  obtain ⟨ps, x3, hp, hx3, e3⟩ := truth_mk (.lst items) hx2
  have md := made_eq hm.g hc hp [x3, .lst items]
  have du := due_eq hm hc hp [x3, .lst items]
  simp only [List.map_cons, List.map_nil] at du
  cases hf : crFault ms ch ps with
  | some w =>
    rw [hf] at md du
    simp only [faultV] at du md
    have iss := isN_some (x := .str w) [x3, .lst items] (by simp)
    refine ⟨some (.tup [ms, ch, ps]), some (.str w), some (.str w), .cont, x3, items, .inr rfl, hx3, by omega, hit, ?_⟩
    unfold b_law_2
    have sc : ∀ (σ : Env) (s : Store), sCont σ s = .ok (σ, .cont) s := fun _ _ => rfl
    simp [e1, e2, e3, md, du, iss, sc]
  | none =>
    rw [hf] at md du
    simp only [faultV] at du md
    obtain ⟨hb, ⟨c, rfl⟩, p, rfl⟩ := fault_inv hf
    have it : It (.tup [.tup [ms, .bl c, .bl p], cr ms (.bl c) (.bl p)]) := ⟨ms, c, p, hm.g, hb, rfl⟩
    have nm := neG4 hm.g hm.g [x3, .lst items]
    rw [refG hm.g] at nm
    have tp := PL.isi_tup (s := [x3, .lst items]) tabOk hm.g
    have z : items.length < sz := by simp only [sz]; omega
    refine ⟨some (.tup [ms, .bl c, .bl p]), some .non, some (cr ms (.bl c) (.bl p)), .next, x3, items ++ [.tup [.tup [ms, .bl c, .bl p], cr ms (.bl c) (.bl p)]], .inl rfl, hx3, by simp, ?_, ?_⟩
    · intro v hv
      rcases List.mem_append.mp hv with h | h
      · exact hit v h
      · simp only [List.mem_singleton] at h; subst h; exact it
    · unfold b_law_2
      have ic : bIsi isiT [cr ms (.bl c) (.bl p), .cls 0] [x3, .lst items] = .ok (.bl true) [x3, .lst items] := by simp
      simp only [cr] at ic
      simp [-bIsi_ty, -bIsi_cls, e1, e2, e3, md, du, isN_non, ic, t_methods, t_changes, t_passes, nm, tp, neBl, isL, deref, mAppend, z]
theorem walk_ok {s : Store} {n : Nat} {xs its : List PV} (h : s[n]? = some (.lst xs)) (he : its = xs) : (⟨its, some (n, .lst xs)⟩ : Walk).ok s := by
  subst he; exact h
/-- a turn of the innermost loop -/
theorem inner {one ot : PV} (k : Option PV) (h1 : It one) (h2 : It ot) (s : Store) : b_law_0 (En ns w0 w1 w2 w3 k (some one) none none none none (some ot)) s = .ok (En ns w0 w1 w2 w3 k (some one) none none none none (some ot), .next) s := by
  obtain ⟨a, c, p, ga, _, rfl⟩ := h1
  obtain ⟨a', c', p', ga', _, rfl⟩ := h2
  have o := own_eq (c := c) (p := p) (c' := c') (p' := p') ga ga' s
  have t := tup_eq (c := c) (p := p) (c' := c') (p' := p') ga ga' s
  unfold b_law_0
  cases q : eqE a c p a' c' p' <;> rw [q] at o t <;> simp [eqCC, o, t, neBl, eqBl]
/-- a turn of the second loop -/
theorem second {items : List PV} (hit : ∀ v ∈ items, It v) {one x : PV} (h1 : It one) : ∃ ot, b_law_1 (En ns w0 w1 w2 w3 none (some one) none none none none none) [x, .lst items] = .ok (En ns w0 w1 w2 w3 none (some one) none none none none ot, .next) [x, .lst items] := by
  generalize hE : (En ns w0 w1 w2 w3 none (some one) none none none none none) = E0
  obtain ⟨σ', s', f1, _, rfl, rfl⟩ := forGo_inv (g := gName 10) (b := b_law_0) (keep := keepAs E0) (w := ⟨items, some (1, .lst items)⟩)
    (fun n xs σ s => (∀ y ∈ xs, It y) ∧ (σ = E0 ∧ s = [x, .lst items])) items 0 E0 [x, .lst items] ⟨hit, rfl, rfl⟩ (fun _ _ _ _ h => by obtain ⟨_, rfl, rfl⟩ := h; rfl) (by
      rintro n y ys σ s ⟨hy, rfl, rfl⟩
      subst hE
      exact ⟨_, _, _, .next, _, rfl, inner none h1 (hy y (List.mem_cons_self ..)) _, .inl rfl, fun z hz => hy z (List.mem_cons_of_mem _ hz), by simp [keepAs], rfl⟩)
  obtain ⟨a, c, p, ga, hb, rfl⟩ := h1
  have nw := fun c' p' => new_eq (ms := a) (ch := .bl c') (ps := .bl p') ga rfl rfl [x, .lst items]
  simp only [fault_none hb] at nw
  have oo := fun c' p' => own_eq (c := c) (p := p) (c' := c') (p' := p') ga ga [x, .lst items]
  have e0 : eqE a c p a c p = true := by simp [eqE, refG ga]
  have e1 : eqE a c p a (!c) p = false := by cases c <;> simp [eqE]
  have e2 : eqE a c p a c (!p) = false := by cases p <;> simp [eqE]
  have ot := own_tup (a := a) (c := c) (p := p) [a, .bl c, .bl p] [x, .lst items]
  refine ⟨none, ?_⟩
  rw [← hE]
  subst hE
  unfold b_law_1
  simp [iSeq, f1, nw, eqCC, eqCT, oo, e0, e1, e2, ot]
theorem plain (ns : List Int) (h : ns.length ≤ 63) : ∃ s', d_law [.ro (ns.map PV.int)] [] = .ok (.bl true) s' := by
  obtain ⟨x0, hx0, e0⟩ := DL.bag_eq [] h
  obtain ⟨l, x1, hN, hx1, e1⟩ := DL.names_eq [] hx0
  obtain ⟨w0, w1, w2, w3, rfl⟩ := len4 hN.len
  generalize hE : (En ns w0 w1 w2 w3 none none none none none none none) = E0
  obtain ⟨σ', s', f1, x2, items, hk, hi, hx2, hit, hσ, rfl⟩ := forGo_inv (g := gName 4) (b := b_law_2) (keep := keepAs E0) (w := ⟨(List.range 4).map fun k => .int (k : Nat), none⟩)
    (fun k xs σ s => ∃ (x : PV) (items : List PV), k + xs.length = 4 ∧ items.length ≤ k ∧ isBag x ∧ (∀ v ∈ items, It v) ∧ σ = E0 ∧ s = [x, .lst items]) ((List.range 4).map fun k => .int (k : Nat)) 0 E0 [x1, .lst []]
    ⟨x1, [], rfl, by simp, hx1, by simp, rfl, rfl⟩ (fun _ _ _ _ _ => trivial) (by
      rintro k y ys σ s ⟨x, items, hk, hi, hx, hit, rfl, rfl⟩
      subst hE
      obtain ⟨pt, du, ac, f, x', items', hf, hx', hl', hit', e⟩ := turn (ns := ns) hN y hx items (by simp at hk; omega) hit
      exact ⟨_, _, _, f, _, rfl, e, hf, x', items', by simp at hk ⊢; omega, by omega, hx', hit', by simp [keepAs], rfl⟩)
  rw [hσ] at f1
  obtain ⟨σ', s', f2, _, z8, rfl⟩ := forGo_inv (g := gName 5) (b := b_law_1) (keep := keepAs E0) (w := ⟨items, some (1, .lst items)⟩)
    (fun n xs σ s => (∀ y ∈ xs, It y) ∧ (σ = E0 ∧ s = [x2, .lst items])) items 0 E0 [x2, .lst items] ⟨hit, rfl, rfl⟩ (fun _ _ _ _ h => by obtain ⟨_, rfl, rfl⟩ := h; rfl) (by
      rintro n y ys σ s ⟨hy, rfl, rfl⟩
      subst hE
      obtain ⟨ot, e⟩ := second (ns := ns) (w0 := w0) (w1 := w1) (w2 := w2) (w3 := w3) (x := x2) hit (hy y (List.mem_cons_self ..))
      exact ⟨_, _, _, .next, _, rfl, e, .inl rfl, fun z hz => hy z (List.mem_cons_of_mem _ hz), by simp [keepAs], rfl⟩)
  rw [z8] at f2
  have nw := plain_eq [x2, .lst items]
  have fin : finV [] (.bl true) [x2, .lst items] = .ok (.bl true) [] := finV_drop (old := []) (new := []) (e := [x2, .lst items]) rfl (kept_refl _ _) rfl
  have bagE : d_law_bag = runDef finL 1 DL.bagM := rfl
  have r4 : iRange1 (eC (.int 4)) = fun σ s => .ok ⟨(List.range 4).map fun k => .int (k : Nat), none⟩ s := rfl
  have isT : ∀ s, pyIs (.bl true) (.bl true) s = .ok (.bl true) s := fun _ => rfl
  refine ⟨[], ?_⟩
  unfold d_law
  rw [runDef_ap]
  unfold m_law
  subst hE
  simp only [List.map_cons, List.map_nil] at e1
  simp only [List.nil_append, List.length_nil] at e0 e1
  simp [bagE, namesE, e0, e1, r4, f1, iSeq, f2, nw, t_methods, t_changes, t_passes, isN_non, isT, fin]
end
end K38
set_option maxHeartbeats 0
namespace K38
open PySem PySem.Spec PyProof.Rows L2 Mir
abbrev R0 : PySem.W.OpenRow := PySem.W.OpenLaw.row PySem.Challenge.rw_oncedefaults_k38_callers_made
abbrev hk : PySem.W.Hook := hookN 4 fa fn xs ex
def ob (s : PySem.W.SharedT) : AlN := obsNG 4 fa fn xs ex (HandSHeadRun.getT s)
theorem ob_eq (s : PySem.W.SharedT) : ob s = hk.obs s.abs := obsNG_eq (HandSHeadRun.getT_eq s)
def names : List Str := ["_wall", "_wall", "PartError", "BadCallers", "BadWorld", "LETTERS", "MOST_LETTERS", "WORDS", "is_name", "is_truth", "are_pairs", "Callers", "_law_bag", "_law_draw", "_law_names", "_law_pairs_drawn", "_law_are_pairs", "_law_methods", "_law_truth", "_law_made", "_law_due"]
theorem run (w : World) : HandSHeadRun.RunEq R0 (PySem.W.view R0.prog [24]) hk ob 40000 names w := by
  intro os
  kernel_rfl
end K38
set_option maxHeartbeats 0
namespace K38
open PySem PySem.Spec PyProof.Rows L2 Mir
theorem facts {P : Program} {w : World} {K : PySem.W.Frag} {h : Heap} {mg : Str → Option Value} {f : Addr} (X : K.In h) (G : h.Ns mainGlobals mg) (hfa : mg ("law" : Str) = some (.ref f)) (c : SaysN P file0 fa fn xs ex K) :
    ∃ fd : FuncData, (∀ (s : Shared) (v : Value), BindsTo s fd ⟨[v], []⟩ [("_law_script", v)]) ∧ ∀ base : Heap, K.In base → base.Ns mainGlobals mg → FnOk P w K mg base (L2.CX P w) 6 f fd ["_law_script"] (spM K (tb K) 1 d_law) := by
  obtain ⟨fd, F⟩ := c.d.def_ (fn.length - 1) (d := D_law) rfl
  have e := hfa.symm.trans (hg_law c X G)
  cases e
  have b := FunD.bindsA (ps := ["_law_script"]) F fun _ _ _ _ _ _ us hl => match us, hl with | [_], _ => rfl
  exact ⟨fd, fun s v => b s [v] rfl, fun base X2 G2 => ok_law c X2 G2 F⟩
end K38
open PySem PySem.W PySem.Calls PyProof.Rows
theorem PySem.Challenge.cw_oncedefaults_k38_callers_made_holds : PySem.Challenge.rw_oncedefaults_k38_callers_made.Holds := by
  w_on; o_law
  refine HandSHeadRun.head_any (r := K38.R0) (q := view K38.R0.prog [24]) (H := K38.hk) (ob := K38.ob) (M := 40000) (loose := K38.names) (d := HandSHeadRun.topDef K38.R0.prog 24) (kwd := []) K38.ob_eq
    (by kernel_rfl) (fun s => by kernel_rfl) K38.run (by kernel_rfl) (by kernel_rfl) (by kernel_rfl) (by rfl) (by first | assumption | decide +kernel) (by decide +kernel) ⟨rfl, rfl, rfl, rfl, rfl, by decide +kernel⟩ ?hw ?hc
  case hw => w_witness2
  case hc =>
    refine Mir.walk_ofM (l := PySem.Challenge.rw_oncedefaults_k38_callers_made) (n := 63) (k := 6) (x := "_law_script") (CX := fun w => L2.CX (PySem.Challenge.rw_oncedefaults_k38_callers_made).prog w) rfl (by decide) (by kernel_rfl) ⟨rfl, by decide, by decide⟩ ?F (fun _ _ _ _ _ z => Mir.cx_none z)
    intro w mg fa h Y G hmg0
    obtain ⟨K, KX, c⟩ := Y
    have hmg : mg ("law" : PySem.Str) = some (.ref fa) := by
      have e : (HandSHeadRun.topDef K38.R0.prog 24).name = ("law" : PySem.Str) := by kernel_rfl
      rw [← e]
      exact hmg0
    obtain ⟨fd, hb, hF⟩ := K38.facts (P := (PySem.Challenge.rw_oncedefaults_k38_callers_made).prog) (w := w) KX G hmg ⟨c, rfl, by kernel_rfl⟩
    exact ⟨K, fd, Mir.spM K (K38.tb K) 1 K38.d_law, KX, hb, fun H a ns hl _ hS => Mir.law_sp hS (K38.plain ns hl), hF⟩
