import PyProof.Rows.All
import Wide.All
import OpenK.AllK
import Wide.FinOn
import HandS.ForMost
import HandS.ForExc
import HandS.Wide
import HandS.SortRule
import HandS.TupAny
import HandS.Deep
import HandS.IsInst
import HandS.Slots
import HandS.SlotsOwn
import HandS.Defaults
import HandS.Codes
import HandS.OwnEq
import HandS.ExcInit
import HandS.ExcField
import HandS.ExcIs
import HandS.TryMany
import HandS.MakeKwOnly
import KE.KExcSuper
import HandS.Head0
import HandS.Head1
import HandS.Head2
import HandS.HeadEnd
import HandS.HeadHook1
import HandS.HeadHook2
import HandS.ExcValue
import PySem.Challenge.RW_stretchesread_k03_refused_stretches
set_option Elab.async false
set_option linter.all false
set_option maxRecDepth 100000
set_option maxHeartbeats 0
namespace Sr
open PySem PySem.Spec PyProof.Rows L2

/-! ### heaps -/
/-- tuples stay -/
def TupLe (H H' : Hp) : Prop := ∀ a xs, H a = some (.tup xs) → H' a = some (.tup xs)
theorem TupLe.refl (H : Hp) : TupLe H H := fun _ _ h => h
theorem TupLe.trans {H H1 H2 : Hp} (a : TupLe H H1) (b : TupLe H1 H2) : TupLe H H2 := fun x xs h => b x xs (a x xs h)
theorem TupLe.of {H H' : Hp} (s : Same H H') : TupLe H H' := fun a xs h => s a _ h
/-- a new object -/
theorem TupLe.new {H : Hp} {p : Addr} {o : HO} (h : H p = none) : TupLe H (upd H p o) := fun a xs e => by rw [upd_ne (ne_of_none e h)]; exact e
/-- a list is changed -/
theorem TupLe.lst {H : Hp} {p : Addr} {xs : List V} {o : HO} (h : H p = some (.lst xs)) : TupLe H (upd H p o) := fun a ys e => by
  rw [upd_ne (ne_of e h (by intro z; cases z))]; exact e
theorem sNew {H : Hp} {p : Addr} {o : HO} (h : H p = none) : Same H (upd H p o) := fun a u e => by rw [upd_ne (ne_of_none e h)]; exact e
theorem layS {H : Hp} {p : Addr} {o : HO} (h : H p = none) : Same H (upd H p o) ∧ upd H p o p = some o := ⟨sNew h, upd_same⟩
theorem sOwn {H0 H : Hp} {p : Addr} {o : HO} (s : Same H0 H) (h : H0 p = none) : Same H0 (upd H p o) := fun a u e => by rw [upd_ne (ne_of_none e h)]; exact s a u e

/-! ### pairs of ints -/
def Pr (H : Hp) (x : V) (p : Int × Int) : Prop := ∃ t, x = .ref t ∧ H t = some (.tup [.int p.1, .int p.2])
theorem Pr.mono {H H' : Hp} {x : V} {p : Int × Int} (s : TupLe H H') (h : Pr H x p) : Pr H' x p := let ⟨t, e, q⟩ := h; ⟨t, e, s _ _ q⟩
abbrev Prs (H : Hp) : List V → List (Int × Int) → Prop := Paired (Pr H)
theorem Prs.mono {H H' : Hp} (s : TupLe H H') : ∀ {xs : List V} {ps : List (Int × Int)}, Prs H xs ps → Prs H' xs ps
  | _, _, .nil => .nil
  | _, _, .cons a b => .cons (a.mono s) (Prs.mono s b)
theorem Prs.len {H : Hp} {xs : List V} {ps : List (Int × Int)} (h : Prs H xs ps) : xs.length = ps.length := Paired.length h
theorem Prs.get {H : Hp} : ∀ {xs : List V} {ps : List (Int × Int)} {i : Nat} {x : V}, Prs H xs ps → xs[i]? = some x → ∃ p, ps[i]? = some p ∧ Pr H x p
  | _, _, _, _, .nil, e => by simp at e
  | _, _, 0, _, .cons r _, e => by simp at e; subst e; exact ⟨_, rfl, r⟩
  | _, _, i + 1, x, .cons _ t, e => by
    obtain ⟨u, h1, h2⟩ := Prs.get (i := i) (x := x) t (by simpa using e)
    exact ⟨u, by simpa using h1, h2⟩
theorem Prs.app {H : Hp} : ∀ {xs ys : List V} {ps qs : List (Int × Int)}, Prs H xs ps → Prs H ys qs → Prs H (xs ++ ys) (ps ++ qs)
  | _, _, _, _, .nil, s => s
  | _, _, _, _, .cons r t, s => .cons r (Prs.app t s)
theorem Prs.snoc {H : Hp} {xs : List V} {ps : List (Int × Int)} {x : V} {p : Int × Int} (h : Prs H xs ps) (r : Pr H x p) : Prs H (xs ++ [x]) (ps ++ [p]) := Prs.app h (.cons r .nil)
theorem Prs.drop1 {H : Hp} : ∀ {xs : List V} {ps : List (Int × Int)}, Prs H xs ps → Prs H xs.dropLast ps.dropLast
  | _, _, .nil => .nil
  | _, _, .cons r .nil => .nil
  | _, _, .cons r (.cons s t) => .cons r (Prs.drop1 (.cons s t))
theorem Prs.nil_iff {H : Hp} {xs : List V} {ps : List (Int × Int)} (h : Prs H xs ps) : xs = [] ↔ ps = [] := by
  cases h <;> simp

/-! ### defs of the module, and their call -/
/-- what the call of f by positional values promises -/
def CallOk (P : Program) (w : World) (K : PySem.W.Frag) (mg : Str → Option Value) (base : Heap) (k : Nat) (f : Addr) (sp : Sp) : Prop :=
  ∀ (X : Cx) (pins : List (Addr × Obj)) (σ : L2.St) (H : Hp) (s : Shared) (Q : VK) (W : WX) (us : List Value) (vs : List V), X.prog = P → X.w = w → X.K = K → X.mg = mg → X.base = base → Room k X.A → Takes X W → Inv X pins σ H s → Vals vs us →
    sp vs H Q (fun cls d H2 => W cls d σ H2) → wpAny (model X.prog X.w) X.A (call (.ref f) us) (EP X pins σ Q) X.xe s
/-- a def or a class of the module: its name, its promise by positional values -/
structure Df (P : Program) (w : World) (K : PySem.W.Frag) (mg : Str → Option Value) (base : Heap) (k : Nat) (x : Str) (sp : Sp) : Prop where
  ex : ∃ f, CallOk P w K mg base k f sp ∧ mg x = some (.ref f) ∧ PySem.W.keepIn K (.ref f) = true
theorem CallOk.mono {P : Program} {w : World} {K : PySem.W.Frag} {mg : Str → Option Value} {base : Heap} {j k : Nat} {f : Addr} {sp : Sp} (c : CallOk P w K mg base j f sp) (h : j ≤ k) : CallOk P w K mg base k f sp :=
  fun X pins σ H s Q W us vs e1 e2 e3 e4 e5 hr => c X pins σ H s Q W us vs e1 e2 e3 e4 e5 (hr.mono h)
theorem CallOk.imp {P : Program} {w : World} {K : PySem.W.Frag} {mg : Str → Option Value} {base : Heap} {k : Nat} {f : Addr} {sp sp' : Sp} (c : CallOk P w K mg base k f sp) (h : ∀ vs H Q E, sp' vs H Q E → sp vs H Q E) : CallOk P w K mg base k f sp' :=
  fun X pins σ H s Q W us vs e1 e2 e3 e4 e5 hr tk I r q => c X pins σ H s Q W us vs e1 e2 e3 e4 e5 hr tk I r (h _ _ _ _ q)
theorem callOk_fn {P : Program} {w : World} {K : PySem.W.Frag} {mg : Str → Option Value} {base : Heap} {k : Nat} {f : Addr} {sp : Sp} (F : FnR P w K mg base (L2.CX P w) k f sp) : CallOk P w K mg base k f sp := by
  intro X pins σ H s Q W us vs e1 e2 e3 e4 e5 hr tk I r h
  subst e1 e2 e3 e4 e5
  refine wpAny_call (codeAny_mono (F X.A X.stack s H us vs Q _ hr I.env0 r h) fun res s' hq => ?_)
  match res, hq with
  | .error e, hq => exact passAt tk σ pins H s e s' I hq
  | .ok (.ret u), hq => exact I.after hq
theorem Df.mono {P : Program} {w : World} {K : PySem.W.Frag} {mg : Str → Option Value} {base : Heap} {j k : Nat} {x : Str} {sp : Sp} (c : Df P w K mg base j x sp) (h : j ≤ k) : Df P w K mg base k x sp :=
  let ⟨f, F, a, b⟩ := c.ex; ⟨f, F.mono h, a, b⟩
theorem Df.imp {P : Program} {w : World} {K : PySem.W.Frag} {mg : Str → Option Value} {base : Heap} {k : Nat} {x : Str} {sp sp' : Sp} (c : Df P w K mg base k x sp) (h : ∀ vs H Q E, sp' vs H Q E → sp vs H Q E) : Df P w K mg base k x sp' :=
  let ⟨f, F, a, b⟩ := c.ex; ⟨f, F.imp h, a, b⟩
def tDf (sp : Sp) (W : WX) (t : TA) : TE := fun σ H Q => t σ H fun vs H1 => sp vs H1 Q (fun cls d H2 => W cls d σ H2)
section
variable {X : Cx} {k j : Nat} {f : Addr} {sp : Sp} {W : WX} {x : Str} {p pos : Pos} {e : Expr} {es : List Expr} {t : TA}
theorem pe_df (c : Df X.prog X.w X.K X.mg X.base k x sp) (hr : Room j X.A) (hk : k ≤ j) (tk : Takes X W) (hg : Gl X x) (ha : PA X (e :: es) t)
    (hdb : (x == ("__debug__" : Str)) = false := by decide) (he : starEach (e :: es) X.env = (false, eval e X.env) :: starEach es X.env := by rfl) (hpl : (backTo pos (starEach es X.env)).any (·.1) = false := by rfl) :
    PE X (.Call (.Name x p) (e :: es) [] pos) (tDf sp W t) := by
  obtain ⟨f, F, hm, kp⟩ := c.ex
  refine ⟨fun pins s σ H Q I h => ?_⟩
  refine wpAny_Call_Name_kw (ld_glob I hg hm ?_ hdb)
  refine PySem.W.callWith_K (h₀ := X.base) I.ok.mod.kin kp (thn (ha.run pos pins s σ H _ I h) fun us s1 hz => ?_) he hpl
  obtain ⟨vs, H1, I1, r, q⟩ := hz
  exact ⟨I1.kIn, F X pins σ H1 s1 Q W us vs rfl rfl rfl rfl rfl (hr.mono hk) tk I1 r q⟩
theorem pe_df0 (c : Df X.prog X.w X.K X.mg X.base k x sp) (hr : Room j X.A) (hk : k ≤ j) (tk : Takes X W) (hg : Gl X x)
    (hdb : (x == ("__debug__" : Str)) = false := by decide) : PE X (.Call (.Name x p) [] [] pos) (tDf sp W tNil) := by
  obtain ⟨f, F, hm, kp⟩ := c.ex
  refine ⟨fun pins s σ H Q I h => ?_⟩
  refine wpAny_Call_Name_kw (ld_glob I hg hm ?_ hdb)
  exact PySem.W.callWith_K0 I.kIn kp (F X pins σ H s Q W [] [] rfl rfl rfl rfl rfl (hr.mono hk) tk I .nil h)
end
theorem hu65 {A : Around} {k : Nat} (hr : Room k A) : A.units + 65 < cLine := by have := hr.un; omega
end Sr
namespace Sr
open PySem PySem.Spec PyProof.Rows L2

/-- a constant -/
theorem pe_cst {X : Cx} {e : Expr} {t : TE} {v : V} (h : PE X e t) (k : ∀ (σ : L2.St) (H : Hp) (Q : VK), Q v H → t σ H Q) : PE X e (tC v) := ⟨fun pins s σ H Q I hq => h.run pins s σ H Q I (k σ H Q hq)⟩
/-! ### tests -/
theorem iteEq {a b : Int} {A B : Prop} (h1 : a = b → A) (h2 : a ≠ b → B) : if decide (V.int a = V.int b) = true then A else B := ite2 (fun c => h1 (V.int.inj (of_decide_eq_true c))) (fun c => h2 fun e => c (decide_eq_true (by rw [e])))
theorem iteD {p : Prop} [Decidable p] {A B : Prop} (h1 : p → A) (h2 : ¬ p → B) : if decide p = true then A else B := ite2 (fun c => h1 (of_decide_eq_true c)) (fun c => h2 fun e => c (decide_eq_true e))
theorem iteND {p : Prop} [Decidable p] {A B : Prop} (h1 : ¬ p → A) (h2 : p → B) : if (!decide p) = true then A else B := by
  by_cases c : p
  · rw [decide_eq_true c]; exact iteF (h2 c)
  · rw [decide_eq_false c]; exact iteT (h1 c)
/-- forget how a stored int came about -/
theorem genI {i : Nat} {z0 : Int} {σ : L2.St} {H : Hp} {Q : L2.St → Hp → Prop} (P : Int → Prop) (h : P z0) (k : ∀ z, P z → gName i (.int z) σ H Q) : gName i (.int z0) σ H Q := k z0 h
theorem divOk {i j : Int} (h : 0 < j) (hb : j.natAbs < 2 ^ 200) : CDivW i j := wide_div h hb (by decide) (by decide)
/-! ### one list may change -/
def But (a : Addr) (H H' : Hp) : Prop := ∀ b o, b ≠ a → H b = some o → H' b = some o
theorem But.refl (a : Addr) (H : Hp) : But a H H := fun _ _ _ h => h
theorem But.trans {a : Addr} {H H1 H2 : Hp} (x : But a H H1) (y : But a H1 H2) : But a H H2 := fun b o n h => y b o n (x b o n h)
theorem But.of {a : Addr} {H H' : Hp} (s : Same H H') : But a H H' := fun b o _ h => s b o h
theorem But.new {a p : Addr} {H H' : Hp} {o : HO} (x : But a H H') (h : H' p = none) : But a H (upd H' p o) := fun b u n e => by rw [upd_ne (ne_of_none (x b u n e) h)]; exact x b u n e
theorem But.own {a p : Addr} {H H' : Hp} {o : HO} (x : But a H H') (h : H p = none) : But a H (upd H' p o) := fun b u n e => by rw [upd_ne (ne_of_none e h)]; exact x b u n e
theorem But.at {a : Addr} {H H' : Hp} {o : HO} (x : But a H H') : But a H (upd H' a o) := fun b u n e => by rw [upd_ne n]; exact x b u n e
theorem But.tup {a : Addr} {H H' : Hp} {xs : List V} (x : But a H H') (h : H a = some (.lst xs)) : TupLe H H' := fun b us e => x b _ (ne_of e h (by intro z; cases z)) e
/-- the list of draws at a -/
def Dr (H : Hp) (a : Addr) : Prop := ∃ ns : List Int, H a = some (.lst (ns.map V.int)) ∧ (∀ n ∈ ns, 0 ≤ n) ∧ ns.length ≤ 100000
theorem Dr.ls {H : Hp} {a : Addr} (h : Dr H a) : ∃ xs, H a = some (.lst xs) := let ⟨_, h, _⟩ := h; ⟨_, h⟩
theorem Dr.tup {a : Addr} {H H' : Hp} (h : Dr H a) (x : But a H H') : TupLe H H' := let ⟨_, h⟩ := h.ls; x.tup h
theorem Dr.same {a : Addr} {H H' : Hp} (h : Dr H a) (s : Same H H') : Dr H' a := let ⟨ns, e, x⟩ := h; ⟨ns, s _ _ e, x⟩
theorem Dr.new {a p : Addr} {H : Hp} {o : HO} (h : Dr H a) (n : H p = none) : Dr (upd H p o) a := h.same (sNew n)
theorem Dr.ne {a p : Addr} {H : Hp} (h : Dr H a) (n : H p = none) : p ≠ a := by rintro rfl; obtain ⟨_, e⟩ := h.ls; rw [n] at e; cases e
theorem Dr.set {a p : Addr} {H : Hp} {o : HO} (h : Dr H a) (n : p ≠ a) : Dr (upd H p o) a := let ⟨ns, e, x⟩ := h; ⟨ns, by rw [upd_ne (Ne.symm n)]; exact e, x⟩

/-! ### pairs in order -/
def lexLe (a b : Int × Int) : Bool := decide (a.1 < b.1 ∨ (a.1 = b.1 ∧ a.2 ≤ b.2))
def sortP (ps : List (Int × Int)) : List (Int × Int) := ps.mergeSort lexLe
theorem lexLe_iff {a b : Int × Int} : lexLe a b = true ↔ a.1 < b.1 ∨ (a.1 = b.1 ∧ a.2 ≤ b.2) := by unfold lexLe; exact decide_eq_true_iff
theorem lexLe_anti {a b : Int × Int} (h : lexLe a b = true) (h' : lexLe b a = true) : a = b := by
  rw [lexLe_iff] at h h'
  obtain ⟨a1, a2⟩ := a
  obtain ⟨b1, b2⟩ := b
  simp only at h h'
  have h1 : a1 = b1 := by omega
  have h2 : a2 = b2 := by omega
  rw [h1, h2]
theorem lexLe_trans (a b c : Int × Int) (h : lexLe a b = true) (h' : lexLe b c = true) : lexLe a c = true := by
  rw [lexLe_iff] at *; omega
theorem lexLe_total (a b : Int × Int) : (lexLe a b || lexLe b a) = true := by
  rw [Bool.or_eq_true, lexLe_iff, lexLe_iff]; omega
theorem sortP_perm (ps : List (Int × Int)) : (sortP ps).Perm ps := List.mergeSort_perm _ _
theorem sortP_sorted (ps : List (Int × Int)) : (sortP ps).Pairwise fun a b => lexLe a b = true := List.pairwise_mergeSort lexLe_trans lexLe_total ps
theorem sortP_uniq {ps qs : List (Int × Int)} (h : qs.Perm ps) (s : qs.Pairwise fun a b => lexLe a b = true) : qs = sortP ps :=
  List.Perm.eq_of_pairwise (fun _ _ _ _ => lexLe_anti) s (sortP_sorted ps) (h.trans (sortP_perm ps).symm)
theorem Prs.perm {H : Hp} {k : V → Int × Int} : ∀ {ys : List V}, (∀ y ∈ ys, Pr H y (k y)) → Prs H ys (ys.map k)
  | [], _ => .nil
  | y :: r, h => .cons (h y List.mem_cons_self) (Prs.perm fun z hz => h z (List.mem_cons_of_mem _ hz))
theorem Prs.key {H : Hp} {xs : List V} {ps : List (Int × Int)} (h : Prs H xs ps) : ∃ k : V → Int × Int, xs.map k = ps ∧ ∀ x ∈ xs, Pr H x (k x) := by
  classical
  refine ⟨fun x => if e : ∃ p, Pr H x p then Classical.choose e else (0, 0), ?_, ?_⟩
  · induction h with
    | nil => rfl
    | @cons x p xs ps r t ih =>
      rw [List.map_cons, ih]
      have e : ∃ p, Pr H x p := ⟨p, r⟩
      have q : Classical.choose e = p := by
        obtain ⟨t1, e1, h1⟩ := Classical.choose_spec e
        obtain ⟨t2, e2, h2⟩ := r
        rw [e1] at e2
        cases e2
        rw [h1] at h2
        injection h2 with h2
        injection h2 with h2
        injection h2 with h3 h4
        injection h3 with h3
        injection h4 with h4 _
        injection h4 with h4
        exact Prod.ext h3 h4
      rw [dif_pos e, q]
  · intro x hx
    have e : ∃ p, Pr H x p := by
      induction h with
      | nil => cases hx
      | cons r t ih =>
        rcases List.mem_cons.mp hx with z | z
        · rw [z]; exact ⟨_, r⟩
        · exact ih z
    show Pr H x (if e : ∃ p, Pr H x p then Classical.choose e else (0, 0))
    rw [dif_pos e]
    exact Classical.choose_spec e
def rSortPr (K : PySem.W.Frag) : List V → Hp → VK → Prop := fun vs H Q => ∃ (a : Addr) (xs : List V) (ps : List (Int × Int)), vs = [.ref a] ∧ SqL K H a xs ∧ Prs H xs ps ∧
  ∀ ys p, H p = none → ys.length = xs.length → Prs H ys (sortP ps) → Q (.ref p) (upd H p (.lst ys))
theorem cr_sortPr {X : Cx} : CallR X (.builtin "sorted") (rSortPr X.K) := by
  intro pins s σ H vs us Q I r h
  obtain ⟨a, xs, ps, rfl, hS, hP, q⟩ := h
  obtain ⟨k, ek, hk⟩ := hP.key
  refine cr_sortedPO pins s σ H [.ref a] us Q I r ⟨a, xs, k, rfl, hS, hk, fun ys p hs hst hp => ?_⟩
  have hm : ∀ y ∈ ys, y ∈ xs := fun y hy => hst.perm.mem_iff.mp hy
  have e : ys.map k = sortP ps := sortP_uniq (ek ▸ hst.perm.map k) (by
    rw [List.pairwise_map]
    refine hs.imp fun {x y} h => ?_
    have h1 := SrtO.lexB_no.mp h
    rw [lexLe_iff]; omega)
  exact q ys p hp hst.len (e ▸ Prs.perm fun y hy => hk y (hm y hy))

/-! ### the end of such a list -/
theorem Prs.cases {H : Hp} {xs : List V} {ps : List (Int × Int)} (h : Prs H xs ps) : (xs = [] ∧ ps = []) ∨ ∃ xs' x ps' p, xs = xs' ++ [x] ∧ ps = ps' ++ [p] ∧ Prs H xs' ps' ∧ Pr H x p := by
  rcases List.eq_nil_or_concat xs with e | ⟨xs', x, e⟩
  · exact .inl ⟨e, h.nil_iff.mp e⟩
  · rcases List.eq_nil_or_concat ps with e2 | ⟨ps', p, e2⟩
    · rw [h.nil_iff.mpr e2] at e
      simp at e
    · rw [List.concat_eq_append] at e e2
      refine .inr ⟨xs', x, ps', p, e, e2, ?_⟩
      subst e e2
      have hl : xs'.length = ps'.length := by have := h.len; simp at this; exact this
      constructor
      · have := h.drop1
        rw [List.dropLast_concat, List.dropLast_concat] at this
        exact this
      · obtain ⟨p', h1, h2⟩ := h.get (i := xs'.length) (x := x) (by simp)
        rw [hl] at h1
        simp at h1
        rw [h1]; exact h2
theorem six0 {n : Nat} (h : 0 < n) : seqIndex? 0 n = some 0 := by
  unfold seqIndex?
  simp [h]
theorem tyL {K : PySem.W.Frag} {H : Hp} {p : Addr} {xs : List V} (h : H p = some (.lst xs)) : tyV K "list" (.ref p) H := .inl ⟨rfl, _, SqL.of h⟩
theorem line_of {n : Nat} (h : n ≤ 1000000) : n < sizeLine := Nat.lt_of_le_of_lt h (by decide)
theorem line_le {n : Nat} (h : n ≤ 1000000) : n ≤ sizeLine := Nat.le_of_lt (line_of h)

/-! ### loops over lists of pairs -/
theorem Prs.at {H : Hp} {ys : List V} {qs : List (Int × Int)} {i : Nat} {x : V} (h : Prs H ys qs) (e : ys[i]? = some x) : ∃ q t, qs = qs.take i ++ q :: qs.drop (i + 1) ∧ qs.take (i + 1) = qs.take i ++ [q] ∧ x = .ref t ∧ H t = some (.tup [.int q.1, .int q.2]) := by
  obtain ⟨q, hq, t, hx, ht⟩ := h.get e
  have hi : i < qs.length := by
    rcases Nat.lt_or_ge i qs.length with z | z
    · exact z
    · rw [List.getElem?_eq_none_iff.mpr z] at hq; cases hq
  have hq' : qs[i] = q := by rw [List.getElem?_eq_getElem hi] at hq; exact Option.some.inj hq
  refine ⟨q, t, ?_, ?_, hx, ht⟩
  · rw [← hq', ← List.drop_eq_getElem_cons hi, List.take_append_drop]
  · rw [List.take_add_one, List.getElem?_eq_getElem hi, hq']; rfl
/-- for low, high in a list of pairs -/
theorem for_prL {K : PySem.W.Frag} {a : Addr} {ys : List V} {qs : List (Int × Int)} {i j : Nat} {tb : TS} {D : Ends} {σ : L2.St} {H : Hp} (Pv : List (Int × Int) → L2.St → Hp → Prop) (h0 : Pv [] σ H)
    (hl : ∀ done σ H, Pv done σ H → SqL K H a ys ∧ Prs H ys qs)
    (hs : ∀ done q rest σ H, qs = done ++ q :: rest → Pv done σ H → tb { D with nx := Pv (done ++ [q]), ct := Pv (done ++ [q]), bk := D.nx } ((σ.set i (some (.int q.1))).set j (some (.int q.2))) H)
    (hd : ∀ σ H, Pv qs σ H → D.nx σ H) :
    ∃ W : Nat → Nat → L2.St → Hp → Prop, (∃ m, W 0 m σ H) ∧ ∀ n m σ H, W n m σ H →
      ((Itl K a).stop n H ∧ D.nx σ H) ∨ ((Itl K a).go n H ∧ ∃ N : L2.St → Hp → Prop, (∀ σ' H', N σ' H' → ∃ m', m' < m ∧ W (n + 1) m' σ' H') ∧ ∀ x H', (Itl K a).yld n H x H' → gTup K 2 (gCons (gName i) (gCons (gName j) gNil)) x σ H' fun σ2 H2 => tb { D with nx := N, ct := N, bk := D.nx } σ2 H2) := by
  refine for_list (xs := ys) (fun n σ H => Pv (qs.take n) σ H) (by simpa using h0) (fun n σ H _ p => (hl _ _ _ p).1) (fun n x σ H e p => ?_) (fun σ H p => hd σ H ?_)
  · obtain ⟨q, t, e1, e2, rfl, ht⟩ := (hl _ _ _ p).2.at e
    refine ⟨t, _, rfl, SqT.of ht, rfl, _, _, rfl, _, _, rfl, rfl, ?_⟩
    have z := hs _ q _ σ H e1 p
    rw [← e2] at z
    exact z
  · have := (hl _ _ _ p).2.len
    rw [this, List.take_length] at p
    exact p
theorem for_prT {K : PySem.W.Frag} {a : Addr} {ys : List V} {qs : List (Int × Int)} {i j : Nat} {tb : TS} {D : Ends} {σ : L2.St} {H : Hp} (Pv : List (Int × Int) → L2.St → Hp → Prop) (h0 : Pv [] σ H)
    (hl : ∀ done σ H, Pv done σ H → SqT K H a ys ∧ Prs H ys qs)
    (hs : ∀ done q rest σ H, qs = done ++ q :: rest → Pv done σ H → tb { D with nx := Pv (done ++ [q]), ct := Pv (done ++ [q]), bk := D.nx } ((σ.set i (some (.int q.1))).set j (some (.int q.2))) H)
    (hd : ∀ σ H, Pv qs σ H → D.nx σ H) :
    ∃ W : Nat → Nat → L2.St → Hp → Prop, (∃ m, W 0 m σ H) ∧ ∀ n m σ H, W n m σ H →
      ((Itt K a).stop n H ∧ D.nx σ H) ∨ ((Itt K a).go n H ∧ ∃ N : L2.St → Hp → Prop, (∀ σ' H', N σ' H' → ∃ m', m' < m ∧ W (n + 1) m' σ' H') ∧ ∀ x H', (Itt K a).yld n H x H' → gTup K 2 (gCons (gName i) (gCons (gName j) gNil)) x σ H' fun σ2 H2 => tb { D with nx := N, ct := N, bk := D.nx } σ2 H2) := by
  refine for_tup (xs := ys) (fun n σ H => Pv (qs.take n) σ H) (by simpa using h0) (fun n σ H _ p => (hl _ _ _ p).1) (fun n x σ H e p => ?_) (fun σ H p => hd σ H ?_)
  · obtain ⟨q, t, e1, e2, rfl, ht⟩ := (hl _ _ _ p).2.at e
    refine ⟨t, _, rfl, SqT.of ht, rfl, _, _, rfl, _, _, rfl, rfl, ?_⟩
    have z := hs _ q _ σ H e1 p
    rw [← e2] at z
    exact z
  · have := (hl _ _ _ p).2.len
    rw [this, List.take_length] at p
    exact p
def SqLT (K : PySem.W.Frag) (H : Hp) (a : Addr) (xs : List V) : Prop := SqL K H a xs ∨ SqT K H a xs
theorem SqLT.same {K : PySem.W.Frag} {H H' : Hp} {a : Addr} {xs : List V} (s : Same H H') (h : SqLT K H a xs) : SqLT K H' a xs := h.elim (fun z => .inl (s.seq z)) fun z => .inr (SqT.ext z s)
/-- for low, high in a list or a tuple of pairs -/
theorem for_prLT {K : PySem.W.Frag} {a : Addr} {ys : List V} {qs : List (Int × Int)} {i j : Nat} {tb : TS} {D : Ends} {σ : L2.St} {H0 H : Hp} (Pv : List (Int × Int) → L2.St → Hp → Prop) (hS : SqLT K H0 a ys) (h0 : Pv [] σ H)
    (hl : ∀ done τ G, Pv done τ G → Same H0 G ∧ Prs G ys qs)
    (hs : ∀ done q rest τ G, qs = done ++ q :: rest → Pv done τ G → tb { D with nx := Pv (done ++ [q]), ct := Pv (done ++ [q]), bk := D.nx } ((τ.set i (some (.int q.1))).set j (some (.int q.2))) G)
    (hd : ∀ τ G, Pv qs τ G → D.nx τ G) :
    ((∃ xs, SqL K H a xs) ∧ ∃ W : Nat → Nat → L2.St → Hp → Prop, (∃ m, W 0 m σ H) ∧ ∀ n m τ G, W n m τ G →
      ((Itl K a).stop n G ∧ D.nx τ G) ∨ ((Itl K a).go n G ∧ ∃ N : L2.St → Hp → Prop, (∀ σ' H', N σ' H' → ∃ m', m' < m ∧ W (n + 1) m' σ' H') ∧ ∀ x H', (Itl K a).yld n G x H' → gTup K 2 (gCons (gName i) (gCons (gName j) gNil)) x τ H' fun σ2 H2 => tb { D with nx := N, ct := N, bk := D.nx } σ2 H2)) ∨
    ((∃ xs, SqT K H a xs) ∧ ∃ W : Nat → Nat → L2.St → Hp → Prop, (∃ m, W 0 m σ H) ∧ ∀ n m τ G, W n m τ G →
      ((Itt K a).stop n G ∧ D.nx τ G) ∨ ((Itt K a).go n G ∧ ∃ N : L2.St → Hp → Prop, (∀ σ' H', N σ' H' → ∃ m', m' < m ∧ W (n + 1) m' σ' H') ∧ ∀ x H', (Itt K a).yld n G x H' → gTup K 2 (gCons (gName i) (gCons (gName j) gNil)) x τ H' fun σ2 H2 => tb { D with nx := N, ct := N, bk := D.nx } σ2 H2)) := by
  rcases hS with hS | hS
  · exact .inl ⟨⟨_, (hl _ _ _ h0).1.seq hS⟩, for_prL Pv h0 (fun done τ G z => ⟨(hl done τ G z).1.seq hS, (hl done τ G z).2⟩) hs hd⟩
  · exact .inr ⟨⟨_, SqT.ext hS (hl _ _ _ h0).1⟩, for_prT Pv h0 (fun done τ G z => ⟨SqT.ext hS (hl done τ G z).1, (hl done τ G z).2⟩) hs hd⟩
/-- a type of the language, by its name -/
theorem pe_ty {X : Cx} {x : Str} {n : String} {pos : Pos} (hg : Gl X x) (hm : X.mg x = none) (hv : bootBuiltins x = some (.type n)) (hn : x ≠ "__name__" := by decide) (hd : (x == ("__debug__" : Str)) = false := by decide) : PE X (.Name x pos) (tC (.ty n)) := pe_bltn hg hm hv rfl hn hd
theorem cst_eq {i j : Int} {Q : VK} {H : Hp} (e : i = j) (h : Q (.int i) H) : Q (.int j) H := e ▸ h
/-- an object of the module, by its name -/
theorem pe_own {X : Cx} {x : Str} {a : Addr} {pos : Pos} (hg : Gl X x) (hm : X.mg x = some (.ref a)) (hd : (x == ("__debug__" : Str)) = false := by decide) : PE X (.Name x pos) (tC (.ref a)) := pe_glob hg hm rfl hd
end Sr
namespace Sr
open PySem PySem.Spec PyProof.Rows L2
/-! ### data: shape -/
structure Sh (n : Nat) (d : PyData) : Prop where
  lay : d.canLay0 = true
  dep : d.depth ≤ n
theorem Sh.shaped {n : Nat} {d : PyData} (h : Sh n d) (hn : n ≤ 64 := by decide) : SeqAt.shaped d = true := by
  unfold SeqAt.shaped
  rw [h.lay, decide_eq_true (Nat.le_trans h.dep hn)]; rfl
theorem Sh.mono {m n : Nat} {d : PyData} (h : Sh m d) (hn : m ≤ n) : Sh n d := ⟨h.lay, Nat.le_trans h.dep hn⟩
theorem sh_int (n : Nat) (i : Int) : Sh n (.int i) := ⟨by simp only [PyData.canLay0], by simp only [PyData.depth]; exact Nat.zero_le _⟩
theorem sh_bool (n : Nat) (b : Bool) : Sh n (.bool b) := ⟨by simp only [PyData.canLay0], by simp only [PyData.depth]; exact Nat.zero_le _⟩
theorem sh_none (n : Nat) : Sh n .none := ⟨by simp only [PyData.canLay0], by simp only [PyData.depth]; exact Nat.zero_le _⟩
theorem sh_all {n : Nat} : ∀ {ds : List PyData}, (∀ d ∈ ds, Sh n d) → PyData.canLayAll0 ds = true ∧ PyData.depthAll ds ≤ n
  | [], _ => ⟨by simp only [PyData.canLayAll0], by simp only [PyData.depthAll]; exact Nat.zero_le _⟩
  | d :: r, h => by
    obtain ⟨h1, h2⟩ := sh_all (ds := r) fun d hd => h d (List.mem_cons_of_mem _ hd)
    have h3 := h d List.mem_cons_self
    refine ⟨?_, ?_⟩
    · simp only [PyData.canLayAll0]; rw [h3.lay, h1]; rfl
    · simp only [PyData.depthAll]; exact Nat.max_le.mpr ⟨h3.dep, h2⟩
theorem sh_list {n : Nat} {ds : List PyData} (h : ∀ d ∈ ds, Sh n d) : Sh (n + 1) (.list ds) := by
  obtain ⟨h1, h2⟩ := sh_all h
  exact ⟨by simp only [PyData.canLay0]; exact h1, by simp only [PyData.depth]; omega⟩
theorem sh_tup {n : Nat} {ds : List PyData} (h : ∀ d ∈ ds, Sh n d) : Sh (n + 1) (.tuple ds) := by
  obtain ⟨h1, h2⟩ := sh_all h
  exact ⟨by simp only [PyData.canLay0]; exact h1, by simp only [PyData.depth]; omega⟩
theorem sh_nil {n : Nat} : ∀ d ∈ ([] : List PyData), Sh n d := fun _ h => nomatch h
theorem sh_cons {n : Nat} {a : PyData} {l : List PyData} (h : Sh n a) (t : ∀ d ∈ l, Sh n d) : ∀ d ∈ a :: l, Sh n d := fun d hd => by
  rcases List.mem_cons.mp hd with e | e
  · rw [e]; exact h
  · exact t d e
theorem sh_map {α : Type} {n : Nat} {f : α → PyData} (h : ∀ a, Sh n (f a)) (l : List α) : ∀ d ∈ l.map f, Sh n d := fun d hd => by
  obtain ⟨a, _, e⟩ := List.mem_map.mp hd
  rw [← e]; exact h a
/-! ### data: equality -/
theorem eqv_int (i j : Int) : PyData.eqv (.int i) (.int j) = decide (i = j) := by
  simp only [PyData.eqv]; rw [Bool.eq_iff_iff, beq_iff_eq, decide_eq_true_iff]
theorem eqvAll_map {α : Type} [DecidableEq α] {f : α → PyData} (h : ∀ a b, PyData.eqv (f a) (f b) = decide (a = b)) : ∀ xs ys : List α, PyData.eqvAll (xs.map f) (ys.map f) = decide (xs = ys)
  | [], [] => by simp [PyData.eqvAll]
  | [], _ :: _ => by simp [PyData.eqvAll]
  | _ :: _, [] => by simp [PyData.eqvAll]
  | x :: xs, y :: ys => by
    simp only [List.map_cons, PyData.eqvAll, h, eqvAll_map h xs ys, List.cons.injEq, Bool.decide_and]
/-- a pair of ints -/
def pD (p : Int × Int) : PyData := .tuple [.int p.1, .int p.2]
theorem eqv_pD (p q : Int × Int) : PyData.eqv (pD p) (pD q) = decide (p = q) := by
  unfold pD
  simp only [PyData.eqv, PyData.eqvAll, Bool.and_true]
  rw [Bool.eq_iff_iff, Bool.and_eq_true, beq_iff_eq, beq_iff_eq, decide_eq_true_iff, Prod.ext_iff]
theorem sh_pD (n : Nat) (p : Int × Int) : Sh (n + 1) (pD p) := sh_tup (sh_cons (sh_int n _) (sh_cons (sh_int n _) sh_nil))
theorem eqv_list (ds es : List PyData) : PyData.eqv (.list ds) (.list es) = PyData.eqvAll ds es := by simp only [PyData.eqv]
theorem eqv_tuple (ds es : List PyData) : PyData.eqv (.tuple ds) (.tuple es) = PyData.eqvAll ds es := by simp only [PyData.eqv]
theorem eqvAll_nil : PyData.eqvAll [] [] = true := by simp only [PyData.eqvAll]
theorem eqvAll_cons (d e : PyData) (ds es : List PyData) : PyData.eqvAll (d :: ds) (e :: es) = (PyData.eqv d e && PyData.eqvAll ds es) := by simp only [PyData.eqvAll]
theorem eqvAll_nil_cons (e : PyData) (es : List PyData) : PyData.eqvAll [] (e :: es) = false := by simp only [PyData.eqvAll]
theorem eqvAll_cons_nil (e : PyData) (es : List PyData) : PyData.eqvAll (e :: es) [] = false := by simp only [PyData.eqvAll]
/-! ### data in the heap -/
section
variable {K : PySem.W.Frag} {H : Hp}
theorem dp_ints : ∀ ns : List Int, DpAll K H (ns.map V.int) (ns.map PyData.int)
  | [] => .nil
  | n :: r => .cons (.int n) (dp_ints r)
theorem dp_pr {x : V} {p : Int × Int} (h : Pr H x p) : Dp K H x (pD p) := by
  obtain ⟨t, rfl, h⟩ := h
  exact .tup (SqT.of h) (.cons (.int _) (.cons (.int _) .nil))
theorem dp_prs : ∀ {xs : List V} {ps : List (Int × Int)}, Prs H xs ps → DpAll K H xs (ps.map pD)
  | _, _, .nil => .nil
  | _, _, .cons a b => .cons (dp_pr a) (dp_prs b)
theorem sh_ints (ns : List Int) : SeqAt.shaped (.list (ns.map PyData.int)) = true := (sh_list (sh_map (sh_int 0) ns)).shaped
theorem sh_prs (ps : List (Int × Int)) : SeqAt.shaped (.list (ps.map pD)) = true := (sh_list (sh_map (sh_pD 0) ps)).shaped
theorem sh_prsT (ps : List (Int × Int)) : SeqAt.shaped (.tuple (ps.map pD)) = true := (sh_tup (sh_map (sh_pD 0) ps)).shaped
theorem eqv_ints (ms ns : List Int) : PyData.eqv (.list (ms.map PyData.int)) (.list (ns.map PyData.int)) = decide (ms = ns) := by rw [eqv_list, eqvAll_map eqv_int]
theorem eqv_prs (ms ns : List (Int × Int)) : PyData.eqv (.list (ms.map pD)) (.list (ns.map pD)) = decide (ms = ns) := by rw [eqv_list, eqvAll_map eqv_pD]
theorem eqv_prsT (ms ns : List (Int × Int)) : PyData.eqv (.tuple (ms.map pD)) (.tuple (ns.map pD)) = decide (ms = ns) := by rw [eqv_tuple, eqvAll_map eqv_pD]
theorem eqv_ints0 (ns : List Int) : PyData.eqv (.list (ns.map PyData.int)) (.list []) = decide (ns = []) := eqv_ints ns []
theorem eqv_prs0 (ns : List (Int × Int)) : PyData.eqv (.list (ns.map pD)) (.list []) = decide (ns = []) := eqv_prs ns []
end
end Sr
namespace Sr
open PySem PySem.Spec PyProof.Rows L2


/-! ### bodies that ask which code runs: super() -/
structure PSA (X : Cx) (B : List Stmt) (st : Stmt) (t : TS) : Prop where
  run : ∀ (pins : List (Addr × Obj)) (s : Shared) (σ : L2.St) (H : Hp) (D : Ends), Inv X pins σ H s → t D σ H → _root_.PySem.wpAt (model X.prog X.w) X.A (.func B X.env) (exec st X.env) (SP X pins D) X.xe s
structure PSsA (X : Cx) (B : List Stmt) (sts : List Stmt) (t : TS) : Prop where
  run : ∀ (pins : List (Addr × Obj)) (s : Shared) (σ : L2.St) (H : Hp) (D : Ends), Inv X pins σ H s → t D σ H → _root_.PySem.wpAt (model X.prog X.w) X.A (.func B X.env) (execs sts X.env) (SP X pins D) X.xe s
section
variable {X : Cx} {B : List Stmt} {st : Stmt} {sts : List Stmt} {t u : TS}
theorem psa_of (h : PS X st t) : PSA X B st t := ⟨fun pins s σ H D I q => _root_.PySem.wpAt_of_wpAny (h.run pins s σ H D I q)⟩
theorem pssa_of (h : PSs X sts t) : PSsA X B sts t := ⟨fun pins s σ H D I q => _root_.PySem.wpAt_of_wpAny (h.run pins s σ H D I q)⟩
theorem pssa_cons (h1 : PSA X B st t) (h2 : PSsA X B sts u) : PSsA X B (st :: sts) (tSeq t u) := by
  refine ⟨fun pins s σ H D I q => ks_wpAt_execs_cons (ks_wpAt_mono (h1.run pins s σ H { D with nx := u D } I q) (fun f s1 z => ?_) fun _ _ z => z)⟩
  match f, z with
  | .next, ⟨σ1, H1, I1, q1⟩ => exact h2.run pins s1 σ1 H1 D I1 q1
  | .ret _, z => exact z
  | .brk, z => exact z
  | .cont, z => exact z
end
/-- what super() asks: the def runs below the class at D (its cell), its first parameter's name -/
structure SupX (X : Cx) (D : Addr) (me : Str) : Prop where
  fn : ∃ (f : Addr) (oc : Value) (od : Option Addr) (fd : FuncData) (sl : Array (Option Value)) (ar : Arg), X.env.func = some f ∧ X.K.lookup f = some ⟨oc, od, .func fd, sl⟩ ∧ (fd.params.posonlyargs ++ fd.params.args).head? = some ar ∧ ar.arg = me
  code : ∃ (cc : Addr) (oc : Obj) (vs : Array Value) (file : Str) (tf : Tok), X.env.code = .ref cc ∧ X.K.lookup cc = some oc ∧ oc.data = .fields vs ∧ vs[2]? = some (.str file tf) ∧ ((X.prog.main.file : Str) == file) = true
  cell : ∃ (c : Addr) (o : Obj), X.env.cells.lookup ("__class__" : Str) = some c ∧ X.K.lookup c = some o ∧ o.data = .cell (some (.ref D))
  cls : ∃ cd, PySem.W.clsIn X.K D = some cd
  ksup : X.env.kindOf "super" = some .globalImplicit
  kcls : X.env.kindOf "__class__" = some .free
  top : (X.prog.main.scope.names.lookup ("super" : Str)).isSome = false
  mg : X.mg "super" = none
  any : PySem.W.nsIn X.K cStatics "thirdparty.any" = some none

section
variable {X : Cx} {B : List Stmt} {D C : Addr} {me : Str}
theorem cls_obj {K : PySem.W.Frag} {h : Heap} {D : Addr} {cd : ClassData} (hk : K.In h) (hc : PySem.W.clsIn K D = some cd) : ∃ o, h.get? D = some o ∧ o.data = .cls cd := by
  unfold PySem.W.clsIn at hc
  split at hc
  · rename_i a b c d e
    cases hc
    exact ⟨_, hk _ _ e, rfl⟩
  · cases hc
/-- super() as the receiver of a call: a super object, new and told of to nobody -/
theorem sup_base {p0 p1 : Pos} {attr : Str} {whole : Sem Value} {x : Addr} {ox : Obj} {i : Nat} {pins : List (Addr × Obj)} {σ : L2.St} {H : Hp} {s : Shared} {Q : Value → Shared → Prop} (S : SupX X D me) (I : Inv X pins σ H s)
    (hi : X.N[i]? = some me) (hv : σ[i]? = some (some (.ref x))) (hl : X.env.scope.names.lookup me = some .local)
    (hx : s.heap.get? x = some ox) (hxc : ox.cls = .ref C) (hnc : ∀ c, ox.data ≠ .cls c) (hsub : PySem.W.mroIn X.K C (.ref D) = some true) (hat : (attr == ("__class__" : Str)) = false)
    (h : ∀ h', Inv X pins σ H { s with heap := h' } → h'.get? s.heap.objs.size = some { cls := .type "super", dict := none, data := .fields #[.ref D, .ref x, .ref C], slots := #[] } →
      (∀ y o, s.heap.get? y = some o → h'.get? y = some o) → Q (.ref s.heap.objs.size) { s with heap := h' }) :
    _root_.PySem.wpAt (model X.prog X.w) X.A (.func B X.env) (attributeBase (.Call (.Name "super" p0) [] [] p1) attr X.env whole) Q X.xe s := by
  obtain ⟨f, oc, od, fd, sl, ar, e1, e2, e3, e4⟩ := S.fn
  obtain ⟨cc, occ, vs, file, tf, c1, c2, c3, c4, c5⟩ := S.code
  obtain ⟨c, o, l1, l2, l3⟩ := S.cell
  obtain ⟨cd, hcd⟩ := S.cls
  have hk := I.kIn
  obtain ⟨mb, hb1, hb2⟩ := I.mod.blt
  obtain ⟨m, hn, hloc⟩ := I.loc
  obtain ⟨oD, hD1, hD2⟩ := cls_obj hk hcd
  subst e4
  obtain ⟨u, ru, lk⟩ := hloc i ar.arg (.ref x) hi hv (.inl hl)
  cases (show u = Value.ref x from ru)
  have mx : m ar.arg = some (.ref x) := by
    rcases lk with ⟨_, z⟩ | ⟨z, _⟩
    · exact z
    · have hl' : X.env.kindOf ar.arg = some .local := hl
      rw [hl'] at z
      rcases z with z | z <;> cases z
  refine ks_wpAt_super_base S.ksup S.kcls hat e1 (hk _ _ e2) rfl e3 c1 (hk _ _ c2) c3 c4 c5 S.top ?_
  refine PySem.W.ks_loadName_global I.ok.kind S.ksup (Calls.loadGlobal_builtin (by rw [I.ok.glob]; exact I.mod.glob.keeps I.bk) S.mg (by rw [I.ok.blt]; exact hb1.keeps I.bk) ((hb2 "super" (by decide)).trans (show bootBuiltins "super" = some (.type "super") by first | rfl | decide +kernel | kernel_rfl)) ⟨rfl, ?_⟩)
  refine wpAny_loadName_free I.ok.kind S.kcls l1 ⟨_, hk _ _ l2, l3⟩ ?_
  refine wpAny_loadName_local I.ok.kind hl hn mx ?_
  refine ks_wpAny_isType_cls hD1 hD2 ⟨rfl, ?_⟩
  obtain ⟨hp, g, dr, tk, os⟩ := s
  refine ks_wpAny_call_super hD1 hD2 hx hxc hnc (PySem.W.looks_mroIn hk hsub) fun h' e k => ?_
  exact h h' (I.kept (t' := tk) k) e k
/-- the wrapper of ValueError.__init__ bound to the exception e is called -/
theorem wrap_call {M0 : Unit} {prog : Program} {w : World} {A : Around} {E : Value → Shared → Prop} {hp : Heap} {g : Array GenState} {d : Drawn} {tk : Nat} {os : OsState} {nm q : Str} {C N : Addr} {bs bm : List Value} {sn : List Str} {sub : List Value} {ab : Bool} {col : Option Bool} {dd : Option Addr} {k0 k1 k2 k3 k5 : Option Value}
    {u e t0 : Addr} {dv : Option Addr} {rest : List Value} {Q : Value → Shared → Prop} (hC : hp.get? C = some (excClassObj nm q C N bs bm true sn sub ab col dd k0 k1 k2 k3 k5 "ValueError.__new__"))
    (he : hp.get? e = some (PySem.W.excObj C t0 dv .none)) (hu : hp.get? u = some (PySem.W.kxs_mw "ValueError.__init__" e)) (hrest : rest.length ≤ sizeLine)
    (hq : ∀ h' t1, (∀ b o, b ≠ e → hp.get? b = some o → h'.get? b = some o) → h'.get? e = some (PySem.W.excObj C t1 dv .none) → Q .none ⟨h', g, d, tk, os⟩) :
    wpAny (model prog w) A (call (.ref u) rest) Q E ⟨hp, g, d, tk, os⟩ := by
  have FB := F.excBase_ValueError
  refine wpAny_call (codeAny_of_tree ?_)
  show wpAny _ A.in1 (callAny (.ref u) ⟨rest, []⟩) _ _ _
  simp only [callAny]
  refine wpAny_bind (wpAny_load hu ?_)
  simp only [PySem.W.kxs_mw, show (Value.type "method-wrapper" == Value.type "method" || Value.type "method-wrapper" == Value.type "builtin_function_or_method" || Value.type "method-wrapper" == Value.type "method-wrapper") = true by decide, if_true]
  refine PySem.W.KFB.if_so (by decide) ?_
  refine wpAny_bind (PySem.W.check_bound_init FB.toExcCallFacts hC he rfl ?_)
  refine wpAny_bind (wpAny_pure (wpAny_pure ⟨plainId_quiet FB.init.plain _, codeAny_builtin FB.initEntry ?_⟩))
  exact PySem.W.exc_init_tree (cls := .ref C) (t0 := t0) (dv := dv) (c2 := .none) (c3 := .none) (b4 := .bool false) he hrest fun h' k ex _ => hq h' _ k ex
/-- super().__init__(e, ..) in an exception's own __init__, as a statement -/
def tSupI (C : Addr) (i : Nat) (t : TA) : TS := fun D σ H => ∃ a, σ[i]? = some (some (.ref a)) ∧ H a = some (exo a C none) ∧ t σ H fun vs H1 => vs.length ≤ 1000 ∧ H1 a = some (exo a C none) ∧ D.nx σ H1
theorem psa_supInit {me : Str} {i : Nat} {e : Expr} {es : List Expr} {t : TA} {p0 p1 p2 p3 p4 : Pos} {pl : Sem Bool} (S : SupX X C me) (T : OexC X.K C) (hi : X.N[i]? = some me) (hl : X.env.scope.names.lookup me = some .local)
    (hs : PySem.W.mroIn X.K C (.ref C) = some true) (hV : PySem.W.subIn X.K (.ref C) (.type "ValueError") = some true) (ha : PySem.W.ks_superIn X.K C C "__init__" = some (some (.builtin "ValueError.__init__"))) (hargs : PA X (e :: es) t)
    (hsw : swapsWith (.Call (.Attribute (.Call (.Name "super" p0) [] [] p1) "__init__" p2) (e :: es) [] p3) none p4.line X.env = pure false := by rfl)
    (he : eval (.Call (.Attribute (.Call (.Name "super" p0) [] [] p1) "__init__" p2) (e :: es) [] p3) X.env = (do
      let ov ← attributeBase (.Call (.Name "super" p0) [] [] p1) "__init__" X.env (eval (.Call (.Name "super" p0) [] [] p1) X.env)
      standAt p2.atName
      let (f, first) ← holding [ov] (getMethod ov "__init__" pl)
      callWith p3 f first (backTo p3 (starEach (e :: es) X.env)) []) := by rfl)
    (hst : starEach (e :: es) X.env = (false, eval e X.env) :: starEach es X.env := by rfl) (hpl : (backTo p3 (starEach es X.env)).any (·.1) = false := by rfl) :
    PSA X B (.Expr (.Call (.Attribute (.Call (.Name "super" p0) [] [] p1) "__init__" p2) (e :: es) [] p3) p4) (tSupI C i t) := by
  refine ⟨fun pins s σ H D I hq => ?_⟩
  obtain ⟨a, hv, hH, hq⟩ := hq
  obtain ⟨nm, qn, N, bs, bm, sn, sub, ab, col, dd, k0, k1, k2, k3, k5, hC, hbm⟩ := T.cls
  obtain ⟨t0, ho⟩ := exo_at I.hok hH
  refine ks_wpAt_Expr_any ?_ I.quiet hsw
  refine ks_wpAt_MethodCall (pl := pl) ?_ he
  refine sup_base S I hi hv hl ho rfl (fun c z => nomatch z) hs (by decide) fun h' I' hso k => ?_
  have hk' : X.K.In h' := I'.kIn
  have ho' := k _ _ ho
  have hne : a ≠ C := fun z => by
    have z1 := I.kIn _ _ hC
    rw [z] at ho
    rw [ho] at z1
    injection z1 with z1
    injection z1 with _ _ z2 _
    cases z2
  have I2 : PySem.W.InstAt h' a (PySem.W.excObj C t0 none .none) C none := ⟨ho', rfl, rfl, trivial⟩
  have hI : PySem.W.Looks (model X.prog X.w) h' (isInstance (.ref a) (.type "ValueError")) true := I2.type.andThen (PySem.W.looks_subIn hk' hV)
  cases hcd : PySem.W.clsIn X.K C with
  | none => unfold PySem.W.ks_superIn at ha; rw [hcd] at ha; cases ha
  | some cd =>
  unfold PySem.W.ks_superIn at ha
  rw [hcd] at ha
  obtain ⟨hp, g, dr, tk, os⟩ := s
  refine PySem.W.kxs_getMethod PySem.W.kxs_ValueError hso (PySem.W.looks_opaque hk' S.any) (l₀ := cd.mro) (fun A Q E s k q => wpAny_bind ((PySem.W.looks_clsIn hk' hcd) A _ E s k (wpAny_pure q))) rfl hk' ha hI hne (by decide) ?_
  -- the wrapper stands at u
  have hu : (h'.push (PySem.W.kxs_mw "ValueError.__init__" a)).get? h'.objs.size = some (PySem.W.kxs_mw "ValueError.__init__" a) := Heap.get?_push_at rfl rfl
  have I3 : Inv X pins σ H ⟨h'.push (PySem.W.kxs_mw "ValueError.__init__" a), g, dr, tk + 1, os⟩ := I'.kept (t' := tk + 1) fun b o z => Heap.get?_push_of_some _ z
  have I4 : Inv X ((h'.objs.size, PySem.W.kxs_mw "ValueError.__init__" a) :: pins) σ H ⟨h'.push (PySem.W.kxs_mw "ValueError.__init__" a), g, dr, tk + 1, os⟩ := I3.pins_of fun p hp => by
    rcases List.mem_cons.mp hp with z | z
    · rw [z]
      refine ⟨hu, I'.hok.fresh (Nat.le_refl _), Nat.ne_of_gt (show X.env.locals < h'.objs.size from I'.lt), I'.nofs (Nat.le_refl _), fun v z2 => nomatch z2⟩
    · exact I3.pin p (List.mem_append_right _ z)
  rw [hst]
  refine PySem.W.kxs_callWith (i := "ValueError.__init__") (x := a) (by show (false || (backTo p3 (starEach es X.env)).any (·.1)) = false; rw [hpl]; rfl) ?_
  have run := hargs.run p3 _ _ σ H (fun vs H1 => vs.length ≤ 1000 ∧ H1 a = some (exo a C none) ∧ D.nx σ H1) I4 hq
  rw [hst] at run
  refine Calls.evalArgs_plain (wpAny_mono run (fun us s1 z => ?_) fun _ _ z => z)
  obtain ⟨vs, H1, J, rv, hl1, hH1, hnx⟩ := z
  obtain ⟨h1, g1, d1, tk1, os1⟩ := s1
  have hu1 := (J.pin _ (List.mem_append_right _ List.mem_cons_self)).1
  refine ⟨hu1, ?_⟩
  obtain ⟨t1, ho1⟩ := exo_at J.hok hH1
  refine wrap_call (M0 := ()) (J.kIn _ _ hC) ho1 hu1 (show us.length ≤ sizeLine by rw [← Paired.length rv, sizeLine_eq]; omega) fun h2 t2 k2 ho2 => ?_
  have J1 : Inv X pins σ H1 ⟨h1, g1, d1, tk1, os1⟩ := J.pins_of fun p hp => J.pin p (List.mem_append_right _ (List.mem_cons_of_mem _ hp))
  have W := J1.write (t' := tk1) (x := a) (e := a) (o := exo a C none) (by rw [hH1]; exact True.intro) (.inl rfl) k2 ⟨_, ho2⟩ (exo_ok ho2)
  have eH : upd H1 a (exo a C none) = H1 := by
    funext b
    by_cases z : b = a
    · rw [z, upd_same, hH1]
    · rw [upd_ne z]
  rw [eH] at W
  exact ⟨σ, H1, W, hnx⟩
end

/-! ### a def whose only free name is __class__ -/
structure SScope (N ps : List Str) (sc : Scope) : Prop where
  kind : sc.kind = .function
  co : sc.isCoroutine = false
  gen : sc.isGenerator = false
  nd : N.Nodup
  pre : N.take ps.length = ps
  par : ∀ x ∈ ps, sc.names.lookup x = some .local
  nocell : ∀ y ∈ sc.names, y.2 ≠ .cell
  free : ∀ y ∈ sc.names, y.2 = .free → y.1 = "__class__"
def cxS (P : Program) (w : World) (K : PySem.W.Frag) (mg : Str → Option Value) (base : Heap) (N : List Str) (qual : Str) (scope : Scope) (f : Addr) (cd : Value) (cc : Addr) (A : Around) (outer : List Env) (s : Shared) (H : Hp) (E : XK) : Cx :=
  { cxOf (L2.CX P w) P w K mg base N qual scope f cd A outer s H E with
    A := A.deeper (PySem.W.ksEnv qual scope s.heap.objs.size f cd cc)
    env := PySem.W.ksEnv qual scope s.heap.objs.size f cd cc
    stack := PySem.W.ksEnv qual scope s.heap.objs.size f cd cc :: outer
    fn := fun x => !(x == ("__class__" : Str))
    xe := fun e s' => wpAny (model P w) (A.deeper (PySem.W.ksEnv qual scope s.heap.objs.size f cd cc)) (leaving (PySem.W.ksEnv qual scope s.heap.objs.size f cd cc) e) (fun _ s'' => L2.CX P w outer H s E e s'') (fun e' s'' => L2.CX P w outer H s E e' s'') s' }
theorem lookup_one {x y : Str} {c d : Addr} (h : List.lookup x [(y, c)] = some d) : x = y ∧ c = d := by
  by_cases e : x = y
  · subst e
    simp [List.lookup] at h
    exact ⟨rfl, h⟩
  · have : (x == y) = false := by simpa using e
    simp [List.lookup, this] at h
theorem lookup_app {α : Type} : ∀ (l r : List (Str × α)) (x : Str), (l ++ r).lookup x = match l.lookup x with | some v => some v | none => r.lookup x
  | [], _, _ => rfl
  | (y, v) :: l, r, x => by
    rw [List.cons_append]
    by_cases e : (x == y) = true
    · simp only [List.lookup, e]
    · have e' : (x == y) = false := by simpa using e
      simp only [List.lookup, e']
      exact lookup_app l r x
theorem lookup_none {α : Type} : ∀ {l : List (Str × α)} {x : Str}, x ∉ l.map (·.1) → l.lookup x = none
  | [], _, _ => rfl
  | (y, v) :: l, x, h => by
    have e : (x == y) = false := by
      have : x ≠ y := fun z => h (by rw [z]; exact List.mem_cons_self)
      simpa using this
    simp only [List.lookup, e]
    exact lookup_none fun z => h (List.mem_cons_of_mem _ z)
theorem zip_rev {α : Type} : ∀ {ps : List Str} {us : List α} {i : Nat} {x : Str} {u : α}, ps.Nodup → ps[i]? = some x → us[i]? = some u → (ps.zip us).reverse.lookup x = some u
  | [], _, _, _, _, _, h, _ => by simp at h
  | _ :: _, [], _, _, _, _, _, h => by simp at h
  | p :: ps, v :: us, 0, x, u, nd, h1, h2 => by
    simp at h1 h2
    subst h1 h2
    rw [List.zip_cons_cons, List.reverse_cons, lookup_app, lookup_none]
    · simp [List.lookup]
    · rw [List.map_reverse, List.mem_reverse]
      intro z
      obtain ⟨⟨a, b⟩, h1, h2⟩ := List.mem_map.mp z
      exact (List.nodup_cons.mp nd).1 (h2 ▸ (List.of_mem_zip h1).1)
  | p :: ps, v :: us, i + 1, x, u, nd, h1, h2 => by
    rw [List.zip_cons_cons, List.reverse_cons, lookup_app, zip_rev (i := i) (List.nodup_cons.mp nd).2 (by simpa using h1) (by simpa using h2)]
theorem inv_startS {P : Program} {w : World} {K : PySem.W.Frag} {mg : Str → Option Value} {base : Heap} {N ps : List Str} {qual : Str} {scope : Scope} {f cc : Addr} {cd : Value} {A : Around} {outer : List Env} {s : Shared} {H : Hp} {E : XK} {us : List Value} {vs : List V} {h1 : Heap} {tk : Nat} {oc : Obj} {v0 : Option Value}
    (S : SScope N ps scope) (hd : A.handled = none) (e0 : Env0 P w K mg base A outer s H) (hl : vs.length = ps.length) (r : Vals vs us) (hc : K.lookup cc = some oc) (hcd : oc.data = .cell v0)
    (hn : h1.Ns s.heap.objs.size (fun x => (ps.zip us).reverse.lookup x)) (hk : ∀ b o, s.heap.get? b = some o → h1.get? b = some o) :
    Inv (cxS P w K mg base N qual scope f cd cc A outer s H E) [] (L2.start N vs) H { s with heap := h1, toks := tk } := by
  have hpl : ps.length ≤ N.length := by have := congrArg List.length S.pre; rw [List.length_take] at this; omega
  have noA : ∀ b : Addr, b ∉ (cxS P w K mg base N qual scope f cd cc A outer s H E).ex := fun b z => absurd (show b ∈ ([] : List Addr) from z) (by simp)
  have hcc : base.get? cc = some oc := e0.mod.kin _ _ hc
  have hcs := e0.bs _ _ hcc
  refine ⟨⟨e0.mod, S.kind, rfl, rfl, Nat.le_refl _, fun y z c h1 h2 => ?_, fun y hy => ?_, fun y c hf h => ?_, fun _ => hd, Around.frames_deeper e0.frames, .inr ⟨rfl, rfl⟩, fun b z => absurd z (noA b), e0.bs, e0.bsz, fun b _ _ => noA b, fun b z => absurd z (noA b), e0.funs, e0.frf⟩,
    rfl, e0.bare, Un.kept hk, ⟨_, hn, fun i y v h1 h2 h3 => ?_⟩, fun y c h => ?_, e0.hok.fresh (Nat.le_refl _), fun y c h => ?_, fun p hp => absurd (show p ∈ ([] : List (Addr × Obj)) from hp) (by simp), e0.hok.kept hk, ?_⟩
  · exact (lookup_one h1).1.trans (lookup_one h2).1.symm
  · have hy : scope.names.lookup y = some .cell ∨ scope.names.lookup y = some .free := hy
    rcases hy with hy | hy
    · exact absurd rfl (S.nocell _ (PySem.mem_of_lookup hy))
    · have e := S.free _ (PySem.mem_of_lookup hy) rfl
      have e : y = "__class__" := e
      subst e
      exact ⟨cc, by first | rfl | (show List.lookup _ [_] = _; simp [List.lookup])⟩
  · have e := (lookup_one h).1
    subst e
    have hf : (!(("__class__" : Str) == ("__class__" : Str))) = true := hf
    simp at hf
  · have hi : i < vs.length := by
      unfold L2.start at h2
      by_cases hi : i < vs.length
      · exact hi
      · rw [List.getElem?_append_right (by simpa using hi), List.getElem?_replicate] at h2
        split at h2 <;> cases h2
    have ha : vs[i]? = some v := by
      unfold L2.start at h2
      rw [List.getElem?_append_left (by simpa using hi), List.getElem?_map] at h2
      cases e : vs[i]? with
      | none => rw [e] at h2; cases h2
      | some a => rw [e] at h2; cases h2; rfl
    obtain ⟨u, hu, rv⟩ := r.get ha
    have hp : ps[i]? = some y := by
      rw [← S.pre, List.getElem?_take_of_lt (by omega)]; exact h1
    have ndP : ps.Nodup := by rw [← S.pre]; exact S.nd.sublist (List.take_sublist _ _)
    exact ⟨u, rv, .inl ⟨S.par y (List.mem_of_getElem? hp), zip_rev ndP hp hu⟩⟩
  · obtain ⟨_, e⟩ := lookup_one h
    subst e
    exact ⟨v0, oc, hk _ _ hcs.1, hcd⟩
  · obtain ⟨_, e⟩ := lookup_one h
    subst e
    exact hcs.2
  · unfold L2.start
    show _ = N.length
    rw [List.length_append, List.length_map, List.length_replicate]
    omega
/-- THE RULE for such a def -/
theorem fn_super {P : Program} {w : World} {K : PySem.W.Frag} {mg : Str → Option Value} {base : Heap} {k : Nat} {f cc : Addr} {name qual : Str} {params : Arguments} {body : List Stmt} {scope : Scope} {dV kV doc pm cdv ct oc : Value} {an od : Option Addr} {ocl : Obj} {v0 : Option Value}
    {osl : Array (Option Value)} {N ps : List Str} {sp : Sp} (lk : K.lookup f = some ⟨oc, od, .func (PySem.W.ksFn name qual params body scope dV kV doc pm an cdv ct cc), osl⟩) (hcd : PySem.W.codeIn K cdv qual = true) (hc : K.lookup cc = some ocl) (hcl : ocl.data = .cell v0)
    (S : SScope N ps scope) (len : ∀ vs H Q E, sp vs H Q E → vs.length = ps.length)
    (hbody : ∀ (A : Around) (outer : List Env) (s : Shared) (H : Hp) (vs : List V) (Q : VK) (E : XK), Room k (A.deeper (PySem.W.ksEnv qual scope s.heap.objs.size f cdv cc)) → sp vs H Q E →
      ∃ t, PSsA (cxS P w K mg base N qual scope f cdv cc A outer s H E) body body t ∧ t { nx := fun _ H' => Q .non H', rt := Q } (L2.start N vs) H) :
    FnOk P w K mg base (L2.CX P w) (k + 1) f (PySem.W.ksFn name qual params body scope dV kV doc pm an cdv ct cc) ps sp := by
  refine ⟨len, fun A outer s H args us vs Q E hr e0 hb r hsp => ?_⟩
  have hl := len _ _ _ _ hsp
  have KX : K.In s.heap := e0.mod.kin.keeps fun b o e => (e0.bs b o e).1
  have lim : s.heap.NoLimit := e0.mod.nolimit.keeps fun b o e => (e0.bs b o e).1
  refine ks_codeAny_call_defAt (body := body) hr.depth (KX _ _ lk) rfl lim (PySem.W.codeRec_of KX hcd) rfl hb S.nocell (fun y hy => S.par y.1 (List.of_mem_zip hy).1) (fun h0 hn hk => ?_) S.co S.gen S.kind
  obtain ⟨t, ht, hq⟩ := hbody A outer s H vs Q E (hr.deeper _) hsp
  have I : Inv (cxS P w K mg base N qual scope f cdv cc A outer s H E) [] (L2.start N vs) H { s with heap := h0, toks := s.toks + (ps.zip us).length } := inv_startS S hr.hd e0 hl r hc hcl hn hk
  refine ks_wpAt_mono (ht.run [] _ (L2.start N vs) H _ I hq) (fun fl s' hs => ?_) fun e s' hs => hs
  have fin : ∀ {σ' : L2.St} {H' : Hp} {v : V} {u : Value}, Inv (cxS P w K mg base N qual scope f cdv cc A outer s H E) [] σ' H' s' → RelV v u → Q v H' → CE outer P w H s Q u s' :=
    fun {σ' H' v u} J rv q => ⟨v, H', J.os, J.bare, J.base, J.hok, rv, q⟩
  match fl, hs with
  | .ret u, ⟨v, σ', H', J, rv, q⟩ => exact fin J rv q
  | .next, ⟨σ', H', J, q⟩ => exact fin (v := V.non) (u := Value.none) J rfl q
  | .brk, ⟨_, _, _, q⟩ => exact False.elim q
  | .cont, ⟨_, _, _, q⟩ => exact False.elim q
end Sr
namespace Sr
open PySem PySem.Spec PyProof.Rows L2
/-! ### what is told of the top: propositions of the written part, and the defs -/
structure Pk where
  p : PySem.W.Frag → Prop
  d : ∀ K, Decidable (p K)
def Pk.b (q : Pk) (K : PySem.W.Frag) : Bool := @decide (q.p K) (q.d K)
structure Dd where
  at_ : PySem.W.Frag → Addr
  own : Option Str
  name : Str
  qual : Str
  params : Arguments
  body : List Stmt
  scope : Scope
  dfl : List He.Dv := []
  kwd : List (Str × He.Dv) := []
abbrev Dw : Type := Option (Str × Str × Arguments × FuncBody × Scope × Addr × Addr)
def dw (K : PySem.W.Frag) (f : Addr) : Dw := match K.lookup f with
  | some ⟨_, _, .func fd, _⟩ => some (fd.name, fd.qualname, fd.params, fd.body, fd.scope, fd.globals, fd.builtins)
  | _ => none
def Dd.val (d : Dd) : Dw := some (d.name, d.qual, d.params, .stmts d.body, d.scope, mainGlobals, builtinsNs)
def cellB (K : PySem.W.Frag) (c D : Addr) : Bool := match K.lookup c with
  | some ⟨_, _, .cell (some (.ref e)), _⟩ => e == D
  | _ => false
theorem cellB_ok {K : PySem.W.Frag} {c D : Addr} (h : cellB K c D = true) : ∃ o, K.lookup c = some o ∧ o.data = .cell (some (.ref D)) := by
  unfold cellB at h
  split at h
  · rename_i a b e f q
    rw [beq_iff_eq] at h
    subst h
    exact ⟨_, q, rfl⟩
  · cases h
def fileB (K : PySem.W.Frag) (file : Str) (cd : Value) : Bool := match cd with
  | .ref c => (match K.lookup c with
    | some ⟨_, _, .fields vs, _⟩ => (match (show Option Value from vs[2]?) with
      | some (.str x _) => file == x
      | _ => false)
    | _ => false)
  | _ => false
theorem fileB_ok {K : PySem.W.Frag} {file : Str} {cd : Value} (h : fileB K file cd = true) : ∃ (cc : Addr) (oc : Obj) (vs : Array Value) (x : Str) (tf : Tok), cd = .ref cc ∧ K.lookup cc = some oc ∧ oc.data = .fields vs ∧ vs[2]? = some (.str x tf) ∧ (file == x) = true := by
  unfold fileB at h
  split at h
  · rename_i c
    split at h
    · rename_i a b vs sl q
      split at h
      · rename_i x t q2
        exact ⟨c, _, vs, x, t, rfl, q, rfl, q2, h⟩
      · cases h
    · cases h
  · cases h
def cloB (K : PySem.W.Frag) (file : Str) (own : Option Str) (cl : List (Str × Addr)) (cd : Value) : Bool := match own, cl with
  | none, [] => true
  | some c, [(n, cc)] => decide (n = "__class__") && (cellB K cc (He.ga K c) && fileB K file cd)
  | _, _ => false
def Dd.ok (K : PySem.W.Frag) (file : Str) (d : Dd) : Bool := PySem.W.keepIn K (.ref (d.at_ K)) && (match K.lookup (d.at_ K) with
  | some ⟨_, _, .func fd, _⟩ => PySem.W.codeIn K fd.code d.qual && (He.dflB K fd.defaults (d.dfl.map (He.Dv.v K)) && (He.kwdB K fd.kwdefaults (d.kwd.map fun q => (q.1, q.2.v K)) && cloB K file d.own fd.closure fd.code))
  | _ => false)
/-- a def as it stands -/
structure DdAt (K : PySem.W.Frag) (file : Str) (d : Dd) : Prop where
  ex : ∃ (oc : Value) (od : Option Addr) (dV kV doc pm : Value) (an : Option Addr) (cdv ct : Value) (osl : Array (Option Value)) (cl : List (Str × Addr)),
    K.lookup (d.at_ K) = some ⟨oc, od, .func (PySem.W.fnX d.name d.qual d.params d.body d.scope cl dV kV doc pm an cdv ct), osl⟩ ∧ PySem.W.codeIn K cdv d.qual = true ∧ DflV K dV (d.dfl.map (He.Dv.v K)) ∧ KwdV K kV (d.kwd.map fun q => (q.1, q.2.v K)) ∧ cloB K file d.own cl cdv = true
  kp : PySem.W.keepIn K (.ref (d.at_ K)) = true
theorem dd_of {K : PySem.W.Frag} {file : Str} {d : Dd} (e : dw K (d.at_ K) = d.val) (c : d.ok K file = true) : DdAt K file d := by
  obtain ⟨kp, c2⟩ := He.ba c
  unfold dw at e
  cases q : K.lookup (d.at_ K) with
  | none => rw [q] at c2; cases c2
  | some o =>
    obtain ⟨oc, od, dt, osl⟩ := o
    rw [q] at c2 e
    cases dt with
    | func fd =>
      obtain ⟨n1, n2, n3, n4, n5, n6, n7, n8, n9, n10, n11, n12, n13, n14, n15⟩ := fd
      have e2 : (some (n1, n2, n3, n4, n5, n6, n15) : Dw) = some (d.name, d.qual, d.params, .stmts d.body, d.scope, mainGlobals, builtinsNs) := e
      simp only [Option.some.injEq, Prod.mk.injEq] at e2
      obtain ⟨h1, h2, h3, h4, h5, h6, h8⟩ := e2
      subst h1 h2 h3 h4 h5 h6 h8
      obtain ⟨k1, k2⟩ := He.ba c2
      obtain ⟨k3, k4⟩ := He.ba k2
      obtain ⟨k5, k6⟩ := He.ba k4
      exact ⟨⟨oc, od, n8, n9, n10, n11, n12, n13, n14, osl, n7, q, k1, He.dflB_ok k3, He.kwdB_ok k5, k6⟩, kp⟩
    | _ => cases c2
theorem DdAt.funD {K : PySem.W.Frag} {file : Str} {d : Dd} (h : DdAt K file d) (ho : d.own = none) : ∃ fd, FunD K d.name d.qual d.params d.body d.scope (d.dfl.map (He.Dv.v K)) (d.kwd.map fun q => (q.1, q.2.v K)) (d.at_ K) fd := by
  obtain ⟨oc, od, dV, kV, doc, pm, an, cdv, ct, osl, cl, l, c, h1, h2, h3⟩ := h.ex
  rw [ho] at h3
  cases cl with
  | nil => exact ⟨_, ⟨oc, od, dV, kV, doc, pm, an, cdv, ct, osl, rfl, l, c, h1, h2⟩, h.kp⟩
  | cons a b => cases h3
/-! ### the Hook -/
abbrev AlU : Type := Bool × List Dw
def asU (g : Addr → Option Obj) (n : Nat) : List Addr := He.asD g n ++ [cStatics]
def frU (g : Addr → Option Obj) (n : Nat) : PySem.W.Frag := He.frG g (asU g n)
def obsK (pk : List Pk) (ds : List Dd) (file : Str) (K : PySem.W.Frag) : AlU := (pk.all (fun q => q.b K) && ds.all (fun d => d.ok K file), ds.map fun d => dw K (d.at_ K))
def valU (ds : List Dd) : AlU := (true, ds.map Dd.val)
def SaysU (pk : List Pk) (ds : List Dd) (file : Str) (K : PySem.W.Frag) : Prop := obsK pk ds file K = valU ds
def obsU (n : Nat) (pk : List Pk) (ds : List Dd) (file : Str) (g : Addr → Option Obj) : AlU := obsK pk ds file (frU g n)
def hookU (n : Nat) (pk : List Pk) (ds : List Dd) (file : Str) : PySem.W.Hook where
  α := AlU
  obs := fun s => obsU n pk ds file s.heap.get?
  val := fun _ => valU ds
  says := fun _ h => ∃ K : PySem.W.Frag, K.In h ∧ SaysU pk ds file K
  of := fun _ _ e => ⟨_, He.frG_in, e⟩
  keeps := fun _ _ _ ⟨K, hK, c⟩ k => ⟨K, PySem.W.Frag.In.keeps hK k, c⟩
theorem obsU_eq {n : Nat} {pk : List Pk} {ds : List Dd} {file : Str} {g : Addr → Option Obj} {s : Shared} (h : ∀ a, g a = s.heap.get? a) : obsU n pk ds file g = (hookU n pk ds file).obs s := by
  have e : g = s.heap.get? := funext h
  rw [e] <;> rfl
section
variable {pk : List Pk} {ds : List Dd} {file : Str} {K : PySem.W.Frag}
theorem SaysU.prop (c : SaysU pk ds file K) : ∀ q ∈ pk, q.p K := fun q hq => by
  have c1 := (He.ba (show (pk.all (fun q => q.b K) && ds.all (fun d => d.ok K file)) = true from congrArg (fun z : AlU => z.1) c)).1
  exact @of_decide_eq_true _ (q.d K) (List.all_eq_true.mp c1 q hq)
theorem SaysU.defs (c : SaysU pk ds file K) : ∀ d ∈ ds, DdAt K file d := fun d hd => by
  have c2 := (He.ba (show (pk.all (fun q => q.b K) && ds.all (fun d => d.ok K file)) = true from congrArg (fun z : AlU => z.1) c)).2
  have e : ds.map (fun d => dw K (d.at_ K)) = ds.map Dd.val := congrArg (fun z : AlU => z.2) c
  obtain ⟨i, hi, ei⟩ := List.mem_iff_getElem.mp hd
  have e2 : (ds.map fun d => dw K (d.at_ K))[i]? = (ds.map Dd.val)[i]? := by rw [e]
  rw [List.getElem?_map, List.getElem?_map, List.getElem?_eq_getElem hi, ei] at e2
  exact dd_of (Option.some.inj e2) (List.all_eq_true.mp c2 d hd)
end
/-! ### exceptions' classes -/
def oexB (K : PySem.W.Frag) (C : Addr) : Bool := match K.lookup C with
  | some ⟨.type "type", _, .cls cd, sl⟩ => (match cd.mro, sl.toList with
    | .ref c :: bm, [_, _, _, _, some (.builtin n), _] => c == C && (n == "ValueError.__new__" && (!cd.hasDel && (cd.hasDict && HandSPX.refsVE bm)))
    | _, _ => false)
  | _ => false
theorem oexB_ok {K : PySem.W.Frag} {C : Addr} (h : oexB K C = true) : ∃ nm q N bs bm sn sub ab col dd k0 k1 k2 k3 k5, K.lookup C = some (excClassObj nm q C N bs bm true sn sub ab col dd k0 k1 k2 k3 k5 "ValueError.__new__") ∧ HandSPX.refsVE bm = true := by
  unfold oexB at h
  split at h
  · rename_i dd cd sl ho
    split at h
    · rename_i c bm k0 k1 k2 k3 n k5 hm hs
      simp only [Bool.and_eq_true, beq_iff_eq, Bool.not_eq_true'] at h
      obtain ⟨rfl, rfl, h1, h2, h3⟩ := h
      obtain ⟨nm, bs, mro, ns, qn, hd, sn, sub, ab, col, del⟩ := cd
      dsimp only at hm h1 h2
      subst hm h1 h2
      obtain ⟨l⟩ := sl
      simp only at hs
      subst hs
      exact ⟨nm, qn, ns, bs, bm, sn, sub, ab, col, dd, k0, k1, k2, k3, k5, ho, h3⟩
    · cases h
  · cases h
end Sr
namespace Sr
open PySem PySem.Spec PyProof.Rows L2
/-- where the class x of the module stands -/
abbrev cA (K : PySem.W.Frag) (x : Str) : Addr := He.ga K x
abbrev mA (K : PySem.W.Frag) (x m : Str) : Addr := He.ma K (He.ga K x) m
/-- the __init__ of the class x -/
abbrev dInit (x q : Str) (st : Stmt) : Dd := ⟨fun K => mA K x "__init__", some x, "__init__", q, defArgs st, defBody st, defScope st, [], []⟩
/-- what is told of an exception class with fields -/
structure ErT (K : PySem.W.Frag) (mg : Str → Option Value) (file x q : Str) (st : Stmt) : Prop where
  g : mg x = some (.ref (cA K x))
  o : OexC K (cA K x)
  i : PySem.W.findIn K (.ref (cA K x)) "__init__" = some (some (.ref (mA K x "__init__")))
  t : PySem.W.typeIn K (.ref (mA K x "__init__")) = some (.type "function")
  d : DdAt K file (dInit x q st)
  s1 : PySem.W.mroIn K (cA K x) (.ref (cA K x)) = some true
  s2 : PySem.W.subIn K (.ref (cA K x)) (.type "ValueError") = some true
  s3 : PySem.W.ks_superIn K (cA K x) (cA K x) "__init__" = some (some (.builtin "ValueError.__init__"))
  c : ∃ cd, PySem.W.clsIn K (cA K x) = some cd
  y : PySem.W.nsIn K cStatics "thirdparty.any" = some none
  m : mg "super" = none
/-- its promise: the fields fs, by the arguments -/
def spEr (C : Addr) (fs : List Str) : Sp := fun vs H Q _ => ∃ (a : Addr) (ws : List V), vs = .ref a :: ws ∧ ws.length = fs.length ∧ H a = some (exo a C none) ∧
  ∀ (d : Addr) (H' : Hp), H d = none → d ≠ a → H' a = some (exo a C (some d)) → H' d = some (exd d (fs.zip ws).reverse) → (∀ b, b ≠ a → b ≠ d → H' b = H b) → Q .non H'
structure Er (P : Program) (w : World) (K : PySem.W.Frag) (mg : Str → Option Value) (base : Heap) (x : Str) (fs : List Str) : Prop where
  g : mg x = some (.ref (cA K x))
  o : OexC K (cA K x)
  i : ∃ f, PySem.W.findIn K (.ref (cA K x)) "__init__" = some (some (.ref f)) ∧ PySem.W.typeIn K (.ref f) = some (.type "function") ∧ ∃ fd ps, FnOk P w K mg base (L2.CX P w) 1 f fd ps (spEr (cA K x) fs) ∧ Binds K fd ps []
section
variable {P : Program} {w : World} {K : PySem.W.Frag} {mg : Str → Option Value} {base : Heap} {file x q : Str} {st : Stmt} {fs : List Str} {N ps : List Str}
theorem er_mk (T : ErT K mg file x q st) (hf : ((P.main.file : Str)) = file) (htop : (P.main.scope.names.lookup ("super" : Str)).isSome = false) (S : SScope N ps (defScope st)) (hps : ps.length = fs.length + 1)
    (har : ∃ ar : Arg, ((defArgs st).posonlyargs ++ (defArgs st).args).head? = some ar ∧ ar.arg = "self") (k1 : (defScope st).names.lookup ("super" : Str) = some .globalImplicit) (k2 : (defScope st).names.lookup ("__class__" : Str) = some .free)
    (hb : ∀ (dV kV doc pm : Value) (an : Option Addr) (cdv ct : Value) (cc : Addr) (us : List Value), dV = .none → us.length = ps.length → bindArgs (PySem.W.ksFn "__init__" q (defArgs st) (defBody st) (defScope st) dV kV doc pm an cdv ct cc) ⟨us, []⟩ = pure (ps.zip us))
    (hbody : ∀ (f cc : Addr) (cdv : Value) (A : Around) (outer : List Env) (s : Shared) (H : Hp) (vs : List V) (Q : VK) (E : XK), SupX (cxS P w K mg base N q (defScope st) f cdv cc A outer s H E) (cA K x) "self" → spEr (cA K x) fs vs H Q E →
      ∃ t, PSsA (cxS P w K mg base N q (defScope st) f cdv cc A outer s H E) (defBody st) (defBody st) t ∧ t { nx := fun _ H' => Q .non H', rt := Q } (L2.start N vs) H) : Er P w K mg base x fs := by
  obtain ⟨oc, od, dV, kV, doc, pm, an, cdv, ct, osl, cl, l, c, h1, h2, h3⟩ := T.d.ex
  have hcl : ∃ cc, cl = [(("__class__" : Str), cc)] ∧ cellB K cc (cA K x) = true ∧ fileB K file cdv = true := by
    match cl, h3 with
    | [(n, cc)], h3 =>
      obtain ⟨z1, z2⟩ := He.ba (show (decide (n = "__class__") && (cellB K cc (He.ga K x) && fileB K file cdv)) = true from h3)
      obtain ⟨z3, z4⟩ := He.ba z2
      exact ⟨cc, by rw [of_decide_eq_true z1], z3, z4⟩
  obtain ⟨cc, rfl, hc1, hc2⟩ := hcl
  obtain ⟨oc2, lc, dc⟩ := cellB_ok hc1
  obtain ⟨ar, ha1, ha2⟩ := har
  have hdV : dV = .none := by
    rcases h1 with ⟨_, e⟩ | ⟨e, _⟩
    · exact e
    · exact absurd rfl e
  refine ⟨T.g, T.o, _, T.i, T.t, PySem.W.ksFn "__init__" q (defArgs st) (defBody st) (defScope st) dV kV doc pm an cdv ct cc, ps, fn_super l c lc dc S (fun vs H Q E h => ?_) (fun A outer s H vs Q E hr h => hbody _ cc cdv A outer s H vs Q E ?_ h), .all fun us hl => hb _ _ _ _ _ _ _ _ us hdV hl⟩
  · obtain ⟨a, ws, rfl, hl, _⟩ := h
    rw [List.length_cons, hl, hps]
  · refine ⟨⟨_, oc, od, _, osl, ar, rfl, l, ha1, ha2⟩, ?_, ⟨cc, oc2, by first | rfl | (show List.lookup _ [_] = _; simp [List.lookup]), lc, dc⟩, T.c, k1, k2, htop, T.m, T.y⟩
    obtain ⟨c3, oc3, vs3, x3, tf, e1, e2, e3, e4, e5⟩ := fileB_ok hc2
    exact ⟨c3, oc3, vs3, x3, tf, e1, e2, e3, e4, by rw [← e5, ← hf] <;> rfl⟩
end
/-- the arguments, read with less -/
theorem pa_mono {X : Cx} {es : List Expr} {ta : TA} (ha : PA X es ta) : PA X es (fun σ H Q => ∃ Q0, ta σ H Q0 ∧ ∀ vs H1, Q0 vs H1 → Q vs H1) :=
  ⟨fun pos pins s σ H Q I h => by
    obtain ⟨Q0, h0, hm⟩ := h
    exact thn (ha.run pos pins s σ H Q0 I h0) fun us s1 ⟨vs, H1, I1, r1, q⟩ => ⟨vs, H1, I1, r1, hm vs H1 q⟩⟩
/-- X(e, ..) to be raised -/
def tEr (C : Addr) (fs : List Str) (t : TA) : L2.St → Hp → XK → Prop := fun σ H Q => t σ H fun vs H1 => vs.length = fs.length ∧ ∀ d, H1 d = none → Q (.ref C) (some d) (upd H1 d (.xd (fs.zip vs).reverse))
theorem pmk_er {X : Cx} {x : Str} {fs : List Str} {j : Nat} {p pos : Pos} {e : Expr} {es : List Expr} {ta : TA} (T : Er X.prog X.w X.K X.mg X.base x fs) (hr : Room j X.A) (hj : 2 ≤ j) (hfs : fs.length ≤ 900) (hg : Gl X x) (ha : PA X (e :: es) ta)
    (hdb : (x == ("__debug__" : Str)) = false := by decide) (he : starEach (e :: es) X.env = (false, eval e X.env) :: starEach es X.env := by rfl) (hpl : (backTo pos (starEach es X.env)).any (·.1) = false := by rfl) :
    PMk X (.Call (.Name x p) (e :: es) [] pos) (tEr (cA X.K x) fs ta) := by
  obtain ⟨f, i1, i2, fd, ps, F, hb⟩ := T.i
  intro pins s σ H Q I h
  refine pmk_oex (k := 1) T.o i1 i2 F (hr.mono hj) hb .nil passL hg T.g (pa_mono ha) hdb he hpl pins s σ H Q I ⟨_, h, ?_⟩
  show ∀ vs H1, (vs.length = fs.length ∧ ∀ d, H1 d = none → Q (.ref (cA X.K x)) (some d) (upd H1 d (.xd (fs.zip vs).reverse))) →
      (vs.length ≤ 1000 ∧ ∀ a, H1 a = none → spEr (cA X.K x) fs (.ref a :: (vs ++ [])) (upd H1 a (exo a (cA X.K x) none))
        (fun v H2 => v = .non ∧ ∃ (d : Addr) (fs : List (Str × V)), H2 a = some (exo a (cA X.K x) (some d)) ∧ H2 d = some (exd d fs) ∧ H1 d = none ∧ Q (.ref (cA X.K x)) (some d) (upd (del H2 a) d (.xd fs))) (fun _ _ _ => False))
  · rintro vs H1 ⟨hl, q⟩
    refine ⟨by omega, fun a na => ⟨a, vs, by rw [List.append_nil], hl, upd_same, fun d H' nd hda ea ed hk => ⟨rfl, d, _, ea, ed, ?_, ?_⟩⟩⟩
    · rw [upd_ne hda] at nd; exact nd
    · have nd' : H1 d = none := by rw [upd_ne hda] at nd; exact nd
      have e : upd (del H' a) d (.xd (fs.zip vs).reverse) = upd H1 d (.xd (fs.zip vs).reverse) := by
        funext b
        by_cases z : b = d
        · rw [z, upd_same, upd_same]
        · rw [upd_ne z, upd_ne z]
          by_cases z2 : b = a
          · rw [z2, del_same, na]
          · rw [del_ne z2, hk b z2 z, upd_ne z2]
      rw [e]
      exact q d nd'
end Sr
namespace Sr
open PySem PySem.Spec PyProof.Rows L2
/-! ### a class whose __init__ is a def -/
def spMkC (C : Addr) (sp : Sp) : Sp := fun vs H Q E => ∀ x dx, H x = none → H dx = none → dx ≠ x → sp (.ref x :: vs) (upd (upd H dx (.own x)) x (.ins C dx [])) (fun v H2 => v = .non ∧ Q (.ref x) H2) E
theorem callOk_mk {P : Program} {w : World} {K : PySem.W.Frag} {mg : Str → Option Value} {base : Heap} {k : Nat} {C f : Addr} {sp : Sp} (M : Mk K C f) (F : FnR P w K mg base (L2.CX P w) k f sp) : CallOk P w K mg base (k + 1) C (spMkC C sp) := by
  intro X pins σ H s Q W us vs e1 e2 e3 e4 e5 hr tk I r h
  subst e1 e2 e3 e4 e5
  have hq := h (s.heap.objs.size + 1) s.heap.objs.size (I.hok.fresh (Nat.le_succ _)) (I.hok.fresh (Nat.le_refl _)) (Nat.ne_of_lt (Nat.lt_succ_self _))
  have J := Inv.made (C := C) I
  have r2 : Vals (V.ref (s.heap.objs.size + 1) :: vs) (Value.ref (s.heap.objs.size + 1) :: us) := .cons rfl r
  refine wpAny_call (make_map (f := f) I.kIn M.makes M.init (beq_iff_eq.mp M.fn) (codeAny_mono (F _ X.stack _ _ (Value.ref (s.heap.objs.size + 1) :: us) _ _ _ (hr.make C us []) (J.env0.make C us []) r2 hq) fun res s' hz => ?_))
  match res, hz with
  | .error e, hz => exact passAt tk σ pins _ _ e s' J hz
  | .ok (.ret u), hz =>
    obtain ⟨v, H', J3, rv, ev, q3⟩ := J.after hz
    subst ev
    exact ⟨rv, ⟨V.ref (s.heap.objs.size + 1), H', J3, rfl, q3⟩⟩
/-! ### an exception as a value -/
theorem exd_frz {e : Addr} {fs : List (Str × V)} {o : Obj} {u : HO} : exd e fs ≠ .frz o u := fun z => by
  have z' : HO.ext _ = HO.frz o u := z
  cases z'
/-- X(e, ..) as a value -/
def spExV (C : Addr) (fs : List Str) : Sp := fun vs H Q _ => vs.length = fs.length ∧ ∀ a d, H a = none → H d = none → d ≠ a → Q (.ref a) (upd (upd H d (exd d (fs.zip vs).reverse)) a (exo a C (some d)))
theorem callOk_er {P : Program} {w : World} {K : PySem.W.Frag} {mg : Str → Option Value} {base : Heap} {x : Str} {fs : List Str} (T : Er P w K mg base x fs) (hfs : fs.length ≤ 900) : CallOk P w K mg base 2 (cA K x) (spExV (cA K x) fs) := by
  obtain ⟨f, i1, i2, fd, ps, F, hb⟩ := T.i
  intro X pins σ H s Q W us vs e1 e2 e3 e4 e5 hr tk I r h
  subst e1 e2 e3 e4 e5
  obtain ⟨nm, q, N, bs, bm, sn, sub, ab, col, dd, k0, k1, k2, k3, k5, hC, hbm⟩ := T.o.cls
  obtain ⟨hl, qv⟩ := h
  obtain ⟨hp, g, dr, tk', os⟩ := s
  have hsz : hp.objs.size ≤ hp.objs.size + 1 := Nat.le_succ _
  have hn : H (hp.objs.size + 1) = none := I.hok.fresh hsz
  have kk : ∀ b o, hp.get? b = some o → ((hp.push (PySem.W.kdv_tup us)).push (PySem.HandSPX.excO (cA X.K x) hp.objs.size)).get? b = some o := fun b o e => Heap.get?_push_of_some _ (Heap.get?_push_of_some _ e)
  have hget : ((hp.push (PySem.W.kdv_tup us)).push (PySem.HandSPX.excO (cA X.K x) hp.objs.size)).get? (hp.objs.size + 1) = some (PySem.HandSPX.excO (cA X.K x) hp.objs.size) := by heap_get
  have J : Inv X pins σ (upd H (hp.objs.size + 1) (exo (hp.objs.size + 1) (cA X.K x) none)) ⟨(hp.push (PySem.W.kdv_tup us)).push (PySem.HandSPX.excO (cA X.K x) hp.objs.size), g, dr, tk', os⟩ :=
    I.laid (t' := tk') (a := hp.objs.size + 1) (o := exo (hp.objs.size + 1) (cA X.K x) none) (h' := (hp.push (PySem.W.kdv_tup us)).push (PySem.HandSPX.excO (cA X.K x) hp.objs.size)) kk hsz (exo_ok hget)
  have r2 : Vals (V.ref (hp.objs.size + 1) :: vs) (Value.ref (hp.objs.size + 1) :: us) := .cons rfl r
  have hus : us.length ≤ sizeLine := by
    rw [← Paired.length r, sizeLine_eq]
    omega
  have sp1 : spEr (cA X.K x) fs (.ref (hp.objs.size + 1) :: vs) (upd H (hp.objs.size + 1) (exo (hp.objs.size + 1) (cA X.K x) none)) (fun v H2 => v = .non ∧ ∃ d, d ≠ hp.objs.size + 1 ∧ H d = none ∧ H2 = upd (upd H d (exd d (fs.zip vs).reverse)) (hp.objs.size + 1) (exo (hp.objs.size + 1) (cA X.K x) (some d))) (fun _ _ _ => False) := by
    refine ⟨_, vs, rfl, hl, upd_same, fun d H' nd hda ea ed hk => ⟨rfl, d, hda, ?_, ?_⟩⟩
    · rw [upd_ne hda] at nd
      exact nd
    · funext b
      by_cases z : b = hp.objs.size + 1
      · rw [z, upd_same, ea]
      · rw [upd_ne z]
        by_cases z2 : b = d
        · rw [z2, upd_same, ed]
        · rw [upd_ne z2, hk b z z2, upd_ne z]
  have hlp := F.len _ _ _ _ sp1
  have hlu : (Value.ref (hp.objs.size + 1) :: us ++ []).length = ps.length := by
    rw [List.append_nil, ← Paired.length r2]
    exact hlp
  refine wpAny_call (PySem.HandSPX.call_own PySem.F.excBase_ValueError (fun Y => PySem.HandSPX.refsVE_contains Y bm hbm) (I.kIn _ _ hC) (PySem.W.looks_findIn I.kIn i1) (fun self => PySem.W.bind_fn I.kIn self i2) hus
    (codeAny_mono (F.run _ X.stack _ _ ⟨Value.ref (hp.objs.size + 1) :: us, []⟩ (Value.ref (hp.objs.size + 1) :: us) _ _ (fun _ _ _ => False) (hr.make (cA X.K x) us []) (J.env0.make (cA X.K x) us []) (by have z := hb _ (Value.ref (hp.objs.size + 1) :: us) J.kIn hlu; rwa [List.append_nil] at z) r2 sp1) fun res s' hz => ?_))
  match res, hz with
  | .error e, hz => exact passAt (W := fun _ _ _ _ => False) (Takes.imp tk fun _ _ _ _ z => z.elim) σ pins _ _ e s' J hz
  | .ok (.ret u), hz =>
    obtain ⟨v, H', J3, rv, ev, d, hda, hd, eH⟩ := J.after hz
    subst ev
    refine ⟨rv, ⟨V.ref (hp.objs.size + 1), H', J3, rfl, ?_⟩⟩
    rw [eH]
    exact qv _ d hn hd hda
/-- a class without an own __init__, called with nothing -/
def spEx0 (C : Addr) : Sp := fun vs H Q _ => vs = [] ∧ ∀ a, H a = none → Q (.ref a) (upd H a (exo a C none))
theorem callOk_er0 {P : Program} {w : World} {K : PySem.W.Frag} {mg : Str → Option Value} {base : Heap} {C : Addr} (q : PySem.W.excIn K C He.veBase "ValueError.__new__" = true) : CallOk P w K mg base 1 C (spEx0 C) := by
  intro X pins σ H s Q W us vs e1 e2 e3 e4 e5 hr tk I r h
  subst e1 e2 e3 e4 e5
  obtain ⟨rfl, k⟩ := h
  cases r
  obtain ⟨bm, N, nm, qn, bs, hdct, sn, sub, ab, col, dd, k0, k1, k2, k3, k5, mN, hC, hN, hni, T⟩ := exc_obj I.kIn q
  refine wpAny_call_exc_subT PySem.F.excBase_ValueError T hC hN hni (fun h' a hm => ?_) (by show 0 ≤ sizeLine; exact Nat.zero_le _)
  have hn : H a = none := I.hok.gone hm.new
  obtain ⟨t, ht, _, _⟩ := hm.there
  exact ⟨.ref a, upd H a (exo a C none), I.laidN hm.keeps hm.new hn (exo_ok ht), rfl, k a hn⟩
end Sr
namespace Sr
open PySem PySem.Spec PyProof.Rows L2
/-! ### try with several clauses, with names or without -/
abbrev SuT : Type := Addr → Value → Option Addr → TS
/-- a clause: its class, the slot of its name, its suite -/
abbrev ClT : Type := Value × Option Nat × SuT
def cutE (D : Ends) : Option Nat → Ends
  | none => D
  | some i => { nx := fun τ G => D.nx (τ.set i none) G, rt := D.rt, bk := fun τ G => D.bk (τ.set i none) G, ct := fun τ G => D.ct (τ.set i none) G }
def putN (a : Addr) (σ : L2.St) : Option Nat → L2.St
  | none => σ
  | some i => σ.set i (some (.ref a))
def wCl (K : PySem.W.Frag) (Wout : WX) (D : Ends) : List ClT → WX
  | [] => Wout
  | q :: r => fun cls d σ H => ∃ b, PySem.W.exmOne K cls q.1 = some b ∧ (b = true → ∀ a, H a = none → q.2.2 a cls d (cutE D q.2.1) (putN a σ q.2.1) H) ∧ (b = false → wCl K Wout D r cls d σ H)
inductive ClsOk (X : Cx) : List ExceptHandler → List ClT → Prop
  | nil : ClsOk X [] []
  | cons {x : Str} {c : Value} {nn : Option Str} {oi : Option Nat} {ts : SuT} {b₀ : Stmt} {su : List Stmt} {np pos' : Pos} {hds : List ExceptHandler} {l : List ClT} (hc : Names X x c) (hn : match nn, oi with | none, none => True | some n, some i => X.N[i]? = some n ∧ X.env.kindOf n = some .local | _, _ => False)
      (hsu : ∀ (a : Addr) (oe : Obj) (cls : Value) (d : Option Addr) (pn : List (Addr × Obj)), Zc cls d oe → (∃ vs, oe.data = .fields vs) → PSs (X.suite a ((a, oe) :: pn)) (b₀ :: su) (ts a cls d)) (r : ClsOk X hds l) :
      ClsOk X (.ExceptHandler (some (.Name x np)) nn (b₀ :: su) pos' :: hds) ((c, oi, ts) :: l)
section
variable {X : Cx} {pins : List (Addr × Obj)} {σ : L2.St} {H : Hp} {D : Ends} {Wout : WX} {a : Addr} {B : Heap} {sI s0 : Shared} {h3 : Heap} {cls : Value} {d : Option Addr}
theorem notIn_fr {l : List Env} {h : Heap} {o : Obj} {vs : Array Value} (ff : h.FunFrames B l) (e : h.get? a = some o) (dd : o.data = .fields vs) : a ∉ frs l := fun hm => by
  obtain ⟨_, o', e', hnf⟩ := ff.mem hm
  rw [e] at e'
  cases e'
  exact hnf _ dd
/-- the clauses, the exception having landed -/
theorem cl_run (hs : X.stack = X.env :: X.outer) (hf : X.env.frame = some X.env.locals) (hN : X.N.Nodup) (tk : Takes X Wout) (J : Inv X pins σ H sI) (nb : ∀ b o, sI.heap.get? b = some o → b ∉ frs X.stack → B.get? b = some o)
    (up : sI.heap.UpToSlots h3) (os : s0.os = sI.os) (ag : AllBare s0.gens) (na : H a = none) (fl : HandSPX.FlyingZ B (X.env :: X.outer) a (Zc cls d) h3) {hds : List ExceptHandler} {l : List ClT} (hk : ClsOk X hds l) :
    wCl X.K Wout D l cls d σ H → wpAny (model X.prog X.w) X.A (handleBy (.ref a) X.env hds) (SP X pins D) X.xe { s0 with heap := h3 } := by
  have ok := J.ok
  have J3 : Inv X pins σ H { s0 with heap := h3 } := J.landed nb fl.1 up os ag
  obtain ⟨o3, v3, g3, z3, y3⟩ := fl.there
  have n0 := notIn_fr fl.2.2.1 g3 y3
  have nL : a ≠ X.env.locals := fun z => n0 (List.mem_filterMap.mpr ⟨X.env, List.mem_cons_self, by rw [hf, z]⟩)
  have nF : a ∉ X.fs := fun hm => by
    obtain ⟨e, he, q⟩ := List.mem_filterMap.mp hm
    exact n0 (List.mem_filterMap.mpr ⟨e, List.mem_cons_of_mem _ he, q⟩)
  have S3 := J3.suite g3 y3 na nL nF
  induction hk with
  | nil =>
    intro w
    refine wpAny_handleBy_nil ?_
    obtain ⟨k1, k2, k3, o, v, T, oT, t2, he, hz, hd, h1, hr⟩ := id fl
    unfold PySem.passOn
    refine wpAny_bind (wpAny_field he hd h1 ?_)
    rw [if_neg (show ¬ ((Value.ref T == Value.none) = true) from by simp)]
    have fin : wpAny (model X.prog X.w) X.A (setFlight (.ref a) X.env.frame) (fun _ s4 => wpAny (model X.prog X.w) X.A (throw (.ref a) : Sem Flow) (SP X pins D) X.xe s4) X.xe { s0 with heap := h3 } := by
      rw [hf]
      refine HandSPX.setFlight_upZ fl fun h4 q4 u4 => wpAny_throw (tk _ _ ?_)
      exact ⟨a, B, sI, pins, σ, H, cls, d, rfl, J, nb, up.trans u4, .inr (.inr (by rw [hs]; exact q4)), na, os, ag, w⟩
    first
      | exact wpAny_bind (wpAny_pure (wpAny_bind fin))
      | exact wpAny_bind fin
  | @cons x c nn oi ts b₀ su np pos' hds2 l2 hc hn hsu r ih =>
    intro w
    obtain ⟨b, w1, yes, no⟩ := w
    refine wpAny_handleBy_cons (codeAny_handlers_test ?_) (by intro q; cases q)
    have LT : PySem.W.Looks (model X.prog X.w) h3 (typeOf (.ref a)) cls := fun A Q E s k q => wpAny_typeOf_ref (k _ _ g3) (by rw [z3.1]; exact q)
    have LM := PySem.W.exm_one (M := model X.prog X.w) (J3.kIn) LT w1
    have test : ∀ {Q : Value → Shared → Prop} {E : Value → Shared → Prop}, Q c { s0 with heap := h3 } → wpAny (model X.prog X.w) (X.A.mark (some (.ref a))) (eval (.Name x np) X.env) Q E { s0 with heap := h3 } := fun {Q E} q => by
      obtain ⟨hg, hdbg, hm | ⟨hm, hv, hnn⟩⟩ := hc
      · exact ld_glob (X := X.suite a ((a, o3) :: (X.pn ++ pins))) S3 hg hm q hdbg
      · exact ld_blt (X := X.suite a ((a, o3) :: (X.pn ++ pins))) S3 hg hm hv q hnn hdbg
    refine test (LM.here ?_)
    cases b with
    | false => exact ih (no rfl)
    | true =>
      have q0 := yes rfl a na
      match nn, oi, hn, q0 with
      | none, none, _, q0 =>
        refine codeAny_handlers_suite ?_
        refine HandSPX.lands_againZ fl fun h4 f4 u4 => ?_
        have J4 : Inv X pins σ H { s0 with heap := h4 } := J.landed nb f4.1 (up.trans u4) os ag
        obtain ⟨o4, v4, g4, z4, y4⟩ := f4.there
        refine wpAny_mono ((hsu a o4 cls d (X.pn ++ pins) z4 ⟨_, y4⟩).run [] _ _ H _ (J4.suite g4 y4 na nL nF) q0) (fun f s6 hsp => ?_) (fun _ _ z => False.elim z)
        match f, hsp with
        | .next, ⟨σ6, H6, S6, q6⟩ => exact ⟨_, _, S6.unsuite ok, q6⟩
        | .brk, ⟨σ6, H6, S6, q6⟩ => exact ⟨_, _, S6.unsuite ok, q6⟩
        | .cont, ⟨σ6, H6, S6, q6⟩ => exact ⟨_, _, S6.unsuite ok, q6⟩
        | .ret u, ⟨v6, σ6, H6, S6, r6, q6⟩ => exact ⟨_, _, _, S6.unsuite ok, r6, q6⟩
      | some n, some i, ⟨hi, hln⟩, q0 =>
        refine codeAny_handlers_suite_as ?_
        refine HandSPX.lands_againZ fl fun h4 f4 u4 => ?_
        have J4 : Inv X pins σ H { s0 with heap := h4 } := J.landed nb f4.1 (up.trans u4) os ag
        obtain ⟨o4, v4, g4, z4, y4⟩ := f4.there
        refine store_ok (X := X.suite a ((a, o4) :: (X.pn ++ pins))) (v := .ref a) (J4.suite g4 y4 na nL nF) hN hi (.inl hln) rfl (fun s5 S5 => ?_) (.inr hln)
        refine wpAny_mono ((hsu a o4 cls d (X.pn ++ pins) z4 ⟨_, y4⟩).run [] s5 _ H _ S5 q0) (fun f s6 hsp => ?_) (fun _ _ z => False.elim z)
        have fin : ∀ {τ : L2.St} {G : Hp} {Q : Shared → Prop}, Inv (X.suite a ((a, o4) :: (X.pn ++ pins))) [] τ G s6 → (∀ s7, Inv X pins (τ.set i none) G s7 → Q s7) →
            wpAny (model X.prog X.w) X.A (do bindName X.env n .none; unbindBehindTheSuite X.env n pos') (fun _ s7 => Q s7) X.xe s6 := fun {τ G Q} S6 hq => gone_ok (S6.unsuite ok) hN hi hln hq
        match f, hsp with
        | .next, ⟨σ6, H6, S6, q6⟩ => exact fin S6 fun s7 J7 => ⟨_, _, J7, q6⟩
        | .brk, ⟨σ6, H6, S6, q6⟩ => exact fin S6 fun s7 J7 => ⟨_, _, J7, q6⟩
        | .cont, ⟨σ6, H6, S6, q6⟩ => exact fin S6 fun s7 J7 => ⟨_, _, J7, q6⟩
        | .ret u, ⟨v6, σ6, H6, S6, r6, q6⟩ => exact fin S6 fun s7 J7 => ⟨_, _, _, J7, r6, q6⟩
end
theorem ps_tryN {X : Cx} {body : List Stmt} {h₀ : ExceptHandler} {hds : List ExceptHandler} {l : List ClT} {pos : Pos} {tb : WX → TS} {Wout : WX} (hs : X.stack = X.env :: X.outer) (hf : X.env.frame = some X.env.locals) (hN : X.N.Nodup) (tk : Takes X Wout)
    (hb : ∀ (W : WX) (pn : List (Addr × Obj)) (xe : Value → Shared → Prop), Takes (X.tr pn xe) W → PassesOwn (model X.prog X.w) X.A X.env xe → PSs (X.tr pn xe) body (tb W))
    (hh : ClsOk X (h₀ :: hds) l) : PS X (.Try body (h₀ :: hds) [] [] pos) (fun D σ H => tb (wCl X.K Wout D l) D σ H) := by
  refine ⟨fun pins s σ H D I h => ?_⟩
  have ok := I.ok
  have hfr : X.A.frames = some (X.env :: X.outer) := by rw [ok.frames, hs]
  refine wpAny_Try_except ?_
  refine wpAny_mono ((hb (wCl X.K Wout D l) (X.pn ++ pins) (fun e s₁ => wpAny (model X.prog X.w) X.A (noteFrame e X.env) (fun _ s₂ => wpAny (model X.prog X.w) X.A (setFlight e none) (fun _ s₃ =>
    wpAny (model X.prog X.w) X.A (handleBy e X.env (h₀ :: hds)) (SP X pins D) X.xe s₃) X.xe s₂) X.xe s₁) (fun u s' xx => ?_) PassesOwn.looking).run [] s σ H D (I.toTry _) h) (fun f s1 hsp => ?_) (fun e s1 he => he)
  · obtain ⟨a, B, sI, pins', τ, G, cls, d, rfl, J', nb, up, sky, na, os, ag, w⟩ := xx
    have sky' : Sky B (X.env :: X.outer) a (Zc cls d) X.env.locals s'.heap := by rw [← hs]; exact sky
    show wpAny (model X.prog X.w) X.A (noteFrame (.ref a) X.env) _ _ _
    refine Sky.land Zc.steady hfr hf sky' fun h3 f3 u3 => ?_
    exact cl_run (s0 := s') hs hf hN tk (J'.ofTry ok) nb (up.trans u3) os ag na f3 hh w
  · match f, hsp with
    | .next, ⟨τ, G, J, q⟩ => exact wpAny_execs_nil ⟨τ, G, J.ofTry ok, q⟩
    | .brk, ⟨τ, G, J, q⟩ => exact ⟨τ, G, J.ofTry ok, q⟩
    | .cont, ⟨τ, G, J, q⟩ => exact ⟨τ, G, J.ofTry ok, q⟩
    | .ret u, ⟨v, τ, G, J, r, q⟩ => exact ⟨v, τ, G, J.ofTry ok, r, q⟩
end Sr
namespace PySem.W
open PySem PySem.Spec PySem.Calls PyProof.Rows
section
variable {prog : Program} {w : World} {A : Around} {E : Value → Shared → Prop} {s : Shared} {K : Frag} {x D : Addr} {ox : Obj} {od : Option Obj}
theorem sr_findObj {name : Str} {a g : Value} (hc : (clsIn K D).isSome = true) (ha : findIn K (.ref D) name = some (some a)) (hg : specialIn K a "__get__" = some (some g)) (ht : takesIn K a = some true) : findObj K D od name = some (.bind g a) := by
  obtain ⟨cd, hc⟩ := Option.isSome_iff_exists.mp hc
  unfold findObj
  simp [hc, ha, hg, ht]
theorem sr_class {Q : Option Value → Shared → Prop} (c : L2.ExcC K D) (X : K.In s.heap) (I : InstAt s.heap x ox D od) (h : Q (some (.ref D)) { s with toks := s.toks + 1 }) : wpAny (model prog w) A (getAttr? (.ref x) "__class__") Q E s := by
  have hf : findObj K D od "__class__" = some (.bind (.builtin "getset_descriptor.__get__") (.builtin "object.__class__")) := sr_findObj (by obtain ⟨cd, hc, _⟩ := any_some c.hd; rw [hc]; rfl) c.ha c.hn c.ht
  obtain ⟨hp, g, d, t, os⟩ := s
  have A0 := I.type (M := model prog w)
  have A1 := looks_findIn (M := model prog w) X c.hg
  have A2 := looks_findIn (M := model prog w) X c.hk
  have A3 := looks_find (M := model prog w) X I hf
  have sub : Looks (model prog w) hp (isInstance (.ref x) (.type "BaseException")) true := A0.andThen (looks_subIn X c.hs)
  have e0 : (false && onTheHeap (Value.builtin "BaseException.__getattribute__")) = false := rfl
  have e1 : (onTheHeap (Value.ref D) && Value.builtin "BaseException.__getattribute__" == Value.builtin "object.__getattribute__") = false := by
    have e2 : (Value.builtin "BaseException.__getattribute__" == Value.builtin "object.__getattribute__") = false := by decide +kernel
    rw [e2]
    rfl
  unfold getAttr? getAttrBy? getAttrBy
  refine wpAny_bind (wpAny_mkText (wpAny_bind (wpAny_attempt (wpAny_holding (wpAny_bind (A0.at (wpAny_bind (A1.at ?_))))))))
  show wpAny _ _ (if (onTheHeap (Value.ref D) && Value.builtin "BaseException.__getattribute__" == Value.builtin "object.__getattribute__") = true then _ else _) _ _ _
  rw [e1, if_neg Bool.false_ne_true]
  unfold getAttrByItsOwn hookBefore
  refine wpAny_bind ?_
  rw [if_pos (show onTheHeap (Value.ref D) = true from rfl)]
  refine A2.at (wpAny_bind (wpAny_attempt (wpAny_holding ?_)))
  unfold callGetattribute
  rw [e0, if_neg Bool.false_ne_true]
  unfold boundAndCalled
  rw [PySem.F.excAttr_ValueError.ga.bind (.ref x)]
  refine wpAny_bind (wpAny_pure ?_)
  show wpAny _ _ (call (.builtin "BaseException.__getattribute__") [.ref x, .str "__class__" t]) _ _ _
  refine wpAny_call (codeAny_call_builtin PySem.F.excAttr_ValueError.ga.plain PySem.F.entry_bexc_ga ?_)
  refine @check_slot (model prog w) _ _ ⟨hp, g, d, t + 1, os⟩ "BaseException.__getattribute__" "BaseException" "__getattribute__" (.ref x) [.str "__class__" t] [] _ (by decide +kernel) (by decide +kernel) sub (PySem.F.args_bexc_ga (.ref x) (.str "__class__" t)) ?_
  unfold Builtin.«object.__getattribute__»
  refine wpAny_bind (wpAny_of_eq (a := ((Value.ref x : Value), [Value.str "__class__" t])) (by first | rfl | (simp only [slotArgs]; rfl)) ?_)
  refine wpAny_bind (wpAny_pure (wpAny_bind (A0.at (wpAny_bind (A3.at ?_)))))
  show wpAny _ _ (holding [Value.builtin "object.__class__"] (call (.builtin "getset_descriptor.__get__") [.builtin "object.__class__", .ref x, .ref D]) >>= ret) _ _ _
  refine wpAny_bind (wpAny_holding (wpAny_call (class_get (s := ⟨hp, g, d, t + 1, os⟩) (ox := ox) (od := od) X I c.hm ?_)))
  refine wpAny_pure ?_
  show wpAny _ _ (handedOut (.ref D)) _ _ _
  rw [handedOut_of (v := .ref D) rfl]
  first
    | exact wpAny_pure (wpAny_pure h)
    | exact wpAny_pure h
    | exact wpAny_pure (wpAny_bind (wpAny_pure (wpAny_pure h)))
theorem sr_kitx (c : L2.ExcC K D) : KitX K (.ref x) (.ref D) (fun h => InstAt h x ox D od) where
  ty := fun _ _ _ I => I.type
  it := fun M h X _ => by
    obtain ⟨cdD, hcD, _⟩ := any_some c.hd
    unfold clsIn at hcD
    split at hcD
    · rename_i c' d' cd' sl' ho
      intro A' Q' E' s' k q
      unfold isType loadHead
      exact wpAny_bind (wpAny_loadPart (k _ _ (X _ _ ho)) (wpAny_pure q))
    · cases hcD
  ne := (handS_kitx_exc (x := x) (ox := ox) c.hg c.hk c.hs c.hd c.ha c.hn c.ht c.hm).ne
  ca := fun X I k => sr_class c X I k
end
end PySem.W
namespace Sr
open PySem PySem.Spec PyProof.Rows L2
/-! ### isinstance of exceptions, their fields -/
def rIsT (K : PySem.W.Frag) : List V → Hp → VK → Prop := fun xs H Q => ∃ (a D : Addr) (c : V) (cv : Value) (b : Bool), xs = [.ref a, c] ∧ ExcC K D ∧ (H a = some (exo a D none) ∨ ∃ (d : Addr) (fs : List (Str × V)), H a = some (exo a D (some d)) ∧ H d = some (exd d fs)) ∧
  (∀ u, RelV c u → u = cv) ∧ PySem.W.kitOne K (.ref D) cv = some b ∧ Q (.bl b) H
theorem call_isT {X : Cx} : CallR X (.builtin "isinstance") (rIsT X.K) := by
  intro pins s σ H xs us Q I r h
  obtain ⟨a, D, c, cv, b, rfl, C, ha, hcv, e, q⟩ := h
  match us, r with
  | [_, u], .cons rx (.cons rt .nil) =>
    cases rx
    have ec := hcv _ rt
    subst ec
    rcases ha with ha | ⟨d, fs, ha, hd⟩
    · obtain ⟨t1, g⟩ := exo_at I.hok ha
      exact PySem.W.kia_one (PySem.W.sr_kitx C) I.kIn (⟨g, rfl, rfl, trivial⟩ : PySem.W.InstAt s.heap a _ D none) e (fun z => nomatch z) fun tk => ⟨.bl b, H, I.kept (t' := tk) fun _ _ z => z, rfl, q⟩
    · obtain ⟨t1, g⟩ := exo_at I.hok ha
      obtain ⟨mA, ⟨o, es, ep, hn, _⟩, _⟩ := exd_at I.hok hd
      exact PySem.W.kia_one (PySem.W.sr_kitx C) I.kIn (⟨g, rfl, rfl, hn⟩ : PySem.W.InstAt s.heap a _ D (some o)) e (fun z => nomatch z) fun tk => ⟨.bl b, H, I.kept (t' := tk) fun _ _ z => z, rfl, q⟩
/-- the caught one -/
def rIsP (K : PySem.W.Frag) (a : Addr) (cls : Value) (d : Option Addr) : List V → Hp → VK → Prop := fun xs H Q => ∃ (D : Addr) (c : V) (cv : Value) (b : Bool), xs = [.ref a, c] ∧ cls = .ref D ∧ ExcC K D ∧ (d = none ∨ ∃ (dd : Addr) (fs : List (Str × V)), d = some dd ∧ H dd = some (.xd fs)) ∧
  (∀ u, RelV c u → u = cv) ∧ PySem.W.kitOne K (.ref D) cv = some b ∧ Q (.bl b) H
theorem call_isP {X : Cx} {a : Addr} {oe : Obj} {cls : Value} {d : Option Addr} {pn : List (Addr × Obj)} (hz : Zc cls d oe) (hf : ∃ vs, oe.data = .fields vs) : CallR (X.suite a ((a, oe) :: pn)) (.builtin "isinstance") (rIsP X.K a cls d) := by
  intro pins s σ H xs us Q I r h
  obtain ⟨D, c, cv, b, rfl, rfl, C, hd, hcv, e, q⟩ := h
  match us, r with
  | [_, u], .cons rx (.cons rt .nil) =>
    cases rx
    have ec := hcv _ rt
    subst ec
    obtain ⟨hget, _⟩ := I.pin (a, oe) (List.mem_append.mpr (.inl List.mem_cons_self))
    obtain ⟨vs, hv⟩ := hf
    have nc : PySem.W.notCls oe = true := by unfold PySem.W.notCls; rw [hv] <;> rfl
    rcases hd with rfl | ⟨dd, fs, rfl, hd⟩
    · exact PySem.W.kia_one (PySem.W.sr_kitx C) I.kIn (⟨hget, hz.1, nc, by rw [hz.2]; trivial⟩ : PySem.W.InstAt s.heap a oe D none) e (fun z => nomatch z) fun tk => ⟨.bl b, H, I.kept (t' := tk) fun _ _ z => z, rfl, q⟩
    · have hx : ObjOk X.prog X.w H s.heap dd (.xd fs) := I.hok dd _ hd
      obtain ⟨mA, hns, hr⟩ := hx
      obtain ⟨od, ho, hl⟩ := lookIn_ns hns
      exact PySem.W.kia_one (PySem.W.sr_kitx C) I.kIn (⟨hget, hz.1, nc, by rw [hz.2]; exact ho⟩ : PySem.W.InstAt s.heap a oe D (some od)) e (fun z => nomatch z) fun tk => ⟨.bl b, H, I.kept (t' := tk) fun _ _ z => z, rfl, q⟩
/-- e.f of an exception as a value -/
def tXt (K : PySem.W.Frag) (f : Str) (te : TE) : TE := fun σ H Q => te σ H fun x H1 => ∃ (a D d : Addr) (fs : List (Str × V)) (v : V), x = .ref a ∧ XfC K D ∧ PySem.W.findIn K (.ref D) f = some none ∧ H1 a = some (exo a D (some d)) ∧ H1 d = some (exd d fs) ∧ fs.lookup f = some v ∧ Q v H1
theorem pe_xt {X : Cx} {e : Expr} {te : TE} {pos : Pos} {n : Str} (he : PE X e te) (hb : attributeBase e n X.env (eval e X.env) = eval e X.env := by rfl) : PE X (.Attribute e n pos) (tXt X.K n te) := by
  refine ⟨fun pins s σ H Q I h => ?_⟩
  refine attr_of hb (thn (he.run pins s σ H _ I h) fun u s1 hh => ?_)
  obtain ⟨x, H1, I1, rx, a, D, d, fs, v, ex, T, hno, ea, ed, l, q⟩ := hh
  subst ex
  obtain rfl : u = Value.ref a := rx
  obtain ⟨t1, g⟩ := exo_at I1.hok ea
  obtain ⟨mA, hns, hr⟩ := exd_at I1.hok ed
  obtain ⟨od, ho, hl⟩ := lookIn_ns hns
  obtain ⟨u, hu, ru⟩ := RelO.some_of (v := v) (o := mA n) (by rw [← l]; exact hr n)
  have J : PySem.W.InstAt s1.heap a _ D (some od) := ⟨g, rfl, rfl, ho⟩
  exact HandSPX.exc_get I1.kIn J T.ga T.gg T.exC (PySem.W.findObj_own T.hdC hno rfl (by rw [hl, hu])) (handed_of ru) ⟨v, H1, I1.tok _, ru, q⟩
end Sr
namespace PySem.W
open PySem PySem.Spec PySem.Calls PyProof.Rows
section
variable {prog : Program} {w : World} {A : Around} {E : Value → Shared → Prop} {s : Shared} {K : Frag} {a C f : Addr} {ox : Obj} {od : Option Obj}
theorem sr_contains {x : Value} {Q : Bool → Shared → Prop} (X : K.In s.heap) (I : InstAt s.heap a ox C od) (hf : findIn K (.ref C) "__contains__" = some (some (.ref f))) (tf : typeIn K (.ref f) = some (.type "function"))
    (h : wpAny (model prog w) A (call (.ref f) [.ref a, x]) (fun v s' => wpAny (model prog w) A (truthy v) Q E s') E s) : wpAny (model prog w) A (contains (.ref a) x) Q E s := by
  have S1 : Looks (model prog w) s.heap (specialOf (.ref a) "__contains__") (some (.ref f)) := I.type.andThen (looks_findIn X hf)
  have S2 := bind_fn (M := model prog w) X (self := .ref a) tf
  unfold contains
  refine wpAny_holding ?_
  have e0 : stdlibNamesSay? (.ref a) x = none := rfl
  rw [e0]
  dsimp only
  refine wpAny_bind (S1.at ?_)
  rw [if_neg (show ¬ ((some (Value.ref f) == some Value.none) = true) from by simp)]
  unfold callSpecialUnlessNone?
  refine wpAny_bind (wpAny_bind (S1.at (wpAny_holding (wpAny_bind (S2.at ?_)))))
  dsimp only
  rw [if_neg (show ¬ ((Value.ref f == Value.none) = true) from by simp)]
  exact wpAny_bind (wpAny_mono h (fun v s' hv => wpAny_pure hv) fun _ _ z => z)
end
end PySem.W
namespace Sr
open PySem PySem.Spec PyProof.Rows L2
/-- a comprehension without tests -/
theorem tYes_of {σ : L2.St} {H : Hp} {A B : Hp → Prop} (h : A H) : tYes σ H fun b H3 => if b = true then A H3 else B H3 := by
  show if true = true then A H else B H
  rw [if_pos rfl]
  exact h
/-- for over a list or a tuple -/
def iLT (K : PySem.W.Frag) (tl : TE) : TI := fun σ H R => tl σ H fun x H1 => ∃ a, x = .ref a ∧ (((∃ xs, SqL K H1 a xs) ∧ R (Itl K a) H1) ∨ ((∃ xs, SqT K H1 a xs) ∧ R (Itt K a) H1))
theorem pi_lt {X : Cx} {tg l : Expr} {tl : TE} (hl : PE X l tl) : PI X tg l (iLT X.K tl) := by
  refine ⟨fun pins s σ H R I h => thn (hl.run pins s σ H _ I h) fun v s1 hz => ?_⟩
  obtain ⟨x, G, J, r, a, e, q⟩ := hz
  subst e
  cases r
  have nw : ∀ b ∈ [s1.heap.objs.size], FpOk X pins G b := fun b hb => by
    rw [List.mem_singleton.mp hb]
    exact J.fpOk (Nat.le_refl _) (J.hok.fresh (Nat.le_refl _))
  rcases q with ⟨⟨xs, hq⟩, q⟩ | ⟨⟨xs, hq⟩, q⟩
  · obtain ⟨its, _, pp, _⟩ := J.list hq
    exact wpAny_pyIter_list pp.isList ⟨s1.heap.objs.size, [s1.heap.objs.size], _, _, G, rfl, J.kept (t' := s1.toks) fun b o z => Heap.get?_push_of_some _ z, turn_list a _, ⟨_, Heap.get?_push_size _ rfl, rfl, rfl⟩, nw, q⟩
  · obtain ⟨its, _, pp, _⟩ := J.tuple hq
    exact wpAny_pyIter_tuple (show s1.heap.IsTuple a its.toArray from pp) ⟨s1.heap.objs.size, [s1.heap.objs.size], _, _, G, rfl, J.kept (t' := s1.toks) fun b o z => Heap.get?_push_of_some _ z, turn_tuple a _, ⟨_, Heap.get?_push_size _ rfl, rfl, rfl⟩, nw, q⟩
/-- the class C answers in by its def at f -/
structure HasIn (K : PySem.W.Frag) (C f : Addr) : Prop where
  at_ : PySem.W.findIn K (.ref C) "__contains__" = some (some (.ref f))
  ty : PySem.W.typeIn K (.ref f) = some (.type "function")
/-- x in o, x not in o: o with slots, of the class C, answers by its own def -/
def rInC (C : Addr) (sp : Sp) (W : WX) (σ : L2.St) (n : Bool) : R2 := fun x y H Q => ∃ (a dx : Addr) (vs : List (Option V)), y = .ref a ∧ SlX.Slt H a C dx vs ∧ sp [.ref a, x] H (fun v H2 => ∃ b, v = .bl b ∧ Q (.bl (b != n)) H2) (fun cls d H2 => W cls d σ H2)
theorem in_run {X : Cx} {W : WX} {pins : List (Addr × Obj)} {σ : L2.St} {H : Hp} {s : Shared} {C f : Addr} {sp : Sp} {k : Nat} {x y : V} {u v : Value} {n : Bool} {Q : VK} (c : HasIn X.K C f) (F : CallOk X.prog X.w X.K X.mg X.base k f sp) (hr : Room k X.A) (tk : Takes X W)
    (I : Inv X pins σ H s) (rx : RelV x u) (ry : RelV y v) (h : rInC C sp W σ n x y H Q) : wpAny (model X.prog X.w) X.A (contains v u) (fun b s' => EP X pins σ Q (.bool (b != n)) s') X.xe s := by
  obtain ⟨a, dx, vs, rfl, hs, q⟩ := h
  obtain rfl : v = Value.ref a := ry
  obtain ⟨sl, od, r, J, _⟩ := SlX.slt_inst I hs
  refine PySem.W.sr_contains I.kIn J c.at_ c.ty (thn (F X pins σ H s _ W [.ref a, u] [.ref a, x] rfl rfl rfl rfl rfl hr tk I (.cons rfl (.cons rx .nil)) q) fun w s' hw => ?_)
  obtain ⟨z, H2, I2, rz, b, ez, q2⟩ := hw
  subst ez
  obtain rfl : w = Value.bool b := rz
  exact wpAny_truthy_bool ⟨.bl (b != n), H2, I2, rfl, q2⟩
/-- a comparison by its rule, the locals known -/
def tOpS (r : L2.St → R2) (ta tb : TE) : TE := fun σ H Q => ta σ H fun x H1 => tb σ H1 fun y H2 => r σ x y H2 Q
theorem pc_inC {X : Cx} {W : WX} {a b : Expr} {ta tb : TE} {C f : Addr} {sp : Sp} {k j : Nat} (c : HasIn X.K C f) (F : CallOk X.prog X.w X.K X.mg X.base k f sp) (hr : Room j X.A) (hk : k ≤ j) (tk : Takes X W) (ha : PE X a ta) (hb : PE X b tb) : PC X .In a b (tOpS (fun σ => rInC C sp W σ false) ta tb) := by
  refine ⟨fun pins s σ H Q I h => ?_⟩
  refine bin ha hb I h fun v u s2 x y H2 I2 rx ry q => ?_
  unfold compareOp
  refine wpAny_bind (wpAny_mono (in_run c F (hr.mono hk) tk I2 rx ry q) (fun b s' hb => wpAny_pure ?_) fun _ _ z => z)
  rwa [Bool.bne_false] at hb
theorem pc_notInC {X : Cx} {W : WX} {a b : Expr} {ta tb : TE} {C f : Addr} {sp : Sp} {k j : Nat} (c : HasIn X.K C f) (F : CallOk X.prog X.w X.K X.mg X.base k f sp) (hr : Room j X.A) (hk : k ≤ j) (tk : Takes X W) (ha : PE X a ta) (hb : PE X b tb) : PC X .NotIn a b (tOpS (fun σ => rInC C sp W σ true) ta tb) := by
  refine ⟨fun pins s σ H Q I h => ?_⟩
  refine bin ha hb I h fun v u s2 x y H2 I2 rx ry q => ?_
  unfold compareOp
  refine wpAny_bind (wpAny_mono (in_run c F (hr.mono hk) tk I2 rx ry q) (fun b s' hb => wpAny_pure ?_) fun _ _ z => z)
  rwa [Bool.bne_true] at hb
end Sr
namespace Sr
open PySem PySem.Spec PyProof.Rows L2
/-! ### what is asked of the top -/
structure TxD where
  fs : List (PySem.W.Frag → Bool)
  ds : List Dd
def TxD.pk (D : TxD) : List Pk := [⟨fun K => D.fs.all (fun f => f K) = true, fun _ => inferInstance⟩]
structure Tx (D : TxD) (K : PySem.W.Frag) (mg : Str → Option Value) (file : Str) : Prop where
  ns : ∃ h : Heap, K.In h ∧ h.Ns mainGlobals mg
  all : D.fs.all (fun f => f K) = true
  ds : ∀ d ∈ D.ds, DdAt K file d
theorem tx_of {D : TxD} {K : PySem.W.Frag} {mg : Str → Option Value} {file : Str} {h : Heap} (X : K.In h) (G : h.Ns mainGlobals mg) (c : SaysU D.pk D.ds file K) : Tx D K mg file := ⟨⟨h, X, G⟩, c.prop _ (List.mem_singleton.mpr rfl), c.defs⟩
section
variable {D : TxD} {K : PySem.W.Frag} {mg : Str → Option Value} {file : Str}
theorem Tx.b (T : Tx D K mg file) (i : Nat) {f : PySem.W.Frag → Bool} (h : D.fs[i]? = some f := by rfl) : f K = true := List.all_eq_true.mp T.all f (List.mem_of_getElem? h)
theorem Tx.fa (T : Tx D K mg file) (i : Nat) {f : He.Fa} (h : D.fs[i]? = some (fun K => f.ok K) := by rfl) : f.ok K = true := T.b i h
theorem Tx.glo (T : Tx D K mg file) {x : Str} (c : (He.Fa.glo x).ok K = true) : mg x = some (.ref (He.ga K x)) := let ⟨_, X, G⟩ := T.ns; He.glo_ok X G c
theorem Tx.free (T : Tx D K mg file) {x : Str} (c : (He.Fa.free x).ok K = true) : mg x = none := let ⟨_, X, G⟩ := T.ns; He.free_ok X G c
theorem Tx.int (T : Tx D K mg file) {x : Str} {i : Int} (c : (He.Fa.int x i).ok K = true) : ∃ u, mg x = some u ∧ RelV (.int i) u := let ⟨_, X, G⟩ := T.ns; let ⟨t, e⟩ := He.int_ok X G c; ⟨_, e, t, rfl⟩
theorem Tx.str (T : Tx D K mg file) {x z : Str} (c : (He.Fa.str x z).ok K = true) : ∃ u, mg x = some u ∧ RelV (.str z) u := let ⟨_, X, G⟩ := T.ns; let ⟨t, e⟩ := He.str_ok X G c; ⟨_, e, t, rfl⟩
theorem Tx.dd (T : Tx D K mg file) (i : Nat) {d : Dd} (h : D.ds[i]? = some d := by rfl) : DdAt K file d := T.ds d (List.mem_of_getElem? h)
end
/-! ### exceptions -/
/-- the class x, its fields -/
def exB (K : PySem.W.Frag) (x : Str) (fs : List Str) : Bool :=
  oexB K (cA K x) && (decide (PySem.W.findIn K (.ref (cA K x)) "__setattr__" = some (some (.builtin "object.__setattr__"))) && (decide (PySem.W.subIn K (.ref (cA K x)) (.type "BaseException") = some true) && (decide (PySem.W.typeIn K (.ref (cA K x)) = some (.type "type")) &&
  (PySem.W.keepIn K (.ref (cA K x)) && (decide (PySem.W.findIn K (.ref (cA K x)) "__init__" = some (some (.ref (mA K x "__init__")))) && (decide (PySem.W.typeIn K (.ref (mA K x "__init__")) = some (.type "function")) && (decide (PySem.W.mroIn K (cA K x) (.ref (cA K x)) = some true) &&
  (decide (PySem.W.subIn K (.ref (cA K x)) (.type "ValueError") = some true) && (decide (PySem.W.ks_superIn K (cA K x) (cA K x) "__init__" = some (some (.builtin "ValueError.__init__"))) && ((PySem.W.clsIn K (cA K x)).isSome && (decide (PySem.W.nsIn K cStatics "thirdparty.any" = some none) &&
  fs.all fun f => decide (PySem.W.findIn K (.ref (cA K x)) f = some none))))))))))))
structure ExF (K : PySem.W.Frag) (x : Str) (fs : List Str) : Prop where
  o : OexC K (cA K x)
  i : PySem.W.findIn K (.ref (cA K x)) "__init__" = some (some (.ref (mA K x "__init__")))
  t : PySem.W.typeIn K (.ref (mA K x "__init__")) = some (.type "function")
  s1 : PySem.W.mroIn K (cA K x) (.ref (cA K x)) = some true
  s2 : PySem.W.subIn K (.ref (cA K x)) (.type "ValueError") = some true
  s3 : PySem.W.ks_superIn K (cA K x) (cA K x) "__init__" = some (some (.builtin "ValueError.__init__"))
  c : ∃ cd, PySem.W.clsIn K (cA K x) = some cd
  y : PySem.W.nsIn K cStatics "thirdparty.any" = some none
  n : ∀ f ∈ fs, PySem.W.findIn K (.ref (cA K x)) f = some none
theorem exB_ok {K : PySem.W.Frag} {x : Str} {fs : List Str} (h : exB K x fs = true) : ExF K x fs := by
  obtain ⟨h1, h⟩ := He.ba h
  obtain ⟨h2, h⟩ := He.ba h
  obtain ⟨h3, h⟩ := He.ba h
  obtain ⟨h4, h⟩ := He.ba h
  obtain ⟨h5, h⟩ := He.ba h
  obtain ⟨h6, h⟩ := He.ba h
  obtain ⟨h7, h⟩ := He.ba h
  obtain ⟨h8, h⟩ := He.ba h
  obtain ⟨h9, h⟩ := He.ba h
  obtain ⟨h10, h⟩ := He.ba h
  obtain ⟨h11, h⟩ := He.ba h
  obtain ⟨h12, h⟩ := He.ba h
  exact ⟨⟨oexB_ok h1, of_decide_eq_true h2, of_decide_eq_true h3, of_decide_eq_true h4, h5⟩, of_decide_eq_true h6, of_decide_eq_true h7, of_decide_eq_true h8, of_decide_eq_true h9, of_decide_eq_true h10, Option.isSome_iff_exists.mp h11, of_decide_eq_true h12, fun f hf => of_decide_eq_true (List.all_eq_true.mp h f hf)⟩
/-- isinstance and the reading of attributes -/
def exsB (K : PySem.W.Frag) (D : Addr) : Bool := xfB K D && (decide (PySem.W.findIn K (.ref D) "__class__" = some (some (.builtin "object.__class__"))) && (decide (PySem.W.specialIn K (.builtin "object.__class__") "__get__" = some (some (.builtin "getset_descriptor.__get__"))) &&
  (decide (PySem.W.takesIn K (.builtin "object.__class__") = some true) && decide (PySem.W.mroIn K D (.type "object") = some true))))
theorem exsB_ok {K : PySem.W.Frag} {D : Addr} (h : exsB K D = true) : XfC K D ∧ ExcC K D := by
  obtain ⟨h1, h⟩ := He.ba h
  obtain ⟨h2, h⟩ := He.ba h
  obtain ⟨h3, h⟩ := He.ba h
  obtain ⟨h4, h5⟩ := He.ba h
  have a := xfB_ok h1
  exact ⟨a, a.ga, a.gg, a.exC, a.hdC, of_decide_eq_true h2, of_decide_eq_true h3, of_decide_eq_true h4, of_decide_eq_true h5⟩
/-- which are which -/
def kiB (K : PySem.W.Frag) (xs : List Str) (base : Str) : Bool := xs.all fun x => xs.all (fun y => decide (PySem.W.kitOne K (.ref (cA K x)) (.ref (cA K y)) = some (decide (x = y)))) && (decide (PySem.W.kitOne K (.ref (cA K x)) (.ref (cA K base)) = some true) && decide (PySem.W.kitOne K (.ref (cA K x)) (.type "ValueError") = some true))
theorem kiB_ok {K : PySem.W.Frag} {xs : List Str} {base : Str} (h : kiB K xs base = true) {x : Str} (hx : x ∈ xs) : (∀ y ∈ xs, PySem.W.kitOne K (.ref (cA K x)) (.ref (cA K y)) = some (decide (x = y))) ∧ PySem.W.kitOne K (.ref (cA K x)) (.ref (cA K base)) = some true ∧ PySem.W.kitOne K (.ref (cA K x)) (.type "ValueError") = some true := by
  obtain ⟨h1, h2⟩ := He.ba (List.all_eq_true.mp h x hx)
  obtain ⟨h3, h4⟩ := He.ba h2
  exact ⟨fun y hy => of_decide_eq_true (List.all_eq_true.mp h1 y hy), of_decide_eq_true h3, of_decide_eq_true h4⟩
def exmB (K : PySem.W.Frag) (xs : List Str) (base : Str) : Bool := xs.all fun x => xs.all (fun y => decide (PySem.W.exmOne K (.ref (cA K x)) (.ref (cA K y)) = some (decide (x = y)))) && decide (PySem.W.exmOne K (.ref (cA K x)) (.ref (cA K base)) = some true)
theorem exmB_ok {K : PySem.W.Frag} {xs : List Str} {base : Str} (h : exmB K xs base = true) {x : Str} (hx : x ∈ xs) : (∀ y ∈ xs, PySem.W.exmOne K (.ref (cA K x)) (.ref (cA K y)) = some (decide (x = y))) ∧ PySem.W.exmOne K (.ref (cA K x)) (.ref (cA K base)) = some true := by
  obtain ⟨h1, h2⟩ := He.ba (List.all_eq_true.mp h x hx)
  exact ⟨fun y hy => of_decide_eq_true (List.all_eq_true.mp h1 y hy), of_decide_eq_true h2⟩
theorem ert_of {D : TxD} {K : PySem.W.Frag} {mg : Str → Option Value} {file x q : Str} {st : Stmt} {fs : List Str} (T : Tx D K mg file) (F : ExF K x fs) (g : mg x = some (.ref (cA K x))) (d : DdAt K file (dInit x q st)) (m : mg "super" = none) : ErT K mg file x q st :=
  ⟨g, F.o, F.i, F.t, d, F.s1, F.s2, F.s3, F.c, F.y, m⟩
/-! ### classes with slots -/
def slotB (K : PySem.W.Frag) (x f : Str) (i : Nat) : Bool := decide (PySem.W.findIn K (.ref (cA K x)) f = some (some (.ref (mA K x f)))) && (decide (PySem.W.specialIn K (.ref (mA K x f)) "__get__" = some (some (.builtin "member_descriptor.__get__"))) && (decide (PySem.W.takesIn K (.ref (mA K x f)) = some true) &&
  (decide (PySem.W.typeIn K (.ref (mA K x f)) = some (.type "member_descriptor")) && (decide (PySem.W.slotIn K (mA K x f) (cA K x) = some i) && decide (i < 1000)))))
theorem slotB_ok {K : PySem.W.Frag} {x f : Str} {i : Nat} (h : slotB K x f i = true) : SlX.Slot1 K (cA K x) f (mA K x f) i := by
  obtain ⟨h1, h⟩ := He.ba h
  obtain ⟨h2, h⟩ := He.ba h
  obtain ⟨h3, h⟩ := He.ba h
  obtain ⟨h4, h⟩ := He.ba h
  obtain ⟨h5, h6⟩ := He.ba h
  exact ⟨of_decide_eq_true h1, of_decide_eq_true h2, of_decide_eq_true h3, of_decide_eq_true h4, of_decide_eq_true h5, of_decide_eq_true h6⟩
def sclB (K : PySem.W.Frag) (x : Str) : Bool := PySem.W.plainGet K (cA K x) Str.empty && (PySem.W.isClsIn K (cA K x) && (PySem.W.plainOver K (cA K x) && decide (PySem.W.findIn K (.ref (cA K x)) "__setattr__" = some (some (.builtin "object.__setattr__")))))
theorem sclB_ok {K : PySem.W.Frag} {x : Str} (h : sclB K x = true) : SlX.SCls K (cA K x) := by
  obtain ⟨h1, h⟩ := He.ba h
  obtain ⟨h2, h⟩ := He.ba h
  obtain ⟨h3, h4⟩ := He.ba h
  exact ⟨h1, h2, h3, of_decide_eq_true h4⟩
def hasInB (K : PySem.W.Frag) (x : Str) : Bool := decide (PySem.W.findIn K (.ref (cA K x)) "__contains__" = some (some (.ref (mA K x "__contains__")))) && decide (PySem.W.typeIn K (.ref (mA K x "__contains__")) = some (.type "function"))
theorem hasInB_ok {K : PySem.W.Frag} {x : Str} (h : hasInB K x = true) : HasIn K (cA K x) (mA K x "__contains__") := by
  obtain ⟨h1, h2⟩ := He.ba h
  exact ⟨of_decide_eq_true h1, of_decide_eq_true h2⟩
/-! ### defs -/
abbrev dF (x : Str) (st : Stmt) (dfl : List He.Dv := []) (kwd : List (Str × He.Dv) := []) : Dd := ⟨fun K => cA K x, none, x, x, defArgs st, defBody st, defScope st, dfl, kwd⟩
/-- a method (q: its qualified name) -/
abbrev dM (x m q : Str) (st : Stmt) (dfl : List He.Dv := []) (kwd : List (Str × He.Dv) := []) : Dd := ⟨fun K => mA K x m, none, m, q, defArgs st, defBody st, defScope st, dfl, kwd⟩
theorem df_mk {P : Program} {w : World} {D : TxD} {K : PySem.W.Frag} {mg : Str → Option Value} {base : Heap} {file x : Str} {st : Stmt} {k : Nat} {sp : Sp} {ps : List Str} (T : Tx D K mg file) (d : DdAt K file (dF x st)) (g : mg x = some (.ref (cA K x)))
    (F : ∀ f fd, FunD K x x (defArgs st) (defBody st) (defScope st) [] [] f fd → FnOk P w K mg base (L2.CX P w) k f fd ps sp)
    (hb : ∀ (kV doc pm : Value) (an : Option Addr) (cdv ct : Value) (us : List Value), us.length = ps.length → bindArgs (PySem.W.fnOf x x (defArgs st) (defBody st) (defScope st) .none kV doc pm an cdv ct) ⟨us, []⟩ = pure (ps.zip us)) : Df P w K mg base k x sp := by
  obtain ⟨fd, F0⟩ := d.funD rfl
  have z := (F _ fd F0).raw (F0.bindsN hb) .nil
  refine ⟨cA K x, callOk_fn (z.imp fun vs H Q E h => ?_), g, d.kp⟩
  rw [List.append_nil]
  exact h
/-- a method's promise by all its arguments -/
theorem fnR_mk {P : Program} {w : World} {D : TxD} {K : PySem.W.Frag} {mg : Str → Option Value} {base : Heap} {file x m q : Str} {st : Stmt} {k : Nat} {sp : Sp} {ps : List Str} (T : Tx D K mg file) (d : DdAt K file (dM x m q st))
    (F : ∀ f fd, FunD K m q (defArgs st) (defBody st) (defScope st) [] [] f fd → FnOk P w K mg base (L2.CX P w) k f fd ps sp)
    (hb : ∀ (kV doc pm : Value) (an : Option Addr) (cdv ct : Value) (us : List Value), us.length = ps.length → bindArgs (PySem.W.fnOf m q (defArgs st) (defBody st) (defScope st) .none kV doc pm an cdv ct) ⟨us, []⟩ = pure (ps.zip us)) : FnR P w K mg base (L2.CX P w) k (mA K x m) sp := by
  obtain ⟨fd, F0⟩ := d.funD rfl
  have z := (F _ fd F0).raw (F0.bindsN hb) .nil
  refine z.imp fun vs H Q E h => ?_
  rw [List.append_nil]
  exact h
end Sr
namespace Sr
open PySem PySem.Spec PyProof.Rows L2
abbrev Pg : Program := PySem.Challenge.pw_stretchesread_k03_refused_stretches
abbrev fileP : Str := Pg.main.file
def top (i : Nat) : Stmt := PySem.Challenge.pw_stretchesread_k03_refused_stretches.main.body.getD i (.Pass ⟨0, 0, 0, 0⟩)
abbrev s_BadStretch_init : Stmt := inClass (top 3) 0
theorem ss_BadStretch_init : SScope ["self", "low", "high"] ["self", "low", "high"] (defScope s_BadStretch_init) := ⟨rfl, rfl, rfl, by decide +kernel, rfl, by decide +kernel, by decide +kernel, by decide +kernel⟩

abbrev s_BadText_init : Stmt := inClass (top 4) 0
theorem ss_BadText_init : SScope ["self", "text"] ["self", "text"] (defScope s_BadText_init) := ⟨rfl, rfl, rfl, by decide +kernel, rfl, by decide +kernel, by decide +kernel, by decide +kernel⟩

abbrev s_NoMember_init : Stmt := inClass (top 5) 0
theorem ss_NoMember_init : SScope ["self", "index"] ["self", "index"] (defScope s_NoMember_init) := ⟨rfl, rfl, rfl, by decide +kernel, rfl, by decide +kernel, by decide +kernel, by decide +kernel⟩

abbrev s_BadStep_init : Stmt := inClass (top 6) 0
theorem ss_BadStep_init : SScope ["self", "number"] ["self", "number"] (defScope s_BadStep_init) := ⟨rfl, rfl, rfl, by decide +kernel, rfl, by decide +kernel, by decide +kernel, by decide +kernel⟩

abbrev s_BadPace_init : Stmt := inClass (top 7) 0
theorem ss_BadPace_init : SScope ["self", "slowest", "fastest"] ["self", "slowest", "fastest"] (defScope s_BadPace_init) := ⟨rfl, rfl, rfl, by decide +kernel, rfl, by decide +kernel, by decide +kernel, by decide +kernel⟩

abbrev s_NoKey_init : Stmt := inClass (top 9) 0
theorem ss_NoKey_init : SScope ["self", "key"] ["self", "key"] (defScope s_NoKey_init) := ⟨rfl, rfl, rfl, by decide +kernel, rfl, by decide +kernel, by decide +kernel, by decide +kernel⟩

abbrev s_Impossible_init : Stmt := inClass (top 10) 0
theorem ss_Impossible_init : SScope ["self", "key", "value"] ["self", "key", "value"] (defScope s_Impossible_init) := ⟨rfl, rfl, rfl, by decide +kernel, rfl, by decide +kernel, by decide +kernel, by decide +kernel⟩

abbrev s_BadName_init : Stmt := inClass (top 11) 0
theorem ss_BadName_init : SScope ["self", "name"] ["self", "name"] (defScope s_BadName_init) := ⟨rfl, rfl, rfl, by decide +kernel, rfl, by decide +kernel, by decide +kernel, by decide +kernel⟩

abbrev s_UnknownName_init : Stmt := inClass (top 12) 0
theorem ss_UnknownName_init : SScope ["self", "name"] ["self", "name"] (defScope s_UnknownName_init) := ⟨rfl, rfl, rfl, by decide +kernel, rfl, by decide +kernel, by decide +kernel, by decide +kernel⟩

abbrev s_WrongRange_init : Stmt := inClass (top 13) 0
theorem ss_WrongRange_init : SScope ["self", "first", "last"] ["self", "first", "last"] (defScope s_WrongRange_init) := ⟨rfl, rfl, rfl, by decide +kernel, rfl, by decide +kernel, by decide +kernel, by decide +kernel⟩

abbrev s_TooMany_init : Stmt := inClass (top 14) 0
theorem ss_TooMany_init : SScope ["self", "limit"] ["self", "limit"] (defScope s_TooMany_init) := ⟨rfl, rfl, rfl, by decide +kernel, rfl, by decide +kernel, by decide +kernel, by decide +kernel⟩

abbrev s_NoAnswer_init : Stmt := inClass (top 15) 0
theorem ss_NoAnswer_init : SScope ["self", "name", "key"] ["self", "name", "key"] (defScope s_NoAnswer_init) := ⟨rfl, rfl, rfl, by decide +kernel, rfl, by decide +kernel, by decide +kernel, by decide +kernel⟩

abbrev s_NotServed_init : Stmt := inClass (top 16) 0
theorem ss_NotServed_init : SScope ["self", "wanted"] ["self", "wanted"] (defScope s_NotServed_init) := ⟨rfl, rfl, rfl, by decide +kernel, rfl, by decide +kernel, by decide +kernel, by decide +kernel⟩

abbrev s_Refused_init : Stmt := inClass (top 17) 0
theorem ss_Refused_init : SScope ["self", "name"] ["self", "name"] (defScope s_Refused_init) := ⟨rfl, rfl, rfl, by decide +kernel, rfl, by decide +kernel, by decide +kernel, by decide +kernel⟩

abbrev s_joined : Stmt := top 21
theorem sc_joined : FnScope ["rows", "result", "low", "high", "before"] ["rows"] (defScope s_joined) := ⟨rfl, rfl, rfl, by decide +kernel, rfl, by decide +kernel, by decide +kernel⟩
abbrev s_Stretches_init : Stmt := inClass (top 27) 2
theorem sc_Stretches_init : FnScope ["self", "pairs", "rows", "low", "high"] ["self", "pairs"] (defScope s_Stretches_init) := ⟨rfl, rfl, rfl, by decide +kernel, rfl, by decide +kernel, by decide +kernel⟩
abbrev s_Stretches_contains : Stmt := inClass (top 27) 7
theorem sc_Stretches_contains : FnScope ["self", "number", "low", "high"] ["self", "number"] (defScope s_Stretches_contains) := ⟨rfl, rfl, rfl, by decide +kernel, rfl, by decide +kernel, by decide +kernel⟩
abbrev s__law_draws : Stmt := top 29
theorem sc__law_draws : FnScope ["_law_script", "_law_draws_here", "_law_k", "_law_size", "_law_turn", "_law_mixed"] ["_law_script"] (defScope s__law_draws) := ⟨rfl, rfl, rfl, by decide +kernel, rfl, by decide +kernel, by decide +kernel⟩
abbrev s__law_next : Stmt := top 30
theorem sc__law_next : FnScope ["_law_draws_here", "_law_many"] ["_law_draws_here", "_law_many"] (defScope s__law_next) := ⟨rfl, rfl, rfl, by decide +kernel, rfl, by decide +kernel, by decide +kernel⟩
abbrev s__law_is_int : Stmt := top 31
theorem sc__law_is_int : FnScope ["_law_value"] ["_law_value"] (defScope s__law_is_int) := ⟨rfl, rfl, rfl, by decide +kernel, rfl, by decide +kernel, by decide +kernel⟩
abbrev s__law_zone : Stmt := top 32
theorem sc__law_zone : FnScope ["_law_draws_here", "_law_kind"] ["_law_draws_here"] (defScope s__law_zone) := ⟨rfl, rfl, rfl, by decide +kernel, rfl, by decide +kernel, by decide +kernel⟩
abbrev s__law_pairs : Stmt := top 33
theorem sc__law_pairs : FnScope ["_law_draws_here", "_law_zone_here", "_law_many", "_law_rows", "_law_k", "_law_low", "_law_length"] ["_law_draws_here", "_law_zone_here", "_law_many"] (defScope s__law_pairs) := ⟨rfl, rfl, rfl, by decide +kernel, rfl, by decide +kernel, by decide +kernel⟩
abbrev s__law_spoilt : Stmt := top 34
theorem sc__law_spoilt : FnScope ["_law_draws_here", "_law_zone_here", "_law_kind", "_law_number", "_law_more"] ["_law_draws_here", "_law_zone_here"] (defScope s__law_spoilt) := ⟨rfl, rfl, rfl, by decide +kernel, rfl, by decide +kernel, by decide +kernel⟩
abbrev s__law_refused : Stmt := top 35
theorem sc__law_refused : FnScope ["_law_handed", "_law_told", "e", "_law_others"] ["_law_handed"] (defScope s__law_refused) := ⟨rfl, rfl, rfl, by decide +kernel, rfl, by decide +kernel, by decide +kernel⟩
abbrev s__law_classes : Stmt := top 36
theorem sc__law_classes : FnScope ["_law_thing", "_law_found"] ["_law_thing"] (defScope s__law_classes) := ⟨rfl, rfl, rfl, by decide +kernel, rfl, by decide +kernel, by decide +kernel⟩
abbrev s__law_family : Stmt := top 37
theorem sc__law_family : FnScope ["_law_one", "_law_two", "_law_word", "_law_things", "_law_k", "_law_told", "_law_due", "_law_place"] ["_law_one", "_law_two", "_law_word"] (defScope s__law_family) := ⟨rfl, rfl, rfl, by decide +kernel, rfl, by decide +kernel, by decide +kernel⟩
abbrev s_law : Stmt := top 38
theorem sc_law : FnScope ["_law_script", "_law_draws_here", "_law_zone_here", "_law_good", "_law_rows", "_law_k", "_law_place", "_law_due", "_law_low", "_law_high", "_law_handed", "_law_told", "_law_numbers", "_law_one", "_law_two"] ["_law_script"] (defScope s_law) := ⟨rfl, rfl, rfl, by decide +kernel, rfl, by decide +kernel, by decide +kernel⟩
def exNames : List Str := ["BadStretch", "BadText", "NoMember", "BadStep", "BadPace", "Contradiction", "NoKey", "Impossible", "BadName", "UnknownName", "WrongRange", "TooMany", "NoAnswer", "NotServed", "Refused"]
def fsL : List (PySem.W.Frag → Bool) := [fun K => (He.Fa.glo "Stretches").ok K,
  fun K => (He.Fa.glo "BadStretch").ok K,
  fun K => (He.Fa.glo "ReadError").ok K,
  fun K => (He.Fa.glo "BadText").ok K,
  fun K => (He.Fa.glo "NoMember").ok K,
  fun K => (He.Fa.glo "BadStep").ok K,
  fun K => (He.Fa.glo "Contradiction").ok K,
  fun K => (He.Fa.glo "BadPace").ok K,
  fun K => (He.Fa.glo "NoKey").ok K,
  fun K => (He.Fa.glo "Impossible").ok K,
  fun K => (He.Fa.glo "BadName").ok K,
  fun K => (He.Fa.glo "UnknownName").ok K,
  fun K => (He.Fa.glo "WrongRange").ok K,
  fun K => (He.Fa.glo "TooMany").ok K,
  fun K => (He.Fa.glo "NoAnswer").ok K,
  fun K => (He.Fa.glo "NotServed").ok K,
  fun K => (He.Fa.glo "Refused").ok K,
  fun K => (He.Fa.glo "joined").ok K,
  fun K => (He.Fa.glo "_law_draws").ok K,
  fun K => (He.Fa.glo "_law_next").ok K,
  fun K => (He.Fa.glo "_law_is_int").ok K,
  fun K => (He.Fa.glo "_law_zone").ok K,
  fun K => (He.Fa.glo "_law_pairs").ok K,
  fun K => (He.Fa.glo "_law_spoilt").ok K,
  fun K => (He.Fa.glo "_law_refused").ok K,
  fun K => (He.Fa.glo "_law_classes").ok K,
  fun K => (He.Fa.glo "_law_family").ok K,
  fun K => (He.Fa.glo "law").ok K,
  fun K => (He.Fa.free "list").ok K,
  fun K => (He.Fa.free "range").ok K,
  fun K => (He.Fa.free "tuple").ok K,
  fun K => (He.Fa.free "len").ok K,
  fun K => (He.Fa.free "min").ok K,
  fun K => (He.Fa.free "abs").ok K,
  fun K => (He.Fa.free "int").ok K,
  fun K => (He.Fa.free "isinstance").ok K,
  fun K => (He.Fa.free "ValueError").ok K,
  fun K => (He.Fa.free "bool").ok K,
  fun K => (He.Fa.free "sorted").ok K,
  fun K => (He.Fa.free "max").ok K,
  fun K => (He.Fa.free "super").ok K,
  fun K => (He.Fa.int "LIMIT_stretches" 1000000000000000000).ok K,
  fun K => exB K "BadStretch" ["low", "high"],
  fun K => exB K "BadText" ["text"],
  fun K => exB K "NoMember" ["index"],
  fun K => exB K "BadStep" ["number"],
  fun K => exB K "BadPace" ["slowest", "fastest"],
  fun K => exB K "NoKey" ["key"],
  fun K => exB K "Impossible" ["key", "value"],
  fun K => exB K "BadName" ["name"],
  fun K => exB K "UnknownName" ["name"],
  fun K => exB K "WrongRange" ["first", "last"],
  fun K => exB K "TooMany" ["limit"],
  fun K => exB K "NoAnswer" ["name", "key"],
  fun K => exB K "NotServed" ["wanted"],
  fun K => exB K "Refused" ["name"],
  fun K => (He.Fa.exc "Contradiction").ok K,
  fun K => exsB K (cA K "BadStretch"),
  fun K => exsB K (cA K "BadText"),
  fun K => exsB K (cA K "NoMember"),
  fun K => exsB K (cA K "BadStep"),
  fun K => exsB K (cA K "BadPace"),
  fun K => exsB K (cA K "Contradiction"),
  fun K => exsB K (cA K "NoKey"),
  fun K => exsB K (cA K "Impossible"),
  fun K => exsB K (cA K "BadName"),
  fun K => exsB K (cA K "UnknownName"),
  fun K => exsB K (cA K "WrongRange"),
  fun K => exsB K (cA K "TooMany"),
  fun K => exsB K (cA K "NoAnswer"),
  fun K => exsB K (cA K "NotServed"),
  fun K => exsB K (cA K "Refused"),
  fun K => kiB K exNames "ReadError",
  fun K => exmB K exNames "ReadError",
  fun K => sclB K "Stretches",
  fun K => (He.Fa.mkr "Stretches").ok K,
  fun K => slotB K "Stretches" "pairs" 0,
  fun K => hasInB K "Stretches"]
def dsL : List Dd := [dInit "BadStretch" "BadStretch.__init__" s_BadStretch_init,
  dInit "BadText" "BadText.__init__" s_BadText_init,
  dInit "NoMember" "NoMember.__init__" s_NoMember_init,
  dInit "BadStep" "BadStep.__init__" s_BadStep_init,
  dInit "BadPace" "BadPace.__init__" s_BadPace_init,
  dInit "NoKey" "NoKey.__init__" s_NoKey_init,
  dInit "Impossible" "Impossible.__init__" s_Impossible_init,
  dInit "BadName" "BadName.__init__" s_BadName_init,
  dInit "UnknownName" "UnknownName.__init__" s_UnknownName_init,
  dInit "WrongRange" "WrongRange.__init__" s_WrongRange_init,
  dInit "TooMany" "TooMany.__init__" s_TooMany_init,
  dInit "NoAnswer" "NoAnswer.__init__" s_NoAnswer_init,
  dInit "NotServed" "NotServed.__init__" s_NotServed_init,
  dInit "Refused" "Refused.__init__" s_Refused_init,
  dF "joined" s_joined,
  dM "Stretches" "__init__" "Stretches.__init__" s_Stretches_init [.adr (He.dflAt ("Stretches", some "__init__") 0)],
  dM "Stretches" "__contains__" "Stretches.__contains__" s_Stretches_contains,
  dF "_law_draws" s__law_draws,
  dF "_law_next" s__law_next,
  dF "_law_is_int" s__law_is_int,
  dF "_law_zone" s__law_zone,
  dF "_law_pairs" s__law_pairs,
  dF "_law_spoilt" s__law_spoilt,
  dF "_law_refused" s__law_refused,
  dF "_law_classes" s__law_classes,
  dF "_law_family" s__law_family,
  dF "law" s_law]
def dat : TxD := ⟨fsL, dsL⟩
abbrev TT (K : PySem.W.Frag) (mg : Str → Option Value) : Prop := Tx dat K mg fileP
section
variable {w : World} {K : PySem.W.Frag} {mg : Str → Option Value} {base : Heap} (T : TT K mg)
include T
theorem g_Stretches : mg "Stretches" = some (.ref (cA K "Stretches")) := T.glo (T.fa 0)
theorem g_BadStretch : mg "BadStretch" = some (.ref (cA K "BadStretch")) := T.glo (T.fa 1)
theorem g_ReadError : mg "ReadError" = some (.ref (cA K "ReadError")) := T.glo (T.fa 2)
theorem g_BadText : mg "BadText" = some (.ref (cA K "BadText")) := T.glo (T.fa 3)
theorem g_NoMember : mg "NoMember" = some (.ref (cA K "NoMember")) := T.glo (T.fa 4)
theorem g_BadStep : mg "BadStep" = some (.ref (cA K "BadStep")) := T.glo (T.fa 5)
theorem g_Contradiction : mg "Contradiction" = some (.ref (cA K "Contradiction")) := T.glo (T.fa 6)
theorem g_BadPace : mg "BadPace" = some (.ref (cA K "BadPace")) := T.glo (T.fa 7)
theorem g_NoKey : mg "NoKey" = some (.ref (cA K "NoKey")) := T.glo (T.fa 8)
theorem g_Impossible : mg "Impossible" = some (.ref (cA K "Impossible")) := T.glo (T.fa 9)
theorem g_BadName : mg "BadName" = some (.ref (cA K "BadName")) := T.glo (T.fa 10)
theorem g_UnknownName : mg "UnknownName" = some (.ref (cA K "UnknownName")) := T.glo (T.fa 11)
theorem g_WrongRange : mg "WrongRange" = some (.ref (cA K "WrongRange")) := T.glo (T.fa 12)
theorem g_TooMany : mg "TooMany" = some (.ref (cA K "TooMany")) := T.glo (T.fa 13)
theorem g_NoAnswer : mg "NoAnswer" = some (.ref (cA K "NoAnswer")) := T.glo (T.fa 14)
theorem g_NotServed : mg "NotServed" = some (.ref (cA K "NotServed")) := T.glo (T.fa 15)
theorem g_Refused : mg "Refused" = some (.ref (cA K "Refused")) := T.glo (T.fa 16)
theorem g_joined : mg "joined" = some (.ref (cA K "joined")) := T.glo (T.fa 17)
theorem g__law_draws : mg "_law_draws" = some (.ref (cA K "_law_draws")) := T.glo (T.fa 18)
theorem g__law_next : mg "_law_next" = some (.ref (cA K "_law_next")) := T.glo (T.fa 19)
theorem g__law_is_int : mg "_law_is_int" = some (.ref (cA K "_law_is_int")) := T.glo (T.fa 20)
theorem g__law_zone : mg "_law_zone" = some (.ref (cA K "_law_zone")) := T.glo (T.fa 21)
theorem g__law_pairs : mg "_law_pairs" = some (.ref (cA K "_law_pairs")) := T.glo (T.fa 22)
theorem g__law_spoilt : mg "_law_spoilt" = some (.ref (cA K "_law_spoilt")) := T.glo (T.fa 23)
theorem g__law_refused : mg "_law_refused" = some (.ref (cA K "_law_refused")) := T.glo (T.fa 24)
theorem g__law_classes : mg "_law_classes" = some (.ref (cA K "_law_classes")) := T.glo (T.fa 25)
theorem g__law_family : mg "_law_family" = some (.ref (cA K "_law_family")) := T.glo (T.fa 26)
theorem g_law : mg "law" = some (.ref (cA K "law")) := T.glo (T.fa 27)
theorem f_list : mg "list" = none := T.free (T.fa 28)
theorem f_range : mg "range" = none := T.free (T.fa 29)
theorem f_tuple : mg "tuple" = none := T.free (T.fa 30)
theorem f_len : mg "len" = none := T.free (T.fa 31)
theorem f_min : mg "min" = none := T.free (T.fa 32)
theorem f_abs : mg "abs" = none := T.free (T.fa 33)
theorem f_int : mg "int" = none := T.free (T.fa 34)
theorem f_isinstance : mg "isinstance" = none := T.free (T.fa 35)
theorem f_ValueError : mg "ValueError" = none := T.free (T.fa 36)
theorem f_bool : mg "bool" = none := T.free (T.fa 37)
theorem f_sorted : mg "sorted" = none := T.free (T.fa 38)
theorem f_max : mg "max" = none := T.free (T.fa 39)
theorem f_super : mg "super" = none := T.free (T.fa 40)
theorem c_LIMIT_stretches : ∃ u, mg "LIMIT_stretches" = some u ∧ RelV (.int 1000000000000000000) u := T.int (T.fa 41)
theorem ef_BadStretch : ExF K "BadStretch" ["low", "high"] := exB_ok (T.b 42)
theorem ef_BadText : ExF K "BadText" ["text"] := exB_ok (T.b 43)
theorem ef_NoMember : ExF K "NoMember" ["index"] := exB_ok (T.b 44)
theorem ef_BadStep : ExF K "BadStep" ["number"] := exB_ok (T.b 45)
theorem ef_BadPace : ExF K "BadPace" ["slowest", "fastest"] := exB_ok (T.b 46)
theorem ef_NoKey : ExF K "NoKey" ["key"] := exB_ok (T.b 47)
theorem ef_Impossible : ExF K "Impossible" ["key", "value"] := exB_ok (T.b 48)
theorem ef_BadName : ExF K "BadName" ["name"] := exB_ok (T.b 49)
theorem ef_UnknownName : ExF K "UnknownName" ["name"] := exB_ok (T.b 50)
theorem ef_WrongRange : ExF K "WrongRange" ["first", "last"] := exB_ok (T.b 51)
theorem ef_TooMany : ExF K "TooMany" ["limit"] := exB_ok (T.b 52)
theorem ef_NoAnswer : ExF K "NoAnswer" ["name", "key"] := exB_ok (T.b 53)
theorem ef_NotServed : ExF K "NotServed" ["wanted"] := exB_ok (T.b 54)
theorem ef_Refused : ExF K "Refused" ["name"] := exB_ok (T.b 55)
theorem e0_Contradiction : PySem.W.excIn K (cA K "Contradiction") He.veBase "ValueError.__new__" = true ∧ PySem.W.keepIn K (.ref (cA K "Contradiction")) = true ∧ PySem.W.subIn K (.ref (cA K "Contradiction")) (.type "BaseException") = some true ∧ PySem.W.typeIn K (.ref (cA K "Contradiction")) = some (.type "type") := He.exc_ok (T.fa 56)
theorem xf_BadStretch : XfC K (cA K "BadStretch") ∧ ExcC K (cA K "BadStretch") := exsB_ok (T.b 57)
theorem xf_BadText : XfC K (cA K "BadText") ∧ ExcC K (cA K "BadText") := exsB_ok (T.b 58)
theorem xf_NoMember : XfC K (cA K "NoMember") ∧ ExcC K (cA K "NoMember") := exsB_ok (T.b 59)
theorem xf_BadStep : XfC K (cA K "BadStep") ∧ ExcC K (cA K "BadStep") := exsB_ok (T.b 60)
theorem xf_BadPace : XfC K (cA K "BadPace") ∧ ExcC K (cA K "BadPace") := exsB_ok (T.b 61)
theorem xf_Contradiction : XfC K (cA K "Contradiction") ∧ ExcC K (cA K "Contradiction") := exsB_ok (T.b 62)
theorem xf_NoKey : XfC K (cA K "NoKey") ∧ ExcC K (cA K "NoKey") := exsB_ok (T.b 63)
theorem xf_Impossible : XfC K (cA K "Impossible") ∧ ExcC K (cA K "Impossible") := exsB_ok (T.b 64)
theorem xf_BadName : XfC K (cA K "BadName") ∧ ExcC K (cA K "BadName") := exsB_ok (T.b 65)
theorem xf_UnknownName : XfC K (cA K "UnknownName") ∧ ExcC K (cA K "UnknownName") := exsB_ok (T.b 66)
theorem xf_WrongRange : XfC K (cA K "WrongRange") ∧ ExcC K (cA K "WrongRange") := exsB_ok (T.b 67)
theorem xf_TooMany : XfC K (cA K "TooMany") ∧ ExcC K (cA K "TooMany") := exsB_ok (T.b 68)
theorem xf_NoAnswer : XfC K (cA K "NoAnswer") ∧ ExcC K (cA K "NoAnswer") := exsB_ok (T.b 69)
theorem xf_NotServed : XfC K (cA K "NotServed") ∧ ExcC K (cA K "NotServed") := exsB_ok (T.b 70)
theorem xf_Refused : XfC K (cA K "Refused") ∧ ExcC K (cA K "Refused") := exsB_ok (T.b 71)
theorem ki_ok : kiB K exNames "ReadError" = true := T.b 72
theorem em_ok : exmB K exNames "ReadError" = true := T.b 73
theorem scl_Stretches : SlX.SCls K (cA K "Stretches") := sclB_ok (T.b 74)
theorem mk_Stretches : Mk K (cA K "Stretches") (mA K "Stretches" "__init__") := He.mkr_ok (T.fa 75)
theorem sl_Stretches_pairs : SlX.Slot1 K (cA K "Stretches") "pairs" (mA K "Stretches" "pairs") 0 := slotB_ok (T.b 76)
theorem in_Stretches : HasIn K (cA K "Stretches") (mA K "Stretches" "__contains__") := hasInB_ok (T.b 77)
theorem er_BadStretch : Er Pg w K mg base "BadStretch" ["low", "high"] := by
  have F := ef_BadStretch T
  refine er_mk (ert_of T F (g_BadStretch T) (T.dd 0) (f_super T)) rfl rfl ss_BadStretch_init rfl ⟨_, rfl, rfl⟩ rfl rfl (fun dV kV doc pm an cdv ct cc us hd hl => by subst hd; exact match us, hl with | [_, _, _], _ => rfl) (fun f cc cdv A outer s H vs Q E hS h => ⟨_, pssa_cons (psa_supInit hS F.o (i := 0) rfl rfl F.s1 F.s2 F.s3 (pa_cons pe_str pa_nil)) (pssa_of (pss_cons (ps_ost (pv 0) (pv 1)) (pss_one (ps_ost (pv 0) (pv 2))))), ?_⟩)
  obtain ⟨a, ws, rfl, hl, ha, k⟩ := h
  obtain ⟨y0, y1, rfl⟩ : ∃ y0 y1, ws = [y0, y1] := by
    match ws, hl with | [y0, y1], _ => exact ⟨y0, y1, rfl⟩
  refine ⟨a, rfl, ha, by show (1 : Nat) ≤ 1000; decide, ha, _, rfl, _, rfl, a, _, rfl, F.o, F.n _ (by simp), .inl ⟨ha, fun d hd hne => ?_⟩⟩
  refine ⟨_, rfl, _, rfl, a, _, rfl, F.o, F.n _ (by simp), .inr ⟨d, _, upd_same, by rw [upd_ne hne, upd_same], by show (1 : Nat) ≤ 900; decide, ?_⟩⟩
  exact k d _ hd hne (by rw [upd_ne (Ne.symm hne), upd_same]) (by rw [upd_same]; rfl) (fun b h1 h2 => by rw [upd_ne h2, upd_ne h1, upd_ne h2])
theorem er_BadText : Er Pg w K mg base "BadText" ["text"] := by
  have F := ef_BadText T
  refine er_mk (ert_of T F (g_BadText T) (T.dd 1) (f_super T)) rfl rfl ss_BadText_init rfl ⟨_, rfl, rfl⟩ rfl rfl (fun dV kV doc pm an cdv ct cc us hd hl => by subst hd; exact match us, hl with | [_, _], _ => rfl) (fun f cc cdv A outer s H vs Q E hS h => ⟨_, pssa_cons (psa_supInit hS F.o (i := 0) rfl rfl F.s1 F.s2 F.s3 (pa_cons pe_str pa_nil)) (pssa_of (pss_one (ps_ost (pv 0) (pv 1)))), ?_⟩)
  obtain ⟨a, ws, rfl, hl, ha, k⟩ := h
  obtain ⟨y0, rfl⟩ : ∃ y0, ws = [y0] := by
    match ws, hl with | [y0], _ => exact ⟨y0, rfl⟩
  refine ⟨a, rfl, ha, by show (1 : Nat) ≤ 1000; decide, ha, _, rfl, _, rfl, a, _, rfl, F.o, F.n _ (by simp), .inl ⟨ha, fun d hd hne => ?_⟩⟩
  exact k d _ hd hne upd_same (by rw [upd_ne hne, upd_same]; rfl) (fun b h1 h2 => by rw [upd_ne h1, upd_ne h2])
theorem er_NoMember : Er Pg w K mg base "NoMember" ["index"] := by
  have F := ef_NoMember T
  refine er_mk (ert_of T F (g_NoMember T) (T.dd 2) (f_super T)) rfl rfl ss_NoMember_init rfl ⟨_, rfl, rfl⟩ rfl rfl (fun dV kV doc pm an cdv ct cc us hd hl => by subst hd; exact match us, hl with | [_, _], _ => rfl) (fun f cc cdv A outer s H vs Q E hS h => ⟨_, pssa_cons (psa_supInit hS F.o (i := 0) rfl rfl F.s1 F.s2 F.s3 (pa_cons pe_str pa_nil)) (pssa_of (pss_one (ps_ost (pv 0) (pv 1)))), ?_⟩)
  obtain ⟨a, ws, rfl, hl, ha, k⟩ := h
  obtain ⟨y0, rfl⟩ : ∃ y0, ws = [y0] := by
    match ws, hl with | [y0], _ => exact ⟨y0, rfl⟩
  refine ⟨a, rfl, ha, by show (1 : Nat) ≤ 1000; decide, ha, _, rfl, _, rfl, a, _, rfl, F.o, F.n _ (by simp), .inl ⟨ha, fun d hd hne => ?_⟩⟩
  exact k d _ hd hne upd_same (by rw [upd_ne hne, upd_same]; rfl) (fun b h1 h2 => by rw [upd_ne h1, upd_ne h2])
theorem er_BadStep : Er Pg w K mg base "BadStep" ["number"] := by
  have F := ef_BadStep T
  refine er_mk (ert_of T F (g_BadStep T) (T.dd 3) (f_super T)) rfl rfl ss_BadStep_init rfl ⟨_, rfl, rfl⟩ rfl rfl (fun dV kV doc pm an cdv ct cc us hd hl => by subst hd; exact match us, hl with | [_, _], _ => rfl) (fun f cc cdv A outer s H vs Q E hS h => ⟨_, pssa_cons (psa_supInit hS F.o (i := 0) rfl rfl F.s1 F.s2 F.s3 (pa_cons pe_str pa_nil)) (pssa_of (pss_one (ps_ost (pv 0) (pv 1)))), ?_⟩)
  obtain ⟨a, ws, rfl, hl, ha, k⟩ := h
  obtain ⟨y0, rfl⟩ : ∃ y0, ws = [y0] := by
    match ws, hl with | [y0], _ => exact ⟨y0, rfl⟩
  refine ⟨a, rfl, ha, by show (1 : Nat) ≤ 1000; decide, ha, _, rfl, _, rfl, a, _, rfl, F.o, F.n _ (by simp), .inl ⟨ha, fun d hd hne => ?_⟩⟩
  exact k d _ hd hne upd_same (by rw [upd_ne hne, upd_same]; rfl) (fun b h1 h2 => by rw [upd_ne h1, upd_ne h2])
theorem er_BadPace : Er Pg w K mg base "BadPace" ["slowest", "fastest"] := by
  have F := ef_BadPace T
  refine er_mk (ert_of T F (g_BadPace T) (T.dd 4) (f_super T)) rfl rfl ss_BadPace_init rfl ⟨_, rfl, rfl⟩ rfl rfl (fun dV kV doc pm an cdv ct cc us hd hl => by subst hd; exact match us, hl with | [_, _, _], _ => rfl) (fun f cc cdv A outer s H vs Q E hS h => ⟨_, pssa_cons (psa_supInit hS F.o (i := 0) rfl rfl F.s1 F.s2 F.s3 (pa_cons pe_str pa_nil)) (pssa_of (pss_cons (ps_ost (pv 0) (pv 1)) (pss_one (ps_ost (pv 0) (pv 2))))), ?_⟩)
  obtain ⟨a, ws, rfl, hl, ha, k⟩ := h
  obtain ⟨y0, y1, rfl⟩ : ∃ y0 y1, ws = [y0, y1] := by
    match ws, hl with | [y0, y1], _ => exact ⟨y0, y1, rfl⟩
  refine ⟨a, rfl, ha, by show (1 : Nat) ≤ 1000; decide, ha, _, rfl, _, rfl, a, _, rfl, F.o, F.n _ (by simp), .inl ⟨ha, fun d hd hne => ?_⟩⟩
  refine ⟨_, rfl, _, rfl, a, _, rfl, F.o, F.n _ (by simp), .inr ⟨d, _, upd_same, by rw [upd_ne hne, upd_same], by show (1 : Nat) ≤ 900; decide, ?_⟩⟩
  exact k d _ hd hne (by rw [upd_ne (Ne.symm hne), upd_same]) (by rw [upd_same]; rfl) (fun b h1 h2 => by rw [upd_ne h2, upd_ne h1, upd_ne h2])
theorem er_NoKey : Er Pg w K mg base "NoKey" ["key"] := by
  have F := ef_NoKey T
  refine er_mk (ert_of T F (g_NoKey T) (T.dd 5) (f_super T)) rfl rfl ss_NoKey_init rfl ⟨_, rfl, rfl⟩ rfl rfl (fun dV kV doc pm an cdv ct cc us hd hl => by subst hd; exact match us, hl with | [_, _], _ => rfl) (fun f cc cdv A outer s H vs Q E hS h => ⟨_, pssa_cons (psa_supInit hS F.o (i := 0) rfl rfl F.s1 F.s2 F.s3 (pa_cons pe_str pa_nil)) (pssa_of (pss_one (ps_ost (pv 0) (pv 1)))), ?_⟩)
  obtain ⟨a, ws, rfl, hl, ha, k⟩ := h
  obtain ⟨y0, rfl⟩ : ∃ y0, ws = [y0] := by
    match ws, hl with | [y0], _ => exact ⟨y0, rfl⟩
  refine ⟨a, rfl, ha, by show (1 : Nat) ≤ 1000; decide, ha, _, rfl, _, rfl, a, _, rfl, F.o, F.n _ (by simp), .inl ⟨ha, fun d hd hne => ?_⟩⟩
  exact k d _ hd hne upd_same (by rw [upd_ne hne, upd_same]; rfl) (fun b h1 h2 => by rw [upd_ne h1, upd_ne h2])
theorem er_Impossible : Er Pg w K mg base "Impossible" ["key", "value"] := by
  have F := ef_Impossible T
  refine er_mk (ert_of T F (g_Impossible T) (T.dd 6) (f_super T)) rfl rfl ss_Impossible_init rfl ⟨_, rfl, rfl⟩ rfl rfl (fun dV kV doc pm an cdv ct cc us hd hl => by subst hd; exact match us, hl with | [_, _, _], _ => rfl) (fun f cc cdv A outer s H vs Q E hS h => ⟨_, pssa_cons (psa_supInit hS F.o (i := 0) rfl rfl F.s1 F.s2 F.s3 (pa_cons pe_str pa_nil)) (pssa_of (pss_cons (ps_ost (pv 0) (pv 1)) (pss_one (ps_ost (pv 0) (pv 2))))), ?_⟩)
  obtain ⟨a, ws, rfl, hl, ha, k⟩ := h
  obtain ⟨y0, y1, rfl⟩ : ∃ y0 y1, ws = [y0, y1] := by
    match ws, hl with | [y0, y1], _ => exact ⟨y0, y1, rfl⟩
  refine ⟨a, rfl, ha, by show (1 : Nat) ≤ 1000; decide, ha, _, rfl, _, rfl, a, _, rfl, F.o, F.n _ (by simp), .inl ⟨ha, fun d hd hne => ?_⟩⟩
  refine ⟨_, rfl, _, rfl, a, _, rfl, F.o, F.n _ (by simp), .inr ⟨d, _, upd_same, by rw [upd_ne hne, upd_same], by show (1 : Nat) ≤ 900; decide, ?_⟩⟩
  exact k d _ hd hne (by rw [upd_ne (Ne.symm hne), upd_same]) (by rw [upd_same]; rfl) (fun b h1 h2 => by rw [upd_ne h2, upd_ne h1, upd_ne h2])
theorem er_BadName : Er Pg w K mg base "BadName" ["name"] := by
  have F := ef_BadName T
  refine er_mk (ert_of T F (g_BadName T) (T.dd 7) (f_super T)) rfl rfl ss_BadName_init rfl ⟨_, rfl, rfl⟩ rfl rfl (fun dV kV doc pm an cdv ct cc us hd hl => by subst hd; exact match us, hl with | [_, _], _ => rfl) (fun f cc cdv A outer s H vs Q E hS h => ⟨_, pssa_cons (psa_supInit hS F.o (i := 0) rfl rfl F.s1 F.s2 F.s3 (pa_cons pe_str pa_nil)) (pssa_of (pss_one (ps_ost (pv 0) (pv 1)))), ?_⟩)
  obtain ⟨a, ws, rfl, hl, ha, k⟩ := h
  obtain ⟨y0, rfl⟩ : ∃ y0, ws = [y0] := by
    match ws, hl with | [y0], _ => exact ⟨y0, rfl⟩
  refine ⟨a, rfl, ha, by show (1 : Nat) ≤ 1000; decide, ha, _, rfl, _, rfl, a, _, rfl, F.o, F.n _ (by simp), .inl ⟨ha, fun d hd hne => ?_⟩⟩
  exact k d _ hd hne upd_same (by rw [upd_ne hne, upd_same]; rfl) (fun b h1 h2 => by rw [upd_ne h1, upd_ne h2])
theorem er_UnknownName : Er Pg w K mg base "UnknownName" ["name"] := by
  have F := ef_UnknownName T
  refine er_mk (ert_of T F (g_UnknownName T) (T.dd 8) (f_super T)) rfl rfl ss_UnknownName_init rfl ⟨_, rfl, rfl⟩ rfl rfl (fun dV kV doc pm an cdv ct cc us hd hl => by subst hd; exact match us, hl with | [_, _], _ => rfl) (fun f cc cdv A outer s H vs Q E hS h => ⟨_, pssa_cons (psa_supInit hS F.o (i := 0) rfl rfl F.s1 F.s2 F.s3 (pa_cons pe_str pa_nil)) (pssa_of (pss_one (ps_ost (pv 0) (pv 1)))), ?_⟩)
  obtain ⟨a, ws, rfl, hl, ha, k⟩ := h
  obtain ⟨y0, rfl⟩ : ∃ y0, ws = [y0] := by
    match ws, hl with | [y0], _ => exact ⟨y0, rfl⟩
  refine ⟨a, rfl, ha, by show (1 : Nat) ≤ 1000; decide, ha, _, rfl, _, rfl, a, _, rfl, F.o, F.n _ (by simp), .inl ⟨ha, fun d hd hne => ?_⟩⟩
  exact k d _ hd hne upd_same (by rw [upd_ne hne, upd_same]; rfl) (fun b h1 h2 => by rw [upd_ne h1, upd_ne h2])
theorem er_WrongRange : Er Pg w K mg base "WrongRange" ["first", "last"] := by
  have F := ef_WrongRange T
  refine er_mk (ert_of T F (g_WrongRange T) (T.dd 9) (f_super T)) rfl rfl ss_WrongRange_init rfl ⟨_, rfl, rfl⟩ rfl rfl (fun dV kV doc pm an cdv ct cc us hd hl => by subst hd; exact match us, hl with | [_, _, _], _ => rfl) (fun f cc cdv A outer s H vs Q E hS h => ⟨_, pssa_cons (psa_supInit hS F.o (i := 0) rfl rfl F.s1 F.s2 F.s3 (pa_cons pe_str pa_nil)) (pssa_of (pss_cons (ps_ost (pv 0) (pv 1)) (pss_one (ps_ost (pv 0) (pv 2))))), ?_⟩)
  obtain ⟨a, ws, rfl, hl, ha, k⟩ := h
  obtain ⟨y0, y1, rfl⟩ : ∃ y0 y1, ws = [y0, y1] := by
    match ws, hl with | [y0, y1], _ => exact ⟨y0, y1, rfl⟩
  refine ⟨a, rfl, ha, by show (1 : Nat) ≤ 1000; decide, ha, _, rfl, _, rfl, a, _, rfl, F.o, F.n _ (by simp), .inl ⟨ha, fun d hd hne => ?_⟩⟩
  refine ⟨_, rfl, _, rfl, a, _, rfl, F.o, F.n _ (by simp), .inr ⟨d, _, upd_same, by rw [upd_ne hne, upd_same], by show (1 : Nat) ≤ 900; decide, ?_⟩⟩
  exact k d _ hd hne (by rw [upd_ne (Ne.symm hne), upd_same]) (by rw [upd_same]; rfl) (fun b h1 h2 => by rw [upd_ne h2, upd_ne h1, upd_ne h2])
theorem er_TooMany : Er Pg w K mg base "TooMany" ["limit"] := by
  have F := ef_TooMany T
  refine er_mk (ert_of T F (g_TooMany T) (T.dd 10) (f_super T)) rfl rfl ss_TooMany_init rfl ⟨_, rfl, rfl⟩ rfl rfl (fun dV kV doc pm an cdv ct cc us hd hl => by subst hd; exact match us, hl with | [_, _], _ => rfl) (fun f cc cdv A outer s H vs Q E hS h => ⟨_, pssa_cons (psa_supInit hS F.o (i := 0) rfl rfl F.s1 F.s2 F.s3 (pa_cons pe_str pa_nil)) (pssa_of (pss_one (ps_ost (pv 0) (pv 1)))), ?_⟩)
  obtain ⟨a, ws, rfl, hl, ha, k⟩ := h
  obtain ⟨y0, rfl⟩ : ∃ y0, ws = [y0] := by
    match ws, hl with | [y0], _ => exact ⟨y0, rfl⟩
  refine ⟨a, rfl, ha, by show (1 : Nat) ≤ 1000; decide, ha, _, rfl, _, rfl, a, _, rfl, F.o, F.n _ (by simp), .inl ⟨ha, fun d hd hne => ?_⟩⟩
  exact k d _ hd hne upd_same (by rw [upd_ne hne, upd_same]; rfl) (fun b h1 h2 => by rw [upd_ne h1, upd_ne h2])
theorem er_NoAnswer : Er Pg w K mg base "NoAnswer" ["name", "key"] := by
  have F := ef_NoAnswer T
  refine er_mk (ert_of T F (g_NoAnswer T) (T.dd 11) (f_super T)) rfl rfl ss_NoAnswer_init rfl ⟨_, rfl, rfl⟩ rfl rfl (fun dV kV doc pm an cdv ct cc us hd hl => by subst hd; exact match us, hl with | [_, _, _], _ => rfl) (fun f cc cdv A outer s H vs Q E hS h => ⟨_, pssa_cons (psa_supInit hS F.o (i := 0) rfl rfl F.s1 F.s2 F.s3 (pa_cons pe_str pa_nil)) (pssa_of (pss_cons (ps_ost (pv 0) (pv 1)) (pss_one (ps_ost (pv 0) (pv 2))))), ?_⟩)
  obtain ⟨a, ws, rfl, hl, ha, k⟩ := h
  obtain ⟨y0, y1, rfl⟩ : ∃ y0 y1, ws = [y0, y1] := by
    match ws, hl with | [y0, y1], _ => exact ⟨y0, y1, rfl⟩
  refine ⟨a, rfl, ha, by show (1 : Nat) ≤ 1000; decide, ha, _, rfl, _, rfl, a, _, rfl, F.o, F.n _ (by simp), .inl ⟨ha, fun d hd hne => ?_⟩⟩
  refine ⟨_, rfl, _, rfl, a, _, rfl, F.o, F.n _ (by simp), .inr ⟨d, _, upd_same, by rw [upd_ne hne, upd_same], by show (1 : Nat) ≤ 900; decide, ?_⟩⟩
  exact k d _ hd hne (by rw [upd_ne (Ne.symm hne), upd_same]) (by rw [upd_same]; rfl) (fun b h1 h2 => by rw [upd_ne h2, upd_ne h1, upd_ne h2])
theorem er_NotServed : Er Pg w K mg base "NotServed" ["wanted"] := by
  have F := ef_NotServed T
  refine er_mk (ert_of T F (g_NotServed T) (T.dd 12) (f_super T)) rfl rfl ss_NotServed_init rfl ⟨_, rfl, rfl⟩ rfl rfl (fun dV kV doc pm an cdv ct cc us hd hl => by subst hd; exact match us, hl with | [_, _], _ => rfl) (fun f cc cdv A outer s H vs Q E hS h => ⟨_, pssa_cons (psa_supInit hS F.o (i := 0) rfl rfl F.s1 F.s2 F.s3 (pa_cons pe_str pa_nil)) (pssa_of (pss_one (ps_ost (pv 0) (pv 1)))), ?_⟩)
  obtain ⟨a, ws, rfl, hl, ha, k⟩ := h
  obtain ⟨y0, rfl⟩ : ∃ y0, ws = [y0] := by
    match ws, hl with | [y0], _ => exact ⟨y0, rfl⟩
  refine ⟨a, rfl, ha, by show (1 : Nat) ≤ 1000; decide, ha, _, rfl, _, rfl, a, _, rfl, F.o, F.n _ (by simp), .inl ⟨ha, fun d hd hne => ?_⟩⟩
  exact k d _ hd hne upd_same (by rw [upd_ne hne, upd_same]; rfl) (fun b h1 h2 => by rw [upd_ne h1, upd_ne h2])
theorem er_Refused : Er Pg w K mg base "Refused" ["name"] := by
  have F := ef_Refused T
  refine er_mk (ert_of T F (g_Refused T) (T.dd 13) (f_super T)) rfl rfl ss_Refused_init rfl ⟨_, rfl, rfl⟩ rfl rfl (fun dV kV doc pm an cdv ct cc us hd hl => by subst hd; exact match us, hl with | [_, _], _ => rfl) (fun f cc cdv A outer s H vs Q E hS h => ⟨_, pssa_cons (psa_supInit hS F.o (i := 0) rfl rfl F.s1 F.s2 F.s3 (pa_cons pe_str pa_nil)) (pssa_of (pss_one (ps_ost (pv 0) (pv 1)))), ?_⟩)
  obtain ⟨a, ws, rfl, hl, ha, k⟩ := h
  obtain ⟨y0, rfl⟩ : ∃ y0, ws = [y0] := by
    match ws, hl with | [y0], _ => exact ⟨y0, rfl⟩
  refine ⟨a, rfl, ha, by show (1 : Nat) ≤ 1000; decide, ha, _, rfl, _, rfl, a, _, rfl, F.o, F.n _ (by simp), .inl ⟨ha, fun d hd hne => ?_⟩⟩
  exact k d _ hd hne upd_same (by rw [upd_ne hne, upd_same]; rfl) (fun b h1 h2 => by rw [upd_ne h1, upd_ne h2])
end
end Sr
namespace Sr
open PySem PySem.Spec PyProof.Rows L2
/-! ### normal form -/
def jstep (acc : List (Int × Int)) (p : Int × Int) : List (Int × Int) :=
  match acc.getLast? with
  | some b => if p.1 ≤ b.2 + 1 then acc.dropLast ++ [(b.1, if p.2 > b.2 then p.2 else b.2)] else acc ++ [p]
  | none => acc ++ [p]
def joinM (ps : List (Int × Int)) : List (Int × Int) := (sortP ps).foldl jstep []
theorem jstep_nil (p : Int × Int) : jstep [] p = [p] := rfl
theorem jstep_snoc (acc : List (Int × Int)) (b p : Int × Int) : jstep (acc ++ [b]) p = if p.1 ≤ b.2 + 1 then acc ++ [(b.1, if p.2 > b.2 then p.2 else b.2)] else acc ++ [b] ++ [p] := by
  unfold jstep
  rw [List.getLast?_concat, List.dropLast_concat]
theorem jstep_len (acc : List (Int × Int)) (p : Int × Int) : (jstep acc p).length ≤ acc.length + 1 := by
  rcases List.eq_nil_or_concat acc with rfl | ⟨a, b, rfl⟩
  · rw [jstep_nil]; simp
  · rw [List.concat_eq_append, jstep_snoc]
    split <;> simp
theorem jfold_len : ∀ (qs acc : List (Int × Int)), (qs.foldl jstep acc).length ≤ acc.length + qs.length
  | [], acc => by simp
  | q :: r, acc => by
    have := jfold_len r (jstep acc q)
    have := jstep_len acc q
    simp only [List.foldl_cons, List.length_cons]
    omega
def spJoined (K : PySem.W.Frag) : Sp := fun vs H Q _ => ∃ (a : Addr) (xs : List V) (ps : List (Int × Int)), vs = [.ref a] ∧ SqL K H a xs ∧ Prs H xs ps ∧ ps.length ≤ 100000 ∧
  ∀ (p : Addr) (ts : List V) (H' : Hp), Same H H' → H p = none → H' p = some (.tup ts) → Prs H' ts (joinM ps) → Q (.ref p) H'
section
variable {w : World} {K : PySem.W.Frag} {mg : Str → Option Value} {base : Heap}
theorem ok_joined {f : Addr} {fd : FuncData} (T : TT K mg) (F : FunD K "joined" "joined" (defArgs s_joined) (defBody s_joined) (defScope s_joined) [] [] f fd) : FnOk Pg w K mg base (L2.CX Pg w) 1 f fd ["rows"] (spJoined K) := by
  refine F.ok sc_joined (fun vs H Q E h => ?_) (fun cdv A outer s H vs Q E hr h => ?_)
  · obtain ⟨a, xs, ps, rfl, _⟩ := h
    rfl
  refine ⟨_, (pss_cons (ps_set (i := 1) sc_joined.nd rfl (Or.inl rfl) (pe_lst pa_nil))
  (pss_cons (ps_for (passes_of rfl) rfl (pi_list (pe_callB cr_sortPr (by rfl) (f_sorted T) (by decide +kernel) (pa_cons (pv 0) pa_nil))) (pg_tup rfl (pgs_cons (pg_name (i := 2) sc_joined.nd rfl (Or.inl rfl)) (pgs_cons (pg_name (i := 3) sc_joined.nd rfl (Or.inl rfl)) pgs_nil)))
  (pss_one (ps_if (PW.pt (pw_and (pt_truth (pv 1) (by intro _; rfl)) (pw_and1 (pt_cmpR op_le (pv 2) (pe_op op_add (pe_ix ix_tup (pe_ix ix_list (pv 1) (pe_cst (v := .int (-1)) (pe_un un_neg pe_int) (fun _ _ _ h => ⟨_, rfl, cst_eq (by decide) h⟩)) (fun _ _ => rfl)) pe_int (fun _ _ => rfl)) pe_int) (nomark _)))))
  (pss_cons (ps_set (i := 4) sc_joined.nd rfl (Or.inl rfl) (pe_bm0 PySem.F.plainAttrs_list PySem.F.slot_list_pop PySem.F.type_list_pop mt_pop (pv 1)))
  (pss_one (ps_expr (pe_bm PySem.F.plainAttrs_list PySem.F.slot_list_append PySem.F.type_list_append mt_append (pv 1) (pa_cons (pe_tup (pa_cons (pe_ix ix_tup (pv 4) pe_int (fun _ _ => rfl)) (pa_cons (pe_callB (call_max2 rfl) (by rfl) (f_max T) (by decide +kernel) (pa_cons (pe_ix ix_tup (pv 4) pe_int (fun _ _ => rfl)) (pa_cons (pv 3) pa_nil))) pa_nil))) pa_nil)))))
  (pss_one (ps_expr (pe_bm PySem.F.plainAttrs_list PySem.F.slot_list_append PySem.F.type_list_append mt_append (pv 1) (pa_cons (pe_tup (pa_cons (pv 2) (pa_cons (pv 3) pa_nil))) pa_nil)))))))
  (pss_one (ps_ret (pe_callTy call_tuple_of (by rfl) (f_tuple T) (by decide +kernel) (pa_cons (pv 1) pa_nil)))))), ?_⟩
  obtain ⟨a, xs, ps, rfl, hS, hP, hl, k⟩ := h
  refine ⟨Nat.zero_le _, fun l hl0 => ?_⟩
  refine ⟨_, rfl, a, xs, ps, rfl, (sNew hl0).seq hS, hP.mono (TupLe.new hl0), fun ys p hp hlen hY => ?_⟩
  have hpl : p ≠ l := by intro z; rw [z, upd_same] at hp; cases hp
  have hp0 : H p = none := by rw [upd_ne hpl] at hp; exact hp
  refine ⟨p, rfl, ⟨_, SqL.of upd_same⟩, for_prL (ys := ys) (qs := sortP ps) (fun done σ H' => ∃ x1 x2 x3 vs, σ = [some (.ref a), some (.ref l), x1, x2, x3] ∧ Same H H' ∧ H' l = some (.lst vs) ∧ H' p = some (.lst ys) ∧ Prs H' ys (sortP ps) ∧ Prs H' vs (done.foldl jstep []) ∧ done.length ≤ ps.length) ?_ ?_ ?_ ?_⟩
  · refine ⟨none, none, none, [], rfl, sOwn (sOwn (Same.refl H) hl0) hp0, ?_, upd_same, hY.mono (TupLe.new hp), .nil, Nat.zero_le _⟩
    rw [upd_ne (Ne.symm hpl), upd_same]
  · rintro done σ H' ⟨x1, x2, x3, vs, rfl, s, e1, e2, hY', hV, hd⟩
    exact ⟨SqL.of e2, hY'⟩
  · rintro done q rest σ H' hq ⟨x1, x2, x3, vs, rfl, s, e1, e2, hY', hV, hd⟩
    have hdl : done.length + 1 ≤ ps.length := by
      have h1 := congrArg List.length hq
      rw [(sortP_perm ps).length_eq, List.length_append, List.length_cons] at h1
      omega
    have hvl : vs.length ≤ 100000 := by
      have h1 := jfold_len done []
      have h2 := hV.len
      simp only [List.length_nil] at h1
      omega
    rcases hV.cases with ⟨rfl, e0⟩ | ⟨vs', y, acc, b, rfl, e0, hV', hb⟩
    · -- the list is empty
      refine ⟨_, rfl, false, .inl ⟨_, SqL.of e1, rfl⟩, ?_⟩
      refine iteF (iteF ⟨_, rfl, tyL e1, _, rfl, _, rfl, line_le (by simp), fun t ht => ?_⟩)
      have htl : t ≠ l := Ne.symm (ne_of_none e1 ht)
      refine ⟨l, [], .ref t, rfl, rfl, by rw [upd_ne (Ne.symm htl)]; exact e1, by decide, ?_⟩
      refine ⟨_, _, _, [.ref t], rfl, sOwn (sOwn s (s.free ht)) hl0, upd_same, by grind [upd], ?_, ?_, by simpa using hdl⟩
      · exact (hY'.mono (TupLe.new ht)).mono (TupLe.lst (by rw [upd_ne (Ne.symm htl)]; exact e1))
      · rw [List.foldl_append, e0]
        exact .cons ⟨t, rfl, by rw [upd_ne htl, upd_same]⟩ .nil
    · obtain ⟨ty, rfl, hty⟩ := hb
      have hTyl : ty ≠ l := ne_of hty e1 (by intro z; cases z)
      refine ⟨_, rfl, true, .inl ⟨vs' ++ [.ref ty], SqL.of e1, by cases vs' <;> rfl⟩, ?_⟩
      refine iteT ⟨_, rfl, _, rfl, l, _, _, _, rfl, rfl, SqL.of e1, atI_last _ _, ty, _, _, _, rfl, rfl, SqT.of hty, rfl, _, _, rfl, rfl, _, _, rfl, rfl, _, rfl, ?_⟩
      refine ite2 (fun c => ?_) (fun c => ?_)
      · have c : q.1 ≤ b.2 + 1 := of_decide_eq_true c
        refine ⟨_, rfl, tyL e1, l, _, .ref ty, rfl, rfl, e1, by simp, ?_⟩
        rw [List.dropLast_concat]
        refine ⟨_, rfl, tyL upd_same, _, rfl, ty, _, _, _, rfl, rfl, SqT.of (by rw [upd_ne hTyl]; exact hty), rfl, _, rfl, ty, _, _, _, rfl, rfl, SqT.of (by rw [upd_ne hTyl]; exact hty), rfl, _, rfl, _, _, rfl, line_le (by simp), fun t ht => ?_⟩
        have htl : t ≠ l := by intro z; rw [z, upd_same] at ht; cases ht
        have ht' : H' t = none := by rw [upd_ne htl] at ht; exact ht
        refine ⟨l, vs', .ref t, rfl, rfl, by rw [upd_ne (Ne.symm htl), upd_same], line_of (by simp at hvl; omega), ?_⟩
        have T1 : TupLe H' (upd (upd (upd H' l (.lst vs')) t (.tup [.int b.1, .int (if q.2 > b.2 then q.2 else b.2)])) l (.lst (vs' ++ [.ref t]))) := by
          intro u us hu; grind [upd]
        refine ⟨_, _, _, vs' ++ [.ref t], rfl, sOwn (sOwn (sOwn s hl0) (s.free ht')) hl0, upd_same, by grind [upd], hY'.mono T1, ?_, by simpa using hdl⟩
        rw [List.foldl_append, e0]
        show Prs _ _ (jstep (acc ++ [b]) q)
        rw [jstep_snoc, if_pos c]
        exact (hV'.mono T1).snoc ⟨t, rfl, by grind [upd]⟩
      · have c : ¬ q.1 ≤ b.2 + 1 := fun z => c (decide_eq_true z)
        refine ⟨_, rfl, tyL e1, _, rfl, _, rfl, line_le (by simp), fun t ht => ?_⟩
        have htl : t ≠ l := Ne.symm (ne_of_none e1 ht)
        refine ⟨l, _, .ref t, rfl, rfl, by rw [upd_ne (Ne.symm htl)]; exact e1, line_of (by omega), ?_⟩
        have T1 : TupLe H' (upd (upd H' t (.tup [.int q.1, .int q.2])) l (.lst (vs' ++ [.ref ty] ++ [.ref t]))) := by
          intro u us hu; grind [upd]
        refine ⟨_, _, _, _, rfl, sOwn (sOwn s (s.free ht)) hl0, upd_same, by grind [upd], hY'.mono T1, ?_, by simpa using hdl⟩
        rw [List.foldl_append, e0]
        show Prs _ _ (jstep (acc ++ [b]) q)
        rw [jstep_snoc, if_neg c]
        exact (((hV'.mono T1).snoc ⟨ty, rfl, T1 _ _ hty⟩).snoc ⟨t, rfl, by grind [upd]⟩)
  · rintro σ H' ⟨x1, x2, x3, vs, rfl, s, e1, e2, hY', hV, hd⟩
    refine ⟨_, rfl, l, vs, rfl, .inl ⟨SqL.of e1, fun t ht => ?_⟩⟩
    exact k t vs _ (s.trans (sNew ht)) (s.free ht) upd_same (hV.mono (TupLe.new ht))
theorem d_joined (T : TT K mg) : Df Pg w K mg base 1 "joined" (spJoined K) := df_mk T (T.dd 14) (g_joined T) (fun f fd F => ok_joined T F) (fun _ _ _ _ _ _ us hl => match us, hl with | [_], _ => rfl)
end
end Sr
namespace Sr
open PySem PySem.Spec PyProof.Rows L2
def spNext : Sp := fun vs H Q _ => ∃ (a : Addr) (m : Int), vs = [.ref a, .int m] ∧ Dr H a ∧ 0 < m ∧ ∀ (r : Int) (H' : Hp), 0 ≤ r → r < m → Dr H' a → But a H H' → Q (.int r) H'
def spDraws (K : PySem.W.Frag) : Sp := fun vs H Q _ => ∃ (a : Addr) (ns : List Int), vs = [.ref a] ∧ SqL K H a (ns.map V.int) ∧ ns.length ≤ 63 ∧ ∀ (p : Addr) (H' : Hp), H p = none → Same H H' → Dr H' p → Q (.ref p) H'
section
variable {w : World} {K : PySem.W.Frag} {mg : Str → Option Value} {base : Heap} 
theorem ok__law_next {f : Addr} {fd : FuncData} (T : TT K mg) (F : FunD K "_law_next" "_law_next" (defArgs s__law_next) (defBody s__law_next) (defScope s__law_next) [] [] f fd) : FnOk Pg w K mg base (L2.CX Pg w) 1 f fd ["_law_draws_here", "_law_many"] spNext := by
  refine F.ok sc__law_next (fun vs H Q E h => ?_) (fun cdv A outer s H vs Q E hr h => ⟨_, (pss_cons (ps_if (pt_cmpR (op_eqD hr.units) (pv 0) (pe_lst pa_nil) (nomark _))
  (pss_one (ps_ret pe_int))
  pss_nil)
  (pss_one (ps_ret (pe_op op_mod (pe_callTy call_int1 (by rfl) (f_int T) (by decide +kernel) (pa_cons (pe_bm PySem.F.plainAttrs_list PySem.F.slot_list_pop PySem.F.type_list_pop mt_popAt (pv 0) (pa_cons pe_int pa_nil)) pa_nil)) (pv 1))))), ?_⟩)
  · obtain ⟨a, m, rfl, _⟩ := h
    rfl
  obtain ⟨a, m, rfl, hD, hm, k⟩ := h
  obtain ⟨ns, e, h0, hl⟩ := hD
  refine ⟨_, rfl, line_le (by simp), fun p hp => ?_⟩
  have hpa : p ≠ a := Ne.symm (ne_of_none e hp)
  have e1 : upd H p (.lst []) a = some (.lst (ns.map V.int)) := by rw [upd_ne (Ne.symm hpa)]; exact e
  refine ⟨.list (ns.map PyData.int), .list [], .lst (SqL.of e1) (dp_ints ns), .lst (SqL.of upd_same) .nil, sh_ints ns, rfl, _, rfl, ?_⟩
  rw [eqv_ints0]
  have hp0 : H p = none := hp
  have B1 : But a H (upd H p (.lst [])) := (But.refl a H).own hp
  refine iteD (fun c => ?_) (fun c => ?_)
  · subst c
    exact k 0 _ (Int.le_refl 0) hm ⟨[], e1, (fun _ h => nomatch h), Nat.zero_le _⟩ B1
  · cases ns with
    | nil => exact absurd rfl c
    | cons n ns =>
      have hl' : ns.length + 1 ≤ 100000 := hl
      refine ⟨_, rfl, tyL e1, _, _, 0, 0, .int n, rfl, rfl, e1, by decide, by decide, six0 (by simp), rfl, .inl ⟨_, rfl, _, rfl, _, _, rfl, rfl, hm, ?_⟩⟩
      have h00 : 0 ≤ n % m := Int.emod_nonneg _ (by omega)
      have h01 : n % m < m := Int.emod_lt_of_pos _ hm
      exact k _ _ h00 h01 ⟨ns, upd_same, fun z hz => h0 z (List.mem_cons_of_mem _ hz), by omega⟩ B1.at
theorem ok__law_draws {f : Addr} {fd : FuncData} (T : TT K mg) (F : FunD K "_law_draws" "_law_draws" (defArgs s__law_draws) (defBody s__law_draws) (defScope s__law_draws) [] [] f fd) : FnOk Pg w K mg base (L2.CX Pg w) 1 f fd ["_law_script"] (spDraws K) := by
  refine F.ok sc__law_draws (fun vs H Q E h => ?_) (fun cdv A outer s H vs Q E hr h => ⟨_, (pss_cons (ps_set (i := 1) sc__law_draws.nd rfl (Or.inl rfl) (pe_lst pa_nil))
  (pss_cons (ps_for (passes_of rfl) rfl (pi_range1 (by rfl) (f_range T) (pa_cons (pe_callB (call_min2 rfl) (by rfl) (f_min T) (by decide +kernel) (pa_cons (pe_callB call_len_seq (by rfl) (f_len T) (by decide +kernel) (pa_cons (pv 0) pa_nil)) (pa_cons pe_int pa_nil))) pa_nil)) (pg_name (i := 2) sc__law_draws.nd rfl (Or.inl rfl))
  (pss_cons (ps_set (i := 3) sc__law_draws.nd rfl (Or.inl rfl) (pe_callB call_abs (by rfl) (f_abs T) (by decide +kernel) (pa_cons (pe_ix ix_list (pv 0) (pv 2) (fun _ _ => rfl)) pa_nil)))
  (pss_one (ps_if (pt_cmpR op_ge (pv 3) (pe_cst (v := .int (1000000000000000000)) (pe_op op_pow pe_int pe_int) (fun _ _ _ h => ⟨_, _, rfl, rfl, ⟨by decide, by decide, by decide⟩, cst_eq (by decide) h⟩)) (nomark _))
  (pss_one (ps_for (passes_of rfl) rfl (pi_range1 (by rfl) (f_range T) (pa_cons pe_int pa_nil)) (pg_name (i := 4) sc__law_draws.nd rfl (Or.inl rfl))
  (pss_one (ps_if (pt_cmpR op_gt (pv 3) pe_int (nomark _))
  (pss_cons (ps_expr (pe_bm PySem.F.plainAttrs_list PySem.F.slot_list_append PySem.F.type_list_append mt_append (pv 1) (pa_cons (pe_op op_mod (pe_callTy call_int1 (by rfl) (f_int T) (by decide +kernel) (pa_cons (pv 3) pa_nil)) (pe_cst (v := .int (100000000000000000000)) (pe_op op_pow pe_int pe_int) (fun _ _ _ h => ⟨_, _, rfl, rfl, ⟨by decide, by decide, by decide⟩, cst_eq (by decide) h⟩))) pa_nil)))
  (pss_one (ps_set (i := 3) sc__law_draws.nd rfl (Or.inl rfl) (pe_op op_fdivW (pv 3) (pe_cst (v := .int (100000000000000000000)) (pe_op op_pow pe_int pe_int) (fun _ _ _ h => ⟨_, _, rfl, rfl, ⟨by decide, by decide, by decide⟩, cst_eq (by decide) h⟩))))))
  pss_nil))))
  (pss_cons (ps_set (i := 3) sc__law_draws.nd rfl (Or.inl rfl) (pe_op op_add (pe_op op_mul pe_int (pv 3)) (pe_callTy call_int1 (by rfl) (f_int T) (by decide +kernel) (pa_cons (pe_cmpR op_lt (pe_ix ix_list (pv 0) (pv 2) (fun _ _ => rfl)) pe_int (nomark _)) pa_nil))))
  (pss_one (ps_for (passes_of rfl) rfl (pi_range1 (by rfl) (f_range T) (pa_cons pe_int pa_nil)) (pg_name (i := 4) sc__law_draws.nd rfl (Or.inl rfl))
  (pss_cons (ps_set (i := 5) sc__law_draws.nd rfl (Or.inl rfl) (pe_op op_mod (pe_callTy call_int1 (by rfl) (f_int T) (by decide +kernel) (pa_cons (pe_op op_add (pe_op op_mul (pv 3) pe_int) (pe_op op_mul (pe_op op_add (pe_op op_add (pe_op op_mul pe_int (pv 2)) (pv 4)) pe_int) pe_int)) pa_nil)) pe_int))
  (pss_cons (ps_set (i := 5) sc__law_draws.nd rfl (Or.inl rfl) (pe_op op_mod (pe_callTy call_int1 (by rfl) (f_int T) (by decide +kernel) (pa_cons (pe_op op_mul (pv 5) (pv 5)) pa_nil)) pe_int))
  (pss_one (ps_expr (pe_bm PySem.F.plainAttrs_list PySem.F.slot_list_append PySem.F.type_list_append mt_append (pv 1) (pa_cons (pe_op op_mod (pe_callTy call_int1 (by rfl) (f_int T) (by decide +kernel) (pa_cons (pe_op op_mul (pv 5) (pv 5)) pa_nil)) pe_int) pa_nil)))))))))))))
  (pss_one (ps_ret (pv 1))))), ?_⟩)
  · obtain ⟨a, ns, rfl, _⟩ := h
    rfl
  obtain ⟨a, ns, rfl, hS, hn, k⟩ := h
  refine ⟨line_le (by simp), fun p hp => ?_⟩
  have hS1 : SqL K (upd H p (.lst [])) a (ns.map V.int) := (sNew hp).seq hS
  refine ⟨_, rfl, _, _, rfl, .inl hS1, _, _, rfl, _, rfl, ?_, ?_, ?_⟩
  · simp only [List.length_map]; split <;> omega
  · simp only [List.length_map]; split <;> omega
  -- the outer loop
  have hlen : (if (63 : Int) < ((ns.map V.int).length : Int) then (63 : Int) else ((ns.map V.int).length : Int)) = (ns.length : Int) := by
    simp only [List.length_map]; split <;> omega
  have hN : (if (63 : Int) < ((ns.map V.int).length : Int) then (63 : Int) else ((ns.map V.int).length : Int)).toNat = ns.length := by rw [hlen]; exact Int.toNat_natCast _
  refine for_range (lo := 0) (n := _) (fun i σ H' => ∃ (x1 x2 x3 x4 : Option V) (ds : List Int), σ = [some (.ref a), some (.ref p), x1, x2, x3, x4] ∧ Same H H' ∧ H' p = some (.lst (ds.map V.int)) ∧ (∀ d ∈ ds, (0 : Int) ≤ d) ∧ ds.length ≤ 40 * i) ?_ ?_ ?_
  · exact ⟨none, none, none, none, [], rfl, sOwn (Same.refl H) hp, upd_same, (fun _ h => nomatch h), Nat.zero_le _⟩
  · rintro i σ H' hi ⟨x1, x2, x3, x4, ds, rfl, s, e1, h0, hl⟩
    have hi : i < ns.length := hN ▸ hi
    have hS' := s.seq hS
    have hx : atI (ns.map V.int) (0 + (i : Int)) = some (.int ns[i]) := by
      rw [Int.zero_add]; exact atI_nat (by simp [hi])
    refine ⟨_, rfl, _, rfl, _, _, _, _, rfl, rfl, hS', hx, _, rfl, ?_⟩
    refine ⟨_, rfl, _, _, rfl, rfl, _, rfl, ?_⟩
    have hpos : 0 ≤ (if ns[i] < 0 then -ns[i] else ns[i]) := by split <;> omega
    refine iteD (fun c => ?_) (fun c => ?_)
    · -- forty parts
      refine ⟨_, rfl, by decide, by decide, for_range (lo := 0) (n := _) (fun j σ H'' => ∃ (z : Int) (x4 x5 : Option V) (ds : List Int), σ = [some (.ref a), some (.ref p), some (.int (0 + (i : Int))), some (.int z), x4, x5] ∧ 0 ≤ z ∧ Same H H'' ∧ H'' p = some (.lst (ds.map V.int)) ∧ (∀ d ∈ ds, (0 : Int) ≤ d) ∧ ds.length ≤ 40 * i + j) ?_ ?_ ?_⟩
      · exact ⟨_, _, _, ds, rfl, hpos, s, e1, h0, hl⟩
      · rintro j σ H'' hj ⟨z, x4, x5, ds, rfl, hz, s, e1, h0, hl⟩
        have hj : j < 40 := hj
        refine ⟨_, rfl, _, _, rfl, rfl, _, rfl, ?_⟩
        refine iteD (fun c => ?_) (fun c => ?_)
        · refine ⟨_, rfl, tyL e1, _, rfl, .inl ⟨_, rfl, _, _, rfl, rfl, (by show (0 : Int) < _; decide), _, _, _, rfl, rfl, e1, line_of (by simp; omega), ?_⟩⟩
          refine ⟨_, rfl, _, _, rfl, rfl, divOk (by decide) (by decide), ?_⟩
          refine ⟨_, _, _, ds ++ [z % 100000000000000000000], rfl, Int.ediv_nonneg hz (by decide), sOwn s hp, ?_, ?_, by simp; omega⟩
          · rw [upd_same]; simp
          · intro d hd
            rcases List.mem_append.mp hd with h | h
            · exact h0 d h
            · rw [List.mem_singleton.mp h]; exact Int.emod_nonneg _ (by decide)
        · exact ⟨_, _, _, ds, rfl, hz, s, e1, h0, by omega⟩
      · rintro σ H'' ⟨z, x4, x5, ds, rfl, hz, s, e1, h0, hl⟩
        have hl : ds.length ≤ 40 * i + 40 := hl
        exact ⟨_, _, _, _, ds, rfl, s, e1, h0, by omega⟩
    · -- six mixed ones
      refine ⟨_, rfl, _, _, rfl, rfl, .inl ⟨by decide, by decide⟩, _, rfl, _, rfl, _, _, _, _, rfl, rfl, hS', hx, _, _, rfl, rfl, .inr ⟨_, rfl, _, _, rfl, rfl, ?_⟩⟩
      have hb : 0 ≤ 2 * (if ns[i] < 0 then -ns[i] else ns[i]) + (if decide (ns[i] < 0) = true then 1 else 0) ∧ 2 * (if ns[i] < 0 then -ns[i] else ns[i]) + (if decide (ns[i] < 0) = true then 1 else 0) < 2 ^ 62 := by
        have h1 : (2 : Int) ^ 62 = 4611686018427387904 := by decide
        rw [h1]
        split <;> split <;> omega
      obtain ⟨z, hz⟩ : ∃ z, z = 2 * (if ns[i] < 0 then -ns[i] else ns[i]) + (if decide (ns[i] < 0) = true then 1 else 0) := ⟨_, rfl⟩
      rw [← hz] at hb
      obtain ⟨hb0, hb1⟩ := hb
      refine ⟨_, rfl, by decide, by decide, for_range (lo := 0) (n := _) (fun j σ H'' => ∃ (x4 x5 : Option V) (ds : List Int), σ = [some (.ref a), some (.ref p), some (.int (0 + (i : Int))), some (.int z), x4, x5] ∧ Same H H'' ∧ H'' p = some (.lst (ds.map V.int)) ∧ (∀ d ∈ ds, (0 : Int) ≤ d) ∧ ds.length ≤ 40 * i + j) ?_ ?_ ?_⟩
      · exact ⟨_, _, ds, by rw [hz]; rfl, s, e1, h0, hl⟩
      · rintro j σ H'' hj ⟨x4, x5, ds, rfl, s, e1, h0, hl⟩
        have hj : j < 6 := hj
        refine ⟨_, rfl, _, _, rfl, rfl, .inl ⟨by omega, by omega⟩, _, rfl, _, _, rfl, rfl, .inl ⟨by decide, by decide⟩, _, rfl, _, _, rfl, rfl, _, _, rfl, rfl, _, _, rfl, rfl, .inl ⟨by omega, by omega⟩, _, _, rfl, rfl, .inl ⟨_, rfl, _, _, rfl, rfl, (by show (0 : Int) < _; decide), ?_⟩⟩
        refine genI (fun v => 0 ≤ v ∧ v < 2305843009213693951) ⟨Int.emod_nonneg _ (by decide), Int.emod_lt_of_pos _ (by decide)⟩ fun m1 b1 => ?_
        refine ⟨_, rfl, _, rfl, _, _, rfl, rfl, .inl ⟨by omega, by omega⟩, .inl ⟨_, rfl, _, _, rfl, rfl, (by show (0 : Int) < _; decide), ?_⟩⟩
        refine genI (fun v => 0 ≤ v ∧ v < 1000000000000000003) ⟨Int.emod_nonneg _ (by decide), Int.emod_lt_of_pos _ (by decide)⟩ fun m2 b2 => ?_
        refine ⟨_, rfl, tyL e1, _, rfl, _, rfl, _, _, rfl, rfl, .inl ⟨by omega, by omega⟩, .inl ⟨_, rfl, _, _, rfl, rfl, (by show (0 : Int) < _; decide), _, _, _, rfl, rfl, e1, line_of (by simp; omega), ?_⟩⟩
        refine ⟨_, _, ds ++ [m2 * m2 % 2305843009213693951], rfl, sOwn s hp, ?_, ?_, by simp; omega⟩
        · rw [upd_same]; simp
        · intro d hd
          rcases List.mem_append.mp hd with h | h
          · exact h0 d h
          · rw [List.mem_singleton.mp h]; exact Int.emod_nonneg _ (by decide)
      · rintro σ H'' ⟨x4, x5, ds, rfl, s, e1, h0, hl⟩
        have hl : ds.length ≤ 40 * i + 6 := hl
        exact ⟨_, _, _, _, ds, rfl, s, e1, h0, by omega⟩
  · rintro σ H' ⟨x1, x2, x3, x4, ds, rfl, s, e1, h0, hl⟩
    have hl : ds.length ≤ 40 * ns.length := hN ▸ hl
    exact ⟨_, rfl, k p H' hp s ⟨ds, e1, h0, by omega⟩⟩
theorem d__law_next (T : TT K mg) : Df Pg w K mg base 1 "_law_next" spNext := df_mk T (T.dd 18) (g__law_next T) (fun f fd F => ok__law_next T F) (fun _ _ _ _ _ _ us hl => match us, hl with | [_, _], _ => rfl)
theorem d__law_draws (T : TT K mg) : Df Pg w K mg base 1 "_law_draws" (spDraws K) := df_mk T (T.dd 17) (g__law_draws T) (fun f fd F => ok__law_draws T F) (fun _ _ _ _ _ _ us hl => match us, hl with | [_], _ => rfl)
end
end Sr
namespace Sr
open PySem PySem.Spec PyProof.Rows L2
/-! ### sets -/
abbrev LIM : Int := 1000000000000000000
def badP (p : Int × Int) : Bool := decide (p.1 < -LIM) || (decide (LIM < p.2) || decide (p.2 < p.1))
/-- a Stretches with these pairs -/
def St (K : PySem.W.Frag) (H : Hp) (v : V) (ps : List (Int × Int)) : Prop := ∃ (a dx t : Addr) (ts : List V), v = .ref a ∧ SlX.Slt H a (cA K "Stretches") dx [some (.ref t)] ∧ H t = some (.tup ts) ∧ Prs H ts ps
theorem St.same {K : PySem.W.Frag} {H H' : Hp} {v : V} {ps : List (Int × Int)} (s : Same H H') (h : St K H v ps) : St K H' v ps := by
  obtain ⟨a, dx, t, ts, rfl, hs, ht, hp⟩ := h
  refine ⟨a, dx, t, ts, rfl, ?_, s _ _ ht, hp.mono (.of s)⟩
  rcases hs with ⟨h1, h2⟩ | ⟨h1, h2⟩
  · exact .inl ⟨s _ _ h1, h2⟩
  · exact .inr ⟨s _ _ h1, s _ _ h2⟩
def xdBS (p : Int × Int) : HO := .xd [("high", .int p.2), ("low", .int p.1)]
def spSInit (K : PySem.W.Frag) : Sp := fun vs H Q E => ∃ (x dx a : Addr) (xs : List V) (ps : List (Int × Int)), vs = [.ref x, .ref a] ∧ H x = some (.ins (cA K "Stretches") dx []) ∧ H dx = some (.own x) ∧ dx ≠ x ∧ SqLT K H a xs ∧ Prs H xs ps ∧ ps.length ≤ 100000 ∧
  (ps.find? badP = none → ∀ (t : Addr) (ts : List V) (H' : Hp), (∀ b u, b ≠ x → b ≠ dx → H b = some u → H' b = some u) → SlX.Slt H' x (cA K "Stretches") dx [some (.ref t)] → H' t = some (.tup ts) → Prs H' ts (joinM ps) → Q .non H') ∧
  (∀ p, ps.find? badP = some p → ∀ (d : Addr) (H' : Hp), Same H H' → H' d = some (xdBS p) → E (.ref (cA K "BadStretch")) (some d) H')
section
variable {w : World} {K : PySem.W.Frag} {mg : Str → Option Value} {base : Heap}
theorem ok_Stretches_init {f : Addr} {fd : FuncData} {dvs : List V} (T : TT K mg) (F : FunD K "__init__" "Stretches.__init__" (defArgs s_Stretches_init) (defBody s_Stretches_init) (defScope s_Stretches_init) dvs [] f fd) : FnOk Pg w K mg base (L2.CX Pg w) 3 f fd ["self", "pairs"] (spSInit K) := by
  refine F.ok sc_Stretches_init (fun vs H Q E h => ?_) (fun cdv A outer s H vs Q E hr h => ⟨_, (pss_cons (ps_set (i := 2) sc_Stretches_init.nd rfl (Or.inl rfl) (pe_lst pa_nil))
  (pss_cons (ps_for (passes_of rfl) rfl (pi_lt (pv 1)) (pg_tup rfl (pgs_cons (pg_name (i := 3) sc_Stretches_init.nd rfl (Or.inl rfl)) (pgs_cons (pg_name (i := 4) sc_Stretches_init.nd rfl (Or.inl rfl)) pgs_nil)))
  (pss_cons (ps_if (PW.pt (pw_or (pt_cmpR op_lt (pv 3) (pe_un un_neg (C8.pe_gc rfl (c_LIMIT_stretches T))) (nomark _)) (pw_or (pt_cmpR op_gt (pv 4) (C8.pe_gc rfl (c_LIMIT_stretches T)) (nomark _)) (pw_or1 (pt_cmpR op_gt (pv 3) (pv 4) (nomark _))))))
  (pss_one (ps_raise rfl (takes_of rfl rfl rfl rfl) (pmk_er (er_BadStretch T) hr (by decide) (by decide) rfl (pa_cons (pv 3) (pa_cons (pv 4) pa_nil)))))
  pss_nil)
  (pss_one (ps_expr (pe_bm PySem.F.plainAttrs_list PySem.F.slot_list_append PySem.F.type_list_append mt_append (pv 2) (pa_cons (pe_tup (pa_cons (pv 3) (pa_cons (pv 4) pa_nil))) pa_nil))))))
  (pss_one (SlX.ps_sl (pv 0) (pe_df (d_joined T) hr (by decide) (takes_of rfl rfl rfl rfl) rfl (pa_cons (pv 2) pa_nil)))))), ?_⟩)
  · obtain ⟨x, dx, a, xs, ps, rfl, _⟩ := h
    rfl
  obtain ⟨x, dx, a, xs, ps, rfl, hx, hdx, hne, hS, hP, hl, kg, kb⟩ := h
  refine ⟨Nat.zero_le _, fun l hl0 => ?_⟩
  refine ⟨_, rfl, a, rfl, for_prLT (H0 := H) (qs := ps) (fun done σ H' => ∃ x3 x4 vs, σ = [some (.ref x), some (.ref a), some (.ref l), x3, x4] ∧ Same H H' ∧ H' l = some (.lst vs) ∧ Prs H' xs ps ∧ Prs H' vs done ∧ done.find? badP = none) hS ?_ ?_ ?_ ?_⟩
  · exact ⟨none, none, [], rfl, sNew hl0, upd_same, hP.mono (.of (sNew hl0)), .nil, rfl⟩
  · rintro done σ H' ⟨x3, x4, vs, rfl, s, e1, hP', hV, hd⟩
    exact ⟨s, hP'⟩
  · rintro done q rest σ H' hq ⟨x3, x4, vs, rfl, s, e1, hP', hV, hd⟩
    have hdl : done.length + 1 ≤ ps.length := by
      have h1 := congrArg List.length hq
      rw [List.length_append, List.length_cons] at h1
      omega
    have hvl := hV.len
    have fb : badP q = true → ps.find? badP = some q := fun c => by
      rw [hq, List.find?_append, hd]
      simp [c]
    have ra : badP q = true → tEr (cA K "BadStretch") ["low", "high"] (tCons (tVar 3) (tCons (tVar 4) tNil)) [some (.ref x), some (.ref a), some (.ref l), some (.int q.1), some (.int q.2)] H' (fun cls d H' => E cls d H') := fun c =>
      ⟨_, rfl, _, rfl, rfl, fun d hd0 => kb q (fb c) d _ (s.trans (sNew hd0)) upd_same⟩
    refine ⟨_, rfl, _, rfl, _, _, rfl, rfl, _, rfl, iteD (fun c1 => iteT (ra ?_)) (fun c1 => ⟨_, rfl, _, _, rfl, rfl, _, rfl, iteD (fun c2 => iteT (ra ?_)) (fun c2 => ⟨_, rfl, _, rfl, _, _, rfl, rfl, _, rfl, iteD (fun c3 => ra ?_) (fun c3 => ?_)⟩)⟩)⟩
    · simp [badP, c1]
    · simp [badP, c2]
    · simp [badP, c3]
    refine ⟨_, rfl, tyL e1, _, rfl, _, rfl, line_le (by simp), fun t ht => ?_⟩
    have htl : t ≠ l := Ne.symm (ne_of_none e1 ht)
    refine ⟨l, _, .ref t, rfl, rfl, by rw [upd_ne (Ne.symm htl)]; exact e1, line_of (by omega), ?_⟩
    have T1 : TupLe H' (upd (upd H' t (.tup [.int q.1, .int q.2])) l (.lst (vs ++ [.ref t]))) := by
      intro u us hu; grind [upd]
    refine ⟨_, _, _, rfl, sOwn (sOwn s (s.free ht)) hl0, upd_same, hP'.mono T1, (hV.mono T1).snoc ⟨t, rfl, by grind [upd]⟩, ?_⟩
    rw [List.find?_append, hd]
    have hq0 : badP q = false := by simp [badP, c1, c2, c3]
    simp [hq0]
  · rintro σ H' ⟨x3, x4, vs, rfl, s, e1, hP', hV, hd⟩
    refine ⟨_, rfl, l, vs, ps, rfl, SqL.of e1, hV, hl, fun t ts H'' s2 ht et hT => ?_⟩
    have s3 := s.trans s2
    refine ⟨_, rfl, x, _, dx, _, [], 0, rfl, .inl ⟨s3 _ _ hx, rfl⟩, scl_Stretches T, sl_Stretches_pairs T, ?_⟩
    have htx : t ≠ x := by intro z; rw [z, s _ _ hx] at ht; cases ht
    have htd : t ≠ dx := by intro z; rw [z, s _ _ hdx] at ht; cases ht
    refine kg hd t ts _ (fun b u h1 h2 e => ?_) (SlX.slH_slt hne) ?_ ?_
    · rw [SlX.slH_ne h1 h2]
      exact s3 _ _ e
    · rw [SlX.slH_ne htx htd]
      exact et
    · refine hT.mono fun b us e => ?_
      have h1 : b ≠ x := by intro z; rw [z, s3 _ _ hx] at e; cases e
      have h2 : b ≠ dx := by intro z; rw [z, s3 _ _ hdx] at e; cases e
      rw [SlX.slH_ne h1 h2]
      exact e
def spStr (K : PySem.W.Frag) : Sp := fun vs H Q E => ∃ (a : Addr) (xs : List V) (ps : List (Int × Int)), vs = [.ref a] ∧ SqLT K H a xs ∧ Prs H xs ps ∧ ps.length ≤ 100000 ∧
  (ps.find? badP = none → ∀ (x : V) (H' : Hp), Same H H' → St K H' x (joinM ps) → Q x H') ∧
  (∀ p, ps.find? badP = some p → ∀ (d : Addr) (H' : Hp), Same H H' → H' d = some (xdBS p) → E (.ref (cA K "BadStretch")) (some d) H')
theorem d_Stretches (T : TT K mg) : Df Pg w K mg base 4 "Stretches" (spStr K) := by
  have d := T.dd 15
  obtain ⟨fd, F0⟩ := d.funD rfl
  obtain ⟨ds, hv, hb⟩ := F0.binds1 (ps := ["self", "pairs"]) 2 1 (by simp [He.Dv.v]) rfl (fun T kV doc pm an cdv ct us its hu hi => match us, its, hu, hi with | [_, _], [_], _, _ => ⟨_, rfl, rfl⟩)
  have hds : ds = [] := by
    have z := hv.length
    exact List.length_eq_zero_iff.mp z.symm
  subst hds
  have R : FnR Pg w K mg base (L2.CX Pg w) 3 (mA K "Stretches" "__init__") (spSInit K) := ((ok_Stretches_init T F0).raw hb .nil).imp fun vs H Q E h => by rw [List.append_nil]; exact h
  refine ⟨cA K "Stretches", (callOk_mk (mk_Stretches T) R).imp fun vs H Q E h => ?_, g_Stretches T, (mk_Stretches T).kp⟩
  obtain ⟨a, xs, ps, rfl, hS, hP, hl, kg, kb⟩ := h
  intro x dx nx nd hne
  have s1 : Same H (upd (upd H dx (.own x)) x (.ins (cA K "Stretches") dx [])) := sOwn (sNew nd) nx
  refine ⟨x, dx, a, xs, ps, rfl, upd_same, by rw [upd_ne hne, upd_same], hne, hS.same s1, hP.mono (.of s1), hl, fun hb t ts H' ks sl et hT => ⟨rfl, ?_⟩, fun p hp d H' s2 e => kb p hp d H' (s1.trans s2) e⟩
  refine kg hb _ H' (fun b u e => ks b u ?_ ?_ (s1 b u e)) ⟨x, dx, t, ts, rfl, sl, et, hT⟩
  · intro z; rw [z, nx] at e; cases e
  · intro z; rw [z, nd] at e; cases e
def inP (n : Int) (p : Int × Int) : Bool := decide (p.1 ≤ n) && decide (n ≤ p.2)
def spCont (K : PySem.W.Frag) : Sp := fun vs H Q _ => ∃ (x : V) (n : Int) (ps : List (Int × Int)), vs = [x, .int n] ∧ St K H x ps ∧ Q (.bl (ps.any (inP n))) H
theorem ok_Stretches_contains {f : Addr} {fd : FuncData} (T : TT K mg) (F : FunD K "__contains__" "Stretches.__contains__" (defArgs s_Stretches_contains) (defBody s_Stretches_contains) (defScope s_Stretches_contains) [] [] f fd) : FnOk Pg w K mg base (L2.CX Pg w) 1 f fd ["self", "number"] (spCont K) := by
  refine F.ok sc_Stretches_contains (fun vs H Q E h => ?_) (fun cdv A outer s H vs Q E hr h => ⟨_, (pss_cons (ps_for (passes_of rfl) rfl (pi_tup (SlX.pe_sl (pv 0))) (pg_tup rfl (pgs_cons (pg_name (i := 2) sc_Stretches_contains.nd rfl (Or.inl rfl)) (pgs_cons (pg_name (i := 3) sc_Stretches_contains.nd rfl (Or.inl rfl)) pgs_nil)))
  (pss_one (ps_if (pt_chain op_le op_le (pv 2) (pv 1) (pv 3))
  (pss_one (ps_ret pe_bl))
  pss_nil)))
  (pss_one (ps_ret pe_bl))), ?_⟩)
  · obtain ⟨x, n, ps, rfl, _⟩ := h
    rfl
  obtain ⟨x, n, ps, rfl, ⟨a, dx, t, ts, rfl, hs, ht, hP⟩, k⟩ := h
  refine ⟨_, rfl, a, _, dx, _, _, 0, .ref t, rfl, hs, scl_Stretches T, sl_Stretches_pairs T, rfl, t, rfl, ⟨_, SqT.of ht⟩, for_prT (ys := ts) (qs := ps) (fun done σ H' => ∃ x3 x4, σ = [some (.ref a), some (.int n), x3, x4] ∧ H' = H ∧ done.any (inP n) = false) ?_ ?_ ?_ ?_⟩
  · exact ⟨none, none, rfl, rfl, rfl⟩
  · rintro done σ H' ⟨x3, x4, rfl, rfl, hd⟩
    exact ⟨SqT.of ht, hP⟩
  · rintro done q rest σ H' hq ⟨x3, x4, rfl, rfl, hd⟩
    refine ⟨_, rfl, _, rfl, _, _, rfl, rfl, _, rfl, iteD (fun c1 => ⟨_, rfl, _, _, rfl, rfl, _, rfl, iteD (fun c2 => ?_) (fun c2 => ?_)⟩) (fun c1 => ?_)⟩
    · have e : ps.any (inP n) = true := by rw [hq]; simp [inP, c1, c2]
      rw [e] at k
      exact k
    · exact ⟨_, _, rfl, rfl, by simp [hd, inP, c1, c2]⟩
    · exact ⟨_, rfl, iteF ⟨_, _, rfl, rfl, by simp [hd, inP, c1]⟩⟩
  · rintro σ H' ⟨x3, x4, rfl, rfl, hd⟩
    rw [hd] at k
    exact k
theorem ct_Stretches (T : TT K mg) : CallOk Pg w K mg base 1 (mA K "Stretches" "__contains__") (spCont K) := callOk_fn (fnR_mk T (T.dd 16) (fun f fd F => ok_Stretches_contains T F) (fun _ _ _ _ _ _ us hl => match us, hl with | [_, _], _ => rfl))
end
end Sr
namespace Sr
open PySem PySem.Spec PyProof.Rows L2
/-! ### what the scripts build -/
def okZ (lo hi : Int) : Prop := -LIM ≤ lo ∧ lo ≤ hi ∧ hi ≤ LIM
def okP (p : Int × Int) : Prop := -LIM ≤ p.1 ∧ p.1 ≤ p.2 ∧ p.2 ≤ LIM
theorem okP.bad {p : Int × Int} (h : okP p) : badP p = false := by
  obtain ⟨h1, h2, h3⟩ := h
  have a : ¬ p.1 < -LIM := by omega
  have b : ¬ LIM < p.2 := by omega
  have c : ¬ p.2 < p.1 := by omega
  simp [badP, a, b, c]
theorem ok_find {ps : List (Int × Int)} (h : ∀ p ∈ ps, okP p) : ps.find? badP = none := List.find?_eq_none.mpr fun p hp => by rw [(h p hp).bad]; exact Bool.false_ne_true
def spIsInt : Sp := fun vs H Q _ => ∃ i : Int, vs = [.int i] ∧ Q (.bl true) H
def spZone : Sp := fun vs H Q _ => ∃ a : Addr, vs = [.ref a] ∧ Dr H a ∧ ∀ (lo hi : Int) (t : Addr) (H' : Hp), okZ lo hi → Dr H' a → But a H H' → H' t = some (.tup [.int lo, .int hi]) → Q (.ref t) H'
def spPairs : Sp := fun vs H Q _ => ∃ (a z : Addr) (lo hi m : Int), vs = [.ref a, .ref z, .int m] ∧ Dr H a ∧ H z = some (.tup [.int lo, .int hi]) ∧ okZ lo hi ∧ 0 ≤ m ∧ m ≤ 1000 ∧
  ∀ (p : Addr) (xs : List V) (ps : List (Int × Int)) (H' : Hp), H p = none → Dr H' a → But a H H' → H' p = some (.lst xs) → Prs H' xs ps → (∀ q ∈ ps, okP q) → ps.length ≤ 2000 → Q (.ref p) H'
section
variable {w : World} {K : PySem.W.Frag} {mg : Str → Option Value} {base : Heap} {f : Addr} {fd : FuncData}
theorem ok__law_is_int (T : TT K mg) (F : FunD K "_law_is_int" "_law_is_int" (defArgs s__law_is_int) (defBody s__law_is_int) (defScope s__law_is_int) [] [] f fd) : FnOk Pg w K mg base (L2.CX Pg w) 1 f fd ["_law_value"] spIsInt := by
  refine F.ok sc__law_is_int (fun vs H Q E h => ?_) (fun cdv A outer s H vs Q E hr h => ⟨_, (pss_one (ps_ret (pe_and (pe_callB call_isi (by rfl) (f_isinstance T) (by decide +kernel) (pa_cons (pv 0) (pa_cons (pe_ty (n := "int") rfl (f_int T) (by decide +kernel)) pa_nil))) (pe_one (pe_not (pe_callB call_isi (by rfl) (f_isinstance T) (by decide +kernel) (pa_cons (pv 0) (pa_cons (pe_ty (n := "bool") rfl (f_bool T) (by decide +kernel)) pa_nil)))))))), ?_⟩)
  · obtain ⟨i, rfl, _⟩ := h
    rfl
  obtain ⟨i, rfl, k⟩ := h
  refine ⟨_, rfl, _, _, _, _, _, rfl, .ty _, .base (.int i), kit_ty (by decide +kernel), true, rfl, ?_⟩
  exact iteT ⟨_, rfl, _, _, _, _, false, rfl, .ty _, .base (.int i), kit_ty (by decide +kernel), false, rfl, k⟩
theorem ok__law_zone (T : TT K mg) (F : FunD K "_law_zone" "_law_zone" (defArgs s__law_zone) (defBody s__law_zone) (defScope s__law_zone) [] [] f fd) : FnOk Pg w K mg base (L2.CX Pg w) 2 f fd ["_law_draws_here"] spZone := by
  refine F.ok sc__law_zone (fun vs H Q E h => ?_) (fun cdv A outer s H vs Q E hr h => ⟨_, (pss_cons (ps_set (i := 1) sc__law_zone.nd rfl (Or.inl rfl) (pe_df (d__law_next T) hr (by decide) (takes_of rfl rfl rfl rfl) rfl (pa_cons (pv 0) (pa_cons pe_int pa_nil))))
  (pss_cons (ps_if (pt_cmpR op_eq (pv 1) pe_int (nomark _))
  (pss_one (ps_ret (pe_tup (pa_cons (pe_cst (v := .int (-1000000000000000000)) (pe_un un_neg (pe_cst (v := .int (1000000000000000000)) (pe_op op_pow pe_int pe_int) (fun _ _ _ h => ⟨_, _, rfl, rfl, ⟨by decide, by decide, by decide⟩, cst_eq (by decide) h⟩))) (fun _ _ _ h => ⟨_, rfl, cst_eq (by decide) h⟩)) (pa_cons (pe_cst (v := .int (1000000000000000000)) (pe_op op_pow pe_int pe_int) (fun _ _ _ h => ⟨_, _, rfl, rfl, ⟨by decide, by decide, by decide⟩, cst_eq (by decide) h⟩)) pa_nil)))))
  pss_nil)
  (pss_cons (ps_if (pt_cmpR op_eq (pv 1) pe_int (nomark _))
  (pss_one (ps_ret (pe_tup (pa_cons (pe_cst (v := .int (999999999999999980)) (pe_op op_sub (pe_cst (v := .int (1000000000000000000)) (pe_op op_pow pe_int pe_int) (fun _ _ _ h => ⟨_, _, rfl, rfl, ⟨by decide, by decide, by decide⟩, cst_eq (by decide) h⟩)) pe_int) (fun _ _ _ h => ⟨_, _, rfl, rfl, cst_eq (by decide) h⟩)) (pa_cons (pe_cst (v := .int (1000000000000000000)) (pe_op op_pow pe_int pe_int) (fun _ _ _ h => ⟨_, _, rfl, rfl, ⟨by decide, by decide, by decide⟩, cst_eq (by decide) h⟩)) pa_nil)))))
  pss_nil)
  (pss_cons (ps_if (pt_cmpR op_eq (pv 1) pe_int (nomark _))
  (pss_one (ps_ret (pe_tup (pa_cons (pe_cst (v := .int (-1000000000000000000)) (pe_un un_neg (pe_cst (v := .int (1000000000000000000)) (pe_op op_pow pe_int pe_int) (fun _ _ _ h => ⟨_, _, rfl, rfl, ⟨by decide, by decide, by decide⟩, cst_eq (by decide) h⟩))) (fun _ _ _ h => ⟨_, rfl, cst_eq (by decide) h⟩)) (pa_cons (pe_cst (v := .int (-999999999999999980)) (pe_op op_sub pe_int (pe_cst (v := .int (1000000000000000000)) (pe_op op_pow pe_int pe_int) (fun _ _ _ h => ⟨_, _, rfl, rfl, ⟨by decide, by decide, by decide⟩, cst_eq (by decide) h⟩))) (fun _ _ _ h => ⟨_, _, rfl, rfl, cst_eq (by decide) h⟩)) pa_nil)))))
  pss_nil)
  (pss_cons (ps_if (pt_cmpR op_eq (pv 1) pe_int (nomark _))
  (pss_one (ps_ret (pe_tup (pa_cons (pe_cst (v := .int (-1000)) (pe_un un_neg pe_int) (fun _ _ _ h => ⟨_, rfl, cst_eq (by decide) h⟩)) (pa_cons pe_int pa_nil)))))
  pss_nil)
  (pss_one (ps_ret (pe_tup (pa_cons (pe_cst (v := .int (-6)) (pe_un un_neg pe_int) (fun _ _ _ h => ⟨_, rfl, cst_eq (by decide) h⟩)) (pa_cons pe_int pa_nil)))))))))), ?_⟩)
  · obtain ⟨a, rfl, _⟩ := h
    rfl
  obtain ⟨a, rfl, hD, k⟩ := h
  refine ⟨_, rfl, a, 6, rfl, hD, by decide, fun r H1 r0 r1 D1 B1 => ?_⟩
  have fin : ∀ (lo hi : Int), okZ lo hi → ∀ p : Addr, H1 p = none → Q (.ref p) (upd H1 p (.tup [.int lo, .int hi])) := fun lo hi z p hp => k lo hi p _ z (D1.new hp) (B1.new hp) upd_same
  refine ⟨_, rfl, rfl, _, rfl, iteEq (fun c => ?_) (fun c => ?_)⟩
  · exact ⟨line_le (by simp), fun p hp => fin _ _ (by refine ⟨?_, ?_, ?_⟩ <;> decide) p hp⟩
  refine ⟨_, rfl, rfl, _, rfl, iteEq (fun c => ?_) (fun c => ?_)⟩
  · exact ⟨line_le (by simp), fun p hp => fin _ _ (by refine ⟨?_, ?_, ?_⟩ <;> decide) p hp⟩
  refine ⟨_, rfl, rfl, _, rfl, iteEq (fun c => ?_) (fun c => ?_)⟩
  · exact ⟨line_le (by simp), fun p hp => fin _ _ (by refine ⟨?_, ?_, ?_⟩ <;> decide) p hp⟩
  refine ⟨_, rfl, rfl, _, rfl, iteEq (fun c => ?_) (fun c => ?_)⟩
  · exact ⟨line_le (by simp), fun p hp => fin _ _ (by refine ⟨?_, ?_, ?_⟩ <;> decide) p hp⟩
  exact ⟨line_le (by simp), fun p hp => fin _ _ (by refine ⟨?_, ?_, ?_⟩ <;> decide) p hp⟩
theorem ok__law_pairs (T : TT K mg) (F : FunD K "_law_pairs" "_law_pairs" (defArgs s__law_pairs) (defBody s__law_pairs) (defScope s__law_pairs) [] [] f fd) : FnOk Pg w K mg base (L2.CX Pg w) 2 f fd ["_law_draws_here", "_law_zone_here", "_law_many"] spPairs := by
  refine F.ok sc__law_pairs (fun vs H Q E h => ?_) (fun cdv A outer s H vs Q E hr h => ⟨_, (pss_cons (ps_set (i := 3) sc__law_pairs.nd rfl (Or.inl rfl) (pe_lst pa_nil))
  (pss_cons (ps_for (passes_of rfl) rfl (pi_range1 (by rfl) (f_range T) (pa_cons (pe_df (d__law_next T) hr (by decide) (takes_of rfl rfl rfl rfl) rfl (pa_cons (pv 0) (pa_cons (pe_op op_add (pv 2) pe_int) pa_nil))) pa_nil)) (pg_name (i := 4) sc__law_pairs.nd rfl (Or.inl rfl))
  (pss_cons (ps_set (i := 5) sc__law_pairs.nd rfl (Or.inl rfl) (pe_op op_add (pe_ix ix_tup (pv 1) pe_int (fun _ _ => rfl)) (pe_df (d__law_next T) hr (by decide) (takes_of rfl rfl rfl rfl) rfl (pa_cons (pv 0) (pa_cons (pe_op op_add (pe_op op_sub (pe_ix ix_tup (pv 1) pe_int (fun _ _ => rfl)) (pe_ix ix_tup (pv 1) pe_int (fun _ _ => rfl))) pe_int) pa_nil)))))
  (pss_cons (ps_set (i := 6) sc__law_pairs.nd rfl (Or.inl rfl) (pe_df (d__law_next T) hr (by decide) (takes_of rfl rfl rfl rfl) rfl (pa_cons (pv 0) (pa_cons (pe_cst (v := .int (100000000000000000000)) (pe_op op_pow pe_int pe_int) (fun _ _ _ h => ⟨_, _, rfl, rfl, ⟨by decide, by decide, by decide⟩, cst_eq (by decide) h⟩)) pa_nil))))
  (pss_cons (ps_if (pt_cmpR op_eq (pe_op op_mod (pe_callTy call_int1 (by rfl) (f_int T) (by decide +kernel) (pa_cons (pv 6) pa_nil)) pe_int) pe_int (nomark _))
  (pss_one (ps_set (i := 6) sc__law_pairs.nd rfl (Or.inl rfl) (pe_op op_mod (pe_callTy call_int1 (by rfl) (f_int T) (by decide +kernel) (pa_cons (pe_op op_fdivW (pv 6) pe_int) pa_nil)) pe_int)))
  (pss_one (ps_set (i := 6) sc__law_pairs.nd rfl (Or.inl rfl) (pe_op op_mod (pe_callTy call_int1 (by rfl) (f_int T) (by decide +kernel) (pa_cons (pe_op op_fdivW (pv 6) pe_int) pa_nil)) (pe_op op_add (pe_op op_sub (pe_ix ix_tup (pv 1) pe_int (fun _ _ => rfl)) (pv 5)) pe_int)))))
  (pss_one (ps_expr (pe_bm PySem.F.plainAttrs_list PySem.F.slot_list_append PySem.F.type_list_append mt_append (pv 3) (pa_cons (pe_tup (pa_cons (pv 5) (pa_cons (pe_callB (call_min2 rfl) (by rfl) (f_min T) (by decide +kernel) (pa_cons (pe_ix ix_tup (pv 1) pe_int (fun _ _ => rfl)) (pa_cons (pe_op op_add (pv 5) (pv 6)) pa_nil))) pa_nil))) pa_nil))))))))
  (pss_cons (ps_if (PW.pt (pw_and (pt_cmpR (op_neD hr.units) (pv 3) (pe_lst pa_nil) (nomark _)) (pw_and1 (pt_cmpR op_eq (pe_df (d__law_next T) hr (by decide) (takes_of rfl rfl rfl rfl) rfl (pa_cons (pv 0) (pa_cons pe_int pa_nil))) pe_int (nomark _)))))
  (pss_one (ps_expr (pe_bm PySem.F.plainAttrs_list PySem.F.slot_list_append PySem.F.type_list_append mt_append (pv 3) (pa_cons (pe_ix ix_list (pv 3) pe_int (fun _ _ => rfl)) pa_nil))))
  pss_nil)
  (pss_one (ps_ret (pv 3)))))), ?_⟩)
  · obtain ⟨a, z, lo, hi, m, rfl, _⟩ := h
    rfl
  obtain ⟨a, z, lo, hi, m, rfl, hD, hz, hZ, hm, hm2, k⟩ := h
  obtain ⟨hz1, hz2, hz3⟩ := hZ
  refine ⟨line_le (by simp), fun l hl0 => ?_⟩
  have hla : l ≠ a := hD.ne hl0
  have za : z ≠ a := by rintro rfl; obtain ⟨_, e⟩ := hD.ls; rw [hz] at e; cases e
  refine ⟨_, rfl, _, rfl, _, _, rfl, rfl, a, m + 1, rfl, hD.new hl0, by omega, fun n H1 n0 n1 D1 B1 => ?_⟩
  have B1' : But a H H1 := fun b u h1 e => B1 b u h1 (by rw [upd_ne (ne_of_none e hl0)]; exact e)
  refine ⟨_, rfl, by omega, by omega, for_range (lo := 0) (n := _) (fun i σ G => ∃ (x1 x2 x3 : Option V) (vs : List V) (ps : List (Int × Int)), σ = [some (.ref a), some (.ref z), some (.int m), some (.ref l), x1, x2, x3] ∧ Dr G a ∧ But a H G ∧ G l = some (.lst vs) ∧ Prs G vs ps ∧ (∀ q ∈ ps, okP q) ∧ ps.length = i) ?_ ?_ ?_⟩
  · exact ⟨_, _, _, [], [], rfl, D1, B1', B1 _ _ hla upd_same, .nil, (fun _ h => nomatch h), rfl⟩
  · rintro i σ G hi' ⟨x1, x2, x3, vs, ps, rfl, DG, BG, e1, hP, hq, hn⟩
    have ht : G z = some (.tup [.int lo, .int hi]) := BG _ _ za hz
    refine ⟨_, rfl, z, _, _, _, rfl, rfl, SqT.of ht, rfl, _, rfl, _, rfl, z, _, _, _, rfl, rfl, SqT.of ht, rfl, _, rfl, z, _, _, _, rfl, rfl, SqT.of ht, rfl, _, _, rfl, rfl, _, _, rfl, rfl, a, hi - lo + 1, rfl, DG, by omega, fun r1 G1 r10 r11 DG1 BG1 => ?_⟩
    refine ⟨_, _, rfl, rfl, _, rfl, a, _, rfl, DG1, by decide, fun r2 G2 r20 r21 DG2 BG2 => ?_⟩
    have B2 : But a G G2 := BG1.trans BG2
    have e2 : G2 l = some (.lst vs) := B2 _ _ hla e1
    have hz2' : G2 z = some (.tup [.int lo, .int hi]) := B2 _ _ za ht
    have hP2 : Prs G2 vs ps := hP.mono (DG.tup B2)
    have BB : But a H G2 := BG.trans B2
    have hvl := hP.len
    have hlen : ps.length ≤ 1001 := by omega
    -- the length
    have rest : ∀ y : Int, 0 ≤ y → ∀ (x1 : Int), lo ≤ x1 → x1 ≤ hi → ∀ (p : Addr), G2 p = none → p ≠ l → p ≠ z → (G' : Hp) → G' = upd (upd G2 p (.tup [.int x1, .int (if x1 + y < hi then x1 + y else hi)])) l (.lst (vs ++ [.ref p])) →
        Dr G' a ∧ But a H G' ∧ G' l = some (.lst (vs ++ [.ref p])) ∧ Prs G' (vs ++ [.ref p]) (ps ++ [(x1, if x1 + y < hi then x1 + y else hi)]) ∧ (∀ q ∈ ps ++ [(x1, if x1 + y < hi then x1 + y else hi)], okP q) := by
      rintro y hy x1 h1 h2 p hp hpl hpz G' rfl
      have T1 : TupLe G2 (upd (upd G2 p (.tup [.int x1, .int (if x1 + y < hi then x1 + y else hi)])) l (.lst (vs ++ [.ref p]))) := by
        intro u us hu; grind [upd]
      refine ⟨(DG2.new hp).set hla, (BB.new hp).own hl0, upd_same, (hP2.mono T1).snoc ⟨p, rfl, by grind [upd]⟩, fun q hq' => ?_⟩
      rcases List.mem_append.mp hq' with h | h
      · exact hq q h
      · rw [List.mem_singleton.mp h]
        refine ⟨by show -LIM ≤ x1; omega, ?_, ?_⟩
        · show x1 ≤ _
          split <;> omega
        · show _ ≤ LIM
          split <;> omega
    have x1lo : lo ≤ lo + r1 := by omega
    have x1hi : lo + r1 ≤ hi := by omega
    refine ⟨_, rfl, .inl ⟨_, rfl, _, _, rfl, rfl, (by show (0 : Int) < _; decide), rfl, _, rfl, iteEq (fun c => ?_) (fun c => ?_)⟩⟩
    · refine ⟨_, rfl, _, _, rfl, rfl, divOk (by decide) (by decide), .inl ⟨_, rfl, _, _, rfl, rfl, (by show (0 : Int) < _; decide), ?_⟩⟩
      refine genI (fun v => 0 ≤ v) (Int.emod_nonneg _ (by decide)) fun y hy => ?_
      refine ⟨_, rfl, tyL e2, _, rfl, _, rfl, z, _, _, _, rfl, rfl, SqT.of hz2', rfl, _, rfl, _, rfl, _, _, rfl, rfl, _, _, rfl, line_le (by simp), fun p hp => ?_⟩
      have hpl : p ≠ l := Ne.symm (ne_of_none e2 hp)
      have hpz : p ≠ z := Ne.symm (ne_of_none hz2' hp)
      refine ⟨l, _, .ref p, rfl, rfl, by rw [upd_ne (Ne.symm hpl)]; exact e2, line_of (by omega), ?_⟩
      obtain ⟨q1, q2, q3, q4, q5⟩ := rest y hy (lo + r1) x1lo x1hi p hp hpl hpz _ rfl
      exact ⟨_, _, _, _, _, rfl, q1, q2, q3, q4, q5, by simp [hn]⟩
    · refine ⟨_, rfl, _, _, rfl, rfl, divOk (by decide) (by decide), .inl ⟨_, rfl, _, rfl, z, _, _, _, rfl, rfl, SqT.of hz2', rfl, _, rfl, _, _, rfl, rfl, _, _, rfl, rfl, _, _, rfl, rfl, by show (0 : Int) < hi - (lo + r1) + 1; omega, ?_⟩⟩
      refine genI (fun v => 0 ≤ v) (Int.emod_nonneg _ (by omega)) fun y hy => ?_
      refine ⟨_, rfl, tyL e2, _, rfl, _, rfl, z, _, _, _, rfl, rfl, SqT.of hz2', rfl, _, rfl, _, rfl, _, _, rfl, rfl, _, _, rfl, line_le (by simp), fun p hp => ?_⟩
      have hpl : p ≠ l := Ne.symm (ne_of_none e2 hp)
      have hpz : p ≠ z := Ne.symm (ne_of_none hz2' hp)
      refine ⟨l, _, .ref p, rfl, rfl, by rw [upd_ne (Ne.symm hpl)]; exact e2, line_of (by omega), ?_⟩
      obtain ⟨q1, q2, q3, q4, q5⟩ := rest y hy (lo + r1) x1lo x1hi p hp hpl hpz _ rfl
      exact ⟨_, _, _, _, _, rfl, q1, q2, q3, q4, q5, by simp [hn]⟩
  · rintro σ G ⟨x1, x2, x3, vs, ps, rfl, DG, BG, e1, hP, hq, hn⟩
    have hn' : ps.length ≤ 1001 := by omega
    refine ⟨_, rfl, line_le (by simp), fun p hp => ?_⟩
    have hpl : p ≠ l := Ne.symm (ne_of_none e1 hp)
    have e2 : upd G p (.lst []) l = some (.lst vs) := by rw [upd_ne (Ne.symm hpl)]; exact e1
    have hP2 : Prs (upd G p (.lst [])) vs ps := hP.mono (TupLe.new hp)
    refine ⟨.list (ps.map pD), .list [], .lst (SqL.of e2) (dp_prs hP2), .lst (SqL.of upd_same) .nil, sh_prs ps, rfl, _, rfl, ?_⟩
    rw [eqv_prs0]
    have fin : Q (.ref l) (upd G p (.lst [])) := k l vs ps _ hl0 (DG.new hp) (BG.new hp) e2 hP2 hq (by omega)
    refine iteND (fun c => ?_) (fun c => iteF ⟨_, rfl, fin⟩)
    refine ⟨_, rfl, a, 4, rfl, DG.new hp, by decide, fun r G2 r0 r1 DG2 BG2 => ?_⟩
    have e3 : G2 l = some (.lst vs) := BG2 _ _ hla e2
    have BB : But a H G2 := (BG.new hp).trans BG2
    have hP3 : Prs G2 vs ps := hP2.mono ((DG.new hp).tup BG2)
    refine ⟨rfl, _, rfl, iteEq (fun c1 => ?_) (fun c1 => ⟨_, rfl, k l vs ps _ hl0 DG2 BB e3 hP3 hq (by omega)⟩)⟩
    cases hP3 with
    | nil => exact absurd rfl c
    | @cons x p0 vs ps hx hr =>
      have T1 : TupLe G2 (upd G2 l (.lst (x :: vs ++ [x]))) := TupLe.lst e3
      refine ⟨_, rfl, tyL e3, _, rfl, l, _, _, x, rfl, rfl, SqL.of e3, atI_nat (j := 0) rfl, l, _, _, rfl, rfl, e3, line_of (by have := Paired.length hr; simp at hn' ⊢; omega), ?_⟩
      refine ⟨_, rfl, k l _ (p0 :: ps ++ [p0]) _ hl0 (DG2.set hla) (BB.own hl0) upd_same ((Prs.mono T1 (.cons hx hr)).snoc (hx.mono T1)) (fun q hq' => ?_) (by simp at hn' ⊢; omega)⟩
      rcases List.mem_append.mp hq' with h | h
      · exact hq q h
      · rw [List.mem_singleton.mp h]; exact hq p0 List.mem_cons_self
def spSpoilt : Sp := fun vs H Q _ => ∃ (a z : Addr) (lo hi : Int), vs = [.ref a, .ref z] ∧ Dr H a ∧ H z = some (.tup [.int lo, .int hi]) ∧ okZ lo hi ∧
  ∀ (t : Addr) (p : Int × Int) (H' : Hp), Dr H' a → But a H H' → H' t = some (.tup [.int p.1, .int p.2]) → badP p = true → Q (.ref t) H'
theorem ok__law_spoilt (T : TT K mg) (F : FunD K "_law_spoilt" "_law_spoilt" (defArgs s__law_spoilt) (defBody s__law_spoilt) (defScope s__law_spoilt) [] [] f fd) : FnOk Pg w K mg base (L2.CX Pg w) 2 f fd ["_law_draws_here", "_law_zone_here"] spSpoilt := by
  refine F.ok sc__law_spoilt (fun vs H Q E h => ?_) (fun cdv A outer s H vs Q E hr h => ⟨_, (pss_cons (ps_set (i := 2) sc__law_spoilt.nd rfl (Or.inl rfl) (pe_df (d__law_next T) hr (by decide) (takes_of rfl rfl rfl rfl) rfl (pa_cons (pv 0) (pa_cons pe_int pa_nil))))
  (pss_cons (ps_set (i := 3) sc__law_spoilt.nd rfl (Or.inl rfl) (pe_op op_add (pe_ix ix_tup (pv 1) pe_int (fun _ _ => rfl)) (pe_df (d__law_next T) hr (by decide) (takes_of rfl rfl rfl rfl) rfl (pa_cons (pv 0) (pa_cons (pe_op op_add (pe_op op_sub (pe_ix ix_tup (pv 1) pe_int (fun _ _ => rfl)) (pe_ix ix_tup (pv 1) pe_int (fun _ _ => rfl))) pe_int) pa_nil)))))
  (pss_cons (ps_set (i := 4) sc__law_spoilt.nd rfl (Or.inl rfl) (pe_df (d__law_next T) hr (by decide) (takes_of rfl rfl rfl rfl) rfl (pa_cons (pv 0) (pa_cons (pe_cst (v := .int (10000000000000000000)) (pe_op op_pow pe_int pe_int) (fun _ _ _ h => ⟨_, _, rfl, rfl, ⟨by decide, by decide, by decide⟩, cst_eq (by decide) h⟩)) pa_nil))))
  (pss_cons (ps_if (pt_cmpR op_eq (pe_op op_mod (pe_callTy call_int1 (by rfl) (f_int T) (by decide +kernel) (pa_cons (pv 4) pa_nil)) pe_int) pe_int (nomark _))
  (pss_one (ps_set (i := 4) sc__law_spoilt.nd rfl (Or.inl rfl) (pe_op op_mod (pe_callTy call_int1 (by rfl) (f_int T) (by decide +kernel) (pa_cons (pe_op op_fdivW (pv 4) pe_int) pa_nil)) pe_int)))
  pss_nil)
  (pss_cons (ps_set (i := 4) sc__law_spoilt.nd rfl (Or.inl rfl) (pe_op op_add (pv 4) pe_int))
  (pss_cons (ps_if (pt_cmpR op_eq (pv 2) pe_int (nomark _))
  (pss_one (ps_ret (pe_tup (pa_cons (pe_op op_sub (pe_cst (v := .int (-1000000000000000000)) (pe_un un_neg (pe_cst (v := .int (1000000000000000000)) (pe_op op_pow pe_int pe_int) (fun _ _ _ h => ⟨_, _, rfl, rfl, ⟨by decide, by decide, by decide⟩, cst_eq (by decide) h⟩))) (fun _ _ _ h => ⟨_, rfl, cst_eq (by decide) h⟩)) (pv 4)) (pa_cons (pv 3) pa_nil)))))
  pss_nil)
  (pss_cons (ps_if (pt_cmpR op_eq (pv 2) pe_int (nomark _))
  (pss_one (ps_ret (pe_tup (pa_cons (pv 3) (pa_cons (pe_op op_add (pe_cst (v := .int (1000000000000000000)) (pe_op op_pow pe_int pe_int) (fun _ _ _ h => ⟨_, _, rfl, rfl, ⟨by decide, by decide, by decide⟩, cst_eq (by decide) h⟩)) (pv 4)) pa_nil)))))
  pss_nil)
  (pss_cons (ps_if (pt_cmpR op_eq (pv 2) pe_int (nomark _))
  (pss_one (ps_ret (pe_tup (pa_cons (pe_op op_sub (pe_cst (v := .int (-1000000000000000000)) (pe_un un_neg (pe_cst (v := .int (1000000000000000000)) (pe_op op_pow pe_int pe_int) (fun _ _ _ h => ⟨_, _, rfl, rfl, ⟨by decide, by decide, by decide⟩, cst_eq (by decide) h⟩))) (fun _ _ _ h => ⟨_, rfl, cst_eq (by decide) h⟩)) (pv 4)) (pa_cons (pe_op op_add (pe_cst (v := .int (1000000000000000000)) (pe_op op_pow pe_int pe_int) (fun _ _ _ h => ⟨_, _, rfl, rfl, ⟨by decide, by decide, by decide⟩, cst_eq (by decide) h⟩)) (pv 4)) pa_nil)))))
  pss_nil)
  (pss_cons (ps_if (pt_cmpR op_eq (pv 2) pe_int (nomark _))
  (pss_one (ps_ret (pe_tup (pa_cons (pe_op op_add (pe_cst (v := .int (1000000000000000000)) (pe_op op_pow pe_int pe_int) (fun _ _ _ h => ⟨_, _, rfl, rfl, ⟨by decide, by decide, by decide⟩, cst_eq (by decide) h⟩)) (pv 4)) (pa_cons (pe_op op_sub (pe_cst (v := .int (-1000000000000000000)) (pe_un un_neg (pe_cst (v := .int (1000000000000000000)) (pe_op op_pow pe_int pe_int) (fun _ _ _ h => ⟨_, _, rfl, rfl, ⟨by decide, by decide, by decide⟩, cst_eq (by decide) h⟩))) (fun _ _ _ h => ⟨_, rfl, cst_eq (by decide) h⟩)) (pv 4)) pa_nil)))))
  pss_nil)
  (pss_one (ps_ret (pe_tup (pa_cons (pe_op op_add (pv 3) (pv 4)) (pa_cons (pv 3) pa_nil)))))))))))))), ?_⟩)
  · obtain ⟨a, z, lo, hi, rfl, _⟩ := h
    rfl
  obtain ⟨a, z, lo, hi, rfl, hD, hz, hZ, k⟩ := h
  obtain ⟨hz1, hz2, hz3⟩ := hZ
  have za : z ≠ a := by rintro rfl; obtain ⟨_, e⟩ := hD.ls; rw [hz] at e; cases e
  refine ⟨_, rfl, a, 5, rfl, hD, by decide, fun r0 G0 _ _ D0 B0 => ?_⟩
  have hz' : G0 z = some (.tup [.int lo, .int hi]) := B0 _ _ za hz
  refine ⟨_, rfl, z, _, _, _, rfl, rfl, SqT.of hz', rfl, _, rfl, _, rfl, z, _, _, _, rfl, rfl, SqT.of hz', rfl, _, rfl, z, _, _, _, rfl, rfl, SqT.of hz', rfl, _, _, rfl, rfl, _, _, rfl, rfl, a, hi - lo + 1, rfl, D0, by omega, fun r1 G1 r10 r11 D1 B1 => ?_⟩
  refine ⟨_, _, rfl, rfl, _, rfl, a, _, rfl, D1, by decide, fun r2 G2 r20 r21 D2 B2 => ?_⟩
  have BB : But a H G2 := (B0.trans B1).trans B2
  have hL : LIM = 1000000000000000000 := rfl
  have fin : ∀ (p : Int × Int), badP p = true → ∀ t : Addr, G2 t = none → Q (.ref t) (upd G2 t (.tup [.int p.1, .int p.2])) := fun p hp t ht => k t p _ (D2.new ht) (BB.new ht) upd_same hp
  refine ⟨_, rfl, .inl ⟨_, rfl, _, _, rfl, rfl, (by show (0 : Int) < _; decide), rfl, _, rfl, iteEq (fun c => ⟨_, rfl, _, _, rfl, rfl, divOk (by decide) (by decide), .inl ⟨_, rfl, _, _, rfl, rfl, (by show (0 : Int) < _; decide), genI (fun v => 0 ≤ v) (Int.emod_nonneg _ (by decide)) fun y hy => ?_⟩⟩) (fun c => ?_)⟩⟩
  all_goals
    refine ⟨_, rfl, _, _, rfl, rfl, ?_⟩
    refine ⟨_, rfl, rfl, _, rfl, iteEq (fun c => ?_) (fun c => ?_)⟩
    · exact ⟨_, rfl, _, _, rfl, rfl, _, rfl, line_le (by simp), fun p hp => fin (_, _) (by simp only [badP, Bool.or_eq_true, decide_eq_true_eq]; omega) p hp⟩
    refine ⟨_, rfl, rfl, _, rfl, iteEq (fun c => ?_) (fun c => ?_)⟩
    · exact ⟨_, rfl, _, rfl, _, _, rfl, rfl, line_le (by simp), fun p hp => fin (_, _) (by simp only [badP, Bool.or_eq_true, decide_eq_true_eq]; omega) p hp⟩
    refine ⟨_, rfl, rfl, _, rfl, iteEq (fun c => ?_) (fun c => ?_)⟩
    · exact ⟨_, rfl, _, _, rfl, rfl, _, rfl, _, _, rfl, rfl, line_le (by simp), fun p hp => fin (_, _) (by simp only [badP, Bool.or_eq_true, decide_eq_true_eq]; omega) p hp⟩
    refine ⟨_, rfl, rfl, _, rfl, iteEq (fun c => ?_) (fun c => ?_)⟩
    · exact ⟨_, rfl, _, _, rfl, rfl, _, rfl, _, _, rfl, rfl, line_le (by simp), fun p hp => fin (_, _) (by simp only [badP, Bool.or_eq_true, decide_eq_true_eq]; omega) p hp⟩
    exact ⟨_, rfl, _, rfl, _, _, rfl, rfl, _, rfl, line_le (by simp), fun p hp => fin (_, _) (by simp only [badP, Bool.or_eq_true, decide_eq_true_eq]; omega) p hp⟩
theorem d__law_is_int (T : TT K mg) : Df Pg w K mg base 1 "_law_is_int" spIsInt := df_mk T (T.dd 19) (g__law_is_int T) (fun f fd F => ok__law_is_int T F) (fun _ _ _ _ _ _ us hl => match us, hl with | [_], _ => rfl)
theorem d__law_pairs (T : TT K mg) : Df Pg w K mg base 2 "_law_pairs" spPairs := df_mk T (T.dd 21) (g__law_pairs T) (fun f fd F => ok__law_pairs T F) (fun _ _ _ _ _ _ us hl => match us, hl with | [_, _, _], _ => rfl)
theorem d__law_spoilt (T : TT K mg) : Df Pg w K mg base 2 "_law_spoilt" spSpoilt := df_mk T (T.dd 22) (g__law_spoilt T) (fun f fd F => ok__law_spoilt T F) (fun _ _ _ _ _ _ us hl => match us, hl with | [_, _], _ => rfl)
theorem d__law_zone (T : TT K mg) : Df Pg w K mg base 2 "_law_zone" spZone := df_mk T (T.dd 20) (g__law_zone T) (fun f fd F => ok__law_zone T F) (fun _ _ _ _ _ _ us hl => match us, hl with | [_], _ => rfl)
end
end Sr
namespace Sr
open PySem PySem.Spec PyProof.Rows L2
/-! ### the constructor refuses -/
def toldR (ps : List (Int × Int)) : List V := match ps.find? badP with
  | some p => [.int p.1, .int p.2, .bl true, .bl false]
  | none => []
def spRefused (K : PySem.W.Frag) : Sp := fun vs H Q _ => ∃ (h : Addr) (xs : List V) (ps : List (Int × Int)), vs = [.ref h] ∧ SqLT K H h xs ∧ Prs H xs ps ∧ ps.length ≤ 100000 ∧
  ∀ (p : Addr) (H' : Hp), Same H H' → H' p = some (.lst (toldR ps)) → Q (.ref p) H'
section
variable {w : World} {K : PySem.W.Frag} {mg : Str → Option Value} {base : Heap} {f : Addr} {fd : FuncData}
theorem ok__law_refused (T : TT K mg) (F : FunD K "_law_refused" "_law_refused" (defArgs s__law_refused) (defBody s__law_refused) (defScope s__law_refused) [] [] f fd) : FnOk Pg w K mg base (L2.CX Pg w) 5 f fd ["_law_handed"] (spRefused K) := by
  refine F.ok sc__law_refused (fun vs H Q E h => ?_) (fun cdv A outer s H vs Q E hr h => ⟨_, (pss_cons (ps_set (i := 1) sc__law_refused.nd rfl (Or.inl rfl) (pe_lst pa_nil))
  (pss_cons (ps_tryN rfl rfl sc__law_refused.nd (takes_of rfl rfl rfl rfl) (fun W pn xe tk po => (pss_one (ps_expr (pe_df (d_Stretches T) hr (by decide) tk rfl (pa_cons (pv 0) pa_nil))))) (.cons (oi := some 2) ⟨rfl, by decide, .inl (g_BadStretch T)⟩ ⟨rfl, rfl⟩ (fun _ _ _ _ _ hz hf => (pss_cons (ps_set (i := 3) sc__law_refused.nd rfl (Or.inl rfl) (pe_or (pe_callB (call_isP hz hf) (by rfl) (f_isinstance T) (by decide +kernel) (pa_cons (pv 2) (pa_cons (pe_own rfl (g_BadText T)) pa_nil))) (pe_or (pe_callB (call_isP hz hf) (by rfl) (f_isinstance T) (by decide +kernel) (pa_cons (pv 2) (pa_cons (pe_own rfl (g_NoMember T)) pa_nil))) (pe_one (pe_callB (call_isP hz hf) (by rfl) (f_isinstance T) (by decide +kernel) (pa_cons (pv 2) (pa_cons (pe_own rfl (g_BadStep T)) pa_nil)))))))
  (pss_cons (ps_set (i := 3) sc__law_refused.nd rfl (Or.inl rfl) (pe_or (pv 3) (pe_one (pe_callB (call_isP hz hf) (by rfl) (f_isinstance T) (by decide +kernel) (pa_cons (pv 2) (pa_cons (pe_own rfl (g_Contradiction T)) pa_nil))))))
  (pss_one (ps_set (i := 1) sc__law_refused.nd rfl (Or.inl rfl) (pe_lst (pa_cons (pe_xf (xf_BadStretch T).1 ((ef_BadStretch T).n "low" (by simp)) hz hf (pv 2)) (pa_cons (pe_xf (xf_BadStretch T).1 ((ef_BadStretch T).n "high" (by simp)) hz hf (pv 2)) (pa_cons (pe_and (pe_callB (call_isP hz hf) (by rfl) (f_isinstance T) (by decide +kernel) (pa_cons (pv 2) (pa_cons (pe_own rfl (g_ReadError T)) pa_nil))) (pe_one (pe_callB (call_isP hz hf) (by rfl) (f_isinstance T) (by decide +kernel) (pa_cons (pv 2) (pa_cons (pe_ty (n := "ValueError") rfl (f_ValueError T) (by decide +kernel)) pa_nil))))) (pa_cons (pv 3) pa_nil)))))))))) (.cons (oi := none) ⟨rfl, by decide, .inl (g_ReadError T)⟩ trivial (fun _ _ _ _ _ hz hf => (pss_one (ps_set (i := 1) sc__law_refused.nd rfl (Or.inl rfl) (pe_lst pa_nil)))) .nil)))
  (pss_one (ps_ret (pv 1))))), ?_⟩)
  · obtain ⟨a, xs, ps, rfl, _⟩ := h
    rfl
  obtain ⟨a, xs, ps, rfl, hS, hP, hl, k⟩ := h
  have ki := kiB_ok (ki_ok T) (x := "BadStretch") (by decide +kernel)
  have n1 : PySem.W.kitOne K (.ref (cA K "BadStretch")) (.ref (cA K "BadText")) = some false := (ki.1 _ (by decide +kernel)).trans (congrArg some (decide_eq_false (by decide +kernel)))
  have n2 : PySem.W.kitOne K (.ref (cA K "BadStretch")) (.ref (cA K "NoMember")) = some false := (ki.1 _ (by decide +kernel)).trans (congrArg some (decide_eq_false (by decide +kernel)))
  have n3 : PySem.W.kitOne K (.ref (cA K "BadStretch")) (.ref (cA K "BadStep")) = some false := (ki.1 _ (by decide +kernel)).trans (congrArg some (decide_eq_false (by decide +kernel)))
  have n4 : PySem.W.kitOne K (.ref (cA K "BadStretch")) (.ref (cA K "Contradiction")) = some false := (ki.1 _ (by decide +kernel)).trans (congrArg some (decide_eq_false (by decide +kernel)))
  have m1 : PySem.W.exmOne K (.ref (cA K "BadStretch")) (.ref (cA K "BadStretch")) = some true := ((exmB_ok (em_ok T) (x := "BadStretch") (by decide +kernel)).1 _ (by decide +kernel)).trans (congrArg some (decide_eq_true rfl))
  refine ⟨line_le (by simp), fun l hl0 => ?_⟩
  refine ⟨_, rfl, a, xs, ps, rfl, hS.same (sNew hl0), hP.mono (.of (sNew hl0)), hl, fun hb x H1 s1 st => ?_, fun p hb d H1 s1 ed => ?_⟩
  · refine ⟨_, rfl, k l H1 ?_ ?_⟩
    · exact fun u o e => s1 _ _ (sNew hl0 _ _ e)
    · unfold toldR
      rw [hb]
      exact s1 _ _ upd_same
  · refine ⟨true, m1, fun _ e ne => ?_, fun z => nomatch z⟩
    refine ⟨_, rfl, cA K "BadStretch", _, _, _, rfl, rfl, (xf_BadStretch T).2, .inr ⟨_, _, rfl, ed⟩, fun u r => r, n1, false, rfl, iteF ?_⟩
    refine ⟨_, rfl, cA K "BadStretch", _, _, _, rfl, rfl, (xf_BadStretch T).2, .inr ⟨_, _, rfl, ed⟩, fun u r => r, n2, false, rfl, iteF ?_⟩
    refine ⟨_, rfl, cA K "BadStretch", _, _, _, rfl, rfl, (xf_BadStretch T).2, .inr ⟨_, _, rfl, ed⟩, fun u r => r, n3, ?_⟩
    refine ⟨_, rfl, false, rfl, iteF ?_⟩
    refine ⟨_, rfl, cA K "BadStretch", _, _, _, rfl, rfl, (xf_BadStretch T).2, .inr ⟨_, _, rfl, ed⟩, fun u r => r, n4, ?_⟩
    refine ⟨_, rfl, rfl, rfl, d, _, _, rfl, ed, rfl, ?_⟩
    refine ⟨_, rfl, rfl, rfl, d, _, _, rfl, ed, rfl, ?_⟩
    refine ⟨_, rfl, cA K "BadStretch", _, _, _, rfl, rfl, (xf_BadStretch T).2, .inr ⟨_, _, rfl, ed⟩, fun u r => r, ki.2.1, true, rfl, iteT ?_⟩
    refine ⟨_, rfl, cA K "BadStretch", _, _, _, rfl, rfl, (xf_BadStretch T).2, .inr ⟨_, _, rfl, ed⟩, fun u r => r, ki.2.2, ?_⟩
    refine ⟨_, rfl, line_le (by simp), fun q hq => ?_⟩
    refine ⟨_, rfl, k q _ ?_ ?_⟩
    · exact fun u o e => sNew hq _ _ (s1 _ _ (sNew hl0 _ _ e))
    · unfold toldR
      rw [hb]
      exact upd_same
theorem d__law_refused (T : TT K mg) : Df Pg w K mg base 5 "_law_refused" (spRefused K) := df_mk T (T.dd 23) (g__law_refused T) (fun f fd F => ok__law_refused T F) (fun _ _ _ _ _ _ us hl => match us, hl with | [_], _ => rfl)
end
end Sr
namespace Sr
open PySem PySem.Spec PyProof.Rows L2
theorem eqv_bool (i j : Bool) : PyData.eqv (.bool i) (.bool j) = decide (i = j) := by
  cases i <;> cases j <;> simp [PyData.eqv]
theorem sh_bools (bs : List Bool) : SeqAt.shaped (.list (bs.map PyData.bool)) = true := (sh_list (sh_map (sh_bool 0) bs)).shaped
theorem eqv_bools (ms ns : List Bool) : PyData.eqv (.list (ms.map PyData.bool)) (.list (ns.map PyData.bool)) = decide (ms = ns) := by rw [eqv_list, eqvAll_map eqv_bool]
theorem dp_bools {K : PySem.W.Frag} {H : Hp} : ∀ bs : List Bool, DpAll K H (bs.map V.bl) (bs.map PyData.bool)
  | [] => .nil
  | b :: bs => .cons (.bl b) (dp_bools bs)
/-! ### exceptions as values -/
def XV (K : PySem.W.Frag) (H : Hp) (a : Addr) (x : Str) (fs : List (Str × V)) : Prop := ∃ d, H a = some (exo a (cA K x) (some d)) ∧ H d = some (exd d fs)
theorem XV.same {K : PySem.W.Frag} {H H' : Hp} {a : Addr} {x : Str} {fs : List (Str × V)} (s : Same H H') (h : XV K H a x fs) : XV K H' a x fs := let ⟨d, h1, h2⟩ := h; ⟨d, s _ _ h1, s _ _ h2⟩
def XA (K : PySem.W.Frag) (H : Hp) (a : Addr) (x : Str) : Prop := H a = some (exo a (cA K x) none) ∨ ∃ (d : Addr) (fs : List (Str × V)), H a = some (exo a (cA K x) (some d)) ∧ H d = some (exd d fs)
theorem XA.same {K : PySem.W.Frag} {H H' : Hp} {a : Addr} {x : Str} (s : Same H H') (h : XA K H a x) : XA K H' a x := by
  rcases h with h | ⟨d, fs, h1, h2⟩
  · exact .inl (s _ _ h)
  · exact .inr ⟨d, fs, s _ _ h1, s _ _ h2⟩
theorem XV.xa {K : PySem.W.Frag} {H : Hp} {a : Addr} {x : Str} {fs : List (Str × V)} (h : XV K H a x fs) : XA K H a x := let ⟨d, h1, h2⟩ := h; .inr ⟨d, fs, h1, h2⟩
def spX (K : PySem.W.Frag) (x : Str) (fs : List Str) : Sp := fun vs H Q _ => vs.length = fs.length ∧ ∀ a H', Same H H' → XV K H' a x (fs.zip vs).reverse → Q (.ref a) H'
def spX0 (K : PySem.W.Frag) (x : Str) : Sp := fun vs H Q _ => vs = [] ∧ ∀ a H', Same H H' → XA K H' a x → Q (.ref a) H'
section
variable {w : World} {K : PySem.W.Frag} {mg : Str → Option Value} {base : Heap} {f : Addr} {fd : FuncData}
theorem df_er {x : Str} {fs : List Str} (T : Er Pg w K mg base x fs) (hfs : fs.length ≤ 900) (kp : PySem.W.keepIn K (.ref (cA K x)) = true) : Df Pg w K mg base 2 x (spX K x fs) := by
  refine ⟨cA K x, (callOk_er T hfs).imp fun vs H Q E h => ?_, T.g, kp⟩
  obtain ⟨hl, q⟩ := h
  refine ⟨hl, fun a d na nd hne => q a _ ?_ ⟨d, upd_same, by rw [upd_ne hne, upd_same]⟩⟩
  exact sOwn (sNew nd) na
theorem d_BadStretch (T : TT K mg) : Df Pg w K mg base 2 "BadStretch" (spX K "BadStretch" ["low", "high"]) := df_er (er_BadStretch T) (by decide) (ef_BadStretch T).o.kC
theorem d_BadText (T : TT K mg) : Df Pg w K mg base 2 "BadText" (spX K "BadText" ["text"]) := df_er (er_BadText T) (by decide) (ef_BadText T).o.kC
theorem d_NoMember (T : TT K mg) : Df Pg w K mg base 2 "NoMember" (spX K "NoMember" ["index"]) := df_er (er_NoMember T) (by decide) (ef_NoMember T).o.kC
theorem d_BadStep (T : TT K mg) : Df Pg w K mg base 2 "BadStep" (spX K "BadStep" ["number"]) := df_er (er_BadStep T) (by decide) (ef_BadStep T).o.kC
theorem d_BadPace (T : TT K mg) : Df Pg w K mg base 2 "BadPace" (spX K "BadPace" ["slowest", "fastest"]) := df_er (er_BadPace T) (by decide) (ef_BadPace T).o.kC
theorem d_NoKey (T : TT K mg) : Df Pg w K mg base 2 "NoKey" (spX K "NoKey" ["key"]) := df_er (er_NoKey T) (by decide) (ef_NoKey T).o.kC
theorem d_Impossible (T : TT K mg) : Df Pg w K mg base 2 "Impossible" (spX K "Impossible" ["key", "value"]) := df_er (er_Impossible T) (by decide) (ef_Impossible T).o.kC
theorem d_BadName (T : TT K mg) : Df Pg w K mg base 2 "BadName" (spX K "BadName" ["name"]) := df_er (er_BadName T) (by decide) (ef_BadName T).o.kC
theorem d_UnknownName (T : TT K mg) : Df Pg w K mg base 2 "UnknownName" (spX K "UnknownName" ["name"]) := df_er (er_UnknownName T) (by decide) (ef_UnknownName T).o.kC
theorem d_WrongRange (T : TT K mg) : Df Pg w K mg base 2 "WrongRange" (spX K "WrongRange" ["first", "last"]) := df_er (er_WrongRange T) (by decide) (ef_WrongRange T).o.kC
theorem d_TooMany (T : TT K mg) : Df Pg w K mg base 2 "TooMany" (spX K "TooMany" ["limit"]) := df_er (er_TooMany T) (by decide) (ef_TooMany T).o.kC
theorem d_NoAnswer (T : TT K mg) : Df Pg w K mg base 2 "NoAnswer" (spX K "NoAnswer" ["name", "key"]) := df_er (er_NoAnswer T) (by decide) (ef_NoAnswer T).o.kC
theorem d_NotServed (T : TT K mg) : Df Pg w K mg base 2 "NotServed" (spX K "NotServed" ["wanted"]) := df_er (er_NotServed T) (by decide) (ef_NotServed T).o.kC
theorem d_Refused (T : TT K mg) : Df Pg w K mg base 2 "Refused" (spX K "Refused" ["name"]) := df_er (er_Refused T) (by decide) (ef_Refused T).o.kC
theorem d_Contradiction (T : TT K mg) : Df Pg w K mg base 1 "Contradiction" (spX0 K "Contradiction") := by
  refine ⟨cA K "Contradiction", (callOk_er0 (e0_Contradiction T).1).imp fun vs H Q E h => ?_, g_Contradiction T, (e0_Contradiction T).2.1⟩
  obtain ⟨e, q⟩ := h
  exact ⟨e, fun a na => q a _ (sNew na) (.inl upd_same)⟩
def clsL (x : Str) : List Bool := exNames.map fun y => decide (x = y)
def spClasses (K : PySem.W.Frag) : Sp := fun vs H Q _ => ∃ (a : Addr) (x : Str), vs = [.ref a] ∧ x ∈ exNames ∧ ExcC K (cA K x) ∧ XA K H a x ∧ ∀ (p : Addr) (H' : Hp), Same H H' → H' p = some (.lst ((clsL x).map V.bl)) → Q (.ref p) H'
theorem ok__law_classes (T : TT K mg) (F : FunD K "_law_classes" "_law_classes" (defArgs s__law_classes) (defBody s__law_classes) (defScope s__law_classes) [] [] f fd) : FnOk Pg w K mg base (L2.CX Pg w) 1 f fd ["_law_thing"] (spClasses K) := by
  refine F.ok sc__law_classes (fun vs H Q E h => ?_) (fun cdv A outer s H vs Q E hr h => ⟨_, (pss_cons (ps_set (i := 1) sc__law_classes.nd rfl (Or.inl rfl) (pe_lst (pa_cons (pe_callB call_isT (by rfl) (f_isinstance T) (by decide +kernel) (pa_cons (pv 0) (pa_cons (pe_own rfl (g_BadStretch T)) pa_nil))) (pa_cons (pe_callB call_isT (by rfl) (f_isinstance T) (by decide +kernel) (pa_cons (pv 0) (pa_cons (pe_own rfl (g_BadText T)) pa_nil))) (pa_cons (pe_callB call_isT (by rfl) (f_isinstance T) (by decide +kernel) (pa_cons (pv 0) (pa_cons (pe_own rfl (g_NoMember T)) pa_nil))) pa_nil)))))
  (pss_cons (ps_set (i := 1) sc__law_classes.nd rfl (Or.inl rfl) (pe_op op_cat (pv 1) (pe_lst (pa_cons (pe_callB call_isT (by rfl) (f_isinstance T) (by decide +kernel) (pa_cons (pv 0) (pa_cons (pe_own rfl (g_BadStep T)) pa_nil))) (pa_cons (pe_callB call_isT (by rfl) (f_isinstance T) (by decide +kernel) (pa_cons (pv 0) (pa_cons (pe_own rfl (g_BadPace T)) pa_nil))) (pa_cons (pe_callB call_isT (by rfl) (f_isinstance T) (by decide +kernel) (pa_cons (pv 0) (pa_cons (pe_own rfl (g_Contradiction T)) pa_nil))) pa_nil))))))
  (pss_cons (ps_set (i := 1) sc__law_classes.nd rfl (Or.inl rfl) (pe_op op_cat (pv 1) (pe_lst (pa_cons (pe_callB call_isT (by rfl) (f_isinstance T) (by decide +kernel) (pa_cons (pv 0) (pa_cons (pe_own rfl (g_NoKey T)) pa_nil))) (pa_cons (pe_callB call_isT (by rfl) (f_isinstance T) (by decide +kernel) (pa_cons (pv 0) (pa_cons (pe_own rfl (g_Impossible T)) pa_nil))) (pa_cons (pe_callB call_isT (by rfl) (f_isinstance T) (by decide +kernel) (pa_cons (pv 0) (pa_cons (pe_own rfl (g_BadName T)) pa_nil))) pa_nil))))))
  (pss_cons (ps_set (i := 1) sc__law_classes.nd rfl (Or.inl rfl) (pe_op op_cat (pv 1) (pe_lst (pa_cons (pe_callB call_isT (by rfl) (f_isinstance T) (by decide +kernel) (pa_cons (pv 0) (pa_cons (pe_own rfl (g_UnknownName T)) pa_nil))) (pa_cons (pe_callB call_isT (by rfl) (f_isinstance T) (by decide +kernel) (pa_cons (pv 0) (pa_cons (pe_own rfl (g_WrongRange T)) pa_nil))) (pa_cons (pe_callB call_isT (by rfl) (f_isinstance T) (by decide +kernel) (pa_cons (pv 0) (pa_cons (pe_own rfl (g_TooMany T)) pa_nil))) pa_nil))))))
  (pss_one (ps_ret (pe_op op_cat (pv 1) (pe_lst (pa_cons (pe_callB call_isT (by rfl) (f_isinstance T) (by decide +kernel) (pa_cons (pv 0) (pa_cons (pe_own rfl (g_NoAnswer T)) pa_nil))) (pa_cons (pe_callB call_isT (by rfl) (f_isinstance T) (by decide +kernel) (pa_cons (pv 0) (pa_cons (pe_own rfl (g_NotServed T)) pa_nil))) (pa_cons (pe_callB call_isT (by rfl) (f_isinstance T) (by decide +kernel) (pa_cons (pv 0) (pa_cons (pe_own rfl (g_Refused T)) pa_nil))) pa_nil))))))))))), ?_⟩)
  · obtain ⟨a, x, rfl, _⟩ := h
    rfl
  obtain ⟨a, x, rfl, hx, hC, hA, k⟩ := h
  have ki := (kiB_ok (ki_ok T) hx).1
  refine ⟨_, rfl, a, cA K x, _, _, _, rfl, hC, hA, fun u r => r, ki "BadStretch" (by decide +kernel), ⟨_, rfl, a, cA K x, _, _, _, rfl, hC, hA, fun u r => r, ki "BadText" (by decide +kernel), ⟨_, rfl, a, cA K x, _, _, _, rfl, hC, hA, fun u r => r, ki "NoMember" (by decide +kernel), line_le (by simp), fun p1 h1 => ?_⟩⟩⟩
  have s1 := sNew (o := .lst [.bl (decide (x = "BadStretch")), .bl (decide (x = "BadText")), .bl (decide (x = "NoMember"))]) h1
  have c1 : upd H p1 (.lst [.bl (decide (x = "BadStretch")), .bl (decide (x = "BadText")), .bl (decide (x = "NoMember"))]) p1 = _ := upd_same
  refine ⟨_, rfl, ⟨_, rfl, a, cA K x, _, _, _, rfl, hC, (hA.same s1), fun u r => r, ki "BadStep" (by decide +kernel), ⟨_, rfl, a, cA K x, _, _, _, rfl, hC, (hA.same s1), fun u r => r, ki "BadPace" (by decide +kernel), ⟨_, rfl, a, cA K x, _, _, _, rfl, hC, (hA.same s1), fun u r => r, ki "Contradiction" (by decide +kernel), line_le (by simp), fun q1 g1 => ?_⟩⟩⟩⟩
  have t1 := s1.trans (sNew (o := .lst [.bl (decide (x = "BadStep")), .bl (decide (x = "BadPace")), .bl (decide (x = "Contradiction"))]) g1)
  refine ⟨_, _, _, _, rfl, rfl, sNew g1 _ _ c1, upd_same, line_of (by simp), fun p2 h2 => ?_⟩
  obtain ⟨z2, c2⟩ := layS (o := .lst ([.bl (decide (x = "BadStretch")), .bl (decide (x = "BadText")), .bl (decide (x = "NoMember"))] ++ [.bl (decide (x = "BadStep")), .bl (decide (x = "BadPace")), .bl (decide (x = "Contradiction"))])) h2
  have s2 := t1.trans z2
  refine ⟨_, rfl, ⟨_, rfl, a, cA K x, _, _, _, rfl, hC, (hA.same s2), fun u r => r, ki "NoKey" (by decide +kernel), ⟨_, rfl, a, cA K x, _, _, _, rfl, hC, (hA.same s2), fun u r => r, ki "Impossible" (by decide +kernel), ⟨_, rfl, a, cA K x, _, _, _, rfl, hC, (hA.same s2), fun u r => r, ki "BadName" (by decide +kernel), line_le (by simp), fun q2 g2 => ?_⟩⟩⟩⟩
  have t2 := s2.trans (sNew (o := .lst [.bl (decide (x = "NoKey")), .bl (decide (x = "Impossible")), .bl (decide (x = "BadName"))]) g2)
  refine ⟨_, _, _, _, rfl, rfl, sNew g2 _ _ c2, upd_same, line_of (by simp), fun p3 h3 => ?_⟩
  obtain ⟨z3, c3⟩ := layS (o := .lst (([.bl (decide (x = "BadStretch")), .bl (decide (x = "BadText")), .bl (decide (x = "NoMember"))] ++ [.bl (decide (x = "BadStep")), .bl (decide (x = "BadPace")), .bl (decide (x = "Contradiction"))]) ++ [.bl (decide (x = "NoKey")), .bl (decide (x = "Impossible")), .bl (decide (x = "BadName"))])) h3
  have s3 := t2.trans z3
  refine ⟨_, rfl, ⟨_, rfl, a, cA K x, _, _, _, rfl, hC, (hA.same s3), fun u r => r, ki "UnknownName" (by decide +kernel), ⟨_, rfl, a, cA K x, _, _, _, rfl, hC, (hA.same s3), fun u r => r, ki "WrongRange" (by decide +kernel), ⟨_, rfl, a, cA K x, _, _, _, rfl, hC, (hA.same s3), fun u r => r, ki "TooMany" (by decide +kernel), line_le (by simp), fun q3 g3 => ?_⟩⟩⟩⟩
  have t3 := s3.trans (sNew (o := .lst [.bl (decide (x = "UnknownName")), .bl (decide (x = "WrongRange")), .bl (decide (x = "TooMany"))]) g3)
  refine ⟨_, _, _, _, rfl, rfl, sNew g3 _ _ c3, upd_same, line_of (by simp), fun p4 h4 => ?_⟩
  obtain ⟨z4, c4⟩ := layS (o := .lst ((([.bl (decide (x = "BadStretch")), .bl (decide (x = "BadText")), .bl (decide (x = "NoMember"))] ++ [.bl (decide (x = "BadStep")), .bl (decide (x = "BadPace")), .bl (decide (x = "Contradiction"))]) ++ [.bl (decide (x = "NoKey")), .bl (decide (x = "Impossible")), .bl (decide (x = "BadName"))]) ++ [.bl (decide (x = "UnknownName")), .bl (decide (x = "WrongRange")), .bl (decide (x = "TooMany"))])) h4
  have s4 := t3.trans z4
  refine ⟨_, rfl, ⟨_, rfl, a, cA K x, _, _, _, rfl, hC, (hA.same s4), fun u r => r, ki "NoAnswer" (by decide +kernel), ⟨_, rfl, a, cA K x, _, _, _, rfl, hC, (hA.same s4), fun u r => r, ki "NotServed" (by decide +kernel), ⟨_, rfl, a, cA K x, _, _, _, rfl, hC, (hA.same s4), fun u r => r, ki "Refused" (by decide +kernel), line_le (by simp), fun q4 g4 => ?_⟩⟩⟩⟩
  have t4 := s4.trans (sNew (o := .lst [.bl (decide (x = "NoAnswer")), .bl (decide (x = "NotServed")), .bl (decide (x = "Refused"))]) g4)
  refine ⟨_, _, _, _, rfl, rfl, sNew g4 _ _ c4, upd_same, line_of (by simp), fun p5 h5 => ?_⟩
  obtain ⟨z5, c5⟩ := layS (o := .lst (((([.bl (decide (x = "BadStretch")), .bl (decide (x = "BadText")), .bl (decide (x = "NoMember"))] ++ [.bl (decide (x = "BadStep")), .bl (decide (x = "BadPace")), .bl (decide (x = "Contradiction"))]) ++ [.bl (decide (x = "NoKey")), .bl (decide (x = "Impossible")), .bl (decide (x = "BadName"))]) ++ [.bl (decide (x = "UnknownName")), .bl (decide (x = "WrongRange")), .bl (decide (x = "TooMany"))]) ++ [.bl (decide (x = "NoAnswer")), .bl (decide (x = "NotServed")), .bl (decide (x = "Refused"))])) h5
  have s5 := t4.trans z5
  exact k p5 _ s5 upd_same
theorem d__law_classes (T : TT K mg) : Df Pg w K mg base 1 "_law_classes" (spClasses K) := df_mk T (T.dd 24) (g__law_classes T) (fun f fd F => ok__law_classes T F) (fun _ _ _ _ _ _ us hl => match us, hl with | [_], _ => rfl)
end
end Sr
namespace Sr
open PySem PySem.Spec PyProof.Rows L2
theorem eqv_str (i j : Str) : PyData.eqv (.str i) (.str j) = decide (i = j) := by
  simp only [PyData.eqv]
  first | rfl | exact Bool.beq_eq_decide_eq _ _ | (rw [Bool.eq_iff_iff]; simp)
theorem sh_str (n : Nat) (i : Str) (h : PyData.strOk i = true) : Sh n (.str i) := ⟨by simp only [PyData.canLay0]; exact h, by simp only [PyData.depth]; exact Nat.zero_le _⟩
theorem cls_rng : ∀ i : Fin 15, clsL (exNames.getD i "") = (List.range 15).map fun m : Nat => decide (V.int (0 + (m : Int)) = V.int (0 + ((i : Nat) : Int))) := by decide +kernel
theorem ex_mem : ∀ i : Fin 15, exNames.getD i "" ∈ exNames := by decide +kernel
def spFamily : Sp := fun vs H Q _ => ∃ (one two : Int) (word : Str), vs = [.int one, .int two, .str word] ∧ PyData.strOk word = true ∧ ∀ H', Same H H' → Q (.bl true) H'
section
variable {w : World} {K : PySem.W.Frag} {mg : Str → Option Value} {base : Heap} {f : Addr} {fd : FuncData}
theorem exc_all (T : TT K mg) : ∀ x ∈ exNames, ExcC K (cA K x) := by
  intro x hx
  simp only [exNames, List.mem_cons, List.not_mem_nil, or_false] at hx
  rcases hx with rfl | rfl | rfl | rfl | rfl | rfl | rfl | rfl | rfl | rfl | rfl | rfl | rfl | rfl | rfl
  · exact (xf_BadStretch T).2
  · exact (xf_BadText T).2
  · exact (xf_NoMember T).2
  · exact (xf_BadStep T).2
  · exact (xf_BadPace T).2
  · exact (xf_Contradiction T).2
  · exact (xf_NoKey T).2
  · exact (xf_Impossible T).2
  · exact (xf_BadName T).2
  · exact (xf_UnknownName T).2
  · exact (xf_WrongRange T).2
  · exact (xf_TooMany T).2
  · exact (xf_NoAnswer T).2
  · exact (xf_NotServed T).2
  · exact (xf_Refused T).2
theorem ok__law_family (T : TT K mg) (F : FunD K "_law_family" "_law_family" (defArgs s__law_family) (defBody s__law_family) (defScope s__law_family) [] [] f fd) : FnOk Pg w K mg base (L2.CX Pg w) 3 f fd ["_law_one", "_law_two", "_law_word"] spFamily := by
  refine F.ok sc__law_family (fun vs H Q E h => ?_) (fun cdv A outer s H vs Q E hr h => ⟨_, (pss_cons (ps_set (i := 3) sc__law_family.nd rfl (Or.inl rfl) (pe_lst (pa_cons (pe_df (d_BadStretch T) hr (by decide) (takes_of rfl rfl rfl rfl) rfl (pa_cons (pv 0) (pa_cons (pv 1) pa_nil))) (pa_cons (pe_df (d_BadText T) hr (by decide) (takes_of rfl rfl rfl rfl) rfl (pa_cons (pv 2) pa_nil)) (pa_cons (pe_df (d_NoMember T) hr (by decide) (takes_of rfl rfl rfl rfl) rfl (pa_cons (pv 0) pa_nil)) (pa_cons (pe_df (d_BadStep T) hr (by decide) (takes_of rfl rfl rfl rfl) rfl (pa_cons (pv 0) pa_nil)) (pa_cons (pe_df (d_BadPace T) hr (by decide) (takes_of rfl rfl rfl rfl) rfl (pa_cons pe_non (pa_cons (pv 1) pa_nil))) (pa_cons (pe_df0 (d_Contradiction T) hr (by decide) (takes_of rfl rfl rfl rfl) rfl) pa_nil))))))))
  (pss_cons (ps_set (i := 3) sc__law_family.nd rfl (Or.inl rfl) (pe_op op_cat (pv 3) (pe_lst (pa_cons (pe_df (d_NoKey T) hr (by decide) (takes_of rfl rfl rfl rfl) rfl (pa_cons (pv 0) pa_nil)) (pa_cons (pe_df (d_Impossible T) hr (by decide) (takes_of rfl rfl rfl rfl) rfl (pa_cons (pv 0) (pa_cons (pv 1) pa_nil))) (pa_cons (pe_df (d_BadName T) hr (by decide) (takes_of rfl rfl rfl rfl) rfl (pa_cons (pv 2) pa_nil)) (pa_cons (pe_df (d_UnknownName T) hr (by decide) (takes_of rfl rfl rfl rfl) rfl (pa_cons (pv 2) pa_nil)) (pa_cons (pe_df (d_WrongRange T) hr (by decide) (takes_of rfl rfl rfl rfl) rfl (pa_cons (pv 0) (pa_cons (pv 1) pa_nil))) pa_nil))))))))
  (pss_cons (ps_set (i := 3) sc__law_family.nd rfl (Or.inl rfl) (pe_op op_cat (pv 3) (pe_lst (pa_cons (pe_df (d_TooMany T) hr (by decide) (takes_of rfl rfl rfl rfl) rfl (pa_cons (pv 0) pa_nil)) (pa_cons (pe_df (d_NoAnswer T) hr (by decide) (takes_of rfl rfl rfl rfl) rfl (pa_cons (pv 2) (pa_cons (pv 1) pa_nil))) (pa_cons (pe_df (d_NotServed T) hr (by decide) (takes_of rfl rfl rfl rfl) rfl (pa_cons (pv 0) pa_nil)) (pa_cons (pe_df (d_Refused T) hr (by decide) (takes_of rfl rfl rfl rfl) rfl (pa_cons (pv 2) pa_nil)) pa_nil)))))))
  (pss_cons (ps_for (passes_of rfl) rfl (pi_range1 (by rfl) (f_range T) (pa_cons pe_int pa_nil)) (pg_name (i := 4) sc__law_family.nd rfl (Or.inr rfl))
  (pss_cons (ps_if (PW.pt (pw_or (pt_not (pt_val (pe_callB call_isT (by rfl) (f_isinstance T) (by decide +kernel) (pa_cons (pe_ix ix_list (pv 3) (pv 4) (fun _ _ => rfl)) (pa_cons (pe_own rfl (g_ReadError T)) pa_nil))))) (pw_or1 (pt_not (pt_val (pe_callB call_isT (by rfl) (f_isinstance T) (by decide +kernel) (pa_cons (pe_ix ix_list (pv 3) (pv 4) (fun _ _ => rfl)) (pa_cons (pe_ty (n := "ValueError") rfl (f_ValueError T) (by decide +kernel)) pa_nil))))))))
  (pss_one (ps_ret pe_bl))
  pss_nil)
  (pss_one (ps_if (pt_cmpR (op_neD hr.units) (pe_df (d__law_classes T) hr (by decide) (takes_of rfl rfl rfl rfl) rfl (pa_cons (pe_ix ix_list (pv 3) (pv 4) (fun _ _ => rfl)) pa_nil)) (pe_lc (own := [("_law_place", 7)]) (by rfl) sc__law_family.nd (pi_range1 (by rfl) (f_range T) (pa_cons pe_int pa_nil)) (blkOk_by (own := [("_law_place", 7)]) (N := ["_law_one", "_law_two", "_law_word", "_law_things", "_law_k", "_law_told", "_law_due", "_law_place"]) (sc := defScope s__law_family) (by decide +kernel)) (fun _ _ _ _ _ => pg_name (i := 7) sc__law_family.nd rfl (Or.inl rfl)) (fun _ _ _ _ _ => pts_nil) (fun _ _ _ _ _ => (pe_cmpR op_eq (pv 7) (pv 4) (nomark _)))) (nomark _))
  (pss_one (ps_ret pe_bl))
  pss_nil))))
  (pss_cons (ps_set (i := 5) sc__law_family.nd rfl (Or.inl rfl) (pe_lst (pa_cons (pe_xt (pe_ix ix_list (pv 3) pe_int (fun _ _ => rfl))) (pa_cons (pe_xt (pe_ix ix_list (pv 3) pe_int (fun _ _ => rfl))) (pa_cons (pe_xt (pe_ix ix_list (pv 3) pe_int (fun _ _ => rfl))) (pa_cons (pe_xt (pe_ix ix_list (pv 3) pe_int (fun _ _ => rfl))) (pa_cons (pe_xt (pe_ix ix_list (pv 3) pe_int (fun _ _ => rfl))) (pa_cons (pe_xt (pe_ix ix_list (pv 3) pe_int (fun _ _ => rfl))) pa_nil))))))))
  (pss_cons (ps_set (i := 5) sc__law_family.nd rfl (Or.inl rfl) (pe_op op_cat (pv 5) (pe_lst (pa_cons (pe_xt (pe_ix ix_list (pv 3) pe_int (fun _ _ => rfl))) (pa_cons (pe_xt (pe_ix ix_list (pv 3) pe_int (fun _ _ => rfl))) (pa_cons (pe_xt (pe_ix ix_list (pv 3) pe_int (fun _ _ => rfl))) (pa_cons (pe_xt (pe_ix ix_list (pv 3) pe_int (fun _ _ => rfl))) (pa_cons (pe_xt (pe_ix ix_list (pv 3) pe_int (fun _ _ => rfl))) (pa_cons (pe_xt (pe_ix ix_list (pv 3) pe_int (fun _ _ => rfl))) pa_nil)))))))))
  (pss_cons (ps_set (i := 5) sc__law_family.nd rfl (Or.inl rfl) (pe_op op_cat (pv 5) (pe_lst (pa_cons (pe_xt (pe_ix ix_list (pv 3) pe_int (fun _ _ => rfl))) (pa_cons (pe_xt (pe_ix ix_list (pv 3) pe_int (fun _ _ => rfl))) (pa_cons (pe_xt (pe_ix ix_list (pv 3) pe_int (fun _ _ => rfl))) (pa_cons (pe_xt (pe_ix ix_list (pv 3) pe_int (fun _ _ => rfl))) (pa_cons (pe_xt (pe_ix ix_list (pv 3) pe_int (fun _ _ => rfl))) pa_nil))))))))
  (pss_cons (ps_set (i := 5) sc__law_family.nd rfl (Or.inl rfl) (pe_op op_cat (pv 5) (pe_lst (pa_cons (pe_xt (pe_ix ix_list (pv 3) pe_int (fun _ _ => rfl))) (pa_cons (pe_xt (pe_ix ix_list (pv 3) pe_int (fun _ _ => rfl))) pa_nil)))))
  (pss_cons (ps_set (i := 6) sc__law_family.nd rfl (Or.inl rfl) (pe_lst (pa_cons (pv 0) (pa_cons (pv 1) (pa_cons (pv 2) (pa_cons (pv 0) (pa_cons (pv 0) (pa_cons pe_non (pa_cons (pv 1) (pa_cons (pv 0) (pa_cons (pv 0) (pa_cons (pv 1) (pa_cons (pv 2) (pa_cons (pv 2) (pa_cons (pv 0) (pa_cons (pv 1) (pa_cons (pv 0) (pa_cons (pv 2) (pa_cons (pv 1) (pa_cons (pv 0) (pa_cons (pv 2) pa_nil)))))))))))))))))))))
  (pss_one (ps_ret (pe_cmpR (op_eqD hr.units) (pv 5) (pv 6) (nomark _))))))))))))), ?_⟩)
  · obtain ⟨a, b, c, rfl, _⟩ := h
    rfl
  obtain ⟨one, two, word, rfl, hw, k⟩ := h
  refine ⟨_, rfl, _, rfl, rfl, fun a0 H0 s0 x0 => ?_⟩
  refine ⟨_, rfl, rfl, fun a1 H1 s1 x1 => ?_⟩
  refine ⟨_, rfl, rfl, fun a2 H2 s2 x2 => ?_⟩
  refine ⟨_, rfl, rfl, fun a3 H3 s3 x3 => ?_⟩
  refine ⟨_, rfl, rfl, fun a4 H4 s4 x4 => ?_⟩
  refine ⟨rfl, fun a5 H5 s5 x5 => ?_⟩
  refine ⟨line_le (by simp), fun q0 g0 => ?_⟩
  obtain ⟨y0, d0⟩ := layS (o := .lst [.ref a0, .ref a1, .ref a2, .ref a3, .ref a4, .ref a5]) g0
  refine ⟨_, rfl, _, rfl, rfl, fun a6 H6 s6 x6 => ?_⟩
  refine ⟨_, rfl, _, rfl, rfl, fun a7 H7 s7 x7 => ?_⟩
  refine ⟨_, rfl, rfl, fun a8 H8 s8 x8 => ?_⟩
  refine ⟨_, rfl, rfl, fun a9 H9 s9 x9 => ?_⟩
  refine ⟨_, rfl, _, rfl, rfl, fun a10 H10 s10 x10 => ?_⟩
  refine ⟨line_le (by simp), fun q1 g1 => ?_⟩
  obtain ⟨y1, d1⟩ := layS (o := .lst [.ref a6, .ref a7, .ref a8, .ref a9, .ref a10]) g1
  refine ⟨_, _, _, _, rfl, rfl, ((((((s6).trans s7).trans s8).trans s9).trans s10).trans y1) _ _ d0, d1, line_of (by simp), fun p1 h1 => ?_⟩
  obtain ⟨z1, c1⟩ := layS (o := .lst ([.ref a0, .ref a1, .ref a2, .ref a3, .ref a4, .ref a5] ++ [.ref a6, .ref a7, .ref a8, .ref a9, .ref a10])) h1
  refine ⟨_, rfl, _, rfl, rfl, fun a11 H11 s11 x11 => ?_⟩
  refine ⟨_, rfl, _, rfl, rfl, fun a12 H12 s12 x12 => ?_⟩
  refine ⟨_, rfl, rfl, fun a13 H13 s13 x13 => ?_⟩
  refine ⟨_, rfl, rfl, fun a14 H14 s14 x14 => ?_⟩
  refine ⟨line_le (by simp), fun q2 g2 => ?_⟩
  obtain ⟨y2, d2⟩ := layS (o := .lst [.ref a11, .ref a12, .ref a13, .ref a14]) g2
  refine ⟨_, _, _, _, rfl, rfl, (((((s11).trans s12).trans s13).trans s14).trans y2) _ _ c1, d2, line_of (by simp), fun p2 h2 => ?_⟩
  obtain ⟨z2, c2⟩ := layS (o := .lst (([.ref a0, .ref a1, .ref a2, .ref a3, .ref a4, .ref a5] ++ [.ref a6, .ref a7, .ref a8, .ref a9, .ref a10]) ++ [.ref a11, .ref a12, .ref a13, .ref a14])) h2
  have sAll : Same H (upd _ p2 _) := (((((((((((((((((((s0).trans s1).trans s2).trans s3).trans s4).trans s5).trans y0).trans s6).trans s7).trans s8).trans s9).trans s10).trans y1).trans z1).trans s11).trans s12).trans s13).trans s14).trans y2).trans z2
  have u19 := z2
  have u18 := y2.trans u19
  have u17 := s14.trans u18
  have u16 := s13.trans u17
  have u15 := s12.trans u16
  have u14 := s11.trans u15
  have u13 := z1.trans u14
  have u12 := y1.trans u13
  have u11 := s10.trans u12
  have u10 := s9.trans u11
  have u9 := s8.trans u10
  have u8 := s7.trans u9
  have u7 := s6.trans u8
  have u6 := y0.trans u7
  have u5 := s5.trans u6
  have u4 := s4.trans u5
  have u3 := s3.trans u4
  have u2 := s2.trans u3
  have u1 := s1.trans u2
  have u0 := s0.trans u1
  have X0 := x0.same u1
  have X1 := x1.same u2
  have X2 := x2.same u3
  have X3 := x3.same u4
  have X4 := x4.same u5
  have X5 := x5.same u6
  have X6 := x6.same u8
  have X7 := x7.same u9
  have X8 := x8.same u10
  have X9 := x9.same u11
  have X10 := x10.same u12
  have X11 := x11.same u15
  have X12 := x12.same u16
  have X13 := x13.same u17
  have X14 := x14.same u18
  have key : ∀ i : Nat, i < 15 → ∃ a, atI ((([.ref a0, .ref a1, .ref a2, .ref a3, .ref a4, .ref a5] ++ [.ref a6, .ref a7, .ref a8, .ref a9, .ref a10]) ++ [.ref a11, .ref a12, .ref a13, .ref a14]) : List V) (0 + (i : Int)) = some (.ref a) ∧ XA K (upd (upd H14 q2 (.lst [.ref a11, .ref a12, .ref a13, .ref a14])) p2 (.lst (([.ref a0, .ref a1, .ref a2, .ref a3, .ref a4, .ref a5] ++ [.ref a6, .ref a7, .ref a8, .ref a9, .ref a10]) ++ [.ref a11, .ref a12, .ref a13, .ref a14]))) a (exNames.getD i "") := by
    intro i hi
    match i, hi with
    | 0, _ => exact ⟨a0, by rw [Int.zero_add]; exact atI_nat (j := 0) rfl, X0.xa⟩
    | 1, _ => exact ⟨a1, by rw [Int.zero_add]; exact atI_nat (j := 1) rfl, X1.xa⟩
    | 2, _ => exact ⟨a2, by rw [Int.zero_add]; exact atI_nat (j := 2) rfl, X2.xa⟩
    | 3, _ => exact ⟨a3, by rw [Int.zero_add]; exact atI_nat (j := 3) rfl, X3.xa⟩
    | 4, _ => exact ⟨a4, by rw [Int.zero_add]; exact atI_nat (j := 4) rfl, X4.xa⟩
    | 5, _ => exact ⟨a5, by rw [Int.zero_add]; exact atI_nat (j := 5) rfl, X5⟩
    | 6, _ => exact ⟨a6, by rw [Int.zero_add]; exact atI_nat (j := 6) rfl, X6.xa⟩
    | 7, _ => exact ⟨a7, by rw [Int.zero_add]; exact atI_nat (j := 7) rfl, X7.xa⟩
    | 8, _ => exact ⟨a8, by rw [Int.zero_add]; exact atI_nat (j := 8) rfl, X8.xa⟩
    | 9, _ => exact ⟨a9, by rw [Int.zero_add]; exact atI_nat (j := 9) rfl, X9.xa⟩
    | 10, _ => exact ⟨a10, by rw [Int.zero_add]; exact atI_nat (j := 10) rfl, X10.xa⟩
    | 11, _ => exact ⟨a11, by rw [Int.zero_add]; exact atI_nat (j := 11) rfl, X11.xa⟩
    | 12, _ => exact ⟨a12, by rw [Int.zero_add]; exact atI_nat (j := 12) rfl, X12.xa⟩
    | 13, _ => exact ⟨a13, by rw [Int.zero_add]; exact atI_nat (j := 13) rfl, X13.xa⟩
    | 14, _ => exact ⟨a14, by rw [Int.zero_add]; exact atI_nat (j := 14) rfl, X14.xa⟩
    | n + 15, h => exact absurd h (by omega)
  refine ⟨_, rfl, by decide, by decide, for_range (lo := 0) (n := _) (fun i σ G => ∃ x4, σ = [some (.int one), some (.int two), some (.str word), some (.ref p2), x4, none, none, none] ∧ Same (upd (upd H14 q2 (.lst [.ref a11, .ref a12, .ref a13, .ref a14])) p2 (.lst (([.ref a0, .ref a1, .ref a2, .ref a3, .ref a4, .ref a5] ++ [.ref a6, .ref a7, .ref a8, .ref a9, .ref a10]) ++ [.ref a11, .ref a12, .ref a13, .ref a14]))) G) ?_ ?_ ?_⟩
  · exact ⟨none, rfl, Same.refl _⟩
  · rintro i σ G hi ⟨x4, rfl, S⟩
    have hi : i < 15 := hi
    obtain ⟨a, ha, hA⟩ := key i hi
    have hx := ex_mem ⟨i, hi⟩
    have hC := exc_all T _ hx
    have ki := kiB_ok (ki_ok T) hx
    have hA1 := hA.same S
    have e1 := S _ _ c2
    refine ⟨_, rfl, _, rfl, p2, _, _, .ref a, rfl, rfl, SqL.of e1, ha, a, _, _, _, _, rfl, hC, hA1, fun u r => r, ki.2.1, _, rfl, iteF ?_⟩
    refine ⟨_, rfl, _, rfl, p2, _, _, .ref a, rfl, rfl, SqL.of e1, ha, a, _, _, _, _, rfl, hC, hA1, fun u r => r, ki.2.2, _, rfl, iteF ?_⟩
    refine ⟨_, rfl, _, rfl, p2, _, _, .ref a, rfl, rfl, SqL.of e1, ha, a, _, rfl, hx, hC, hA1, fun p G1 S1 ep => ?_⟩
    refine ⟨_, rfl, by decide, by decide, fun D hD => lc_range (lo := 0) (n := _) (fun j G2 => Same G1 G2 ∧ G2 D = some (.lst (((List.range j).map fun m : Nat => decide (V.int (0 + (m : Int)) = V.int (0 + (i : Int)))).map V.bl))) ?_ ?_ ?_⟩
    · exact ⟨sNew hD, upd_same⟩
    · rintro j G2 hj ⟨S2, eD⟩
      have hj : j < 15 := hj
      refine ⟨rfl, tYes_of ?_⟩
      refine ⟨_, rfl, _, rfl, rfl, _, eD, line_of (by simp; omega), sOwn S2 hD, ?_⟩
      rw [upd_same]
      simp [List.range_succ]
    · rintro G2 ⟨S2, eD⟩
      refine ⟨_, _, .lst (SqL.of (S2 _ _ ep)) (dp_bools _), .lst (SqL.of eD) (dp_bools _), sh_bools _, sh_bools _, _, rfl, ?_⟩
      rw [eqv_bools]
      refine iteND (fun c => absurd (cls_rng ⟨i, hi⟩) c) (fun c => ?_)
      exact ⟨_, rfl, (S.trans S1).trans S2⟩
  · rintro σ G ⟨x4, rfl, S⟩
    obtain ⟨b0, m0, v0⟩ := X0.same S
    obtain ⟨b1, m1, v1⟩ := X1.same S
    obtain ⟨b2, m2, v2⟩ := X2.same S
    obtain ⟨b3, m3, v3⟩ := X3.same S
    obtain ⟨b4, m4, v4⟩ := X4.same S
    obtain ⟨b6, m6, v6⟩ := X6.same S
    obtain ⟨b7, m7, v7⟩ := X7.same S
    obtain ⟨b8, m8, v8⟩ := X8.same S
    obtain ⟨b9, m9, v9⟩ := X9.same S
    obtain ⟨b10, m10, v10⟩ := X10.same S
    obtain ⟨b11, m11, v11⟩ := X11.same S
    obtain ⟨b12, m12, v12⟩ := X12.same S
    obtain ⟨b13, m13, v13⟩ := X13.same S
    obtain ⟨b14, m14, v14⟩ := X14.same S
    have e1 := S _ _ c2
    refine ⟨_, rfl, p2, _, _, .ref a0, rfl, rfl, SqL.of (e1), rfl, a0, cA K "BadStretch", b0, _, _, rfl, (xf_BadStretch T).1, (ef_BadStretch T).n "low" (by simp), m0, v0, rfl, ?_⟩
    refine ⟨_, rfl, p2, _, _, .ref a0, rfl, rfl, SqL.of (e1), rfl, a0, cA K "BadStretch", b0, _, _, rfl, (xf_BadStretch T).1, (ef_BadStretch T).n "high" (by simp), m0, v0, rfl, ?_⟩
    refine ⟨_, rfl, p2, _, _, .ref a1, rfl, rfl, SqL.of (e1), rfl, a1, cA K "BadText", b1, _, _, rfl, (xf_BadText T).1, (ef_BadText T).n "text" (by simp), m1, v1, rfl, ?_⟩
    refine ⟨_, rfl, p2, _, _, .ref a2, rfl, rfl, SqL.of (e1), rfl, a2, cA K "NoMember", b2, _, _, rfl, (xf_NoMember T).1, (ef_NoMember T).n "index" (by simp), m2, v2, rfl, ?_⟩
    refine ⟨_, rfl, p2, _, _, .ref a3, rfl, rfl, SqL.of (e1), rfl, a3, cA K "BadStep", b3, _, _, rfl, (xf_BadStep T).1, (ef_BadStep T).n "number" (by simp), m3, v3, rfl, ?_⟩
    refine ⟨_, rfl, p2, _, _, .ref a4, rfl, rfl, SqL.of (e1), rfl, a4, cA K "BadPace", b4, _, _, rfl, (xf_BadPace T).1, (ef_BadPace T).n "slowest" (by simp), m4, v4, rfl, ?_⟩
    refine ⟨line_le (by simp), fun r0 f0 => ?_⟩
    obtain ⟨w0, o0⟩ := layS (o := .lst [.int one, .int two, .str word, .int one, .int one, .non]) f0
    refine ⟨_, rfl, _, rfl, p2, _, _, .ref a4, rfl, rfl, SqL.of ((w0) _ _ e1), rfl, a4, cA K "BadPace", b4, _, _, rfl, (xf_BadPace T).1, (ef_BadPace T).n "fastest" (by simp), (w0) _ _ m4, (w0) _ _ v4, rfl, ?_⟩
    refine ⟨_, rfl, p2, _, _, .ref a6, rfl, rfl, SqL.of ((w0) _ _ e1), rfl, a6, cA K "NoKey", b6, _, _, rfl, (xf_NoKey T).1, (ef_NoKey T).n "key" (by simp), (w0) _ _ m6, (w0) _ _ v6, rfl, ?_⟩
    refine ⟨_, rfl, p2, _, _, .ref a7, rfl, rfl, SqL.of ((w0) _ _ e1), rfl, a7, cA K "Impossible", b7, _, _, rfl, (xf_Impossible T).1, (ef_Impossible T).n "key" (by simp), (w0) _ _ m7, (w0) _ _ v7, rfl, ?_⟩
    refine ⟨_, rfl, p2, _, _, .ref a7, rfl, rfl, SqL.of ((w0) _ _ e1), rfl, a7, cA K "Impossible", b7, _, _, rfl, (xf_Impossible T).1, (ef_Impossible T).n "value" (by simp), (w0) _ _ m7, (w0) _ _ v7, rfl, ?_⟩
    refine ⟨_, rfl, p2, _, _, .ref a8, rfl, rfl, SqL.of ((w0) _ _ e1), rfl, a8, cA K "BadName", b8, _, _, rfl, (xf_BadName T).1, (ef_BadName T).n "name" (by simp), (w0) _ _ m8, (w0) _ _ v8, rfl, ?_⟩
    refine ⟨_, rfl, p2, _, _, .ref a9, rfl, rfl, SqL.of ((w0) _ _ e1), rfl, a9, cA K "UnknownName", b9, _, _, rfl, (xf_UnknownName T).1, (ef_UnknownName T).n "name" (by simp), (w0) _ _ m9, (w0) _ _ v9, rfl, ?_⟩
    refine ⟨line_le (by simp), fun r1 f1 => ?_⟩
    obtain ⟨w1, o1⟩ := layS (o := .lst [.int two, .int one, .int one, .int two, .str word, .str word]) f1
    refine ⟨_, _, _, _, rfl, rfl, (w1) _ _ o0, o1, line_of (by simp), fun t1 j1 => ?_⟩
    obtain ⟨n1, k1⟩ := layS (o := .lst ([.int one, .int two, .str word, .int one, .int one, .non] ++ [.int two, .int one, .int one, .int two, .str word, .str word])) j1
    refine ⟨_, rfl, _, rfl, p2, _, _, .ref a10, rfl, rfl, SqL.of ((((w0).trans w1).trans n1) _ _ e1), rfl, a10, cA K "WrongRange", b10, _, _, rfl, (xf_WrongRange T).1, (ef_WrongRange T).n "first" (by simp), (((w0).trans w1).trans n1) _ _ m10, (((w0).trans w1).trans n1) _ _ v10, rfl, ?_⟩
    refine ⟨_, rfl, p2, _, _, .ref a10, rfl, rfl, SqL.of ((((w0).trans w1).trans n1) _ _ e1), rfl, a10, cA K "WrongRange", b10, _, _, rfl, (xf_WrongRange T).1, (ef_WrongRange T).n "last" (by simp), (((w0).trans w1).trans n1) _ _ m10, (((w0).trans w1).trans n1) _ _ v10, rfl, ?_⟩
    refine ⟨_, rfl, p2, _, _, .ref a11, rfl, rfl, SqL.of ((((w0).trans w1).trans n1) _ _ e1), rfl, a11, cA K "TooMany", b11, _, _, rfl, (xf_TooMany T).1, (ef_TooMany T).n "limit" (by simp), (((w0).trans w1).trans n1) _ _ m11, (((w0).trans w1).trans n1) _ _ v11, rfl, ?_⟩
    refine ⟨_, rfl, p2, _, _, .ref a12, rfl, rfl, SqL.of ((((w0).trans w1).trans n1) _ _ e1), rfl, a12, cA K "NoAnswer", b12, _, _, rfl, (xf_NoAnswer T).1, (ef_NoAnswer T).n "name" (by simp), (((w0).trans w1).trans n1) _ _ m12, (((w0).trans w1).trans n1) _ _ v12, rfl, ?_⟩
    refine ⟨_, rfl, p2, _, _, .ref a12, rfl, rfl, SqL.of ((((w0).trans w1).trans n1) _ _ e1), rfl, a12, cA K "NoAnswer", b12, _, _, rfl, (xf_NoAnswer T).1, (ef_NoAnswer T).n "key" (by simp), (((w0).trans w1).trans n1) _ _ m12, (((w0).trans w1).trans n1) _ _ v12, rfl, ?_⟩
    refine ⟨line_le (by simp), fun r2 f2 => ?_⟩
    obtain ⟨w2, o2⟩ := layS (o := .lst [.int one, .int two, .int one, .str word, .int two]) f2
    refine ⟨_, _, _, _, rfl, rfl, (w2) _ _ k1, o2, line_of (by simp), fun t2 j2 => ?_⟩
    obtain ⟨n2, k2⟩ := layS (o := .lst (([.int one, .int two, .str word, .int one, .int one, .non] ++ [.int two, .int one, .int one, .int two, .str word, .str word]) ++ [.int one, .int two, .int one, .str word, .int two])) j2
    refine ⟨_, rfl, _, rfl, p2, _, _, .ref a13, rfl, rfl, SqL.of ((((((w0).trans w1).trans n1).trans w2).trans n2) _ _ e1), rfl, a13, cA K "NotServed", b13, _, _, rfl, (xf_NotServed T).1, (ef_NotServed T).n "wanted" (by simp), (((((w0).trans w1).trans n1).trans w2).trans n2) _ _ m13, (((((w0).trans w1).trans n1).trans w2).trans n2) _ _ v13, rfl, ?_⟩
    refine ⟨_, rfl, p2, _, _, .ref a14, rfl, rfl, SqL.of ((((((w0).trans w1).trans n1).trans w2).trans n2) _ _ e1), rfl, a14, cA K "Refused", b14, _, _, rfl, (xf_Refused T).1, (ef_Refused T).n "name" (by simp), (((((w0).trans w1).trans n1).trans w2).trans n2) _ _ m14, (((((w0).trans w1).trans n1).trans w2).trans n2) _ _ v14, rfl, ?_⟩
    refine ⟨line_le (by simp), fun r3 f3 => ?_⟩
    obtain ⟨w3, o3⟩ := layS (o := .lst [.int one, .str word]) f3
    refine ⟨_, _, _, _, rfl, rfl, (w3) _ _ k2, o3, line_of (by simp), fun t3 j3 => ?_⟩
    obtain ⟨n3, k3⟩ := layS (o := .lst ((([.int one, .int two, .str word, .int one, .int one, .non] ++ [.int two, .int one, .int one, .int two, .str word, .str word]) ++ [.int one, .int two, .int one, .str word, .int two]) ++ [.int one, .str word])) j3
    refine ⟨_, rfl, _, rfl, _, rfl, _, rfl, _, rfl, _, rfl, _, rfl, _, rfl, _, rfl, _, rfl, _, rfl, _, rfl, _, rfl, _, rfl, _, rfl, _, rfl, _, rfl, _, rfl, line_le (by simp), fun r9 f9 => ?_⟩
    obtain ⟨w9, o9⟩ := layS (o := .lst [.int one, .int two, .str word, .int one, .int one, .non, .int two, .int one, .int one, .int two, .str word, .str word, .int one, .int two, .int one, .str word, .int two, .int one, .str word]) f9
    have hsh : SeqAt.shaped (.list [.int one, .int two, .str word, .int one, .int one, .none, .int two, .int one, .int one, .int two, .str word, .str word, .int one, .int two, .int one, .str word, .int two, .int one, .str word]) = true := (sh_list (sh_cons (sh_int 0 _) (sh_cons (sh_int 0 _) (sh_cons (sh_str 0 _ hw) (sh_cons (sh_int 0 _) (sh_cons (sh_int 0 _) (sh_cons (sh_none 0) (sh_cons (sh_int 0 _) (sh_cons (sh_int 0 _) (sh_cons (sh_int 0 _) (sh_cons (sh_int 0 _) (sh_cons (sh_str 0 _ hw) (sh_cons (sh_str 0 _ hw) (sh_cons (sh_int 0 _) (sh_cons (sh_int 0 _) (sh_cons (sh_int 0 _) (sh_cons (sh_str 0 _ hw) (sh_cons (sh_int 0 _) (sh_cons (sh_int 0 _) (sh_cons (sh_str 0 _ hw) sh_nil)))))))))))))))))))).shaped
    refine ⟨_, rfl, _, rfl, .list [.int one, .int two, .str word, .int one, .int one, .none, .int two, .int one, .int one, .int two, .str word, .str word, .int one, .int two, .int one, .str word, .int two, .int one, .str word], .list [.int one, .int two, .str word, .int one, .int one, .none, .int two, .int one, .int one, .int two, .str word, .str word, .int one, .int two, .int one, .str word, .int two, .int one, .str word], .lst (SqL.of (w9 _ _ k3)) (.cons (.int _) (.cons (.int _) (.cons (.str _) (.cons (.int _) (.cons (.int _) (.cons .non (.cons (.int _) (.cons (.int _) (.cons (.int _) (.cons (.int _) (.cons (.str _) (.cons (.str _) (.cons (.int _) (.cons (.int _) (.cons (.int _) (.cons (.str _) (.cons (.int _) (.cons (.int _) (.cons (.str _) .nil))))))))))))))))))), .lst (SqL.of o9) (.cons (.int _) (.cons (.int _) (.cons (.str _) (.cons (.int _) (.cons (.int _) (.cons .non (.cons (.int _) (.cons (.int _) (.cons (.int _) (.cons (.int _) (.cons (.str _) (.cons (.str _) (.cons (.int _) (.cons (.int _) (.cons (.int _) (.cons (.str _) (.cons (.int _) (.cons (.int _) (.cons (.str _) .nil))))))))))))))))))), hsh, hsh, ?_⟩
    have he : PyData.eqv (.list [.int one, .int two, .str word, .int one, .int one, .none, .int two, .int one, .int one, .int two, .str word, .str word, .int one, .int two, .int one, .str word, .int two, .int one, .str word]) (.list [.int one, .int two, .str word, .int one, .int one, .none, .int two, .int one, .int one, .int two, .str word, .str word, .int one, .int two, .int one, .str word, .int two, .int one, .str word]) = true := by simp [eqv_list, eqvAll_cons, eqvAll_nil, eqv_int, eqv_str, PyData.eqv]
    rw [he]
    exact k _ ((sAll.trans S).trans ((((((((w0).trans w1).trans n1).trans w2).trans n2).trans w3).trans n3).trans w9))
theorem d__law_family (T : TT K mg) : Df Pg w K mg base 3 "_law_family" spFamily := df_mk T (T.dd 25) (g__law_family T) (fun f fd F => ok__law_family T F) (fun _ _ _ _ _ _ us hl => match us, hl with | [_, _, _], _ => rfl)
end
end Sr
namespace Sr
open PySem PySem.Spec PyProof.Rows L2
/-! ### joined stretches cover -/
def covers (acc : List (Int × Int)) (p : Int × Int) : Prop := ∃ q ∈ acc, q.1 ≤ p.1 ∧ p.2 ≤ q.2
theorem jstep_cover {acc : List (Int × Int)} {p : Int × Int} (h : ∀ q ∈ acc, q.1 ≤ p.1) : covers (jstep acc p) p ∧ (∀ q, covers acc q → covers (jstep acc p) q) ∧ ∀ r : Int × Int, p.1 ≤ r.1 → (∀ q ∈ acc, q.1 ≤ r.1) → ∀ q ∈ jstep acc p, q.1 ≤ r.1 := by
  rcases List.eq_nil_or_concat acc with rfl | ⟨a, b, rfl⟩
  · rw [jstep_nil]
    refine ⟨⟨p, by simp, Int.le_refl _, Int.le_refl _⟩, fun q ⟨x, hx, _⟩ => (nomatch hx), fun r hr _ q hq => ?_⟩
    rw [List.mem_singleton.mp hq]
    exact hr
  · rw [List.concat_eq_append] at h ⊢
    rw [jstep_snoc]
    have hb : b.1 ≤ p.1 := h b (by simp)
    split
    · refine ⟨⟨(b.1, if p.2 > b.2 then p.2 else b.2), by simp, hb, ?_⟩, fun q ⟨x, hx, h1, h2⟩ => ?_, fun r hr hrr q hq => ?_⟩
      · show p.2 ≤ if p.2 > b.2 then p.2 else b.2
        split <;> omega
      · rcases List.mem_append.mp hx with h3 | h3
        · exact ⟨x, List.mem_append.mpr (.inl h3), h1, h2⟩
        · rw [List.mem_singleton.mp h3] at h1 h2
          refine ⟨(b.1, if p.2 > b.2 then p.2 else b.2), by simp, h1, ?_⟩
          show q.2 ≤ if p.2 > b.2 then p.2 else b.2
          split <;> omega
      · rcases List.mem_append.mp hq with h3 | h3
        · exact hrr q (List.mem_append.mpr (.inl h3))
        · rw [List.mem_singleton.mp h3]
          exact hrr b (by simp)
    · refine ⟨⟨p, by simp, Int.le_refl _, Int.le_refl _⟩, fun q ⟨x, hx, h1, h2⟩ => ⟨x, List.mem_append.mpr (.inl hx), h1, h2⟩, fun r hr hrr q hq => ?_⟩
      rcases List.mem_append.mp hq with h3 | h3
      · exact hrr q h3
      · rw [List.mem_singleton.mp h3]
        exact hr
theorem jfold_cover : ∀ (qs acc : List (Int × Int)), (qs.Pairwise fun a b => lexLe a b = true) → (∀ q ∈ acc, ∀ r ∈ qs, q.1 ≤ r.1) → (∀ p, covers acc p → covers (qs.foldl jstep acc) p) ∧ ∀ p ∈ qs, covers (qs.foldl jstep acc) p
  | [], acc, _, _ => ⟨fun _ h => h, fun _ h => nomatch h⟩
  | p :: qs, acc, hs, ha => by
    obtain ⟨hp, hs⟩ := List.pairwise_cons.mp hs
    obtain ⟨c1, c2, c3⟩ := jstep_cover (acc := acc) (p := p) (fun q hq => ha q hq p List.mem_cons_self)
    have ih := jfold_cover qs (jstep acc p) hs (fun q hq r hr => c3 r (by have := lexLe_iff.mp (hp r hr); omega) (fun q hq => ha q hq r (List.mem_cons_of_mem _ hr)) q hq)
    refine ⟨fun q hq => ih.1 q (c2 q hq), fun q hq => ?_⟩
    rcases List.mem_cons.mp hq with rfl | hq
    · exact ih.1 _ c1
    · exact ih.2 q hq
theorem joinM_cover {ps : List (Int × Int)} {p : Int × Int} (h : p ∈ ps) : covers (joinM ps) p := (jfold_cover (sortP ps) [] (sortP_sorted ps) (fun _ h => nomatch h)).2 p ((sortP_perm ps).mem_iff.mpr h)
theorem joinM_in {ps : List (Int × Int)} {p : Int × Int} (h : p ∈ ps) (hp : p.1 ≤ p.2) : (joinM ps).any (inP p.1) = true ∧ (joinM ps).any (inP p.2) = true := by
  obtain ⟨q, hq, h1, h2⟩ := joinM_cover h
  refine ⟨List.any_eq_true.mpr ⟨q, hq, ?_⟩, List.any_eq_true.mpr ⟨q, hq, ?_⟩⟩
  · have a : q.1 ≤ p.1 := h1
    have b : p.1 ≤ q.2 := by omega
    simp [inP, a, b]
  · have a : q.1 ≤ p.2 := by omega
    simp [inP, a, h2]
/-- the first one that is not allowed, as the law notes it -/
def Due (G : Hp) (o : Option (Int × Int)) (x : Option V) : Prop := match o with
  | none => x = some .non
  | some p => ∃ t, x = some (.ref t) ∧ G t = some (.tup [.int p.1, .int p.2])
theorem Due.same {G G' : Hp} {o : Option (Int × Int)} {x : Option V} (s : TupLe G G') (h : Due G o x) : Due G' o x := by
  cases o with
  | none => exact h
  | some p => obtain ⟨t, e, q⟩ := h; exact ⟨t, e, s _ _ q⟩
def spLaw (K : PySem.W.Frag) : Sp := fun vs H Q _ => ∃ (a : Addr) (ns : List Int), vs = [.ref a] ∧ SqL K H a (ns.map V.int) ∧ ns.length ≤ 63 ∧ ∀ H', Q (.bl true) H'
section
variable {w : World} {K : PySem.W.Frag} {mg : Str → Option Value} {base : Heap} {f : Addr} {fd : FuncData}
theorem ok_law (T : TT K mg) (F : FunD K "law" "law" (defArgs s_law) (defBody s_law) (defScope s_law) [] [] f fd) : FnOk Pg w K mg base (L2.CX Pg w) 6 f fd ["_law_script"] (spLaw K) := by
  refine F.ok sc_law (fun vs H Q E h => ?_) (fun cdv A outer s H vs Q E hr h => ⟨_, (pss_cons (ps_set (i := 1) sc_law.nd rfl (Or.inl rfl) (pe_df (d__law_draws T) hr (by decide) (takes_of rfl rfl rfl rfl) rfl (pa_cons (pv 0) pa_nil)))
  (pss_cons (ps_set (i := 2) sc_law.nd rfl (Or.inl rfl) (pe_df (d__law_zone T) hr (by decide) (takes_of rfl rfl rfl rfl) rfl (pa_cons (pv 1) pa_nil)))
  (pss_cons (ps_set (i := 3) sc_law.nd rfl (Or.inl rfl) (pe_df (d__law_pairs T) hr (by decide) (takes_of rfl rfl rfl rfl) rfl (pa_cons (pv 1) (pa_cons (pv 2) (pa_cons pe_int pa_nil)))))
  (pss_cons (ps_set (i := 4) sc_law.nd rfl (Or.inl rfl) (pe_callTy call_list_of (by rfl) (f_list T) (by decide +kernel) (pa_cons (pv 3) pa_nil)))
  (pss_cons (ps_for (passes_of rfl) rfl (pi_range1 (by rfl) (f_range T) (pa_cons (pe_op op_add pe_int (pe_df (d__law_next T) hr (by decide) (takes_of rfl rfl rfl rfl) rfl (pa_cons (pv 1) (pa_cons pe_int pa_nil)))) pa_nil)) (pg_name (i := 5) sc_law.nd rfl (Or.inl rfl))
  (pss_cons (ps_set (i := 6) sc_law.nd rfl (Or.inl rfl) (pe_df (d__law_next T) hr (by decide) (takes_of rfl rfl rfl rfl) rfl (pa_cons (pv 1) (pa_cons (pe_op op_add (pe_callB call_len_seq (by rfl) (f_len T) (by decide +kernel) (pa_cons (pv 4) pa_nil)) pe_int) pa_nil))))
  (pss_one (ps_expr (pe_bm PySem.F.plainAttrs_list PySem.F.slot_list_insert PySem.F.type_list_insert mt_insert (pv 4) (pa_cons (pv 6) (pa_cons (pe_df (d__law_spoilt T) hr (by decide) (takes_of rfl rfl rfl rfl) rfl (pa_cons (pv 1) (pa_cons (pv 2) pa_nil))) pa_nil)))))))
  (pss_cons (ps_set (i := 7) sc_law.nd rfl (Or.inl rfl) pe_non)
  (pss_cons (ps_for (passes_of rfl) rfl (pi_list (pv 4)) (pg_tup rfl (pgs_cons (pg_name (i := 8) sc_law.nd rfl (Or.inl rfl)) (pgs_cons (pg_name (i := 9) sc_law.nd rfl (Or.inl rfl)) pgs_nil)))
  (pss_one (ps_if (PW.pt (pw_and (pt_cmpR op_isN (pv 7) pe_non (nomark _)) (pw_and1 (PW.pt (pw_or (pt_cmpR op_lt (pv 8) (pe_cst (v := .int (-1000000000000000000)) (pe_un un_neg (pe_cst (v := .int (1000000000000000000)) (pe_op op_pow pe_int pe_int) (fun _ _ _ h => ⟨_, _, rfl, rfl, ⟨by decide, by decide, by decide⟩, cst_eq (by decide) h⟩))) (fun _ _ _ h => ⟨_, rfl, cst_eq (by decide) h⟩)) (nomark _)) (pw_or (pt_cmpR op_gt (pv 9) (pe_cst (v := .int (1000000000000000000)) (pe_op op_pow pe_int pe_int) (fun _ _ _ h => ⟨_, _, rfl, rfl, ⟨by decide, by decide, by decide⟩, cst_eq (by decide) h⟩)) (nomark _)) (pw_or1 (pt_cmpR op_gt (pv 8) (pv 9) (nomark _)))))))))
  (pss_one (ps_set (i := 7) sc_law.nd rfl (Or.inl rfl) (pe_tup (pa_cons (pv 8) (pa_cons (pv 9) pa_nil)))))
  pss_nil)))
  (pss_cons (ps_set (i := 10) sc_law.nd rfl (Or.inl rfl) (pe_callTy call_list_of (by rfl) (f_list T) (by decide +kernel) (pa_cons (pv 4) pa_nil)))
  (pss_cons (ps_if (pt_cmpR op_eq (pe_df (d__law_next T) hr (by decide) (takes_of rfl rfl rfl rfl) rfl (pa_cons (pv 1) (pa_cons pe_int pa_nil))) pe_int (nomark _))
  (pss_one (ps_set (i := 10) sc_law.nd rfl (Or.inl rfl) (pe_callTy call_tuple_of (by rfl) (f_tuple T) (by decide +kernel) (pa_cons (pv 4) pa_nil))))
  pss_nil)
  (pss_cons (ps_set (i := 11) sc_law.nd rfl (Or.inl rfl) (pe_df (d__law_refused T) hr (by decide) (takes_of rfl rfl rfl rfl) rfl (pa_cons (pv 10) pa_nil)))
  (pss_cons (ps_if (PW.pt (pw_or (pt_cmpR op_ne (pe_callB call_len_seq (by rfl) (f_len T) (by decide +kernel) (pa_cons (pv 11) pa_nil)) pe_int (nomark _)) (pw_or (pt_not (pt_val (pe_df (d__law_is_int T) hr (by decide) (takes_of rfl rfl rfl rfl) rfl (pa_cons (pe_ix ix_list (pv 11) pe_int (fun _ _ => rfl)) pa_nil)))) (pw_or1 (pt_not (pt_val (pe_df (d__law_is_int T) hr (by decide) (takes_of rfl rfl rfl rfl) rfl (pa_cons (pe_ix ix_list (pv 11) pe_int (fun _ _ => rfl)) pa_nil))))))))
  (pss_one (ps_ret pe_bl))
  pss_nil)
  (pss_cons (ps_if (PW.pt (pw_or (pt_cmpR (op_neD hr.units) (pv 11) (pe_lst (pa_cons (pe_ix ix_tup (pv 7) pe_int (fun _ _ => rfl)) (pa_cons (pe_ix ix_tup (pv 7) pe_int (fun _ _ => rfl)) (pa_cons pe_bl (pa_cons pe_bl pa_nil))))) (nomark _)) (pw_or1 (pt_cmpR (op_neD hr.units) (pe_callTy call_list_of (by rfl) (f_list T) (by decide +kernel) (pa_cons (pv 10) pa_nil)) (pv 4) (nomark _)))))
  (pss_one (ps_ret pe_bl))
  pss_nil)
  (pss_cons (ps_set (i := 12) sc_law.nd rfl (Or.inl rfl) (pe_df (d_Stretches T) hr (by decide) (takes_of rfl rfl rfl rfl) rfl (pa_cons (pe_callTy call_list_of (by rfl) (f_list T) (by decide +kernel) (pa_cons (pv 3) pa_nil)) pa_nil)))
  (pss_cons (ps_for (passes_of rfl) rfl (pi_list (pv 3)) (pg_tup rfl (pgs_cons (pg_name (i := 8) sc_law.nd rfl (Or.inl rfl)) (pgs_cons (pg_name (i := 9) sc_law.nd rfl (Or.inl rfl)) pgs_nil)))
  (pss_one (ps_if (PW.pt (pw_or (pt_cmp (pc_notInC (in_Stretches T) (ct_Stretches T) hr (by decide) (takes_of rfl rfl rfl rfl) (pv 8) (pv 12)) rfl) (pw_or1 (pt_cmp (pc_notInC (in_Stretches T) (ct_Stretches T) hr (by decide) (takes_of rfl rfl rfl rfl) (pv 9) (pv 12)) rfl))))
  (pss_one (ps_ret pe_bl))
  pss_nil)))
  (pss_cons (ps_set (i := 13) sc_law.nd rfl (Or.inl rfl) (pe_op op_sub pe_int (pe_df (d__law_next T) hr (by decide) (takes_of rfl rfl rfl rfl) rfl (pa_cons (pv 1) (pa_cons (pe_cst (v := .int (10000000000000000000)) (pe_op op_pow pe_int pe_int) (fun _ _ _ h => ⟨_, _, rfl, rfl, ⟨by decide, by decide, by decide⟩, cst_eq (by decide) h⟩)) pa_nil)))))
  (pss_cons (ps_set (i := 14) sc_law.nd rfl (Or.inl rfl) (pe_op op_add pe_int (pe_df (d__law_next T) hr (by decide) (takes_of rfl rfl rfl rfl) rfl (pa_cons (pv 1) (pa_cons (pe_cst (v := .int (10000000000000000000)) (pe_op op_pow pe_int pe_int) (fun _ _ _ h => ⟨_, _, rfl, rfl, ⟨by decide, by decide, by decide⟩, cst_eq (by decide) h⟩)) pa_nil)))))
  (pss_cons (ps_if (pt_not (pt_val (pe_df (d__law_family T) hr (by decide) (takes_of rfl rfl rfl rfl) rfl (pa_cons (pv 13) (pa_cons (pv 14) (pa_cons (pe_ix ix_list (pe_lst (pa_cons pe_str (pa_cons pe_str (pa_cons pe_str pa_nil)))) (pe_df (d__law_next T) hr (by decide) (takes_of rfl rfl rfl rfl) rfl (pa_cons (pv 1) (pa_cons pe_int pa_nil))) (fun _ _ => rfl)) pa_nil))))))
  (pss_one (ps_ret pe_bl))
  pss_nil)
  (pss_one (ps_ret (pe_cmpR (op_eqD hr.units) (pe_df (d__law_refused T) hr (by decide) (takes_of rfl rfl rfl rfl) rfl (pa_cons (pv 3) pa_nil)) (pe_lst pa_nil) (nomark _))))))))))))))))))))), ?_⟩)
  · obtain ⟨a, ns, rfl, _⟩ := h
    rfl
  obtain ⟨a, ns, rfl, hS, hn, k⟩ := h
  refine ⟨_, rfl, a, ns, rfl, hS, hn, fun d H1 hd S1 D1 => ?_⟩
  refine ⟨_, rfl, d, rfl, D1, fun lo hi z H2 hZ D2 B2 ez => ?_⟩
  refine ⟨_, rfl, _, rfl, d, z, lo, hi, 8, rfl, D2, ez, hZ, by decide, by decide, fun g xs ps H3 hg D3 B3 eg hP hok hlen => ?_⟩
  refine ⟨_, rfl, g, xs, rfl, .inl (SqL.of eg), fun r hr0 => ?_⟩
  have gd : g ≠ d := D2.ne hg
  have rd : r ≠ d := D3.ne hr0
  have zd : z ≠ d := by rintro rfl; obtain ⟨_, e⟩ := D2.ls; rw [ez] at e; cases e
  have rg : r ≠ g := Ne.symm (ne_of_none eg hr0)
  have S3 := sNew (o := .lst xs) hr0
  have D4 := D3.same S3
  have eg4 := S3 _ _ eg
  have hP4 := hP.mono (.of S3)
  have ez4 := S3 _ _ (B3 _ _ zd ez)
  have hxl := hP.len
  refine ⟨_, rfl, d, 2, rfl, D4, by decide, fun n H4 n0 n1 D5 B5 => ?_⟩
  refine ⟨_, _, rfl, rfl, _, rfl, by omega, by omega, for_range (lo := 0) (n := _) (fun i σ G => ∃ (x1 x2 : Option V) (ys : List V) (qs : List (Int × Int)), σ = [some (.ref a), some (.ref d), some (.ref z), some (.ref g), some (.ref r), x1, x2, none, none, none, none, none, none, none, none] ∧
    Dr G d ∧ G z = some (.tup [.int lo, .int hi]) ∧ G g = some (.lst xs) ∧ Prs G xs ps ∧ G r = some (.lst ys) ∧ Prs G ys qs ∧ qs.length = ps.length + i ∧ (0 < i → qs.find? badP ≠ none)) ?_ ?_ ?_⟩
  · have e4 : H4 r = some (.lst xs) := B5 _ _ rd upd_same
    exact ⟨none, none, xs, ps, rfl, D5, B5 _ _ zd ez4, B5 _ _ gd eg4, hP4.mono (D4.tup B5), e4, hP4.mono (D4.tup B5), rfl, fun h => absurd h (by decide)⟩
  · rintro i σ G hi' ⟨x1, x2, ys, qs, rfl, DG, zG, gG, pG, rG, qG, hql, hqb⟩
    have hi2 : i < 2 := by
      have : ((1 : Int) + n).toNat ≤ 2 := by omega
      omega
    have hyl := qG.len
    refine ⟨_, rfl, _, rfl, r, _, rfl, .inl (SqL.of rG), _, _, rfl, rfl, d, _, rfl, DG, by omega, fun pl G1 p0 p1 DG1 BG1 => ?_⟩
    have rG1 := BG1 _ _ rd rG
    refine ⟨_, rfl, tyL rG1, _, rfl, _, rfl, _, rfl, d, z, lo, hi, rfl, DG1, BG1 _ _ zd zG, hZ, fun t p G2 DG2 BG2 et hb => ?_⟩
    have BB : But d G G2 := BG1.trans BG2
    have T2 := DG.tup BB
    have rG2 := BB _ _ rd rG
    refine ⟨r, _, pl, .ref t, rfl, rfl, rG2, line_of (by omega), p0, by omega, ?_⟩
    have qG2 := qG.mono T2
    have T3 : TupLe G2 (upd G2 r (.lst (ys.take pl.toNat ++ [.ref t] ++ ys.drop pl.toNat))) := TupLe.lst rG2
    have zr : z ≠ r := by rintro rfl; rw [zG] at rG; cases rG
    refine ⟨_, _, _, qs.take pl.toNat ++ [p] ++ qs.drop pl.toNat, rfl, DG2.set rd, by rw [upd_ne zr]; exact BB _ _ zd zG, by rw [upd_ne (Ne.symm rg)]; exact BB _ _ gd gG, (pG.mono T2).mono T3, upd_same, ?_, ?_, fun _ e => ?_⟩
    · have take_ : ∀ {us : List V} {rs : List (Int × Int)} (n : Nat), Prs G2 us rs → Prs G2 (us.take n) (rs.take n) ∧ Prs G2 (us.drop n) (rs.drop n) := by
        intro us rs n h
        induction h generalizing n with
        | nil => cases n <;> exact ⟨.nil, .nil⟩
        | @cons a b us rs h1 h2 ih =>
          cases n with
          | zero => exact ⟨.nil, .cons h1 h2⟩
          | succ n => exact ⟨.cons h1 (ih n).1, (ih n).2⟩
      have q1 := take_ pl.toNat qG2
      exact Prs.mono T3 (Prs.app (Prs.app q1.1 (.cons ⟨t, rfl, et⟩ .nil)) q1.2)
    · simp only [List.length_append, List.length_take, List.length_drop, List.length_cons, List.length_nil]
      omega
    · have := List.find?_eq_none.mp e p (by simp)
      exact this hb
  · rintro σ G ⟨x1, x2, ys, qs, rfl, DG, zG, gG, pG, rG, qG, hql, hqb⟩
    have hn2 : ((1 : Int) + n).toNat ≤ 2 := by omega
    have hqb := hqb (by omega)
    have hql : qs.length ≤ 3000 := by omega
    refine ⟨_, rfl, r, rfl, ⟨_, SqL.of rG⟩, for_prL (ys := ys) (qs := qs) (fun done σ G1 => ∃ (x7 x8 x9 : Option V), σ = [some (.ref a), some (.ref d), some (.ref z), some (.ref g), some (.ref r), x1, x2, x7, x8, x9, none, none, none, none, none] ∧ Same G G1 ∧ Due G1 (done.find? badP) x7) ?_ ?_ ?_ ?_⟩
    · exact ⟨_, _, _, rfl, Same.refl G, rfl⟩
    · rintro done σ G1 ⟨x7, x8, x9, rfl, S, hd7⟩
      exact ⟨SqL.of (S _ _ rG), qG.mono (.of S)⟩
    · rintro done q rest σ G1 hq ⟨x7, x8, x9, rfl, S, hd7⟩
      cases hf : done.find? badP with
      | some p =>
        rw [hf] at hd7
        obtain ⟨t, rfl, et⟩ := hd7
        refine ⟨_, rfl, rfl, _, rfl, iteD (fun c => nomatch c) (fun c => iteF ⟨_, _, _, rfl, S, ?_⟩)⟩
        rw [List.find?_append, hf]
        exact ⟨t, rfl, et⟩
      | none =>
        rw [hf] at hd7
        subst hd7
        have yes : badP q = true → ∀ t : Addr, G1 t = none → ∃ (x7 x8 x9 : Option V), [some (V.ref a), some (.ref d), some (.ref z), some (.ref g), some (.ref r), x1, x2, some (.ref t), some (.int q.1), some (.int q.2), none, none, none, none, none] = [some (.ref a), some (.ref d), some (.ref z), some (.ref g), some (.ref r), x1, x2, x7, x8, x9, none, none, none, none, none] ∧ Same G (upd G1 t (.tup [.int q.1, .int q.2])) ∧ Due (upd G1 t (.tup [.int q.1, .int q.2])) ((done ++ [q]).find? badP) x7 := by
          intro hb t ht
          refine ⟨_, _, _, rfl, S.trans (sNew ht), ?_⟩
          rw [List.find?_append, hf]
          simp only [List.find?_cons, hb, Option.none_or]
          exact ⟨t, rfl, upd_same⟩
        refine ⟨_, rfl, rfl, _, rfl, iteD (fun _ => ?_) (fun c => absurd rfl c)⟩
        refine ⟨_, rfl, _, _, rfl, rfl, _, rfl, iteD (fun c1 => iteT ⟨_, rfl, _, rfl, line_le (by simp), yes ?_⟩) (fun c1 => ⟨_, rfl, _, _, rfl, rfl, _, rfl, iteD (fun c2 => iteT ⟨_, rfl, _, rfl, line_le (by simp), yes ?_⟩) (fun c2 => ⟨_, rfl, _, rfl, _, _, rfl, rfl, _, rfl, iteD (fun c3 => ⟨_, rfl, _, rfl, line_le (by simp), yes ?_⟩) (fun c3 => ⟨_, _, _, rfl, S, ?_⟩)⟩)⟩)⟩
        · simp [badP, c1]
        · simp [badP, c2]
        · simp [badP, c3]
        · rw [List.find?_append, hf]
          have hq0 : badP q = false := by simp [badP, c1, c2, c3]
          simp only [List.find?_cons, hq0, Option.none_or]
          exact rfl
    · rintro σ G1 ⟨x7, x8, x9, rfl, S, hd7⟩
      have D1 := DG.same S
      have g1 := S _ _ gG
      have p1 := pG.mono (.of S)
      have r1 := S _ _ rG
      have q1 := qG.mono (.of S)
      obtain ⟨p, hp⟩ := Option.ne_none_iff_exists'.mp hqb
      rw [hp] at hd7
      obtain ⟨t, rfl, et⟩ := hd7
      refine ⟨_, rfl, r, _, rfl, .inl (SqL.of r1), fun h0 hh0 => ?_⟩
      have S2 := sNew (o := .lst ys) hh0
      refine ⟨_, rfl, d, 2, rfl, D1.same S2, by decide, fun m G3 m0 m1 D3 B3 => ?_⟩
      have T3 := (D1.same S2).tup B3
      have g3 := B3 _ _ gd (S2 _ _ g1)
      have r3 := B3 _ _ rd (S2 _ _ r1)
      have p3 := (p1.mono (.of S2)).mono T3
      have q3 := (q1.mono (.of S2)).mono T3
      have t3 := T3 _ _ (S2 _ _ et)
      have h0d : h0 ≠ d := D1.ne hh0
      have h3 : SqLT K G3 h0 ys := .inl (SqL.of (B3 _ _ h0d upd_same))
      refine ⟨rfl, _, rfl, iteEq (fun c => ⟨_, rfl, r, _, rfl, .inl ⟨SqL.of r3, fun h1 hh1 => ?_⟩⟩) (fun c => ?_)⟩
      · have S4 := sNew (o := .tup ys) hh1
        have D4 := D3.same S4
        have g4 := S4 _ _ g3
        have r4 := S4 _ _ r3
        have p4 := p3.mono (.of S4)
        have q4 := q3.mono (.of S4)
        have t4 := S4 _ _ t3
        have h4 : SqLT K (upd G3 h1 (.tup ys)) h1 ys := .inr (SqT.of upd_same)
        refine ⟨_, rfl, _, ys, qs, rfl, h4, q4, by omega, fun tl G5 S5 etl => ?_⟩
        have e5 : G5 tl = some (.lst [.int p.1, .int p.2, .bl true, .bl false]) := by
          rw [etl]
          unfold toldR
          rw [hp]
        have D5 := D4.same S5
        have g5 := S5 _ _ g4
        have p5 := p4.mono (.of S5)
        have q5 := q4.mono (.of S5)
        have r5 := S5 _ _ r4
        have t5 := S5 _ _ t4
        have h5 := h4.same S5
        refine ⟨_, rfl, tl, _, rfl, .inl (SqL.of e5), rfl, _, rfl, iteND (fun c => absurd rfl c) (fun _ => ?_)⟩
        refine ⟨_, rfl, tl, _, _, .int p.1, rfl, rfl, SqL.of e5, rfl, p.1, rfl, true, rfl, iteF ?_⟩
        refine ⟨_, rfl, tl, _, _, .int p.2, rfl, rfl, SqL.of e5, rfl, p.2, rfl, true, rfl, iteF ?_⟩
        refine ⟨_, rfl, _, rfl, t, _, _, .int p.1, rfl, rfl, SqT.of t5, rfl, _, rfl, t, _, _, .int p.2, rfl, rfl, SqT.of t5, rfl, line_le (by simp), fun l1 hl1 => ?_⟩
        have S6 := sNew (o := .lst [.int p.1, .int p.2, .bl true, .bl false]) hl1
        have hsh : SeqAt.shaped (.list [.int p.1, .int p.2, .bool true, .bool false]) = true := (sh_list (sh_cons (sh_int 0 _) (sh_cons (sh_int 0 _) (sh_cons (sh_bool 0 _) (sh_cons (sh_bool 0 _) sh_nil))))).shaped
        refine ⟨.list [.int p.1, .int p.2, .bool true, .bool false], .list [.int p.1, .int p.2, .bool true, .bool false], .lst (SqL.of (S6 _ _ e5)) (.cons (.int _) (.cons (.int _) (.cons (.bl _) (.cons (.bl _) .nil)))), .lst (SqL.of upd_same) (.cons (.int _) (.cons (.int _) (.cons (.bl _) (.cons (.bl _) .nil)))), hsh, hsh, _, rfl, ?_⟩
        have he : PyData.eqv (.list [.int p.1, .int p.2, .bool true, .bool false]) (.list [.int p.1, .int p.2, .bool true, .bool false]) = true := by simp [eqv_list, eqvAll_cons, eqvAll_nil, eqv_int, eqv_bool]
        rw [he]
        refine iteF ?_
        refine ⟨_, rfl, _, ys, rfl, h5.same S6, fun l2 hl2 => ?_⟩
        have S7 := S6.trans (sNew (o := .lst ys) hl2)
        refine ⟨_, rfl, .list (qs.map pD), .list (qs.map pD), .lst (SqL.of upd_same) (dp_prs (q5.mono (.of S7))), .lst (SqL.of (S7 _ _ r5)) (dp_prs (q5.mono (.of S7))), sh_prs _, sh_prs _, _, rfl, ?_⟩
        rw [eqv_prs]
        refine iteND (fun c => absurd rfl c) (fun _ => ?_)
        have g7 := S7 _ _ g5
        refine ⟨_, rfl, g, xs, rfl, .inl (SqL.of g7), fun l3 hl3 => ?_⟩
        have S8 := S7.trans (sNew (o := .lst xs) hl3)
        refine ⟨l3, xs, ps, rfl, .inl (SqL.of upd_same), p5.mono (.of S8), by omega, fun _ nb G9 S9 st => ?_, fun p0 hp0 => absurd (ok_find hok) (by rw [hp0]; exact fun z => nomatch z)⟩
        have S10 := S8.trans S9
        have D9 := D5.same S10
        have g9 := S10 _ _ g5
        have p9 := p5.mono (.of S10)
        obtain ⟨sa, sdx, stt, sts, rfl, hslt, hstt, hstp⟩ := st
        refine ⟨_, rfl, g, rfl, ⟨_, SqL.of g9⟩, for_prL (ys := xs) (qs := ps) (fun done σ G1 => ∃ (x8 x9 : Option V), σ = [some (.ref a), some (.ref d), some (.ref z), some (.ref g), some (.ref r), x1, x2, some (.ref t), x8, x9, some (.ref h1), some (.ref tl), some (.ref sa), none, none] ∧ G1 = G9) ?_ ?_ ?_ ?_⟩
        · exact ⟨_, _, rfl, rfl⟩
        · rintro done σ G1 ⟨x8, x9, rfl, rfl⟩
          exact ⟨SqL.of g9, p9⟩
        · rintro done q rest σ G1 hq ⟨x8, x9, rfl, rfl⟩
          have hq1 : q ∈ ps := by rw [hq]; simp
          have ji := joinM_in hq1 (hok q hq1).2.1
          have st : St K G1 (.ref sa) (joinM ps) := ⟨sa, sdx, stt, sts, rfl, hslt, hstt, hstp⟩
          refine ⟨_, rfl, _, rfl, sa, sdx, _, rfl, hslt, .ref sa, q.1, joinM ps, rfl, st, _, rfl, _, rfl, ?_⟩
          rw [ji.1]
          refine iteF ?_
          refine ⟨_, rfl, _, rfl, sa, sdx, _, rfl, hslt, .ref sa, q.2, joinM ps, rfl, st, _, rfl, _, rfl, ?_⟩
          rw [ji.2]
          exact iteF ⟨_, _, rfl, rfl⟩
        rintro σ G1 ⟨x8, x9, rfl, rfl⟩
        refine ⟨_, rfl, d, _, rfl, D9, by decide, fun m1 G10 _ _ D10 B10 => ⟨_, _, rfl, rfl, ?_⟩⟩
        refine ⟨_, rfl, d, _, rfl, D10, by decide, fun m2 G11 _ _ D11 B11 => ⟨_, _, rfl, rfl, ?_⟩⟩
        refine ⟨_, rfl, _, rfl, line_le (by simp), fun l4 hl4 => ?_⟩
        have S12 := sNew (o := .lst [.str "price", .str "a", .str "stock"]) hl4
        refine ⟨_, rfl, d, 3, rfl, D11.same S12, by decide, fun m3 G13 m30 m31 D13 B13 => ?_⟩
        have l4d : l4 ≠ d := D11.ne hl4
        have l13 := B13 _ _ l4d upd_same
        have hw : ∃ wd : Str, atI [V.str "price", V.str "a", V.str "stock"] m3 = some (.str wd) ∧ PyData.strOk wd = true := by
          have hm : m3 = 0 ∨ m3 = 1 ∨ m3 = 2 := by omega
          rcases hm with rfl | rfl | rfl
          · exact ⟨_, rfl, by decide +kernel⟩
          · exact ⟨_, rfl, by decide +kernel⟩
          · exact ⟨_, rfl, by decide +kernel⟩
        obtain ⟨wd, hwd, hok2⟩ := hw
        refine ⟨l4, _, _, .str wd, rfl, rfl, SqL.of l13, hwd, _, _, wd, rfl, hok2, fun G14 S14 => ⟨true, rfl, iteF ?_⟩⟩
        have B14 : But d G1 G14 := ((B10.trans B11).trans (But.of S12)).trans (B13.trans (But.of S14))
        have g14 := B14 _ _ gd g9
        have p14 := p9.mono (D9.tup B14)
        refine ⟨_, rfl, g, xs, ps, rfl, .inl (SqL.of g14), p14, by omega, fun tl2 G15 S15 e15 => ⟨line_le (by simp), fun l5 hl5 => ?_⟩⟩
        have e16 : G15 tl2 = some (.lst []) := by
          rw [e15]
          unfold toldR
          rw [ok_find hok]
        refine ⟨.list [], .list [], .lst (SqL.of (sNew hl5 _ _ e16)) .nil, .lst (SqL.of upd_same) .nil, rfl, rfl, ?_⟩
        rw [show PyData.eqv (.list []) (.list []) = true from by simp [eqv_list, eqvAll_nil]]
        exact k _
      · have D4 := D3
        have g4 := g3
        have r4 := r3
        have p4 := p3
        have q4 := q3
        have t4 := t3
        have h4 := h3
        refine ⟨_, rfl, _, ys, qs, rfl, h4, q4, by omega, fun tl G5 S5 etl => ?_⟩
        have e5 : G5 tl = some (.lst [.int p.1, .int p.2, .bl true, .bl false]) := by
          rw [etl]
          unfold toldR
          rw [hp]
        have D5 := D4.same S5
        have g5 := S5 _ _ g4
        have p5 := p4.mono (.of S5)
        have q5 := q4.mono (.of S5)
        have r5 := S5 _ _ r4
        have t5 := S5 _ _ t4
        have h5 := h4.same S5
        refine ⟨_, rfl, tl, _, rfl, .inl (SqL.of e5), rfl, _, rfl, iteND (fun c => absurd rfl c) (fun _ => ?_)⟩
        refine ⟨_, rfl, tl, _, _, .int p.1, rfl, rfl, SqL.of e5, rfl, p.1, rfl, true, rfl, iteF ?_⟩
        refine ⟨_, rfl, tl, _, _, .int p.2, rfl, rfl, SqL.of e5, rfl, p.2, rfl, true, rfl, iteF ?_⟩
        refine ⟨_, rfl, _, rfl, t, _, _, .int p.1, rfl, rfl, SqT.of t5, rfl, _, rfl, t, _, _, .int p.2, rfl, rfl, SqT.of t5, rfl, line_le (by simp), fun l1 hl1 => ?_⟩
        have S6 := sNew (o := .lst [.int p.1, .int p.2, .bl true, .bl false]) hl1
        have hsh : SeqAt.shaped (.list [.int p.1, .int p.2, .bool true, .bool false]) = true := (sh_list (sh_cons (sh_int 0 _) (sh_cons (sh_int 0 _) (sh_cons (sh_bool 0 _) (sh_cons (sh_bool 0 _) sh_nil))))).shaped
        refine ⟨.list [.int p.1, .int p.2, .bool true, .bool false], .list [.int p.1, .int p.2, .bool true, .bool false], .lst (SqL.of (S6 _ _ e5)) (.cons (.int _) (.cons (.int _) (.cons (.bl _) (.cons (.bl _) .nil)))), .lst (SqL.of upd_same) (.cons (.int _) (.cons (.int _) (.cons (.bl _) (.cons (.bl _) .nil)))), hsh, hsh, _, rfl, ?_⟩
        have he : PyData.eqv (.list [.int p.1, .int p.2, .bool true, .bool false]) (.list [.int p.1, .int p.2, .bool true, .bool false]) = true := by simp [eqv_list, eqvAll_cons, eqvAll_nil, eqv_int, eqv_bool]
        rw [he]
        refine iteF ?_
        refine ⟨_, rfl, _, ys, rfl, h5.same S6, fun l2 hl2 => ?_⟩
        have S7 := S6.trans (sNew (o := .lst ys) hl2)
        refine ⟨_, rfl, .list (qs.map pD), .list (qs.map pD), .lst (SqL.of upd_same) (dp_prs (q5.mono (.of S7))), .lst (SqL.of (S7 _ _ r5)) (dp_prs (q5.mono (.of S7))), sh_prs _, sh_prs _, _, rfl, ?_⟩
        rw [eqv_prs]
        refine iteND (fun c => absurd rfl c) (fun _ => ?_)
        have g7 := S7 _ _ g5
        refine ⟨_, rfl, g, xs, rfl, .inl (SqL.of g7), fun l3 hl3 => ?_⟩
        have S8 := S7.trans (sNew (o := .lst xs) hl3)
        refine ⟨l3, xs, ps, rfl, .inl (SqL.of upd_same), p5.mono (.of S8), by omega, fun _ nb G9 S9 st => ?_, fun p0 hp0 => absurd (ok_find hok) (by rw [hp0]; exact fun z => nomatch z)⟩
        have S10 := S8.trans S9
        have D9 := D5.same S10
        have g9 := S10 _ _ g5
        have p9 := p5.mono (.of S10)
        obtain ⟨sa, sdx, stt, sts, rfl, hslt, hstt, hstp⟩ := st
        refine ⟨_, rfl, g, rfl, ⟨_, SqL.of g9⟩, for_prL (ys := xs) (qs := ps) (fun done σ G1 => ∃ (x8 x9 : Option V), σ = [some (.ref a), some (.ref d), some (.ref z), some (.ref g), some (.ref r), x1, x2, some (.ref t), x8, x9, some (.ref h0), some (.ref tl), some (.ref sa), none, none] ∧ G1 = G9) ?_ ?_ ?_ ?_⟩
        · exact ⟨_, _, rfl, rfl⟩
        · rintro done σ G1 ⟨x8, x9, rfl, rfl⟩
          exact ⟨SqL.of g9, p9⟩
        · rintro done q rest σ G1 hq ⟨x8, x9, rfl, rfl⟩
          have hq1 : q ∈ ps := by rw [hq]; simp
          have ji := joinM_in hq1 (hok q hq1).2.1
          have st : St K G1 (.ref sa) (joinM ps) := ⟨sa, sdx, stt, sts, rfl, hslt, hstt, hstp⟩
          refine ⟨_, rfl, _, rfl, sa, sdx, _, rfl, hslt, .ref sa, q.1, joinM ps, rfl, st, _, rfl, _, rfl, ?_⟩
          rw [ji.1]
          refine iteF ?_
          refine ⟨_, rfl, _, rfl, sa, sdx, _, rfl, hslt, .ref sa, q.2, joinM ps, rfl, st, _, rfl, _, rfl, ?_⟩
          rw [ji.2]
          exact iteF ⟨_, _, rfl, rfl⟩
        rintro σ G1 ⟨x8, x9, rfl, rfl⟩
        refine ⟨_, rfl, d, _, rfl, D9, by decide, fun m1 G10 _ _ D10 B10 => ⟨_, _, rfl, rfl, ?_⟩⟩
        refine ⟨_, rfl, d, _, rfl, D10, by decide, fun m2 G11 _ _ D11 B11 => ⟨_, _, rfl, rfl, ?_⟩⟩
        refine ⟨_, rfl, _, rfl, line_le (by simp), fun l4 hl4 => ?_⟩
        have S12 := sNew (o := .lst [.str "price", .str "a", .str "stock"]) hl4
        refine ⟨_, rfl, d, 3, rfl, D11.same S12, by decide, fun m3 G13 m30 m31 D13 B13 => ?_⟩
        have l4d : l4 ≠ d := D11.ne hl4
        have l13 := B13 _ _ l4d upd_same
        have hw : ∃ wd : Str, atI [V.str "price", V.str "a", V.str "stock"] m3 = some (.str wd) ∧ PyData.strOk wd = true := by
          have hm : m3 = 0 ∨ m3 = 1 ∨ m3 = 2 := by omega
          rcases hm with rfl | rfl | rfl
          · exact ⟨_, rfl, by decide +kernel⟩
          · exact ⟨_, rfl, by decide +kernel⟩
          · exact ⟨_, rfl, by decide +kernel⟩
        obtain ⟨wd, hwd, hok2⟩ := hw
        refine ⟨l4, _, _, .str wd, rfl, rfl, SqL.of l13, hwd, _, _, wd, rfl, hok2, fun G14 S14 => ⟨true, rfl, iteF ?_⟩⟩
        have B14 : But d G1 G14 := ((B10.trans B11).trans (But.of S12)).trans (B13.trans (But.of S14))
        have g14 := B14 _ _ gd g9
        have p14 := p9.mono (D9.tup B14)
        refine ⟨_, rfl, g, xs, ps, rfl, .inl (SqL.of g14), p14, by omega, fun tl2 G15 S15 e15 => ⟨line_le (by simp), fun l5 hl5 => ?_⟩⟩
        have e16 : G15 tl2 = some (.lst []) := by
          rw [e15]
          unfold toldR
          rw [ok_find hok]
        refine ⟨.list [], .list [], .lst (SqL.of (sNew hl5 _ _ e16)) .nil, .lst (SqL.of upd_same) .nil, rfl, rfl, ?_⟩
        rw [show PyData.eqv (.list []) (.list []) = true from by simp [eqv_list, eqvAll_nil]]
        exact k _
theorem d_law (T : TT K mg) : Df Pg w K mg base 6 "law" (spLaw K) := df_mk T (T.dd 26) (g_law T) (fun f fd F => ok_law T F) (fun _ _ _ _ _ _ us hl => match us, hl with | [_], _ => rfl)
end
end Sr
namespace Sr
open PySem PySem.Spec PyProof.Rows L2
theorem fnok_nox {P : Program} {w : World} {K : PySem.W.Frag} {mg : Str → Option Value} {base : Heap} {k : Nat} {f : Addr} {fd : FuncData} {ps : List Str} {sp : Sp} (F : FnOk P w K mg base (L2.CX P w) k f fd ps sp) (h : ∀ vs H Q E, sp vs H Q E → sp vs H Q (fun _ _ _ => False)) : FnOk P w K mg base CX0 k f fd ps sp :=
  ⟨F.len, fun A outer s H args us vs Q E hr e0 hb r hs => codeAny_mono (F.run A outer s H args us vs Q (fun _ _ _ => False) hr e0 hb r (h _ _ _ _ hs)) fun res s' hz => by
    match res, hz with
    | .error e, hz =>
      obtain ⟨_, _, _, _, _, _, _, _, _, _, _, _, z⟩ := hz
      exact z.elim
    | .ok (.ret u), hz => exact hz⟩
abbrev R : PySem.W.OpenRow := PySem.W.OpenLaw.row PySem.Challenge.rw_stretchesread_k03_refused_stretches
abbrev hk : PySem.W.Hook := hookU 6 dat.pk dat.ds fileP
def ob (s : PySem.W.SharedT) : AlU := obsU 6 dat.pk dat.ds fileP (HandSHeadRun.getT s)
theorem ob_eq (s : PySem.W.SharedT) : ob s = hk.obs s.abs := obsU_eq (HandSHeadRun.getT_eq s)
def names : List Str := (["_wall", "ReadError", "BadStretch", "BadText", "NoMember", "BadStep", "BadPace", "Contradiction", "NoKey", "Impossible", "BadName", "UnknownName", "WrongRange", "TooMany", "NoAnswer"] : List Str) ++ (["NotServed", "Refused", "LIMIT_stretches", "DIGITS", "joined", "common", "gaps", "written", "read_number", "read_stretch", "Stretches", "_law_draws", "_law_next", "_law_is_int", "_law_zone"] : List Str) ++ (["_law_pairs", "_law_spoilt", "_law_refused", "_law_classes", "_law_family"] : List Str)
theorem run (w : World) : HandSHeadRun.RunEq R (PySem.W.view R.prog [38]) hk ob 8000 names w := by
  intro os
  kernel_rfl
theorem facts {w : World} {K : PySem.W.Frag} {h : Heap} {mg : Str → Option Value} {f : Addr} (X : K.In h) (G : h.Ns mainGlobals mg) (hfa : mg ("law" : Str) = some (.ref f)) (c : SaysU dat.pk dat.ds fileP K) :
    ∃ fd : FuncData, (∀ (s : Shared) (v : Value), BindsTo s fd ⟨[v], []⟩ [("_law_script", v)]) ∧ ∀ base : Heap, K.In base → base.Ns mainGlobals mg → FnOk Pg w K mg base CX0 6 f fd ["_law_script"] (spLaw K) := by
  have T : TT K mg := tx_of X G c
  obtain ⟨fd, F⟩ := (T.dd 26).funD rfl
  have e := hfa.symm.trans (g_law T)
  cases e
  have b := FunD.bindsA (ps := ["_law_script"]) F fun _ _ _ _ _ _ us hl => match us, hl with | [_], _ => rfl
  exact ⟨fd, fun s v => b s [v] rfl, fun base _ _ => fnok_nox (ok_law T F) fun vs H Q E h => h⟩
end Sr
open PySem PySem.W PySem.Calls PyProof.Rows
theorem PySem.Challenge.cw_stretchesread_k03_refused_stretches_holds : PySem.Challenge.rw_stretchesread_k03_refused_stretches.Holds := by
  w_on; o_law
  refine HandSHeadRun.head_any (r := OpenLaw.row PySem.Challenge.rw_stretchesread_k03_refused_stretches) (q := view (OpenLaw.row PySem.Challenge.rw_stretchesread_k03_refused_stretches).prog [38]) (H := Sr.hk) (ob := Sr.ob) (M := 8000) (loose := Sr.names) (d := HandSHeadRun.topDef (OpenLaw.row PySem.Challenge.rw_stretchesread_k03_refused_stretches).prog 38) (kwd := []) Sr.ob_eq
    (by kernel_rfl) (fun s => by kernel_rfl) Sr.run (by kernel_rfl) (by kernel_rfl) (by kernel_rfl) (by rfl) (by first | assumption | decide +kernel) (by decide +kernel) ⟨rfl, rfl, rfl, rfl, rfl, by decide +kernel⟩ ?hw ?hc
  case hw => w_witness2
  case hc =>
    refine L2.walk_ofE (l := PySem.Challenge.rw_stretchesread_k03_refused_stretches) (n := 63) (k := 6) (x := "_law_script") (CX := L2.CX0) rfl (by decide) (by kernel_rfl) ⟨rfl, by decide, by decide⟩ ?F (fun _ _ _ _ z => z)
    intro w mg fa h Y G hmg0
    obtain ⟨K, KX, c⟩ := Y
    have hmg : mg ("law" : PySem.Str) = some (.ref fa) := by
      have e : (HandSHeadRun.topDef (OpenLaw.row PySem.Challenge.rw_stretchesread_k03_refused_stretches).prog 38).name = ("law" : PySem.Str) := by kernel_rfl
      rw [← e]
      exact hmg0
    obtain ⟨fd, hb, hF⟩ := Sr.facts (w := w) KX G hmg c
    exact ⟨K, fd, Sr.spLaw K, KX, hb, fun H a ns hl _ hS => ⟨a, ns, rfl, hS, hl, fun _ => rfl⟩, hF⟩
