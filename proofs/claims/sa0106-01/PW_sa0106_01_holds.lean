import PyProof.Rows.All
import Wide.All
import OpenK.AllK
import Wide.FinOn
import PySem.Challenge.RW_sa0106_01
set_option Elab.async false

namespace Mine
open PySem PySem.W PyProof.Rows
/-- the statements at places -/
noncomputable def pick : List Nat → List Stmt → List Stmt
  | [], _ => []
  | n :: ns, l => (l[n]?).toList ++ pick ns l
noncomputable def kept : List Nat := [1, 3, 5, 6, 7, 8, 9, 10, 11, 12, 13, 14, 16, 17, 18, 20, 21, 22, 24, 25, 26, 27, 28, 29, 30, 32, 33, 34, 35, 36, 37, 38, 39, 41, 43, 44, 46, 47]
noncomputable def vw : Program := { PySem.Challenge.pw_sa0106_01 with main := { PySem.Challenge.pw_sa0106_01.main with body := pick kept PySem.Challenge.pw_sa0106_01.main.body } }
noncomputable def lvs : List (Str × WData) := [(Str.ofString "R0", .tuple [.int 0, .int 1]), (Str.ofString "R1", .tuple [.int 1, .int 1])]
set_option maxRecDepth 100000 in
set_option maxHeartbeats 8000000 in
theorem head (hc : ∀ d kwd, defOf vw (OpenRow.toRowW (OpenLaw.row PySem.Challenge.rw_sa0106_01)).name = some (d, kwd) → WalkO vw [] (XL vw lvs) (Hook.says Hook.none) (OpenRow.toRowW (OpenLaw.row PySem.Challenge.rw_sa0106_01)) d kwd fun f vs => PySem.call f vs) : PySem.Challenge.rw_sa0106_01.Holds := by
  w_on; o_law
  refine holds_open (q := vw) (loose := []) (Xt := fun s => xlAt vw lvs s && recOk (RowW.records (OpenRow.toRowW (OpenLaw.row PySem.Challenge.rw_sa0106_01))) s) (XP := XL vw lvs) (Yf := Hook.obs Hook.none) (Ya := Hook.val Hook.none) (YP := Hook.says Hook.none) (N := 2902) ?hl (Hook.of Hook.none) (Hook.keeps Hook.none) (fun s e => xl_of s (Bool.and_eq_true_iff.mp e).1) XL.keeps (by rfl) (by rfl) (by rfl) (fun s e => recFacts_of (Bool.and_eq_true_iff.mp e).2) (by rfl) (by first | assumption | decide +kernel) (by decide +kernel) ⟨rfl, rfl, rfl, rfl, rfl, by decide +kernel⟩ ?hw ?hc
  case hl => intro w; kernel_rfl
  case hw => w_witness2
  case hc => exact hc _ _ (by rfl)
end Mine

namespace Mine
set_option linter.unusedVariables false
namespace Li

/-! linear arithmetic by reflection: terms, facts, cases, the elimination of Fourier and Motzkin -/
inductive Tm where
  | vr (i : Nat) | nu (n : Nat) | ad (x y : Tm) | su (x y : Tm) | ml (k : Nat) (x : Tm) | mr (x : Tm) (k : Nat) | ng (x : Tm) | mi (x y : Tm) | ma (x y : Tm) | ca (x : Tm) | tn (x : Tm)
inductive Pf where
  | le (b : Bool) (x y : Tm) | lt (b : Bool) (x y : Tm) | eq (b : Bool) (x y : Tm) | ne (b : Bool) (x y : Tm) | an (p q : Pf) | or (p q : Pf) | no (p : Pf) | f
noncomputable def Tm.den (u : List Nat) (z : List Int) : Tm → Nat × Int
  | .vr i => (u.getD i 0, z.getD i 0)
  | .nu n => (n, n)
  | .ad x y => ((x.den u z).1 + (y.den u z).1, (x.den u z).2 + (y.den u z).2)
  | .su x y => ((x.den u z).1 - (y.den u z).1, (x.den u z).2 - (y.den u z).2)
  | .ml k x => (k * (x.den u z).1, k * (x.den u z).2)
  | .mr x k => ((x.den u z).1 * k, (x.den u z).2 * k)
  | .ng x => (0, - (x.den u z).2)
  | .mi x y => (min (x.den u z).1 (y.den u z).1, min (x.den u z).2 (y.den u z).2)
  | .ma x y => (max (x.den u z).1 (y.den u z).1, max (x.den u z).2 (y.den u z).2)
  | .ca x => (0, (x.den u z).1)
  | .tn x => ((x.den u z).2.toNat, 0)
noncomputable def Pf.den (u : List Nat) (z : List Int) : Pf → Prop
  | .le true x y => (x.den u z).1 ≤ (y.den u z).1
  | .le false x y => (x.den u z).2 ≤ (y.den u z).2
  | .lt true x y => (x.den u z).1 < (y.den u z).1
  | .lt false x y => (x.den u z).2 < (y.den u z).2
  | .eq true x y => (x.den u z).1 = (y.den u z).1
  | .eq false x y => (x.den u z).2 = (y.den u z).2
  | .ne true x y => (x.den u z).1 ≠ (y.den u z).1
  | .ne false x y => (x.den u z).2 ≠ (y.den u z).2
  | .an p q => p.den u z ∧ q.den u z
  | .or p q => p.den u z ∨ q.den u z
  | .no p => ¬ p.den u z
  | .f => False
noncomputable def denA (u : List Nat) (z : List Int) (c : Pf) : List Pf → Prop
  | [] => c.den u z
  | h :: hs => h.den u z → denA u z c hs

noncomputable abbrev Ln := List Int
noncomputable def ladd : Ln → Ln → Ln
  | [], y => y
  | x, [] => x
  | a :: x, b :: y => (a + b) :: ladd x y
noncomputable def lmul (k : Int) : Ln → Ln
  | [] => []
  | a :: x => (k * a) :: lmul k x
noncomputable def unit : Nat → Ln
  | 0 => [1]
  | n + 1 => 0 :: unit n
noncomputable def lev (ρ : Nat → Int) : Nat → Ln → Int
  | _, [] => 0
  | i, a :: x => a * ρ i + lev ρ (i + 1) x
theorem lev_add {ρ : Nat → Int} : ∀ (x y : Ln) (i : Nat), lev ρ i (ladd x y) = lev ρ i x + lev ρ i y
  | [], y, i => by simp [ladd, lev]
  | a :: x, [], i => by simp [ladd, lev]
  | a :: x, b :: y, i => by simp only [ladd, lev, lev_add x y]; rw [Int.add_mul]; omega
theorem lev_mul {ρ : Nat → Int} (k : Int) : ∀ (x : Ln) (i : Nat), lev ρ i (lmul k x) = k * lev ρ i x
  | [], i => by simp [lmul, lev]
  | a :: x, i => by simp only [lmul, lev, lev_mul k x, Int.mul_add, Int.mul_assoc]
theorem lev_unit {ρ : Nat → Int} : ∀ (n i : Nat), lev ρ i (unit n) = ρ (i + n)
  | 0, i => by simp [unit, lev]
  | n + 1, i => by simp only [unit, lev, lev_unit n]; rw [Int.zero_mul, Int.zero_add, Nat.add_right_comm, Nat.add_assoc]
/-- the places: 0 the number 1, then the naturals, then the integers -/
noncomputable def rho (u : List Nat) (z : List Int) (i : Nat) : Int := if i = 0 then 1 else if i ≤ u.length then (u.getD (i - 1) 0 : Nat) else z.getD (i - 1 - u.length) 0
noncomputable def vN (N i : Nat) : Ln := bif Nat.blt i N then unit (i + 1) else []
theorem rho_u {u z} (i : Nat) : lev (rho u z) 0 (vN u.length i) = (u.getD i 0 : Nat) := by
  unfold vN
  cases h : Nat.blt i u.length with
  | true =>
    have h : i < u.length := Nat.le_of_ble_eq_true h
    rw [cond_true, lev_unit, rho, if_neg (by omega), if_pos (by omega), Nat.zero_add, Nat.add_sub_cancel]
  | false =>
    have h : u.length ≤ i := Nat.le_of_not_lt fun e => Bool.false_ne_true (h.symm.trans (Nat.ble_eq_true_of_le e))
    rw [cond_false, List.getD, List.getElem?_eq_none h]; rfl
theorem rho_z {u z} (i : Nat) : lev (rho u z) 0 (unit (u.length + i + 1)) = z.getD i 0 := by
  rw [lev_unit, rho, if_neg (by omega), if_neg (by omega), show 0 + (u.length + i + 1) - 1 - u.length = i by omega]

/-- a term's cases: what must be at least 0, and the value -/
noncomputable def two (f : List Ln → Ln → Ln → List (List Ln × Ln)) (A B : List (List Ln × Ln)) : List (List Ln × Ln) := A.flatMap fun p => B.flatMap fun q => f (p.1 ++ q.1) p.2 q.2
noncomputable def lsub (x y : Ln) : Ln := ladd x (lmul (-1) y)
noncomputable def Tm.nf (N : Nat) : Tm → Bool → List (List Ln × Ln)
  | .vr i, true => [([], vN N i)]
  | .vr i, false => [([], unit (N + i + 1))]
  | .nu n, _ => [([], [(n : Int)])]
  | .ad x y, b => two (fun c p q => [(c, ladd p q)]) (x.nf N b) (y.nf N b)
  | .su x y, true => two (fun c p q => [(lsub p q :: c, lsub p q), (lsub q p :: c, [])]) (x.nf N true) (y.nf N true)
  | .su x y, false => two (fun c p q => [(c, lsub p q)]) (x.nf N false) (y.nf N false)
  | .ml k x, b => (x.nf N b).map fun p => (p.1, lmul k p.2)
  | .mr x k, b => (x.nf N b).map fun p => (p.1, lmul k p.2)
  | .ng x, true => [([], [])]
  | .ng x, false => (x.nf N false).map fun p => (p.1, lmul (-1) p.2)
  | .mi x y, b => two (fun c p q => [(lsub q p :: c, p), (lsub p q :: c, q)]) (x.nf N b) (y.nf N b)
  | .ma x y, b => two (fun c p q => [(lsub p q :: c, p), (lsub q p :: c, q)]) (x.nf N b) (y.nf N b)
  | .ca x, true => [([], [])]
  | .ca x, false => x.nf N true
  | .tn x, false => [([], [])]
  | .tn x, true => (x.nf N false).flatMap fun p => [(p.2 :: p.1, p.2), (lmul (-1) p.2 :: p.1, [])]
noncomputable def Tm.val (u : List Nat) (z : List Int) (t : Tm) (b : Bool) : Int := match b with | true => ((t.den u z).1 : Int) | false => (t.den u z).2
noncomputable def Has (ρ : Nat → Int) (A : List (List Ln × Ln)) (w : Int) : Prop := ∃ p ∈ A, (∀ l ∈ p.1, 0 ≤ lev ρ 0 l) ∧ lev ρ 0 p.2 = w
theorem Has.one {ρ : Nat → Int} {p : Ln} {w : Int} (h : lev ρ 0 p = w) : Has ρ [([], p)] w := ⟨_, List.mem_singleton.mpr rfl, fun l h => by simp at h, h⟩
theorem Has.two {ρ : Nat → Int} {f} {A B : List (List Ln × Ln)} {x y w : Int} (h1 : Has ρ A x) (h2 : Has ρ B y)
    (h : ∀ c p q, (∀ l ∈ c, 0 ≤ lev ρ 0 l) → lev ρ 0 p = x → lev ρ 0 q = y → Has ρ (f c p q) w) : Has ρ (two f A B) w := by
  obtain ⟨p, hp, a1, a2⟩ := h1
  obtain ⟨q, hq, b1, b2⟩ := h2
  obtain ⟨r, hr, c1, c2⟩ := h (p.1 ++ q.1) p.2 q.2 (fun l h => (List.mem_append.mp h).elim (a1 l) (b1 l)) a2 b2
  exact ⟨r, List.mem_flatMap.mpr ⟨p, hp, List.mem_flatMap.mpr ⟨q, hq, hr⟩⟩, c1, c2⟩
theorem Has.map {ρ : Nat → Int} {k : Int} {A : List (List Ln × Ln)} {x w : Int} (h1 : Has ρ A x) (h : k * x = w) : Has ρ (A.map fun p => (p.1, lmul k p.2)) w := by
  obtain ⟨p, hp, a1, a2⟩ := h1
  exact ⟨_, List.mem_map.mpr ⟨p, hp, rfl⟩, a1, by rw [lev_mul, a2, h]⟩
theorem lev_sub {ρ : Nat → Int} {i : Nat} {x y : Ln} : lev ρ i (lsub x y) = lev ρ i x - lev ρ i y := by
  rw [lsub, lev_add, lev_mul]; omega
theorem has_l {ρ : Nat → Int} {c : List Ln} {p q : Ln} {s : List (List Ln × Ln)} {w : Int} (hc : ∀ l ∈ c, 0 ≤ lev ρ 0 l) (h : 0 ≤ lev ρ 0 p) (e : lev ρ 0 q = w) : Has ρ ((p :: c, q) :: s) w :=
  ⟨_, List.mem_cons_self, fun l hl => (List.mem_cons.mp hl).elim (fun e => e ▸ h) (hc l), e⟩
theorem has_r {ρ : Nat → Int} {x} {s : List (List Ln × Ln)} {w : Int} (h : Has ρ s w) : Has ρ (x :: s) w :=
  let ⟨p, h1, h2⟩ := h
  ⟨p, List.mem_cons_of_mem _ h1, h2⟩
theorem has_c {ρ : Nat → Int} {c : List Ln} {q : Ln} {w : Int} (hc : ∀ l ∈ c, 0 ≤ lev ρ 0 l) (e : lev ρ 0 q = w) : Has ρ [(c, q)] w := ⟨_, List.mem_cons_self, hc, e⟩
theorem Tm.nf_ok {u : List Nat} {z : List Int} : ∀ (t : Tm) (b : Bool), Has (rho u z) (t.nf u.length b) (t.val u z b)
  | .vr i, true => .one (rho_u i)
  | .vr i, false => .one (rho_z i)
  | .nu n, b => .one (by cases b <;> simp [lev, rho, val, den])
  | .ad x y, b => .two (x.nf_ok b) (y.nf_ok b) fun c p q hc e1 e2 => has_c hc (by rw [lev_add, e1, e2]; cases b <;> simp [val, den])
  | .su x y, true => .two (x.nf_ok true) (y.nf_ok true) fun c p q hc e1 e2 => by
    simp only [val] at e1 e2
    by_cases h : (y.den u z).1 ≤ (x.den u z).1
    · exact has_l hc (by rw [lev_sub]; omega) (by rw [lev_sub]; simp only [val, den]; omega)
    · exact has_r (has_l hc (by rw [lev_sub]; omega) (by simp only [val, den, lev]; omega))
  | .su x y, false => .two (x.nf_ok false) (y.nf_ok false) fun c p q hc e1 e2 => has_c hc (by rw [lev_sub, e1, e2]; simp [val, den])
  | .ml k x, b => (x.nf_ok b).map (by cases b <;> simp [val, den])
  | .mr x k, b => (x.nf_ok b).map (by cases b <;> simp [val, den, Int.mul_comm])
  | .ng x, true => .one rfl
  | .ng x, false => (x.nf_ok false).map (by simp [val, den])
  | .mi x y, b => .two (x.nf_ok b) (y.nf_ok b) fun c p q hc e1 e2 => by
    by_cases h : x.val u z b ≤ y.val u z b
    · exact has_l hc (by rw [lev_sub]; omega) (by rw [e1]; cases b <;> simp only [val, den] at h ⊢ <;> omega)
    · exact has_r (has_l hc (by rw [lev_sub]; omega) (by rw [e2]; cases b <;> simp only [val, den] at h ⊢ <;> omega))
  | .ma x y, b => .two (x.nf_ok b) (y.nf_ok b) fun c p q hc e1 e2 => by
    by_cases h : y.val u z b ≤ x.val u z b
    · exact has_l hc (by rw [lev_sub]; omega) (by rw [e1]; cases b <;> simp only [val, den] at h ⊢ <;> omega)
    · exact has_r (has_l hc (by rw [lev_sub]; omega) (by rw [e2]; cases b <;> simp only [val, den] at h ⊢ <;> omega))
  | .ca x, true => .one rfl
  | .ca x, false => x.nf_ok true
  | .tn x, false => .one rfl
  | .tn x, true => by
    obtain ⟨p, hp, a1, a2⟩ := x.nf_ok false
    simp only [val] at a2
    have key : Has (rho u z) [(p.2 :: p.1, p.2), (lmul (-1) p.2 :: p.1, [])] ((Tm.tn x).val u z true) := by
      by_cases h : 0 ≤ (x.den u z).2
      · exact has_l a1 (by omega) (by simp only [val, den]; omega)
      · exact has_r (has_l a1 (by rw [lev_mul]; omega) (by simp only [val, den, lev]; omega))
    obtain ⟨r, hr, c1, c2⟩ := key
    exact ⟨r, List.mem_flatMap.mpr ⟨p, hp, hr⟩, c1, c2⟩

/-- a fact's cases: each a list of what is at least 0, or (true) just 0 -/
noncomputable abbrev Cs := List (Bool × Ln)
noncomputable def okC (ρ : Nat → Int) (c : Bool × Ln) : Prop := match c.1 with | true => lev ρ 0 c.2 = 0 | false => 0 ≤ lev ρ 0 c.2
noncomputable def rel (f : Ln → Ln → List (Bool × Ln)) (A B : List (List Ln × Ln)) : List Cs := A.flatMap fun p => B.flatMap fun q => (f p.2 q.2).map fun c => c :: (p.1 ++ q.1).map fun l => (false, l)
noncomputable def prd (A B : List Cs) : List Cs := A.flatMap fun p => B.map fun q => p ++ q
noncomputable def cle (p q : Ln) : List (Bool × Ln) := [(false, lsub q p)]
noncomputable def clt (p q : Ln) : List (Bool × Ln) := [(false, ladd [-1] (lsub q p))]
noncomputable def ceq (p q : Ln) : List (Bool × Ln) := [(true, lsub q p)]
noncomputable def cne (p q : Ln) : List (Bool × Ln) := [(false, ladd [-1] (lsub q p)), (false, ladd [-1] (lsub p q))]
noncomputable def Pf.dn (N : Nat) : Pf → Bool → List Cs
  | .le b x y, true => rel cle (x.nf N b) (y.nf N b)
  | .le b x y, false => rel clt (y.nf N b) (x.nf N b)
  | .lt b x y, true => rel clt (x.nf N b) (y.nf N b)
  | .lt b x y, false => rel cle (y.nf N b) (x.nf N b)
  | .eq b x y, true => rel ceq (x.nf N b) (y.nf N b)
  | .eq b x y, false => rel cne (x.nf N b) (y.nf N b)
  | .ne b x y, true => rel cne (x.nf N b) (y.nf N b)
  | .ne b x y, false => rel ceq (x.nf N b) (y.nf N b)
  | .an p q, true => prd (p.dn N true) (q.dn N true)
  | .an p q, false => p.dn N false ++ q.dn N false
  | .or p q, true => p.dn N true ++ q.dn N true
  | .or p q, false => prd (p.dn N false) (q.dn N false)
  | .no p, b => p.dn N (!b)
  | .f, true => []
  | .f, false => [[]]
noncomputable def Hold (ρ : Nat → Int) (A : List Cs) : Prop := ∃ cs ∈ A, ∀ c ∈ cs, okC ρ c
theorem Hold.rel {ρ : Nat → Int} {f} {A B : List (List Ln × Ln)} {x y : Int} (h1 : Has ρ A x) (h2 : Has ρ B y) (h : ∀ p q, lev ρ 0 p = x → lev ρ 0 q = y → ∃ c ∈ f p q, okC ρ c) : Hold ρ (rel f A B) := by
  obtain ⟨p, hp, a1, a2⟩ := h1
  obtain ⟨q, hq, b1, b2⟩ := h2
  obtain ⟨c, hc, k⟩ := h p.2 q.2 a2 b2
  refine ⟨_, List.mem_flatMap.mpr ⟨p, hp, List.mem_flatMap.mpr ⟨q, hq, List.mem_map.mpr ⟨c, hc, rfl⟩⟩⟩, fun d hd => ?_⟩
  rcases List.mem_cons.mp hd with rfl | hd
  · exact k
  · obtain ⟨l, hl, rfl⟩ := List.mem_map.mp hd
    exact (List.mem_append.mp hl).elim (a1 l) (b1 l)
theorem Hold.prd {ρ : Nat → Int} {A B : List Cs} (h1 : Hold ρ A) (h2 : Hold ρ B) : Hold ρ (prd A B) := by
  obtain ⟨p, hp, a⟩ := h1
  obtain ⟨q, hq, b⟩ := h2
  exact ⟨_, List.mem_flatMap.mpr ⟨p, hp, List.mem_map.mpr ⟨q, hq, rfl⟩⟩, fun c hc => (List.mem_append.mp hc).elim (a c) (b c)⟩
theorem Hold.left {ρ : Nat → Int} {A B : List Cs} (h : Hold ρ A) : Hold ρ (A ++ B) := let ⟨p, h1, h2⟩ := h; ⟨p, List.mem_append_left _ h1, h2⟩
theorem Hold.right {ρ : Nat → Int} {A B : List Cs} (h : Hold ρ B) : Hold ρ (A ++ B) := let ⟨p, h1, h2⟩ := h; ⟨p, List.mem_append_right _ h1, h2⟩
theorem lev_m1 {ρ : Nat → Int} (h : ρ 0 = 1) : lev ρ 0 [-1] = -1 := by simp [lev, h]
theorem rel_le {u z} {x y : Tm} {b : Bool} (h : x.val u z b ≤ y.val u z b) : Hold (rho u z) (rel cle (x.nf u.length b) (y.nf u.length b)) :=
  .rel (x.nf_ok b) (y.nf_ok b) fun p q e1 e2 => ⟨_, List.mem_singleton.mpr rfl, by show 0 ≤ lev _ 0 _; rw [lev_sub]; omega⟩
theorem rel_lt {u z} {x y : Tm} {b : Bool} (h : x.val u z b < y.val u z b) : Hold (rho u z) (rel clt (x.nf u.length b) (y.nf u.length b)) :=
  .rel (x.nf_ok b) (y.nf_ok b) fun p q e1 e2 => ⟨_, List.mem_singleton.mpr rfl, by show 0 ≤ lev _ 0 _; rw [lev_add, lev_m1 rfl, lev_sub]; omega⟩
theorem rel_eq {u z} {x y : Tm} {b : Bool} (h : x.val u z b = y.val u z b) : Hold (rho u z) (rel ceq (x.nf u.length b) (y.nf u.length b)) :=
  .rel (x.nf_ok b) (y.nf_ok b) fun p q e1 e2 => ⟨_, List.mem_singleton.mpr rfl, by show lev _ 0 _ = 0; rw [lev_sub]; omega⟩
theorem rel_ne {u z} {x y : Tm} {b : Bool} (h : x.val u z b ≠ y.val u z b) : Hold (rho u z) (rel cne (x.nf u.length b) (y.nf u.length b)) :=
  .rel (x.nf_ok b) (y.nf_ok b) fun p q e1 e2 => by
    rcases Int.lt_or_gt_of_ne h with h | h
    · exact ⟨_, List.mem_cons_self, by show 0 ≤ lev _ 0 _; rw [lev_add, lev_m1 rfl, lev_sub]; omega⟩
    · exact ⟨_, List.mem_cons_of_mem _ List.mem_cons_self, by show 0 ≤ lev _ 0 _; rw [lev_add, lev_m1 rfl, lev_sub]; omega⟩
theorem Pf.dn_ok {u : List Nat} {z : List Int} : ∀ (p : Pf), (p.den u z → Hold (rho u z) (p.dn u.length true)) ∧ (¬ p.den u z → Hold (rho u z) (p.dn u.length false))
  | .le true x y => ⟨fun h => rel_le (Int.ofNat_le.mpr h), fun h => rel_lt (Int.ofNat_lt.mpr (Nat.lt_of_not_le h))⟩
  | .le false x y => ⟨fun h => rel_le h, fun h => rel_lt (Int.not_le.mp h)⟩
  | .lt true x y => ⟨fun h => rel_lt (Int.ofNat_lt.mpr h), fun h => rel_le (Int.ofNat_le.mpr (Nat.le_of_not_lt h))⟩
  | .lt false x y => ⟨fun h => rel_lt h, fun h => rel_le (Int.not_lt.mp h)⟩
  | .eq true x y => ⟨fun h => rel_eq (congrArg Int.ofNat h), fun h => rel_ne fun e => h (Int.ofNat.inj e)⟩
  | .eq false x y => ⟨fun h => rel_eq h, fun h => rel_ne h⟩
  | .ne true x y => ⟨fun h => rel_ne fun e => h (Int.ofNat.inj e), fun h => rel_eq (congrArg Int.ofNat (Decidable.not_not.mp h))⟩
  | .ne false x y => ⟨fun h => rel_ne h, fun h => rel_eq (Decidable.not_not.mp h)⟩
  | .an p q => ⟨fun h => .prd (p.dn_ok.1 h.1) (q.dn_ok.1 h.2), fun h => by
    by_cases e : p.den u z
    · exact .right (q.dn_ok.2 fun f => h ⟨e, f⟩)
    · exact .left (p.dn_ok.2 e)⟩
  | .or p q => ⟨fun h => h.elim (fun h => .left (p.dn_ok.1 h)) fun h => .right (q.dn_ok.1 h), fun h => .prd (p.dn_ok.2 fun e => h (.inl e)) (q.dn_ok.2 fun e => h (.inr e))⟩
  | .no p => ⟨fun h => p.dn_ok.2 h, fun h => p.dn_ok.1 (Classical.not_not.mp h)⟩
  | .f => ⟨fun h => h.elim, fun _ => ⟨_, List.mem_singleton.mpr rfl, fun c hc => by simp at hc⟩⟩

/-! the refutation -/
noncomputable def at' (l : Ln) (j : Nat) : Int := l.getD j 0
noncomputable def comb (j : Nat) (p q : Ln) : Ln := ladd (lmul ((- at' q j).toNat : Nat) p) (lmul ((at' p j).toNat : Nat) q)
noncomputable def isP : Int → Bool
  | .ofNat (_ + 1) => true
  | _ => false
noncomputable def isM : Int → Bool
  | .negSucc _ => true
  | _ => false
noncomputable def isZ : Int → Bool
  | .ofNat 0 => true
  | _ => false
noncomputable def stepF (j : Nat) (cs : List Ln) : List Ln :=
  cs.filter (fun l => isZ (at' l j)) ++ (cs.filter fun l => isP (at' l j)).flatMap fun p => (cs.filter fun l => isM (at' l j)).map fun q => comb j p q
noncomputable def bad : Ln → Bool
  | [] => false
  | a :: x => isM a && x.all isZ
noncomputable def cost (cs : List Ln) (j : Nat) : Nat :=
  let p := (cs.filter fun l => isP (at' l j)).length
  let m := (cs.filter fun l => isM (at' l j)).length
  if Nat.beq (p + m) 0 then 1000000 else p * m
noncomputable def pick (cs : List Ln) : Nat → Nat → Nat → Nat
  | 0, best, _ => best
  | n + 1, best, c => let d := cost cs (n + 1); if Nat.blt d c then pick cs n (n + 1) d else pick cs n best c
noncomputable def refute (k : Nat) : Nat → List Ln → Bool
  | 0, cs => cs.any bad
  | n + 1, cs => cs.any bad || refute k n (stepF (pick cs k 1 1000000) cs)
noncomputable def unitAt : Ln → Nat → Option Nat
  | [], _ => none
  | a :: x, i => if Nat.beq a.natAbs 1 && !Nat.beq i 0 then some i else unitAt x (i + 1)
noncomputable def elim (k : Nat) : Nat → List Ln → List Ln → Bool
  | 0, _, _ => false
  | _ + 1, [], cs => refute k k cs
  | n + 1, e :: es, cs => match unitAt e 0 with
    | some j => let f := fun l => ladd l (lmul (- (at' l j * at' e j)) e); elim k n (es.map f) (cs.map f)
    | none => elim k n es (e :: lmul (-1) e :: cs)
noncomputable def okL (ρ : Nat → Int) (cs : List Ln) : Prop := ∀ l ∈ cs, 0 ≤ lev ρ 0 l
theorem lev_zero {ρ : Nat → Int} : ∀ (x : Ln) (i : Nat), x.all isZ = true → lev ρ i x = 0
  | [], i, _ => rfl
  | a :: x, i, h => by
    rw [List.all_cons, Bool.and_eq_true] at h
    have : a = 0 := by
      have := h.1
      unfold isZ at this
      split at this
      · rfl
      · cases this
    rw [lev, this, lev_zero x _ h.2]; omega
theorem bad_no {ρ : Nat → Int} (h1 : ρ 0 = 1) {l : Ln} (h : bad l = true) : ¬ 0 ≤ lev ρ 0 l := by
  cases l with
  | nil => cases h
  | cons a x =>
    rw [bad, Bool.and_eq_true] at h
    rw [lev, lev_zero x _ h.2, h1]
    have := h.1
    unfold isM at this
    split at this
    · simp
    · cases this
theorem any_no {ρ : Nat → Int} (h1 : ρ 0 = 1) {cs : List Ln} (h : cs.any bad = true) (ok : okL ρ cs) : False := by
  obtain ⟨l, hl, hb⟩ := List.any_eq_true.mp h
  exact bad_no h1 hb (ok l hl)
theorem stepF_ok {ρ : Nat → Int} {j : Nat} {cs : List Ln} (ok : okL ρ cs) : okL ρ (stepF j cs) := fun l hl => by
  rcases List.mem_append.mp hl with h | h
  · exact ok l (List.mem_filter.mp h).1
  · obtain ⟨p, hp, h⟩ := List.mem_flatMap.mp h
    obtain ⟨q, hq, rfl⟩ := List.mem_map.mp h
    rw [comb, lev_add, lev_mul, lev_mul]
    exact Int.add_nonneg (Int.mul_nonneg (Int.natCast_nonneg _) (ok _ (List.mem_filter.mp hp).1)) (Int.mul_nonneg (Int.natCast_nonneg _) (ok _ (List.mem_filter.mp hq).1))
theorem refute_no {ρ : Nat → Int} (h1 : ρ 0 = 1) {k : Nat} : ∀ (n : Nat) (cs : List Ln), refute k n cs = true → okL ρ cs → False
  | 0, cs, h, ok => any_no h1 h ok
  | n + 1, cs, h, ok => ((Bool.or_eq_true _ _).mp h).elim (fun h => any_no h1 h ok) fun h => refute_no h1 n _ h (stepF_ok ok)
theorem elim_no {ρ : Nat → Int} (h1 : ρ 0 = 1) {k : Nat} : ∀ (n : Nat) (es cs : List Ln), elim k n es cs = true → (∀ e ∈ es, lev ρ 0 e = 0) → okL ρ cs → False
  | 0, es, cs, h, _, _ => by cases h
  | n + 1, [], cs, h, _, ok => refute_no h1 _ _ h ok
  | n + 1, e :: es, cs, h, he, ok => by
    have h0 := he e List.mem_cons_self
    rw [elim] at h
    split at h
    · refine elim_no h1 n _ _ h (fun l hl => ?_) fun l hl => ?_
      · obtain ⟨x, hx, rfl⟩ := List.mem_map.mp hl
        rw [lev_add, lev_mul, h0, Int.mul_zero, Int.add_zero]; exact he x (List.mem_cons_of_mem _ hx)
      · obtain ⟨x, hx, rfl⟩ := List.mem_map.mp hl
        rw [lev_add, lev_mul, h0, Int.mul_zero, Int.add_zero]; exact ok x hx
    · refine elim_no h1 n _ _ h (fun l hl => he l (List.mem_cons_of_mem _ hl)) fun l hl => ?_
      rcases List.mem_cons.mp hl with rfl | hl
      · omega
      rcases List.mem_cons.mp hl with rfl | hl
      · rw [lev_mul]; omega
      · exact ok l hl
noncomputable def bound (N : Nat) : List Ln := (List.range N).map (vN N)
/-- k: the highest place -/
noncomputable def refC (N k : Nat) (cs : Cs) : Bool :=
  elim k (cs.length + 1) ((cs.filter fun c => c.1).map fun c => c.2) ((cs.filter fun c => !c.1).map (fun c => c.2) ++ bound N)
theorem refC_no {u z} {k : Nat} {cs : Cs} (h : refC u.length k cs = true) (ok : ∀ c ∈ cs, okC (rho u z) c) : False := by
  refine elim_no (ρ := rho u z) rfl _ _ _ h (fun l hl => ?_) fun l hl => ?_
  · obtain ⟨c, hc, rfl⟩ := List.mem_map.mp hl
    have h2 := List.mem_filter.mp hc
    have := ok c h2.1
    unfold okC at this
    rw [h2.2] at this
    exact this
  · rcases List.mem_append.mp hl with h | h
    · obtain ⟨c, hc, rfl⟩ := List.mem_map.mp h
      have h2 := List.mem_filter.mp hc
      have := ok c h2.1
      unfold okC at this
      rw [(Bool.not_eq_true' _).mp h2.2] at this
      exact this
    · obtain ⟨i, _, rfl⟩ := List.mem_map.mp h
      rw [rho_u]; exact Int.natCast_nonneg _
noncomputable def chk (N k : Nat) (acc : List Cs) : List Pf → Bool
  | [] => acc.all (refC N k)
  | h :: hs => chk N k (prd (h.dn N true) acc) hs
theorem chk_no {u z} {k : Nat} {c : Pf} : ∀ (hs : List Pf) (acc : List Cs), chk u.length k acc hs = true → (¬ c.den u z → Hold (rho u z) acc) → denA u z c hs
  | [], acc, h, ok => Classical.byContradiction fun hn => by
    obtain ⟨cs, h1, h2⟩ := ok hn
    exact refC_no (List.all_eq_true.mp h cs h1) h2
  | p :: hs, acc, h, ok => fun hp => chk_no hs _ h fun hn => .prd (p.dn_ok.1 hp) (ok hn)
theorem go (u : List Nat) (z : List Int) (hs : List Pf) (c : Pf) (h : chk u.length (u.length + z.length) (c.dn u.length false) hs = true) : denA u z c hs := chk_no hs _ h c.dn_ok.2
end Li
end Mine

namespace Mine
set_option linter.unusedVariables false
open Li
variable {a b c d e f g i j k l m n o p a1 b1 c1 d1 e1 f1 g1 i1 j1 k1 l1 m1 n1 o1 p1 : Nat} {x y z u v w x1 y1 z1 u1 v1 w1 : Int}
theorem ar0 : a≠0 → ((a:Nat):Int)≠(0:Int) := go [a] [] [(.ne true (.vr 0) (.nu 0))] (.ne false (.ca (.vr 0)) (.nu 0)) (by kernel_rfl)
theorem ar1 : (a*2)=(a+a) := go [a] [] [] (.eq true (.mr (.vr 0) 2) (.ad (.vr 0) (.vr 0))) (by kernel_rfl)
theorem ar2 : 1≤a → ¬(a=0) := go [a] [] [(.le true (.nu 1) (.vr 0))] (.no (.eq true (.vr 0) (.nu 0))) (by kernel_rfl)
theorem ar3 : 0<a → ((a:Nat):Int)≠(0:Int) := go [a] [] [(.lt true (.nu 0) (.vr 0))] (.ne false (.ca (.vr 0)) (.nu 0)) (by kernel_rfl)
theorem ar4 : ((a:Nat):Int)=x → a=(Int.toNat x) := go [a] [x] [(.eq false (.ca (.vr 0)) (.vr 0))] (.eq true (.vr 0) (.tn (.vr 0))) (by kernel_rfl)
theorem ar5 : ((a:Nat):Int)=x → x≠(0:Int) → (0:Int)<x := go [a] [x] [(.eq false (.ca (.vr 0)) (.vr 0)), (.ne false (.vr 0) (.nu 0))] (.lt false (.nu 0) (.vr 0)) (by kernel_rfl)
theorem ar6  : x>(0:Int) → (((Int.natAbs x):Nat):Int)=x := by lia
theorem ar7 : ((a:Nat):Int)=x → (((Int.toNat x):Nat):Int)=x := go [a] [x] [(.eq false (.ca (.vr 0)) (.vr 0))] (.eq false (.ca (.tn (.vr 0))) (.vr 0)) (by kernel_rfl)
theorem ar8 : x≠(0:Int) → ¬(x>(0:Int)) → x<(0:Int) := go [] [x] [(.ne false (.vr 0) (.nu 0)), (.no (.lt false (.nu 0) (.vr 0)))] (.lt false (.vr 0) (.nu 0)) (by kernel_rfl)
theorem ar9 : (0:Int)<x → ((0:Int)-x)≠(0:Int) := go [] [x] [(.lt false (.nu 0) (.vr 0))] (.ne false (.su (.nu 0) (.vr 0)) (.nu 0)) (by kernel_rfl)
theorem ar10  : x<(0:Int) → (((Int.natAbs x):Nat):Int)=(-x) := by lia
theorem ar11 : a<b → a<(b+1) := go [a, b] [] [(.lt true (.vr 0) (.vr 1))] (.lt true (.vr 0) (.ad (.vr 1) (.nu 1))) (by kernel_rfl)
theorem ar12 : a<(a+1) := go [a] [] [] (.lt true (.vr 0) (.ad (.vr 0) (.nu 1))) (by kernel_rfl)
theorem ar13 : a≤0 → a=0 := go [a] [] [(.le true (.vr 0) (.nu 0))] (.eq true (.vr 0) (.nu 0)) (by kernel_rfl)
theorem ar14 : a≤(b+1) → ¬(a=(b+1)) → a≤b := go [a, b] [] [(.le true (.vr 0) (.ad (.vr 1) (.nu 1))), (.no (.eq true (.vr 0) (.ad (.vr 1) (.nu 1))))] (.le true (.vr 0) (.vr 1)) (by kernel_rfl)
theorem ar15 : ¬(b<a) → a≤b := go [a, b] [] [(.no (.lt true (.vr 1) (.vr 0)))] (.le true (.vr 0) (.vr 1)) (by kernel_rfl)
theorem ar16 : a<(b+1) → a≤b := go [a, b] [] [(.lt true (.vr 0) (.ad (.vr 1) (.nu 1)))] (.le true (.vr 0) (.vr 1)) (by kernel_rfl)
theorem ar17 : (a-b)≤a := go [a, b] [] [] (.le true (.su (.vr 0) (.vr 1)) (.vr 0)) (by kernel_rfl)
theorem ar18 : b<(a+1) → ((a+1)-b)=((a-b)+1) := go [a, b] [] [(.lt true (.vr 1) (.ad (.vr 0) (.nu 1)))] (.eq true (.su (.ad (.vr 0) (.nu 1)) (.vr 1)) (.ad (.su (.vr 0) (.vr 1)) (.nu 1))) (by kernel_rfl)
theorem ar19 : 0≤(a+1) := go [a] [] [] (.le true (.nu 0) (.ad (.vr 0) (.nu 1))) (by kernel_rfl)
theorem ar20 : b≤c → a≤((a-b)+c) := go [a, b, c] [] [(.le true (.vr 1) (.vr 2))] (.le true (.vr 0) (.ad (.su (.vr 0) (.vr 1)) (.vr 2))) (by kernel_rfl)
theorem ar21 : ¬(b≤a) → a<b := go [a, b] [] [(.no (.le true (.vr 1) (.vr 0)))] (.lt true (.vr 0) (.vr 1)) (by kernel_rfl)
theorem ar22 : 1≤(a+1) := go [a] [] [] (.le true (.nu 1) (.ad (.vr 0) (.nu 1))) (by kernel_rfl)
theorem ar23 : 1≤b → b<(a+1) → (a-b)<a := go [a, b] [] [(.le true (.nu 1) (.vr 1)), (.lt true (.vr 1) (.ad (.vr 0) (.nu 1)))] (.lt true (.su (.vr 0) (.vr 1)) (.vr 0)) (by kernel_rfl)
theorem ar24 : a<(b+1) → ¬(a=b) → a<b := go [a, b] [] [(.lt true (.vr 0) (.ad (.vr 1) (.nu 1))), (.no (.eq true (.vr 0) (.vr 1)))] (.lt true (.vr 0) (.vr 1)) (by kernel_rfl)
theorem ar25 : ((a+b)+c)=(d+1) → ((a+b)+(c+1))=((d+1)+1) := go [a, b, c, d] [] [(.eq true (.ad (.ad (.vr 0) (.vr 1)) (.vr 2)) (.ad (.vr 3) (.nu 1)))] (.eq true (.ad (.ad (.vr 0) (.vr 1)) (.ad (.vr 2) (.nu 1))) (.ad (.ad (.vr 3) (.nu 1)) (.nu 1))) (by kernel_rfl)
theorem ar26 : (a+(b+1))<(c+1) → (a+b)<c := go [a, b, c] [] [(.lt true (.ad (.vr 0) (.ad (.vr 1) (.nu 1))) (.ad (.vr 2) (.nu 1)))] (.lt true (.ad (.vr 0) (.vr 1)) (.vr 2)) (by kernel_rfl)
theorem ar27 : (a+1)≤(b+1) → a≤b := go [a, b] [] [(.le true (.ad (.vr 0) (.nu 1)) (.ad (.vr 1) (.nu 1)))] (.le true (.vr 0) (.vr 1)) (by kernel_rfl)
theorem ar28 : 1≤a → ¬(a≤0) := go [a] [] [(.le true (.nu 1) (.vr 0))] (.no (.le true (.vr 0) (.nu 0))) (by kernel_rfl)
theorem ar29 : (max a ((c+1)-a))<b → a<b := go [a, b, c] [] [(.lt true (.ma (.vr 0) (.su (.ad (.vr 2) (.nu 1)) (.vr 0))) (.vr 1))] (.lt true (.vr 0) (.vr 1)) (by kernel_rfl)
theorem ar30 : ((a+b)+c)=(d+1) → (max a ((d+1)-a))≤d → ¬(c≤d) → False := go [a, b, c, d] [] [(.eq true (.ad (.ad (.vr 0) (.vr 1)) (.vr 2)) (.ad (.vr 3) (.nu 1))), (.le true (.ma (.vr 0) (.su (.ad (.vr 3) (.nu 1)) (.vr 0))) (.vr 3)), (.no (.le true (.vr 2) (.vr 3)))] .f (by kernel_rfl)
theorem ar31 : (max a ((c+1)-a))≤b → a≤b := go [a, b, c] [] [(.le true (.ma (.vr 0) (.su (.ad (.vr 2) (.nu 1)) (.vr 0))) (.vr 1))] (.le true (.vr 0) (.vr 1)) (by kernel_rfl)
theorem ar32 : a<(c+1) → ¬(a=c) → b≤a → ((a-b)+b)<c := go [a, b, c] [] [(.lt true (.vr 0) (.ad (.vr 2) (.nu 1))), (.no (.eq true (.vr 0) (.vr 2))), (.le true (.vr 1) (.vr 0))] (.lt true (.ad (.su (.vr 0) (.vr 1)) (.vr 1)) (.vr 2)) (by kernel_rfl)
theorem ar33 : b<(2*a) → (max a ((b+1)-a))=a := go [a, b] [] [(.lt true (.vr 1) (.ml 2 (.vr 0)))] (.eq true (.ma (.vr 0) (.su (.ad (.vr 1) (.nu 1)) (.vr 0))) (.vr 0)) (by kernel_rfl)
theorem ar34 : (2*a)≤b → (max a ((b+1)-a))=((b+1)-a) := go [a, b] [] [(.le true (.ml 2 (.vr 0)) (.vr 1))] (.eq true (.ma (.vr 0) (.su (.ad (.vr 1) (.nu 1)) (.vr 0))) (.su (.ad (.vr 1) (.nu 1)) (.vr 0))) (by kernel_rfl)
theorem ar35 : 1≤1 := go [] [] [] (.le true (.nu 1) (.nu 1)) (by kernel_rfl)
theorem ar36 : (2*b)≤a → ((((a+1)-b)+b)+1)=((a+1)+1) := go [a, b] [] [(.le true (.ml 2 (.vr 1)) (.vr 0))] (.eq true (.ad (.ad (.su (.ad (.vr 0) (.nu 1)) (.vr 1)) (.vr 1)) (.nu 1)) (.ad (.ad (.vr 0) (.nu 1)) (.nu 1))) (by kernel_rfl)
theorem ar37 : (a+1)<(b+1) → a<b := go [a, b] [] [(.lt true (.ad (.vr 0) (.nu 1)) (.ad (.vr 1) (.nu 1)))] (.lt true (.vr 0) (.vr 1)) (by kernel_rfl)
theorem ar38 : ¬(((c+1)-a)≤d) → c≤(b+d) → a≤b := go [a, b, c, d] [] [(.no (.le true (.su (.ad (.vr 2) (.nu 1)) (.vr 0)) (.vr 3))), (.le true (.vr 2) (.ad (.vr 1) (.vr 3)))] (.le true (.vr 0) (.vr 1)) (by kernel_rfl)
theorem ar39 : ¬(((c+1)-d)≤a) → c≤(b+d) → a≤b := go [a, b, c, d] [] [(.no (.le true (.su (.ad (.vr 2) (.nu 1)) (.vr 3)) (.vr 0))), (.le true (.vr 2) (.ad (.vr 1) (.vr 3)))] (.le true (.vr 0) (.vr 1)) (by kernel_rfl)
theorem ar40 : c<b → a≤c → a<b := go [a, b, c] [] [(.lt true (.vr 2) (.vr 1)), (.le true (.vr 0) (.vr 2))] (.lt true (.vr 0) (.vr 1)) (by kernel_rfl)
theorem ar41 : a≤b → b<3 → a<3 := go [a, b] [] [(.le true (.vr 0) (.vr 1)), (.lt true (.vr 1) (.nu 3))] (.lt true (.vr 0) (.nu 3)) (by kernel_rfl)
theorem ar42 : c≤a → b<(min c d) → ¬(a=b) := go [a, b, c, d] [] [(.le true (.vr 2) (.vr 0)), (.lt true (.vr 1) (.mi (.vr 2) (.vr 3)))] (.no (.eq true (.vr 0) (.vr 1))) (by kernel_rfl)
theorem ar43 : b<(min c d) → a=c → ¬(a=b) := go [a, b, c, d] [] [(.lt true (.vr 1) (.mi (.vr 2) (.vr 3))), (.eq true (.vr 0) (.vr 2))] (.no (.eq true (.vr 0) (.vr 1))) (by kernel_rfl)
theorem ar44 : b<(min a c) → ¬(a=b) := go [a, b, c] [] [(.lt true (.vr 1) (.mi (.vr 0) (.vr 2)))] (.no (.eq true (.vr 0) (.vr 1))) (by kernel_rfl)
theorem ar45 : c≤d → b<(min c e) → a=d → ¬(a=b) := go [a, b, c, d, e] [] [(.le true (.vr 2) (.vr 3)), (.lt true (.vr 1) (.mi (.vr 2) (.vr 4))), (.eq true (.vr 0) (.vr 3))] (.no (.eq true (.vr 0) (.vr 1))) (by kernel_rfl)
theorem ar46 : (a+3)<3 → False := go [a] [] [(.lt true (.ad (.vr 0) (.nu 3)) (.nu 3))] .f (by kernel_rfl)
theorem ar47 : b<c → a<b → a<(min b c) := go [a, b, c] [] [(.lt true (.vr 1) (.vr 2)), (.lt true (.vr 0) (.vr 1))] (.lt true (.vr 0) (.mi (.vr 1) (.vr 2))) (by kernel_rfl)
theorem ar48 : b<c → c≤a → ¬(a<b) := go [a, b, c] [] [(.lt true (.vr 1) (.vr 2)), (.le true (.vr 2) (.vr 0))] (.no (.lt true (.vr 0) (.vr 1))) (by kernel_rfl)
theorem ar49 : b<c → c≤a → ¬(a=b) := go [a, b, c] [] [(.lt true (.vr 1) (.vr 2)), (.le true (.vr 2) (.vr 0))] (.no (.eq true (.vr 0) (.vr 1))) (by kernel_rfl)
theorem ar50 : a<b → b≤3 → a<3 := go [a, b] [] [(.lt true (.vr 0) (.vr 1)), (.le true (.vr 1) (.nu 3))] (.lt true (.vr 0) (.nu 3)) (by kernel_rfl)
theorem ar51 : 0≤a := go [a] [] [] (.le true (.nu 0) (.vr 0)) (by kernel_rfl)
theorem ar52 : 0<1 := go [] [] [] (.lt true (.nu 0) (.nu 1)) (by kernel_rfl)
theorem ar53 : ¬(a=0) → 1≤a := go [a] [] [(.no (.eq true (.vr 0) (.nu 0)))] (.le true (.nu 1) (.vr 0)) (by kernel_rfl)
theorem ar54 : 0<2 := go [] [] [] (.lt true (.nu 0) (.nu 2)) (by kernel_rfl)
theorem ar55 : 1<2 := go [] [] [] (.lt true (.nu 1) (.nu 2)) (by kernel_rfl)
theorem ar56 : ¬(a=0) → ¬(a=1) → 2≤a := go [a] [] [(.no (.eq true (.vr 0) (.nu 0))), (.no (.eq true (.vr 0) (.nu 1)))] (.le true (.nu 2) (.vr 0)) (by kernel_rfl)
theorem ar57 : a<(min (b+1) c) → ¬(a=b) → a<(min b c) := go [a, b, c] [] [(.lt true (.vr 0) (.mi (.ad (.vr 1) (.nu 1)) (.vr 2))), (.no (.eq true (.vr 0) (.vr 1)))] (.lt true (.vr 0) (.mi (.vr 1) (.vr 2))) (by kernel_rfl)
theorem ar58 : ¬(b=a) → ¬(a=b) := go [a, b] [] [(.no (.eq true (.vr 1) (.vr 0)))] (.no (.eq true (.vr 0) (.vr 1))) (by kernel_rfl)
theorem ar59 : ¬(b=c) → a=c → ¬(a=b) := go [a, b, c] [] [(.no (.eq true (.vr 1) (.vr 2))), (.eq true (.vr 0) (.vr 2))] (.no (.eq true (.vr 0) (.vr 1))) (by kernel_rfl)
theorem ar60 : a<b → b≤c → c<3 → a<3 := go [a, b, c] [] [(.lt true (.vr 0) (.vr 1)), (.le true (.vr 1) (.vr 2)), (.lt true (.vr 2) (.nu 3))] (.lt true (.vr 0) (.nu 3)) (by kernel_rfl)
theorem ar61 : b<a → 1≤a := go [a, b] [] [(.lt true (.vr 1) (.vr 0))] (.le true (.nu 1) (.vr 0)) (by kernel_rfl)
theorem ar62 {P : Prop} : a<3 → 3≤a → P := by lia
theorem ar63 : 1≤a → 0<(min a 1) := go [a] [] [(.le true (.nu 1) (.vr 0))] (.lt true (.nu 0) (.mi (.vr 0) (.nu 1))) (by kernel_rfl)
theorem ar64 : 1<3 := go [] [] [] (.lt true (.nu 1) (.nu 3)) (by kernel_rfl)
theorem ar65 : a<3 → 1≤a → ¬(a=1) → a=2 := go [a] [] [(.lt true (.vr 0) (.nu 3)), (.le true (.nu 1) (.vr 0)), (.no (.eq true (.vr 0) (.nu 1)))] (.eq true (.vr 0) (.nu 2)) (by kernel_rfl)
theorem ar66 : 1≤2 := go [] [] [] (.le true (.nu 1) (.nu 2)) (by kernel_rfl)
theorem ar67 : 2<3 := go [] [] [] (.lt true (.nu 2) (.nu 3)) (by kernel_rfl)
theorem ar68 : 2≤a → 0<(min a 2) := go [a] [] [(.le true (.nu 2) (.vr 0))] (.lt true (.nu 0) (.mi (.vr 0) (.nu 2))) (by kernel_rfl)
theorem ar69 : 2≤a → 1<(min a 2) := go [a] [] [(.le true (.nu 2) (.vr 0))] (.lt true (.nu 1) (.mi (.vr 0) (.nu 2))) (by kernel_rfl)
theorem ar70 : 2≤a → ¬(a=0) := go [a] [] [(.le true (.nu 2) (.vr 0))] (.no (.eq true (.vr 0) (.nu 0))) (by kernel_rfl)
theorem ar71 : 2≤a → ¬(a=1) := go [a] [] [(.le true (.nu 2) (.vr 0))] (.no (.eq true (.vr 0) (.nu 1))) (by kernel_rfl)
theorem ar72 : a<3 → 2≤a → a=2 := go [a] [] [(.lt true (.vr 0) (.nu 3)), (.le true (.nu 2) (.vr 0))] (.eq true (.vr 0) (.nu 2)) (by kernel_rfl)
theorem ar73 : 2≤2 := go [] [] [] (.le true (.nu 2) (.nu 2)) (by kernel_rfl)
theorem ar74 : c≤b → a<(min (b+1) c) → a<(min b c) := go [a, b, c] [] [(.le true (.vr 2) (.vr 1)), (.lt true (.vr 0) (.mi (.ad (.vr 1) (.nu 1)) (.vr 2)))] (.lt true (.vr 0) (.mi (.vr 1) (.vr 2))) (by kernel_rfl)
theorem ar75 : (a+6)<6 → False := go [a] [] [(.lt true (.ad (.vr 0) (.nu 6)) (.nu 6))] .f (by kernel_rfl)
theorem ar76 {P : Prop} : (a+6)<6 → P := by omega
theorem ar77 : ¬((x-y)=(0:Int)) → (y-x)=(0:Int) → 2≤1 := go [] [x, y] [(.no (.eq false (.su (.vr 0) (.vr 1)) (.nu 0))), (.eq false (.su (.vr 1) (.vr 0)) (.nu 0))] (.le true (.nu 2) (.nu 1)) (by kernel_rfl)
theorem ar78 : (y-x)=(0:Int) → (x-y)=(0:Int) := go [] [x, y] [(.eq false (.su (.vr 1) (.vr 0)) (.nu 0))] (.eq false (.su (.vr 0) (.vr 1)) (.nu 0)) (by kernel_rfl)
theorem ar79 : a<1 → a=0 := go [a] [] [(.lt true (.vr 0) (.nu 1))] (.eq true (.vr 0) (.nu 0)) (by kernel_rfl)
theorem ar80 {P : Prop} : (a+2)<2 → P := by lia
theorem ar81 : 0<3 := go [] [] [] (.lt true (.nu 0) (.nu 3)) (by kernel_rfl)
theorem ar82 {P : Prop} : (a+3)<3 → P := by lia
theorem ar83 {P : Prop} : (a+4)≤3 → P := by lia
theorem ar84 : ¬(b=0) → ¬(a<b) → (a-b)<a := go [a, b] [] [(.no (.eq true (.vr 1) (.nu 0))), (.no (.lt true (.vr 0) (.vr 1)))] (.lt true (.su (.vr 0) (.vr 1)) (.vr 0)) (by kernel_rfl)
theorem ar85 : ¬(a<b) → (a-(a-b))=b := go [a, b] [] [(.no (.lt true (.vr 0) (.vr 1)))] (.eq true (.su (.vr 0) (.su (.vr 0) (.vr 1))) (.vr 1)) (by kernel_rfl)
theorem ar86 : a≤(a+b) := go [a, b] [] [] (.le true (.vr 0) (.ad (.vr 0) (.vr 1))) (by kernel_rfl)
theorem ar87 : b<a → (a+b)<(2*a) := go [a, b] [] [(.lt true (.vr 1) (.vr 0))] (.lt true (.ad (.vr 0) (.vr 1)) (.ml 2 (.vr 0))) (by kernel_rfl)
theorem ar88 : 3<4 := go [] [] [] (.lt true (.nu 3) (.nu 4)) (by kernel_rfl)
theorem ar89 : 3<5 := go [] [] [] (.lt true (.nu 3) (.nu 5)) (by kernel_rfl)
theorem ar90 {P : Prop} : a<0 → P := by lia
theorem ar91 {P : Prop} : (a+1)<1 → P := by lia
theorem ar92 : b<a → ¬(a=0) := go [a, b] [] [(.lt true (.vr 1) (.vr 0))] (.no (.eq true (.vr 0) (.nu 0))) (by kernel_rfl)
theorem ar93 : b<a → ¬(a≤b) := go [a, b] [] [(.lt true (.vr 1) (.vr 0))] (.no (.le true (.vr 0) (.vr 1))) (by kernel_rfl)
theorem ar94 : a≤b → a<(b+1) := go [a, b] [] [(.le true (.vr 0) (.vr 1))] (.lt true (.vr 0) (.ad (.vr 1) (.nu 1))) (by kernel_rfl)
theorem ar95 : ¬((a+1)=0) := go [a] [] [] (.no (.eq true (.ad (.vr 0) (.nu 1)) (.nu 0))) (by kernel_rfl)
theorem ar96 : a<b → (a+1)≤b := go [a, b] [] [(.lt true (.vr 0) (.vr 1))] (.le true (.ad (.vr 0) (.nu 1)) (.vr 1)) (by kernel_rfl)
theorem ar97 : b≤3 → a<(2*b) → a<6 := go [a, b] [] [(.le true (.vr 1) (.nu 3)), (.lt true (.vr 0) (.ml 2 (.vr 1)))] (.lt true (.vr 0) (.nu 6)) (by kernel_rfl)
theorem ar98 : b≤a → ¬(b=a) → (a-1)<a := go [a, b] [] [(.le true (.vr 1) (.vr 0)), (.no (.eq true (.vr 1) (.vr 0)))] (.lt true (.su (.vr 0) (.nu 1)) (.vr 0)) (by kernel_rfl)
theorem ar99 : a≤b → ¬(a=b) → a≤((b-1)+c) := go [a, b, c] [] [(.le true (.vr 0) (.vr 1)), (.no (.eq true (.vr 0) (.vr 1)))] (.le true (.vr 0) (.ad (.su (.vr 1) (.nu 1)) (.vr 2))) (by kernel_rfl)
theorem ar100 : a≤3 → b<a → ((a-1)+b)<6 := go [a, b] [] [(.le true (.vr 0) (.nu 3)), (.lt true (.vr 1) (.vr 0))] (.lt true (.ad (.su (.vr 0) (.nu 1)) (.vr 1)) (.nu 6)) (by kernel_rfl)
theorem ar101 : a≤2 → ¬(a=2) → a<2 := go [a] [] [(.le true (.vr 0) (.nu 2)), (.no (.eq true (.vr 0) (.nu 2)))] (.lt true (.vr 0) (.nu 2)) (by kernel_rfl)
theorem ar102 : a≤3 → ¬(a=3) → a<3 := go [a] [] [(.le true (.vr 0) (.nu 3)), (.no (.eq true (.vr 0) (.nu 3)))] (.lt true (.vr 0) (.nu 3)) (by kernel_rfl)
theorem ar103 : a≤3 → a<4 := go [a] [] [(.le true (.vr 0) (.nu 3))] (.lt true (.vr 0) (.nu 4)) (by kernel_rfl)
theorem ar104 : a≤c → c<b → a<b := go [a, b, c] [] [(.le true (.vr 0) (.vr 2)), (.lt true (.vr 2) (.vr 1))] (.lt true (.vr 0) (.vr 1)) (by kernel_rfl)
theorem ar105 : a≤c → c≤b → a≤b := go [a, b, c] [] [(.le true (.vr 0) (.vr 2)), (.le true (.vr 2) (.vr 1))] (.le true (.vr 0) (.vr 1)) (by kernel_rfl)
theorem ar106 : a<(min 0 b) → False := go [a, b] [] [(.lt true (.vr 0) (.mi (.nu 0) (.vr 1)))] .f (by kernel_rfl)
theorem ar107 : a≤c → a≤(b+c) := go [a, b, c] [] [(.le true (.vr 0) (.vr 2))] (.le true (.vr 0) (.ad (.vr 1) (.vr 2))) (by kernel_rfl)
theorem ar108 : b<3 → a<3 → (a+b)<6 := go [a, b] [] [(.lt true (.vr 1) (.nu 3)), (.lt true (.vr 0) (.nu 3))] (.lt true (.ad (.vr 0) (.vr 1)) (.nu 6)) (by kernel_rfl)
theorem ar109 : d≤b → c<d → ((a+b)-(c+1))=(a+(b-(c+1))) := go [a, b, c, d] [] [(.le true (.vr 3) (.vr 1)), (.lt true (.vr 2) (.vr 3))] (.eq true (.su (.ad (.vr 0) (.vr 1)) (.ad (.vr 2) (.nu 1))) (.ad (.vr 0) (.su (.vr 1) (.ad (.vr 2) (.nu 1))))) (by kernel_rfl)
theorem ar110 : b≤3 → a<b → a<3 := go [a, b] [] [(.le true (.vr 1) (.nu 3)), (.lt true (.vr 0) (.vr 1))] (.lt true (.vr 0) (.nu 3)) (by kernel_rfl)
theorem ar111 : (a+6)<6 → x=y := go [a] [x, y] [(.lt true (.ad (.vr 0) (.nu 6)) (.nu 6))] (.eq false (.vr 0) (.vr 1)) (by kernel_rfl)
theorem ar112 : (y+z)=x → x=(y+z) := go [] [x, y, z] [(.eq false (.ad (.vr 1) (.vr 2)) (.vr 0))] (.eq false (.vr 0) (.ad (.vr 1) (.vr 2))) (by kernel_rfl)
theorem ar113 : ((y+z)+u)=x → x=(y+(z+u)) := go [] [x, y, z, u] [(.eq false (.ad (.ad (.vr 1) (.vr 2)) (.vr 3)) (.vr 0))] (.eq false (.vr 0) (.ad (.vr 1) (.ad (.vr 2) (.vr 3)))) (by kernel_rfl)
theorem ar114 : a≤2 → a≤3 := go [a] [] [(.le true (.vr 0) (.nu 2))] (.le true (.vr 0) (.nu 3)) (by kernel_rfl)
theorem ar115 : c<(2*b) → a≤c → a<(2*b) := go [a, b, c] [] [(.lt true (.vr 2) (.ml 2 (.vr 1))), (.le true (.vr 0) (.vr 2))] (.lt true (.vr 0) (.ml 2 (.vr 1))) (by kernel_rfl)
theorem ar116 : a<b → a<(2*b) := go [a, b] [] [(.lt true (.vr 0) (.vr 1))] (.lt true (.vr 0) (.ml 2 (.vr 1))) (by kernel_rfl)
theorem ar117 : (a+(b+1))<880 → (a+b)<880 := go [a, b] [] [(.lt true (.ad (.vr 0) (.ad (.vr 1) (.nu 1))) (.nu 880))] (.lt true (.ad (.vr 0) (.vr 1)) (.nu 880)) (by kernel_rfl)
theorem ar118 : ((a+(8*(b+1)))+100)<9800 → (((a+1)+(8*b))+100)<9800 := go [a, b] [] [(.lt true (.ad (.ad (.vr 0) (.ml 8 (.ad (.vr 1) (.nu 1)))) (.nu 100)) (.nu 9800))] (.lt true (.ad (.ad (.ad (.vr 0) (.nu 1)) (.ml 8 (.vr 1))) (.nu 100)) (.nu 9800)) (by kernel_rfl)
theorem ar119 : (a+(b+1))<880 → ((a+1)+b)<880 := go [a, b] [] [(.lt true (.ad (.vr 0) (.ad (.vr 1) (.nu 1))) (.nu 880))] (.lt true (.ad (.ad (.vr 0) (.nu 1)) (.vr 1)) (.nu 880)) (by kernel_rfl)
theorem ar120 : ((a+(8*(b+1)))+100)<9800 → (((a+3)+(8*b))+100)<9800 := go [a, b] [] [(.lt true (.ad (.ad (.vr 0) (.ml 8 (.ad (.vr 1) (.nu 1)))) (.nu 100)) (.nu 9800))] (.lt true (.ad (.ad (.ad (.vr 0) (.nu 3)) (.ml 8 (.vr 1))) (.nu 100)) (.nu 9800)) (by kernel_rfl)
theorem ar121 : b≤c → (a+c)<880 → (a+b)<880 := go [a, b, c] [] [(.le true (.vr 1) (.vr 2)), (.lt true (.ad (.vr 0) (.vr 2)) (.nu 880))] (.lt true (.ad (.vr 0) (.vr 1)) (.nu 880)) (by kernel_rfl)
theorem ar122 : b≤c → ((a+(8*c))+100)<9800 → ((a+(8*b))+100)<9800 := go [a, b, c] [] [(.le true (.vr 1) (.vr 2)), (.lt true (.ad (.ad (.vr 0) (.ml 8 (.vr 2))) (.nu 100)) (.nu 9800))] (.lt true (.ad (.ad (.vr 0) (.ml 8 (.vr 1))) (.nu 100)) (.nu 9800)) (by kernel_rfl)
theorem ar123 : ((a+(8*c))+100)<9800 → b=9900 → (a+64)<b := go [a, b, c] [] [(.lt true (.ad (.ad (.vr 0) (.ml 8 (.vr 2))) (.nu 100)) (.nu 9800)), (.eq true (.vr 1) (.nu 9900))] (.lt true (.ad (.vr 0) (.nu 64)) (.vr 1)) (by kernel_rfl)
theorem ar124 : a≤256 → a≤16777216 := go [a] [] [(.le true (.vr 0) (.nu 256))] (.le true (.vr 0) (.nu 16777216)) (by kernel_rfl)
theorem ar125 : (a+b)≤1000 → (a+b)≤16777216 := go [a, b] [] [(.le true (.ad (.vr 0) (.vr 1)) (.nu 1000))] (.le true (.ad (.vr 0) (.vr 1)) (.nu 16777216)) (by kernel_rfl)
theorem ar126 : a≤256 → a≤1000 := go [a] [] [(.le true (.vr 0) (.nu 256))] (.le true (.vr 0) (.nu 1000)) (by kernel_rfl)
theorem ar127 : (a+(d+1))<880 → c=1000 → b=100 → (a+b)<c := go [a, b, c, d] [] [(.lt true (.ad (.vr 0) (.ad (.vr 3) (.nu 1))) (.nu 880)), (.eq true (.vr 2) (.nu 1000)), (.eq true (.vr 1) (.nu 100))] (.lt true (.ad (.vr 0) (.vr 1)) (.vr 2)) (by kernel_rfl)
theorem ar128 : (0:Int)≤x → ¬(x<(0:Int)) := go [] [x] [(.le false (.nu 0) (.vr 0))] (.no (.lt false (.vr 0) (.nu 0))) (by kernel_rfl)
theorem ar129 : b=a → (0:Int)≤x → (Int.toNat x)<b → ((0:Int)≤x∧x<((a:Nat):Int)) := go [a, b] [x] [(.eq true (.vr 1) (.vr 0)), (.le false (.nu 0) (.vr 0)), (.lt true (.tn (.vr 0)) (.vr 1))] (.an (.le false (.nu 0) (.vr 0)) (.lt false (.vr 0) (.ca (.vr 0)))) (by kernel_rfl)
theorem ar130 : b=a → (-((b:Nat):Int))≤x → (-((a:Nat):Int))≤x := go [a, b] [x] [(.eq true (.vr 1) (.vr 0)), (.le false (.ng (.ca (.vr 1))) (.vr 0))] (.le false (.ng (.ca (.vr 0))) (.vr 0)) (by kernel_rfl)
theorem ar131 : a≤1000 → a≤16777216 := go [a] [] [(.le true (.vr 0) (.nu 1000))] (.le true (.vr 0) (.nu 16777216)) (by kernel_rfl)
theorem ar132 : (Int.toNat (max (0:Int) (min x ((a:Nat):Int))))≤a := go [a] [x] [] (.le true (.tn (.ma (.nu 0) (.mi (.vr 0) (.ca (.vr 0))))) (.vr 0)) (by kernel_rfl)
theorem ar133 : b≤1000 → (min a b)≤1000 := go [a, b] [] [(.le true (.vr 1) (.nu 1000))] (.le true (.mi (.vr 0) (.vr 1)) (.nu 1000)) (by kernel_rfl)
theorem ar134 : a≤1000 → ((a:Nat):Int)<(9223372036854775808:Int) := go [a] [] [(.le true (.vr 0) (.nu 1000))] (.lt false (.ca (.vr 0)) (.nu 9223372036854775808)) (by kernel_rfl)
theorem ar135  : ¬(x<(0:Int)) → x=(((Int.natAbs x):Nat):Int) := by lia
theorem ar136 : x<y → x≤y := go [] [x, y] [(.lt false (.vr 0) (.vr 1))] (.le false (.vr 0) (.vr 1)) (by kernel_rfl)
theorem ar137 : ¬(y<x) → x≤y := go [] [x, y] [(.no (.lt false (.vr 1) (.vr 0)))] (.le false (.vr 0) (.vr 1)) (by kernel_rfl)
theorem ar138 : y>x → x≤y := go [] [x, y] [(.lt false (.vr 0) (.vr 1))] (.le false (.vr 0) (.vr 1)) (by kernel_rfl)
theorem ar139 : ¬(x>y) → x≤y := go [] [x, y] [(.no (.lt false (.vr 1) (.vr 0)))] (.le false (.vr 0) (.vr 1)) (by kernel_rfl)
theorem ar140 : a<1000 → a≤16777216 := go [a] [] [(.lt true (.vr 0) (.nu 1000))] (.le true (.vr 0) (.nu 16777216)) (by kernel_rfl)
theorem ar141 : a<1000 → a≤999 := go [a] [] [(.lt true (.vr 0) (.nu 1000))] (.le true (.vr 0) (.nu 999)) (by kernel_rfl)
theorem ar142 : y<x → (x-y)=(((Int.toNat (x-y)):Nat):Int) := go [] [x, y] [(.lt false (.vr 1) (.vr 0))] (.eq false (.su (.vr 0) (.vr 1)) (.ca (.tn (.su (.vr 0) (.vr 1))))) (by kernel_rfl)
theorem ar143 : ¬(y<x) → (0:Int)=(((Int.toNat (x-y)):Nat):Int) := go [] [x, y] [(.no (.lt false (.vr 1) (.vr 0)))] (.eq false (.nu 0) (.ca (.tn (.su (.vr 0) (.vr 1))))) (by kernel_rfl)
theorem ar144 : ((-(1000000:Int))≤(0:Int)∧(0:Int)≤(1000000:Int)) := go [] [] [] (.an (.le false (.ng (.nu 1000000)) (.nu 0)) (.le false (.nu 0) (.nu 1000000))) (by kernel_rfl)
theorem ar145 : a≤(a+1) := go [a] [] [] (.le true (.vr 0) (.ad (.vr 0) (.nu 1))) (by kernel_rfl)
theorem ar146 : a≤a := go [a] [] [] (.le true (.vr 0) (.vr 0)) (by kernel_rfl)
theorem ar147 : a≤b → b≤a → a=b := go [a, b] [] [(.le true (.vr 0) (.vr 1)), (.le true (.vr 1) (.vr 0))] (.eq true (.vr 0) (.vr 1)) (by kernel_rfl)
theorem ar148 : c=(a-b) → b<a → (a-(b+1))<c := go [a, b, c] [] [(.eq true (.vr 2) (.su (.vr 0) (.vr 1))), (.lt true (.vr 1) (.vr 0))] (.lt true (.su (.vr 0) (.ad (.vr 1) (.nu 1))) (.vr 2)) (by kernel_rfl)
theorem ar149 : 0≤16777216 := go [] [] [] (.le true (.nu 0) (.nu 16777216)) (by kernel_rfl)
theorem ar150 {P : Prop} : (a<1000∧P) → a≤16777216 := by lia
theorem ar151 {P : Prop} : (a<1000∧P) → a≤999 := by lia
theorem ar152 : (a+(c+1))<880 → b=1000 → a<b := go [a, b, c] [] [(.lt true (.ad (.vr 0) (.ad (.vr 2) (.nu 1))) (.nu 880)), (.eq true (.vr 1) (.nu 1000))] (.lt true (.vr 0) (.vr 1)) (by kernel_rfl)
theorem ar153 : 0<a → (-((a:Nat):Int))≤(-(1:Int)) := go [a] [] [(.lt true (.nu 0) (.vr 0))] (.le false (.ng (.ca (.vr 0))) (.ng (.nu 1))) (by kernel_rfl)
theorem ar154 : (Int.toNat ((-(1:Int))+((a:Nat):Int)))=(a-1) := go [a] [] [] (.eq true (.tn (.ad (.ng (.nu 1)) (.ca (.vr 0)))) (.su (.vr 0) (.nu 1))) (by kernel_rfl)
theorem ar155 : a<0 → False := go [a] [] [(.lt true (.vr 0) (.nu 0))] .f (by kernel_rfl)
theorem ar156 : c<(b+1) → a<c → a<b := go [a, b, c] [] [(.lt true (.vr 2) (.ad (.vr 1) (.nu 1))), (.lt true (.vr 0) (.vr 2))] (.lt true (.vr 0) (.vr 1)) (by kernel_rfl)
theorem ar157 : a≤b → (b-a)=0 → a=b := go [a, b] [] [(.le true (.vr 0) (.vr 1)), (.eq true (.su (.vr 1) (.vr 0)) (.nu 0))] (.eq true (.vr 0) (.vr 1)) (by kernel_rfl)
theorem ar158 : (b-a)=(c+1) → a<b := go [a, b, c] [] [(.eq true (.su (.vr 1) (.vr 0)) (.ad (.vr 2) (.nu 1)))] (.lt true (.vr 0) (.vr 1)) (by kernel_rfl)
theorem ar159 : b≤1000 → a<b → a<1000 := go [a, b] [] [(.le true (.vr 1) (.nu 1000)), (.lt true (.vr 0) (.vr 1))] (.lt true (.vr 0) (.nu 1000)) (by kernel_rfl)
theorem ar160  : (c+d)≤134000000 → a≤c → b≤d → ¬(((134217728:Nat):Int)<(((a:Nat):Int)+((b:Nat):Int))) := by lia
theorem ar161 : (x=y∧((a:Nat):Int)=((b:Nat):Int)) → a=b := go [a, b] [x, y] [(.an (.eq false (.vr 0) (.vr 1)) (.eq false (.ca (.vr 0)) (.ca (.vr 1))))] (.eq true (.vr 0) (.vr 1)) (by kernel_rfl)
theorem ar162 : a≤1 → (max 1 a)≤1 := go [a] [] [(.le true (.vr 0) (.nu 1))] (.le true (.ma (.nu 1) (.vr 0)) (.nu 1)) (by kernel_rfl)
theorem ar163 : a≤1 → a≤63 := go [a] [] [(.le true (.vr 0) (.nu 1))] (.le true (.vr 0) (.nu 63)) (by kernel_rfl)
theorem ar164 : a≤1 → b≤1 → (max a b)≤62 := go [a, b] [] [(.le true (.vr 0) (.nu 1)), (.le true (.vr 1) (.nu 1))] (.le true (.ma (.vr 0) (.vr 1)) (.nu 62)) (by kernel_rfl)
theorem ar165 : ((a:Nat):Int)=(0:Int) → a=0 := go [a] [] [(.eq false (.ca (.vr 0)) (.nu 0))] (.eq true (.vr 0) (.nu 0)) (by kernel_rfl)
theorem ar166 : ¬(((a:Nat):Int)=(0:Int)) → a≠0 := go [a] [] [(.no (.eq false (.ca (.vr 0)) (.nu 0)))] (.ne true (.vr 0) (.nu 0)) (by kernel_rfl)
theorem ar167 : b≤a → b≠0 → (a-1)<a := go [a, b] [] [(.le true (.vr 1) (.vr 0)), (.ne true (.vr 1) (.nu 0))] (.lt true (.su (.vr 0) (.nu 1)) (.vr 0)) (by kernel_rfl)
theorem ar168 : c≤b → a<c → a≤(b-1) := go [a, b, c] [] [(.le true (.vr 2) (.vr 1)), (.lt true (.vr 0) (.vr 2))] (.le true (.vr 0) (.su (.vr 1) (.nu 1))) (by kernel_rfl)
theorem ar169  : a<b → (Int.natAbs ((a:Nat):Int))<b := by omega
theorem ar170 : (a+b)≤130000000 → (a+b)≤134000000 := go [a, b] [] [(.le true (.ad (.vr 0) (.vr 1)) (.nu 130000000))] (.le true (.ad (.vr 0) (.vr 1)) (.nu 134000000)) (by kernel_rfl)
theorem ar171 : (b+a)≤130000000 → (a+b)≤134000000 := go [a, b] [] [(.le true (.ad (.vr 1) (.vr 0)) (.nu 130000000))] (.le true (.ad (.vr 0) (.vr 1)) (.nu 134000000)) (by kernel_rfl)
theorem ar172 : a≤130000000 → (a+1)≤134000000 := go [a] [] [(.le true (.vr 0) (.nu 130000000))] (.le true (.ad (.vr 0) (.nu 1)) (.nu 134000000)) (by kernel_rfl)
theorem ar173 : a≤130000000 → (1+a)≤134000000 := go [a] [] [(.le true (.vr 0) (.nu 130000000))] (.le true (.ad (.nu 1) (.vr 0)) (.nu 134000000)) (by kernel_rfl)
theorem ar174  : (0:Int)<x → x<(0:Int) → (((1:Int)-(1:Int))=(0:Int)↔x=(0:Int)) := by lia
theorem ar175  : (0:Int)<x → (((1:Int)-(0:Int))=(0:Int)↔x=(0:Int)) := by lia
theorem ar176  : x<(0:Int) → (((0:Int)-(1:Int))=(0:Int)↔x=(0:Int)) := by lia
theorem ar177  : ¬((0:Int)<x) → ¬(x<(0:Int)) → (((0:Int)-(0:Int))=(0:Int)↔x=(0:Int)) := by lia
theorem ar178 : (0:Int)≤((a:Nat):Int) := go [a] [] [] (.le false (.nu 0) (.ca (.vr 0))) (by kernel_rfl)
theorem ar179 : (-(1000000:Int))≤((min ((a:Nat):Int) (((b:Nat):Int)-(1:Int)))+(1:Int)) := go [a, b] [] [] (.le false (.ng (.nu 1000000)) (.ad (.mi (.ca (.vr 0)) (.su (.ca (.vr 1)) (.nu 1))) (.nu 1))) (by kernel_rfl)
theorem ar180 : b≤1000 → ((min ((a:Nat):Int) (((b:Nat):Int)-(1:Int)))+(1:Int))≤(1000000:Int) := go [a, b] [] [(.le true (.vr 1) (.nu 1000))] (.le false (.ad (.mi (.ca (.vr 0)) (.su (.ca (.vr 1)) (.nu 1))) (.nu 1)) (.nu 1000000)) (by kernel_rfl)
theorem ar181 : (min b (c-1))=a → a≤b := go [a, b, c] [] [(.eq true (.mi (.vr 1) (.su (.vr 2) (.nu 1))) (.vr 0))] (.le true (.vr 0) (.vr 1)) (by kernel_rfl)
theorem ar182 : a≤b → (a+1)≤(b+1) := go [a, b] [] [(.le true (.vr 0) (.vr 1))] (.le true (.ad (.vr 0) (.nu 1)) (.ad (.vr 1) (.nu 1))) (by kernel_rfl)
theorem ar183 : (min c (a-1))=d → (d+1)≤b → b<(c+1) → a≤b := go [a, b, c, d] [] [(.eq true (.mi (.vr 2) (.su (.vr 0) (.nu 1))) (.vr 3)), (.le true (.ad (.vr 3) (.nu 1)) (.vr 1)), (.lt true (.vr 1) (.ad (.vr 2) (.nu 1)))] (.le true (.vr 0) (.vr 1)) (by kernel_rfl)
theorem ar184 : (0:Int)≤((1:Int)+((a:Nat):Int)) := go [a] [] [] (.le false (.nu 0) (.ad (.nu 1) (.ca (.vr 0)))) (by kernel_rfl)
theorem ar185 : (min c (b-1))=d → a<d → (Int.toNat ((1:Int)+((a:Nat):Int)))<b := go [a, b, c, d] [] [(.eq true (.mi (.vr 2) (.su (.vr 1) (.nu 1))) (.vr 3)), (.lt true (.vr 0) (.vr 3))] (.lt true (.tn (.ad (.nu 1) (.ca (.vr 0)))) (.vr 1)) (by kernel_rfl)
theorem ar186 : c≤a → b<c → (0:Int)≤(((a:Nat):Int)-((1:Int)+((b:Nat):Int))) := go [a, b, c] [] [(.le true (.vr 2) (.vr 0)), (.lt true (.vr 1) (.vr 2))] (.le false (.nu 0) (.su (.ca (.vr 0)) (.ad (.nu 1) (.ca (.vr 1))))) (by kernel_rfl)
theorem ar187 : a<c → (Int.toNat (((a:Nat):Int)-((1:Int)+((b:Nat):Int))))<c := go [a, b, c] [] [(.lt true (.vr 0) (.vr 2))] (.lt true (.tn (.su (.ca (.vr 0)) (.ad (.nu 1) (.ca (.vr 1))))) (.vr 2)) (by kernel_rfl)
theorem ar188 : (Int.toNat ((1:Int)+((a:Nat):Int)))=(a+1) := go [a] [] [] (.eq true (.tn (.ad (.nu 1) (.ca (.vr 0)))) (.ad (.vr 0) (.nu 1))) (by kernel_rfl)
theorem ar189 : (Int.toNat (((a:Nat):Int)-((1:Int)+((b:Nat):Int))))=(a-(b+1)) := go [a, b] [] [] (.eq true (.tn (.su (.ca (.vr 0)) (.ad (.nu 1) (.ca (.vr 1))))) (.su (.vr 0) (.ad (.vr 1) (.nu 1)))) (by kernel_rfl)
theorem ar190 : c≤b → a<c → (a+1)≤b := go [a, b, c] [] [(.le true (.vr 2) (.vr 1)), (.lt true (.vr 0) (.vr 2))] (.le true (.ad (.vr 0) (.nu 1)) (.vr 1)) (by kernel_rfl)
theorem ar191 : (b+c)≤65000000 → c=(d+((a+b)+1)) → (a+b)≤130000000 := go [a, b, c, d] [] [(.le true (.ad (.vr 1) (.vr 2)) (.nu 65000000)), (.eq true (.vr 2) (.ad (.vr 3) (.ad (.ad (.vr 0) (.vr 1)) (.nu 1))))] (.le true (.ad (.vr 0) (.vr 1)) (.nu 130000000)) (by kernel_rfl)
theorem ar192 : (a+d)≤65000000 → e=(b+((c+a)+1)) → d=(f+((c+a)+1)) → e≤f → ((a+b)+(c+a))≤130000000 := go [a, b, c, d, e, f] [] [(.le true (.ad (.vr 0) (.vr 3)) (.nu 65000000)), (.eq true (.vr 4) (.ad (.vr 1) (.ad (.ad (.vr 2) (.vr 0)) (.nu 1)))), (.eq true (.vr 3) (.ad (.vr 5) (.ad (.ad (.vr 2) (.vr 0)) (.nu 1)))), (.le true (.vr 4) (.vr 5))] (.le true (.ad (.ad (.vr 0) (.vr 1)) (.ad (.vr 2) (.vr 0))) (.nu 130000000)) (by kernel_rfl)
theorem ar193 : d=(b+((c+a)+1)) → (((a+b)+(c+a))+1)≤(a+d) := go [a, b, c, d] [] [(.eq true (.vr 3) (.ad (.vr 1) (.ad (.ad (.vr 2) (.vr 0)) (.nu 1))))] (.le true (.ad (.ad (.ad (.vr 0) (.vr 1)) (.ad (.vr 2) (.vr 0))) (.nu 1)) (.ad (.vr 0) (.vr 3))) (by kernel_rfl)
theorem ar194  : (Int.toNat ((max ((a:Nat):Int) (((c:Nat):Int)+((d:Nat):Int)))-((a:Nat):Int)))=b → (a+b)=(max a (c+d)) := by lia
theorem ar195 : b≤100 → c≤100 → (d+a)=(max d (b+c)) → (1*a)≤256 := go [a, b, c, d] [] [(.le true (.vr 1) (.nu 100)), (.le true (.vr 2) (.nu 100)), (.eq true (.ad (.vr 3) (.vr 0)) (.ma (.vr 3) (.ad (.vr 1) (.vr 2))))] (.le true (.ml 1 (.vr 0)) (.nu 256)) (by kernel_rfl)
theorem ar196 : (-(1000:Int))≤((max ((a:Nat):Int) (((b:Nat):Int)+((c:Nat):Int)))-((a:Nat):Int)) := go [a, b, c] [] [] (.le false (.ng (.nu 1000)) (.su (.ma (.ca (.vr 0)) (.ad (.ca (.vr 1)) (.ca (.vr 2)))) (.ca (.vr 0)))) (by kernel_rfl)
theorem ar197 : b≤100 → c≤100 → ((max ((a:Nat):Int) (((b:Nat):Int)+((c:Nat):Int)))-((a:Nat):Int))≤(1000:Int) := go [a, b, c] [] [(.le true (.vr 1) (.nu 100)), (.le true (.vr 2) (.nu 100))] (.le false (.su (.ma (.ca (.vr 0)) (.ad (.ca (.vr 1)) (.ca (.vr 2)))) (.ca (.vr 0))) (.nu 1000)) (by kernel_rfl)
theorem ar198 : a≤100 → c≤100 → d≤100 → (a+b)=(max a (c+d)) → (a+b)≤1000 := go [a, b, c, d] [] [(.le true (.vr 0) (.nu 100)), (.le true (.vr 2) (.nu 100)), (.le true (.vr 3) (.nu 100)), (.eq true (.ad (.vr 0) (.vr 1)) (.ma (.vr 0) (.ad (.vr 2) (.vr 3))))] (.le true (.ad (.vr 0) (.vr 1)) (.nu 1000)) (by kernel_rfl)
theorem ar199 : a≤(((a+b)+c)+1) := go [a, b, c] [] [] (.le true (.vr 0) (.ad (.ad (.ad (.vr 0) (.vr 1)) (.vr 2)) (.nu 1))) (by kernel_rfl)
theorem ar200 : ¬((a≤b∧b<(a+0))) := go [a, b] [] [] (.no (.an (.le true (.vr 0) (.vr 1)) (.lt true (.vr 1) (.ad (.vr 0) (.nu 0))))) (by kernel_rfl)
theorem ar201 : ¬(b<(a+c)) → ¬((a≤b∧b<(a+c))) := go [a, b, c] [] [(.no (.lt true (.vr 1) (.ad (.vr 0) (.vr 2))))] (.no (.an (.le true (.vr 0) (.vr 1)) (.lt true (.vr 1) (.ad (.vr 0) (.vr 2))))) (by kernel_rfl)
theorem ar202 : ¬(b<(c+a)) → a≤(b-c) := go [a, b, c] [] [(.no (.lt true (.vr 1) (.ad (.vr 2) (.vr 0))))] (.le true (.vr 0) (.su (.vr 1) (.vr 2))) (by kernel_rfl)
theorem ar203 : ¬(a≤b) → ¬((a≤b∧b<(a+c))) := go [a, b, c] [] [(.no (.le true (.vr 0) (.vr 1)))] (.no (.an (.le true (.vr 0) (.vr 1)) (.lt true (.vr 1) (.ad (.vr 0) (.vr 2))))) (by kernel_rfl)
theorem ar204 : ¬(a≤b) → ¬(a≤b) := go [a, b] [] [(.no (.le true (.vr 0) (.vr 1)))] (.no (.le true (.vr 0) (.vr 1))) (by kernel_rfl)
theorem ar205 : (Int.toNat (((a:Nat):Int)+((b:Nat):Int)))=(a+b) := go [a, b] [] [] (.eq true (.tn (.ad (.ca (.vr 0)) (.ca (.vr 1)))) (.ad (.vr 0) (.vr 1))) (by kernel_rfl)
theorem ar206 : (0:Int)≤(((a:Nat):Int)+((b:Nat):Int)) := go [a, b] [] [] (.le false (.nu 0) (.ad (.ca (.vr 0)) (.ca (.vr 1)))) (by kernel_rfl)
theorem ar207 : c=(max d (e+b)) → a<e → (Int.toNat (((a:Nat):Int)+((b:Nat):Int)))<c := go [a, b, c, d, e] [] [(.eq true (.vr 2) (.ma (.vr 3) (.ad (.vr 4) (.vr 1)))), (.lt true (.vr 0) (.vr 4))] (.lt true (.tn (.ad (.ca (.vr 0)) (.ca (.vr 1)))) (.vr 2)) (by kernel_rfl)
theorem ar208 : ¬((a≤(b+a)∧(b+a)<(a+b))) := go [a, b] [] [] (.no (.an (.le true (.vr 0) (.ad (.vr 1) (.vr 0))) (.lt true (.ad (.vr 1) (.vr 0)) (.ad (.vr 0) (.vr 1))))) (by kernel_rfl)
theorem ar209 : (((c+a)+b)+1)≤65000000 → (a+b)≤130000000 := go [a, b, c] [] [(.le true (.ad (.ad (.ad (.vr 2) (.vr 0)) (.vr 1)) (.nu 1)) (.nu 65000000))] (.le true (.ad (.vr 0) (.vr 1)) (.nu 130000000)) (by kernel_rfl)
theorem ar210 : (((a+b)+c)+1)≤65000000 → (a+(b+c))≤130000000 := go [a, b, c] [] [(.le true (.ad (.ad (.ad (.vr 0) (.vr 1)) (.vr 2)) (.nu 1)) (.nu 65000000))] (.le true (.ad (.vr 0) (.ad (.vr 1) (.vr 2))) (.nu 130000000)) (by kernel_rfl)
theorem ar211 : c=(max d (e+b)) → a<e → (((a:Nat):Int)+((b:Nat):Int))<((c:Nat):Int) := go [a, b, c, d, e] [] [(.eq true (.vr 2) (.ma (.vr 3) (.ad (.vr 4) (.vr 1)))), (.lt true (.vr 0) (.vr 4))] (.lt false (.ad (.ca (.vr 0)) (.ca (.vr 1))) (.ca (.vr 2))) (by kernel_rfl)
theorem ar212 : a≤(a+3) := go [a] [] [] (.le true (.vr 0) (.ad (.vr 0) (.nu 3))) (by kernel_rfl)
theorem ar213 : ((a+(b+c))+1)≤(((a+b)+c)+1) := go [a, b, c] [] [] (.le true (.ad (.ad (.vr 0) (.ad (.vr 1) (.vr 2))) (.nu 1)) (.ad (.ad (.ad (.vr 0) (.vr 1)) (.vr 2)) (.nu 1))) (by kernel_rfl)
theorem ar214 : c=(max d (e+b)) → a<e → (a+b)<c := go [a, b, c, d, e] [] [(.eq true (.vr 2) (.ma (.vr 3) (.ad (.vr 4) (.vr 1)))), (.lt true (.vr 0) (.vr 4))] (.lt true (.ad (.vr 0) (.vr 1)) (.vr 2)) (by kernel_rfl)
theorem ar215 : (a≤(b+a)∧(b+a)<(a+(b+1))) := go [a, b] [] [] (.an (.le true (.vr 0) (.ad (.vr 1) (.vr 0))) (.lt true (.ad (.vr 1) (.vr 0)) (.ad (.vr 0) (.ad (.vr 1) (.nu 1))))) (by kernel_rfl)
theorem ar216 : (a≤b∧b<(a+c)) → (a≤b∧b<(a+(c+1))) := go [a, b, c] [] [(.an (.le true (.vr 0) (.vr 1)) (.lt true (.vr 1) (.ad (.vr 0) (.vr 2))))] (.an (.le true (.vr 0) (.vr 1)) (.lt true (.vr 1) (.ad (.vr 0) (.ad (.vr 2) (.nu 1))))) (by kernel_rfl)
theorem ar217 : ¬(b=(c+a)) → ¬((a≤b∧b<(a+c))) → ¬((a≤b∧b<(a+(c+1)))) := go [a, b, c] [] [(.no (.eq true (.vr 1) (.ad (.vr 2) (.vr 0)))), (.no (.an (.le true (.vr 0) (.vr 1)) (.lt true (.vr 1) (.ad (.vr 0) (.vr 2)))))] (.no (.an (.le true (.vr 0) (.vr 1)) (.lt true (.vr 1) (.ad (.vr 0) (.ad (.vr 2) (.nu 1)))))) (by kernel_rfl)
theorem ar218 : ((0+0)+1)=(0+1) := go [] [] [] (.eq true (.ad (.ad (.nu 0) (.nu 0)) (.nu 1)) (.ad (.nu 0) (.nu 1))) (by kernel_rfl)
theorem ar219 {P : Prop} : (a+1)<0 → P := by lia
theorem ar220 {P : Prop} : 1≤0 → P := by lia
theorem ar221 : (-(1000000:Int))≤(((a:Nat):Int)+(1:Int)) := go [a] [] [] (.le false (.ng (.nu 1000000)) (.ad (.ca (.vr 0)) (.nu 1))) (by kernel_rfl)
theorem ar222 : ((a+b)+c)=7 → (((a:Nat):Int)+(1:Int))≤(1000000:Int) := go [a, b, c] [] [(.eq true (.ad (.ad (.vr 0) (.vr 1)) (.vr 2)) (.nu 7))] (.le false (.ad (.ca (.vr 0)) (.nu 1)) (.nu 1000000)) (by kernel_rfl)
theorem ar223 : (Int.toNat ((((a:Nat):Int)+(1:Int))-(1:Int)))=a := go [a] [] [] (.eq true (.tn (.su (.ad (.ca (.vr 0)) (.nu 1)) (.nu 1))) (.vr 0)) (by kernel_rfl)
theorem ar224 : ((a+b)+c)=7 → a≤1000 := go [a, b, c] [] [(.eq true (.ad (.ad (.vr 0) (.vr 1)) (.vr 2)) (.nu 7))] (.le true (.vr 0) (.nu 1000)) (by kernel_rfl)
theorem ar225 : ((1:Int)+((a:Nat):Int))<((b:Nat):Int) → (Int.toNat ((1:Int)+((a:Nat):Int)))<b := go [a, b] [] [(.lt false (.ad (.nu 1) (.ca (.vr 0))) (.ca (.vr 1)))] (.lt true (.tn (.ad (.nu 1) (.ca (.vr 0)))) (.vr 1)) (by kernel_rfl)
theorem ar226 : ¬(((1:Int)+((b:Nat):Int))<((a:Nat):Int)) → a≤(b+1) := go [a, b] [] [(.no (.lt false (.ad (.nu 1) (.ca (.vr 1))) (.ca (.vr 0))))] (.le true (.vr 0) (.ad (.vr 1) (.nu 1))) (by kernel_rfl)
theorem ar227 : ((0:Int)+((a:Nat):Int))=((a:Nat):Int) := go [a] [] [] (.eq false (.ad (.nu 0) (.ca (.vr 0))) (.ca (.vr 0))) (by kernel_rfl)
theorem ar228 : b=6 → a<6 → a<b := go [a, b] [] [(.eq true (.vr 1) (.nu 6)), (.lt true (.vr 0) (.nu 6))] (.lt true (.vr 0) (.vr 1)) (by kernel_rfl)
theorem ar229 : a=6 → a≤1000 := go [a] [] [(.eq true (.vr 0) (.nu 6))] (.le true (.vr 0) (.nu 1000)) (by kernel_rfl)
theorem ar230 : a≤(b+1) → c<6 → ((b+d)+e)=(c+1) → a≤1000 := go [a, b, c, d, e] [] [(.le true (.vr 0) (.ad (.vr 1) (.nu 1))), (.lt true (.vr 2) (.nu 6)), (.eq true (.ad (.ad (.vr 1) (.vr 3)) (.vr 4)) (.ad (.vr 2) (.nu 1)))] (.le true (.vr 0) (.nu 1000)) (by kernel_rfl)
theorem ar231 : (8+a)≤65000000 → (8+a)≤65000000 := go [a] [] [(.le true (.ad (.nu 8) (.vr 0)) (.nu 65000000))] (.le true (.ad (.nu 8) (.vr 0)) (.nu 65000000)) (by kernel_rfl)
theorem ar232 : a<6 → (a+1)≤6 := go [a] [] [(.lt true (.vr 0) (.nu 6))] (.le true (.ad (.vr 0) (.nu 1)) (.nu 6)) (by kernel_rfl)
theorem ar233 : ((((a+a)+b)+b)+1)≤65000000 → (a+a)≤130000000 := go [a, b] [] [(.le true (.ad (.ad (.ad (.ad (.vr 0) (.vr 0)) (.vr 1)) (.vr 1)) (.nu 1)) (.nu 65000000))] (.le true (.ad (.vr 0) (.vr 0)) (.nu 130000000)) (by kernel_rfl)
theorem ar234 : a≤(b+1) → c<6 → ((b+d)+e)=(c+1) → a≤100 := go [a, b, c, d, e] [] [(.le true (.vr 0) (.ad (.vr 1) (.nu 1))), (.lt true (.vr 2) (.nu 6)), (.eq true (.ad (.ad (.vr 1) (.vr 3)) (.vr 4)) (.ad (.vr 2) (.nu 1)))] (.le true (.vr 0) (.nu 100)) (by kernel_rfl)
theorem ar235 : a≤(b+1) → c<6 → ((d+b)+e)=(c+1) → a≤100 := go [a, b, c, d, e] [] [(.le true (.vr 0) (.ad (.vr 1) (.nu 1))), (.lt true (.vr 2) (.nu 6)), (.eq true (.ad (.ad (.vr 3) (.vr 1)) (.vr 4)) (.ad (.vr 2) (.nu 1)))] (.le true (.vr 0) (.nu 100)) (by kernel_rfl)
theorem ar236 : b<6 → ((c+d)+a)=(b+1) → a≤100 := go [a, b, c, d] [] [(.lt true (.vr 1) (.nu 6)), (.eq true (.ad (.ad (.vr 2) (.vr 3)) (.vr 0)) (.ad (.vr 1) (.nu 1)))] (.le true (.vr 0) (.nu 100)) (by kernel_rfl)
theorem ar237 : ((((b+b)+a)+a)+1)≤65000000 → (((a+(b+b))+a)+1)≤65000000 := go [a, b] [] [(.le true (.ad (.ad (.ad (.ad (.vr 1) (.vr 1)) (.vr 0)) (.vr 0)) (.nu 1)) (.nu 65000000))] (.le true (.ad (.ad (.ad (.vr 0) (.ad (.vr 1) (.vr 1))) (.vr 0)) (.nu 1)) (.nu 65000000)) (by kernel_rfl)
theorem ar238 : (((a+(b+b))+a)+1)≤(((2*a)+(2*b))+1) := go [a, b] [] [] (.le true (.ad (.ad (.ad (.vr 0) (.ad (.vr 1) (.vr 1))) (.vr 0)) (.nu 1)) (.ad (.ad (.ml 2 (.vr 0)) (.ml 2 (.vr 1))) (.nu 1))) (by kernel_rfl)
theorem ar239 : 1≤b → a=(max c (d+b)) → 0<a := go [a, b, c, d] [] [(.le true (.nu 1) (.vr 1)), (.eq true (.vr 0) (.ma (.vr 2) (.ad (.vr 3) (.vr 1))))] (.lt true (.nu 0) (.vr 0)) (by kernel_rfl)
theorem ar240 : ((2:Int)*((b:Nat):Int))≤((a:Nat):Int) → ((((a:Nat):Int)+(1:Int))-((b:Nat):Int))=((((a+1)-b):Nat):Int) := go [a, b] [] [(.le false (.ml 2 (.ca (.vr 1))) (.ca (.vr 0)))] (.eq false (.su (.ad (.ca (.vr 0)) (.nu 1)) (.ca (.vr 1))) (.ca (.su (.ad (.vr 0) (.nu 1)) (.vr 1)))) (by kernel_rfl)
theorem ar241  : d≤(c+1) → e≤(f+1) → ((c+f)+g)=(b+1) → a=(max d (e+g)) → ((2:Int)*((c:Nat):Int))≤((b:Nat):Int) → a≤(((b+1)-c)+1) := by lia
theorem ar242 : a≤(b+1) → a≤(b+1) := go [a, b] [] [(.le true (.vr 0) (.ad (.vr 1) (.nu 1)))] (.le true (.vr 0) (.ad (.vr 1) (.nu 1))) (by kernel_rfl)
theorem ar243 : ((2:Int)*((a:Nat):Int))≤((b:Nat):Int) → (2*a)≤b := go [a, b] [] [(.le false (.ml 2 (.ca (.vr 0))) (.ca (.vr 1)))] (.le true (.ml 2 (.vr 0)) (.vr 1)) (by kernel_rfl)
theorem ar244  : c≤(b+1) → d≤(e+1) → ((b+e)+f)=(g+1) → a=(max c (d+f)) → ¬(((2:Int)*((b:Nat):Int))≤((g:Nat):Int)) → a≤(b+1) := by lia
theorem ar245 : ¬(((2:Int)*((b:Nat):Int))≤((a:Nat):Int)) → a<(2*b) := go [a, b] [] [(.no (.le false (.ml 2 (.ca (.vr 1))) (.ca (.vr 0))))] (.lt true (.vr 0) (.ml 2 (.vr 1))) (by kernel_rfl)
theorem ar246 : ¬(((a:Nat):Int)<(0:Int)) := go [a] [] [] (.no (.lt false (.ca (.vr 0)) (.nu 0))) (by kernel_rfl)
theorem ar247 : a≤b → (Int.toNat (max (0:Int) (min ((a:Nat):Int) ((b:Nat):Int))))=a := go [a, b] [] [(.le true (.vr 0) (.vr 1))] (.eq true (.tn (.ma (.nu 0) (.mi (.ca (.vr 0)) (.ca (.vr 1))))) (.vr 0)) (by kernel_rfl)
theorem ar248 : (Int.toNat (max (0:Int) (min ((-(1:Int))+((a:Nat):Int)) ((a:Nat):Int))))=(a-1) := go [a] [] [] (.eq true (.tn (.ma (.nu 0) (.mi (.ad (.ng (.nu 1)) (.ca (.vr 0))) (.ca (.vr 0))))) (.su (.vr 0) (.nu 1))) (by kernel_rfl)
theorem ar249 : ¬((0:Int)<((a:Nat):Int)) → a=0 := go [a] [] [(.no (.lt false (.nu 0) (.ca (.vr 0))))] (.eq true (.vr 0) (.nu 0)) (by kernel_rfl)
theorem ar250 : (0:Int)<((a:Nat):Int) → (0:Int)≤(((a:Nat):Int)-(1:Int)) := go [a] [] [(.lt false (.nu 0) (.ca (.vr 0)))] (.le false (.nu 0) (.su (.ca (.vr 0)) (.nu 1))) (by kernel_rfl)
theorem ar251 : a≤b → (0:Int)<((a:Nat):Int) → (Int.toNat (((a:Nat):Int)-(1:Int)))<b := go [a, b] [] [(.le true (.vr 0) (.vr 1)), (.lt false (.nu 0) (.ca (.vr 0)))] (.lt true (.tn (.su (.ca (.vr 0)) (.nu 1))) (.vr 1)) (by kernel_rfl)
theorem ar252 : (Int.toNat (((a:Nat):Int)-(1:Int)))=(a-1) := go [a] [] [] (.eq true (.tn (.su (.ca (.vr 0)) (.nu 1))) (.su (.vr 0) (.nu 1))) (by kernel_rfl)
theorem ar253 : (0:Int)<((a:Nat):Int) → (a-1)<a := go [a] [] [(.lt false (.nu 0) (.ca (.vr 0)))] (.lt true (.su (.vr 0) (.nu 1)) (.vr 0)) (by kernel_rfl)
theorem ar254 : (0:Int)<((a:Nat):Int) → (((a:Nat):Int)-(1:Int))=(((a-1):Nat):Int) := go [a] [] [(.lt false (.nu 0) (.ca (.vr 0)))] (.eq false (.su (.ca (.vr 0)) (.nu 1)) (.ca (.su (.vr 0) (.nu 1)))) (by kernel_rfl)
theorem ar255 : a≤b → (a-1)≤b := go [a, b] [] [(.le true (.vr 0) (.vr 1))] (.le true (.su (.vr 0) (.nu 1)) (.vr 1)) (by kernel_rfl)
theorem ar256 : (a-1)≤b → ¬(b=(a-1)) → a≤b := go [a, b] [] [(.le true (.su (.vr 0) (.nu 1)) (.vr 1)), (.no (.eq true (.vr 1) (.su (.vr 0) (.nu 1))))] (.le true (.vr 0) (.vr 1)) (by kernel_rfl)
theorem ar257 : (min a b)≤b := go [a, b] [] [] (.le true (.mi (.vr 0) (.vr 1)) (.vr 1)) (by kernel_rfl)
theorem ar258 : 0<a → (a-1)<a := go [a] [] [(.lt true (.nu 0) (.vr 0))] (.lt true (.su (.vr 0) (.nu 1)) (.vr 0)) (by kernel_rfl)
theorem ar259 : (-(1000000:Int))≤(max ((a:Nat):Int) ((b:Nat):Int)) := go [a, b] [] [] (.le false (.ng (.nu 1000000)) (.ma (.ca (.vr 0)) (.ca (.vr 1)))) (by kernel_rfl)
theorem ar260 : a≤100 → b≤100 → (max ((a:Nat):Int) ((b:Nat):Int))≤(1000000:Int) := go [a, b] [] [(.le true (.vr 0) (.nu 100)), (.le true (.vr 1) (.nu 100))] (.le false (.ma (.ca (.vr 0)) (.ca (.vr 1))) (.nu 1000000)) (by kernel_rfl)
theorem ar261 : (Int.toNat (max ((a:Nat):Int) ((b:Nat):Int)))=(max a b) := go [a, b] [] [] (.eq true (.tn (.ma (.ca (.vr 0)) (.ca (.vr 1)))) (.ma (.vr 0) (.vr 1))) (by kernel_rfl)
theorem ar262 : a≤100 → b≤100 → (max a b)≤1000 := go [a, b] [] [(.le true (.vr 0) (.nu 100)), (.le true (.vr 1) (.nu 100))] (.le true (.ma (.vr 0) (.vr 1)) (.nu 1000)) (by kernel_rfl)
theorem ar263 : ((a+b)+1)≤130000000 → (a+b)≤130000000 := go [a, b] [] [(.le true (.ad (.ad (.vr 0) (.vr 1)) (.nu 1)) (.nu 130000000))] (.le true (.ad (.vr 0) (.vr 1)) (.nu 130000000)) (by kernel_rfl)
theorem ar264 : (Int.toNat ((a:Nat):Int))=a := go [a] [] [] (.eq true (.tn (.ca (.vr 0))) (.vr 0)) (by kernel_rfl)
theorem ar265 : ((a:Nat):Int)<((b:Nat):Int) → (Int.toNat ((a:Nat):Int))<b := go [a, b] [] [(.lt false (.ca (.vr 0)) (.ca (.vr 1)))] (.lt true (.tn (.ca (.vr 0))) (.vr 1)) (by kernel_rfl)
theorem ar266 : a<b → (Int.toNat ((a:Nat):Int))<b := go [a, b] [] [(.lt true (.vr 0) (.vr 1))] (.lt true (.tn (.ca (.vr 0))) (.vr 1)) (by kernel_rfl)
theorem ar267 : a≤b → a≤b := go [a, b] [] [(.le true (.vr 0) (.vr 1))] (.le true (.vr 0) (.vr 1)) (by kernel_rfl)
theorem ar268 : ¬(((b:Nat):Int)<((a:Nat):Int)) → a≤b := go [a, b] [] [(.no (.lt false (.ca (.vr 1)) (.ca (.vr 0))))] (.le true (.vr 0) (.vr 1)) (by kernel_rfl)
theorem ar269 : a≤100 → b≤100 → (max a b)≤100 := go [a, b] [] [(.le true (.vr 0) (.nu 100)), (.le true (.vr 1) (.nu 100))] (.le true (.ma (.vr 0) (.vr 1)) (.nu 100)) (by kernel_rfl)
theorem ar270 : ¬(b<(max a c)) → a≤b := go [a, b, c] [] [(.no (.lt true (.vr 1) (.ma (.vr 0) (.vr 2))))] (.le true (.vr 0) (.vr 1)) (by kernel_rfl)
theorem ar271 : ¬(b<(max c a)) → a≤b := go [a, b, c] [] [(.no (.lt true (.vr 1) (.ma (.vr 2) (.vr 0))))] (.le true (.vr 0) (.vr 1)) (by kernel_rfl)
theorem ar272 : a≤100 → a≤1000 := go [a] [] [(.le true (.vr 0) (.nu 100))] (.le true (.vr 0) (.nu 1000)) (by kernel_rfl)
theorem ar273 : a≤100 → (1*a)≤256 := go [a] [] [(.le true (.vr 0) (.nu 100))] (.le true (.ml 1 (.vr 0)) (.nu 256)) (by kernel_rfl)
theorem ar274 : (-(1000:Int))≤((a:Nat):Int) := go [a] [] [] (.le false (.ng (.nu 1000)) (.ca (.vr 0))) (by kernel_rfl)
theorem ar275 : a≤100 → ((a:Nat):Int)≤(1000:Int) := go [a] [] [(.le true (.vr 0) (.nu 100))] (.le false (.ca (.vr 0)) (.nu 1000)) (by kernel_rfl)
theorem ar276 : b≤100 → a≤100 → (a+b)≤1000 := go [a, b] [] [(.le true (.vr 1) (.nu 100)), (.le true (.vr 0) (.nu 100))] (.le true (.ad (.vr 0) (.vr 1)) (.nu 1000)) (by kernel_rfl)
theorem ar277 : (a+b)≤(b+a) := go [a, b] [] [] (.le true (.ad (.vr 0) (.vr 1)) (.ad (.vr 1) (.vr 0))) (by kernel_rfl)
theorem ar278 : a≤(max a (b+1)) := go [a, b] [] [] (.le true (.vr 0) (.ma (.vr 0) (.ad (.vr 1) (.nu 1)))) (by kernel_rfl)
theorem ar279 : (a+1)≤(max b (a+1)) := go [a, b] [] [] (.le true (.ad (.vr 0) (.nu 1)) (.ma (.vr 1) (.ad (.vr 0) (.nu 1)))) (by kernel_rfl)
theorem ar280 : (b+1)≤a → ¬(a≤b) := go [a, b] [] [(.le true (.ad (.vr 1) (.nu 1)) (.vr 0))] (.no (.le true (.vr 0) (.vr 1))) (by kernel_rfl)
theorem ar281 : a≤20 → b≤20 → (1*(Int.toNat ((((a:Nat):Int)+((b:Nat):Int))-(1:Int))))≤256 := go [a, b] [] [(.le true (.vr 0) (.nu 20)), (.le true (.vr 1) (.nu 20))] (.le true (.ml 1 (.tn (.su (.ad (.ca (.vr 0)) (.ca (.vr 1))) (.nu 1)))) (.nu 256)) (by kernel_rfl)
theorem ar282 : (-(1000:Int))≤((((a:Nat):Int)+((b:Nat):Int))-(1:Int)) := go [a, b] [] [] (.le false (.ng (.nu 1000)) (.su (.ad (.ca (.vr 0)) (.ca (.vr 1))) (.nu 1))) (by kernel_rfl)
theorem ar283 : a≤20 → b≤20 → ((((a:Nat):Int)+((b:Nat):Int))-(1:Int))≤(1000:Int) := go [a, b] [] [(.le true (.vr 0) (.nu 20)), (.le true (.vr 1) (.nu 20))] (.le false (.su (.ad (.ca (.vr 0)) (.ca (.vr 1))) (.nu 1)) (.nu 1000)) (by kernel_rfl)
theorem ar284 : (Int.toNat ((((a:Nat):Int)+((b:Nat):Int))-(1:Int)))=((a+b)-1) := go [a, b] [] [] (.eq true (.tn (.su (.ad (.ca (.vr 0)) (.ca (.vr 1))) (.nu 1))) (.su (.ad (.vr 0) (.vr 1)) (.nu 1))) (by kernel_rfl)
theorem ar285 : ¬(((a:Nat):Int)=(0:Int)) → ¬(((b:Nat):Int)=(0:Int)) → ¬((a=0∨b=0)) := go [a, b] [] [(.no (.eq false (.ca (.vr 0)) (.nu 0))), (.no (.eq false (.ca (.vr 1)) (.nu 0)))] (.no (.or (.eq true (.vr 0) (.nu 0)) (.eq true (.vr 1) (.nu 0)))) (by kernel_rfl)
theorem ar286 : 1≤(1+(0*((a+b)+1))) := go [a, b] [] [] (.le true (.nu 1) (.ad (.nu 1) (.ml 0 (.ad (.ad (.vr 0) (.vr 1)) (.nu 1))))) (by kernel_rfl)
theorem ar287 : 1≤(1+a) := go [a] [] [] (.le true (.nu 1) (.ad (.nu 1) (.vr 0))) (by kernel_rfl)
theorem ar288 : c≤b → ¬((c≤b∧b<(c+a))) → a≤(b-c) := go [a, b, c] [] [(.le true (.vr 2) (.vr 1)), (.no (.an (.le true (.vr 2) (.vr 1)) (.lt true (.vr 1) (.ad (.vr 2) (.vr 0)))))] (.le true (.vr 0) (.su (.vr 1) (.vr 2))) (by kernel_rfl)
theorem ar289  : a<d → c=((d+e)-1) → b<e → (Int.toNat (((a:Nat):Int)+((b:Nat):Int)))<c := by omega
theorem ar290 : b≤20 → a<b → (a+1)≤20 := go [a, b] [] [(.le true (.vr 1) (.nu 20)), (.lt true (.vr 0) (.vr 1))] (.le true (.ad (.vr 0) (.nu 1)) (.nu 20)) (by kernel_rfl)
theorem ar291 : (1+(20*((a+b)+1)))≤65000000 → (a+b)≤130000000 := go [a, b] [] [(.le true (.ad (.nu 1) (.ml 20 (.ad (.ad (.vr 0) (.vr 1)) (.nu 1)))) (.nu 65000000))] (.le true (.ad (.vr 0) (.vr 1)) (.nu 130000000)) (by kernel_rfl)
theorem ar292 : (1+(20*((b+c)+1)))≤65000000 → d=(a+((b+c)+1)) → d≤(20*((b+c)+1)) → ((1+a)+(b+c))≤130000000 := go [a, b, c, d] [] [(.le true (.ad (.nu 1) (.ml 20 (.ad (.ad (.vr 1) (.vr 2)) (.nu 1)))) (.nu 65000000)), (.eq true (.vr 3) (.ad (.vr 0) (.ad (.ad (.vr 1) (.vr 2)) (.nu 1)))), (.le true (.vr 3) (.ml 20 (.ad (.ad (.vr 1) (.vr 2)) (.nu 1))))] (.le true (.ad (.ad (.nu 1) (.vr 0)) (.ad (.vr 1) (.vr 2))) (.nu 130000000)) (by kernel_rfl)
theorem ar293 : a<d → c=((d+e)-1) → b<e → (((a:Nat):Int)+((b:Nat):Int))<((c:Nat):Int) := go [a, b, c, d, e] [] [(.lt true (.vr 0) (.vr 3)), (.eq true (.vr 2) (.su (.ad (.vr 3) (.vr 4)) (.nu 1))), (.lt true (.vr 1) (.vr 4))] (.lt false (.ad (.ca (.vr 0)) (.ca (.vr 1))) (.ca (.vr 2))) (by kernel_rfl)
theorem ar294 : d=(a+((b+c)+1)) → (((1+a)+(b+c))+1)≤(1+d) := go [a, b, c, d] [] [(.eq true (.vr 3) (.ad (.vr 0) (.ad (.ad (.vr 1) (.vr 2)) (.nu 1))))] (.le true (.ad (.ad (.ad (.nu 1) (.vr 0)) (.ad (.vr 1) (.vr 2))) (.nu 1)) (.ad (.nu 1) (.vr 3))) (by kernel_rfl)
theorem ar295 : a<d → c=((d+e)-1) → b<e → (a+b)<c := go [a, b, c, d, e] [] [(.lt true (.vr 0) (.vr 3)), (.eq true (.vr 2) (.su (.ad (.vr 3) (.vr 4)) (.nu 1))), (.lt true (.vr 1) (.vr 4))] (.lt true (.ad (.vr 0) (.vr 1)) (.vr 2)) (by kernel_rfl)
theorem ar296 : (b+(c+1))≤a → ¬(a=(b+c)) := go [a, b, c] [] [(.le true (.ad (.vr 1) (.ad (.vr 2) (.nu 1))) (.vr 0))] (.no (.eq true (.vr 0) (.ad (.vr 1) (.vr 2)))) (by kernel_rfl)
theorem ar297 : (a+(b+1))≤c → (a+b)≤c := go [a, b, c] [] [(.le true (.ad (.vr 0) (.ad (.vr 1) (.nu 1))) (.vr 2))] (.le true (.ad (.vr 0) (.vr 1)) (.vr 2)) (by kernel_rfl)
theorem ar298 : (a≤(a+b)∧(a+b)<(a+(b+1))) := go [a, b] [] [] (.an (.le true (.vr 0) (.ad (.vr 0) (.vr 1))) (.lt true (.ad (.vr 0) (.vr 1)) (.ad (.vr 0) (.ad (.vr 1) (.nu 1))))) (by kernel_rfl)
theorem ar299 : ¬((a≤(a+b)∧(a+b)<(a+b))) := go [a, b] [] [] (.no (.an (.le true (.vr 0) (.ad (.vr 0) (.vr 1))) (.lt true (.ad (.vr 0) (.vr 1)) (.ad (.vr 0) (.vr 1))))) (by kernel_rfl)
theorem ar300 : ¬(b=(a+c)) → ¬((a≤b∧b<(a+c))) → ¬((a≤b∧b<(a+(c+1)))) := go [a, b, c] [] [(.no (.eq true (.vr 1) (.ad (.vr 0) (.vr 2)))), (.no (.an (.le true (.vr 0) (.vr 1)) (.lt true (.vr 1) (.ad (.vr 0) (.vr 2)))))] (.no (.an (.le true (.vr 0) (.vr 1)) (.lt true (.vr 1) (.ad (.vr 0) (.ad (.vr 2) (.nu 1)))))) (by kernel_rfl)
theorem ar301 : a≤b → a≤(((2*b)+(2*c))+1) := go [a, b, c] [] [(.le true (.vr 0) (.vr 1))] (.le true (.vr 0) (.ad (.ad (.ml 2 (.vr 1)) (.ml 2 (.vr 2))) (.nu 1))) (by kernel_rfl)
theorem ar302 : 0<a → ¬(a=0) := go [a] [] [(.lt true (.nu 0) (.vr 0))] (.no (.eq true (.vr 0) (.nu 0))) (by kernel_rfl)
theorem ar303 {P : Prop} : a≤(b+0) → b<a → P := by lia
theorem ar304 : ¬(a=b) → b≤a → ¬((a-b)=0) := go [a, b] [] [(.no (.eq true (.vr 0) (.vr 1))), (.le true (.vr 1) (.vr 0))] (.no (.eq true (.su (.vr 0) (.vr 1)) (.nu 0))) (by kernel_rfl)
theorem ar305 : (b+c)=d → ¬(a<(d-1)) → ¬((a-b)<(c-1)) := go [a, b, c, d] [] [(.eq true (.ad (.vr 1) (.vr 2)) (.vr 3)), (.no (.lt true (.vr 0) (.su (.vr 3) (.nu 1))))] (.no (.lt true (.su (.vr 0) (.vr 1)) (.su (.vr 2) (.nu 1)))) (by kernel_rfl)
theorem ar306  : (b+c)=d → a=(d-1) → (a-b)=(c-1) := by omega
theorem ar307 : ¬(b<(a-1)) → ¬(b=(a-1)) → a≤b := go [a, b] [] [(.no (.lt true (.vr 1) (.su (.vr 0) (.nu 1)))), (.no (.eq true (.vr 1) (.su (.vr 0) (.nu 1))))] (.le true (.vr 0) (.vr 1)) (by kernel_rfl)
theorem ar308 : 0<c → (d+c)=b → ¬(d≤a) → a<(b-1) := go [a, b, c, d] [] [(.lt true (.nu 0) (.vr 2)), (.eq true (.ad (.vr 3) (.vr 2)) (.vr 1)), (.no (.le true (.vr 3) (.vr 0)))] (.lt true (.vr 0) (.su (.vr 1) (.nu 1))) (by kernel_rfl)
theorem ar309 : a≤b → ¬(a=b) → a≤(b-1) := go [a, b] [] [(.le true (.vr 0) (.vr 1)), (.no (.eq true (.vr 0) (.vr 1)))] (.le true (.vr 0) (.su (.vr 1) (.nu 1))) (by kernel_rfl)
theorem ar310 : b≤a → ¬(b=a) → 0<a := go [a, b] [] [(.le true (.vr 1) (.vr 0)), (.no (.eq true (.vr 1) (.vr 0)))] (.lt true (.nu 0) (.vr 0)) (by kernel_rfl)
theorem ar311 : 0<a → ((a:Nat):Int)=(0:Int) → False := go [a] [] [(.lt true (.nu 0) (.vr 0)), (.eq false (.ca (.vr 0)) (.nu 0))] .f (by kernel_rfl)
theorem ar312 : a≤20 → (1*(Int.toNat (max (0:Int) ((((a:Nat):Int)-((b:Nat):Int))+(1:Int)))))≤256 := go [a, b] [] [(.le true (.vr 0) (.nu 20))] (.le true (.ml 1 (.tn (.ma (.nu 0) (.ad (.su (.ca (.vr 0)) (.ca (.vr 1))) (.nu 1))))) (.nu 256)) (by kernel_rfl)
theorem ar313 : (-(1000:Int))≤(max (0:Int) ((((a:Nat):Int)-((b:Nat):Int))+(1:Int))) := go [a, b] [] [] (.le false (.ng (.nu 1000)) (.ma (.nu 0) (.ad (.su (.ca (.vr 0)) (.ca (.vr 1))) (.nu 1)))) (by kernel_rfl)
theorem ar314 : a≤20 → (max (0:Int) ((((a:Nat):Int)-((b:Nat):Int))+(1:Int)))≤(1000:Int) := go [a, b] [] [(.le true (.vr 0) (.nu 20))] (.le false (.ma (.nu 0) (.ad (.su (.ca (.vr 0)) (.ca (.vr 1))) (.nu 1))) (.nu 1000)) (by kernel_rfl)
theorem ar315 : (Int.toNat (max (0:Int) ((((a:Nat):Int)-((b:Nat):Int))+(1:Int))))=((a+1)-b) := go [a, b] [] [] (.eq true (.tn (.ma (.nu 0) (.ad (.su (.ca (.vr 0)) (.ca (.vr 1))) (.nu 1)))) (.su (.ad (.vr 0) (.nu 1)) (.vr 1))) (by kernel_rfl)
theorem ar316 : a≤(a+2) := go [a] [] [] (.le true (.vr 0) (.ad (.vr 0) (.nu 2))) (by kernel_rfl)
theorem ar317 : a≠(a+2) := go [a] [] [] (.ne true (.vr 0) (.ad (.vr 0) (.nu 2))) (by kernel_rfl)
theorem ar318 : (0+a)≤a := go [a] [] [] (.le true (.ad (.nu 0) (.vr 0)) (.vr 0)) (by kernel_rfl)
theorem ar319 : 0≤((a+1)-b) := go [a, b] [] [] (.le true (.nu 0) (.su (.ad (.vr 0) (.nu 1)) (.vr 1))) (by kernel_rfl)
theorem ar320 : 1≤b → 1≤(a+b) := go [a, b] [] [(.le true (.nu 1) (.vr 1))] (.le true (.nu 1) (.ad (.vr 0) (.vr 1))) (by kernel_rfl)
theorem ar321 : ¬(((b:Nat):Int)≤((a:Nat):Int)) → a<b := go [a, b] [] [(.no (.le false (.ca (.vr 1)) (.ca (.vr 0))))] (.lt true (.vr 0) (.vr 1)) (by kernel_rfl)
theorem ar322 : b≤20 → a=((b+1)-c) → a≤100 := go [a, b, c] [] [(.le true (.vr 1) (.nu 20)), (.eq true (.vr 0) (.su (.ad (.vr 1) (.nu 1)) (.vr 2)))] (.le true (.vr 0) (.nu 100)) (by kernel_rfl)
theorem ar323 {P : Prop} : a=((b+1)-c) → ¬(((c:Nat):Int)≤((d:Nat):Int)) → 0<a → d=b → P := by omega
theorem ar324 : (((a+1)-b)-1)=(a-b) := go [a, b] [] [] (.eq true (.su (.su (.ad (.vr 0) (.nu 1)) (.vr 1)) (.nu 1)) (.su (.vr 0) (.vr 1))) (by kernel_rfl)
theorem ar325 : a≤((b+1)-c) → a≤((b+1)-c) := go [a, b, c] [] [(.le true (.vr 0) (.su (.ad (.vr 1) (.nu 1)) (.vr 2)))] (.le true (.vr 0) (.su (.ad (.vr 1) (.nu 1)) (.vr 2))) (by kernel_rfl)
theorem ar326 : ((a:Nat):Int)≤((b:Nat):Int) → a≤b := go [a, b] [] [(.le false (.ca (.vr 0)) (.ca (.vr 1)))] (.le true (.vr 0) (.vr 1)) (by kernel_rfl)
theorem ar327 : 0<b → ((b:Nat):Int)≤((a:Nat):Int) → 0<a := go [a, b] [] [(.lt true (.nu 0) (.vr 1)), (.le false (.ca (.vr 1)) (.ca (.vr 0)))] (.lt true (.nu 0) (.vr 0)) (by kernel_rfl)
theorem ar328 : (a+d)≤b → ((c:Nat):Int)≤((d:Nat):Int) → (a+1)≤((b+1)-c) := go [a, b, c, d] [] [(.le true (.ad (.vr 0) (.vr 3)) (.vr 1)), (.le false (.ca (.vr 2)) (.ca (.vr 3)))] (.le true (.ad (.vr 0) (.nu 1)) (.su (.ad (.vr 1) (.nu 1)) (.vr 2))) (by kernel_rfl)
theorem ar329 : (2*(c+b))≤60000000 → d≤c → d=(((2*a)+(2*b))+1) → (a+b)≤130000000 := go [a, b, c, d] [] [(.le true (.ml 2 (.ad (.vr 2) (.vr 1))) (.nu 60000000)), (.le true (.vr 3) (.vr 2)), (.eq true (.vr 3) (.ad (.ad (.ml 2 (.vr 0)) (.ml 2 (.vr 1))) (.nu 1)))] (.le true (.ad (.vr 0) (.vr 1)) (.nu 130000000)) (by kernel_rfl)
theorem ar330 : ((b:Nat):Int)≤((a:Nat):Int) → (0:Int)≤(((a:Nat):Int)-((b:Nat):Int)) := go [a, b] [] [(.le false (.ca (.vr 1)) (.ca (.vr 0)))] (.le false (.nu 0) (.su (.ca (.vr 0)) (.ca (.vr 1)))) (by kernel_rfl)
theorem ar331 {P : Prop} : c=((d+1)-b) → (a=d∨(a<d∧P)) → (((a:Nat):Int)-((b:Nat):Int))<((c:Nat):Int) := by omega
theorem ar332 : (Int.toNat (((a:Nat):Int)-((b:Nat):Int)))=(a-b) := go [a, b] [] [] (.eq true (.tn (.su (.ca (.vr 0)) (.ca (.vr 1)))) (.su (.vr 0) (.vr 1))) (by kernel_rfl)
theorem ar333 : ((b:Nat):Int)≤((a:Nat):Int) → ((a-b)+b)≤a := go [a, b] [] [(.le false (.ca (.vr 1)) (.ca (.vr 0)))] (.le true (.ad (.su (.vr 0) (.vr 1)) (.vr 1)) (.vr 0)) (by kernel_rfl)
theorem ar334 : a≤20 → a≤101 := go [a] [] [(.le true (.vr 0) (.nu 20))] (.le true (.vr 0) (.nu 101)) (by kernel_rfl)
theorem ar335 : (2*(c+a))≤60000000 → d≤c → d=(((2*b)+(2*a))+1) → (a+(b+a))≤130000000 := go [a, b, c, d] [] [(.le true (.ml 2 (.ad (.vr 2) (.vr 0))) (.nu 60000000)), (.le true (.vr 3) (.vr 2)), (.eq true (.vr 3) (.ad (.ad (.ml 2 (.vr 1)) (.ml 2 (.vr 0))) (.nu 1)))] (.le true (.ad (.vr 0) (.ad (.vr 1) (.vr 0))) (.nu 130000000)) (by kernel_rfl)
theorem ar336 : ((b:Nat):Int)≤((a:Nat):Int) → (((a:Nat):Int)-((b:Nat):Int))=(((a-b):Nat):Int) := go [a, b] [] [(.le false (.ca (.vr 1)) (.ca (.vr 0)))] (.eq false (.su (.ca (.vr 0)) (.ca (.vr 1))) (.ca (.su (.vr 0) (.vr 1)))) (by kernel_rfl)
theorem ar337 : b≤20 → a=(b-1) → a≤100 := go [a, b] [] [(.le true (.vr 1) (.nu 20)), (.eq true (.vr 0) (.su (.vr 1) (.nu 1)))] (.le true (.vr 0) (.nu 100)) (by kernel_rfl)
theorem ar338 : c≤20 → (d+a)≤c → (a-b)≤100 := go [a, b, c, d] [] [(.le true (.vr 2) (.nu 20)), (.le true (.ad (.vr 3) (.vr 0)) (.vr 2))] (.le true (.su (.vr 0) (.vr 1)) (.nu 100)) (by kernel_rfl)
theorem ar339 : b≤20 → (c+a)≤b → a≤101 := go [a, b, c] [] [(.le true (.vr 1) (.nu 20)), (.le true (.ad (.vr 2) (.vr 0)) (.vr 1))] (.le true (.vr 0) (.nu 101)) (by kernel_rfl)
theorem ar340  : b≤20 → (c+d)≤b → ((e:Nat):Int)≤((d:Nat):Int) → f=(e-1) → a≤(f+(d-e)) → a≤100 := by lia
theorem ar341 : 1≤a → 1≤(a+(b+a)) := go [a, b] [] [(.le true (.nu 1) (.vr 0))] (.le true (.nu 1) (.ad (.vr 0) (.ad (.vr 1) (.vr 0)))) (by kernel_rfl)
theorem ar342 : (2*(c+b))≤60000000 → d≤c → d=(((2*a)+(2*b))+1) → ((a+(b+(a+b)))+1)≤130000000 := go [a, b, c, d] [] [(.le true (.ml 2 (.ad (.vr 2) (.vr 1))) (.nu 60000000)), (.le true (.vr 3) (.vr 2)), (.eq true (.vr 3) (.ad (.ad (.ml 2 (.vr 0)) (.ml 2 (.vr 1))) (.nu 1)))] (.le true (.ad (.ad (.vr 0) (.ad (.vr 1) (.ad (.vr 0) (.vr 1)))) (.nu 1)) (.nu 130000000)) (by kernel_rfl)
theorem ar343  : 0<c → ((c:Nat):Int)≤((b:Nat):Int) → d=(c-1) → e≤(d+(b-c)) → a≤(max (b-1) e) → a≤(b-1) := by lia
theorem ar344 : ((b:Nat):Int)≤((a:Nat):Int) → ((a-b)+b)=a := go [a, b] [] [(.le false (.ca (.vr 1)) (.ca (.vr 0)))] (.eq true (.ad (.su (.vr 0) (.vr 1)) (.vr 1)) (.vr 0)) (by kernel_rfl)
theorem ar345 {P : Prop} : c=((d+1)-b) → (a=d∨(a<d∧P)) → ((b:Nat):Int)≤((a:Nat):Int) → (a-b)<c := by omega
theorem ar346 : 0<b → c≤a → ((b:Nat):Int)≤((c:Nat):Int) → (a-1)<a := go [a, b, c] [] [(.lt true (.nu 0) (.vr 1)), (.le true (.vr 2) (.vr 0)), (.le false (.ca (.vr 1)) (.ca (.vr 2)))] (.lt true (.su (.vr 0) (.nu 1)) (.vr 0)) (by kernel_rfl)
theorem ar347 : c≤a → b<d → (d+2)≤c → a≠b := go [a, b, c, d] [] [(.le true (.vr 2) (.vr 0)), (.lt true (.vr 1) (.vr 3)), (.le true (.ad (.vr 3) (.nu 2)) (.vr 2))] (.ne true (.vr 0) (.vr 1)) (by kernel_rfl)
theorem ar348 : c≤b → a≤(c-1) → a≤(b-1) := go [a, b, c] [] [(.le true (.vr 2) (.vr 1)), (.le true (.vr 0) (.su (.vr 2) (.nu 1)))] (.le true (.vr 0) (.su (.vr 1) (.nu 1))) (by kernel_rfl)
theorem ar349 : 0<d → (a+e)≤c → ((d:Nat):Int)≤((e:Nat):Int) → b≤(e-1) → ((a+1)+b)≤c := go [a, b, c, d, e] [] [(.lt true (.nu 0) (.vr 3)), (.le true (.ad (.vr 0) (.vr 4)) (.vr 2)), (.le false (.ca (.vr 3)) (.ca (.vr 4))), (.le true (.vr 1) (.su (.vr 4) (.nu 1)))] (.le true (.ad (.ad (.vr 0) (.nu 1)) (.vr 1)) (.vr 2)) (by kernel_rfl)
theorem ar350 : c=(((2*a)+(2*b))+1) → ((a+(b+(a+b)))+1)≤c := go [a, b, c] [] [(.eq true (.vr 2) (.ad (.ad (.ml 2 (.vr 0)) (.ml 2 (.vr 1))) (.nu 1)))] (.le true (.ad (.ad (.vr 0) (.ad (.vr 1) (.ad (.vr 0) (.vr 1)))) (.nu 1)) (.vr 2)) (by kernel_rfl)
theorem ar351 : d≤c → d=(((2*a)+(2*b))+1) → (a+b)≤(c+b) := go [a, b, c, d] [] [(.le true (.vr 3) (.vr 2)), (.eq true (.vr 3) (.ad (.ad (.ml 2 (.vr 0)) (.ml 2 (.vr 1))) (.nu 1)))] (.le true (.ad (.vr 0) (.vr 1)) (.ad (.vr 2) (.vr 1))) (by kernel_rfl)
theorem ar352 : 0<c → (d+e)≤b → ((c:Nat):Int)≤((e:Nat):Int) → a≤(e-1) → a<b := go [a, b, c, d, e] [] [(.lt true (.nu 0) (.vr 2)), (.le true (.ad (.vr 3) (.vr 4)) (.vr 1)), (.le false (.ca (.vr 2)) (.ca (.vr 4))), (.le true (.vr 0) (.su (.vr 4) (.nu 1)))] (.lt true (.vr 0) (.vr 1)) (by kernel_rfl)
theorem ar353 {P : Prop} : c=((d+1)-b) → (a=d∨(a<d∧P)) → e≤(a-1) → (f+b)≤e → (a-b)<c := by omega
theorem ar354 : 0<c → d≤(b-1) → (a+c)≤d → ¬(a=(b-c)) := go [a, b, c, d] [] [(.lt true (.nu 0) (.vr 2)), (.le true (.vr 3) (.su (.vr 1) (.nu 1))), (.le true (.ad (.vr 0) (.vr 2)) (.vr 3))] (.no (.eq true (.vr 0) (.su (.vr 1) (.vr 2)))) (by kernel_rfl)
theorem ar355 : d≤(c-1) → (a+b)≤d → (a+b)≤c := go [a, b, c, d] [] [(.le true (.vr 3) (.su (.vr 2) (.nu 1))), (.le true (.ad (.vr 0) (.vr 1)) (.vr 3))] (.le true (.ad (.vr 0) (.vr 1)) (.vr 2)) (by kernel_rfl)
theorem ar356 : c=a → (a-b)=(c-b) := go [a, b, c] [] [(.eq true (.vr 2) (.vr 0))] (.eq true (.su (.vr 0) (.vr 1)) (.su (.vr 2) (.vr 1))) (by kernel_rfl)
theorem ar357 : a≤b → (min a b)=a := go [a, b] [] [(.le true (.vr 0) (.vr 1))] (.eq true (.mi (.vr 0) (.vr 1)) (.vr 0)) (by kernel_rfl)
theorem ar358 : a≤b → (Int.toNat (((a:Nat):Int)-((b:Nat):Int)))=0 := go [a, b] [] [(.le true (.vr 0) (.vr 1))] (.eq true (.tn (.su (.ca (.vr 0)) (.ca (.vr 1)))) (.nu 0)) (by kernel_rfl)
theorem ar359 : (1*0)≤256 := go [] [] [] (.le true (.ml 1 (.nu 0)) (.nu 256)) (by kernel_rfl)
theorem ar360 : b≤100 → (-(1000:Int))≤(((a:Nat):Int)-((b:Nat):Int)) := go [a, b] [] [(.le true (.vr 1) (.nu 100))] (.le false (.ng (.nu 1000)) (.su (.ca (.vr 0)) (.ca (.vr 1)))) (by kernel_rfl)
theorem ar361 : a≤b → (((a:Nat):Int)-((b:Nat):Int))≤(1000:Int) := go [a, b] [] [(.le true (.vr 0) (.vr 1))] (.le false (.su (.ca (.vr 0)) (.ca (.vr 1))) (.nu 1000)) (by kernel_rfl)
theorem ar362 : b≤100 → a≤b → a≤1000 := go [a, b] [] [(.le true (.vr 1) (.nu 100)), (.le true (.vr 0) (.vr 1))] (.le true (.vr 0) (.nu 1000)) (by kernel_rfl)
theorem ar363 : a≤(a+4) := go [a] [] [] (.le true (.vr 0) (.ad (.vr 0) (.nu 4))) (by kernel_rfl)
theorem ar364 : (b+1)≤a → a≠b := go [a, b] [] [(.le true (.ad (.vr 1) (.nu 1)) (.vr 0))] (.ne true (.vr 0) (.vr 1)) (by kernel_rfl)
theorem ar365 : c<b → a<c → a<b := go [a, b, c] [] [(.lt true (.vr 2) (.vr 1)), (.lt true (.vr 0) (.vr 2))] (.lt true (.vr 0) (.vr 1)) (by kernel_rfl)
theorem ar366 : a<b → a≠b := go [a, b] [] [(.lt true (.vr 0) (.vr 1))] (.ne true (.vr 0) (.vr 1)) (by kernel_rfl)
theorem ar367 : a<((a+b)+1) := go [a, b] [] [] (.lt true (.vr 0) (.ad (.ad (.vr 0) (.vr 1)) (.nu 1))) (by kernel_rfl)
theorem ar368 : c≠b → ¬(b<c) → a<((b+a)-c) := go [a, b, c] [] [(.ne true (.vr 2) (.vr 1)), (.no (.lt true (.vr 1) (.vr 2)))] (.lt true (.vr 0) (.su (.ad (.vr 1) (.vr 0)) (.vr 2))) (by kernel_rfl)
theorem ar369 : (c+a)<d → d≤(b+c) → a<b := go [a, b, c, d] [] [(.lt true (.ad (.vr 2) (.vr 0)) (.vr 3)), (.le true (.vr 3) (.ad (.vr 1) (.vr 2)))] (.lt true (.vr 0) (.vr 1)) (by kernel_rfl)
theorem ar370 : ¬(a≤b) → 0<a := go [a, b] [] [(.no (.le true (.vr 0) (.vr 1)))] (.lt true (.nu 0) (.vr 0)) (by kernel_rfl)
theorem ar371 : ¬(a≤b) → ¬(b<(a-1)) → a=(b+1) := go [a, b] [] [(.no (.le true (.vr 0) (.vr 1))), (.no (.lt true (.vr 1) (.su (.vr 0) (.nu 1))))] (.eq true (.vr 0) (.ad (.vr 1) (.nu 1))) (by kernel_rfl)
theorem ar372 : b≤d → a≤c → (((2*a)+(2*b))+1)≤(((2*c)+(2*d))+1) := go [a, b, c, d] [] [(.le true (.vr 1) (.vr 3)), (.le true (.vr 0) (.vr 2))] (.le true (.ad (.ad (.ml 2 (.vr 0)) (.ml 2 (.vr 1))) (.nu 1)) (.ad (.ad (.ml 2 (.vr 2)) (.ml 2 (.vr 3))) (.nu 1))) (by kernel_rfl)
theorem ar373 : a≤d → a≤(((1+(7*(((b+c)+d)+1)))+d)+1) := go [a, b, c, d] [] [(.le true (.vr 0) (.vr 3))] (.le true (.vr 0) (.ad (.ad (.ad (.nu 1) (.ml 7 (.ad (.ad (.ad (.vr 1) (.vr 2)) (.vr 3)) (.nu 1)))) (.vr 3)) (.nu 1))) (by kernel_rfl)
theorem ar374 : (Int.toNat (((2*a):Nat):Int))=(2*a) := go [a] [] [] (.eq true (.tn (.ca (.ml 2 (.vr 0)))) (.ml 2 (.vr 0))) (by kernel_rfl)
theorem ar375 : a≤3 → (1*(2*a))≤256 := go [a] [] [(.le true (.vr 0) (.nu 3))] (.le true (.ml 1 (.ml 2 (.vr 0))) (.nu 256)) (by kernel_rfl)
theorem ar376 : (-(1000:Int))≤(((2*a):Nat):Int) := go [a] [] [] (.le false (.ng (.nu 1000)) (.ca (.ml 2 (.vr 0)))) (by kernel_rfl)
theorem ar377 : a≤3 → (((2*a):Nat):Int)≤(1000:Int) := go [a] [] [(.le true (.vr 0) (.nu 3))] (.le false (.ca (.ml 2 (.vr 0))) (.nu 1000)) (by kernel_rfl)
theorem ar378 : a≤3 → (2*a)≤999 := go [a] [] [(.le true (.vr 0) (.nu 3))] (.le true (.ml 2 (.vr 0)) (.nu 999)) (by kernel_rfl)
theorem ar379 : a=(2*b) → b≤3 → a≤100 := go [a, b] [] [(.eq true (.vr 0) (.ml 2 (.vr 1))), (.le true (.vr 1) (.nu 3))] (.le true (.vr 0) (.nu 100)) (by kernel_rfl)
theorem ar380 : c=(2*b) → a≤c → a≤(2*b) := go [a, b, c] [] [(.eq true (.vr 2) (.ml 2 (.vr 1))), (.le true (.vr 0) (.vr 2))] (.le true (.vr 0) (.ml 2 (.vr 1))) (by kernel_rfl)
theorem ar381 : c=(2*d) → a≤c → b=((2*d)+1) → a<b := go [a, b, c, d] [] [(.eq true (.vr 2) (.ml 2 (.vr 3))), (.le true (.vr 0) (.vr 2)), (.eq true (.vr 1) (.ad (.ml 2 (.vr 3)) (.nu 1)))] (.lt true (.vr 0) (.vr 1)) (by kernel_rfl)
theorem ar382 : (1+((2*a)+1))=((2*a)+2) := go [a] [] [] (.eq true (.ad (.nu 1) (.ad (.ml 2 (.vr 0)) (.nu 1))) (.ad (.ml 2 (.vr 0)) (.nu 2))) (by kernel_rfl)
theorem ar383 : b=((2*a)+1) → a<b := go [a, b] [] [(.eq true (.vr 1) (.ad (.ml 2 (.vr 0)) (.nu 1)))] (.lt true (.vr 0) (.vr 1)) (by kernel_rfl)
theorem ar384 : b<a → 0<a := go [a, b] [] [(.lt true (.vr 1) (.vr 0))] (.lt true (.nu 0) (.vr 0)) (by kernel_rfl)
theorem ar385 : (a+c)=((2*b)+2) → b<c → a≤(b+1) := go [a, b, c] [] [(.eq true (.ad (.vr 0) (.vr 2)) (.ad (.ml 2 (.vr 1)) (.nu 2))), (.lt true (.vr 1) (.vr 2))] (.le true (.vr 0) (.ad (.vr 1) (.nu 1))) (by kernel_rfl)
theorem ar386 : ¬(((((b:Nat):Int)-(1:Int))+(1:Int))<((a:Nat):Int)) → a≤b := go [a, b] [] [(.no (.lt false (.ad (.su (.ca (.vr 1)) (.nu 1)) (.nu 1)) (.ca (.vr 0))))] (.le true (.vr 0) (.vr 1)) (by kernel_rfl)
theorem ar387 : (min 4 (((2*a)+1)-b))≤4 := go [a, b] [] [] (.le true (.mi (.nu 4) (.su (.ad (.ml 2 (.vr 0)) (.nu 1)) (.vr 1))) (.nu 4)) (by kernel_rfl)
theorem ar388 : a≤3 → a<b → (((2*a)+1)-b)≤3 := go [a, b] [] [(.le true (.vr 0) (.nu 3)), (.lt true (.vr 0) (.vr 1))] (.le true (.su (.ad (.ml 2 (.vr 0)) (.nu 1)) (.vr 1)) (.nu 3)) (by kernel_rfl)
theorem ar389 : ((((a:Nat):Int)-(1:Int))+(1:Int))<((b:Nat):Int) → a<b := go [a, b] [] [(.lt false (.ad (.su (.ca (.vr 0)) (.nu 1)) (.nu 1)) (.ca (.vr 1)))] (.lt true (.vr 0) (.vr 1)) (by kernel_rfl)
theorem ar390  : b<c → (d+c)=((2*a)+2) → e<d → (((2*a)+1)-b)=(((2*a)-b)+1) := by lia
theorem ar391 : a≤3 → ((((a:Nat):Int)-(1:Int))+(1:Int))<((b:Nat):Int) → (((2*a)+1)-b)≤4 := go [a, b] [] [(.le true (.vr 0) (.nu 3)), (.lt false (.ad (.su (.ca (.vr 0)) (.nu 1)) (.nu 1)) (.ca (.vr 1)))] (.le true (.su (.ad (.ml 2 (.vr 0)) (.nu 1)) (.vr 1)) (.nu 4)) (by kernel_rfl)
theorem ar392 : b≤3 → ((((b:Nat):Int)-(1:Int))+(1:Int))<((c:Nat):Int) → (((2*b)+1)-c)=(a+1) → a≤2 := go [a, b, c] [] [(.le true (.vr 1) (.nu 3)), (.lt false (.ad (.su (.ca (.vr 1)) (.nu 1)) (.nu 1)) (.ca (.vr 2))), (.eq true (.su (.ad (.ml 2 (.vr 1)) (.nu 1)) (.vr 2)) (.ad (.vr 0) (.nu 1)))] (.le true (.vr 0) (.nu 2)) (by kernel_rfl)
theorem ar393 : d<b → (((2*a)+1)-d)=(c+1) → (((2*a)+1)-b)≤(c+1) := go [a, b, c, d] [] [(.lt true (.vr 3) (.vr 1)), (.eq true (.su (.ad (.ml 2 (.vr 0)) (.nu 1)) (.vr 3)) (.ad (.vr 2) (.nu 1)))] (.le true (.su (.ad (.ml 2 (.vr 0)) (.nu 1)) (.vr 1)) (.ad (.vr 2) (.nu 1))) (by kernel_rfl)
theorem ar394 : (d+a)=((2*e)+2) → f<d → (((2*e)+1)-b)=(c+1) → ((a+1)-b)≤((c+1)+1) := go [a, b, c, d, e, f] [] [(.eq true (.ad (.vr 3) (.vr 0)) (.ad (.ml 2 (.vr 4)) (.nu 2))), (.lt true (.vr 5) (.vr 3)), (.eq true (.su (.ad (.ml 2 (.vr 4)) (.nu 1)) (.vr 1)) (.ad (.vr 2) (.nu 1)))] (.le true (.su (.ad (.vr 0) (.nu 1)) (.vr 1)) (.ad (.ad (.vr 2) (.nu 1)) (.nu 1))) (by kernel_rfl)
theorem ar395 : b≤3 → (c+a)=((2*b)+2) → a≤20 := go [a, b, c] [] [(.le true (.vr 1) (.nu 3)), (.eq true (.ad (.vr 2) (.vr 0)) (.ad (.ml 2 (.vr 1)) (.nu 2)))] (.le true (.vr 0) (.nu 20)) (by kernel_rfl)
theorem ar396 : b≤3 → a<c → (d+c)=((2*b)+2) → a≤20 := go [a, b, c, d] [] [(.le true (.vr 1) (.nu 3)), (.lt true (.vr 0) (.vr 2)), (.eq true (.ad (.vr 3) (.vr 2)) (.ad (.ml 2 (.vr 1)) (.nu 2)))] (.le true (.vr 0) (.nu 20)) (by kernel_rfl)
theorem ar397 : ((((b:Nat):Int)-(1:Int))+(1:Int))<((a:Nat):Int) → 0<a := go [a, b] [] [(.lt false (.ad (.su (.ca (.vr 1)) (.nu 1)) (.nu 1)) (.ca (.vr 0)))] (.lt true (.nu 0) (.vr 0)) (by kernel_rfl)
theorem ar398 : ((c+(1+(7*(((d+b)+c)+1))))+1)=e → e≤60000000 → a≤d → (2*(a+b))≤60000000 := go [a, b, c, d, e] [] [(.eq true (.ad (.ad (.vr 2) (.ad (.nu 1) (.ml 7 (.ad (.ad (.ad (.vr 3) (.vr 1)) (.vr 2)) (.nu 1))))) (.nu 1)) (.vr 4)), (.le true (.vr 4) (.nu 60000000)), (.le true (.vr 0) (.vr 3))] (.le true (.ml 2 (.ad (.vr 0) (.vr 1))) (.nu 60000000)) (by kernel_rfl)
theorem ar399 : b≤3 → (c+d)=((2*b)+2) → ((((b:Nat):Int)-(1:Int))+(1:Int))<((e:Nat):Int) → a=((d+1)-e) → a≤7 := go [a, b, c, d, e] [] [(.le true (.vr 1) (.nu 3)), (.eq true (.ad (.vr 2) (.vr 3)) (.ad (.ml 2 (.vr 1)) (.nu 2))), (.lt false (.ad (.su (.ca (.vr 1)) (.nu 1)) (.nu 1)) (.ca (.vr 4))), (.eq true (.vr 0) (.su (.ad (.vr 3) (.nu 1)) (.vr 4)))] (.le true (.vr 0) (.nu 7)) (by kernel_rfl)
theorem ar400 : a≤c → (a+b)≤(c+b) := go [a, b, c] [] [(.le true (.vr 0) (.vr 2))] (.le true (.ad (.vr 0) (.vr 1)) (.ad (.vr 2) (.vr 1))) (by kernel_rfl)
theorem ar401 : d<b → (((2*a)+1)-d)=(c+1) → (((2*a)+1)-b)≤c := go [a, b, c, d] [] [(.lt true (.vr 3) (.vr 1)), (.eq true (.su (.ad (.ml 2 (.vr 0)) (.nu 1)) (.vr 3)) (.ad (.vr 2) (.nu 1)))] (.le true (.su (.ad (.ml 2 (.vr 0)) (.nu 1)) (.vr 1)) (.vr 2)) (by kernel_rfl)
theorem ar402 : a≤7 → a≤20 := go [a] [] [(.le true (.vr 0) (.nu 7))] (.le true (.vr 0) (.nu 20)) (by kernel_rfl)
theorem ar403 : b≤3 → (a+c)=((2*b)+2) → a≤20 := go [a, b, c] [] [(.le true (.vr 1) (.nu 3)), (.eq true (.ad (.vr 0) (.vr 2)) (.ad (.ml 2 (.vr 1)) (.nu 2)))] (.le true (.vr 0) (.nu 20)) (by kernel_rfl)
theorem ar404 : (1+(20*(((a+b)+c)+1)))≤60000000 → (1+(20*(((a+b)+c)+1)))≤65000000 := go [a, b, c] [] [(.le true (.ad (.nu 1) (.ml 20 (.ad (.ad (.ad (.vr 0) (.vr 1)) (.vr 2)) (.nu 1)))) (.nu 60000000))] (.le true (.ad (.nu 1) (.ml 20 (.ad (.ad (.ad (.vr 0) (.vr 1)) (.vr 2)) (.nu 1)))) (.nu 65000000)) (by kernel_rfl)
theorem ar405 : c<d → e<b → a=((d+1)-c) → ¬((a=0∨b=0)) := go [a, b, c, d, e] [] [(.lt true (.vr 2) (.vr 3)), (.lt true (.vr 4) (.vr 1)), (.eq true (.vr 0) (.su (.ad (.vr 3) (.nu 1)) (.vr 2)))] (.no (.or (.eq true (.vr 0) (.nu 0)) (.eq true (.vr 1) (.nu 0)))) (by kernel_rfl)
theorem ar406 : b≤3 → (c+d)=((2*b)+2) → a<c → a≤100 := go [a, b, c, d] [] [(.le true (.vr 1) (.nu 3)), (.eq true (.ad (.vr 2) (.vr 3)) (.ad (.ml 2 (.vr 1)) (.nu 2))), (.lt true (.vr 0) (.vr 2))] (.le true (.vr 0) (.nu 100)) (by kernel_rfl)
theorem ar407 : b≤3 → (c+d)=((2*b)+2) → e≤7 → a=((e+c)-1) → a≤100 := go [a, b, c, d, e] [] [(.le true (.vr 1) (.nu 3)), (.eq true (.ad (.vr 2) (.vr 3)) (.ad (.ml 2 (.vr 1)) (.nu 2))), (.le true (.vr 4) (.nu 7)), (.eq true (.vr 0) (.su (.ad (.vr 4) (.vr 2)) (.nu 1)))] (.le true (.vr 0) (.nu 100)) (by kernel_rfl)
theorem ar408 : 1≤(1+(7*(((a+b)+c)+1))) := go [a, b, c] [] [] (.le true (.nu 1) (.ad (.nu 1) (.ml 7 (.ad (.ad (.ad (.vr 0) (.vr 1)) (.vr 2)) (.nu 1))))) (by kernel_rfl)
theorem ar409 : a≤(7*(((b+c)+d)+1)) → (1+a)≤(1+(7*(((b+c)+d)+1))) := go [a, b, c, d] [] [(.le true (.vr 0) (.ml 7 (.ad (.ad (.ad (.vr 1) (.vr 2)) (.vr 3)) (.nu 1))))] (.le true (.ad (.nu 1) (.vr 0)) (.ad (.nu 1) (.ml 7 (.ad (.ad (.ad (.vr 1) (.vr 2)) (.vr 3)) (.nu 1))))) (by kernel_rfl)
theorem ar410 : ((a+(1+(7*(((b+c)+a)+1))))+1)=d → d≤60000000 → ((a+(1+(7*(((b+c)+a)+1))))+1)≤130000000 := go [a, b, c, d] [] [(.eq true (.ad (.ad (.vr 0) (.ad (.nu 1) (.ml 7 (.ad (.ad (.ad (.vr 1) (.vr 2)) (.vr 0)) (.nu 1))))) (.nu 1)) (.vr 3)), (.le true (.vr 3) (.nu 60000000))] (.le true (.ad (.ad (.vr 0) (.ad (.nu 1) (.ml 7 (.ad (.ad (.ad (.vr 1) (.vr 2)) (.vr 0)) (.nu 1))))) (.nu 1)) (.nu 130000000)) (by kernel_rfl)
theorem ar411 : (a-1)<b → a≤b := go [a, b] [] [(.lt true (.su (.vr 0) (.nu 1)) (.vr 1))] (.le true (.vr 0) (.vr 1)) (by kernel_rfl)
theorem ar412 : a<c → a≤((b-1)+(c-1)) := go [a, b, c] [] [(.lt true (.vr 0) (.vr 2))] (.le true (.vr 0) (.ad (.su (.vr 1) (.nu 1)) (.su (.vr 2) (.nu 1)))) (by kernel_rfl)
theorem ar413 : b<c → a=((c+1)-b) → 0<a := go [a, b, c] [] [(.lt true (.vr 1) (.vr 2)), (.eq true (.vr 0) (.su (.ad (.vr 2) (.nu 1)) (.vr 1)))] (.lt true (.nu 0) (.vr 0)) (by kernel_rfl)
theorem ar414 : a<c → ((d-1)+(c-1))<b → a≤b := go [a, b, c, d] [] [(.lt true (.vr 0) (.vr 2)), (.lt true (.ad (.su (.vr 3) (.nu 1)) (.su (.vr 2) (.nu 1))) (.vr 1))] (.le true (.vr 0) (.vr 1)) (by kernel_rfl)
theorem ar415  : d<c → e=((b+c)-1) → a≤(max d e) → a=(((b-1)+(c-1))+1) → a=((b+c)-1) := by lia
theorem ar416 : b≤a → c<b → (a-1)<a := go [a, b, c] [] [(.le true (.vr 1) (.vr 0)), (.lt true (.vr 2) (.vr 1))] (.lt true (.su (.vr 0) (.nu 1)) (.vr 0)) (by kernel_rfl)
theorem ar417  : b<d → (e+d)=((2*c)+2) → f=((d+1)-b) → a=((f+e)-1) → (a+b)=((2*c)+2) := by lia
theorem ar418 : c<d → e=((d+1)-c) → b=((e+a)-1) → a<b := go [a, b, c, d, e] [] [(.lt true (.vr 2) (.vr 3)), (.eq true (.vr 4) (.su (.ad (.vr 3) (.nu 1)) (.vr 2))), (.eq true (.vr 1) (.su (.ad (.vr 4) (.vr 0)) (.nu 1)))] (.lt true (.vr 0) (.vr 1)) (by kernel_rfl)
theorem ar419 : b≤3 → ((((b:Nat):Int)-(1:Int))+(1:Int))<((c:Nat):Int) → (((2*b)+1)-c)=(a+1) → (a+2)≤4 := go [a, b, c] [] [(.le true (.vr 1) (.nu 3)), (.lt false (.ad (.su (.ca (.vr 1)) (.nu 1)) (.nu 1)) (.ca (.vr 2))), (.eq true (.su (.ad (.ml 2 (.vr 1)) (.nu 1)) (.vr 2)) (.ad (.vr 0) (.nu 1)))] (.le true (.ad (.vr 0) (.nu 2)) (.nu 4)) (by kernel_rfl)
theorem ar420 : (((2*b)+1)-d)=(a+1) → c<d → (a+2)≤(((2*b)+1)-c) := go [a, b, c, d] [] [(.eq true (.su (.ad (.ml 2 (.vr 1)) (.nu 1)) (.vr 3)) (.ad (.vr 0) (.nu 1))), (.lt true (.vr 2) (.vr 3))] (.le true (.ad (.vr 0) (.nu 2)) (.su (.ad (.ml 2 (.vr 1)) (.nu 1)) (.vr 2))) (by kernel_rfl)
theorem ar421 : (((a:Nat):Int)-(1:Int))<(-(1:Int)) → False := go [a] [] [(.lt false (.su (.ca (.vr 0)) (.nu 1)) (.ng (.nu 1)))] .f (by kernel_rfl)
theorem ar422 : ((a:Nat):Int)<(0:Int) → False := go [a] [] [(.lt false (.ca (.vr 0)) (.nu 0))] .f (by kernel_rfl)
theorem ar423 : (((((a:Nat):Int)-(1:Int))+((a:Nat):Int))+(1:Int))=(((2*a):Nat):Int) := go [a] [] [] (.eq false (.ad (.ad (.su (.ca (.vr 0)) (.nu 1)) (.ca (.vr 0))) (.nu 1)) (.ca (.ml 2 (.vr 0)))) (by kernel_rfl)
theorem ar424 : a=6 → a≤100 := go [a] [] [(.eq true (.vr 0) (.nu 6))] (.le true (.vr 0) (.nu 100)) (by kernel_rfl)
theorem ar425 : b=6 → a≤3 → (2*a)≤b := go [a, b] [] [(.eq true (.vr 1) (.nu 6)), (.le true (.vr 0) (.nu 3))] (.le true (.ml 2 (.vr 0)) (.vr 1)) (by kernel_rfl)
theorem ar426 : b=6 → a≤3 → (min (2*a) b)=(2*a) := go [a, b] [] [(.eq true (.vr 1) (.nu 6)), (.le true (.vr 0) (.nu 3))] (.eq true (.mi (.ml 2 (.vr 0)) (.vr 1)) (.ml 2 (.vr 0))) (by kernel_rfl)
theorem ar427 : 0<a → ¬(((a:Nat):Int)=(0:Int)) := go [a] [] [(.lt true (.nu 0) (.vr 0))] (.no (.eq false (.ca (.vr 0)) (.nu 0))) (by kernel_rfl)
theorem ar428 : (0:Int)≤(0:Int) := go [] [] [] (.le false (.nu 0) (.nu 0)) (by kernel_rfl)
theorem ar429 : 0<a → (Int.toNat (0:Int))<a := go [a] [] [(.lt true (.nu 0) (.vr 0))] (.lt true (.tn (.nu 0)) (.vr 0)) (by kernel_rfl)
theorem ar430 : a≤60000000 → a≤130000000 := go [a] [] [(.le true (.vr 0) (.nu 60000000))] (.le true (.vr 0) (.nu 130000000)) (by kernel_rfl)
theorem ar431 : b≤3 → a≤b → a≤100 := go [a, b] [] [(.le true (.vr 1) (.nu 3)), (.le true (.vr 0) (.vr 1))] (.le true (.vr 0) (.nu 100)) (by kernel_rfl)
theorem ar432 : (a+b)≤130000000 → (a+b)≤130000000 := go [a, b] [] [(.le true (.ad (.vr 0) (.vr 1)) (.nu 130000000))] (.le true (.ad (.vr 0) (.vr 1)) (.nu 130000000)) (by kernel_rfl)
theorem ar433 : b≤3 → a≤(b+1) → a≤100 := go [a, b] [] [(.le true (.vr 1) (.nu 3)), (.le true (.vr 0) (.ad (.vr 1) (.nu 1)))] (.le true (.vr 0) (.nu 100)) (by kernel_rfl)
theorem ar434 : a≤60000000 → (a+a)≤130000000 := go [a] [] [(.le true (.vr 0) (.nu 60000000))] (.le true (.ad (.vr 0) (.vr 0)) (.nu 130000000)) (by kernel_rfl)
theorem ar435 : ¬(c<a) → b=c → a≤b := go [a, b, c] [] [(.no (.lt true (.vr 2) (.vr 0))), (.eq true (.vr 1) (.vr 2))] (.le true (.vr 0) (.vr 1)) (by kernel_rfl)
theorem ar436 : ¬(c<a) → (min a b)≤c := go [a, b, c] [] [(.no (.lt true (.vr 2) (.vr 0)))] (.le true (.mi (.vr 0) (.vr 1)) (.vr 2)) (by kernel_rfl)
theorem ar437 : (-(1000000:Int))≤((a:Nat):Int) := go [a] [] [] (.le false (.ng (.nu 1000000)) (.ca (.vr 0))) (by kernel_rfl)
theorem ar438 : b≤100 → a<b → ((a:Nat):Int)≤(1000000:Int) := go [a, b] [] [(.le true (.vr 1) (.nu 100)), (.lt true (.vr 0) (.vr 1))] (.le false (.ca (.vr 0)) (.nu 1000000)) (by kernel_rfl)
theorem ar439 : a≤100 → ((a:Nat):Int)≤(1000000:Int) := go [a] [] [(.le true (.vr 0) (.nu 100))] (.le false (.ca (.vr 0)) (.nu 1000000)) (by kernel_rfl)
theorem ar440 : a≤b → b<(a+0) → x=(0:Int) := go [a, b] [x] [(.le true (.vr 0) (.vr 1)), (.lt true (.vr 1) (.ad (.vr 0) (.nu 0)))] (.eq false (.vr 0) (.nu 0)) (by kernel_rfl)
theorem ar441 : a<c → a<(b+(c-b)) := go [a, b, c] [] [(.lt true (.vr 0) (.vr 2))] (.lt true (.vr 0) (.ad (.vr 1) (.su (.vr 2) (.vr 1)))) (by kernel_rfl)
theorem ar442 : (((a:Nat):Int)+((b:Nat):Int))=(((a+b):Nat):Int) := go [a, b] [] [] (.eq false (.ad (.ca (.vr 0)) (.ca (.vr 1))) (.ca (.ad (.vr 0) (.vr 1)))) (by kernel_rfl)
theorem ar443 : b<(c-a) → (a+b)<c := go [a, b, c] [] [(.lt true (.vr 1) (.su (.vr 2) (.vr 0)))] (.lt true (.ad (.vr 0) (.vr 1)) (.vr 2)) (by kernel_rfl)
theorem ar444 : a<b → a<b := go [a, b] [] [(.lt true (.vr 0) (.vr 1))] (.lt true (.vr 0) (.vr 1)) (by kernel_rfl)
theorem ar445 : a<(b+(c+1)) → ¬(a=(b+c)) → a<(b+c) := go [a, b, c] [] [(.lt true (.vr 0) (.ad (.vr 1) (.ad (.vr 2) (.nu 1)))), (.no (.eq true (.vr 0) (.ad (.vr 1) (.vr 2))))] (.lt true (.vr 0) (.ad (.vr 1) (.vr 2))) (by kernel_rfl)
theorem ar446 : b≤100 → a<b → (((a:Nat):Int)+(1:Int))≤(1000000:Int) := go [a, b] [] [(.le true (.vr 1) (.nu 100)), (.lt true (.vr 0) (.vr 1))] (.le false (.ad (.ca (.vr 0)) (.nu 1)) (.nu 1000000)) (by kernel_rfl)
theorem ar447 : (Int.toNat (((a:Nat):Int)-(((b:Nat):Int)+(1:Int))))=(a-(b+1)) := go [a, b] [] [] (.eq true (.tn (.su (.ca (.vr 0)) (.ad (.ca (.vr 1)) (.nu 1)))) (.su (.vr 0) (.ad (.vr 1) (.nu 1)))) (by kernel_rfl)
theorem ar448 : 0≤(a-(b+1)) := go [a, b] [] [] (.le true (.nu 0) (.su (.vr 0) (.ad (.vr 1) (.nu 1)))) (by kernel_rfl)
theorem ar449 : b<((a+1)+0) → ¬(a<b) := go [a, b] [] [(.lt true (.vr 1) (.ad (.ad (.vr 0) (.nu 1)) (.nu 0)))] (.no (.lt true (.vr 0) (.vr 1))) (by kernel_rfl)
theorem ar450 : a<c → a<((b+1)+(c-(b+1))) := go [a, b, c] [] [(.lt true (.vr 0) (.vr 2))] (.lt true (.vr 0) (.ad (.ad (.vr 1) (.nu 1)) (.su (.vr 2) (.ad (.vr 1) (.nu 1))))) (by kernel_rfl)
theorem ar451 : ((((a:Nat):Int)+(1:Int))+((b:Nat):Int))=((((a+1)+b):Nat):Int) := go [a, b] [] [] (.eq false (.ad (.ad (.ca (.vr 0)) (.nu 1)) (.ca (.vr 1))) (.ca (.ad (.ad (.vr 0) (.nu 1)) (.vr 1)))) (by kernel_rfl)
theorem ar452 : b<(c-(a+1)) → ((a+1)+b)<c := go [a, b, c] [] [(.lt true (.vr 1) (.su (.vr 2) (.ad (.vr 0) (.nu 1))))] (.lt true (.ad (.ad (.vr 0) (.nu 1)) (.vr 1)) (.vr 2)) (by kernel_rfl)
theorem ar453 : ¬((a=((b+1)+c)∧(b<d∧d<((b+1)+0)))) := go [a, b, c, d] [] [] (.no (.an (.eq true (.vr 0) (.ad (.ad (.vr 1) (.nu 1)) (.vr 2))) (.an (.lt true (.vr 1) (.vr 3)) (.lt true (.vr 3) (.ad (.ad (.vr 1) (.nu 1)) (.nu 0)))))) (by kernel_rfl)
theorem ar454 : a<b → ((a:Nat):Int)<((b:Nat):Int) := go [a, b] [] [(.lt true (.vr 0) (.vr 1))] (.lt false (.ca (.vr 0)) (.ca (.vr 1))) (by kernel_rfl)
theorem ar455 : a<(b-(c+1)) → (a+1)≤(b-(c+1)) := go [a, b, c] [] [(.lt true (.vr 0) (.su (.vr 1) (.ad (.vr 2) (.nu 1))))] (.le true (.ad (.vr 0) (.nu 1)) (.su (.vr 1) (.ad (.vr 2) (.nu 1)))) (by kernel_rfl)
theorem ar456 : ((a+1)+b)<((a+1)+(b+1)) := go [a, b] [] [] (.lt true (.ad (.ad (.vr 0) (.nu 1)) (.vr 1)) (.ad (.ad (.vr 0) (.nu 1)) (.ad (.vr 1) (.nu 1)))) (by kernel_rfl)
theorem ar457 : a<((a+1)+b) := go [a, b] [] [] (.lt true (.vr 0) (.ad (.ad (.vr 0) (.nu 1)) (.vr 1))) (by kernel_rfl)
theorem ar458 : ¬(a<a) := go [a] [] [] (.no (.lt true (.vr 0) (.vr 0))) (by kernel_rfl)
theorem ar459 : ¬(c=a) → ¬((((a+1)+b)=((a+1)+b)∧c=a)) := go [a, b, c] [] [(.no (.eq true (.vr 2) (.vr 0)))] (.no (.an (.eq true (.ad (.ad (.vr 0) (.nu 1)) (.vr 1)) (.ad (.ad (.vr 0) (.nu 1)) (.vr 1))) (.eq true (.vr 2) (.vr 0)))) (by kernel_rfl)
theorem ar460 : ¬(((a+1)+b)<((a+1)+b)) := go [a, b] [] [] (.no (.lt true (.ad (.ad (.vr 0) (.nu 1)) (.vr 1)) (.ad (.ad (.vr 0) (.nu 1)) (.vr 1)))) (by kernel_rfl)
theorem ar461 : c<d → a<c → (((a+1)+b)=((a+1)+b)∧(a<c∧c<((a+1)+(d-(a+1))))) := go [a, b, c, d] [] [(.lt true (.vr 2) (.vr 3)), (.lt true (.vr 0) (.vr 2))] (.an (.eq true (.ad (.ad (.vr 0) (.nu 1)) (.vr 1)) (.ad (.ad (.vr 0) (.nu 1)) (.vr 1))) (.an (.lt true (.vr 0) (.vr 2)) (.lt true (.vr 2) (.ad (.ad (.vr 0) (.nu 1)) (.su (.vr 3) (.ad (.vr 0) (.nu 1))))))) (by kernel_rfl)
theorem ar462 : ¬(a<c) → ¬((((a+1)+b)=((a+1)+b)∧(a<c∧c<((a+1)+(d-(a+1)))))) := go [a, b, c, d] [] [(.no (.lt true (.vr 0) (.vr 2)))] (.no (.an (.eq true (.ad (.ad (.vr 0) (.nu 1)) (.vr 1)) (.ad (.ad (.vr 0) (.nu 1)) (.vr 1))) (.an (.lt true (.vr 0) (.vr 2)) (.lt true (.vr 2) (.ad (.ad (.vr 0) (.nu 1)) (.su (.vr 3) (.ad (.vr 0) (.nu 1)))))))) (by kernel_rfl)
theorem ar463 : ¬(a=((b+1)+c)) → ¬((a=((b+1)+c)∧d=b)) := go [a, b, c, d] [] [(.no (.eq true (.vr 0) (.ad (.ad (.vr 1) (.nu 1)) (.vr 2))))] (.no (.an (.eq true (.vr 0) (.ad (.ad (.vr 1) (.nu 1)) (.vr 2))) (.eq true (.vr 3) (.vr 1)))) (by kernel_rfl)
theorem ar464 : a<((b+1)+c) → a<((b+1)+(c+1)) := go [a, b, c] [] [(.lt true (.vr 0) (.ad (.ad (.vr 1) (.nu 1)) (.vr 2)))] (.lt true (.vr 0) (.ad (.ad (.vr 1) (.nu 1)) (.ad (.vr 2) (.nu 1)))) (by kernel_rfl)
theorem ar465 : ¬(a=((b+1)+c)) → ¬((a=((b+1)+c)∧(b<d∧d<((b+1)+(e-(b+1)))))) := go [a, b, c, d, e] [] [(.no (.eq true (.vr 0) (.ad (.ad (.vr 1) (.nu 1)) (.vr 2))))] (.no (.an (.eq true (.vr 0) (.ad (.ad (.vr 1) (.nu 1)) (.vr 2))) (.an (.lt true (.vr 1) (.vr 3)) (.lt true (.vr 3) (.ad (.ad (.vr 1) (.nu 1)) (.su (.vr 4) (.ad (.vr 1) (.nu 1)))))))) (by kernel_rfl)
theorem ar466 : ¬(a=((b+1)+c)) → ¬(a<((b+1)+c)) → ¬(a<((b+1)+(c+1))) := go [a, b, c] [] [(.no (.eq true (.vr 0) (.ad (.ad (.vr 1) (.nu 1)) (.vr 2)))), (.no (.lt true (.vr 0) (.ad (.ad (.vr 1) (.nu 1)) (.vr 2))))] (.no (.lt true (.vr 0) (.ad (.ad (.vr 1) (.nu 1)) (.ad (.vr 2) (.nu 1))))) (by kernel_rfl)
theorem ar467 : ¬((((a+1)+b)=((a+1)+b)∧(a<((a+1)+c)∧((a+1)+c)<((a+1)+c)))) := go [a, b, c] [] [] (.no (.an (.eq true (.ad (.ad (.vr 0) (.nu 1)) (.vr 1)) (.ad (.ad (.vr 0) (.nu 1)) (.vr 1))) (.an (.lt true (.vr 0) (.ad (.ad (.vr 0) (.nu 1)) (.vr 2))) (.lt true (.ad (.ad (.vr 0) (.nu 1)) (.vr 2)) (.ad (.ad (.vr 0) (.nu 1)) (.vr 2)))))) (by kernel_rfl)
theorem ar468 : a≤60000000 → (a+a)≤134000000 := go [a] [] [(.le true (.vr 0) (.nu 60000000))] (.le true (.ad (.vr 0) (.vr 0)) (.nu 134000000)) (by kernel_rfl)
theorem ar469 : (0:Int)≤((((a+1)+b):Nat):Int) := go [a, b] [] [] (.le false (.nu 0) (.ca (.ad (.ad (.vr 0) (.nu 1)) (.vr 1)))) (by kernel_rfl)
theorem ar470 : ((a+1)+b)<c → ((((a+1)+b):Nat):Int)<((c:Nat):Int) := go [a, b, c] [] [(.lt true (.ad (.ad (.vr 0) (.nu 1)) (.vr 1)) (.vr 2))] (.lt false (.ca (.ad (.ad (.vr 0) (.nu 1)) (.vr 1))) (.ca (.vr 2))) (by kernel_rfl)
theorem ar471 : (((a+1)+b)=((a+1)+b)∧(a<((a+1)+c)∧((a+1)+c)<((a+1)+(c+1)))) := go [a, b, c] [] [] (.an (.eq true (.ad (.ad (.vr 0) (.nu 1)) (.vr 1)) (.ad (.ad (.vr 0) (.nu 1)) (.vr 1))) (.an (.lt true (.vr 0) (.ad (.ad (.vr 0) (.nu 1)) (.vr 2))) (.lt true (.ad (.ad (.vr 0) (.nu 1)) (.vr 2)) (.ad (.ad (.vr 0) (.nu 1)) (.ad (.vr 2) (.nu 1)))))) (by kernel_rfl)
theorem ar472 : (a=((b+1)+c)∧(b<d∧d<((b+1)+e))) → (a=((b+1)+c)∧(b<d∧d<((b+1)+(e+1)))) := go [a, b, c, d, e] [] [(.an (.eq true (.vr 0) (.ad (.ad (.vr 1) (.nu 1)) (.vr 2))) (.an (.lt true (.vr 1) (.vr 3)) (.lt true (.vr 3) (.ad (.ad (.vr 1) (.nu 1)) (.vr 4)))))] (.an (.eq true (.vr 0) (.ad (.ad (.vr 1) (.nu 1)) (.vr 2))) (.an (.lt true (.vr 1) (.vr 3)) (.lt true (.vr 3) (.ad (.ad (.vr 1) (.nu 1)) (.ad (.vr 4) (.nu 1)))))) (by kernel_rfl)
theorem ar473 : ¬((a=((b+1)+c)∧d=((b+1)+e))) → ¬((a=((b+1)+c)∧(b<d∧d<((b+1)+e)))) → ¬((a=((b+1)+c)∧(b<d∧d<((b+1)+(e+1))))) := go [a, b, c, d, e] [] [(.no (.an (.eq true (.vr 0) (.ad (.ad (.vr 1) (.nu 1)) (.vr 2))) (.eq true (.vr 3) (.ad (.ad (.vr 1) (.nu 1)) (.vr 4))))), (.no (.an (.eq true (.vr 0) (.ad (.ad (.vr 1) (.nu 1)) (.vr 2))) (.an (.lt true (.vr 1) (.vr 3)) (.lt true (.vr 3) (.ad (.ad (.vr 1) (.nu 1)) (.vr 4))))))] (.no (.an (.eq true (.vr 0) (.ad (.ad (.vr 1) (.nu 1)) (.vr 2))) (.an (.lt true (.vr 1) (.vr 3)) (.lt true (.vr 3) (.ad (.ad (.vr 1) (.nu 1)) (.ad (.vr 4) (.nu 1))))))) (by kernel_rfl)
theorem ar474 : a<(a+(0+1)) := go [a] [] [] (.lt true (.vr 0) (.ad (.vr 0) (.ad (.nu 0) (.nu 1)))) (by kernel_rfl)
theorem ar475 : a<(a+(1+1)) := go [a] [] [] (.lt true (.vr 0) (.ad (.vr 0) (.ad (.nu 1) (.nu 1)))) (by kernel_rfl)
theorem ar476 : (a+1)<(a+(1+1)) := go [a] [] [] (.lt true (.ad (.vr 0) (.nu 1)) (.ad (.vr 0) (.ad (.nu 1) (.nu 1)))) (by kernel_rfl)
theorem ar477 : a<(a+(2+1)) := go [a] [] [] (.lt true (.vr 0) (.ad (.vr 0) (.ad (.nu 2) (.nu 1)))) (by kernel_rfl)
theorem ar478 : (a+1)<(a+(2+1)) := go [a] [] [] (.lt true (.ad (.vr 0) (.nu 1)) (.ad (.vr 0) (.ad (.nu 2) (.nu 1)))) (by kernel_rfl)
theorem ar479 : (a+2)<(a+(2+1)) := go [a] [] [] (.lt true (.ad (.vr 0) (.nu 2)) (.ad (.vr 0) (.ad (.nu 2) (.nu 1)))) (by kernel_rfl)
theorem ar480 : b≤a → a<(b+(0+1)) → a=b := go [a, b] [] [(.le true (.vr 1) (.vr 0)), (.lt true (.vr 0) (.ad (.vr 1) (.ad (.nu 0) (.nu 1))))] (.eq true (.vr 0) (.vr 1)) (by kernel_rfl)
theorem ar481 : b≤a → a<(b+(1+1)) → ¬(a=b) → a=(b+1) := go [a, b] [] [(.le true (.vr 1) (.vr 0)), (.lt true (.vr 0) (.ad (.vr 1) (.ad (.nu 1) (.nu 1)))), (.no (.eq true (.vr 0) (.vr 1)))] (.eq true (.vr 0) (.ad (.vr 1) (.nu 1))) (by kernel_rfl)
theorem ar482 : x≠(0:Int) → (-x)≠(0:Int) := go [] [x] [(.ne false (.vr 0) (.nu 0))] (.ne false (.ng (.vr 0)) (.nu 0)) (by kernel_rfl)
theorem ar483 : ¬(a=(a+1)) := go [a] [] [] (.no (.eq true (.vr 0) (.ad (.vr 0) (.nu 1)))) (by kernel_rfl)
theorem ar484 : ¬((a+2)=(a+1)) := go [a] [] [] (.no (.eq true (.ad (.vr 0) (.nu 2)) (.ad (.vr 0) (.nu 1)))) (by kernel_rfl)
theorem ar485 : ¬((a+2)=a) := go [a] [] [] (.no (.eq true (.ad (.vr 0) (.nu 2)) (.vr 0))) (by kernel_rfl)
theorem ar486 : b≤a → a<(b+(2+1)) → ¬(a=b) → ¬(a=(b+1)) → a=(b+2) := go [a, b] [] [(.le true (.vr 1) (.vr 0)), (.lt true (.vr 0) (.ad (.vr 1) (.ad (.nu 2) (.nu 1)))), (.no (.eq true (.vr 0) (.vr 1))), (.no (.eq true (.vr 0) (.ad (.vr 1) (.nu 1))))] (.eq true (.vr 0) (.ad (.vr 1) (.nu 2))) (by kernel_rfl)
theorem ar487 : ¬(a=(a+2)) := go [a] [] [] (.no (.eq true (.vr 0) (.ad (.vr 0) (.nu 2)))) (by kernel_rfl)
theorem ar488 : ¬((a+1)=(a+2)) := go [a] [] [] (.no (.eq true (.ad (.vr 0) (.nu 1)) (.ad (.vr 0) (.nu 2)))) (by kernel_rfl)
theorem ar489 : ¬((a+1)=a) := go [a] [] [] (.no (.eq true (.ad (.vr 0) (.nu 1)) (.vr 0))) (by kernel_rfl)
theorem ar490 : a<((a+1)+1) := go [a] [] [] (.lt true (.vr 0) (.ad (.ad (.vr 0) (.nu 1)) (.nu 1))) (by kernel_rfl)
theorem ar491 : a≤((2*a)+1) := go [a] [] [] (.le true (.vr 0) (.ad (.ml 2 (.vr 0)) (.nu 1))) (by kernel_rfl)
theorem ar492 : ((2*a)+1)=((a+a)+1) := go [a] [] [] (.eq true (.ad (.ml 2 (.vr 0)) (.nu 1)) (.ad (.ad (.vr 0) (.vr 0)) (.nu 1))) (by kernel_rfl)
theorem ar493  : (Int.natAbs x)<b → (Int.natAbs y)<b → a=(b+b) → (Int.natAbs (x-y))<a := by omega
theorem ar494 : a≤3 → ((a:Nat):Int)≤(1000000:Int) := go [a] [] [(.le true (.vr 0) (.nu 3))] (.le false (.ca (.vr 0)) (.nu 1000000)) (by kernel_rfl)
theorem ar495 : (a+((b+1)+1))=((a+2)+b) := go [a, b] [] [] (.eq true (.ad (.vr 0) (.ad (.ad (.vr 1) (.nu 1)) (.nu 1))) (.ad (.ad (.vr 0) (.nu 2)) (.vr 1))) (by kernel_rfl)
theorem ar496 : a≤((a+2)+b) := go [a, b] [] [] (.le true (.vr 0) (.ad (.ad (.vr 0) (.nu 2)) (.vr 1))) (by kernel_rfl)
theorem ar497 : (((a+2)+b)-a)=((b+1)+1) := go [a, b] [] [] (.eq true (.su (.ad (.ad (.vr 0) (.nu 2)) (.vr 1)) (.vr 0)) (.ad (.ad (.vr 1) (.nu 1)) (.nu 1))) (by kernel_rfl)
theorem ar498 : ((c+2)+a)=((c+2)+b) → a=b := go [a, b, c] [] [(.eq true (.ad (.ad (.vr 2) (.nu 2)) (.vr 0)) (.ad (.ad (.vr 2) (.nu 2)) (.vr 1)))] (.eq true (.vr 0) (.vr 1)) (by kernel_rfl)
theorem ar499 : c=((a+2)+d) → b<d → ((a+2)+b)≠c := go [a, b, c, d] [] [(.eq true (.vr 2) (.ad (.ad (.vr 0) (.nu 2)) (.vr 3))), (.lt true (.vr 1) (.vr 3))] (.ne true (.ad (.ad (.vr 0) (.nu 2)) (.vr 1)) (.vr 2)) (by kernel_rfl)
theorem ar500 : b=((a+2)+c) → a≤b := go [a, b, c] [] [(.eq true (.vr 1) (.ad (.ad (.vr 0) (.nu 2)) (.vr 2)))] (.le true (.vr 0) (.vr 1)) (by kernel_rfl)
theorem ar501 : a≤1000 → (1+a)≤134000000 := go [a] [] [(.le true (.vr 0) (.nu 1000))] (.le true (.ad (.nu 1) (.vr 0)) (.nu 134000000)) (by kernel_rfl)
theorem ar502 : b<a → (a-b)=(((a-b)-1)+1) := go [a, b] [] [(.lt true (.vr 1) (.vr 0))] (.eq true (.su (.vr 0) (.vr 1)) (.ad (.su (.su (.vr 0) (.vr 1)) (.nu 1)) (.nu 1))) (by kernel_rfl)
theorem ar503 : (a-b)=(c+1) → (a-(b+1))=c := go [a, b, c] [] [(.eq true (.su (.vr 0) (.vr 1)) (.ad (.vr 2) (.nu 1)))] (.eq true (.su (.vr 0) (.ad (.vr 1) (.nu 1))) (.vr 2)) (by kernel_rfl)
theorem ar504 : b≤3 → a<b → a≤3 := go [a, b] [] [(.le true (.vr 1) (.nu 3)), (.lt true (.vr 0) (.vr 1))] (.le true (.vr 0) (.nu 3)) (by kernel_rfl)
theorem ar505 : a≤3 → a≤100 := go [a] [] [(.le true (.vr 0) (.nu 3))] (.le true (.vr 0) (.nu 100)) (by kernel_rfl)
theorem ar506 : c<b → (b-(c+1))=d → a<(c+(d+1)) → a<b := go [a, b, c, d] [] [(.lt true (.vr 2) (.vr 1)), (.eq true (.su (.vr 1) (.ad (.vr 2) (.nu 1))) (.vr 3)), (.lt true (.vr 0) (.ad (.vr 2) (.ad (.vr 3) (.nu 1))))] (.lt true (.vr 0) (.vr 1)) (by kernel_rfl)
theorem ar507 : a≤1000 → a≤60000000 := go [a] [] [(.le true (.vr 0) (.nu 1000))] (.le true (.vr 0) (.nu 60000000)) (by kernel_rfl)
theorem ar508 : a<c → c≤b → a≠b := go [a, b, c] [] [(.lt true (.vr 0) (.vr 2)), (.le true (.vr 2) (.vr 1))] (.ne true (.vr 0) (.vr 1)) (by kernel_rfl)
theorem ar509 : (d-(b+1))=c → a<d → a<(b+(c+1)) := go [a, b, c, d] [] [(.eq true (.su (.vr 3) (.ad (.vr 1) (.nu 1))) (.vr 2)), (.lt true (.vr 0) (.vr 3))] (.lt true (.vr 0) (.ad (.vr 1) (.ad (.vr 2) (.nu 1)))) (by kernel_rfl)
theorem ar510 : (x=(1:Int)∨x=(-(1:Int))) → ((-x)=(1:Int)∨(-x)=(-(1:Int))) := go [] [x] [(.or (.eq false (.vr 0) (.nu 1)) (.eq false (.vr 0) (.ng (.nu 1))))] (.or (.eq false (.ng (.vr 0)) (.nu 1)) (.eq false (.ng (.vr 0)) (.ng (.nu 1)))) (by kernel_rfl)
theorem ar511 : ((a:Nat):Int)=((b:Nat):Int) → a=b := go [a, b] [] [(.eq false (.ca (.vr 0)) (.ca (.vr 1)))] (.eq true (.vr 0) (.vr 1)) (by kernel_rfl)
theorem ar512 : b≤3 → a<b → a<1000 := go [a, b] [] [(.le true (.vr 1) (.nu 3)), (.lt true (.vr 0) (.vr 1))] (.lt true (.vr 0) (.nu 1000)) (by kernel_rfl)
theorem ar513 : a<c → c≤b → a<b := go [a, b, c] [] [(.lt true (.vr 0) (.vr 2)), (.le true (.vr 2) (.vr 1))] (.lt true (.vr 0) (.vr 1)) (by kernel_rfl)
theorem ar514 : c≤b → a<c → a≠b := go [a, b, c] [] [(.le true (.vr 2) (.vr 1)), (.lt true (.vr 0) (.vr 2))] (.ne true (.vr 0) (.vr 1)) (by kernel_rfl)
theorem ar515 : c≤d → e<c → d=e → a=b := go [a, b, c, d, e] [] [(.le true (.vr 2) (.vr 3)), (.lt true (.vr 4) (.vr 2)), (.eq true (.vr 3) (.vr 4))] (.eq true (.vr 0) (.vr 1)) (by kernel_rfl)
theorem ar516 : c≤d → e<c → e=d → a=b := go [a, b, c, d, e] [] [(.le true (.vr 2) (.vr 3)), (.lt true (.vr 4) (.vr 2)), (.eq true (.vr 4) (.vr 3))] (.eq true (.vr 0) (.vr 1)) (by kernel_rfl)
theorem ar517 : c≤a → b<c → a≠b := go [a, b, c] [] [(.le true (.vr 2) (.vr 0)), (.lt true (.vr 1) (.vr 2))] (.ne true (.vr 0) (.vr 1)) (by kernel_rfl)
theorem ar518 : 0<a → ¬((0:Int)<((a:Nat):Int)) → False := go [a] [] [(.lt true (.nu 0) (.vr 0)), (.no (.lt false (.nu 0) (.ca (.vr 0))))] .f (by kernel_rfl)
theorem ar519 : b=(a+c) → a≤b := go [a, b, c] [] [(.eq true (.vr 1) (.ad (.vr 0) (.vr 2)))] (.le true (.vr 0) (.vr 1)) (by kernel_rfl)
theorem ar520 : c=(a+d) → b<d → (a+b)<(c+1) := go [a, b, c, d] [] [(.eq true (.vr 2) (.ad (.vr 0) (.vr 3))), (.lt true (.vr 1) (.vr 3))] (.lt true (.ad (.vr 0) (.vr 1)) (.ad (.vr 2) (.nu 1))) (by kernel_rfl)
theorem ar521 : (c+a)=(c+b) → a=b := go [a, b, c] [] [(.eq true (.ad (.vr 2) (.vr 0)) (.ad (.vr 2) (.vr 1)))] (.eq true (.vr 0) (.vr 1)) (by kernel_rfl)
theorem ar522 : c=(a+d) → b<d → (a+b)≠c := go [a, b, c, d] [] [(.eq true (.vr 2) (.ad (.vr 0) (.vr 3))), (.lt true (.vr 1) (.vr 3))] (.ne true (.ad (.vr 0) (.vr 1)) (.vr 2)) (by kernel_rfl)
theorem ar523 : b≤100 → a<b → a<1000 := go [a, b] [] [(.le true (.vr 1) (.nu 100)), (.lt true (.vr 0) (.vr 1))] (.lt true (.vr 0) (.nu 1000)) (by kernel_rfl)
theorem ar524 : a≤10000000 → (a+a)≤130000000 := go [a] [] [(.le true (.vr 0) (.nu 10000000))] (.le true (.ad (.vr 0) (.vr 0)) (.nu 130000000)) (by kernel_rfl)
theorem ar525 : a≤10000000 → (a+(a+a))≤130000000 := go [a] [] [(.le true (.vr 0) (.nu 10000000))] (.le true (.ad (.vr 0) (.ad (.vr 0) (.vr 0))) (.nu 130000000)) (by kernel_rfl)
theorem ar526 : (a+a)≤((4*a)+1) := go [a] [] [] (.le true (.ad (.vr 0) (.vr 0)) (.ad (.ml 4 (.vr 0)) (.nu 1))) (by kernel_rfl)
theorem ar527 : ((a+(a+(a+a)))+1)≤((4*a)+1) := go [a] [] [] (.le true (.ad (.ad (.vr 0) (.ad (.vr 0) (.ad (.vr 0) (.vr 0)))) (.nu 1)) (.ad (.ml 4 (.vr 0)) (.nu 1))) (by kernel_rfl)
theorem ar528 : (c≤a∧a<b) → a≠b := go [a, b, c] [] [(.an (.le true (.vr 2) (.vr 0)) (.lt true (.vr 0) (.vr 1)))] (.ne true (.vr 0) (.vr 1)) (by kernel_rfl)
theorem ar529 : a≤3 → (min 3 a)=a := go [a] [] [(.le true (.vr 0) (.nu 3))] (.eq true (.mi (.nu 3) (.vr 0)) (.vr 0)) (by kernel_rfl)
theorem ar530 : (-(1000000:Int))≤(((min a b):Nat):Int) := go [a, b] [] [] (.le false (.ng (.nu 1000000)) (.ca (.mi (.vr 0) (.vr 1)))) (by kernel_rfl)
theorem ar531 : a<3 → (((min a b):Nat):Int)≤(1000000:Int) := go [a, b] [] [(.lt true (.vr 0) (.nu 3))] (.le false (.ca (.mi (.vr 0) (.vr 1))) (.nu 1000000)) (by kernel_rfl)
theorem ar532  : (Int.toNat (((3:Nat):Int)-(((min a b):Nat):Int)))=(3-(min a b)) := by lia
theorem ar533 : (min a b)≤c → c<((min a b)+0) → False := go [a, b, c] [] [(.le true (.mi (.vr 0) (.vr 1)) (.vr 2)), (.lt true (.vr 2) (.ad (.mi (.vr 0) (.vr 1)) (.nu 0)))] .f (by kernel_rfl)
theorem ar534 : a≤c → (min a b)≤c := go [a, b, c] [] [(.le true (.vr 0) (.vr 2))] (.le true (.mi (.vr 0) (.vr 1)) (.vr 2)) (by kernel_rfl)
theorem ar535 : a<3 → a<((min b c)+(3-(min b c))) := go [a, b, c] [] [(.lt true (.vr 0) (.nu 3))] (.lt true (.vr 0) (.ad (.mi (.vr 1) (.vr 2)) (.su (.nu 3) (.mi (.vr 1) (.vr 2))))) (by kernel_rfl)
theorem ar536 : a<3 → (a+1)≤3 := go [a] [] [(.lt true (.vr 0) (.nu 3))] (.le true (.ad (.vr 0) (.nu 1)) (.nu 3)) (by kernel_rfl)
theorem ar537 : a=(min b c) → c≤b → a=(min (b+1) c) := go [a, b, c] [] [(.eq true (.vr 0) (.mi (.vr 1) (.vr 2))), (.le true (.vr 2) (.vr 1))] (.eq true (.vr 0) (.mi (.ad (.vr 1) (.nu 1)) (.vr 2))) (by kernel_rfl)
theorem ar538 : a≤((4*a)+1) := go [a] [] [] (.le true (.vr 0) (.ad (.ml 4 (.vr 0)) (.nu 1))) (by kernel_rfl)
theorem ar539 : (min c a)≤b → ¬(c<a) → a≤b := go [a, b, c] [] [(.le true (.mi (.vr 2) (.vr 0)) (.vr 1)), (.no (.lt true (.vr 2) (.vr 0)))] (.le true (.vr 0) (.vr 1)) (by kernel_rfl)
theorem ar540 : a<b → (min a b)=a := go [a, b] [] [(.lt true (.vr 0) (.vr 1))] (.eq true (.mi (.vr 0) (.vr 1)) (.vr 0)) (by kernel_rfl)
theorem ar541 : b<a → a≠b := go [a, b] [] [(.lt true (.vr 1) (.vr 0))] (.ne true (.vr 0) (.vr 1)) (by kernel_rfl)
theorem ar542 : 3≤1000 := go [] [] [] (.le true (.nu 3) (.nu 1000)) (by kernel_rfl)
theorem ar543 : (a≤1000∧1≤a) → (a+a)≤130000000 := go [a] [] [(.an (.le true (.vr 0) (.nu 1000)) (.le true (.nu 1) (.vr 0)))] (.le true (.ad (.vr 0) (.vr 0)) (.nu 130000000)) (by kernel_rfl)
theorem ar544  : a<3 → ((a:Nat):Int)<((3:Nat):Int) := by lia
theorem ar545 : b<a → c≤a → (a≠b∧c≤a) := go [a, b, c] [] [(.lt true (.vr 1) (.vr 0)), (.le true (.vr 2) (.vr 0))] (.an (.ne true (.vr 0) (.vr 1)) (.le true (.vr 2) (.vr 0))) (by kernel_rfl)
theorem ar546 : (a≠b∧c≤a) → (a≠b∧c≤a) := go [a, b, c] [] [(.an (.ne true (.vr 0) (.vr 1)) (.le true (.vr 2) (.vr 0)))] (.an (.ne true (.vr 0) (.vr 1)) (.le true (.vr 2) (.vr 0))) (by kernel_rfl)
theorem ar547 : a=b → b<3 → a<1000 := go [a, b] [] [(.eq true (.vr 0) (.vr 1)), (.lt true (.vr 1) (.nu 3))] (.lt true (.vr 0) (.nu 1000)) (by kernel_rfl)
theorem ar548 : a=b → b<c → (a+1)=(min (b+1) c) := go [a, b, c] [] [(.eq true (.vr 0) (.vr 1)), (.lt true (.vr 1) (.vr 2))] (.eq true (.ad (.vr 0) (.nu 1)) (.mi (.ad (.vr 1) (.nu 1)) (.vr 2))) (by kernel_rfl)
theorem ar549 : (a=b∨a<c) → (a=b∨a<(c+1)) := go [a, b, c] [] [(.or (.eq true (.vr 0) (.vr 1)) (.lt true (.vr 0) (.vr 2)))] (.or (.eq true (.vr 0) (.vr 1)) (.lt true (.vr 0) (.ad (.vr 2) (.nu 1)))) (by kernel_rfl)
theorem ar550 : ((c:Nat):Int)=((b:Nat):Int) → ¬((a=b∨a<c)) → ¬((a=b∨a<(c+1))) := go [a, b, c] [] [(.eq false (.ca (.vr 2)) (.ca (.vr 1))), (.no (.or (.eq true (.vr 0) (.vr 1)) (.lt true (.vr 0) (.vr 2))))] (.no (.or (.eq true (.vr 0) (.vr 1)) (.lt true (.vr 0) (.ad (.vr 2) (.nu 1))))) (by kernel_rfl)
theorem ar551 : ¬(((a:Nat):Int)=((b:Nat):Int)) → ¬(a=b) := go [a, b] [] [(.no (.eq false (.ca (.vr 0)) (.ca (.vr 1))))] (.no (.eq true (.vr 0) (.vr 1))) (by kernel_rfl)
theorem ar552 : ¬(a=b) → ¬((a=b∨a<a)) := go [a, b] [] [(.no (.eq true (.vr 0) (.vr 1)))] (.no (.or (.eq true (.vr 0) (.vr 1)) (.lt true (.vr 0) (.vr 0)))) (by kernel_rfl)
theorem ar553 : 1≤((4*a)+1) := go [a] [] [] (.le true (.nu 1) (.ad (.ml 4 (.vr 0)) (.nu 1))) (by kernel_rfl)
theorem ar554 : (a≤1000∧1≤a) → ((4*a)+1)≤10000000 := go [a] [] [(.an (.le true (.vr 0) (.nu 1000)) (.le true (.nu 1) (.vr 0)))] (.le true (.ad (.ml 4 (.vr 0)) (.nu 1)) (.nu 10000000)) (by kernel_rfl)
theorem ar555 : c≤d → d<b → b<e → e≤a → (a≠b∧c≤a) := go [a, b, c, d, e] [] [(.le true (.vr 2) (.vr 3)), (.lt true (.vr 3) (.vr 1)), (.lt true (.vr 1) (.vr 4)), (.le true (.vr 4) (.vr 0))] (.an (.ne true (.vr 0) (.vr 1)) (.le true (.vr 2) (.vr 0))) (by kernel_rfl)
theorem ar556 : (a=b∨a<(a+1)) := go [a, b] [] [] (.or (.eq true (.vr 0) (.vr 1)) (.lt true (.vr 0) (.ad (.vr 0) (.nu 1)))) (by kernel_rfl)
theorem ar557 : ¬(a=c) → ¬((a=b∨a<c)) → ¬((a=b∨a<(c+1))) := go [a, b, c] [] [(.no (.eq true (.vr 0) (.vr 2))), (.no (.or (.eq true (.vr 0) (.vr 1)) (.lt true (.vr 0) (.vr 2))))] (.no (.or (.eq true (.vr 0) (.vr 1)) (.lt true (.vr 0) (.ad (.vr 2) (.nu 1))))) (by kernel_rfl)
theorem ar558 : c<(3-(min a b)) → ((min a b)+c)<3 := go [a, b, c] [] [(.lt true (.vr 2) (.su (.nu 3) (.mi (.vr 0) (.vr 1))))] (.lt true (.ad (.mi (.vr 0) (.vr 1)) (.vr 2)) (.nu 3)) (by kernel_rfl)
theorem ar559 : ((((min a b):Nat):Int)+((c:Nat):Int))=((((min a b)+c):Nat):Int) := go [a, b, c] [] [] (.eq false (.ad (.ca (.mi (.vr 0) (.vr 1))) (.ca (.vr 2))) (.ca (.ad (.mi (.vr 0) (.vr 1)) (.vr 2)))) (by kernel_rfl)
theorem ar560 : a≤b → a≤(b+1) := go [a, b] [] [(.le true (.vr 0) (.vr 1))] (.le true (.vr 0) (.ad (.vr 1) (.nu 1))) (by kernel_rfl)
theorem ar561 : a≤b → ((min c d)+b)<3 → a<1000 := go [a, b, c, d] [] [(.le true (.vr 0) (.vr 1)), (.lt true (.ad (.mi (.vr 2) (.vr 3)) (.vr 1)) (.nu 3))] (.lt true (.vr 0) (.nu 1000)) (by kernel_rfl)
theorem ar562 : (min a b)≤((min a b)+c) := go [a, b, c] [] [] (.le true (.mi (.vr 0) (.vr 1)) (.ad (.mi (.vr 0) (.vr 1)) (.vr 2))) (by kernel_rfl)
theorem ar563  : a<((min b c)+(d+1)) → ¬(a=((min b c)+d)) → a<((min b c)+d) := by lia
theorem ar564 : ((a:Nat):Int)<((b:Nat):Int) → a<b := go [a, b] [] [(.lt false (.ca (.vr 0)) (.ca (.vr 1)))] (.lt true (.vr 0) (.vr 1)) (by kernel_rfl)
theorem ar565 : c≤b → a<c → a<b := go [a, b, c] [] [(.le true (.vr 2) (.vr 1)), (.lt true (.vr 0) (.vr 2))] (.lt true (.vr 0) (.vr 1)) (by kernel_rfl)
theorem ar566 : a<b → ¬(a=b) := go [a, b] [] [(.lt true (.vr 0) (.vr 1))] (.no (.eq true (.vr 0) (.vr 1))) (by kernel_rfl)
theorem ar567 : c=b → a<c → a<b := go [a, b, c] [] [(.eq true (.vr 2) (.vr 1)), (.lt true (.vr 0) (.vr 2))] (.lt true (.vr 0) (.vr 1)) (by kernel_rfl)
theorem ar568 : c=a → ¬(b<c) → a≤b := go [a, b, c] [] [(.eq true (.vr 2) (.vr 0)), (.no (.lt true (.vr 1) (.vr 2)))] (.le true (.vr 0) (.vr 1)) (by kernel_rfl)
theorem ar569 : a<b → a≤(b-1) := go [a, b] [] [(.lt true (.vr 0) (.vr 1))] (.le true (.vr 0) (.su (.vr 1) (.nu 1))) (by kernel_rfl)
theorem ar570 : ¬(a=b) → ¬(a<b) → 0<a := go [a, b] [] [(.no (.eq true (.vr 0) (.vr 1))), (.no (.lt true (.vr 0) (.vr 1)))] (.lt true (.nu 0) (.vr 0)) (by kernel_rfl)
theorem ar571 : ¬(b=a) → ¬(b<a) → a≤(b-1) := go [a, b] [] [(.no (.eq true (.vr 1) (.vr 0))), (.no (.lt true (.vr 1) (.vr 0)))] (.le true (.vr 0) (.su (.vr 1) (.nu 1))) (by kernel_rfl)
theorem ar572 : b=a → 0<b → 0<a := go [a, b] [] [(.eq true (.vr 1) (.vr 0)), (.lt true (.nu 0) (.vr 1))] (.lt true (.nu 0) (.vr 0)) (by kernel_rfl)
theorem ar573 : (a+c)≤90 → b<c → (a+b)≤100 := go [a, b, c] [] [(.le true (.ad (.vr 0) (.vr 2)) (.nu 90)), (.lt true (.vr 1) (.vr 2))] (.le true (.ad (.vr 0) (.vr 1)) (.nu 100)) (by kernel_rfl)
theorem ar574 : (b+c)≤90 → a=d → d<c → a<1000 := go [a, b, c, d] [] [(.le true (.ad (.vr 1) (.vr 2)) (.nu 90)), (.eq true (.vr 0) (.vr 3)), (.lt true (.vr 3) (.vr 2))] (.lt true (.vr 0) (.nu 1000)) (by kernel_rfl)
theorem ar575 : a=b → a=b := go [a, b] [] [(.eq true (.vr 0) (.vr 1))] (.eq true (.vr 0) (.vr 1)) (by kernel_rfl)
theorem ar576 : a≤63 → a≤1000 := go [a] [] [(.le true (.vr 0) (.nu 63))] (.le true (.vr 0) (.nu 1000)) (by kernel_rfl)
theorem ar577 : a≤8 → (Int.toNat (max (0:Int) (min (8:Int) ((a:Nat):Int))))=a := go [a] [] [(.le true (.vr 0) (.nu 8))] (.eq true (.tn (.ma (.nu 0) (.mi (.nu 8) (.ca (.vr 0))))) (.vr 0)) (by kernel_rfl)
theorem ar578 : ¬(a≤8) → (Int.toNat (max (0:Int) (min (8:Int) ((a:Nat):Int))))=8 := go [a] [] [(.no (.le true (.vr 0) (.nu 8)))] (.eq true (.tn (.ma (.nu 0) (.mi (.nu 8) (.ca (.vr 0))))) (.nu 8)) (by kernel_rfl)
theorem ar579 : (min 8 a)≤8 := go [a] [] [] (.le true (.mi (.nu 8) (.vr 0)) (.nu 8)) (by kernel_rfl)
theorem ar580 : a≤8 → a≤1000 := go [a] [] [(.le true (.vr 0) (.nu 8))] (.le true (.vr 0) (.nu 1000)) (by kernel_rfl)
theorem ar581 : (-(1000000:Int))≤((1:Int)+((a:Nat):Int)) := go [a] [] [] (.le false (.ng (.nu 1000000)) (.ad (.nu 1) (.ca (.vr 0)))) (by kernel_rfl)
theorem ar582 : a<3 → ((1:Int)+((a:Nat):Int))≤(1000000:Int) := go [a] [] [(.lt true (.vr 0) (.nu 3))] (.le false (.ad (.nu 1) (.ca (.vr 0))) (.nu 1000000)) (by kernel_rfl)
theorem ar583 : (Int.toNat ((1:Int)+((a:Nat):Int)))=(1+a) := go [a] [] [] (.eq true (.tn (.ad (.nu 1) (.ca (.vr 0)))) (.ad (.nu 1) (.vr 0))) (by kernel_rfl)
theorem ar584 : ((1:Int)+((a:Nat):Int))=(((1+a):Nat):Int) := go [a] [] [] (.eq false (.ad (.nu 1) (.ca (.vr 0))) (.ca (.ad (.nu 1) (.vr 0)))) (by kernel_rfl)
theorem ar585 : a<3 → (1≤(1+a)∧(1+a)≤3) := go [a] [] [(.lt true (.vr 0) (.nu 3))] (.an (.le true (.nu 1) (.ad (.nu 1) (.vr 0))) (.le true (.ad (.nu 1) (.vr 0)) (.nu 3))) (by kernel_rfl)
theorem ar586 : b<3 → ((1:Int)+((b:Nat):Int))=((a:Nat):Int) → (1+a)≤90 := go [a, b] [] [(.lt true (.vr 1) (.nu 3)), (.eq false (.ad (.nu 1) (.ca (.vr 1))) (.ca (.vr 0)))] (.le true (.ad (.nu 1) (.vr 0)) (.nu 90)) (by kernel_rfl)
theorem ar587 : b<3 → ((1:Int)+((b:Nat):Int))=((a:Nat):Int) → ((a:Nat):Int)≤(1000000:Int) := go [a, b] [] [(.lt true (.vr 1) (.nu 3)), (.eq false (.ad (.nu 1) (.ca (.vr 1))) (.ca (.vr 0)))] (.le false (.ca (.vr 0)) (.nu 1000000)) (by kernel_rfl)
theorem ar588 : b<3 → ((1:Int)+((b:Nat):Int))=((a:Nat):Int) → ((1+a)+(Int.toNat ((a:Nat):Int)))≤90 := go [a, b] [] [(.lt true (.vr 1) (.nu 3)), (.eq false (.ad (.nu 1) (.ca (.vr 1))) (.ca (.vr 0)))] (.le true (.ad (.ad (.nu 1) (.vr 0)) (.tn (.ca (.vr 0)))) (.nu 90)) (by kernel_rfl)
theorem ar589 : (6-a)≤6 := go [a] [] [] (.le true (.su (.nu 6) (.vr 0)) (.nu 6)) (by kernel_rfl)
theorem ar590 : b<3 → ((1:Int)+((b:Nat):Int))=((a:Nat):Int) → a≤(6-(6-a)) := go [a, b] [] [(.lt true (.vr 1) (.nu 3)), (.eq false (.ad (.nu 1) (.ca (.vr 1))) (.ca (.vr 0)))] (.le true (.vr 0) (.su (.nu 6) (.su (.nu 6) (.vr 0)))) (by kernel_rfl)
theorem ar591 : b<3 → ((1:Int)+((b:Nat):Int))=((a:Nat):Int) → (6-(6-a))=a := go [a, b] [] [(.lt true (.vr 1) (.nu 3)), (.eq false (.ad (.nu 1) (.ca (.vr 1))) (.ca (.vr 0)))] (.eq true (.su (.nu 6) (.su (.nu 6) (.vr 0))) (.vr 0)) (by kernel_rfl)
theorem ar592 : b=6 → (min (6-a) b)=(6-a) := go [a, b] [] [(.eq true (.vr 1) (.nu 6))] (.eq true (.mi (.su (.nu 6) (.vr 0)) (.vr 1)) (.su (.nu 6) (.vr 0))) (by kernel_rfl)
theorem ar593 : ¬((((6-a):Nat):Int)<(6:Int)) → a=0 := go [a] [] [(.no (.lt false (.ca (.su (.nu 6) (.vr 0))) (.nu 6)))] (.eq true (.vr 0) (.nu 0)) (by kernel_rfl)
theorem ar594 : a=6 → ¬(b<6) → a≤b := go [a, b] [] [(.eq true (.vr 0) (.nu 6)), (.no (.lt true (.vr 1) (.nu 6)))] (.le true (.vr 0) (.vr 1)) (by kernel_rfl)
theorem ar595 : c=b → a<c → (a+1)≤b := go [a, b, c] [] [(.eq true (.vr 2) (.vr 1)), (.lt true (.vr 0) (.vr 2))] (.le true (.ad (.vr 0) (.nu 1)) (.vr 1)) (by kernel_rfl)
theorem ar596 : a≤b → ((b:Nat):Int)<((a:Nat):Int) → False := go [a, b] [] [(.le true (.vr 0) (.vr 1)), (.lt false (.ca (.vr 1)) (.ca (.vr 0)))] .f (by kernel_rfl)
theorem ar597 : b<3 → ((1:Int)+((b:Nat):Int))=((c:Nat):Int) → a≤c → a≤3 := go [a, b, c] [] [(.lt true (.vr 1) (.nu 3)), (.eq false (.ad (.nu 1) (.ca (.vr 1))) (.ca (.vr 2))), (.le true (.vr 0) (.vr 2))] (.le true (.vr 0) (.nu 3)) (by kernel_rfl)
theorem ar598 : (a+4)≤3 → False := go [a] [] [(.le true (.ad (.vr 0) (.nu 4)) (.nu 3))] .f (by kernel_rfl)
theorem ar599 : b<3 → ((1:Int)+((b:Nat):Int))=((c:Nat):Int) → a≤c → a≤1000 := go [a, b, c] [] [(.lt true (.vr 1) (.nu 3)), (.eq false (.ad (.nu 1) (.ca (.vr 1))) (.ca (.vr 2))), (.le true (.vr 0) (.vr 2))] (.le true (.vr 0) (.nu 1000)) (by kernel_rfl)
theorem ar600 : b<3 → ((1:Int)+((b:Nat):Int))=((c:Nat):Int) → a≤c → (1+a)≤1000 := go [a, b, c] [] [(.lt true (.vr 1) (.nu 3)), (.eq false (.ad (.nu 1) (.ca (.vr 1))) (.ca (.vr 2))), (.le true (.vr 0) (.vr 2))] (.le true (.ad (.nu 1) (.vr 0)) (.nu 1000)) (by kernel_rfl)
theorem ar601 : b<3 → ((1:Int)+((b:Nat):Int))=((c:Nat):Int) → a≤c → ((a:Nat):Int)≤(1000000:Int) := go [a, b, c] [] [(.lt true (.vr 1) (.nu 3)), (.eq false (.ad (.nu 1) (.ca (.vr 1))) (.ca (.vr 2))), (.le true (.vr 0) (.vr 2))] (.le false (.ca (.vr 0)) (.nu 1000000)) (by kernel_rfl)
theorem ar602 : ¬(b<(a+1)) → a<b := go [a, b] [] [(.no (.lt true (.vr 1) (.ad (.vr 0) (.nu 1))))] (.lt true (.vr 0) (.vr 1)) (by kernel_rfl)
theorem ar603 : a≤b → b<a → x=(0:Int) := go [a, b] [x] [(.le true (.vr 0) (.vr 1)), (.lt true (.vr 1) (.vr 0))] (.eq false (.vr 0) (.nu 0)) (by kernel_rfl)
theorem ar604 : (a-1)≤a := go [a] [] [] (.le true (.su (.vr 0) (.nu 1)) (.vr 0)) (by kernel_rfl)
theorem ar605 : a=b → ¬(b=0) → 0<a := go [a, b] [] [(.eq true (.vr 0) (.vr 1)), (.no (.eq true (.vr 1) (.nu 0)))] (.lt true (.nu 0) (.vr 0)) (by kernel_rfl)
theorem ar606 : ¬(a=0) → (a-1)<a := go [a] [] [(.no (.eq true (.vr 0) (.nu 0)))] (.lt true (.su (.vr 0) (.nu 1)) (.vr 0)) (by kernel_rfl)
theorem ar607 {P : Prop} : 0<a → a=0 → P := by lia
theorem ar608 : a=(b+1) → 0<a := go [a, b] [] [(.eq true (.vr 0) (.ad (.vr 1) (.nu 1)))] (.lt true (.nu 0) (.vr 0)) (by kernel_rfl)
theorem ar609 : ((a+1)-1)<(a+1) := go [a] [] [] (.lt true (.su (.ad (.vr 0) (.nu 1)) (.nu 1)) (.ad (.vr 0) (.nu 1))) (by kernel_rfl)
theorem ar610 : c≤b → a≤c → a≤b := go [a, b, c] [] [(.le true (.vr 2) (.vr 1)), (.le true (.vr 0) (.vr 2))] (.le true (.vr 0) (.vr 1)) (by kernel_rfl)
theorem ar611 : c<b → a≤(c+1) → a≤b := go [a, b, c] [] [(.lt true (.vr 2) (.vr 1)), (.le true (.vr 0) (.ad (.vr 2) (.nu 1)))] (.le true (.vr 0) (.vr 1)) (by kernel_rfl)
theorem ar612 : ¬(b<c) → a≤c → a≤b := go [a, b, c] [] [(.no (.lt true (.vr 1) (.vr 2))), (.le true (.vr 0) (.vr 2))] (.le true (.vr 0) (.vr 1)) (by kernel_rfl)
theorem ar613 : a≠0 → (a-1)<a := go [a] [] [(.ne true (.vr 0) (.nu 0))] (.lt true (.su (.vr 0) (.nu 1)) (.vr 0)) (by kernel_rfl)
theorem ar614 : a≠0 → ((a-1)+1)=a := go [a] [] [(.ne true (.vr 0) (.nu 0))] (.eq true (.ad (.su (.vr 0) (.nu 1)) (.nu 1)) (.vr 0)) (by kernel_rfl)
theorem ar615 : (a-1)<b → ¬(b=a) → a<b := go [a, b] [] [(.lt true (.su (.vr 0) (.nu 1)) (.vr 1)), (.no (.eq true (.vr 1) (.vr 0)))] (.lt true (.vr 0) (.vr 1)) (by kernel_rfl)
theorem ar616 : (-(1000000:Int))≤(((0:Int)+((a:Nat):Int))+(1:Int)) := go [a] [] [] (.le false (.ng (.nu 1000000)) (.ad (.ad (.nu 0) (.ca (.vr 0))) (.nu 1))) (by kernel_rfl)
theorem ar617 : b<3 → ((1:Int)+((b:Nat):Int))=((c:Nat):Int) → d≤c → a<d → (((0:Int)+((a:Nat):Int))+(1:Int))≤(1000000:Int) := go [a, b, c, d] [] [(.lt true (.vr 1) (.nu 3)), (.eq false (.ad (.nu 1) (.ca (.vr 1))) (.ca (.vr 2))), (.le true (.vr 3) (.vr 2)), (.lt true (.vr 0) (.vr 3))] (.le false (.ad (.ad (.nu 0) (.ca (.vr 0))) (.nu 1)) (.nu 1000000)) (by kernel_rfl)
theorem ar618 : (Int.toNat (((0:Int)+((a:Nat):Int))+(1:Int)))=(a+1) := go [a] [] [] (.eq true (.tn (.ad (.ad (.nu 0) (.ca (.vr 0))) (.nu 1))) (.ad (.vr 0) (.nu 1))) (by kernel_rfl)
theorem ar619 : b<3 → ((1:Int)+((b:Nat):Int))=((c:Nat):Int) → d≤c → a<d → a<1000 := go [a, b, c, d] [] [(.lt true (.vr 1) (.nu 3)), (.eq false (.ad (.nu 1) (.ca (.vr 1))) (.ca (.vr 2))), (.le true (.vr 3) (.vr 2)), (.lt true (.vr 0) (.vr 3))] (.lt true (.vr 0) (.nu 1000)) (by kernel_rfl)
theorem ar620 : (Int.toNat ((0:Int)+((a:Nat):Int)))=a := go [a] [] [] (.eq true (.tn (.ad (.nu 0) (.ca (.vr 0)))) (.vr 0)) (by kernel_rfl)
theorem ar621 : c<b → a<(c+1) → a<(b+1) := go [a, b, c] [] [(.lt true (.vr 2) (.vr 1)), (.lt true (.vr 0) (.ad (.vr 2) (.nu 1)))] (.lt true (.vr 0) (.ad (.vr 1) (.nu 1))) (by kernel_rfl)
theorem ar622 : (0:Int)≤((0:Int)+((a:Nat):Int)) := go [a] [] [] (.le false (.nu 0) (.ad (.nu 0) (.ca (.vr 0)))) (by kernel_rfl)
theorem ar623 : b<(a+1) → (0:Int)≤(((a:Nat):Int)-((0:Int)+((b:Nat):Int))) := go [a, b] [] [(.lt true (.vr 1) (.ad (.vr 0) (.nu 1)))] (.le false (.nu 0) (.su (.ca (.vr 0)) (.ad (.nu 0) (.ca (.vr 1))))) (by kernel_rfl)
theorem ar624 : (Int.toNat (((a:Nat):Int)-((0:Int)+((b:Nat):Int))))=(a-b) := go [a, b] [] [] (.eq true (.tn (.su (.ca (.vr 0)) (.ad (.nu 0) (.ca (.vr 1))))) (.su (.vr 0) (.vr 1))) (by kernel_rfl)
theorem ar625 : c<3 → ((1:Int)+((c:Nat):Int))=((d:Nat):Int) → e≤d → a<e → (a-b)<6 := go [a, b, c, d, e] [] [(.lt true (.vr 2) (.nu 3)), (.eq false (.ad (.nu 1) (.ca (.vr 2))) (.ca (.vr 3))), (.le true (.vr 4) (.vr 3)), (.lt true (.vr 0) (.vr 4))] (.lt true (.su (.vr 0) (.vr 1)) (.nu 6)) (by kernel_rfl)
theorem ar626 : b<3 → ((1:Int)+((b:Nat):Int))=((c:Nat):Int) → d≤c → a<d → a<3 := go [a, b, c, d] [] [(.lt true (.vr 1) (.nu 3)), (.eq false (.ad (.nu 1) (.ca (.vr 1))) (.ca (.vr 2))), (.le true (.vr 3) (.vr 2)), (.lt true (.vr 0) (.vr 3))] (.lt true (.vr 0) (.nu 3)) (by kernel_rfl)
theorem ar627 : (0:Int)≤(((0:Int)+((a:Nat):Int))+((0:Int)+((b:Nat):Int))) := go [a, b] [] [] (.le false (.nu 0) (.ad (.ad (.nu 0) (.ca (.vr 0))) (.ad (.nu 0) (.ca (.vr 1))))) (by kernel_rfl)
theorem ar628 : (Int.toNat (((0:Int)+((a:Nat):Int))+((0:Int)+((b:Nat):Int))))=(a+b) := go [a, b] [] [] (.eq true (.tn (.ad (.ad (.nu 0) (.ca (.vr 0))) (.ad (.nu 0) (.ca (.vr 1))))) (.ad (.vr 0) (.vr 1))) (by kernel_rfl)
theorem ar629 : a<3 → b<3 → (a+b)<6 := go [a, b] [] [(.lt true (.vr 0) (.nu 3)), (.lt true (.vr 1) (.nu 3))] (.lt true (.ad (.vr 0) (.vr 1)) (.nu 6)) (by kernel_rfl)
theorem ar630 : a<3 → a<1000 := go [a] [] [(.lt true (.vr 0) (.nu 3))] (.lt true (.vr 0) (.nu 1000)) (by kernel_rfl)
theorem ar631 : (((6-a):Nat):Int)<(6:Int) → (6-a)<6 := go [a] [] [(.lt false (.ca (.su (.nu 6) (.vr 0))) (.nu 6))] (.lt true (.su (.nu 6) (.vr 0)) (.nu 6)) (by kernel_rfl)
theorem ar632 : b<3 → ((1:Int)+((b:Nat):Int))=((c:Nat):Int) → a=c → a≤1000 := go [a, b, c] [] [(.lt true (.vr 1) (.nu 3)), (.eq false (.ad (.nu 1) (.ca (.vr 1))) (.ca (.vr 2))), (.eq true (.vr 0) (.vr 2))] (.le true (.vr 0) (.nu 1000)) (by kernel_rfl)
theorem ar633 : c=6 → (((6-a)-1)-b)<c := go [a, b, c] [] [(.eq true (.vr 2) (.nu 6))] (.lt true (.su (.su (.su (.nu 6) (.vr 0)) (.nu 1)) (.vr 1)) (.vr 2)) (by kernel_rfl)
theorem ar634 : c=d → d≤(6-a) → b<c → (0:Int)≤(((((6-a):Nat):Int)-(1:Int))-((b:Nat):Int)) := go [a, b, c, d] [] [(.eq true (.vr 2) (.vr 3)), (.le true (.vr 3) (.su (.nu 6) (.vr 0))), (.lt true (.vr 1) (.vr 2))] (.le false (.nu 0) (.su (.su (.ca (.su (.nu 6) (.vr 0))) (.nu 1)) (.ca (.vr 1)))) (by kernel_rfl)
theorem ar635  : (Int.toNat (((((6-a):Nat):Int)-(1:Int))-((b:Nat):Int)))=(((6-a)-1)-b) := by lia
theorem ar636  : c=d → d≤(6-a) → b<c → (((6-a)-1)-b)<(6-a) := by omega
theorem ar637 : b<3 → ((1:Int)+((b:Nat):Int))=((a:Nat):Int) → a≤1048576 := go [a, b] [] [(.lt true (.vr 1) (.nu 3)), (.eq false (.ad (.nu 1) (.ca (.vr 1))) (.ca (.vr 0)))] (.le true (.vr 0) (.nu 1048576)) (by kernel_rfl)
theorem ar638 : b=c → a<c → a<b := go [a, b, c] [] [(.eq true (.vr 1) (.vr 2)), (.lt true (.vr 0) (.vr 2))] (.lt true (.vr 0) (.vr 1)) (by kernel_rfl)
theorem ar639 : (min (6-a) b)<1000 := go [a, b] [] [] (.lt true (.mi (.su (.nu 6) (.vr 0)) (.vr 1)) (.nu 1000)) (by kernel_rfl)
theorem ar640 : (((6-a):Nat):Int)<(6:Int) → (a-1)<a := go [a] [] [(.lt false (.ca (.su (.nu 6) (.vr 0))) (.nu 6))] (.lt true (.su (.vr 0) (.nu 1)) (.vr 0)) (by kernel_rfl)
theorem ar641 : a≤6 → (a-1)≤6 := go [a] [] [(.le true (.vr 0) (.nu 6))] (.le true (.su (.vr 0) (.nu 1)) (.nu 6)) (by kernel_rfl)
theorem ar642 : a≤(6-b) → a≤(6-(b-1)) := go [a, b] [] [(.le true (.vr 0) (.su (.nu 6) (.vr 1)))] (.le true (.vr 0) (.su (.nu 6) (.su (.vr 1) (.nu 1)))) (by kernel_rfl)
theorem ar643 : a≤6 → (((6-a):Nat):Int)<(6:Int) → (6-(a-1))=((6-a)+1) := go [a] [] [(.le true (.vr 0) (.nu 6)), (.lt false (.ca (.su (.nu 6) (.vr 0))) (.nu 6))] (.eq true (.su (.nu 6) (.su (.vr 0) (.nu 1))) (.ad (.su (.nu 6) (.vr 0)) (.nu 1))) (by kernel_rfl)
theorem ar644 : b=6 → (((6-a):Nat):Int)<(6:Int) → (6-a)<b := go [a, b] [] [(.eq true (.vr 1) (.nu 6)), (.lt false (.ca (.su (.nu 6) (.vr 0))) (.nu 6))] (.lt true (.su (.nu 6) (.vr 0)) (.vr 1)) (by kernel_rfl)
theorem ar645 : a=(b+1) → a≠b := go [a, b] [] [(.eq true (.vr 0) (.ad (.vr 1) (.nu 1)))] (.ne true (.vr 0) (.vr 1)) (by kernel_rfl)
end Mine

namespace Mine
set_option linter.unusedVariables false
/-- numbers of at most n bits above and below -/
noncomputable def Wq (n : Nat) (q : Rat) : Prop := q.num.natAbs < 2 ^ n ∧ q.den < 2 ^ n

theorem Wq.mono {n m : Nat} {q : Rat} (h : Wq n q) (hn : n ≤ m) : Wq m q :=
  ⟨Nat.lt_of_lt_of_le h.1 (Nat.pow_le_pow_right (by decide) hn), Nat.lt_of_lt_of_le h.2 (Nat.pow_le_pow_right (by decide) hn)⟩
theorem Wq.divInt {n : Nat} {t b : Int} (hb : b ≠ 0) (h1 : t.natAbs < 2 ^ n) (h2 : b.natAbs < 2 ^ n) : Wq n (Rat.divInt t b) := by
  constructor
  · rw [Rat.num_divInt, Int.natAbs_ediv_of_dvd, Int.natAbs_mul, Int.natAbs_sign_of_ne_zero hb, Nat.one_mul]
    · exact Nat.lt_of_le_of_lt (Nat.div_le_self _ _) h1
    · exact Int.dvd_trans (Int.gcd_dvd_right ..) (Int.dvd_mul_left ..)
  · rw [Rat.den_divInt, if_neg hb]
    exact Nat.lt_of_le_of_lt (Nat.div_le_self _ _) h2
theorem add_divInt (a b : Rat) : a + b = Rat.divInt (a.num * b.den + b.num * a.den) (a.den * b.den) := by
  have h := Rat.divInt_add_divInt a.num b.num (d₁ := a.den) (d₂ := b.den) (by have := a.den_nz; exact ar0 this) (by have := b.den_nz; exact ar0 this)
  rw [Rat.num_divInt_den, Rat.num_divInt_den] at h
  exact h
theorem sub_divInt (a b : Rat) : a - b = Rat.divInt (a.num * b.den - b.num * a.den) (a.den * b.den) := by
  have h := Rat.divInt_sub_divInt a.num b.num (d₁ := a.den) (d₂ := b.den) (by have := a.den_nz; exact ar0 this) (by have := b.den_nz; exact ar0 this)
  rw [Rat.num_divInt_den, Rat.num_divInt_den] at h
  exact h
theorem mul_divInt (a b : Rat) : a * b = Rat.divInt (a.num * b.num) (a.den * b.den) := by
  have h := Rat.divInt_mul_divInt a.num b.num (d₁ := a.den) (d₂ := b.den)
  rw [Rat.num_divInt_den, Rat.num_divInt_den] at h
  exact h
theorem inv_divInt (a : Rat) : a⁻¹ = Rat.divInt a.den a.num := Rat.inv_def a
theorem div_divInt (a b : Rat) : a / b = Rat.divInt (a.num * b.den) (a.den * b.num) := by
  rw [Rat.div_def, Rat.inv_def]
  have h := Rat.divInt_mul_divInt a.num b.den (d₁ := a.den) (d₂ := b.num)
  rw [Rat.num_divInt_den] at h
  exact h
theorem den_ne (a : Rat) : (a.den : Int) ≠ 0 := by have := a.den_nz; exact ar0 this
theorem num_ne {a : Rat} (h : a ≠ 0) : a.num ≠ 0 := fun e => h (Rat.num_eq_zero.mp e)
theorem natAbs_lt_mul {x y : Int} {n m : Nat} (h1 : x.natAbs < 2 ^ n) (h2 : y.natAbs < 2 ^ m) : (x * y).natAbs < 2 ^ (n + m) := by
  rw [Int.natAbs_mul, Nat.pow_add]
  exact Nat.mul_lt_mul'' h1 h2
theorem Wq.add {n m : Nat} {a b : Rat} (ha : Wq n a) (hb : Wq m b) : Wq (n + m + 1) (a + b) := by
  rw [add_divInt]
  have h1 := natAbs_lt_mul ha.1 (y := (b.den : Int)) (m := m) (by simpa using hb.2)
  have h2 := natAbs_lt_mul hb.1 (y := (a.den : Int)) (m := n) (by simpa using ha.2)
  have h3 := natAbs_lt_mul (x := (a.den : Int)) (n := n) (y := (b.den : Int)) (m := m) (by simpa using ha.2) (by simpa using hb.2)
  have e : 2 ^ (n + m + 1) = 2 ^ (n + m) + 2 ^ (n + m) := by rw [Nat.pow_succ]; exact ar1
  rw [Nat.add_comm m n] at h2
  refine Wq.divInt (Int.mul_ne_zero (den_ne a) (den_ne b)) ?_ ?_
  · have := Int.natAbs_add_le (a.num * b.den) (b.num * a.den)
    omega
  · omega
theorem Wq.sub {n m : Nat} {a b : Rat} (ha : Wq n a) (hb : Wq m b) : Wq (n + m + 1) (a - b) := by
  rw [sub_divInt]
  have h1 := natAbs_lt_mul ha.1 (y := (b.den : Int)) (m := m) (by simpa using hb.2)
  have h2 := natAbs_lt_mul hb.1 (y := (a.den : Int)) (m := n) (by simpa using ha.2)
  have h3 := natAbs_lt_mul (x := (a.den : Int)) (n := n) (y := (b.den : Int)) (m := m) (by simpa using ha.2) (by simpa using hb.2)
  have e : 2 ^ (n + m + 1) = 2 ^ (n + m) + 2 ^ (n + m) := by rw [Nat.pow_succ]; exact ar1
  rw [Nat.add_comm m n] at h2
  refine Wq.divInt (Int.mul_ne_zero (den_ne a) (den_ne b)) ?_ ?_
  · omega
  · omega
theorem Wq.mul {n m : Nat} {a b : Rat} (ha : Wq n a) (hb : Wq m b) : Wq (n + m) (a * b) := by
  rw [mul_divInt]
  exact Wq.divInt (Int.mul_ne_zero (den_ne a) (den_ne b)) (natAbs_lt_mul ha.1 hb.1) (natAbs_lt_mul (by simpa using ha.2) (by simpa using hb.2))
theorem Wq.div {n m : Nat} {a b : Rat} (ha : Wq n a) (hb : Wq m b) (h0 : b ≠ 0) : Wq (n + m) (a / b) := by
  rw [div_divInt]
  exact Wq.divInt (Int.mul_ne_zero (den_ne a) (num_ne h0)) (natAbs_lt_mul ha.1 (by simpa using hb.2)) (natAbs_lt_mul (by simpa using ha.2) hb.1)
theorem Wq.inv {n : Nat} {a : Rat} (ha : Wq n a) (h0 : a ≠ 0) : Wq n a⁻¹ := by
  rw [inv_divInt]
  exact Wq.divInt (num_ne h0) (by simpa using ha.2) ha.1
theorem Wq.neg {n : Nat} {a : Rat} (ha : Wq n a) : Wq n (-a) := by
  refine ⟨?_, ?_⟩
  · rw [Rat.neg_num]; simpa using ha.1
  · rw [Rat.neg_den]; exact ha.2
theorem Wq.zero {n : Nat} (h : 1 ≤ n) : Wq n 0 := ⟨by simpa using Nat.pow_pos (by decide), by
  have : 2 ^ 1 ≤ 2 ^ n := Nat.pow_le_pow_right (by decide) h
  show (0 : Rat).den < _
  have e : (0 : Rat).den = 1 := rfl
  omega⟩
theorem Wq.one {n : Nat} (h : 1 ≤ n) : Wq n 1 := ⟨by
  have : 2 ^ 1 ≤ 2 ^ n := Nat.pow_le_pow_right (by decide) h
  have e : (1 : Rat).num = 1 := rfl
  rw [e]; simp; exact ar2 h, by
  have : 2 ^ 1 ≤ 2 ^ n := Nat.pow_le_pow_right (by decide) h
  have e : (1 : Rat).den = 1 := rfl
  omega⟩

/-- the ratio as the program makes it -/
theorem rat_made {t b : Int} (hb : b ≠ 0) : let g : Int := if b > 0 then (Int.gcd t b : Int) else 0 - (Int.gcd t b : Int)
    g ≠ 0 ∧ t.fdiv g = (Rat.divInt t b).num ∧ b.fdiv g = ((Rat.divInt t b).den : Int) := by
  have hg : (Int.gcd t b : Int) ≠ 0 := by
    have := Int.gcd_pos_of_ne_zero_right t hb
    exact ar3 this
  have d1 : (Int.gcd t b : Int) ∣ t := Int.gcd_dvd_left ..
  have d2 : (Int.gcd t b : Int) ∣ b := Int.gcd_dvd_right ..
  obtain ⟨x, hx⟩ := d1
  obtain ⟨y, hy⟩ := d2
  rw [Rat.num_divInt, Rat.den_divInt, if_neg hb, Int.gcd_comm b t]
  generalize hG : (Int.gcd t b : Int) = G at *
  have hG' : Int.gcd t b = G.toNat := by exact ar4 hG
  have hGp : 0 < G := by exact ar5 hG hg
  by_cases hpos : b > 0
  · simp only [hpos, if_true]
    refine ⟨hg, ?_, ?_⟩
    · rw [Int.sign_eq_one_of_pos hpos, Int.one_mul, hx, Int.mul_fdiv_cancel_left _ hg, Int.mul_ediv_cancel_left _ hg]
    · rw [hG']
      have e : ((b.natAbs / G.toNat : Nat) : Int) = b / G := by
        rw [Int.natCast_ediv]
        have e1 : ((b.natAbs : Nat) : Int) = b := by exact ar6 hpos
        have e2 : ((G.toNat : Nat) : Int) = G := by exact ar7 hG
        rw [e1, e2]
      rw [e, hy, Int.mul_fdiv_cancel_left _ hg, Int.mul_ediv_cancel_left _ hg]
  · simp only [hpos, if_false]
    have hneg : b < 0 := by exact ar8 hb hpos
    have hg' : (0 - G) ≠ 0 := by exact ar9 hGp
    have hx' : t = (0 - G) * (-x) := by rw [hx]; grind
    have hy' : b = (0 - G) * (-y) := by rw [hy]; grind
    refine ⟨hg', ?_, ?_⟩
    · rw [Int.sign_eq_neg_one_of_neg hneg]
      have e : -1 * t / G = -x := by
        rw [hx]
        have : -1 * (G * x) = G * (-x) := by grind
        rw [this, Int.mul_ediv_cancel_left _ hg]
      rw [e]
      conv => lhs; rw [hx']
      rw [Int.mul_fdiv_cancel_left _ hg']
    · rw [hG']
      have e : ((b.natAbs / G.toNat : Nat) : Int) = (-b) / G := by
        rw [Int.natCast_ediv]
        have e1 : ((b.natAbs : Nat) : Int) = -b := by exact ar10 hneg
        have e2 : ((G.toNat : Nat) : Int) = G := by omega
        rw [e1, e2]
      have e3 : -b = G * (-y) := by rw [hy]; grind
      rw [e, e3, Int.mul_ediv_cancel_left _ hg]
      conv => lhs; rw [hy']
      rw [Int.mul_fdiv_cancel_left _ hg']
end Mine

namespace Mine

/-- the coefficients -/
noncomputable def co (l : List Rat) (i : Nat) : Rat := l.getD i 0
noncomputable def sm (f : Nat → Rat) : Nat → Rat | 0 => 0 | n + 1 => sm f n + f n
noncomputable def cv (f g : Nat → Rat) (n : Nat) : Rat := sm (fun i => f i * g (n - i)) (n + 1)
noncomputable def Wl (n : Nat) (l : List Rat) : Prop := ∀ q ∈ l, Wq n q

theorem sm_congr {f g : Nat → Rat} : ∀ {n : Nat}, (∀ i, i < n → f i = g i) → sm f n = sm g n
  | 0, _ => rfl
  | n + 1, h => by rw [sm, sm, sm_congr fun i hi => h i (by exact ar11 hi), h n (by exact ar12)]
theorem sm_more {f : Nat → Rat} {m n : Nat} (hmn : m ≤ n) (h : ∀ i, m ≤ i → i < n → f i = 0) : sm f n = sm f m := by
  induction n with
  | zero => have : m = 0 := by exact ar13 hmn
            rw [this]
  | succ n ih =>
    by_cases e : m = n + 1
    · rw [e]
    · rw [sm, ih (by exact ar14 hmn e) (fun i h1 h2 => h i h1 (by exact ar11 h2)), h n (by exact ar14 hmn e) (by exact ar12), Rat.add_zero]
theorem co_get {l : List Rat} {i : Nat} (h : i < l.length) : l[i]? = some (co l i) := by simp [co, h]
theorem co_big {l : List Rat} {i : Nat} (h : l.length ≤ i) : co l i = 0 := by simp [co, h]
theorem co_w {n : Nat} {l : List Rat} (h : Wl n l) (hn : 1 ≤ n) (i : Nat) : Wq n (co l i) := by
  by_cases e : i < l.length
  · exact h _ (List.mem_of_getElem? (co_get e))
  · rw [co_big (by exact ar15 e)]; exact Wq.zero hn
end Mine

namespace Mine

theorem sm_head (f : Nat → Rat) (n : Nat) : sm f (n + 1) = f 0 + sm (fun i => f (i + 1)) n := by
  induction n with
  | zero => simp [sm, Rat.zero_add, Rat.add_zero]
  | succ n ih => rw [sm, ih, sm]; grind
theorem sm_add (f g : Nat → Rat) (n : Nat) : sm (fun i => f i + g i) n = sm f n + sm g n := by
  induction n with
  | zero => simp [sm, Rat.zero_add]
  | succ n ih => rw [sm, ih, sm, sm]; grind
theorem sm_mul (a : Rat) (f : Nat → Rat) (n : Nat) : sm (fun i => a * f i) n = a * sm f n := by
  induction n with
  | zero => simp [sm, Rat.mul_zero]
  | succ n ih => rw [sm, ih, sm]; grind
theorem cv_congr {f f' g g' : Nat → Rat} {n : Nat} (h1 : ∀ i, i ≤ n → f i = f' i) (h2 : ∀ i, i ≤ n → g i = g' i) : cv f g n = cv f' g' n :=
  sm_congr fun i hi => by rw [h1 i (by exact ar16 hi), h2 (n - i) (by exact ar17)]
theorem cv_zero (f g : Nat → Rat) : cv f g 0 = f 0 * g 0 := by simp [cv, sm, Rat.zero_add]
theorem cv_succ (f g : Nat → Rat) (n : Nat) : cv f g (n + 1) = f 0 * g (n + 1) + cv (fun i => f (i + 1)) g n := by
  rw [cv, sm_head]; simp [cv]
theorem cv_last (f g : Nat → Rat) (n : Nat) : cv f g (n + 1) = cv f (fun i => g (i + 1)) n + f (n + 1) * g 0 := by
  rw [cv, sm, cv]
  congr 1
  · exact sm_congr fun i hi => by rw [show n + 1 - i = n - i + 1 by exact ar18 hi]
  · rw [Nat.sub_self]
theorem cv_comm (f g : Nat → Rat) (n : Nat) : cv f g n = cv g f n := by
  induction n generalizing f g with
  | zero => rw [cv_zero, cv_zero, Rat.mul_comm]
  | succ n ih => rw [cv_succ, cv_last, ih, Rat.mul_comm (f 0), Rat.add_comm]
theorem cv_add (f g h : Nat → Rat) (n : Nat) : cv (fun i => f i + g i) h n = cv f h n + cv g h n := by
  rw [cv, cv, cv, ← sm_add]; exact sm_congr fun i _ => by grind
theorem cv_mul (a : Rat) (f h : Nat → Rat) (n : Nat) : cv (fun i => a * f i) h n = a * cv f h n := by
  rw [cv, cv, ← sm_mul]; exact sm_congr fun i _ => by grind
theorem cv_sub (f g h : Nat → Rat) (n : Nat) : cv (fun i => f i - g i) h n = cv f h n - cv g h n := by
  have e : cv (fun i => f i - g i) h n = cv (fun i => f i + (-1) * g i) h n := cv_congr (fun i _ => by grind) fun _ _ => rfl
  rw [e, cv_add, cv_mul]; grind
theorem cv_assoc (f g h : Nat → Rat) (n : Nat) : cv (cv f g) h n = cv f (cv g h) n := by
  induction n generalizing f with
  | zero => simp only [cv_zero]; grind
  | succ n ih =>
    rw [cv_succ, cv_succ, ← ih]
    have e : cv (fun i => cv f g (i + 1)) h n = cv (fun i => f 0 * g (i + 1) + cv (fun j => f (j + 1)) g i) h n := cv_congr (fun i _ => cv_succ ..) fun _ _ => rfl
    rw [e, cv_add, cv_mul, cv_zero, cv_succ g h n]
    grind
noncomputable def up (g : Nat) (f : Nat → Rat) (t : Nat) : Rat := if g ≤ t then f (t - g) else 0
theorem cv_up (g : Nat) (f h : Nat → Rat) (n : Nat) : cv (up g f) h n = up g (cv f h) n := by
  induction g generalizing n with
  | zero => simp [up]; exact cv_congr (fun i _ => by simp [up]) fun _ _ => rfl
  | succ g ih =>
    cases n with
    | zero => simp [cv_zero, up, Rat.zero_mul]
    | succ n =>
      rw [cv_succ]
      have e0 : up (g + 1) f 0 = 0 := by simp [up]
      have e : cv (fun i => up (g + 1) f (i + 1)) h n = cv (up g f) h n := cv_congr (fun i _ => by simp [up]) fun _ _ => rfl
      rw [e0, e, ih]
      simp only [up, Nat.add_le_add_iff_right, Nat.reduceSubDiff, Rat.zero_mul, Rat.zero_add]
/-- a product whose parts vanish in turn -/
theorem cv_none {f g : Nat → Rat} {n a : Nat} (h1 : ∀ i, i ≤ n → a < i → f i = 0) (h2 : ∀ i, n ≤ i + a → i ≤ n → g i = 0) : cv f g n = 0 := by
  rw [cv, sm_more (m := 0) (by exact ar19)]
  · rfl
  · intro i _ hi
    by_cases e : i ≤ a
    · rw [h2 (n - i) (by exact ar20 e) (by exact ar17), Rat.mul_zero]
    · rw [h1 i (by exact ar16 hi) (by exact ar21 e), Rat.zero_mul]
theorem cv_one {f g : Nat → Rat} {n a : Nat} (h1 : ∀ i, i ≤ n → a < i → f i = 0) (h2 : ∀ i, n ≤ i + a → i < n → g i = 0) : cv f g n = f 0 * g n := by
  rw [cv, sm_more (m := 1) (by exact ar22)]
  · simp [sm, Rat.zero_add]
  · intro i h0 hi
    by_cases e : i ≤ a
    · rw [h2 (n - i) (by omega) (by exact ar23 h0 hi), Rat.mul_zero]
    · rw [h1 i (by exact ar16 hi) (by exact ar21 e), Rat.zero_mul]

/-- the state of the least recurrence's way -/
structure Bm (r : Nat → Rat) (n size sizeF gap : Nat) (now former : Nat → Rat) (last : Rat) : Prop where
  now0 : now 0 = 1
  deg : ∀ i, size < i → now i = 0
  ann : ∀ k, size ≤ k → k < n → cv now r k = 0
  gap1 : 1 ≤ gap
  lastnz : last ≠ 0
  degF : ∀ i, sizeF < i → former i = 0
  sum : size + sizeF + gap = n + 1
  annF : ∀ k, sizeF ≤ k → k + gap < n → cv former r k = 0
  atF : gap ≤ n → cv former r (n - gap) = last

variable {r : Nat → Rat} {n size sizeF gap : Nat} {now former : Nat → Rat} {last : Rat}
theorem Bm.keep (b : Bm r n size sizeF gap now former last) (h : cv now r n = 0) : Bm r (n + 1) size sizeF (gap + 1) now former last where
  now0 := b.now0
  deg := b.deg
  ann := fun k h1 h2 => by
    by_cases e : k = n
    · rw [e]; exact h
    · exact b.ann k h1 (by exact ar24 h2 e)
  gap1 := by exact ar22
  lastnz := b.lastnz
  degF := b.degF
  sum := by have := b.sum; exact ar25 this
  annF := fun k h1 h2 => b.annF k h1 (by exact ar26 h2)
  atF := fun h => by rw [Nat.add_sub_add_right]; exact b.atF (by exact ar27 h)
/-- the mended polynomial -/
theorem Bm.mend (b : Bm r n size sizeF gap now former last) {later : Nat → Rat} (hl : ∀ t, later t = now t - (if gap ≤ t then cv now r n / last * former (t - gap) else 0)) :
    later 0 = 1 ∧ (∀ i, max size (n + 1 - size) < i → later i = 0) ∧ ∀ k, max size (n + 1 - size) ≤ k → k < n + 1 → cv later r k = 0 := by
  have hs := b.sum
  have hg := b.gap1
  refine ⟨?_, fun i hi => ?_, fun k h1 h2 => ?_⟩
  · rw [hl, if_neg (by exact ar28 hg), b.now0]; grind
  · rw [hl, b.deg i (by exact ar29 hi)]
    split
    · rw [b.degF (i - gap) (by omega)]; grind
    · grind
  · have e : cv later r k = cv now r k - cv now r n / last * up gap (cv former r) k := by
      rw [← cv_up, ← cv_mul, ← cv_sub]
      exact cv_congr (fun i _ => by rw [hl]; simp only [up]; split <;> grind) fun _ _ => rfl
    rw [e]
    by_cases ek : k = n
    · subst ek
      by_cases eg : gap ≤ k
      · simp only [up, if_pos eg]
        rw [b.atF eg]
        have := b.lastnz
        grind
      · exfalso; exact (ar30 hs h1 eg).elim
    · rw [b.ann k (by exact ar31 h1) (by exact ar24 h2 ek)]
      simp only [up]
      split
      · rw [b.annF (k - gap) (by omega) (by exact ar32 h2 ek (by assumption))]; grind
      · grind
theorem Bm.stay (b : Bm r n size sizeF gap now former last) {later : Nat → Rat} (hl : ∀ t, later t = now t - (if gap ≤ t then cv now r n / last * former (t - gap) else 0)) (hs : n < 2 * size) :
    Bm r (n + 1) size sizeF (gap + 1) later former last := by
  obtain ⟨h1, h2, h3⟩ := b.mend hl
  have e : max size (n + 1 - size) = size := by exact ar33 hs
  rw [e] at h2 h3
  exact ⟨h1, h2, h3, by exact ar22, b.lastnz, b.degF, by have := b.sum; exact ar25 this, fun k h1 h2 => b.annF k h1 (by exact ar26 h2), fun h => by rw [Nat.add_sub_add_right]; exact b.atF (by exact ar27 h)⟩
theorem Bm.grow (b : Bm r n size sizeF gap now former last) {later : Nat → Rat} (hl : ∀ t, later t = now t - (if gap ≤ t then cv now r n / last * former (t - gap) else 0)) (hs : 2 * size ≤ n) (hn : cv now r n ≠ 0) :
    Bm r (n + 1) (n + 1 - size) size 1 later now (cv now r n) := by
  obtain ⟨h1, h2, h3⟩ := b.mend hl
  have e : max size (n + 1 - size) = n + 1 - size := by exact ar34 hs
  rw [e] at h2 h3
  exact ⟨h1, h2, h3, by exact ar35, hn, b.deg, by exact ar36 hs, fun k h1 h2 => b.ann k h1 (by exact ar37 h2), fun h => by rw [Nat.add_sub_cancel]⟩
/-- no recurrence is shorter -/
theorem Bm.least (b : Bm r n size sizeF gap now former last) (hn : cv now r n ≠ 0) {N L : Nat} {A : Nat → Rat} (hN : n < N) (A0 : A 0 = 1) (Ad : ∀ i, L < i → A i = 0) (Aa : ∀ k, L ≤ k → k < N → cv A r k = 0) : n + 1 - size ≤ L := by
  refine Decidable.byContradiction fun hc => hn ?_
  have e1 : cv A (cv now r) n = A 0 * cv now r n := cv_one (a := L) (fun i _ h => Ad i h) fun i h1 h2 => b.ann i (by exact ar38 hc h1) h2
  have e2 : cv now (cv A r) n = 0 := cv_none (a := size) (fun i _ h => b.deg i h) fun i h1 h2 => Aa i (by exact ar39 hc h1) (by exact ar40 hN h2)
  have e3 : cv A (cv now r) n = cv now (cv A r) n := by
    rw [← cv_assoc, ← cv_assoc]
    exact cv_congr (fun i _ => cv_comm ..) fun _ _ => rfl
  rw [A0] at e1
  grind
end Mine

namespace Mine
noncomputable def sw (i j x : Nat) : Nat := if x = i then j else if x = j then i else x
theorem sw_lt {n i j x : Nat} (hi : i < n) (hj : j < n) (hx : x < n) : sw i j x < n := by unfold sw; split; exact hj; split <;> assumption
theorem sw_inj {i j x y : Nat} (h : sw i j x = sw i j y) : x = y := by unfold sw at h; grind
theorem sm3 (f : Nat → Rat) : sm f 3 = f 0 + f 1 + f 2 := by simp [sm, Rat.zero_add]
theorem sm2 (f : Nat → Rat) : sm f 2 = f 0 + f 1 := by simp [sm, Rat.zero_add]
theorem sm1 (f : Nat → Rat) : sm f 1 = f 0 := by simp [sm, Rat.zero_add]
theorem sm0 (f : Nat → Rat) : sm f 0 = 0 := rfl

/-- the matrix by a column -/
noncomputable def rst (S : Nat → Nat → Rat) (t i j : Nat) : Rat := if i = t then S t j / S t t else S i j - S i t * (S t j / S t t)
/-- the first t columns are done -/
structure Ech (L : Nat) (c : Nat → Rat) (t : Nat) (N : Nat → Nat → Rat) : Prop where
  piv : ∀ k, k < min t L → ∀ i, i < 3 → N i k = if i = k then 1 else 0
  rel : ∀ j, L ≤ j → j < 3 → ∀ i, i < 3 → N i j = sm (fun k => c (k + 1) * N i (j - (k + 1))) L
  ind : ∀ v : Nat → Rat, (∀ j, L ≤ j → v j = 0) → (∀ i, i < 3 → sm (fun j => v j * N i j) 3 = 0) → ∀ j, v j = 0
theorem Ech.swap {L t p : Nat} {c : Nat → Rat} {N : Nat → Nat → Rat} (h : Ech L c t N) (h1 : t ≤ p) (h2 : p < 3) (h3 : t < L) : Ech L c t (fun x => N (sw t p x)) where
  piv := fun k hk i hi => by
    rw [h.piv k hk _ (sw_lt (by exact ar41 h1 h2) h2 hi)]
    unfold sw
    by_cases e1 : i = t
    · rw [if_pos e1, if_neg (by exact ar42 h1 hk), if_neg (by exact ar43 hk e1)]
    · rw [if_neg e1]
      by_cases e2 : i = p
      · rw [if_pos e2, if_neg (by exact ar44 hk), if_neg (by exact ar45 h1 hk e2)]
      · rw [if_neg e2]
  rel := fun j h4 h5 i hi => h.rel j h4 h5 _ (sw_lt (by exact ar41 h1 h2) h2 hi)
  ind := fun v hv hs => h.ind v hv fun i hi => by
    have := hs (sw t p i) (sw_lt (by exact ar41 h1 h2) h2 hi)
    have e : sw t p (sw t p i) = i := by unfold sw; grind
    rw [e] at this; exact this
theorem lt3 {P : Nat → Prop} (h0 : P 0) (h1 : P 1) (h2 : P 2) : ∀ i, i < 3 → P i
  | 0, _ => h0
  | 1, _ => h1
  | 2, _ => h2
  | _ + 3, h => by exact (ar46 h).elim
/-- while the columns are free there is a pivot -/
theorem Ech.some {L t : Nat} {c : Nat → Rat} {N : Nat → Nat → Rat} (h : Ech L c t N) (ht : t < L) (hL : L ≤ 3) : ∃ i, t ≤ i ∧ i < 3 ∧ N i t ≠ 0 := by
  refine Classical.byContradiction fun hc => ?_
  have hz : ∀ i, t ≤ i → i < 3 → N i t = 0 := fun i h1 h2 => Classical.byContradiction fun h3 => hc ⟨i, h1, h2, h3⟩
  have hp : ∀ i, i < 3 → ∀ k, k < t → N i k = if i = k then 1 else 0 := fun i hi k hk => h.piv k (by exact ar47 ht hk) i hi
  have key := h.ind (fun j => if j < t then N j t else if j = t then -1 else 0) (fun j hj => by
    have a : ¬ j < t := by exact ar48 ht hj
    have b : ¬ j = t := by exact ar49 ht hj
    simp [a, b]) (fun i hi => by
    rw [sm3]
    match t, (show t < 3 by exact ar50 ht hL) with
    | 0, _ => have := hz i (by exact ar51) hi; simp; grind
    | 1, _ =>
      have a := hp i hi 0 (by exact ar52)
      by_cases e : i = 0
      · subst e; simp at a ⊢; rw [a]; grind
      · have b := hz i (by exact ar53 e) hi
        simp [e] at a ⊢; rw [a, b]; grind
    | 2, _ =>
      have a := hp i hi 0 (by exact ar54)
      have b := hp i hi 1 (by exact ar55)
      by_cases e : i = 0
      · subst e; simp at a b ⊢; rw [a, b]; grind
      · by_cases e1 : i = 1
        · subst e1; simp at a b ⊢; rw [a, b]; grind
        · have d := hz i (by exact ar56 e e1) hi
          simp [e, e1] at a b ⊢; rw [a, b, d]; grind) t
  simp at key
  exact absurd key (by decide)
theorem Ech.step {L t : Nat} {c : Nat → Rat} {S : Nat → Nat → Rat} (h : Ech L c t S) (ht : t < L) (hL : L ≤ 3) (h0 : S t t ≠ 0) : Ech L c (t + 1) (rst S t) where
  piv := fun k hk i hi => by
    unfold rst
    by_cases e : k = t
    · subst e
      by_cases e2 : i = k
      · rw [if_pos e2, if_pos e2]; grind
      · rw [if_neg e2, if_neg e2]; grind
    · have a := h.piv k (by exact ar57 hk e) i hi
      have b := h.piv k (by omega) t (by exact ar50 ht hL)
      rw [if_neg (by exact ar58 e)] at b
      by_cases e2 : i = t
      · rw [if_pos e2, if_neg (by exact ar59 e e2), b]; grind
      · rw [if_neg e2, b, a]; grind
  rel := fun j h4 h5 i hi => by
    have a := h.rel j h4 h5 i hi
    have b := h.rel j h4 h5 t (by exact ar60 ht h4 h5)
    match L, (show 1 ≤ L by exact ar61 ht), hL with
    | 1, _, _ => rw [sm1] at a b ⊢; unfold rst; split <;> grind
    | 2, _, _ => rw [sm2] at a b ⊢; unfold rst; split <;> grind
    | 3, _, _ => exact ar62 h5 h4
  ind := fun v hv hs => h.ind v hv fun i hi => by
    have a := hs i hi
    have b := hs t (by exact ar50 ht hL)
    rw [sm3] at a b ⊢
    unfold rst at a b
    rw [if_pos rfl, if_pos rfl, if_pos rfl] at b
    have b' : v 0 * S t 0 + v 1 * S t 1 + v 2 * S t 2 = 0 := by grind
    by_cases e : i = t
    · subst e; exact b'
    · rw [if_neg e, if_neg e, if_neg e] at a
      have : (v 0 * (S i 0 - S i t * (S t 0 / S t t)) + v 1 * (S i 1 - S i t * (S t 1 / S t t)) + v 2 * (S i 2 - S i t * (S t 2 / S t t))) = (v 0 * S i 0 + v 1 * S i 1 + v 2 * S i 2) - S i t / S t t * (v 0 * S t 0 + v 1 * S t 1 + v 2 * S t 2) := by grind
      rw [this, b'] at a
      grind
theorem Ech.none {L t : Nat} {c : Nat → Rat} {N : Nat → Nat → Rat} (h : Ech L c t N) (ht : L ≤ t) (i : Nat) (h1 : L ≤ i) (hi : i < 3) (j : Nat) (h2 : L ≤ j) (hj : j < 3) : N i j = 0 := by
  match L, (show L < 3 by exact ar41 h2 hj) with
  | 0, _ => rw [h.rel j h2 hj i hi, sm0]
  | 1, _ =>
    have a := h.piv 0 (by exact ar63 ht) i hi
    rw [if_neg (by exact ar2 h1)] at a
    have b := h.rel 1 (by exact ar35) (by exact ar64) i hi
    rw [sm1] at b
    have b : N i 1 = c 1 * N i 0 := b
    by_cases e : j = 1
    · subst e; rw [b, a]; grind
    · have e : j = 2 := by exact ar65 hj h2 e
      subst e
      have d := h.rel 2 (by exact ar66) (by exact ar67) i hi
      rw [sm1] at d
      have d : N i 2 = c 1 * N i 1 := d
      rw [d, b, a]; grind
  | 2, _ =>
    have a := h.piv 0 (by exact ar68 ht) i hi
    have b := h.piv 1 (by exact ar69 ht) i hi
    rw [if_neg (by (first | exact ar70 h1 | exact ar71 h1))] at a b
    have e : j = 2 := by exact ar72 hj h2
    subst e
    have d := h.rel 2 (by exact ar73) (by exact ar67) i hi
    rw [sm2] at d
    have d : N i 2 = c 1 * N i 1 + c 2 * N i 0 := d
    rw [d, a, b]; grind
theorem Ech.over {L t : Nat} {c : Nat → Rat} {N : Nat → Nat → Rat} (h : Ech L c t N) (ht : L ≤ t) : Ech L c (t + 1) N where
  piv := fun k hk => h.piv k (by exact ar74 ht hk)
  rel := h.rel
  ind := h.ind
end Mine

namespace Mine

/-- the leading determinant of the square of the row -/
noncomputable def dt (r : Nat → Int) : Nat → Int
  | 0 => 1
  | 1 => r 0
  | 2 => r 0 * r 2 - r 1 * r 1
  | 3 => r 0 * (r 2 * r 4 - r 3 * r 3) - r 1 * (r 1 * r 4 - r 3 * r 2) + r 2 * (r 1 * r 3 - r 2 * r 2)
  | _ => 0
structure Good (r : Nat → Int) (L : Nat) (c : Nat → Int) : Prop where
  hL : L ≤ 3
  rc : ∀ k, L ≤ k → k < 6 → (r k : Rat) = sm (fun i => (c (i + 1) : Rat) * (r (k - (i + 1)) : Rat)) L
  det : dt r L ≠ 0
  cb : ∀ i, (c i).natAbs < 256
noncomputable def r6 (r0 r1 r2 r3 r4 r5 : Int) : Nat → Int | 0 => r0 | 1 => r1 | 2 => r2 | 3 => r3 | 4 => r4 | 5 => r5 | _ => 0
noncomputable def c3 (a b c : Int) : Nat → Int | 1 => a | 2 => b | 3 => c | _ => 0

noncomputable def low (r0 r1 r2 r3 r4 r5 : Int) : Bool :=
  let d := r1 * r1 - r0 * r2
  if d != 0 then
    let c1 := (r2 * r1 - r0 * r3) / d
    let c2 := (r1 * r3 - r2 * r2) / d
    c1.natAbs < 256 && c2.natAbs < 256 && r2 == c1 * r1 + c2 * r0 && r3 == c1 * r2 + c2 * r1 && r4 == c1 * r3 + c2 * r2 && r5 == c1 * r4 + c2 * r3
  else if r0 != 0 then
    let q := r1 / r0
    q.natAbs < 256 && r1 == q * r0 && r2 == q * r1 && r3 == q * r2 && r4 == q * r3 && r5 == q * r4
  else r1 == 0 && r2 == 0 && r3 == 0 && r4 == 0 && r5 == 0
theorem lt6 {P : Nat → Prop} (h0 : P 0) (h1 : P 1) (h2 : P 2) (h3 : P 3) (h4 : P 4) (h5 : P 5) : ∀ i, i < 6 → P i
  | 0, _ => h0
  | 1, _ => h1
  | 2, _ => h2
  | 3, _ => h3
  | 4, _ => h4
  | 5, _ => h5
  | _ + 6, h => by exact (ar75 h).elim
theorem c3b {a b c : Int} (h1 : a.natAbs < 256) (h2 : b.natAbs < 256) (h3 : c.natAbs < 256) (i : Nat) : (c3 a b c i).natAbs < 256 := by
  unfold c3
  split
  · exact h1
  · exact h2
  · exact h3
  · decide
theorem low_good {r0 r1 r2 r3 r4 r5 : Int} (h : low r0 r1 r2 r3 r4 r5 = true) : ∃ L c, L ≤ 2 ∧ (r0 * r2 - r1 * r1 = 0 → L ≤ 1) ∧ Good (r6 r0 r1 r2 r3 r4 r5) L c := by
  unfold low at h
  dsimp only at h
  by_cases hd : r1 * r1 - r0 * r2 = 0
  · rw [if_neg (by simp [hd])] at h
    by_cases h0 : r0 = 0
    · rw [if_neg (by simp [h0])] at h
      simp only [Bool.and_eq_true, beq_iff_eq] at h
      obtain ⟨⟨⟨⟨h1, h2⟩, h3⟩, h4⟩, h5⟩ := h
      subst h0 h1 h2 h3 h4 h5
      exact ⟨0, fun _ => 0, by decide, fun _ => by decide, by decide, fun k _ hk => lt6 (P := fun k => ((r6 0 0 0 0 0 0 k : Int) : Rat) = 0) rfl rfl rfl rfl rfl rfl k hk, by decide, fun _ => by decide⟩
    · rw [if_pos (by simp [h0])] at h
      simp only [Bool.and_eq_true, beq_iff_eq, decide_eq_true_eq] at h
      generalize r1 / r0 = q at h
      obtain ⟨⟨⟨⟨⟨hq, h1⟩, h2⟩, h3⟩, h4⟩, h5⟩ := h
      refine ⟨1, c3 q 0 0, by decide, fun _ => by decide, by decide, fun k h6 hk => ?_, h0, c3b hq (by decide) (by decide)⟩
      rw [sm1]
      have g : ∀ x y : Int, x = q * y → (x : Rat) = (q : Rat) * (y : Rat) := fun x y e => by rw [e, Rat.intCast_mul]
      match k, h6, hk with
      | 1, _, _ => exact g _ _ h1
      | 2, _, _ => exact g _ _ h2
      | 3, _, _ => exact g _ _ h3
      | 4, _, _ => exact g _ _ h4
      | 5, _, _ => exact g _ _ h5
      | k + 6, _, _ => exact ar76 (by assumption)
  · rw [if_pos (by simp [hd])] at h
    simp only [Bool.and_eq_true, beq_iff_eq, decide_eq_true_eq] at h
    generalize (r2 * r1 - r0 * r3) / (r1 * r1 - r0 * r2) = c1 at h
    generalize (r1 * r3 - r2 * r2) / (r1 * r1 - r0 * r2) = c2 at h
    obtain ⟨⟨⟨⟨⟨hq, hq2⟩, h2⟩, h3⟩, h4⟩, h5⟩ := h
    refine ⟨2, c3 c1 c2 0, by decide, fun h => by exact ar77 hd h, by decide, fun k h6 hk => ?_, fun h => hd ?_, c3b hq hq2 (by decide)⟩
    · rw [sm2]
      have g : ∀ x y z : Int, x = c1 * y + c2 * z → (x : Rat) = (c1 : Rat) * (y : Rat) + (c2 : Rat) * (z : Rat) := fun x y z e => by rw [e, Rat.intCast_add, Rat.intCast_mul, Rat.intCast_mul]
      match k, h6, hk with
      | 2, _, _ => exact g _ _ _ h2
      | 3, _, _ => exact g _ _ _ h3
      | 4, _, _ => exact g _ _ _ h4
      | 5, _, _ => exact g _ _ _ h5
      | k + 6, _, _ => exact ar76 (by assumption)
    · have h : r0 * r2 - r1 * r1 = 0 := h
      exact ar78 h
noncomputable def smallb (x : Int) : Bool := x.natAbs < 256
noncomputable def chk1 (s a : Int) : Bool :=
  let r1 := s * a; let r2 := s * r1; let r3 := s * r2; let r4 := s * r3; let r5 := s * r4
  r5.natAbs < 256 && r4.natAbs < 256 && r3.natAbs < 256 && low a r1 r2 r3 r4 r5 && a * r2 - r1 * r1 == 0
noncomputable def chk2 (s t a b : Int) : Bool :=
  let r2 := s * b + t * a; let r3 := s * r2 + t * b; let r4 := s * r3 + t * r2; let r5 := s * r4 + t * r3
  r5.natAbs < 256 && r4.natAbs < 256 && r3.natAbs < 256 && low a b r2 r3 r4 r5
noncomputable def chk3 (s t u a b c : Int) : Bool :=
  let r3 := s * c + t * b + u * a; let r4 := s * r3 + t * c + u * b; let r5 := s * r4 + t * r3 + u * c
  r5.natAbs < 256 && r4.natAbs < 256 && r3.natAbs < 256 && (a * (c * r4 - r3 * r3) - b * (b * r4 - r3 * c) + c * (b * r3 - c * c) != 0 || low a b c r3 r4 r5)
noncomputable def dom : List Int := [-2, -1, 0, 1, 2]
theorem all1 : (dom.all fun s => dom.all fun a => chk1 s a) = true := by decide +kernel
theorem all2 : (dom.all fun s => dom.all fun t => dom.all fun a => dom.all fun b => chk2 s t a b) = true := by decide +kernel
noncomputable def chk3t (s t : Int) : Bool := dom.all fun u => dom.all fun a => dom.all fun b => dom.all fun c => chk3 s t u a b c
theorem all3_aa : chk3t (-2) (-2) = true := by decide +kernel
theorem all3_ab : chk3t (-2) (-1) = true := by decide +kernel
theorem all3_ac : chk3t (-2) 0 = true := by decide +kernel
theorem all3_ad : chk3t (-2) 1 = true := by decide +kernel
theorem all3_ae : chk3t (-2) 2 = true := by decide +kernel
theorem all3_ba : chk3t (-1) (-2) = true := by decide +kernel
theorem all3_bb : chk3t (-1) (-1) = true := by decide +kernel
theorem all3_bc : chk3t (-1) 0 = true := by decide +kernel
theorem all3_bd : chk3t (-1) 1 = true := by decide +kernel
theorem all3_be : chk3t (-1) 2 = true := by decide +kernel
theorem all3_ca : chk3t 0 (-2) = true := by decide +kernel
theorem all3_cb : chk3t 0 (-1) = true := by decide +kernel
theorem all3_cc : chk3t 0 0 = true := by decide +kernel
theorem all3_cd : chk3t 0 1 = true := by decide +kernel
theorem all3_ce : chk3t 0 2 = true := by decide +kernel
theorem all3_da : chk3t 1 (-2) = true := by decide +kernel
theorem all3_db : chk3t 1 (-1) = true := by decide +kernel
theorem all3_dc : chk3t 1 0 = true := by decide +kernel
theorem all3_dd : chk3t 1 1 = true := by decide +kernel
theorem all3_de : chk3t 1 2 = true := by decide +kernel
theorem all3_ea : chk3t 2 (-2) = true := by decide +kernel
theorem all3_eb : chk3t 2 (-1) = true := by decide +kernel
theorem all3_ec : chk3t 2 0 = true := by decide +kernel
theorem all3_ed : chk3t 2 1 = true := by decide +kernel
theorem all3_ee : chk3t 2 2 = true := by decide +kernel
theorem all3 (s : Int) (hs : s ∈ dom) (t : Int) (ht : t ∈ dom) : chk3t s t = true := by
  simp only [dom, List.mem_cons, List.not_mem_nil, or_false] at hs ht
  rcases hs with rfl | rfl | rfl | rfl | rfl <;> rcases ht with rfl | rfl | rfl | rfl | rfl
  · exact all3_aa
  · exact all3_ab
  · exact all3_ac
  · exact all3_ad
  · exact all3_ae
  · exact all3_ba
  · exact all3_bb
  · exact all3_bc
  · exact all3_bd
  · exact all3_be
  · exact all3_ca
  · exact all3_cb
  · exact all3_cc
  · exact all3_cd
  · exact all3_ce
  · exact all3_da
  · exact all3_db
  · exact all3_dc
  · exact all3_dd
  · exact all3_de
  · exact all3_ea
  · exact all3_eb
  · exact all3_ec
  · exact all3_ed
  · exact all3_ee
end Mine

namespace Mine
set_option linter.unusedSimpArgs false

noncomputable def rq (r : Nat → Int) (k : Nat) : Rat := (r k : Rat)
noncomputable def AA (L : Nat) (c : Nat → Int) (i : Nat) : Rat := if i = 0 then 1 else if i ≤ L then -(c i : Rat) else 0
theorem ic_ne {x : Int} (h : x ≠ 0) : (x : Rat) ≠ 0 := by
  intro e; exact h (by exact_mod_cast e)

theorem Good.ns {r : Nat → Int} {L : Nat} {c : Nat → Int} (g : Good r L c) (v : Nat → Rat) (h : ∀ a, a < L → sm (fun j => v j * rq r (a + j)) L = 0) (j : Nat) (hj : j < L) : v j = 0 := by
  have hd := ic_ne g.det
  match L, g.hL, h, hj, hd with
  | 1, _, h, hj, hd =>
    have e0 := h 0 (by exact ar52)
    rw [sm1] at e0
    have e : j = 0 := by exact ar79 hj
    subst e
    have hd : (r 0 : Rat) ≠ 0 := hd
    simp only [rq, Nat.add_zero] at e0
    grind
  | 2, _, h, hj, hd =>
    have e0 := h 0 (by exact ar54)
    have e1 := h 1 (by exact ar55)
    rw [sm2] at e0 e1
    simp only [dt, Rat.intCast_mul, Rat.intCast_sub] at hd
    simp only [rq, Nat.add_zero, Nat.zero_add, Nat.reduceAdd] at e0 e1
    match j, hj with
    | 0, _ =>
      have : v 0 * ((r 0 : Rat) * r 2 - r 1 * r 1) = 0 := by grind
      grind
    | 1, _ =>
      have : v 1 * ((r 0 : Rat) * r 2 - r 1 * r 1) = 0 := by grind
      grind
    | j + 2, hj => exact ar80 hj
  | 3, _, h, hj, hd =>
    have e0 := h 0 (by exact ar81)
    have e1 := h 1 (by exact ar64)
    have e2 := h 2 (by exact ar67)
    rw [sm3] at e0 e1 e2
    simp only [dt, Rat.intCast_mul, Rat.intCast_sub, Rat.intCast_add] at hd
    simp only [rq, Nat.add_zero, Nat.zero_add, Nat.reduceAdd] at e0 e1 e2
    generalize (r 0 : Rat) = r0 at *
    generalize (r 1 : Rat) = r1 at *
    generalize (r 2 : Rat) = r2 at *
    generalize (r 3 : Rat) = r3 at *
    generalize (r 4 : Rat) = r4 at *
    match j, hj with
    | 0, _ =>
      have e : v 0 * (r0 * (r2 * r4 - r3 * r3) - r1 * (r1 * r4 - r3 * r2) + r2 * (r1 * r3 - r2 * r2)) = (1) * (r2 * r4 - r3 * r3) * (v 0 * r0 + v 1 * r1 + v 2 * r2) + (-1) * (r1 * r4 - r3 * r2) * (v 0 * r1 + v 1 * r2 + v 2 * r3) + (1) * (r1 * r3 - r2 * r2) * (v 0 * r2 + v 1 * r3 + v 2 * r4) := by grind
      rw [e0, e1, e2] at e
      have e : v 0 * (r0 * (r2 * r4 - r3 * r3) - r1 * (r1 * r4 - r3 * r2) + r2 * (r1 * r3 - r2 * r2)) = 0 := by rw [e]; grind
      exact (Rat.mul_eq_zero.mp e).resolve_right hd
    | 1, _ =>
      have e : v 1 * (r0 * (r2 * r4 - r3 * r3) - r1 * (r1 * r4 - r3 * r2) + r2 * (r1 * r3 - r2 * r2)) = (-1) * (r1 * r4 - r3 * r2) * (v 0 * r0 + v 1 * r1 + v 2 * r2) + (1) * (r0 * r4 - r2 * r2) * (v 0 * r1 + v 1 * r2 + v 2 * r3) + (-1) * (r0 * r3 - r1 * r2) * (v 0 * r2 + v 1 * r3 + v 2 * r4) := by grind
      rw [e0, e1, e2] at e
      have e : v 1 * (r0 * (r2 * r4 - r3 * r3) - r1 * (r1 * r4 - r3 * r2) + r2 * (r1 * r3 - r2 * r2)) = 0 := by rw [e]; grind
      exact (Rat.mul_eq_zero.mp e).resolve_right hd
    | 2, _ =>
      have e : v 2 * (r0 * (r2 * r4 - r3 * r3) - r1 * (r1 * r4 - r3 * r2) + r2 * (r1 * r3 - r2 * r2)) = (1) * (r1 * r3 - r2 * r2) * (v 0 * r0 + v 1 * r1 + v 2 * r2) + (-1) * (r0 * r3 - r1 * r2) * (v 0 * r1 + v 1 * r2 + v 2 * r3) + (1) * (r0 * r2 - r1 * r1) * (v 0 * r2 + v 1 * r3 + v 2 * r4) := by grind
      rw [e0, e1, e2] at e
      have e : v 2 * (r0 * (r2 * r4 - r3 * r3) - r1 * (r1 * r4 - r3 * r2) + r2 * (r1 * r3 - r2 * r2)) = 0 := by rw [e]; grind
      exact (Rat.mul_eq_zero.mp e).resolve_right hd
    | j + 3, hj => exact ar82 hj
  | L + 4, hL, _, _, _ => exact ar83 hL

theorem Good.ker {r : Nat → Int} {L : Nat} {c : Nat → Int} (g : Good r L c) (u : Nat → Rat) (h0 : u 0 = 0) (hb : ∀ i, L < i → u i = 0) (h : ∀ k, L ≤ k → k < 2 * L → cv u (rq r) k = 0) (i : Nat) : u i = 0 := by
  by_cases e0 : i = 0
  · rw [e0]; exact h0
  · by_cases e1 : L < i
    · exact hb i e1
    · have key := g.ns (fun j => u (L - j)) (fun a ha => ?_) (L - i) (by exact ar84 e0 e1)
      · have e : L - (L - i) = i := by exact ar85 e1
        simp only [e] at key
        exact key
      · have hk := h (L + a) (by exact ar86) (by exact ar87 ha)
        match L, g.hL, a, ha with
        | 1, _, 0, _ =>
          simp only [cv, sm, Nat.sub_zero, Nat.reduceSub, Nat.reduceAdd, Nat.add_zero, Nat.zero_add] at hk ⊢
          rw [h0] at hk; grind
        | 2, _, 0, _ =>
          simp only [cv, sm, Nat.sub_zero, Nat.reduceSub, Nat.reduceAdd, Nat.add_zero, Nat.zero_add] at hk ⊢
          rw [h0] at hk; grind
        | 2, _, 1, _ =>
          have h3 := hb 3 (by exact ar67)
          simp only [cv, sm, Nat.sub_zero, Nat.reduceSub, Nat.reduceAdd, Nat.add_zero, Nat.zero_add] at hk ⊢
          rw [h0, h3] at hk; grind
        | 3, _, 0, _ =>
          simp only [cv, sm, Nat.sub_zero, Nat.reduceSub, Nat.reduceAdd, Nat.add_zero, Nat.zero_add] at hk ⊢
          rw [h0] at hk; grind
        | 3, _, 1, _ =>
          have h4 := hb 4 (by exact ar88)
          simp only [cv, sm, Nat.sub_zero, Nat.reduceSub, Nat.reduceAdd, Nat.add_zero, Nat.zero_add] at hk ⊢
          rw [h0, h4] at hk; grind
        | 3, _, 2, _ =>
          have h4 := hb 4 (by exact ar88)
          have h5 := hb 5 (by exact ar89)
          simp only [cv, sm, Nat.sub_zero, Nat.reduceSub, Nat.reduceAdd, Nat.add_zero, Nat.zero_add] at hk ⊢
          rw [h0, h4, h5] at hk; grind
        | L + 4, hL, _, _ => exact ar83 hL
        | 0, _, a, ha => exact ar90 ha
        | 1, _, a + 1, ha => exact ar91 ha
        | 2, _, a + 2, ha => exact ar80 ha
        | 3, _, a + 3, ha => exact ar82 ha
theorem AA_big {L i : Nat} {c : Nat → Int} (h : L < i) : AA L c i = 0 := by rw [AA, if_neg (by exact ar92 h), if_neg (by exact ar93 h)]
theorem Good.cvA {r : Nat → Int} {L : Nat} {c : Nat → Int} (g : Good r L c) (k : Nat) (h1 : L ≤ k) (h2 : k < 6) : cv (AA L c) (rq r) k = 0 := by
  rw [cv, sm_head, sm_more (m := L) h1 (fun i h3 h4 => by rw [AA_big (by exact ar94 h3), Rat.zero_mul])]
  have e := g.rc k h1 h2
  have e2 : sm (fun i => AA L c (i + 1) * rq r (k - (i + 1))) L = -1 * sm (fun i => (c (i + 1) : Rat) * (r (k - (i + 1)) : Rat)) L := by
    rw [← sm_mul]
    exact sm_congr fun i hi => by rw [AA, if_neg (by exact ar95), if_pos (by exact ar96 hi)]; simp only [rq]; grind
  rw [e2, ← e]
  simp only [AA, rq, if_true, Nat.sub_zero]
  grind
/-- a polynomial that goes with the row is the row's own -/
theorem Good.same {r : Nat → Int} {L : Nat} {c : Nat → Int} (g : Good r L c) (D : Nat → Rat) (hb : ∀ i, L < i → D i = 0) (h : ∀ k, L ≤ k → k < 2 * L → cv D (rq r) k = 0) (i : Nat) : D i = D 0 * AA L c i := by
  have hL := g.hL
  have key := g.ker (fun i => D i - D 0 * AA L c i) (by simp only [AA, if_true]; grind) (fun i hi => by simp only [hb i hi, AA_big hi]; grind) (fun k h1 h2 => by
    rw [cv_sub, h k h1 h2, cv_mul, g.cvA k h1 (by exact ar97 hL h2)]; grind) i
  grind
theorem Good.tell {r : Nat → Int} {L l : Nat} {c : Nat → Int} (g : Good r L c) (D : Nat → Rat) (hl : l ≤ L) (h0 : D 0 = 1) (hb : ∀ i, l < i → D i = 0) (h : ∀ k, l ≤ k → k < 6 → cv D (rq r) k = 0) : l = L ∧ ∀ i, D i = AA L c i := by
  have hL := g.hL
  refine ⟨?_, fun i => ?_⟩
  · refine Decidable.byContradiction fun hc => ?_
    have key := g.ns (fun j => if j < L then D (L - 1 - j) else 0) (fun a ha => ?_) (L - 1) (by exact ar98 hl hc)
    · simp only [show L - 1 < L by omega, if_true, Nat.sub_self, h0] at key
      exact absurd key (by decide)
    · have hk := h (L - 1 + a) (by exact ar99 hl hc) (by exact ar100 hL ha)
      match L, hL, a, ha with
      | 1, _, 0, _ =>
        simp only [cv, sm, Nat.sub_zero, Nat.reduceSub, Nat.reduceAdd, Nat.add_zero, Nat.zero_add, Nat.reduceLT, if_true] at hk ⊢
        grind
      | 2, _, 0, _ =>
        simp only [cv, sm, Nat.sub_zero, Nat.reduceSub, Nat.reduceAdd, Nat.add_zero, Nat.zero_add, Nat.reduceLT, if_true] at hk ⊢
        grind
      | 2, _, 1, _ =>
        have h3 := hb 2 (by exact ar101 hl hc)
        simp only [cv, sm, Nat.sub_zero, Nat.reduceSub, Nat.reduceAdd, Nat.add_zero, Nat.zero_add, Nat.reduceLT, if_true] at hk ⊢
        rw [h3] at hk; grind
      | 3, _, 0, _ =>
        simp only [cv, sm, Nat.sub_zero, Nat.reduceSub, Nat.reduceAdd, Nat.add_zero, Nat.zero_add, Nat.reduceLT, if_true] at hk ⊢
        grind
      | 3, _, 1, _ =>
        have h3 := hb 3 (by exact ar102 hl hc)
        simp only [cv, sm, Nat.sub_zero, Nat.reduceSub, Nat.reduceAdd, Nat.add_zero, Nat.zero_add, Nat.reduceLT, if_true] at hk ⊢
        rw [h3] at hk; grind
      | 3, _, 2, _ =>
        have h3 := hb 3 (by exact ar102 hl hc)
        have h4 := hb 4 (by exact ar103 hl)
        simp only [cv, sm, Nat.sub_zero, Nat.reduceSub, Nat.reduceAdd, Nat.add_zero, Nat.zero_add, Nat.reduceLT, if_true] at hk ⊢
        rw [h3, h4] at hk; grind
      | L + 4, hL, _, _ => exact ar83 hL
      | 0, _, a, ha => exact ar90 ha
      | 1, _, a + 1, ha => exact ar91 ha
      | 2, _, a + 2, ha => exact ar80 ha
      | 3, _, a + 3, ha => exact ar82 ha
  · rw [g.same D (fun i hi => hb i (by exact ar104 hl hi)) (fun k h1 h2 => h k (by exact ar105 hl h1) (by exact ar97 hL h2)) i, h0, Rat.one_mul]
theorem Good.ech {r : Nat → Int} {L : Nat} {c : Nat → Int} (g : Good r L c) : Ech L (fun i => (c i : Rat)) 0 (fun i j => rq r (i + j)) where
  piv := fun k hk => by exact (ar106 hk).elim
  rel := fun j h1 h2 i hi => by
    have hL := g.hL
    show (r (i + j) : Rat) = _
    rw [g.rc (i + j) (by exact ar107 h1) (by exact ar108 h2 hi)]
    exact sm_congr fun k hk => by rw [show i + j - (k + 1) = i + (j - (k + 1)) by exact ar109 h1 hk]; rfl
  ind := fun v hv hs j => by
    have hL := g.hL
    by_cases e : L ≤ j
    · exact hv j e
    · refine g.ns v (fun a ha => ?_) j (by exact ar21 e)
      have := hs a (by exact ar110 hL ha)
      rw [sm_more (m := L) hL (fun i h1 h2 => by rw [hv i h1, Rat.zero_mul])] at this
      exact this
end Mine

namespace Mine
set_option linter.unusedSimpArgs false
noncomputable def gi (W : List Int) (k : Nat) : Int := W.getD k 0
theorem gi6 (a b c d e f : Int) : gi [a, b, c, d, e, f] = r6 a b c d e f := by
  funext k
  match k with
  | 0 => rfl
  | 1 => rfl
  | 2 => rfl
  | 3 => rfl
  | 4 => rfl
  | 5 => rfl
  | k + 6 => simp [gi, r6]
theorem dom_small {x : Int} (h : x ∈ dom) : x.natAbs < 256 := by
  have : ∀ x ∈ dom, x.natAbs < 256 := by decide
  exact this x h
structure IsRow (n : Nat) (steps init W : List Int) : Prop where
  len : W.length = 6
  ini : W.take n = init
  rc : ∀ k, n ≤ k → k < 6 → gi W k = ((List.range n).map fun t => gi steps t * gi W (k - 1 - t)).sum
  sm : ∀ k, (gi W k).natAbs < 256
theorem small6 {a b c d e f : Int} (h0 : a.natAbs < 256) (h1 : b.natAbs < 256) (h2 : c.natAbs < 256) (h3 : d.natAbs < 256) (h4 : e.natAbs < 256) (h5 : f.natAbs < 256) (k : Nat) : (gi [a, b, c, d, e, f] k).natAbs < 256 := by
  rw [gi6]
  match k with
  | 0 => exact h0
  | 1 => exact h1
  | 2 => exact h2
  | 3 => exact h3
  | 4 => exact h4
  | 5 => exact h5
  | k + 6 => show (0 : Int).natAbs < 256; decide
theorem row_of {n : Nat} {steps init : List Int} (h1 : 1 ≤ n) (h3 : n ≤ 3) (hs : steps.length = n) (hi : init.length = n) (ds : ∀ x ∈ steps, x ∈ dom) (di : ∀ x ∈ init, x ∈ dom) :
    ∃ W, IsRow n steps init W ∧ ∃ L c, L ≤ n ∧ Good (gi W) L c := by
  match n, steps, init, h1, h3, hs, hi, ds, di with
  | 1, [s], [a], _, _, _, _, ds, di =>
    have hs := ds s (by simp)
    have ha := di a (by simp)
    have h := List.all_eq_true.mp (List.all_eq_true.mp all1 s hs) a ha
    unfold chk1 at h
    simp only [Bool.and_eq_true, decide_eq_true_eq, beq_iff_eq] at h
    obtain ⟨⟨⟨⟨b5, b4⟩, b3⟩, hl⟩, hd⟩ := h
    obtain ⟨L, c, _, hL, g⟩ := low_good hl
    refine ⟨[a, s * a, s * (s * a), s * (s * (s * a)), s * (s * (s * (s * a))), s * (s * (s * (s * (s * a))))], ⟨rfl, rfl, fun k h6 hk => ?_, small6 (dom_small ha) ?_ ?_ b3 b4 b5⟩, L, c, hL hd, by rw [gi6]; exact g⟩
    · match k, h6, hk with
      | 1, _, _ => simp [gi]
      | 2, _, _ => simp [gi]
      | 3, _, _ => simp [gi]
      | 4, _, _ => simp [gi]
      | 5, _, _ => simp [gi]
      | k + 6, _, _ => exact ar111 (by assumption)
    · have : ∀ s ∈ dom, ∀ a ∈ dom, (s * a).natAbs < 256 := by decide
      exact this s hs a ha
    · have : ∀ s ∈ dom, ∀ a ∈ dom, (s * (s * a)).natAbs < 256 := by decide
      exact this s hs a ha
  | 2, [s, t], [a, b], _, _, _, _, ds, di =>
    have hs := ds s (by simp)
    have ht := ds t (by simp)
    have ha := di a (by simp)
    have hb := di b (by simp)
    have h := List.all_eq_true.mp (List.all_eq_true.mp (List.all_eq_true.mp (List.all_eq_true.mp all2 s hs) t ht) a ha) b hb
    unfold chk2 at h
    simp only [Bool.and_eq_true, decide_eq_true_eq] at h
    obtain ⟨⟨⟨b5, b4⟩, b3⟩, hl⟩ := h
    obtain ⟨L, c, hL, _, g⟩ := low_good hl
    generalize e2 : s * b + t * a = r2 at *
    generalize e3 : s * r2 + t * b = r3 at *
    generalize e4 : s * r3 + t * r2 = r4 at *
    generalize e5 : s * r4 + t * r3 = r5 at *
    refine ⟨[a, b, r2, r3, r4, r5], ⟨rfl, rfl, fun k h6 hk => ?_, small6 (dom_small ha) (dom_small hb) ?_ b3 b4 b5⟩, L, c, hL, by rw [gi6]; exact g⟩
    · match k, h6, hk with
      | 2, _, _ => simp [gi, List.range_succ]; exact ar112 e2
      | 3, _, _ => simp [gi, List.range_succ]; exact ar112 e3
      | 4, _, _ => simp [gi, List.range_succ]; exact ar112 e4
      | 5, _, _ => simp [gi, List.range_succ]; exact ar112 e5
      | k + 6, _, _ => exact ar111 (by assumption)
    · have : ∀ s ∈ dom, ∀ t ∈ dom, ∀ a ∈ dom, ∀ b ∈ dom, (s * b + t * a).natAbs < 256 := by decide +kernel
      rw [← e2]; exact this s hs t ht a ha b hb
  | 3, [s, t, u], [a, b, c], _, _, _, _, ds, di =>
    have hs := ds s (by simp)
    have ht := ds t (by simp)
    have hu := ds u (by simp)
    have ha := di a (by simp)
    have hb := di b (by simp)
    have hc := di c (by simp)
    have h := List.all_eq_true.mp (List.all_eq_true.mp (List.all_eq_true.mp (List.all_eq_true.mp (all3 s hs t ht) u hu) a ha) b hb) c hc
    unfold chk3 at h
    simp only [Bool.and_eq_true, Bool.or_eq_true, decide_eq_true_eq, bne_iff_ne] at h
    obtain ⟨⟨⟨b5, b4⟩, b3⟩, hl⟩ := h
    generalize e3 : s * c + t * b + u * a = r3 at *
    generalize e4 : s * r3 + t * c + u * b = r4 at *
    generalize e5 : s * r4 + t * r3 + u * c = r5 at *
    have hrow : IsRow 3 [s, t, u] [a, b, c] [a, b, c, r3, r4, r5] := by
      refine ⟨rfl, rfl, fun k h6 hk => ?_, small6 (dom_small ha) (dom_small hb) (dom_small hc) b3 b4 b5⟩
      match k, h6, hk with
      | 3, _, _ => simp [gi, List.range_succ]; exact ar113 e3
      | 4, _, _ => simp [gi, List.range_succ]; exact ar113 e4
      | 5, _, _ => simp [gi, List.range_succ]; exact ar113 e5
      | k + 6, _, _ => exact ar111 (by assumption)
    refine ⟨_, hrow, ?_⟩
    rw [gi6]
    rcases hl with hd | hl
    · refine ⟨3, c3 s t u, by decide, by decide, fun k h6 hk => ?_, hd, c3b (dom_small hs) (dom_small ht) (dom_small hu)⟩
      rw [sm3]
      have g : ∀ w x y z : Int, s * x + t * y + u * z = w → (w : Rat) = (s : Rat) * (x : Rat) + (t : Rat) * (y : Rat) + (u : Rat) * (z : Rat) := fun w x y z e => by rw [← e, Rat.intCast_add, Rat.intCast_add, Rat.intCast_mul, Rat.intCast_mul, Rat.intCast_mul]
      match k, h6, hk with
      | 3, _, _ => exact g _ _ _ _ e3
      | 4, _, _ => exact g _ _ _ _ e4
      | 5, _, _ => exact g _ _ _ _ e5
      | k + 6, _, _ => exact ar76 (by assumption)
    · obtain ⟨L, c, hL, _, g⟩ := low_good hl
      exact ⟨L, c, by exact ar114 hL, g⟩
end Mine

namespace Mine
set_option linter.unusedSimpArgs false
noncomputable def ism (f : Nat → Int) : Nat → Int | 0 => 0 | n + 1 => ism f n + f n
theorem ism_cast (f : Nat → Int) (n : Nat) : ((ism f n : Int) : Rat) = sm (fun i => (f i : Rat)) n := by
  induction n with
  | zero => rfl
  | succ n ih => rw [ism, Rat.intCast_add, ih, sm]
theorem ism_small {f : Nat → Int} (h : ∀ i, (f i).natAbs < 2 ^ 16) (n : Nat) : (ism f n).natAbs ≤ n * 2 ^ 16 := by
  induction n with
  | zero => simp [ism]
  | succ n ih => have := h n; rw [ism]; omega
noncomputable def ai (L : Nat) (c : Nat → Int) (i : Nat) : Int := if i = 0 then 1 else if i ≤ L then -c i else 0
theorem ai_AA (L : Nat) (c : Nat → Int) (i : Nat) : ((ai L c i : Int) : Rat) = AA L c i := by
  unfold ai AA
  split
  · rfl
  · split
    · exact Rat.intCast_neg _
    · rfl
theorem Good.ai_small {r : Nat → Int} {L : Nat} {c : Nat → Int} (g : Good r L c) (i : Nat) : (ai L c i).natAbs < 2 ^ 8 := by
  have := g.cb i
  unfold ai
  split
  · decide
  · split <;> omega
noncomputable def TT (L : Nat) (c : Nat → Int) (r : Nat → Int) (t : Nat) : Int := ism (fun b => ai L c b * r (t - b)) (t + 1)
theorem TT_cast (L : Nat) (c : Nat → Int) (r : Nat → Int) (t : Nat) : ((TT L c r t : Int) : Rat) = cv (AA L c) (rq r) t := by
  rw [TT, ism_cast, cv]
  exact sm_congr fun i _ => by rw [Rat.intCast_mul, ai_AA]; rfl
/-- the polynomial of the way of Euclid is the row's own -/
theorem Good.euc {r : Nat → Int} {L : Nat} {c : Nat → Int} (g : Good r L c) {a t o : Nat → Rat} (ha : ∀ k, k < 2 * L → a k = rq r k) (ht : ∀ k, L ≤ k → t k = 0) (ho : ∀ i, L < i → o i = 0) (he : ∀ k, k < 2 * L → t k = cv o a k) :
    (∀ i, o i = o 0 * AA L c i) ∧ ∀ k, k < L → t k = o 0 * cv (AA L c) (rq r) k := by
  have h1 : ∀ k, k < 2 * L → cv o a k = cv o (rq r) k := fun k hk => cv_congr (fun _ _ => rfl) fun i hi => ha i (by exact ar115 hk hi)
  have h2 : ∀ i, o i = o 0 * AA L c i := g.same o ho fun k q1 q2 => by rw [← h1 k q2, ← he k q2, ht k q1]
  refine ⟨h2, fun k hk => ?_⟩
  rw [he k (by exact ar116 hk), h1 k (by exact ar116 hk), ← cv_mul]
  exact cv_congr (fun i _ => h2 i) fun _ _ => rfl
end Mine

namespace Mine
open PySem PySem.W PyProof.Rows
set_option linter.unusedVariables false
open PySem.Calls

/-- clean values: ints, tuples by value, lists by a number in the clean store, a list of ints that stands -/
inductive V where
  | none
  | bool (b : Bool)
  | int (i : Int)
  | tup (xs : List V)
  | ref (k : Nat)
  | frz (xs : List Int)

noncomputable abbrev Sto := List (List V)
noncomputable abbrev Loc := Str → Option V

noncomputable def Loc.set (ε : Loc) (x : Str) (v : V) : Loc := fun y => if y = x then some v else ε y

/-- a clean value stands for a value of the heap -/
inductive VR (H0 : Heap) (ρ : List Addr) (h : Heap) : V → Value → Prop where
  | none : VR H0 ρ h .none .none
  | bool (b : Bool) : VR H0 ρ h (.bool b) (.bool b)
  | int (i : Int) (t : Tok) : VR H0 ρ h (.int i) (.int i t)
  | ref {k : Nat} {a : Addr} : ρ[k]? = some a → VR H0 ρ h (.ref k) (.ref a)
  | tup {xs : List V} {vs : List Value} {a : Addr} : h.IsTuple a vs.toArray → xs.length = vs.length →
      (∀ (i : Nat) (x : V) (v : Value), xs[i]? = some x → vs[i]? = some v → VR H0 ρ h x v) → VR H0 ρ h (.tup xs) (.ref a)
  | frz {xs : List Int} {vs : List Value} {a : Addr} : H0.IsList a vs.toArray → IntsAre vs xs → VR H0 ρ h (.frz xs) (.ref a)

noncomputable def VRs (H0 : Heap) (ρ : List Addr) (h : Heap) (xs : List V) (vs : List Value) : Prop :=
  xs.length = vs.length ∧ ∀ (i : Nat) (x : V) (v : Value), xs[i]? = some x → vs[i]? = some v → VR H0 ρ h x v

/-- all tuples stay -/
noncomputable def Tups (h h' : Heap) : Prop := ∀ a o vs n, h.get? a = some o → o.cls = .type "tuple" → o.data = .seq vs n → h'.get? a = some o

theorem Tups.is {h h' : Heap} (t : Tups h h') {a : Addr} {vs : Array Value} (e : h.IsTuple a vs) : h'.IsTuple a vs := by
  obtain ⟨o, ho, hc, n, hd⟩ := e
  exact ⟨o, t a o _ n ho hc hd, hc, n, hd⟩

variable {H0 : Heap}

theorem VR.mono {ρ ρ' : List Addr} {h h' : Heap} {x : V} {v : Value} (H : VR H0 ρ h x v) (hρ : ρ <+: ρ') (ht : Tups h h') : VR H0 ρ' h' x v := by
  induction H with
  | none => exact .none
  | bool b => exact .bool b
  | int i t => exact .int i t
  | ref e =>
    refine .ref ?_
    obtain ⟨r, rfl⟩ := hρ
    rw [List.getElem?_append_left]
    · exact e
    · exact (List.getElem?_eq_some_iff.mp e).1
  | tup e hl _ ih => exact .tup (ht.is e) hl ih
  | frz e hi => exact .frz e hi

theorem VRs.mono {ρ ρ' : List Addr} {h h' : Heap} {xs : List V} {vs : List Value} (H : VRs H0 ρ h xs vs) (hρ : ρ <+: ρ') (ht : Tups h h') : VRs H0 ρ' h' xs vs :=
  ⟨H.1, fun i x v e e' => (H.2 i x v e e').mono hρ ht⟩

theorem VRs.nil {ρ : List Addr} {h : Heap} : VRs H0 ρ h [] [] := ⟨rfl, fun i x v e => by simp at e⟩
theorem VRs.cons {ρ : List Addr} {h : Heap} {x : V} {v : Value} {xs : List V} {vs : List Value} (a : VR H0 ρ h x v) (b : VRs H0 ρ h xs vs) : VRs H0 ρ h (x :: xs) (v :: vs) :=
  ⟨by simp [b.1], fun i y w e e' => by
    cases i with
    | zero => simp at e e'; subst e; subst e'; exact a
    | succ i => simp at e e'; exact b.2 i y w e e'⟩
theorem VRs.head {ρ : List Addr} {h : Heap} {x : V} {v : Value} {xs : List V} {vs : List Value} (a : VRs H0 ρ h (x :: xs) (v :: vs)) : VR H0 ρ h x v := a.2 0 x v rfl rfl
theorem VRs.tail {ρ : List Addr} {h : Heap} {x : V} {v : Value} {xs : List V} {vs : List Value} (a : VRs H0 ρ h (x :: xs) (v :: vs)) : VRs H0 ρ h xs vs :=
  ⟨by simpa using a.1, fun i y u e e' => a.2 (i + 1) y u (by simpa using e) (by simpa using e')⟩
theorem VRs.get {ρ : List Addr} {h : Heap} {xs : List V} {vs : List Value} (H : VRs H0 ρ h xs vs) {i : Nat} {x : V} (e : xs[i]? = some x) : ∃ v, vs[i]? = some v ∧ VR H0 ρ h x v := by
  have hi : i < vs.length := H.1 ▸ (List.getElem?_eq_some_iff.mp e).1
  exact ⟨vs[i], List.getElem?_eq_getElem hi, H.2 i x _ e (List.getElem?_eq_getElem hi)⟩
theorem VRs.append {ρ : List Addr} {h : Heap} {xs ys : List V} {vs us : List Value} (a : VRs H0 ρ h xs vs) (b : VRs H0 ρ h ys us) : VRs H0 ρ h (xs ++ ys) (vs ++ us) :=
  ⟨by simp [a.1, b.1], fun i x v e e' => by
    by_cases hi : i < xs.length
    · rw [List.getElem?_append_left hi] at e
      rw [List.getElem?_append_left (a.1 ▸ hi)] at e'
      exact a.2 i x v e e'
    · have hi' : xs.length ≤ i := Nat.le_of_not_lt hi
      rw [List.getElem?_append_right hi'] at e
      rw [List.getElem?_append_right (a.1 ▸ hi')] at e'
      rw [← a.1] at e'
      exact b.2 _ x v e e'⟩
theorem VRs.take {ρ : List Addr} {h : Heap} {xs : List V} {vs : List Value} (a : VRs H0 ρ h xs vs) (n : Nat) : VRs H0 ρ h (xs.take n) (vs.take n) :=
  ⟨by simp [a.1], fun i x v e e' => by
    rw [List.getElem?_take] at e e'
    split at e
    · rename_i hh; rw [if_pos hh] at e'; exact a.2 i x v e e'
    · cases e⟩
theorem VRs.set {ρ : List Addr} {h : Heap} {xs : List V} {vs : List Value} {x : V} {v : Value} (a : VRs H0 ρ h xs vs) (b : VR H0 ρ h x v) (n : Nat) : VRs H0 ρ h (xs.set n x) (vs.set n v) :=
  ⟨by simp [a.1], fun i y u e e' => by
    rw [List.getElem?_set] at e e'
    split at e
    · rename_i hh; rw [if_pos hh] at e'
      split at e
      · rename_i h2; rw [if_pos (a.1 ▸ h2)] at e'; cases e; cases e'; exact b
      · cases e
    · rename_i hh; rw [if_neg hh] at e'; exact a.2 i y u e e'⟩
theorem VRs.rep {ρ : List Addr} {h : Heap} {xs : List V} {vs : List Value} (a : VRs H0 ρ h xs vs) : ∀ n : Nat, VRs H0 ρ h (List.replicate n xs).flatten (List.replicate n vs).flatten
  | 0 => VRs.nil
  | n + 1 => by simp only [List.replicate_succ, List.flatten_cons]; exact a.append (VRs.rep a n)

/-- the clean store is borne by the heap; all of the base heap stands -/
structure HR (H0 : Heap) (ρ : List Addr) (σ : Sto) (h : Heap) : Prop where
  keep : ∀ a o, H0.get? a = some o → h.get? a = some o
  len : ρ.length = σ.length
  nd : ρ.Nodup
  new : ∀ a ∈ ρ, H0.get? a = none
  lists : ∀ (k : Nat) (a : Addr) xs, ρ[k]? = some a → σ[k]? = some xs → ∃ (vs : List Value), h.PlainList a vs.toArray ∧ VRs H0 ρ h xs vs
  small : ∀ (k : Nat) (xs : List V), σ[k]? = some xs → xs.length ≤ 1000

/-- all but ρ and W stays -/
noncomputable def Kp (X : List Addr) (h h' : Heap) : Prop := ∀ a o, h.get? a = some o → a ∉ X → h'.get? a = some o

theorem HR.isList {ρ : List Addr} {σ : Sto} {h : Heap} (R : HR H0 ρ σ h) {a : Addr} (ha : a ∈ ρ) : ∃ vs, h.IsList a vs := by
  obtain ⟨k, hk, e⟩ := List.mem_iff_getElem.mp ha
  have hs : k < σ.length := R.len ▸ hk
  obtain ⟨vs, e', _⟩ := R.lists k a σ[k] (by rw [List.getElem?_eq_getElem hk, e]) (List.getElem?_eq_getElem hs)
  exact ⟨_, e'.isList⟩
theorem HR.notin {ρ : List Addr} {σ : Sto} {h : Heap} (R : HR H0 ρ σ h) {a : Addr} {o : Obj} (e : h.get? a = some o)
    (hd : ∀ vs n, o.data ≠ .seq vs n) : a ∉ ρ := fun hm => by
  obtain ⟨vs, o', e', hc, n, hd'⟩ := R.isList hm
  rw [e] at e'
  cases e'
  exact hd vs n hd'
theorem HR.lt {ρ : List Addr} {σ : Sto} {h : Heap} (R : HR H0 ρ σ h) {a : Addr} (ha : a ∈ ρ) : a < h.objs.size := by
  obtain ⟨vs, o, e, _⟩ := R.isList ha
  exact Heap.lt_size e
theorem tups_of {h h' : Heap} (k : ∀ b o, h.get? b = some o → h'.get? b = some o) : Tups h h' := fun a o _ _ e _ _ => k _ _ e
theorem get?_size_none (h : Heap) : h.get? h.objs.size = none := by
  cases q : h.get? h.objs.size with
  | none => rfl
  | some o => exact absurd (Heap.lt_size q) (Nat.lt_irrefl _)
theorem get?_ge_none {h : Heap} {a : Addr} (hg : h.objs.size ≤ a) : h.get? a = none := by
  cases q : h.get? a with
  | none => rfl
  | some o => exact absurd (Heap.lt_size q) (Nat.not_lt.mpr hg)

/-- what may be written besides the lists of ρ: no tuple, nothing of the base, none of ρ -/
structure WOk (H0 : Heap) (ρ : List Addr) (W : List Addr) (h : Heap) : Prop where
  tup : ∀ a ∈ W, ∀ o vs n, h.get? a = some o → o.cls = .type "tuple" → o.data ≠ .seq vs n
  base : ∀ a ∈ W, H0.get? a = none
  off : ∀ a ∈ W, a ∉ ρ

theorem WOk.nil {ρ : List Addr} {h : Heap} : WOk H0 ρ [] h := ⟨fun _ m => (nomatch m), fun _ m => (nomatch m), fun _ m => (nomatch m)⟩

theorem Kp.refl {X : List Addr} {h : Heap} : Kp X h h := fun _ _ e _ => e
theorem Kp.tups {ρ W : List Addr} {σ : Sto} {h h' : Heap} (R : HR H0 ρ σ h) (O : WOk H0 ρ W h) (K : Kp (ρ ++ W) h h') : Tups h h' := fun a o vs n e hc hd =>
  K a _ e fun hm => by
    rcases List.mem_append.mp hm with hm | hm
    · obtain ⟨us, o', e', hc', _⟩ := R.isList hm
      rw [e] at e'; cases e'
      rw [hc] at hc'; simp at hc'
    · exact O.tup a hm o vs n e hc hd

/-- from s to s': only the heap and the tokens; what is not in the clean store nor in W stays -/
structure Mv (H0 : Heap) (W : List Addr) (ρ : List Addr) (s : Shared) (ρ' : List Addr) (σ' : Sto) (s' : Shared) : Prop where
  eq : ∃ h' tk, s' = { s with heap := h', toks := tk }
  pre : ρ <+: ρ'
  kp : Kp (ρ ++ W) s.heap s'.heap
  live : ∀ a ∈ W, s.heap.get? a ≠ none → s'.heap.get? a ≠ none
  fresh : ∀ a ∈ ρ', a ∈ ρ ∨ s.heap.get? a = none
  hr : HR H0 ρ' σ' s'.heap

/-- the general step: the heap grows, one list of ρ may be put, one list may be made; W is written -/
theorem HR.step {ρ : List Addr} {σ : Sto} {h h' : Heap} {W : List Addr} (R : HR H0 ρ σ h) (O : WOk H0 ρ W h)
    (k : ∀ b o, b ∉ W → h.get? b = some o → h'.get? b = some o) : HR H0 ρ σ h' where
  keep := fun a o e => k _ _ (fun m => by rw [O.base a m] at e; cases e) (R.keep a o e)
  len := R.len
  nd := R.nd
  new := R.new
  lists := fun i a xs e1 e2 => by
    obtain ⟨vs, ⟨n, e⟩, H⟩ := R.lists i a xs e1 e2
    exact ⟨vs, ⟨n, k _ _ (fun m => O.off a m (List.mem_of_getElem? e1)) e⟩, H.mono (List.prefix_refl _) (fun b o' ws n e' hc hd => k _ _ (fun m => O.tup b m o' ws n e' hc hd) e')⟩
  small := R.small
theorem HR.grow {ρ : List Addr} {σ : Sto} {h h' : Heap} (R : HR H0 ρ σ h) (k : ∀ b o, h.get? b = some o → h'.get? b = some o) : HR H0 ρ σ h' :=
  R.step (W := []) .nil fun b o _ e => k b o e

/-- a new list -/
theorem HR.alloc {ρ : List Addr} {σ : Sto} {h : Heap} (R : HR H0 ρ σ h) {xs : List V} {vs : List Value} {h' : Heap} {b : Addr} (H : VRs H0 ρ h xs vs) (hs : xs.length ≤ 1000)
    (k : ∀ b o, h.get? b = some o → h'.get? b = some o) (hb : h.get? b = none) (e : h'.PlainList b vs.toArray) :
    HR H0 (ρ ++ [b]) (σ ++ [xs]) h' where
  keep := fun a o e => k _ _ (R.keep a o e)
  len := by simp [R.len]
  nd := by
    refine List.nodup_append.mpr ⟨R.nd, by simp, fun x hx y hy => ?_⟩
    simp at hy; subst hy
    rintro rfl
    obtain ⟨_, _, e', _⟩ := R.isList hx
    rw [hb] at e'; cases e'
  new := fun a ha => by
    rcases List.mem_append.mp ha with ha | ha
    · exact R.new a ha
    · simp at ha; subst ha
      cases q : H0.get? a with
      | none => rfl
      | some o => have := R.keep _ _ q; rw [hb] at this; cases this
  lists := fun i a ys e1 e2 => by
    have pre : ρ <+: ρ ++ [b] := List.prefix_append _ _
    by_cases hi : i < ρ.length
    · rw [List.getElem?_append_left hi] at e1
      rw [List.getElem?_append_left (R.len ▸ hi)] at e2
      obtain ⟨us, ⟨n, e'⟩, H'⟩ := R.lists i a ys e1 e2
      exact ⟨us, ⟨n, k _ _ e'⟩, H'.mono pre (tups_of k)⟩
    · have hi' : ρ.length ≤ i := Nat.le_of_not_lt hi
      rw [List.getElem?_append_right hi'] at e1
      rw [List.getElem?_append_right (R.len ▸ hi'), ← R.len] at e2
      have hz : i - ρ.length = 0 := by
        cases q : i - ρ.length with
        | zero => rfl
        | succ j => rw [q] at e1; simp at e1
      rw [hz] at e1 e2
      simp at e1 e2
      subst e1; subst e2
      exact ⟨vs, e, H.mono pre (tups_of k)⟩
  small := fun i ys e2 => by
    by_cases hi : i < σ.length
    · rw [List.getElem?_append_left hi] at e2; exact R.small i ys e2
    · have hi' : σ.length ≤ i := Nat.le_of_not_lt hi
      rw [List.getElem?_append_right hi'] at e2
      cases q : i - σ.length with
      | zero => rw [q] at e2; simp at e2; subst e2; exact hs
      | succ j => rw [q] at e2; simp at e2

/-- a list changed -/
theorem HR.put {ρ : List Addr} {σ : Sto} {h h' : Heap} (R : HR H0 ρ σ h) {k : Nat} {a : Addr} {xs : List V} {vs : List Value} (ea : ρ[k]? = some a) (H : VRs H0 ρ h xs vs) (hs : xs.length ≤ 1000)
    (hk : ∀ b o, b ≠ a → h.get? b = some o → h'.get? b = some o) (e : h'.PlainList a vs.toArray) : HR H0 ρ (σ.set k xs) h' := by
  have ha : a ∈ ρ := List.mem_of_getElem? ea
  have ht : Tups h h' := fun b o _ _ eb hc _ => by
    refine hk b o ?_ eb
    rintro rfl
    obtain ⟨_, _, e', hc', _⟩ := R.isList ha
    rw [eb] at e'; cases e'; rw [hc] at hc'; simp at hc'
  refine ⟨fun b o eb => ?_, by simp [R.len], R.nd, R.new, fun i b ys e1 e2 => ?_, fun i ys e2 => ?_⟩
  · refine hk b o ?_ (R.keep _ _ eb)
    rintro rfl
    rw [R.new _ ha] at eb; cases eb
  · by_cases hik : i = k
    · subst hik
      rw [ea] at e1; cases e1
      have hi : i < σ.length := R.len ▸ (List.getElem?_eq_some_iff.mp ea).1
      rw [List.getElem?_set_self hi] at e2
      cases e2
      exact ⟨vs, e, H.mono (List.prefix_refl _) ht⟩
    · rw [List.getElem?_set_ne (Ne.symm hik)] at e2
      obtain ⟨us, ⟨n, e'⟩, H'⟩ := R.lists i b ys e1 e2
      refine ⟨us, ⟨n, hk b _ ?_ e'⟩, H'.mono (List.prefix_refl _) ht⟩
      rintro rfl
      obtain ⟨h1, h1'⟩ := List.getElem?_eq_some_iff.mp e1
      obtain ⟨h2, h2'⟩ := List.getElem?_eq_some_iff.mp ea
      exact hik ((List.getElem_inj R.nd).mp (h1'.trans h2'.symm))
  · by_cases hik : i = k
    · subst hik
      have hi : i < σ.length := R.len ▸ (List.getElem?_eq_some_iff.mp ea).1
      rw [List.getElem?_set_self hi] at e2
      cases e2; exact hs
    · rw [List.getElem?_set_ne (Ne.symm hik)] at e2
      exact R.small i ys e2

section
variable {W : List Addr} {ρ ρ1 ρ2 : List Addr} {σ σ1 σ2 : Sto} {s s1 s2 : Shared}
theorem Mv.tok (R : HR H0 ρ σ s.heap) (tk : Nat) : Mv H0 W ρ s ρ σ { s with toks := tk } :=
  ⟨⟨_, _, rfl⟩, List.prefix_refl _, Kp.refl, fun _ _ h => h, fun _ h => .inl h, R⟩
theorem Mv.refl (R : HR H0 ρ σ s.heap) : Mv H0 W ρ s ρ σ s := Mv.tok R s.toks
theorem live_of {h h' : Heap} (k : ∀ b o, h.get? b = some o → h'.get? b = some o) (a : Addr) (e : h.get? a ≠ none) : h'.get? a ≠ none := by
  cases q : h.get? a with
  | none => exact absurd q e
  | some o => rw [k a o q]; simp
theorem Mv.grow (R : HR H0 ρ σ s.heap) {h' : Heap} (tk : Nat) (k : ∀ b o, s.heap.get? b = some o → h'.get? b = some o) : Mv H0 W ρ s ρ σ { s with heap := h', toks := tk } :=
  ⟨⟨_, _, rfl⟩, List.prefix_refl _, fun a o e _ => k a o e, fun a _ e => live_of k a e, fun _ h => .inl h, R.grow k⟩
theorem Mv.step (R : HR H0 ρ σ s.heap) (O : WOk H0 ρ W s.heap) {h' : Heap} (tk : Nat) (k : ∀ b o, b ∉ W → s.heap.get? b = some o → h'.get? b = some o)
    (l : ∀ a ∈ W, s.heap.get? a ≠ none → h'.get? a ≠ none) : Mv H0 W ρ s ρ σ { s with heap := h', toks := tk } :=
  ⟨⟨_, _, rfl⟩, List.prefix_refl _, fun a o e hm => k a o (fun m => hm (List.mem_append_right _ m)) e, l, fun _ h => .inl h, R.step O k⟩
/-- what is not in W and lives, lives on -/
theorem Mv.lives (m : Mv H0 W ρ s ρ1 σ1 s1) {a : Addr} (e : s.heap.get? a ≠ none) : s1.heap.get? a ≠ none := by
  by_cases hw : a ∈ W
  · exact m.live a hw e
  · by_cases hr : a ∈ ρ
    · obtain ⟨r, hr'⟩ := m.pre
      obtain ⟨vs, o, e', _⟩ := m.hr.isList (a := a) (by rw [← hr']; exact List.mem_append_left _ hr)
      rw [e']; simp
    · cases q : s.heap.get? a with
      | none => exact absurd q e
      | some o => rw [m.kp a o q fun hm => (List.mem_append.mp hm).elim hr hw]; simp
theorem Mv.weak {W' : List Addr} (m : Mv H0 W ρ s ρ1 σ1 s1) (h : ∀ a ∈ W, a ∈ W') : Mv H0 W' ρ s ρ1 σ1 s1 :=
  ⟨m.eq, m.pre, fun a o e hn => m.kp a o e fun hm => hn ((List.mem_append.mp hm).elim (List.mem_append_left _) fun q => List.mem_append_right _ (h a q)), fun a _ e => m.lives e, m.fresh, m.hr⟩
theorem Mv.weak0 (m : Mv H0 [] ρ s ρ1 σ1 s1) : Mv H0 W ρ s ρ1 σ1 s1 := m.weak fun _ q => (nomatch q)
theorem Mv.trans (a : Mv H0 W ρ s ρ1 σ1 s1) (b : Mv H0 W ρ1 s1 ρ2 σ2 s2) : Mv H0 W ρ s ρ2 σ2 s2 where
  eq := by
    obtain ⟨h1, t1, rfl⟩ := a.eq
    obtain ⟨h2, t2, rfl⟩ := b.eq
    exact ⟨h2, t2, rfl⟩
  pre := a.pre.trans b.pre
  kp := fun x o e hx => by
    have hρ : x ∉ ρ := fun m => hx (List.mem_append_left _ m)
    have hW : x ∉ W := fun m => hx (List.mem_append_right _ m)
    refine b.kp x o (a.kp x o e hx) fun hm => ?_
    rcases List.mem_append.mp hm with hm | hm
    · rcases a.fresh x hm with q | q
      · exact hρ q
      · rw [q] at e; cases e
    · exact hW hm
  live := fun x _ e => b.lives (a.lives e)
  fresh := fun x hx => by
    rcases b.fresh x hx with h | h
    · exact a.fresh x h
    · refine .inr (Classical.byContradiction fun q => a.lives q h)
  hr := b.hr
theorem Mv.tups (R : HR H0 ρ σ s.heap) (O : WOk H0 ρ W s.heap) (m : Mv H0 W ρ s ρ1 σ1 s1) : Tups s.heap s1.heap := Kp.tups R O m.kp
theorem VR.mv {x : V} {v : Value} (H : VR H0 ρ s.heap x v) (R : HR H0 ρ σ s.heap) (m : Mv H0 [] ρ s ρ1 σ1 s1) : VR H0 ρ1 s1.heap x v := H.mono m.pre (m.tups R .nil)
theorem VRs.mv {x : List V} {v : List Value} (H : VRs H0 ρ s.heap x v) (R : HR H0 ρ σ s.heap) (m : Mv H0 [] ρ s ρ1 σ1 s1) : VRs H0 ρ1 s1.heap x v := H.mono m.pre (m.tups R .nil)
theorem VR.mvW {x : V} {v : Value} (H : VR H0 ρ s.heap x v) (R : HR H0 ρ σ s.heap) (O : WOk H0 ρ W s.heap) (m : Mv H0 W ρ s ρ1 σ1 s1) : VR H0 ρ1 s1.heap x v := H.mono m.pre (m.tups R O)

theorem Mv.alloc (R : HR H0 ρ σ s.heap) {xs : List V} {vs : List Value} {h' : Heap} {b : Addr} (tk : Nat) (H : VRs H0 ρ s.heap xs vs) (hs : xs.length ≤ 1000)
    (k : ∀ b o, s.heap.get? b = some o → h'.get? b = some o) (hb : s.heap.get? b = none) (e : h'.PlainList b vs.toArray) :
    Mv H0 W ρ s (ρ ++ [b]) (σ ++ [xs]) { s with heap := h', toks := tk } ∧ VR H0 (ρ ++ [b]) h' (.ref σ.length) (.ref b) :=
  ⟨⟨⟨_, _, rfl⟩, List.prefix_append _ _, fun a o e _ => k a o e, fun a _ e => live_of k a e, fun a ha => by
    rcases List.mem_append.mp ha with ha | ha
    · exact .inl ha
    · simp at ha; subst ha; exact .inr hb, R.alloc H hs k hb e⟩, .ref (by rw [← R.len]; simp)⟩
theorem Mv.put (R : HR H0 ρ σ s.heap) {k : Nat} {a : Addr} {xs : List V} {vs : List Value} {h' : Heap} (tk : Nat) (ea : ρ[k]? = some a) (H : VRs H0 ρ s.heap xs vs) (hs : xs.length ≤ 1000)
    (hk : ∀ b o, b ≠ a → s.heap.get? b = some o → h'.get? b = some o) (e : h'.PlainList a vs.toArray) (hW : a ∉ W) : Mv H0 W ρ s ρ (σ.set k xs) { s with heap := h', toks := tk } :=
  ⟨⟨_, _, rfl⟩, List.prefix_refl _, fun b o eb hb => by
    refine hk b o ?_ eb
    rintro rfl; exact hb (List.mem_append_left _ (List.mem_of_getElem? ea)), fun b m eb => by
      cases q : s.heap.get? b with
      | none => exact absurd q eb
      | some o => rw [hk b o (fun e => hW (e ▸ m)) q]; simp
    , fun _ h => .inl h, R.put ea H hs hk e⟩
/-- what is written that was not there at the start is not told -/
theorem Mv.after {wr : List Addr} (m : Mv H0 W ρ s ρ1 σ1 s1) (O : WOk H0 ρ1 wr s1.heap) (hf : ∀ b ∈ wr, s.heap.get? b = none) {h' : Heap} (tk : Nat)
    (k : ∀ b o, b ∉ wr → s1.heap.get? b = some o → h'.get? b = some o) : Mv H0 W ρ s ρ1 σ1 { s1 with heap := h', toks := tk } where
  eq := by obtain ⟨h1, t1, rfl⟩ := m.eq; exact ⟨h', tk, rfl⟩
  pre := m.pre
  kp := fun a o e hn => k a o (fun hm => by rw [hf a hm] at e; cases e) (m.kp a o e hn)
  live := fun a ha e => by
    have h1 := m.live a ha e
    cases q : s1.heap.get? a with
    | none => exact absurd q h1
    | some o => rw [k a o (fun hm => e (hf a hm)) q]; simp
  fresh := m.fresh
  hr := m.hr.step O k
theorem HR.adopt {h : Heap} (R : HR H0 ρ σ h) {D : Addr} {xs : List V} {vs : List Value} (hl : h.PlainList D vs.toArray) (hv : VRs H0 ρ h xs vs) (hD : D ∉ ρ) (hb : H0.get? D = none) (hs : xs.length ≤ 1000) : HR H0 (ρ ++ [D]) (σ ++ [xs]) h where
  keep := R.keep
  len := by simp [R.len]
  nd := by
    refine List.nodup_append.mpr ⟨R.nd, by simp, fun x hx y hy => ?_⟩
    simp at hy; subst hy
    rintro rfl
    exact hD hx
  new := fun a ha => by
    rcases List.mem_append.mp ha with ha | ha
    · exact R.new a ha
    · simp at ha; subst ha; exact hb
  lists := fun i a ys e1 e2 => by
    have pre : ρ <+: ρ ++ [D] := List.prefix_append _ _
    by_cases hi : i < ρ.length
    · rw [List.getElem?_append_left hi] at e1
      rw [List.getElem?_append_left (R.len ▸ hi)] at e2
      obtain ⟨us, e', H'⟩ := R.lists i a ys e1 e2
      exact ⟨us, e', H'.mono pre (fun _ _ _ _ e _ _ => e)⟩
    · have hi' : ρ.length ≤ i := Nat.le_of_not_lt hi
      rw [List.getElem?_append_right hi'] at e1
      rw [List.getElem?_append_right (R.len ▸ hi'), ← R.len] at e2
      have hz : i - ρ.length = 0 := by
        cases q : i - ρ.length with
        | zero => rfl
        | succ j => rw [q] at e1; simp at e1
      rw [hz] at e1 e2
      simp at e1 e2
      subst e1; subst e2
      exact ⟨vs, hl, hv.mono pre (fun _ _ _ _ e _ _ => e)⟩
  small := fun i ys e2 => by
    by_cases hi : i < σ.length
    · rw [List.getElem?_append_left hi] at e2; exact R.small i ys e2
    · have hi' : σ.length ≤ i := Nat.le_of_not_lt hi
      rw [List.getElem?_append_right hi'] at e2
      cases q : i - σ.length with
      | zero => rw [q] at e2; simp at e2; subst e2; exact hs
      | succ j => rw [q] at e2; simp at e2
theorem Mv.adopt (m : Mv H0 W ρ s ρ1 σ1 s1) (R0 : HR H0 ρ σ s.heap) {D : Addr} {xs : List V} {vs : List Value} (hl : s1.heap.PlainList D vs.toArray) (hv : VRs H0 ρ1 s1.heap xs vs) (hD : D ∉ ρ1) (hf : s.heap.get? D = none) (hs : xs.length ≤ 1000) :
    Mv H0 W ρ s (ρ1 ++ [D]) (σ1 ++ [xs]) s1 ∧ VR H0 (ρ1 ++ [D]) s1.heap (.ref σ1.length) (.ref D) := by
  have hb : H0.get? D = none := by
    cases q : H0.get? D with
    | none => rfl
    | some o => rw [R0.keep D o q] at hf; cases hf
  refine ⟨⟨m.eq, m.pre.trans (List.prefix_append _ _), m.kp, m.live, fun a ha => ?_, m.hr.adopt hl hv hD hb hs⟩, .ref (by rw [← m.hr.len]; simp)⟩
  rcases List.mem_append.mp ha with ha | ha
  · exact m.fresh a ha
  · simp at ha; subst ha; exact .inr hf
/-- what is not there behind was not there ahead -/
theorem Mv.back (m : Mv H0 W ρ s ρ1 σ1 s1) {b : Addr} (e : s1.heap.get? b = none) : s.heap.get? b = none := by
  cases q : s.heap.get? b with
  | none => rfl
  | some o => exact absurd e (m.lives (by rw [q]; simp))
end
end Mine

namespace Mine
open PySem PySem.W PyProof.Rows
set_option linter.unusedVariables false
open PySem.Calls

/-- the frame: its names, plain or in cells -/
structure FR (H0 : Heap) (ρ : List Addr) (h : Heap) (env : Env) (ε : Loc) : Prop where
  kind : env.scope.kind = .function
  glob : env.globals = mainGlobals
  bi : env.builtins = builtinsNs
  loc : ∃ m, h.Ns env.locals m ∧ ∀ x v, env.kindOf x = some .local → ε x = some v → ∃ u, m x = some u ∧ VR H0 ρ h v u
  cel : ∀ x c, env.cells.lookup x = some c → ∃ cv, h.IsCell c cv ∧ (env.kindOf x ≠ some .local → ∀ v, ε x = some v → ∃ u, cv = some u ∧ VR H0 ρ h v u)
  has : ∀ x, env.kindOf x = some .cell ∨ env.kindOf x = some .free → ∃ c, env.cells.lookup x = some c
  inj : ∀ x y c, env.cells.lookup x = some c → env.cells.lookup y = some c → x = y
  baseL : H0.get? env.locals = none
  baseC : ∀ x c, env.cells.lookup x = some c → H0.get? c = none

/-- what a store to x writes -/
noncomputable def wr (env : Env) (x : Str) : List Addr := if env.kindOf x = some .local then [env.locals] else (env.cells.lookup x).toList

variable {H0 : Heap}

theorem ns_notseq {h : Heap} {L : Addr} {m : Str → Option Value} (N : h.Ns L m) : ∀ o vs n, h.get? L = some o → o.data ≠ .seq vs n := fun o vs n e q => by
  obtain ⟨o', es, ep, e', d, _⟩ := N
  rw [e] at e'; cases e'; rw [q] at d; cases d
theorem cell_notseq {h : Heap} {c : Addr} {v : Option Value} (N : h.IsCell c v) : ∀ o vs n, h.get? c = some o → o.data ≠ .seq vs n := fun o vs n e q => by
  obtain ⟨o', e', d⟩ := N
  rw [e] at e'; cases e'; rw [q] at d; cases d
theorem ns_notin {ρ : List Addr} {σ : Sto} {h : Heap} (R : HR H0 ρ σ h) {L : Addr} {m : Str → Option Value} (N : h.Ns L m) : L ∉ ρ := by
  obtain ⟨o, es, ep, e, d, _⟩ := id N
  exact R.notin e fun vs n => ns_notseq N o vs n e
theorem cell_notin {ρ : List Addr} {σ : Sto} {h : Heap} (R : HR H0 ρ σ h) {c : Addr} {v : Option Value} (N : h.IsCell c v) : c ∉ ρ := by
  obtain ⟨o, e, d⟩ := id N
  exact R.notin e fun vs n => cell_notseq N o vs n e
theorem Ns.keep1 {h h' : Heap} {L : Addr} {m : Str → Option Value} (N : h.Ns L m) (k : ∀ o, h.get? L = some o → h'.get? L = some o) : h'.Ns L m := by
  obtain ⟨o, es, ep, e, r⟩ := N
  exact ⟨o, es, ep, k _ e, r⟩
theorem IsCell.keep1 {h h' : Heap} {L : Addr} {m : Option Value} (N : h.IsCell L m) (k : ∀ o, h.get? L = some o → h'.get? L = some o) : h'.IsCell L m := by
  obtain ⟨o, e, r⟩ := N
  exact ⟨o, k _ e, r⟩

/-- a frame stays where its own names stay -/
theorem FR.keepOwn {ρ ρ' : List Addr} {h h' : Heap} {env : Env} {ε : Loc} (F : FR H0 ρ h env ε) (hρ : ρ <+: ρ') (ht : Tups h h')
    (kL : ∀ o, h.get? env.locals = some o → h'.get? env.locals = some o) (kC : ∀ x c, env.cells.lookup x = some c → ∀ o, h.get? c = some o → h'.get? c = some o) : FR H0 ρ' h' env ε where
  kind := F.kind
  glob := F.glob
  bi := F.bi
  loc := by
    obtain ⟨m, N, hm⟩ := F.loc
    exact ⟨m, Ns.keep1 N kL, fun x v hx e => by
      obtain ⟨u, hu, H⟩ := hm x v hx e
      exact ⟨u, hu, H.mono hρ ht⟩⟩
  cel := fun x c e => by
    obtain ⟨cv, C, hv⟩ := F.cel x c e
    exact ⟨cv, IsCell.keep1 C (kC x c e), fun hl v e => by
      obtain ⟨u, hu, H⟩ := hv hl v e
      exact ⟨u, hu, H.mono hρ ht⟩⟩
  has := F.has
  inj := F.inj
  baseL := F.baseL
  baseC := F.baseC
theorem FR.mv {ρ ρ' : List Addr} {σ σ' : Sto} {s s' : Shared} {env : Env} {ε : Loc} (F : FR H0 ρ s.heap env ε) (R : HR H0 ρ σ s.heap) (m : Mv H0 [] ρ s ρ' σ' s') : FR H0 ρ' s'.heap env ε := by
  obtain ⟨mm, N, _⟩ := F.loc
  refine F.keepOwn m.pre (m.tups R .nil) (fun o e => m.kp _ o e ?_) (fun x c e o eo => m.kp _ o eo ?_)
  · simpa using ns_notin R N
  · obtain ⟨cv, C, _⟩ := F.cel x c e
    simpa using cell_notin R C

theorem FR.wok {ρ : List Addr} {σ : Sto} {h : Heap} {env : Env} {ε : Loc} (F : FR H0 ρ h env ε) (R : HR H0 ρ σ h) (x : Str) : WOk H0 ρ (wr env x) h := by
  obtain ⟨mm, N, _⟩ := F.loc
  unfold wr
  split
  · refine ⟨fun a ha => ?_, fun a ha => ?_, fun a ha => ?_⟩ <;> (simp at ha; subst ha)
    · exact fun o vs n e _ => ns_notseq N o vs n e
    · exact F.baseL
    · exact ns_notin R N
  · cases q : env.cells.lookup x with
    | none => exact .nil
    | some c =>
      obtain ⟨cv, C, _⟩ := F.cel x c q
      refine ⟨fun a ha => ?_, fun a ha => ?_, fun a ha => ?_⟩ <;> (simp at ha; subst ha)
      · exact fun o vs n e _ => cell_notseq C o vs n e
      · exact F.baseC x _ q
      · exact cell_notin R C

/-- room for d more calls, seen from a call's place -/
structure RoomC (d : Nat) (A : Around) : Prop where
  hd : A.handled = none
  dep : A.depth + d < 880
  un : A.units + 8 * d + 100 < 9800
  fr : ∃ l, A.frames = some l
/-- room for d more calls, within a plain function -/
structure Room (d : Nat) (A : Around) : Prop where
  hd : A.handled = none
  dep : A.depth + d < 880
  un : A.units + 8 * d + 100 < 9800
  fr : ∃ e l, A.frames = some (e :: l) ∧ e.scope.isGenerator = false ∧ e.scope.isCoroutine = false ∧ e.builtins = builtinsNs ∧ e.globals = mainGlobals
theorem Room.toC {d : Nat} {A : Around} (r : Room d A) : RoomC d A := ⟨r.hd, r.dep, r.un, let ⟨_, _, h, _⟩ := r.fr; ⟨_, h⟩⟩
theorem Room.in1 {d : Nat} {A : Around} (r : Room (d + 1) A) : Room d A.in1 := ⟨r.hd, by have := r.dep; show A.depth + d < 880; exact ar117 this, by have := r.un; show A.units + 1 + 8 * d + 100 < 9800; exact ar118 this, r.fr⟩
theorem RoomC.deeper {d : Nat} {A : Around} (r : RoomC (d + 1) A) (env : Env) (h1 : env.scope.isGenerator = false) (h2 : env.scope.isCoroutine = false) (h3 : env.builtins = builtinsNs) (h4 : env.globals = mainGlobals) : Room d (A.deeper env) :=
  ⟨r.hd, by have := r.dep; show A.depth + 1 + d < 880; exact ar119 this, by have := r.un; show A.units + 3 + 8 * d + 100 < 9800; exact ar120 this, by
    obtain ⟨l, h⟩ := r.fr
    exact ⟨env, l, by show A.frames.map (env :: ·) = _; rw [h]; rfl, h1, h2, h3, h4⟩⟩
theorem Room.less {d e : Nat} {A : Around} (r : Room d A) (h : e ≤ d) : Room e A := ⟨r.hd, by have := r.dep; exact ar121 h this, by have := r.un; exact ar122 h this, r.fr⟩
theorem Room.cl {d : Nat} {A : Around} (r : Room d A) : A.units + 64 < cLine := by
  have := r.un; have h := cLine_is; exact ar123 this h

/-- what the walk knows of the program's top -/
structure Wd (prog : Program) (H0 : Heap) (mg mb : Str → Option Value) : Prop where
  gt : prog.given.tree = none
  g : H0.Ns mainGlobals mg
  b : H0.Ns builtinsNs mb
  nolimit : H0.NoLimit
  seer : H0.NoSeer
  builtins : ∀ x : Str, x ≠ "__name__" → mb x = bootBuiltins x

noncomputable abbrev PV := V → Sto → Prop
noncomputable abbrev WE := Loc → Sto → PV → Prop
noncomputable abbrev WT := Loc → Sto → (Bool → Sto → Prop) → Prop
noncomputable abbrev WL := Loc → Sto → (List V → Sto → Prop) → Prop

section
variable (prog : Program) (w : World) (H0 : Heap)

/-- the tree t, in the state s, gives a value that the clean post-condition P takes -/
noncomputable def Giv (A : Around) (t : Sem Value) (ρ : List Addr) (s : Shared) (P : PV) : Prop :=
  wpAny (model prog w) A t (fun u s' => ∃ ρ' σ' v, Mv H0 [] ρ s ρ' σ' s' ∧ VR H0 ρ' s'.heap v u ∧ P v σ') (fun _ _ => False) s

noncomputable def SndE (d : Nat) (sc : Scope) (e : Expr) (W : WE) : Prop :=
  ∀ (A : Around) (env : Env) (s : Shared) (ρ : List Addr) (σ : Sto) (ε : Loc) (P : PV), Room d A → env.scope = sc → FR H0 ρ s.heap env ε → HR H0 ρ σ s.heap → W ε σ P →
    Giv prog w H0 A (eval e env) ρ s P

noncomputable def SndT (d : Nat) (sc : Scope) (e : Expr) (W : WT) : Prop :=
  ∀ (A : Around) (env : Env) (s : Shared) (ρ : List Addr) (σ : Sto) (ε : Loc) (P : Bool → Sto → Prop), Room d A → env.scope = sc → FR H0 ρ s.heap env ε → HR H0 ρ σ s.heap → W ε σ P →
    wpAny (model prog w) A (isTrue e env (eval e env)) (fun b s' => ∃ ρ' σ', Mv H0 [] ρ s ρ' σ' s' ∧ P b σ') (fun _ _ => False) s

/-- a list of expressions, none starred -/
noncomputable def SndL (d : Nat) (sc : Scope) (es : List Expr) (W : WL) : Prop :=
  ∀ (A : Around) (env : Env) (s : Shared) (ρ : List Addr) (σ : Sto) (ε : Loc) (P : List V → Sto → Prop) (pos : Pos), Room d A → env.scope = sc → FR H0 ρ s.heap env ε → HR H0 ρ σ s.heap → W ε σ P →
    wpAny (model prog w) A (spliced (backTo pos (starEach es env))) (fun us s' => ∃ ρ' σ' vs, Mv H0 [] ρ s ρ' σ' s' ∧ VRs H0 ρ' s'.heap vs us ∧ P vs σ') (fun _ _ => False) s
end

theorem Giv.mono {prog : Program} {w : World} {A : Around} {t : Sem Value} {ρ : List Addr} {s : Shared} {P : PV} {Q : Value → Shared → Prop} (h : Giv prog w H0 A t ρ s P)
    (k : ∀ u s' ρ' σ' v, Mv H0 [] ρ s ρ' σ' s' → VR H0 ρ' s'.heap v u → P v σ' → Q u s') : wpAny (model prog w) A t Q (fun _ _ => False) s :=
  wpAny_mono h (fun u s' ⟨ρ', σ', v, m, hv, p⟩ => k u s' ρ' σ' v m hv p) fun _ _ h => h
/-- a step ahead of a tree -/
theorem Giv.after {prog : Program} {w : World} {A : Around} {t : Sem Value} {ρ ρ1 : List Addr} {σ1 : Sto} {s s1 : Shared} {P : PV} (m : Mv H0 [] ρ s ρ1 σ1 s1) (h : Giv prog w H0 A t ρ1 s1 P) :
    wpAny (model prog w) A t (fun u s' => ∃ ρ' σ' v, Mv H0 [] ρ s ρ' σ' s' ∧ VR H0 ρ' s'.heap v u ∧ P v σ') (fun _ _ => False) s1 :=
  wpAny_mono h (fun u s' ⟨ρ', σ', v, m', hv, p⟩ => ⟨ρ', σ', v, m.trans m', hv, p⟩) fun _ _ h => h
end Mine

namespace Mine
open PySem PySem.W PyProof.Rows
set_option linter.unusedVariables false
open PySem.Calls

variable {prog : Program} {w : World} {H0 : Heap} {d : Nat} {A : Around} {s : Shared} {ρ : List Addr} {σ : Sto}

/-- a list in the clean store -/
theorem HR.at {h : Heap} (R : HR H0 ρ σ h) {k : Nat} {a : Addr} {xs : List V} (ea : ρ[k]? = some a) (es : σ[k]? = some xs) :
    ∃ (vs : List Value), h.PlainList a vs.toArray ∧ VRs H0 ρ h xs vs := R.lists k a xs ea es

noncomputable def wAdd (a b : V) (σ : Sto) (P : PV) : Prop := match a, b with
  | .int x, .int y => P (.int (x + y)) σ
  | .ref k, .ref l => ∃ xs ys, σ[k]? = some xs ∧ σ[l]? = some ys ∧ xs.length + ys.length ≤ 1000 ∧ P (.ref σ.length) (σ ++ [xs ++ ys])
  | _, _ => False
noncomputable def wSubt (a b : V) (σ : Sto) (P : PV) : Prop := match a, b with
  | .int x, .int y => P (.int (x - y)) σ
  | .bool x, .bool y => P (.int (b2i x - b2i y)) σ
  | _, _ => False
noncomputable def wMult (a b : V) (σ : Sto) (P : PV) : Prop := match a, b with
  | .int x, .int y => IntMulOk x y ∧ P (.int (x * y)) σ
  | .ref k, .int n => ∃ xs, σ[k]? = some xs ∧ xs.length * n.toNat ≤ 256 ∧ -1000 ≤ n ∧ n ≤ 1000 ∧ P (.ref σ.length) (σ ++ [(List.replicate n.toNat xs).flatten])
  | _, _ => False
noncomputable def wFdiv (a b : V) (σ : Sto) (P : PV) : Prop := match a, b with
  | .int x, .int y => y ≠ 0 ∧ P (.int (x.fdiv y)) σ
  | _, _ => False
noncomputable def wModu (a b : V) (σ : Sto) (P : PV) : Prop := match a, b with
  | .int x, .int y => y ≠ 0 ∧ P (.int (x.fmod y)) σ
  | _, _ => False
noncomputable def wBin (op : Operator) : V → V → Sto → PV → Prop := match op with
  | .Add => wAdd
  | .Sub => wSubt
  | .Mult => wMult
  | .FloorDiv => wFdiv
  | .Mod => wModu
  | _ => fun _ _ _ _ => False

theorem add_lists' {l b : Addr} {vs ws : List Value} {Q : Value → Shared → Prop} {E : Value → Shared → Prop} (hl : s.heap.IsList l vs.toArray) (hb : s.heap.IsList b ws.toArray)
    (h : Q (.ref s.heap.objs.size) { s with heap := s.heap.push { cls := .type "list", data := .seq (vs ++ ws).toArray } })
    (hsz : vs.length + ws.length ≤ sizeLine) : wpAny (model prog w) A (binaryOp .Add (.ref l) (.ref b)) Q E s := by
  obtain ⟨⟨cls, dd, data, sl⟩, ho, hc, n, hd⟩ := id hl
  obtain ⟨⟨cls2, dd2, data2, sl2⟩, ho2, hc2, n2, hd2⟩ := id hb
  simp only at hc hd hc2 hd2
  subst hc hd hc2 hd2
  refine concat_meets ⟨_, ho, rfl⟩ ⟨_, ho2, rfl⟩ noFill_list_add seq_list_add PySem.F.slot_list_add PySem.F.entry_list_add (PySem.F.args_list_add_2 _ _) (list_addW l b vs.toArray ws.toArray n n2 dd dd2 sl sl2 (by simpa using hsz)) ⟨ho, ho2, ?_⟩
  simpa using h

theorem mul_list' {l : Addr} {vs : List Value} {x : Int} {u : Tok} {Q : Value → Shared → Prop} {E : Value → Shared → Prop} (hl : s.heap.IsList l vs.toArray) (hlo : -(2 ^ 63 : Int) ≤ x) (hhi : x < 2 ^ 63) (hsz : vs.length * x.toNat ≤ 256)
    (h : Q (.ref s.heap.objs.size) { s with heap := s.heap.push { cls := .type "list", data := .seq (List.replicate x.toNat vs).flatten.toArray } }) : wpAny (model prog w) A (binaryOp .Mult (.ref l) (.int x u)) Q E s := by
  obtain ⟨⟨cls, d, data, sl⟩, ho, hcl, k, hd⟩ := id hl
  simp only at hcl hd
  subst hcl hd
  have hsz' : vs.toArray.size * x.toNat ≤ 256 := by simpa using hsz
  refine wpAny_binaryOp_repeat_ref (T := "list") (U := "int") (by decide) ⟨_, ho, rfl⟩ (fun s' => typeIs_int s' x u) noFill_list_mul F.fills_int_mul F.slot_int_rmul repeat_list F.slot_int_index.lookup
    (call_meets F.slot_int_rmul (typeIs_int s x u) F.entry_int_rmul (F.args_int_rmul_2 _ _) (lm_int_rmul_list_any x u l vs.toArray k d sl)
      ⟨ho, rfl, ⟨_, ho, rfl⟩, call_meets F.slot_list_mul ⟨_, ho, rfl⟩ F.entry_list_mul (F.args_list_mul_2 _ _)
        (lm_list_mul_any l vs.toArray k d sl x u (by simp [Builtin.List.listFitsIndex]; omega) (by omega) (by simp [Builtin.List.listTooLong, sizeLine]; exact ar124 hsz))
        ⟨ho, ?_⟩⟩)
  rw [listMul_foldl_if]
  exact h

theorem new_list {xs : List V} {vs : List Value} {P : PV} {tk : Nat} (R : HR H0 ρ σ s.heap) (H : VRs H0 ρ s.heap xs vs) (hs : xs.length ≤ 1000) (hP : P (.ref σ.length) (σ ++ [xs])) :
    ∃ ρ' σ' v, Mv H0 [] ρ s ρ' σ' { s with heap := s.heap.push { cls := .type "list", data := .seq vs.toArray }, toks := tk } ∧ VR H0 ρ' (s.heap.push { cls := .type "list", data := .seq vs.toArray }) v (.ref s.heap.objs.size) ∧ P v σ' := by
  have := Mv.alloc (W := []) (s := s) R tk H hs (h' := s.heap.push { cls := .type "list", data := .seq vs.toArray }) (b := s.heap.objs.size) (fun b o e => Heap.get?_push_of_some _ e) (get?_size_none _)
    ⟨_, Heap.get?_push_size _ rfl⟩
  exact ⟨_, _, _, this.1, this.2, hP⟩
theorem new_tuple {xs : List V} {vs : List Value} {P : PV} {tk : Nat} (R : HR H0 ρ σ s.heap) (H : VRs H0 ρ s.heap xs vs) (hP : P (.tup xs) σ) :
    ∃ ρ' σ' v, Mv H0 [] ρ s ρ' σ' { s with heap := s.heap.push { cls := .type "tuple", data := .seq vs.toArray }, toks := tk } ∧ VR H0 ρ' (s.heap.push { cls := .type "tuple", data := .seq vs.toArray }) v (.ref s.heap.objs.size) ∧ P v σ' := by
  have k : ∀ b o, s.heap.get? b = some o → (s.heap.push { cls := .type "tuple", data := .seq vs.toArray }).get? b = some o := fun b o e => Heap.get?_push_of_some _ e
  exact ⟨_, _, _, Mv.grow R tk k, .tup ⟨_, Heap.get?_push_size _ rfl, rfl, _, rfl⟩ H.1 (H.mono (List.prefix_refl _) (tups_of k)).2, hP⟩

theorem rep_len {α : Type} (n : Nat) (xs : List α) : (List.replicate n xs).flatten.length = n * xs.length := by
  induction n with
  | zero => simp
  | succ n ih => simp [List.replicate_succ, ih, Nat.succ_mul, Nat.add_comm]

theorem snd_bin {mg mb : Str → Option Value} (Wh : Wd prog H0 mg mb) {op : Operator} {va vb : V} {a b : Value} {P : PV} (r : Room (d + 1) A) (R : HR H0 ρ σ s.heap) (ha : VR H0 ρ s.heap va a) (hb : VR H0 ρ s.heap vb b) (hw : wBin op va vb σ P) :
    Giv prog w H0 A (binaryOp op a b) ρ s P := by
  unfold Giv
  cases op
  all_goals first
    | exact hw.elim
    | skip
  · have hw : wAdd va vb σ P := hw
    unfold wAdd at hw
    split at hw
    · cases ha; cases hb
      exact PySem.P.add_int ⟨ρ, σ, _, Mv.tok R _, .int _ _, hw⟩
    · obtain ⟨xs, ys, h1, h2, h3, h4⟩ := hw
      cases ha with | ref ea => cases hb with | ref eb =>
      obtain ⟨vs, hl, hv⟩ := R.at ea h1
      obtain ⟨us, hl', hv'⟩ := R.at eb h2
      refine add_lists' hl.isList hl'.isList ?_ (by rw [sizeLine_eq, ← hv.1, ← hv'.1]; exact ar125 h3)
      exact new_list R (hv.append hv') (by simpa using h3) h4
    · exact hw.elim
  · have hw : wSubt va vb σ P := hw
    unfold wSubt at hw
    split at hw
    · cases ha; cases hb
      exact PySem.P.sub_int ⟨ρ, σ, _, Mv.tok R _, .int _ _, hw⟩
    · cases ha; cases hb
      exact sub_bool ⟨ρ, σ, _, Mv.tok R _, .int _ _, hw⟩
    · exact hw.elim
  · have hw : wMult va vb σ P := hw
    unfold wMult at hw
    split at hw
    · cases ha; cases hb
      exact PySem.P.mul_int ⟨ρ, σ, _, Mv.tok R _, .int _ _, hw.2⟩ hw.1
    · obtain ⟨xs, h1, h3, h5, h6, h4⟩ := hw
      cases ha with | ref ea => cases hb with | int _ _ =>
      obtain ⟨vs, hl, hv⟩ := R.at ea h1
      refine mul_list' hl.isList (by omega) (by omega) (by rw [← hv.1]; exact h3) ?_
      exact new_list R (hv.rep _) (by rw [rep_len, Nat.mul_comm]; exact ar126 h3) h4
    · exact hw.elim
  · have hw : wModu va vb σ P := hw
    unfold wModu at hw
    split at hw
    · cases ha; cases hb
      exact mod_int' hw.1 ⟨ρ, σ, _, Mv.tok R _, .int _ _, hw.2⟩
    · exact hw.elim
  · have hw : wFdiv va vb σ P := hw
    unfold wFdiv at hw
    split at hw
    · cases ha; cases hb
      refine floordiv_int hw.1 ⟨ρ, σ, _, Mv.tok R _, .int _ _, hw.2⟩ (.inr (PylongRoom.of (Wh.nolimit.keeps R.keep) ?_ (by obtain ⟨_, _, hf, h1, h2, h3, h4⟩ := r.fr; exact SeerAt.of (M := model prog w) (Wh.seer.keeps R.keep) Wh.gt hf h1 h2 h3 h4)))
      have := r.dep; have h2 : recursionLimit = 1000 := rfl; have h3 : Builtin.pylongFrames = 100 := rfl; exact ar127 this h2 h3
    · exact hw.elim

/-- what a clean value reads as -/
inductive Rd (σ : Sto) : V → PyData → Prop where
  | none : Rd σ .none .none
  | bool (b : Bool) : Rd σ (.bool b) (.bool b)
  | int (i : Int) : Rd σ (.int i) (.int i)
  | tup {xs : List V} {ds : List PyData} : xs.length = ds.length → (∀ (i : Nat) x d, xs[i]? = some x → ds[i]? = some d → Rd σ x d) → Rd σ (.tup xs) (.tuple ds)
  | ref {k : Nat} {xs : List V} {ds : List PyData} : σ[k]? = some xs → xs.length = ds.length → (∀ (i : Nat) x d, xs[i]? = some x → ds[i]? = some d → Rd σ x d) → Rd σ (.ref k) (.list ds)

theorem readsAll_of {h : Heap} : ∀ {vs : List Value} {ds : List PyData}, vs.length = ds.length → (∀ (i : Nat) v d, vs[i]? = some v → ds[i]? = some d → ∃ as, Reads h v d as) → ∃ as, ReadsAll h vs ds as
  | [], [], _, _ => ⟨_, .nil⟩
  | v :: vs, d :: ds, hl, hh => by
    obtain ⟨as, h1⟩ := hh 0 v d rfl rfl
    obtain ⟨bs, h2⟩ := readsAll_of (vs := vs) (ds := ds) (by simpa using hl) fun i v d e e' => hh (i + 1) v d (by simpa using e) (by simpa using e')
    exact ⟨_, .cons h1 h2⟩
  | [], _ :: _, hl, _ => by simp at hl
  | _ :: _, [], hl, _ => by simp at hl

theorem Rd.reads {v : V} {dt : PyData} (H : Rd σ v dt) (R : HR H0 ρ σ s.heap) : ∀ {u : Value}, VR H0 ρ s.heap v u → ∃ as, Reads s.heap u dt as := by
  induction H with
  | none => intro u hu; cases hu; exact ⟨_, .none⟩
  | bool b => intro u hu; cases hu; exact ⟨_, .bool b⟩
  | int i => intro u hu; cases hu; exact ⟨_, .int _ _⟩
  | @tup xs ds hl hh ih =>
    intro u hu
    cases hu with
    | @tup _ vs a e hl' hv =>
    obtain ⟨o, ho, hc, n, hd⟩ := e
    obtain ⟨as, hr⟩ := readsAll_of (h := s.heap) (vs := vs) (ds := ds) (hl'.symm.trans hl) fun i v d e1 e2 => by
      have hi : i < xs.length := hl' ▸ (List.getElem?_eq_some_iff.mp e1).1
      have e3 := List.getElem?_eq_getElem hi
      exact ih i _ d e3 e2 (hv i _ v e3 e1)
    exact ⟨_, .tuple ho hc hd (by simpa using hr)⟩
  | @ref k xs ds hk hl hh ih =>
    intro u hu
    cases hu with
    | ref ea =>
    obtain ⟨vs, hpl, hl', hv⟩ := R.at ea hk
    obtain ⟨o, ho, hc, n, hd⟩ := hpl.isList
    obtain ⟨as, hr⟩ := readsAll_of (h := s.heap) (vs := vs) (ds := ds) (hl'.symm.trans hl) fun i v d e1 e2 => by
      have hi : i < xs.length := hl' ▸ (List.getElem?_eq_some_iff.mp e1).1
      have e3 := List.getElem?_eq_getElem hi
      exact ih i _ d e3 e2 (hv i _ v e3 e1)
    exact ⟨_, .list ho hc hd (by simpa using hr)⟩

noncomputable def wCmp (op : CmpOp) (a b : V) (σ : Sto) (P : PV) : Prop := match op with
  | .Eq => ∃ da db, Rd σ a da ∧ Rd σ b db ∧ SeqAt.shaped da = true ∧ SeqAt.shaped db = true ∧ P (.bool (PyData.eqv da db)) σ
  | .NotEq => ∃ da db, Rd σ a da ∧ Rd σ b db ∧ SeqAt.shaped da = true ∧ SeqAt.shaped db = true ∧ P (.bool (!PyData.eqv da db)) σ
  | .Lt => ∃ x y, a = .int x ∧ b = .int y ∧ P (.bool (decide (x < y))) σ
  | .LtE => ∃ x y, a = .int x ∧ b = .int y ∧ P (.bool (decide (x ≤ y))) σ
  | .Gt => ∃ x y, a = .int x ∧ b = .int y ∧ P (.bool (decide (y < x))) σ
  | .GtE => ∃ x y, a = .int x ∧ b = .int y ∧ P (.bool (decide (y ≤ x))) σ
  | .Is => b = .none ∧ ((a = .none ∧ P (.bool true) σ) ∨ (a ≠ .none ∧ P (.bool false) σ))
  | _ => False

theorem snd_cmp {op : CmpOp} {va vb : V} {a b : Value} {P : PV} (r : Room d A) (R : HR H0 ρ σ s.heap) (ha : VR H0 ρ s.heap va a) (hb : VR H0 ρ s.heap vb b) (hw : wCmp op va vb σ P) :
    Giv prog w H0 A (compareOp op a b) ρ s P := by
  have cl := r.cl
  unfold wCmp at hw
  unfold Giv
  split at hw
  · obtain ⟨da, db, h1, h2, h3, h4, h5⟩ := hw
    obtain ⟨_, r1⟩ := h1.reads R ha
    obtain ⟨_, r2⟩ := h2.reads R hb
    exact eq_dataH r1 r2 h3 h4 cl ⟨ρ, σ, _, Mv.refl R, .bool _, h5⟩
  · obtain ⟨da, db, h1, h2, h3, h4, h5⟩ := hw
    obtain ⟨_, r1⟩ := h1.reads R ha
    obtain ⟨_, r2⟩ := h2.reads R hb
    exact ne_dataH r1 r2 h3 h4 cl ⟨ρ, σ, _, Mv.refl R, .bool _, h5⟩
  · obtain ⟨x, y, rfl, rfl, h⟩ := hw; cases ha; cases hb
    exact PySem.P.lt_int ⟨ρ, σ, _, Mv.refl R, .bool _, h⟩
  · obtain ⟨x, y, rfl, rfl, h⟩ := hw; cases ha; cases hb
    exact PySem.P.le_int ⟨ρ, σ, _, Mv.refl R, .bool _, h⟩
  · obtain ⟨x, y, rfl, rfl, h⟩ := hw; cases ha; cases hb
    exact PySem.P.gt_int ⟨ρ, σ, _, Mv.refl R, .bool _, h⟩
  · obtain ⟨x, y, rfl, rfl, h⟩ := hw; cases ha; cases hb
    exact PySem.P.ge_int ⟨ρ, σ, _, Mv.refl R, .bool _, h⟩
  · obtain ⟨rfl, ⟨rfl, h⟩ | ⟨hne, h⟩⟩ := hw
    · cases ha; cases hb
      exact is_none_none ⟨ρ, σ, _, Mv.refl R, .bool _, h⟩
    · cases hb
      refine is_none_ne (fun e => hne ?_) ⟨ρ, σ, _, Mv.refl R, .bool _, h⟩
      subst e; cases ha; rfl
  · exact hw.elim

noncomputable def wNeg (a : V) (σ : Sto) (P : PV) : Prop := ∃ x, a = .int x ∧ P (.int (-x)) σ
theorem snd_neg {va : V} {a : Value} {P : PV} (R : HR H0 ρ σ s.heap) (ha : VR H0 ρ s.heap va a) (hw : wNeg va σ P) : Giv prog w H0 A (unaryOp .USub a) ρ s P := by
  obtain ⟨x, rfl, h⟩ := hw; cases ha
  exact PySem.P.neg_int ⟨ρ, σ, _, Mv.tok R _, .int _ _, h⟩

/-- the items of a list or a tuple -/
noncomputable def seqOf (σ : Sto) : V → Option (List V)
  | .ref k => σ[k]?
  | .tup xs => if xs.length ≤ 1000 then some xs else none
  | _ => none
noncomputable def wItem (a b : V) (σ : Sto) (P : PV) : Prop := ∃ xs i v, seqOf σ a = some xs ∧ b = .int i ∧ ((0 ≤ i ∧ xs[i.toNat]? = some v) ∨ (i < 0 ∧ -(xs.length : Int) ≤ i ∧ xs[(i + xs.length).toNat]? = some v)) ∧ P v σ

theorem VRs.at {h : Heap} {xs : List V} {vs : List Value} (H : VRs H0 ρ h xs vs) {i : Nat} {x : V} (e : xs[i]? = some x) : ∃ v, vs[i]? = some v ∧ VR H0 ρ h x v := H.get e

theorem snd_item {va vb : V} {a b : Value} {P : PV} (R : HR H0 ρ σ s.heap) (ha : VR H0 ρ s.heap va a) (hb : VR H0 ρ s.heap vb b) (hw : wItem va vb σ P) : Giv prog w H0 A (getItem a b) ρ s P := by
  obtain ⟨xs, i, v, hs, rfl, hi, hP⟩ := hw
  have hl : xs.length ≤ 1000 := by
    cases ha with
    | @ref k a ea => exact R.small k xs hs
    | tup _ _ _ => simp only [seqOf] at hs; split at hs <;> simp at hs; subst hs; assumption
    | _ => simp [seqOf] at hs
  cases hb with
  | int _ t =>
  cases ha with
  | @ref k a ea =>
    obtain ⟨vs, hL, hv⟩ := R.at ea hs
    rcases hi with ⟨h0, e⟩ | ⟨h0, h1, e⟩
    · obtain ⟨u, eu, hu⟩ := hv.get e
      have hlt := (List.getElem?_eq_some_iff.mp e).1
      exact wpAny_getItem_list hL.isList h0 (by omega) (by simpa using eu) ⟨ρ, σ, _, Mv.refl R, hu, hP⟩
    · obtain ⟨u, eu, hu⟩ := hv.get e
      have hsz : vs.toArray.size = xs.length := by simp [hv.1]
      exact wpAny_getItem_list_neg hL.isList h0 (by rw [hsz]; exact h1) (by omega) (by rw [hsz]; simpa using eu) ⟨ρ, σ, _, Mv.refl R, hu, hP⟩
  | @tup _ vs a e hll hh =>
    simp only [seqOf] at hs
    split at hs <;> simp at hs
    subst hs
    have hv : VRs H0 ρ s.heap _ vs := ⟨hll, hh⟩
    rcases hi with ⟨h0, e'⟩ | ⟨h0, h1, e'⟩
    · obtain ⟨u, eu, hu⟩ := hv.get e'
      have hlt := (List.getElem?_eq_some_iff.mp e').1
      refine PyProof.Rows.getItem_tuple (j := i.toNat) e (by omega) (by omega) ?_ (by simpa using eu) ⟨ρ, σ, _, Mv.refl R, hu, hP⟩
      have hv1 := hv.1
      have hz : vs.toArray.size = vs.length := by simp
      have hn : ¬ i < 0 := by exact ar128 h0
      rw [hz]
      simp only [seqIndex?, hn, if_false, Bool.and_eq_true, decide_eq_true_eq]
      rw [if_pos (by exact ar129 hll h0 hlt)]
    · obtain ⟨u, eu, hu⟩ := hv.get e'
      have hv1 := hv.1
      refine PyProof.Rows.getItem_tuple (j := (i + vs.length).toNat) e (by omega) (by omega) ?_ (by rw [← hv1]; simpa using eu) ⟨ρ, σ, _, Mv.refl R, hu, hP⟩
      rw [seqIndex_neg h0 (by simp; exact ar130 hll h1)]
      simp
  | none => simp [seqOf] at hs
  | bool _ => simp [seqOf] at hs
  | int _ _ => simp [seqOf] at hs
  | frz _ _ => simp [seqOf] at hs

/-- the truth of a test -/
theorem truthy_bool {b : Bool} {P : Bool → Sto → Prop} (R : HR H0 ρ σ s.heap) (h : P b σ) : wpAny (model prog w) A (truthy (.bool b)) (fun b s' => ∃ ρ' σ', Mv H0 [] ρ s ρ' σ' s' ∧ P b σ') (fun _ _ => False) s :=
  wpAny_truthy_bool ⟨ρ, σ, Mv.refl R, h⟩
end Mine

namespace Mine
open PySem PySem.W PyProof.Rows
set_option linter.unusedVariables false
open PySem.Calls

variable {prog : Program} {w : World} {H0 : Heap} {d : Nat} {sc : Scope} {mg mb : Str → Option Value}

noncomputable def wName (x : Str) : WE := fun ε σ P => ∃ v, ε x = some v ∧ P v σ
theorem snd_name {x : Str} {pos : Pos} (hk : sc.names.lookup x = some .local ∨ sc.names.lookup x = some .cell ∨ sc.names.lookup x = some .free) (hd : (x == ("__debug__" : Str)) = false) (hn : (x == ("__classdict__" : Str)) = false) :
    SndE prog w H0 d sc (.Name x pos) (wName x) := by
  intro A env s ρ σ ε P r hs F R ⟨v, hv, hP⟩
  subst hs
  refine wpAny_Name ?_ hd
  rcases hk with h | h | h
  · obtain ⟨m, N, hm⟩ := F.loc
    obtain ⟨u, hu, H⟩ := hm x v h hv
    exact wpAny_loadName_local F.kind h N hu ⟨ρ, σ, v, Mv.refl R, H, hP⟩
  · obtain ⟨c, hc⟩ := F.has x (.inl h)
    obtain ⟨cv, C, hcv⟩ := F.cel x c hc
    obtain ⟨u, rfl, H⟩ := hcv (by unfold Env.kindOf; rw [h]; simp) v hv
    exact wpAny_loadName_cell F.kind h hc C ⟨ρ, σ, v, Mv.refl R, H, hP⟩
  · obtain ⟨c, hc⟩ := F.has x (.inr h)
    obtain ⟨cv, C, hcv⟩ := F.cel x c hc
    obtain ⟨u, rfl, H⟩ := hcv (by unfold Env.kindOf; rw [h]; simp) v hv
    exact wpAny_loadName_free F.kind h hc C ⟨ρ, σ, v, Mv.refl R, H, hP⟩ hn

/-- a global of the program that holds a standing value -/
noncomputable def Stands (H0 : Heap) (mg : Str → Option Value) (x : Str) (v : V) : Prop := ∃ u, mg x = some u ∧ ∀ (ρ : List Addr) (h : Heap), (∀ a o, H0.get? a = some o → h.get? a = some o) → VR H0 ρ h v u
noncomputable def wVal (v : V) : WE := fun ε σ P => P v σ
theorem snd_glob (Wh : Wd prog H0 mg mb) {x : Str} {pos : Pos} {v : V} (hv : Stands H0 mg x v) (hk : sc.names.lookup x = some .globalImplicit) (hd : (x == ("__debug__" : Str)) = false) :
    SndE prog w H0 d sc (.Name x pos) (wVal v) := by
  intro A env s ρ σ ε P r hs F R hP
  subst hs
  obtain ⟨u, hu, H⟩ := hv
  refine Name_function_global F.kind hk (loadGlobal_global (by rw [F.glob]; exact Wh.g.keeps R.keep) hu ⟨ρ, σ, v, Mv.refl R, H _ _ R.keep, hP⟩) hd

theorem snd_int {i : Int} {k : Nat} {pos : Pos} : SndE prog w H0 d sc (.Constant (.int i) k pos) (wVal (.int i)) := by
  intro A env s ρ σ ε P r hs F R hP
  exact wpAny_Constant_int ⟨ρ, σ, _, Mv.tok R _, .int _ _, hP⟩
theorem snd_none {k : Nat} {pos : Pos} : SndE prog w H0 d sc (.Constant .none k pos) (wVal .none) := by
  intro A env s ρ σ ε P r hs F R hP
  exact wpAny_pure ⟨ρ, σ, _, Mv.refl R, .none, hP⟩

/-- lists of expressions -/
theorem sndL_nil : SndL prog w H0 d sc [] (fun ε σ P => P [] σ) := by
  intro A env s ρ σ ε P pos r hs F R hP
  exact spliced_nil ⟨ρ, σ, [], Mv.refl R, VRs.nil, hP⟩
theorem sndL_cons {e : Expr} {es : List Expr} {W : WE} {Ws : WL} (he : SndE prog w H0 d sc e W) (hes : SndL prog w H0 d sc es Ws) (hst : ∀ env, starEach (e :: es) env = (false, eval e env) :: starEach es env) :
    SndL prog w H0 d sc (e :: es) (fun ε σ P => W ε σ fun v σ1 => Ws ε σ1 fun vs σ2 => P (v :: vs) σ2) := by
  intro A env s ρ σ ε P pos r hs F R hP
  rw [hst]
  show wpAny _ _ (spliced ((false, eval e env) :: backTo pos (starEach es env))) _ _ _
  refine spliced_cons ((he A env s ρ σ ε _ r hs F R hP).mono fun u s1 ρ1 σ1 v m hv h1 => ?_)
  refine wpAny_mono (hes A env s1 ρ1 σ1 ε _ pos r hs (F.mv R m) m.hr h1) (fun us s2 hPq => ?_) fun _ _ h => h
  obtain ⟨ρ2, σ2, vs, m2, hvs, hP⟩ := hPq
  exact ⟨ρ2, σ2, v :: vs, m.trans m2, VRs.cons (hv.mv m.hr m2) hvs, hP⟩

/-- none is starred -/
noncomputable def Plain (es : List Expr) : Prop := ∀ env pos, (backTo pos (starEach es env)).any (·.1) = false

noncomputable def wTup (Ws : WL) : WE := fun ε σ P => Ws ε σ fun vs σ1 => vs.length ≤ 1000 ∧ P (.tup vs) σ1
theorem snd_tup {es : List Expr} {k : Nat} {pos : Pos} {Ws : WL} (h : SndL prog w H0 d sc es Ws) : SndE prog w H0 d sc (.Tuple es k pos) (wTup Ws) := by
  intro A env s ρ σ ε P r hs F R hP
  refine wpAny_Tuple (wpAny_mono (h A env s ρ σ ε _ pos r hs F R hP) (fun us s1 hPq => ?_) fun _ _ h => h)
  obtain ⟨ρ1, σ1, vs, m, hv, hl, hP⟩ := hPq
  refine ⟨by rw [← hv.1, sizeLine_eq]; exact ar131 hl, ?_⟩
  obtain ⟨ρ2, σ2, v, m2, hv2, hP⟩ := new_tuple (tk := s1.toks) m.hr hv hP
  exact ⟨ρ2, σ2, v, m.trans m2, hv2, hP⟩
noncomputable def wLst (Ws : WL) : WE := fun ε σ P => Ws ε σ fun vs σ1 => vs.length ≤ 1000 ∧ P (.ref σ1.length) (σ1 ++ [vs])
theorem snd_lst {es : List Expr} {pos : Pos} {Ws : WL} (h : SndL prog w H0 d sc es Ws) : SndE prog w H0 d sc (.List es pos) (wLst Ws) := by
  intro A env s ρ σ ε P r hs F R hP
  refine wpAny_List (wpAny_mono (h A env s ρ σ ε _ pos r hs F R hP) (fun us s1 hPq => ?_) fun _ _ h => h)
  obtain ⟨ρ1, σ1, vs, m, hv, hl, hP⟩ := hPq
  refine ⟨by rw [← hv.1, sizeLine_eq]; exact ar131 hl, ?_⟩
  obtain ⟨ρ2, σ2, v, m2, hv2, hP⟩ := new_list (tk := s1.toks) m.hr hv hl hP
  exact ⟨ρ2, σ2, v, m.trans m2, hv2, hP⟩

noncomputable def wOp2 (O : V → V → Sto → PV → Prop) (Wl Wr : WE) : WE := fun ε σ P => Wl ε σ fun a σ1 => Wr ε σ1 fun b σ2 => O a b σ2 P
theorem snd_binop (Wh : Wd prog H0 mg mb) {op : Operator} {l r : Expr} {pos : Pos} {Wl Wr : WE} (hl : SndE prog w H0 (d + 1) sc l Wl) (hr : SndE prog w H0 (d + 1) sc r Wr) :
    SndE prog w H0 (d + 1) sc (.BinOp l op r pos) (wOp2 (wBin op) Wl Wr) := by
  intro A env s ρ σ ε P rm hs F R hP
  refine wpAny_BinOp ((hl A env s ρ σ ε _ rm hs F R hP).mono fun u s1 ρ1 σ1 a m ha h1 => ?_)
  refine (hr A env s1 ρ1 σ1 ε _ rm hs (F.mv R m) m.hr h1).mono fun u' s2 ρ2 σ2 b m2 hb h2 => ?_
  exact Giv.after (m.trans m2) (snd_bin Wh rm m2.hr (ha.mv m.hr m2) hb h2)
theorem snd_compare {op : CmpOp} {l r : Expr} {pos : Pos} {Wl Wr : WE} (hl : SndE prog w H0 d sc l Wl) (hr : SndE prog w H0 d sc r Wr) (hm : behindInMarks op r = false) :
    SndE prog w H0 d sc (.Compare l [op] [r] pos) (wOp2 (wCmp op) Wl Wr) := by
  intro A env s ρ σ ε P rm hs F R hP
  refine wpAny_Compare1 ((hl A env s ρ σ ε _ rm hs F R hP).mono fun u s1 ρ1 σ1 a m ha h1 => ?_) hm
  refine (hr A env s1 ρ1 σ1 ε _ rm hs (F.mv R m) m.hr h1).mono fun u' s2 ρ2 σ2 b m2 hb h2 => ?_
  exact Giv.after (m.trans m2) (snd_cmp rm m2.hr (ha.mv m.hr m2) hb h2)
noncomputable def wUn (W : WE) : WE := fun ε σ P => W ε σ fun a σ1 => wNeg a σ1 P
theorem snd_usub {e : Expr} {pos : Pos} {W : WE} (h : SndE prog w H0 d sc e W) : SndE prog w H0 d sc (.UnaryOp .USub e pos) (wUn W) := by
  intro A env s ρ σ ε P rm hs F R hP
  refine wpAny_UnaryOp ((h A env s ρ σ ε _ rm hs F R hP).mono fun u s1 ρ1 σ1 a m ha h1 => ?_)
  exact Giv.after m (snd_neg m.hr ha h1)

/-- tests -/
noncomputable def wTest (Wl Wr : WE) (op : CmpOp) : WT := fun ε σ P => Wl ε σ fun a σ1 => Wr ε σ1 fun b σ2 => wCmp op a b σ2 fun v σ3 => ∃ c, v = .bool c ∧ P c σ3
theorem sndT_cmp {op : CmpOp} {l r : Expr} {pos : Pos} {Wl Wr : WE} (hl : SndE prog w H0 d sc l Wl) (hr : SndE prog w H0 d sc r Wr) (hm : behindInMarks op r = false) :
    SndT prog w H0 d sc (.Compare l [op] [r] pos) (wTest Wl Wr op) := by
  intro A env s ρ σ ε P rm hs F R hP
  refine wpAny_isTrue_Compare1 ((hl A env s ρ σ ε _ rm hs F R hP).mono fun u s1 ρ1 σ1 a m ha h1 => ?_) hm
  refine (hr A env s1 ρ1 σ1 ε _ rm hs (F.mv R m) m.hr h1).mono fun u' s2 ρ2 σ2 b m2 hb h2 => ?_
  refine (snd_cmp rm m2.hr (ha.mv m.hr m2) hb h2).mono fun u'' s3 ρ3 σ3 v m3 hv h3 => ?_
  obtain ⟨c, rfl, hP⟩ := h3
  cases hv
  exact wpAny_truthy_bool ⟨ρ3, σ3, (m.trans m2).trans m3, hP⟩
noncomputable def wAnd (W1 W2 : WT) : WT := fun ε σ P => W1 ε σ fun b σ1 => (b = false → P false σ1) ∧ (b = true → W2 ε σ1 P)
noncomputable def wOr (W1 W2 : WT) : WT := fun ε σ P => W1 ε σ fun b σ1 => (b = true → P true σ1) ∧ (b = false → W2 ε σ1 P)
theorem sndT_and {a b : Expr} {pos : Pos} {W1 W2 : WT} (h1 : SndT prog w H0 d sc a W1) (h2 : SndT prog w H0 d sc b W2) : SndT prog w H0 d sc (.BoolOp .And [a, b] pos) (wAnd W1 W2) := by
  intro A env s ρ σ ε P rm hs F R hP
  rw [arm_isTrue_BoolOp, arm_allTrue_cons]
  refine wpAny_bind (wpAny_mono (h1 A env s ρ σ ε _ rm hs F R hP) (fun c s1 hPq => ?_) fun _ _ h => h)
  obtain ⟨ρ1, σ1, m, hc⟩ := hPq
  cases c with
  | false => exact wpAny_pure ⟨ρ1, σ1, m, hc.1 rfl⟩
  | true =>
    show wpAny _ _ (allTrue .And [b] env) _ _ _
    rw [arm_allTrue_cons]
    refine wpAny_bind (wpAny_mono (h2 A env s1 ρ1 σ1 ε _ rm hs (F.mv R m) m.hr (hc.2 rfl)) (fun c s2 hPq => ?_) fun _ _ h => h)
    obtain ⟨ρ2, σ2, m2, hc⟩ := hPq
    cases c with
    | false => exact wpAny_pure ⟨ρ2, σ2, m.trans m2, hc⟩
    | true => exact wpAny_pure ⟨ρ2, σ2, m.trans m2, hc⟩
theorem sndT_or {a b : Expr} {pos : Pos} {W1 W2 : WT} (h1 : SndT prog w H0 d sc a W1) (h2 : SndT prog w H0 d sc b W2) : SndT prog w H0 d sc (.BoolOp .Or [a, b] pos) (wOr W1 W2) := by
  intro A env s ρ σ ε P rm hs F R hP
  rw [arm_isTrue_BoolOp, arm_allTrue_cons]
  refine wpAny_bind (wpAny_mono (h1 A env s ρ σ ε _ rm hs F R hP) (fun c s1 hPq => ?_) fun _ _ h => h)
  obtain ⟨ρ1, σ1, m, hc⟩ := hPq
  cases c with
  | true => exact wpAny_pure ⟨ρ1, σ1, m, hc.1 rfl⟩
  | false =>
    show wpAny _ _ (allTrue .Or [b] env) _ _ _
    rw [arm_allTrue_cons]
    refine wpAny_bind (wpAny_mono (h2 A env s1 ρ1 σ1 ε _ rm hs (F.mv R m) m.hr (hc.2 rfl)) (fun c s2 hPq => ?_) fun _ _ h => h)
    obtain ⟨ρ2, σ2, m2, hc⟩ := hPq
    cases c with
    | false => exact wpAny_pure ⟨ρ2, σ2, m.trans m2, hc⟩
    | true => exact wpAny_pure ⟨ρ2, σ2, m.trans m2, hc⟩

noncomputable def wIfE (T : WT) (W1 W2 : WE) : WE := fun ε σ P => T ε σ fun b σ1 => (b = true → W1 ε σ1 P) ∧ (b = false → W2 ε σ1 P)
theorem snd_ifexp {t a b : Expr} {pos : Pos} {T : WT} {W1 W2 : WE} (ht : SndT prog w H0 d sc t T) (h1 : SndE prog w H0 d sc a W1) (h2 : SndE prog w H0 d sc b W2) :
    SndE prog w H0 d sc (.IfExp t a b pos) (wIfE T W1 W2) := by
  intro A env s ρ σ ε P rm hs F R hP
  refine wpAny_IfExp (wpAny_mono (ht A env s ρ σ ε _ rm hs F R hP) (fun c s1 hPq => ?_) fun _ _ h => h)
  obtain ⟨ρ1, σ1, m, hc⟩ := hPq
  cases c with
  | true => exact Giv.after m (h1 A env s1 ρ1 σ1 ε _ rm hs (F.mv R m) m.hr (hc.1 rfl))
  | false => exact Giv.after m (h2 A env s1 ρ1 σ1 ε _ rm hs (F.mv R m) m.hr (hc.2 rfl))

/-- an item at a place -/
theorem snd_sub {v i : Expr} {pos : Pos} {Wv Wi : WE} (hv : SndE prog w H0 d sc v Wv) (hi : SndE prog w H0 d sc i Wi) (hsl : ∀ o k, subscripted i false o k = operate [o, k] (getItem o k)) :
    SndE prog w H0 d sc (.Subscript v i pos) (wOp2 wItem Wv Wi) := by
  intro A env s ρ σ ε P rm hs F R hP
  refine Subscript_ ((hv A env s ρ σ ε _ rm hs F R hP).mono fun u s1 ρ1 σ1 a m ha h1 => ?_)
  refine (hi A env s1 ρ1 σ1 ε _ rm hs (F.mv R m) m.hr h1).mono fun u' s2 ρ2 σ2 b m2 hb h2 => ?_
  have ha' := ha.mv m.hr m2
  have key := Giv.after (m.trans m2) (snd_item (prog := prog) (w := w) (A := A) m2.hr ha' hb h2)
  obtain ⟨xs, _, _, hsq, _⟩ := h2
  cases ha' with
  | ref ea =>
    obtain ⟨vs, hL, _⟩ := m2.hr.at ea hsq
    exact tail_any hL.isList.typeIs slot_list_getitem.lookup key (hsl _ _)
  | tup e _ _ => exact tail_any (IsTup.typeIs e) slot_tuple_getitem.lookup key (hsl _ _)
  | none => simp [seqOf] at hsq
  | bool _ => simp [seqOf] at hsq
  | int _ _ => simp [seqOf] at hsq
  | frz _ _ => simp [seqOf] at hsq

/-- all up to a place -/
noncomputable def upto (n : Nat) (i : Int) : Nat := (max 0 (min (if i < 0 then i + n else i) n)).toNat
noncomputable def wUpto (a b : V) (σ : Sto) (P : PV) : Prop := ∃ i, b = .int i ∧
  ((∃ k xs, a = .ref k ∧ σ[k]? = some xs ∧ P (.ref σ.length) (σ ++ [xs.take (upto xs.length i)])) ∨
   (∃ ns : List Int, a = .frz ns ∧ ns.length ≤ 1000 ∧ P (.ref σ.length) (σ ++ [(ns.take (upto ns.length i)).map V.int])))

theorem IntsAre.vrs {ρ : List Addr} {h : Heap} : ∀ {vs : List Value} {ns : List Int}, IntsAre vs ns → VRs H0 ρ h (ns.map V.int) vs
  | _, _, .nil => VRs.nil
  | _, _, .cons n t r => VRs.cons (.int n t) (IntsAre.vrs r)

theorem pick_upto (vs : List Value) (i : Int) : slicePick vs.toArray none (some i) none = (vs.take (upto vs.length i)).toArray := by
  rw [slicePick_plain]
  simp [clipAt, upto]

theorem upto_le (n : Nat) (i : Int) : upto n i ≤ n := by unfold upto; exact ar132

theorem snd_upto {v e : Expr} {p pos : Pos} {Wv We : WE} (hv : SndE prog w H0 d sc v Wv) (he : SndE prog w H0 d sc e We) :
    SndE prog w H0 d sc (.Subscript v (.Slice none (some e) none p) pos) (wOp2 wUpto Wv We) := by
  intro A env s ρ σ ε P rm hs F R hP
  refine Subscript_ ((hv A env s ρ σ ε _ rm hs F R hP).mono fun u s1 ρ1 σ1 a m ha h1 => ?_)
  refine wpAny_Slice ?_
  rw [evalPart_none, evalPart_some]
  refine wpAny_pure ((he A env s1 ρ1 σ1 ε _ rm hs (F.mv R m) m.hr h1).mono fun u' s2 ρ2 σ2 b m2 hb h2 => ?_)
  refine wpAny_pure ?_
  have ha' := ha.mv m.hr m2
  obtain ⟨i, rfl, h2⟩ := h2
  cases hb with
  | int _ t =>
  have k : ∀ b o, s2.heap.get? b = some o → (s2.heap.push { cls := .type "slice", data := .fields #[Value.none, .int i t, .none] }).get? b = some o := fun b o e => Heap.get?_push_of_some _ e
  have m3 := Mv.grow (W := []) m2.hr s2.toks k
  rcases h2 with ⟨kk, xs, rfl, hx, hP⟩ | ⟨ns, rfl, hn, hP⟩
  · cases ha' with
    | ref ea =>
    obtain ⟨vs, hL, hvs⟩ := m3.hr.at ea hx
    refine tail_any (s := { s2 with heap := s2.heap.push { cls := .type "slice", data := .fields #[Value.none, .int i t, .none] } }) hL.isList.typeIs list_getitem_lookup
      (wpAny_getItem_list_slice hL.isList (Heap.IsSliceOf.new ..) .none (.int i t) .none (by simp) ?_ (by have := m3.hr.small _ _ hx; rw [sizeLine_eq]; simp [← hvs.1]; exact ar131 this)) rfl
    rw [pick_upto, ← hvs.1]
    obtain ⟨ρ4, σ4, v4, m4, hv4, hP4⟩ := new_list (P := P) (tk := s2.toks) m3.hr (hvs.take (upto xs.length i)) (by have := m3.hr.small _ _ hx; simp; exact ar133 this) hP
    exact ⟨ρ4, σ4, v4, ((m.trans m2).trans m3).trans m4, hv4, hP4⟩
  · cases ha' with
    | frz hl hi =>
    have hL := Heap.IsList.at hl (fun o e => m3.hr.keep _ o e)
    have hvs : VRs H0 ρ2 (s2.heap.push { cls := .type "slice", data := .fields #[Value.none, .int i t, .none] }) (ns.map V.int) _ := IntsAre.vrs hi
    have hln : ns.length = (ns.map V.int).length := by simp
    refine tail_any (s := { s2 with heap := s2.heap.push { cls := .type "slice", data := .fields #[Value.none, .int i t, .none] } }) (Heap.IsList.typeIs hL) list_getitem_lookup
      (wpAny_getItem_list_slice hL (Heap.IsSliceOf.new ..) .none (.int i t) .none (by simp) ?_ (by rw [sizeLine_eq]; have := hvs.1; simp at this; simp [← this]; exact ar131 hn)) rfl
    rw [pick_upto, ← hvs.1, ← hln]
    obtain ⟨ρ4, σ4, v4, m4, hv4, hP4⟩ := new_list (P := P) (tk := s2.toks) m3.hr (hvs.take (upto ns.length i)) (by simp; exact ar133 hn) (by rw [← List.map_take]; exact hP)
    exact ⟨ρ4, σ4, v4, ((m.trans m2).trans m3).trans m4, hv4, hP4⟩
end Mine

namespace Mine
open PySem PySem.W PyProof.Rows
set_option linter.unusedVariables false
open PySem.Calls

variable {prog : Program} {w : World} {H0 : Heap} {d : Nat} {sc : Scope} {mg mb : Str → Option Value}

noncomputable abbrev Con := List V → Sto → PV → Prop

/-- calling the value f, with d calls of room, is told by C -/
noncomputable def CallOk (prog : Program) (w : World) (H0 : Heap) (d : Nat) (f : Value) (C : Con) : Prop :=
  ∀ (A : Around) (s : Shared) (ρ : List Addr) (σ : Sto) (vs : List V) (us : List Value) (P : PV), Room d A → HR H0 ρ σ s.heap → VRs H0 ρ s.heap vs us → C vs σ P →
    Giv prog w H0 A (call f us []) ρ s P

noncomputable def wCall (Ws : WL) (C : Con) : WE := fun ε σ P => Ws ε σ fun vs σ1 => C vs σ1 P

/-- a built-in function or class called by its name -/
theorem snd_callB (Wh : Wd prog H0 mg mb) {x : Str} {f : Value} {e : Expr} {es : List Expr} {p pos : Pos} {Ws : WL} {C : Con} (hf : (∃ id, f = .builtin id) ∨ (∃ T, f = .type T)) (hb : bootBuiltins x = some f) (hm : mg x = none) (hx : x ≠ "__name__")
    (hk : sc.names.lookup x = some .globalImplicit) (hd : (x == ("__debug__" : Str)) = false) (hst : ∀ env, starEach (e :: es) env = (false, eval e env) :: starEach es env) (hp : Plain es)
    (h : SndL prog w H0 d sc (e :: es) Ws) (hc : CallOk prog w H0 d f C) : SndE prog w H0 d sc (.Call (.Name x p) (e :: es) [] pos) (wCall Ws C) := by
  intro A env s ρ σ ε P r hs F R hP
  have hk' : env.kindOf x = some .globalImplicit := by subst hs; exact hk
  refine wpAny_Call_Name_kw (Name_function_global F.kind hk' (loadGlobal_builtin (by rw [F.glob]; exact Wh.g.keeps R.keep) hm (by rw [F.bi]; exact Wh.b.keeps R.keep) (by rw [Wh.builtins x hx]; exact hb) ?_) hd)
  have key : wpAny (model prog w) A (evalArgs f true (backTo pos (starEach (e :: es) env)) []) (fun a s₁ => wpAny (model prog w) A (call f ([] ++ a.pos) a.kw)
      (fun u s' => ∃ ρ' σ' v, Mv H0 [] ρ s ρ' σ' s' ∧ VR H0 ρ' s'.heap v u ∧ P v σ') (fun _ _ => False) s₁) (fun _ _ => False) s := by
    have h' := h A env s ρ σ ε _ pos r hs F R hP
    rw [hst] at h' ⊢
    refine evalArgs_plain (wpAny_mono h' (fun us s1 hPq => ?_) fun _ _ h => h)
    obtain ⟨ρ1, σ1, vs, m, hv, hw⟩ := hPq
    exact Giv.after m (hc A s1 ρ1 σ1 vs us P r m.hr hv hw)
  have hpl : (backTo pos (starEach (e :: es) env)).any (·.1) = false := by
    rw [hst]
    show (false || (backTo pos (starEach es env)).any (·.1)) = false
    rw [hp env pos]; rfl
  rcases hf with ⟨id, rfl⟩ | ⟨T, rfl⟩
  · exact callWith_builtin hpl key
  · exact PyProof.Rows.callWith_type hpl key

/-- a function of the program -/
structure FnOk (prog : Program) (w : World) (H0 : Heap) (mg : Str → Option Value) (d : Nat) (x : Str) (C : Con) : Prop where
  ok : ∃ a o fd, mg x = some (.ref a) ∧ H0.get? a = some o ∧ o.data = .func fd ∧ CallOk prog w H0 d (.ref a) C

theorem CallOk.less {f : Value} {C : Con} {e : Nat} (h : CallOk prog w H0 d f C) (hl : d ≤ e) : CallOk prog w H0 e f C := fun A s ρ σ vs us P r => h A s ρ σ vs us P (r.less hl)
theorem FnOk.less {x : Str} {C : Con} {e : Nat} (h : FnOk prog w H0 mg d x C) (hl : d ≤ e) : FnOk prog w H0 mg e x C :=
  let ⟨a, o, fd, h1, h2, h3, h4⟩ := h.ok; ⟨a, o, fd, h1, h2, h3, h4.less hl⟩

theorem snd_call (Wh : Wd prog H0 mg mb) {x : Str} {e : Expr} {es : List Expr} {p pos : Pos} {Ws : WL} {C : Con} (hc : FnOk prog w H0 mg d x C)
    (hk : sc.names.lookup x = some .globalImplicit) (hd : (x == ("__debug__" : Str)) = false) (hst : ∀ env, starEach (e :: es) env = (false, eval e env) :: starEach es env)
    (h : SndL prog w H0 d sc (e :: es) Ws) : SndE prog w H0 d sc (.Call (.Name x p) (e :: es) [] pos) (wCall Ws C) := by
  intro A env s ρ σ ε P r hs F R hP
  obtain ⟨a, o, fd, hm, ho, hfd, hc⟩ := hc.ok
  have hk' : env.kindOf x = some .globalImplicit := by subst hs; exact hk
  refine wpAny_Call_Name_kw (Name_function_global F.kind hk' (loadGlobal_global (by rw [F.glob]; exact Wh.g.keeps R.keep) hm ?_) hd)
  refine callWith_function (o := o) (fd := fd) ?_
  have h' := h A env s ρ σ ε _ pos r hs F R hP
  rw [hst] at h' ⊢
  refine evalArgs_plain (wpAny_mono h' (fun us s1 ⟨ρ1, σ1, vs, m, hv, hw⟩ => ⟨⟨m.hr.keep _ _ ho, hfd⟩, ?_⟩) fun _ _ h => h)
  exact Giv.after m (hc A s1 ρ1 σ1 vs us P r m.hr hv hw)

theorem VRs.one {ρ : List Addr} {h : Heap} {v : V} {us : List Value} (H : VRs H0 ρ h [v] us) : ∃ u, us = [u] ∧ VR H0 ρ h v u := by
  match us, H with
  | [u], H => exact ⟨u, rfl, H.head⟩
  | [], H => simp [VRs] at H
  | _ :: _ :: _, H => simp [VRs] at H
theorem VRs.two {ρ : List Addr} {h : Heap} {v v' : V} {us : List Value} (H : VRs H0 ρ h [v, v'] us) : ∃ u u', us = [u, u'] ∧ VR H0 ρ h v u ∧ VR H0 ρ h v' u' := by
  match us, H with
  | [u, u'], H => exact ⟨u, u', rfl, H.head, H.tail.head⟩
  | [], H => simp [VRs] at H
  | [_], H => simp [VRs] at H
  | _ :: _ :: _ :: _, H => simp [VRs] at H

/-- the built-ins -/
noncomputable def cLen : Con := fun vs σ P => ∃ k xs, vs = [.ref k] ∧ σ[k]? = some xs ∧ P (.int xs.length) σ
theorem ok_len : CallOk prog w H0 d (.builtin "len") cLen := by
  intro A s ρ σ vs us P r R hv ⟨k, xs, e, hk, hP⟩
  subst e
  obtain ⟨u, rfl, hu⟩ := hv.one
  cases hu with
  | ref ea =>
  obtain ⟨ws, hL, hw⟩ := R.at ea hk
  have := R.small _ _ hk
  refine Calls.call_len_list hL.isList (by simp [← hw.1]; exact ar134 this) ⟨ρ, σ, _, Mv.tok R _, .int _ _, ?_⟩
  simpa [← hw.1] using hP
noncomputable def cAbs : Con := fun vs σ P => ∃ x, vs = [.int x] ∧ P (.int x.natAbs) σ
theorem ok_abs : CallOk prog w H0 d (.builtin "abs") cAbs := by
  intro A s ρ σ vs us P r R hv ⟨x, e, hP⟩
  subst e
  obtain ⟨u, rfl, hu⟩ := hv.one
  cases hu with
  | int _ t =>
  refine call_abs_int fun u tk => ⟨ρ, σ, _, Mv.tok R _, .int _ _, ?_⟩
  have : (if x < 0 then -x else x) = (x.natAbs : Int) := by split <;> (first | exact ar135 (by assumption) | omega)
  rw [this]; exact hP
noncomputable def cInt : Con := fun vs σ P => ∃ x, vs = [.int x] ∧ P (.int x) σ
theorem ok_int : CallOk prog w H0 d (.type "int") cInt := by
  intro A s ρ σ vs us P r R hv ⟨x, e, hP⟩
  subst e
  obtain ⟨u, rfl, hu⟩ := hv.one
  cases hu with
  | int _ t =>
  exact call_int_int ⟨ρ, σ, _, Mv.refl R, .int _ _, hP⟩
noncomputable def cList : Con := fun vs σ P => ∃ k xs, vs = [.ref k] ∧ σ[k]? = some xs ∧ P (.ref σ.length) (σ ++ [xs])
theorem ok_list : CallOk prog w H0 d (.type "list") cList := by
  intro A s ρ σ vs us P r R hv ⟨k, xs, e, hk, hP⟩
  subst e
  obtain ⟨u, rfl, hu⟩ := hv.one
  cases hu with
  | ref ea =>
  obtain ⟨ws, ⟨n, hL⟩, hw⟩ := R.at ea hk
  have := R.small _ _ hk
  refine call_list_seq _ (.inl rfl) hL rfl rfl (fun h' c' kk e => ?_) (by rw [sizeLine_eq]; simp [← hw.1]; exact ar131 this)
  have := Mv.alloc (W := []) R s.toks hw this kk (get?_size_none _) ⟨_, e⟩
  exact ⟨_, _, _, this.1, this.2, hP⟩
noncomputable def cMin : Con := fun vs σ P => ∃ x y, vs = [.int x, .int y] ∧ P (.int (min x y)) σ
theorem ok_min : CallOk prog w H0 d (.builtin "min") cMin := by
  intro A s ρ σ vs us P r R hv ⟨x, y, e, hP⟩
  subst e
  obtain ⟨u, u', rfl, hu, hu'⟩ := hv.two
  cases hu with
  | int _ t =>
  cases hu' with
  | int _ t' =>
  refine min_two_ints r.hd fun h' tk k => ?_
  by_cases hh : y < x
  · rw [if_pos hh]; exact ⟨ρ, σ, _, Mv.grow R tk k, .int y _, by rw [Int.min_eq_right (by exact ar136 hh)] at hP; exact hP⟩
  · rw [if_neg hh]; exact ⟨ρ, σ, _, Mv.grow R tk k, .int x _, by rw [Int.min_eq_left (by exact ar137 hh)] at hP; exact hP⟩
noncomputable def cMax : Con := fun vs σ P => ∃ x y, vs = [.int x, .int y] ∧ P (.int (max x y)) σ
theorem ok_max : CallOk prog w H0 d (.builtin "max") cMax := by
  intro A s ρ σ vs us P r R hv ⟨x, y, e, hP⟩
  subst e
  obtain ⟨u, u', rfl, hu, hu'⟩ := hv.two
  cases hu with
  | int _ t =>
  cases hu' with
  | int _ t' =>
  refine max_two_ints r.hd fun h' tk k => ?_
  by_cases hh : y > x
  · rw [if_pos hh]; exact ⟨ρ, σ, _, Mv.grow R tk k, .int y _, by rw [Int.max_eq_right (by exact ar138 hh)] at hP; exact hP⟩
  · rw [if_neg hh]; exact ⟨ρ, σ, _, Mv.grow R tk k, .int x _, by rw [Int.max_eq_left (by exact ar139 hh)] at hP; exact hP⟩

theorem vrs_ints {ρ : List Addr} {h : Heap} : ∀ {ns : List Int} {vs : List Value}, VRs H0 ρ h (ns.map V.int) vs → ∀ (i : Nat) (n : Int), ns[i]? = some n → ∃ t, vs[i]? = some (.int n t) := fun {ns vs} H i n e => by
  obtain ⟨v, ev, hv⟩ := H.get (i := i) (x := .int n) (by simp [e])
  cases hv
  exact ⟨_, ev⟩

theorem preSum_take (ns : List Int) : ∀ j, preSum (fun i => ns.getD i 0) j = (ns.take j).sum := fun j => PyProof.Rows.preSum_getD ns j

noncomputable def cSum : Con := fun vs σ P => ∃ k ns, vs = [.ref k] ∧ σ[k]? = some (ns.map V.int) ∧ PyProof.Rows.SumFits ns ∧ P (.int ns.sum) σ
theorem ok_sum : CallOk prog w H0 (d + 1) (.builtin "sum") cSum := by
  intro A s ρ σ vs us P r R hv ⟨k, ns, e, hk, hf, hP⟩
  subst e
  obtain ⟨u, rfl, hu⟩ := hv.one
  cases hu with
  | @ref _ a ea =>
  obtain ⟨ws, hL, hw⟩ := R.at ea hk
  refine call_sum_walk (wpAny_pyIter_list hL.isList ?_)
  have ha : a < s.heap.objs.size := by obtain ⟨n, e⟩ := hL; exact Heap.lt_size e
  have hlen : ws.length = ns.length := by have := hw.1; simp at this; exact this.symm
  refine ⟨s.heap.objs.size, _, _, _, _, _, fun i => ns.getD i 0, rfl, Walks.list (r.in1).hd _ a (Nat.ne_of_lt ha) ws.toArray, ⟨⟨_, Heap.get?_push_size _ rfl, rfl, rfl⟩, hL.isList.push _⟩, ?_, ?_, ?_, ?_⟩
  · intro b hb
    rw [Heap.size_push]
    simp at hb
    rcases hb with rfl | rfl
    · exact Nat.lt_succ_self _
    · exact Nat.lt_succ_of_lt ha
  · intro i v hi
    have hi' : ws[i]? = some v := by simpa using hi
    have hlt : i < ns.length := hlen ▸ (List.getElem?_eq_some_iff.mp hi').1
    obtain ⟨t, ht⟩ := vrs_ints hw i ns[i] (by simp [hlt])
    rw [hi'] at ht
    exact ⟨t, by cases ht; simp [List.getD, hlt]⟩
  · intro j hj
    have hj' : j < ns.length := by simpa [hlen] using hj
    obtain ⟨h1, h2⟩ := hf j hj'
    exact ⟨h1, by rw [preSum_take]; exact h2⟩
  · intro h' tk t' kk
    rw [preSum_take]
    have e : (ns.take ws.toArray.size).sum = ns.sum := by rw [List.size_toArray, hlen, List.take_length]
    rw [e]
    refine ⟨ρ, σ, _, Mv.grow R tk (fun b o eb => kk b o ?_ (Heap.get?_push_of_some _ eb)), .int _ _, hP⟩
    intro hm
    simp at hm
    subst hm
    exact Nat.lt_irrefl _ (Heap.lt_size eb)

/-- xs.append(e) -/
noncomputable def wApp (Wo We : WE) : WE := fun ε σ P => Wo ε σ fun a σ1 => ∃ k, a = .ref k ∧ We ε σ1 fun b σ2 => ∃ xs, σ2[k]? = some xs ∧ xs.length < 1000 ∧ P .none (σ2.set k (xs ++ [b]))
theorem snd_append {o e : Expr} {apos pos : Pos} {Wo We : WE} (ho : SndE prog w H0 d sc o Wo) (he : SndE prog w H0 d sc e We) (hbase : ∀ env, attributeBase o "append" env (eval o env) = eval o env)
    (hst : ∀ env, starEach [e] env = [(false, eval e env)]) (hline : (apos.endLine == pos.line) = true) : SndE prog w H0 d sc (.Call (.Attribute o "append" apos) [e] [] pos) (wApp Wo We) := by
  intro A env s ρ σ ε P r hs F R hP
  refine wpAny_Call_method (T := "list") (id := "list.append") (hbase env) (by rw [hst env]; rfl) hline PySem.F.plainAttrs_list PySem.F.slot_list_append PySem.F.type_list_append ?_
  refine (ho A env s ρ σ ε _ r hs F R hP).mono fun u s1 ρ1 σ1 a m ha h1 => ?_
  obtain ⟨k, rfl, h1⟩ := h1
  cases ha with
  | @ref _ a ea =>
  have hk : k < σ1.length := m.hr.len ▸ (List.getElem?_eq_some_iff.mp ea).1
  obtain ⟨vs, hL, _⟩ := m.hr.at ea (List.getElem?_eq_getElem hk)
  refine ⟨hL.isList.typeIs, fun b e => by cases e; obtain ⟨n, e⟩ := hL; exact ⟨_, e, rfl⟩, ?_⟩
  rw [hst env]
  show wpAny _ _ (callWith pos (.builtin "list.append") [.ref a] [(false, eval e env)] []) _ _ _
  refine PySem.P.append_list ((he A env s1 ρ1 σ1 ε _ r hs (F.mv R m) m.hr h1).mono fun u' s2 ρ2 σ2 b m2 hb h2 => ?_)
  obtain ⟨xs, hx, hlen, hP⟩ := h2
  obtain ⟨t, ht⟩ := m2.pre
  have ea' : ρ2[k]? = some a := by rw [← ht, List.getElem?_append_left ((List.getElem?_eq_some_iff.mp ea).1)]; exact ea
  obtain ⟨ws, ⟨n, hL2⟩, hw⟩ := m2.hr.at ea' hx
  have := m2.hr.small _ _ hx
  refine ⟨ws.toArray, n, by rw [sizeLine_eq]; simp [← hw.1]; exact ar140 hlen, hL2, ρ2, σ2.set k (xs ++ [b]), .none, (m.trans m2).trans (Mv.put m2.hr s2.toks ea' (hw.append (VRs.cons hb VRs.nil)) (by simp; exact ar141 hlen) (fun b o hne e => (Heap.SameBut.update ..).extBut b o hne e) ⟨n + 1, ?_⟩ (by simp)), .none, hP⟩
  rw [Heap.get?_update_self _ hL2 (by rw [Obj.mapSeq_push_plain]; rfl), Obj.mapSeq_push_plain]
  simp
end Mine

namespace Mine
open PySem PySem.W PyProof.Rows
set_option linter.unusedVariables false
open PySem.Calls

variable {prog : Program} {w : World} {H0 : Heap} {d : Nat} {sc : Scope} {mg mb : Str → Option Value}

noncomputable abbrev WA := V → Loc → Sto → (Loc → Sto → Prop) → Prop
noncomputable abbrev WAs := List V → Loc → Sto → (Loc → Sto → Prop) → Prop
noncomputable def wrs (env : Env) (ns : List Str) : List Addr := ns.flatMap (wr env)

theorem FR.woks {ρ : List Addr} {σ : Sto} {h : Heap} {env : Env} {ε : Loc} (F : FR H0 ρ h env ε) (R : HR H0 ρ σ h) (ns : List Str) : WOk H0 ρ (wrs env ns) h where
  tup := fun a m => by
    obtain ⟨x, _, hx⟩ := List.mem_flatMap.mp m
    exact (F.wok R x).tup a hx
  base := fun a m => by
    obtain ⟨x, _, hx⟩ := List.mem_flatMap.mp m
    exact (F.wok R x).base a hx
  off := fun a m => by
    obtain ⟨x, _, hx⟩ := List.mem_flatMap.mp m
    exact (F.wok R x).off a hx

theorem IsCell.ne_ns {h : Heap} {c L : Addr} {v : Option Value} {m : Str → Option Value} (C : h.IsCell c v) (N : h.Ns L m) : c ≠ L := by
  rintro rfl
  obtain ⟨o, e, d⟩ := C
  obtain ⟨o', es, ep, e', d', _⟩ := N
  rw [e] at e'; cases e'; rw [d] at d'; cases d'

/-- a store to a name -/
theorem store_ok {A : Around} {env : Env} {s : Shared} {ρ : List Addr} {σ : Sto} {ε : Loc} {x : Str} {v : V} {u : Value} {Q : Unit → Shared → Prop} {E : Value → Shared → Prop} {M : Model}
    (F : FR H0 ρ s.heap env ε) (R : HR H0 ρ σ s.heap) (hv : VR H0 ρ s.heap v u) (hk : env.kindOf x = some .local ∨ env.kindOf x = some .cell)
    (h : ∀ s', Mv H0 (wr env x) ρ s ρ σ s' → FR H0 ρ s'.heap env (ε.set x v) → Q () s') : wpAny M A (storeName env x u) Q E s := by
  obtain ⟨m, N, hm⟩ := F.loc
  rcases hk with hk | hk
  · have hwr : wr env x = [env.locals] := by unfold wr; rw [if_pos hk]
    refine wpAny_storeName_local hk N (fun h' hn hs => ?_) (by rw [F.kind]; rfl)
    have mv : Mv H0 (wr env x) ρ s ρ σ { s with heap := h', toks := s.toks + 1 } := Mv.step R (F.wok R x) _ (fun b o hb e => hs.extBut b o (fun q => hb (by rw [hwr, q]; simp)) e)
      (fun a ha _ => by rw [hwr] at ha; simp at ha; subst ha; obtain ⟨o, _, _, e, _⟩ := hn; rw [e]; simp)
    have ht := mv.tups R (F.wok R x)
    refine h _ mv ⟨F.kind, F.glob, F.bi, ⟨_, hn, fun y w hy e => ?_⟩, fun y c e => ?_, F.has, F.inj, F.baseL, F.baseC⟩
    · unfold Loc.set at e
      by_cases hyx : y = x
      · subst hyx
        simp at e; subst e
        exact ⟨u, by simp, hv.mono (List.prefix_refl _) ht⟩
      · rw [if_neg hyx] at e
        obtain ⟨u', hu', H⟩ := hm y w hy e
        exact ⟨u', by simp [hyx, hu'], H.mono (List.prefix_refl _) ht⟩
    · obtain ⟨cv, C, hcv⟩ := F.cel y c e
      refine ⟨cv, C.sameBut hs (Mine.IsCell.ne_ns C N), fun hl w ew => ?_⟩
      unfold Loc.set at ew
      by_cases hyx : y = x
      · subst hyx; exact absurd hk hl
      · rw [if_neg hyx] at ew
        obtain ⟨u', hu', H⟩ := hcv hl w ew
        exact ⟨u', hu', H.mono (List.prefix_refl _) ht⟩
  · obtain ⟨c, hc⟩ := F.has x (.inl hk)
    obtain ⟨cv, C, _⟩ := F.cel x c hc
    have hwr : wr env x = [c] := by unfold wr; rw [if_neg (by rw [hk]; simp), hc]; rfl
    refine wpAny_storeName_cell F.kind hk hc C fun h' hC' hs => ?_
    have mv : Mv H0 (wr env x) ρ s ρ σ { s with heap := h' } := Mv.step R (F.wok R x) _ (fun b o hb e => hs.extBut b o (fun q => hb (by rw [hwr, q]; simp)) e)
      (fun a ha _ => by rw [hwr] at ha; simp at ha; subst ha; obtain ⟨o, e, _⟩ := hC'; rw [e]; simp)
    have ht := mv.tups R (F.wok R x)
    refine h _ mv ⟨F.kind, F.glob, F.bi, ⟨m, N.sameBut hs (Ne.symm (Mine.IsCell.ne_ns C N)), fun y w hy e => ?_⟩, fun y c' e => ?_, F.has, F.inj, F.baseL, F.baseC⟩
    · unfold Loc.set at e
      by_cases hyx : y = x
      · subst hyx; rw [hk] at hy; cases hy
      · rw [if_neg hyx] at e
        obtain ⟨u', hu', H⟩ := hm y w hy e
        exact ⟨u', hu', H.mono (List.prefix_refl _) ht⟩
    · by_cases hyx : y = x
      · subst hyx
        rw [hc] at e; cases e
        refine ⟨some u, hC', fun hl w ew => ?_⟩
        simp [Loc.set] at ew; subst ew
        exact ⟨u, rfl, hv.mono (List.prefix_refl _) ht⟩
      · obtain ⟨cv', C', hcv'⟩ := F.cel y c' e
        have hne : c' ≠ c := fun q => hyx (F.inj y x c (q ▸ e) hc)
        refine ⟨cv', C'.sameBut hs hne, fun hl w ew => ?_⟩
        unfold Loc.set at ew
        rw [if_neg hyx] at ew
        obtain ⟨u', hu', H⟩ := hcv' hl w ew
        exact ⟨u', hu', H.mono (List.prefix_refl _) ht⟩

section
variable (prog : Program) (w : World) (H0 : Heap)
noncomputable def SndA (d : Nat) (sc : Scope) (t : Expr) (ns : List Str) (W : WA) : Prop :=
  ∀ (A : Around) (env : Env) (s : Shared) (ρ : List Addr) (σ : Sto) (ε : Loc) (u : Value) (x : V) (P : Loc → Sto → Prop), Room d A → env.scope = sc → FR H0 ρ s.heap env ε → HR H0 ρ σ s.heap → VR H0 ρ s.heap x u → W x ε σ P →
    wpAny (model prog w) A (assign t env u) (fun _ s' => ∃ ρ' σ' ε', Mv H0 (wrs env ns) ρ s ρ' σ' s' ∧ FR H0 ρ' s'.heap env ε' ∧ P ε' σ') (fun _ _ => False) s
noncomputable def SndAs (d : Nat) (sc : Scope) (ts : List Expr) (ns : List Str) (W : WAs) : Prop :=
  ∀ (A : Around) (env : Env) (s : Shared) (ρ : List Addr) (σ : Sto) (ε : Loc) (us : List Value) (xs : List V) (P : Loc → Sto → Prop), Room d A → env.scope = sc → FR H0 ρ s.heap env ε → HR H0 ρ σ s.heap → VRs H0 ρ s.heap xs us → W xs ε σ P →
    wpAny (model prog w) A (assignInOrder ((assignEach ts env).map (·.2)) us) (fun _ s' => ∃ ρ' σ' ε', Mv H0 (wrs env ns) ρ s ρ' σ' s' ∧ FR H0 ρ' s'.heap env ε' ∧ P ε' σ') (fun _ _ => False) s
end

noncomputable def wStore (x : Str) : WA := fun v ε σ P => P (ε.set x v) σ
theorem sndA_name {x : Str} {pos : Pos} (hk : sc.names.lookup x = some .local ∨ sc.names.lookup x = some .cell) : SndA prog w H0 d sc (.Name x pos) [x] (wStore x) := by
  intro A env s ρ σ ε u v P r hs F R hv hP
  subst hs
  refine wpAny_assign_Name (store_ok F R hv hk fun s' m F' => ⟨ρ, σ, _, ?_, F', hP⟩)
  simpa [wrs] using m

noncomputable def wSetItem (o i v : V) (σ : Sto) (P : Sto → Prop) : Prop := ∃ k xs j, o = .ref k ∧ i = .int j ∧ σ[k]? = some xs ∧ 0 ≤ j ∧ j < xs.length ∧ P (σ.set k (xs.set j.toNat v))
theorem snd_setitem {A : Around} {s : Shared} {ρ : List Addr} {σ : Sto} {vo vi vv : V} {o i v : Value} {P : Sto → Prop} (R : HR H0 ρ σ s.heap) (ho : VR H0 ρ s.heap vo o) (hi : VR H0 ρ s.heap vi i) (hv : VR H0 ρ s.heap vv v)
    (h : wSetItem vo vi vv σ P) : wpAny (model prog w) A (setItem o i v) (fun _ s' => ∃ ρ' σ', Mv H0 [] ρ s ρ' σ' s' ∧ P σ') (fun _ _ => False) s := by
  obtain ⟨k, xs, j, rfl, rfl, hk, h0, h1, hP⟩ := h
  cases ho with | @ref _ a ea => cases hi with | int _ t =>
  obtain ⟨vs, ⟨n, hL⟩, hvs⟩ := R.at ea hk
  have hsm := R.small _ _ hk
  have hsz : vs.toArray.size = xs.length := by simp [hvs.1]
  refine ki_setAt hL h0 (by omega) (by rw [hsz]; exact h1) ⟨ρ, _, Mv.put R s.toks ea (hvs.set hv j.toNat) (by simpa using hsm) (fun b o hne e => (Heap.SameBut.update ..).extBut b o hne e) ?_ (by simp), hP⟩
  refine ⟨n, ?_⟩
  have e1 : Obj.mapSeq (·.setIfInBounds j.toNat v) (listOf vs.toArray n) = listOf (vs.set j.toNat v).toArray n := by
    simp [Obj.mapSeq]
  rw [Heap.get?_update_self _ hL (by rw [e1]; rfl), e1]

noncomputable def wSub (Wo Wi : WE) : WA := fun v ε σ P => Wo ε σ fun o σ1 => Wi ε σ1 fun i σ2 => wSetItem o i v σ2 fun σ3 => P ε σ3
theorem sndA_sub {o i : Expr} {pos : Pos} {Wo Wi : WE} (ho : SndE prog w H0 d sc o Wo) (hi : SndE prog w H0 d sc i Wi) : SndA prog w H0 d sc (.Subscript o i pos) [] (wSub Wo Wi) := by
  intro A env s ρ σ ε u x P r hs F R hv hP
  rw [arm_assign_Subscript]
  refine wpAny_bind (wpAny_holding ((ho A env s ρ σ ε _ r hs F R hP).mono fun uo s1 ρ1 σ1 vo m1 hvo h1 => ?_))
  refine wpAny_bind (wpAny_holding ((hi A env s1 ρ1 σ1 ε _ r hs (F.mv R m1) m1.hr h1).mono fun ui s2 ρ2 σ2 vi m2 hvi h2 => ?_))
  refine wpAny_bind (wpAny_standAt (wpAny_bind (wpAny_holding (wpAny_mono (snd_setitem m2.hr (hvo.mv m1.hr m2) hvi ((hv.mv R m1).mv m1.hr m2) h2) (fun _ s3 hPq => ?_) fun _ _ h => h))))
  obtain ⟨ρ3, σ3, m3, hP⟩ := hPq
  have m := (m1.trans m2).trans m3
  exact wpAny_release ⟨ρ3, σ3, ε, m.weak0, F.mv R m, hP⟩

theorem sndAs_nil : SndAs prog w H0 d sc [] [] (fun xs ε σ P => xs = [] ∧ P ε σ) := by
  intro A env s ρ σ ε us xs P r hs F R hv ⟨e, hP⟩
  subst e
  exact wpAny_pure ⟨ρ, σ, ε, Mv.refl R, F, hP⟩
theorem wrs_cons (env : Env) (x : Str) (ns : List Str) : wrs env (x :: ns) = wr env x ++ wrs env ns := by simp [wrs]
theorem wrs_append (env : Env) (ns ms : List Str) : wrs env (ns ++ ms) = wrs env ns ++ wrs env ms := by simp [wrs]
noncomputable def wACons (W : WA) (Ws : WAs) : WAs := fun xs ε σ P => ∃ y ys, xs = y :: ys ∧ W y ε σ fun ε1 σ1 => Ws ys ε1 σ1 P
theorem sndAs_cons {t : Expr} {ts : List Expr} {ns ms : List Str} {W : WA} {Ws : WAs} (h : SndA prog w H0 d sc t ns W) (hs : SndAs prog w H0 d sc ts ms Ws) (hst : ∀ env, assignEach (t :: ts) env = (false, assign t env) :: assignEach ts env) :
    SndAs prog w H0 d sc (t :: ts) (ns ++ ms) (wACons W Ws) := by
  intro A env s ρ σ ε us xs P r hsc F R hv ⟨y, ys, e, hP⟩
  subst e
  rw [hst]
  match us, hv with
  | [], hv => simp [VRs] at hv
  | u :: us, hv =>
  show wpAny _ _ (holding us (assign t env u) >>= fun _ => assignInOrder ((assignEach ts env).map (·.2)) us) _ _ _
  refine wpAny_bind (wpAny_holding (wpAny_mono (h A env s ρ σ ε u y _ r hsc F R hv.head hP) (fun _ s1 hPq => ?_) fun _ _ h => h))
  obtain ⟨ρ1, σ1, ε1, m1, F1, h1⟩ := hPq
  have hv1 : VRs H0 ρ1 s1.heap ys us := hv.tail.mono m1.pre (m1.tups R (F.woks R ns))
  refine wpAny_mono (hs A env s1 ρ1 σ1 ε1 us ys P r hsc F1 m1.hr hv1 h1) (fun _ s2 hPq => ?_) fun _ _ h => h
  obtain ⟨ρ2, σ2, ε2, m2, F2, h2⟩ := hPq
  exact ⟨ρ2, σ2, ε2, (m1.weak fun a ha => by rw [wrs_append]; exact List.mem_append_left _ ha).trans (m2.weak fun a ha => by rw [wrs_append]; exact List.mem_append_right _ ha), F2, h2⟩

noncomputable def wUnpack (n : Nat) (Ws : WAs) : WA := fun v ε σ P => ∃ xs, v = .tup xs ∧ xs.length = n ∧ Ws xs ε σ P
theorem sndA_tup {ts : List Expr} {k : Nat} {pos : Pos} {ns : List Str} {Ws : WAs} (h : SndAs prog w H0 d sc ts ns Ws) (hst : ∀ env, (assignEach ts env).length = ts.length ∧ (assignEach ts env).findIdx? (·.1) = none) :
    SndA prog w H0 d sc (.Tuple ts k pos) ns (wUnpack ts.length Ws) := by
  intro A env s ρ σ ε u x P r hs F R hv ⟨xs, e, hn, hP⟩
  subst e
  cases hv with
  | @tup _ vs a e hl hh =>
  refine wpAny_assign_Tuple r.hd e (by rw [(hst env).1]; simp [← hl, hn]) (hst env).2 fun h' hx => ?_
  have k : ∀ b o, s.heap.get? b = some o → h'.get? b = some o := fun b o e => hx b o (Nat.ne_of_lt (Heap.lt_size e)) e
  have m := Mv.grow (W := []) (σ := σ) R s.toks k
  have hvs : VRs H0 ρ s.heap xs vs := ⟨hl, hh⟩
  refine wpAny_mono (h A env { s with heap := h' } ρ σ ε vs xs P r hs (F.mv R m) m.hr (hvs.mv R m) hP) (fun _ s2 hPq => ?_) fun _ _ h => h
  obtain ⟨ρ2, σ2, ε2, m2, F2, h2⟩ := hPq
  exact ⟨ρ2, σ2, ε2, m.weak0.trans m2, F2, h2⟩
end Mine

namespace Mine
open PySem PySem.W PyProof.Rows
set_option linter.unusedVariables false
open PySem.Calls

variable {prog : Program} {w : World} {H0 : Heap} {d : Nat} {sc : Scope} {mg mb : Str → Option Value}

inductive Fl where
  | next
  | brk
  | cont
  | ret (v : V)
inductive FlR (H0 : Heap) (ρ : List Addr) (h : Heap) : Fl → Flow → Prop where
  | next : FlR H0 ρ h .next .next
  | brk : FlR H0 ρ h .brk .brk
  | cont : FlR H0 ρ h .cont .cont
  | ret {v : V} {u : Value} : VR H0 ρ h v u → FlR H0 ρ h (.ret v) (.ret u)
noncomputable abbrev PS := Fl → Loc → Sto → Prop
noncomputable abbrev WS := Loc → Sto → PS → Prop
noncomputable def own (env : Env) : List Addr := env.locals :: (env.cells.map (·.1)).flatMap fun x => (env.cells.lookup x).toList

theorem wr_own {env : Env} {x : Str} : ∀ a ∈ wr env x, a ∈ own env := fun a ha => by
  unfold wr at ha
  split at ha
  · simp at ha; subst ha; exact List.mem_cons_self
  · cases q : env.cells.lookup x with
    | none => rw [q] at ha; simp at ha
    | some c => rw [q] at ha; simp at ha; subst ha; exact List.mem_cons_of_mem _ (List.mem_flatMap.mpr ⟨x, List.mem_map.mpr ⟨(x, a), mem_of_lookup q, rfl⟩, by rw [q]; simp⟩)
theorem wrs_own {env : Env} {ns : List Str} : ∀ a ∈ wrs env ns, a ∈ own env := fun a ha => by
  obtain ⟨x, _, hx⟩ := List.mem_flatMap.mp ha
  exact wr_own a hx

section
variable (prog : Program) (w : World) (H0 : Heap)
noncomputable def Run (A : Around) (env : Env) (t : Sem Flow) (ρ : List Addr) (s0 : Shared) (s : Shared) (P : PS) : Prop :=
  wpAny (model prog w) A t (fun f s' => ∃ ρ' σ' ε' fl, Mv H0 (own env) ρ s0 ρ' σ' s' ∧ FR H0 ρ' s'.heap env ε' ∧ FlR H0 ρ' s'.heap fl f ∧ P fl ε' σ') (fun _ _ => False) s
noncomputable def SndS (d : Nat) (sc : Scope) (st : Stmt) (W : WS) : Prop :=
  ∀ (A : Around) (env : Env) (s : Shared) (ρ : List Addr) (σ : Sto) (ε : Loc) (P : PS), Room d A → env.scope = sc → FR H0 ρ s.heap env ε → HR H0 ρ σ s.heap → W ε σ P → Run prog w H0 A env (exec st env) ρ s s P
noncomputable def SndB (d : Nat) (sc : Scope) (sts : List Stmt) (W : WS) : Prop :=
  ∀ (A : Around) (env : Env) (s : Shared) (ρ : List Addr) (σ : Sto) (ε : Loc) (P : PS), Room d A → env.scope = sc → FR H0 ρ s.heap env ε → HR H0 ρ σ s.heap → W ε σ P → Run prog w H0 A env (execs sts env) ρ s s P
end

theorem Run.after {A : Around} {env : Env} {t : Sem Flow} {ρ ρ1 : List Addr} {σ1 : Sto} {s s1 : Shared} {P : PS} (m : Mv H0 (own env) ρ s ρ1 σ1 s1) (h : Run prog w H0 A env t ρ1 s1 s1 P) : Run prog w H0 A env t ρ s s1 P :=
  wpAny_mono h (fun f s' ⟨ρ', σ', ε', fl, m', F, hf, p⟩ => ⟨ρ', σ', ε', fl, m.trans m', F, hf, p⟩) fun _ _ h => h

noncomputable def wNil : WS := fun ε σ P => P .next ε σ
noncomputable def wSeq (W1 W2 : WS) : WS := fun ε σ P => W1 ε σ fun fl ε1 σ1 => match fl with | .next => W2 ε1 σ1 P | f => P f ε1 σ1
theorem sndB_nil : SndB prog w H0 d sc [] wNil := by
  intro A env s ρ σ ε P r hs F R hP
  exact wpAny_execs_nil ⟨ρ, σ, ε, .next, Mv.refl R, F, .next, hP⟩
theorem sndB_cons {st : Stmt} {sts : List Stmt} {W1 W2 : WS} (h1 : SndS prog w H0 d sc st W1) (h2 : SndB prog w H0 d sc sts W2) : SndB prog w H0 d sc (st :: sts) (wSeq W1 W2) := by
  intro A env s ρ σ ε P r hs F R hP
  refine wpAny_execs_cons (wpAny_mono (h1 A env s ρ σ ε _ r hs F R hP) (fun f s1 hPq => ?_) fun _ _ h => h)
  obtain ⟨ρ1, σ1, ε1, fl, m1, F1, hf, hP⟩ := hPq
  cases hf with
  | next => exact Run.after m1 (h2 A env s1 ρ1 σ1 ε1 P r hs F1 m1.hr hP)
  | brk => exact ⟨ρ1, σ1, ε1, .brk, m1, F1, .brk, hP⟩
  | cont => exact ⟨ρ1, σ1, ε1, .cont, m1, F1, .cont, hP⟩
  | ret hv => exact ⟨ρ1, σ1, ε1, .ret _, m1, F1, .ret hv, hP⟩

noncomputable def wAssign (We : WE) (Wa : WA) : WS := fun ε σ P => We ε σ fun v σ1 => Wa v ε σ1 fun ε2 σ2 => P .next ε2 σ2
theorem snd_assign {t e : Expr} {pos : Pos} {ns : List Str} {We : WE} {Wa : WA} (he : SndE prog w H0 d sc e We) (ha : SndA prog w H0 d sc t ns Wa) (hst : ∀ env, (assignEach [t] env).map (·.2) = [assign t env])
    (hsw : ∀ env, env.scope = sc → swapsWithSole [t] e pos.line env = pure false) (hsw2 : ∀ env, env.scope = sc → swappedStores [t] e env = pure none) : SndS prog w H0 d sc (.Assign [t] e pos) (wAssign We Wa) := by
  intro A env s ρ σ ε P r hs F R hP
  unfold Run
  rw [PyProof.Rows.exec_Assign]
  refine wpAny_bind (wpAny_standAt ?_)
  rw [hsw env hs]
  refine wpAny_bind (wpAny_pure ?_)
  rw [if_neg (by decide)]
  refine wpAny_bind ((he A env s ρ σ ε _ r hs F R hP).mono fun u s1 ρ1 σ1 v m hv h1 => ?_)
  rw [hsw2 env hs]
  refine wpAny_bind (wpAny_pure ?_)
  rw [hst env]
  show wpAny _ _ (assignAll u [assign t env] >>= fun _ => (pure Flow.next : Sem Flow)) _ _ s1
  refine wpAny_bind (wpAny_mono (ha A env s1 ρ1 σ1 ε u v _ r hs (F.mv R m) m.hr hv h1) (fun _ s2 hPq => wpAny_pure ?_) fun _ _ h => h)
  obtain ⟨ρ2, σ2, ε2, m2, F2, h2⟩ := hPq
  exact ⟨ρ2, σ2, ε2, .next, m.weak0.trans (m2.weak wrs_own), F2, .next, h2⟩

/-- several names at once, stored from behind -/
noncomputable def wStores : List Str → List V → Loc → Loc
  | x :: xs, v :: vs, ε => wStores xs vs (ε.set x v)
  | _, _, ε => ε
theorem stores_ok {A : Around} {env : Env} : ∀ (names : List Str) (us : List Value) (vs : List V) (s : Shared) (ρ : List Addr) (σ : Sto) (ε : Loc) (Q : Unit → Shared → Prop), FR H0 ρ s.heap env ε → HR H0 ρ σ s.heap → VRs H0 ρ s.heap vs us →
    (∀ n ∈ names, env.kindOf n = some .local ∨ env.kindOf n = some .cell) → (∀ s', Mv H0 (own env) ρ s ρ σ s' → FR H0 ρ s'.heap env (wStores names vs ε) → Q () s') →
    wpAny (model prog w) A (assignInOrder (names.map fun n => bindName env n) us) Q (fun _ _ => False) s
  | [], us, vs, s, ρ, σ, ε, Q, F, R, hv, hk, h => wpAny_pure (h s (Mv.refl R) (by cases vs <;> exact F))
  | n :: names, [], vs, s, ρ, σ, ε, Q, F, R, hv, hk, h => by
    have : vs = [] := by cases vs with | nil => rfl | cons _ _ => simp [VRs] at hv
    subst this
    exact wpAny_pure (h s (Mv.refl R) F)
  | n :: names, u :: us, [], s, ρ, σ, ε, Q, F, R, hv, hk, h => by simp [VRs] at hv
  | n :: names, u :: us, v :: vs, s, ρ, σ, ε, Q, F, R, hv, hk, h => by
    show wpAny _ _ (holding us (bindName env n u) >>= fun _ => assignInOrder (names.map fun n => bindName env n) us) _ _ _
    refine wpAny_bind (wpAny_holding (wpAny_bindName (store_ok F R hv.head (hk n List.mem_cons_self) fun s1 m1 F1 => ?_)))
    have hv1 : VRs H0 ρ s1.heap vs us := hv.tail.mono m1.pre (m1.tups R (F.wok R n))
    exact stores_ok names us vs s1 ρ σ _ Q F1 m1.hr hv1 (fun y hy => hk y (List.mem_cons_of_mem _ hy)) fun s2 m2 F2 => h s2 ((m1.weak wr_own).trans m2) F2
noncomputable def wSwap (We : WE) (names : List Str) : WS := fun ε σ P => We ε σ fun v σ1 => ∃ xs, v = .tup xs ∧ xs.length = names.length ∧ P .next (wStores names.reverse xs.reverse ε) σ1
theorem VRs.reverse {ρ : List Addr} {h : Heap} : ∀ {xs : List V} {vs : List Value}, VRs H0 ρ h xs vs → VRs H0 ρ h xs.reverse vs.reverse
  | [], [], _ => VRs.nil
  | x :: xs, v :: vs, H => by simp only [List.reverse_cons]; exact (VRs.reverse H.tail).append (VRs.cons H.head VRs.nil)
  | [], _ :: _, H => by simp [VRs] at H
  | _ :: _, [], H => by simp [VRs] at H
theorem snd_swap {elts : List Expr} {k : Nat} {tpos pos : Pos} {e : Expr} {names : List Str} {We : WE} (he : SndE prog w H0 d sc e We) (hk : ∀ n ∈ names, sc.names.lookup n = some .local ∨ sc.names.lookup n = some .cell)
    (hsw : ∀ env, env.scope = sc → swapsWithSole [.Tuple elts k tpos] e pos.line env = pure false) (hsw2 : ∀ env, env.scope = sc → swappedStores [.Tuple elts k tpos] e env = pure (some names)) : SndS prog w H0 d sc (.Assign [.Tuple elts k tpos] e pos) (wSwap We names) := by
  intro A env s ρ σ ε P r hs F R hP
  refine Assign_Tuple_swapped ((he A env s ρ σ ε _ r hs F R hP).mono fun u s1 ρ1 σ1 v m hv h1 => ?_) (hsw env hs) (hsw2 env hs)
  obtain ⟨xs, rfl, hn, hP⟩ := h1
  cases hv with
  | @tup _ vs a e hl hh =>
  have hsz : names.length = vs.toArray.size := by simp [← hl, hn]
  rw [hsz]
  refine wpAny_unpackItems_tuple r.hd e fun h' hx => ?_
  have kk : ∀ b o, s1.heap.get? b = some o → h'.get? b = some o := fun b o e => hx b o (Nat.ne_of_lt (Heap.lt_size e)) e
  have m1 := Mv.grow (W := []) (σ := σ1) m.hr s1.toks kk
  have hvs : VRs H0 ρ1 s1.heap xs vs := ⟨hl, hh⟩
  refine stores_ok names.reverse vs.reverse xs.reverse { s1 with heap := h' } ρ1 σ1 ε _ ((F.mv R m).mv m.hr m1) m1.hr (hvs.mv m.hr m1).reverse (fun n hn => by subst hs; exact hk n (List.mem_reverse.mp hn)) fun s2 m2 F2 => ?_
  exact ⟨ρ1, σ1, _, .next, (m.weak0.trans m1.weak0).trans m2, F2, .next, hP⟩

noncomputable def wAug (op : Operator) (a b : V) (σ : Sto) (P : PV) : Prop := match op, a, b with
  | .Add, .int x, .int y => P (.int (x + y)) σ
  | .Sub, .int x, .int y => P (.int (x - y)) σ
  | _, _, _ => False
theorem snd_aug_op {op : Operator} {A : Around} {s : Shared} {ρ : List Addr} {σ : Sto} {va vb : V} {a b : Value} {P : PV} (R : HR H0 ρ σ s.heap) (ha : VR H0 ρ s.heap va a) (hb : VR H0 ρ s.heap vb b) (hw : wAug op va vb σ P) :
    Giv prog w H0 A (inplaceOp op a b) ρ s P := by
  unfold wAug at hw
  unfold Giv
  split at hw
  · cases ha; cases hb
    exact PySem.P.iadd_int ⟨ρ, σ, _, Mv.tok R _, .int _ _, hw⟩
  · cases ha; cases hb
    exact PySem.P.isub_int ⟨ρ, σ, _, Mv.tok R _, .int _ _, hw⟩
  · exact hw.elim
noncomputable def wAugS (x : Str) (op : Operator) (We : WE) : WS := fun ε σ P => ∃ v, ε x = some v ∧ We ε σ fun b σ1 => wAug op v b σ1 fun r σ2 => P .next (ε.set x r) σ2
theorem snd_aug {x : Str} {p pos : Pos} {op : Operator} {e : Expr} {We : WE} (hn : SndE prog w H0 d sc (.Name x p) (wName x)) (hd : (x == ("__debug__" : Str)) = false) (hk : sc.names.lookup x = some .local)
    (he : SndE prog w H0 d sc e We) : SndS prog w H0 d sc (.AugAssign (.Name x p) op e pos) (wAugS x op We) := by
  intro A env s ρ σ ε P r hs F R ⟨v, hv, hP⟩
  refine wpAny_AugAssign_Name ?_
  subst hs
  obtain ⟨m, N, hm⟩ := F.loc
  obtain ⟨u, hu, H⟩ := hm x v hk hv
  refine wpAny_loadName_local F.kind hk N hu ?_
  refine (he A env s ρ σ ε _ r rfl F R hP).mono fun u' s1 ρ1 σ1 b m1 hb h1 => ?_
  refine (snd_aug_op m1.hr (H.mv R m1) hb h1).mono fun u2 s2 ρ2 σ2 v2 m2 hv2 hP => ?_
  refine store_ok ((F.mv R m1).mv m1.hr m2) m2.hr hv2 (.inl hk) fun s3 m3 F3 => ?_
  exact ⟨ρ2, σ2, _, .next, (m1.trans m2).weak0.trans (m3.weak wr_own), F3, .next, hP⟩

noncomputable def wIf (T : WT) (W1 W2 : WS) : WS := fun ε σ P => T ε σ fun b σ1 => (b = true → W1 ε σ1 P) ∧ (b = false → W2 ε σ1 P)
theorem snd_if {t : Expr} {b1 b2 : List Stmt} {pos : Pos} {T : WT} {W1 W2 : WS} (ht : SndT prog w H0 d sc t T) (h1 : SndB prog w H0 d sc b1 W1) (h2 : SndB prog w H0 d sc b2 W2) : SndS prog w H0 d sc (.If t b1 b2 pos) (wIf T W1 W2) := by
  intro A env s ρ σ ε P r hs F R hP
  refine wpAny_If (wpAny_mono (ht A env s ρ σ ε _ r hs F R hP) (fun c s1 hPq => ?_) fun _ _ h => h)
  obtain ⟨ρ1, σ1, m, hc⟩ := hPq
  cases c with
  | true => exact Run.after m.weak0 (h1 A env s1 ρ1 σ1 ε P r hs (F.mv R m) m.hr (hc.1 rfl))
  | false => exact Run.after m.weak0 (h2 A env s1 ρ1 σ1 ε P r hs (F.mv R m) m.hr (hc.2 rfl))

noncomputable def whileN (T : WT) (Wb : WS) : Nat → WS
  | 0 => fun _ _ _ => False
  | n + 1 => fun ε σ P => T ε σ fun b σ1 => (b = false → P .next ε σ1) ∧ (b = true → Wb ε σ1 fun fl ε2 σ2 => match fl with
      | .next => whileN T Wb n ε2 σ2 P
      | .cont => whileN T Wb n ε2 σ2 P
      | .brk => P .next ε2 σ2
      | .ret v => P (.ret v) ε2 σ2)
noncomputable def wWhile (T : WT) (Wb : WS) : WS := fun ε σ P => ∃ n, whileN T Wb n ε σ P
theorem notedBy_false {M : Model} {A : Around} {env : Env} {E : Value → Shared → Prop} : ∀ e s, (fun (_ : Value) (_ : Shared) => False) e s → notedBy M A env E e s := fun _ _ h => h.elim
theorem snd_while {t : Expr} {b : List Stmt} {pos : Pos} {T : WT} {Wb : WS} (ht : SndT prog w H0 d sc t T) (hb : SndB prog w H0 d sc b Wb) : SndS prog w H0 d sc (.While t b [] pos) (wWhile T Wb) := by
  intro A env s ρ σ ε P r hs F R ⟨n, hP⟩
  refine wpAny_While ?_
  refine codeAny_whileLoop (fun n s' => ∃ ρ' σ' ε', Mv H0 (own env) ρ s ρ' σ' s' ∧ FR H0 ρ' s'.heap env ε' ∧ whileN T Wb n ε' σ' P) ?_ n ⟨ρ, σ, ε, Mv.refl R, F, hP⟩
  rintro n s1 ⟨ρ1, σ1, ε1, m1, F1, h1⟩
  cases n with
  | zero => exact h1.elim
  | succ n =>
  refine wpAny_mono (ht A env s1 ρ1 σ1 ε1 _ r hs F1 m1.hr h1) (fun c s2 hPq => ?_) notedBy_false
  obtain ⟨ρ2, σ2, m2, hc⟩ := hPq
  have m12 := m1.trans m2.weak0
  cases c with
  | false =>
    simp only [Bool.false_eq_true, if_false]
    exact wpAny_execs_nil ⟨ρ2, σ2, ε1, .next, m12, F1.mv m1.hr m2, .next, hc.1 rfl⟩
  | true =>
    simp only [if_true]
    refine wpAny_mono (hb A env s2 ρ2 σ2 ε1 _ r hs (F1.mv m1.hr m2) m2.hr (hc.2 rfl)) (fun f s3 hPq => ?_) notedBy_false
    obtain ⟨ρ3, σ3, ε3, fl, m3, F3, hf, h3⟩ := hPq
    have m := m12.trans m3
    cases hf with
    | next => exact ⟨n, Nat.lt_succ_self n, ρ3, σ3, ε3, m, F3, h3⟩
    | cont => exact ⟨n, Nat.lt_succ_self n, ρ3, σ3, ε3, m, F3, h3⟩
    | brk => exact ⟨ρ3, σ3, ε3, .next, m, F3, .next, h3⟩
    | ret hv => exact ⟨ρ3, σ3, ε3, .ret _, m, F3, .ret hv, h3⟩

noncomputable def wRet (We : WE) : WS := fun ε σ P => We ε σ fun v σ1 => P (.ret v) ε σ1
theorem snd_ret {e : Expr} {pos : Pos} {We : WE} (he : SndE prog w H0 d sc e We) : SndS prog w H0 d sc (.Return (some e) pos) (wRet We) := by
  intro A env s ρ σ ε P r hs F R hP
  refine wpAny_Return_some ((he A env s ρ σ ε _ r hs F R hP).mono fun u s1 ρ1 σ1 v m hv h1 => ?_)
  exact ⟨ρ1, σ1, ε, .ret v, m.weak0, F.mv R m, .ret hv, h1⟩
noncomputable def wCont : WS := fun ε σ P => P .cont ε σ
theorem snd_cont {pos : Pos} : SndS prog w H0 d sc (.Continue pos) wCont := by
  intro A env s ρ σ ε P r hs F R hP
  exact wpAny_Continue ⟨ρ, σ, ε, .cont, Mv.refl R, F, .cont, hP⟩
noncomputable def wExpr (We : WE) : WS := fun ε σ P => We ε σ fun _ σ1 => P .next ε σ1
theorem snd_expr {e : Expr} {pos : Pos} {We : WE} (he : SndE prog w H0 d sc e We) (hi : ∀ env, env.scope = sc → interactive env = false) (hsw : ∀ env, env.scope = sc → swapsWith e none pos.line env = pure false) :
    SndS prog w H0 d sc (.Expr e pos) (wExpr We) := by
  intro A env s ρ σ ε P r hs F R hP
  refine wpAny_Expr_any ((he A env s ρ σ ε _ r hs F R hP).mono fun u s1 ρ1 σ1 v m hv h1 => ?_) (hi env hs) (hsw env hs)
  exact ⟨ρ1, σ1, ε, .next, m.weak0, F.mv R m, .next, h1⟩
noncomputable def wNo : WS := fun _ _ _ => False
theorem snd_no {st : Stmt} : SndS prog w H0 d sc st wNo := by
  intro A env s ρ σ ε P r hs F R hP
  exact hP.elim
end Mine

namespace Mine
open PySem PySem.W PyProof.Rows
set_option linter.unusedVariables false
open PySem.Calls

variable {prog : Program} {w : World} {H0 : Heap} {d : Nat} {sc : Scope} {mg mb : Str → Option Value}

/-- an iterator over clean items; live: what its source wants of the clean store -/
structure Itr (prog : Program) (w : World) (H0 : Heap) (tgt : Expr) (I : Addr) (wr : List Addr) (xs : List V) (live : Sto → Prop) (ρ0 : List Addr) (St : Nat → Heap → Prop) : Prop where
  frame : ∀ i h h', St i h → (∀ b ∈ wr, ∀ o, h.get? b = some o → h'.get? b = some o) → St i h'
  flds : ∀ i h, St i h → ∀ b ∈ wr, ∃ o vs, h.get? b = some o ∧ o.data = .fields vs
  next : ∀ (A : Around) (s : Shared) (ρ : List Addr) (σ : Sto) (i : Nat) (x : V) (Q : Value → Shared → Prop), A.handled = none → ρ0 <+: ρ → HR H0 ρ σ s.heap → live σ → xs[i]? = some x → St i s.heap →
    (∀ u h' tk, VR H0 ρ h' x u → St (i + 1) h' → (∀ b o, b ∉ wr → s.heap.get? b = some o → h'.get? b = some o) → Q u { s with heap := h', toks := tk }) →
    wpAny (model prog w) A (pyNext (.ref I)) (fun r s1 => ∃ u, r = some u ∧ wpAny (model prog w) A (letOwnedTupleGo tgt (.ref I) u) (fun _ s2 => Q u s2) (fun _ _ => False) s1) (fun _ _ => False) s
  done : ∀ (A : Around) (s : Shared) (ρ : List Addr) (σ : Sto) (Q : Shared → Prop), A.handled = none → ρ0 <+: ρ → HR H0 ρ σ s.heap → live σ → St xs.length s.heap →
    (∀ h' tk, (∀ b o, b ∉ wr → s.heap.get? b = some o → h'.get? b = some o) → Q { s with heap := h', toks := tk }) →
    wpAny (model prog w) A (pyNext (.ref I)) (fun r s1 => r = none ∧ Q s1) (fun _ _ => False) s
  self : ∀ (A : Around) (s : Shared) (i : Nat) (Q : Value → Shared → Prop) (E : Value → Shared → Prop), St i s.heap → Q (.ref I) s → wpAny (model prog w) A (pyIter (.ref I)) Q E s

theorem Itr.notseq {prog : Program} {w : World} {H0 : Heap} {tgt : Expr} {I : Addr} {wr : List Addr} {xs : List V} {live : Sto → Prop} {ρ0 : List Addr} {St : Nat → Heap → Prop} (T : Itr prog w H0 tgt I wr xs live ρ0 St) :
    ∀ i h, St i h → ∀ b ∈ wr, ∀ o vs n, h.get? b = some o → o.data ≠ .seq vs n := fun i h st b hb o vs n e q => by
  obtain ⟨o', vs', e', d⟩ := T.flds i h st b hb
  rw [e] at e'; cases e'; rw [d] at q; cases q

noncomputable abbrev PI := List V → (Sto → Prop) → Sto → Prop
noncomputable abbrev WI := Loc → Sto → PI → Prop
noncomputable def SndI (prog : Program) (w : World) (H0 : Heap) (d : Nat) (sc : Scope) (tgt e : Expr) (W : WI) : Prop :=
  ∀ (A : Around) (env : Env) (s : Shared) (ρ : List Addr) (σ : Sto) (ε : Loc) (P : PI), Room d A → env.scope = sc → FR H0 ρ s.heap env ε → HR H0 ρ σ s.heap → W ε σ P →
    wpAny (model prog w) A (eval e env) (fun xv s1 => wpAny (model prog w) A (pyIter xv) (fun it s2 => ∃ I wr xs live ρ' σ' St, it = .ref I ∧ Mv H0 [] ρ s ρ' σ' s2 ∧ Itr prog w H0 tgt I wr xs live ρ' St ∧ St 0 s2.heap ∧
      (∀ b ∈ wr, s.heap.get? b = none ∧ b ∉ ρ') ∧ P xs live σ') (fun _ _ => False) s1) (fun _ _ => False) s

theorem tups_but {h h' : Heap} {I : Addr} (k : ∀ b o, b ≠ I → h.get? b = some o → h'.get? b = some o) (ns : ∀ o vs n, h.get? I = some o → o.data ≠ .seq vs n) : Tups h h' := fun a o vs n e _ hd =>
  k a o (fun q => by subst q; exact ns o vs n e hd) e
theorem listiter_notseq {h : Heap} {I l : Addr} {i : Nat} (x : h.IsListIter I l i) : ∀ o vs n, h.get? I = some o → o.data ≠ .seq vs n := fun o vs n e q => by
  obtain ⟨o', e', _, d⟩ := x
  rw [e] at e'; cases e'; rw [d] at q; cases q

theorem HR.notin_fresh {ρ : List Addr} {σ : Sto} {h : Heap} (R : HR H0 ρ σ h) {b : Addr} (e : h.get? b = none) : b ∉ ρ := fun hm => by
  obtain ⟨_, _, e', _⟩ := R.isList hm
  rw [e] at e'; cases e'

noncomputable def IsTgt (t : Expr) : Prop := (∃ x p, t = .Name x p) ∨ (∃ es k p, t = .Tuple es k p)

theorem letgo_list {A : Around} {s : Shared} {t : Expr} {I l : Addr} {i : Nat} {u : Value} {Q : Unit → Shared → Prop} {E : Value → Shared → Prop} (ht : IsTgt t) (hit : s.heap.IsListIter I l i) (h : Q () s) :
    wpAny (model prog w) A (letOwnedTupleGo t (.ref I) u) Q E s := by
  rcases ht with ⟨x, p, rfl⟩ | ⟨es, k, p, rfl⟩
  · exact wpAny_pure h
  · cases u with
    | ref T => exact wpAny_letOwnedTupleGo_listiter hit h
    | _ => exact wpAny_pure h

theorem itr_list {t : Expr} {I a : Addr} {k : Nat} {xs : List V} {ρ0 : List Addr} (ht : IsTgt t) (hk : ρ0[k]? = some a) :
    Itr prog w H0 t I [I] xs (fun σ => σ[k]? = some xs) ρ0 (fun i h => h.IsListIter I a i) where
  frame := fun i h h' st kk => st.at fun o e => kk I (by simp) o e
  flds := fun i h st b hb => by simp at hb; subst hb; obtain ⟨o, e, _, d⟩ := st; exact ⟨o, _, e, d⟩
  next := fun A s ρ σ i x Q hh pre R live hx st hQ => by
    obtain ⟨r, hr⟩ := pre
    have hk' : ρ[k]? = some a := by rw [← hr, List.getElem?_append_left ((List.getElem?_eq_some_iff.mp hk).1)]; exact hk
    obtain ⟨vs, hL, hv⟩ := R.at hk' live
    obtain ⟨u, eu, hu⟩ := hv.get hx
    refine wpAny_pyNext_list_item st hL.isList (x := u) (by simpa using eu) fun h' hit' hs' => ⟨u, rfl, letgo_list ht hit' ?_⟩
    exact hQ u h' s.toks (hu.mono (List.prefix_refl _) (tups_but (fun b o hb e => hs'.extBut b o hb e) (listiter_notseq st))) hit' fun b o hb e => hs'.extBut b o (fun q => hb (by simp [q])) e
  done := fun A s ρ σ Q hh pre R live st hQ => by
    obtain ⟨r, hr⟩ := pre
    have hk' : ρ[k]? = some a := by rw [← hr, List.getElem?_append_left ((List.getElem?_eq_some_iff.mp hk).1)]; exact hk
    obtain ⟨vs, hL, hv⟩ := R.at hk' live
    refine wpAny_pyNext_list_end hh st hL.isList (by simp [hv.1]) fun h' he' => ⟨rfl, ?_⟩
    exact hQ h' s.toks fun b o hb e => he' b o (fun q => hb (by simp [q])) e
  self := fun A s i Q E st h => wpAny_pyIter_listiter st h

noncomputable def wIList (W : WE) : WI := fun ε σ P => W ε σ fun v σ1 => ∃ k xs, v = .ref k ∧ σ1[k]? = some xs ∧ P xs (fun σ' => σ'[k]? = some xs) σ1
theorem sndI_list {t e : Expr} {W : WE} (ht : IsTgt t) (he : SndE prog w H0 d sc e W) : SndI prog w H0 d sc t e (wIList W) := by
  intro A env s ρ σ ε P r hs F R hP
  refine (he A env s ρ σ ε _ r hs F R hP).mono fun u s1 ρ1 σ1 v m hv h1 => ?_
  obtain ⟨k, xs, rfl, hx, hP⟩ := h1
  cases hv with
  | @ref _ a ea =>
  obtain ⟨vs, hL, _⟩ := m.hr.at ea hx
  refine wpAny_pyIter_list hL.isList ?_
  have kk : ∀ b o, s1.heap.get? b = some o → (s1.heap.push { cls := .type "list_iterator", data := .fields #[.ref a, .int 0 0] }).get? b = some o := fun b o e => Heap.get?_push_of_some _ e
  refine ⟨s1.heap.objs.size, _, xs, _, ρ1, σ1, _, rfl, m.trans (Mv.grow (W := []) m.hr s1.toks kk), itr_list ht ea, ⟨_, Heap.get?_push_size _ rfl, rfl, rfl⟩, fun b hb => ?_, hP⟩
  simp at hb; subst hb
  exact ⟨m.back (get?_size_none _), m.hr.notin_fresh (get?_size_none _)⟩

/-- the ints from a on, n of them -/
noncomputable def rng (a : Int) (n : Nat) : List V := (List.range n).map fun (i : Nat) => V.int (a + (i : Int))
theorem itr_range {t : Expr} {I : Addr} {a : Int} {n : Nat} {ρ0 : List Addr} (ht : ∃ x p, t = .Name x p) :
    Itr prog w H0 t I [I] (rng a n) (fun _ => True) ρ0 (fun i h => IsRangeIter h I (a + (i : Nat) * 1) ((n : Int) - (i : Nat)) 1) where
  frame := fun i h h' st kk => kk I (by simp) _ st
  flds := fun i h st b hb => by simp at hb; subst hb; exact ⟨_, _, st, rfl⟩
  next := fun A s ρ σ i x Q hh pre R live hx st hQ => by
    obtain ⟨y, p, rfl⟩ := ht
    have hi : i < n := by have := (List.getElem?_eq_some_iff.mp hx).1; simpa [rng] using this
    refine (Walks.range hh I a 1 n).item i s _ _ hi st fun v h' tk hv st' kk => ⟨v, rfl, wpAny_pure ?_⟩
    obtain ⟨tk', rfl⟩ := hv
    have hxe : x = .int (a + (i : Int)) := by
      simp [rng, hi] at hx; exact hx.symm
    subst hxe
    rw [Int.mul_one]
    exact hQ _ h' tk (.int _ _) st' kk
  done := fun A s ρ σ Q hh pre R live st hQ => by
    have hl : (rng a n).length = n := by simp [rng]
    rw [hl] at st
    exact (Walks.range hh I a 1 n).done s _ _ st fun h' tk kk => ⟨rfl, hQ h' tk kk⟩
  self := fun A s i Q E st h => (wpAny_pyIter_rangeiter st h)

/-- a call of a built-in by its name, its value taken as it is -/
theorem callB_wp (Wh : Wd prog H0 mg mb) {x : Str} {f : Value} {e : Expr} {es : List Expr} {p pos : Pos} {Ws : WL} (hf : ∃ T, f = .type T) (hb : bootBuiltins x = some f) (hm : mg x = none) (hx : x ≠ "__name__")
    (hk : sc.names.lookup x = some .globalImplicit) (hd : (x == ("__debug__" : Str)) = false) (hst : ∀ env, starEach (e :: es) env = (false, eval e env) :: starEach es env) (hp : Plain es)
    (h : SndL prog w H0 d sc (e :: es) Ws) {A : Around} {env : Env} {s : Shared} {ρ : List Addr} {σ : Sto} {ε : Loc} {P : List V → Sto → Prop} {Q : Value → Shared → Prop} (r : Room d A) (hs : env.scope = sc) (F : FR H0 ρ s.heap env ε) (R : HR H0 ρ σ s.heap) (hP : Ws ε σ P)
    (hc : ∀ us s1 ρ1 σ1 vs, Mv H0 [] ρ s ρ1 σ1 s1 → VRs H0 ρ1 s1.heap vs us → P vs σ1 → wpAny (model prog w) A (call f us []) Q (fun _ _ => False) s1) :
    wpAny (model prog w) A (eval (.Call (.Name x p) (e :: es) [] pos) env) Q (fun _ _ => False) s := by
  have hk' : env.kindOf x = some .globalImplicit := by subst hs; exact hk
  refine wpAny_Call_Name_kw (Name_function_global F.kind hk' (loadGlobal_builtin (by rw [F.glob]; exact Wh.g.keeps R.keep) hm (by rw [F.bi]; exact Wh.b.keeps R.keep) (by rw [Wh.builtins x hx]; exact hb) ?_) hd)
  have key : wpAny (model prog w) A (evalArgs f true (backTo pos (starEach (e :: es) env)) []) (fun a s₁ => wpAny (model prog w) A (call f ([] ++ a.pos) a.kw) Q (fun _ _ => False) s₁) (fun _ _ => False) s := by
    have h' := h A env s ρ σ ε _ pos r hs F R hP
    rw [hst] at h' ⊢
    exact evalArgs_plain (wpAny_mono h' (fun us s1 ⟨ρ1, σ1, vs, m, hv, hw⟩ => hc us s1 ρ1 σ1 vs m hv hw) fun _ _ h => h)
  have hpl : (backTo pos (starEach (e :: es) env)).any (·.1) = false := by
    rw [hst]
    show (false || (backTo pos (starEach es env)).any (·.1)) = false
    rw [hp env pos]; rfl
  obtain ⟨T, rfl⟩ := hf
  exact PyProof.Rows.callWith_type hpl key

theorem range_iter_ok {A : Around} {s s1 : Shared} {ρ ρ1 : List Addr} {σ1 : Sto} {r0 : Addr} {a b : Int} {ta tb tc : Tok} {t : Expr} {P : PI} (ht : ∃ x p, t = .Name x p) (m : Mv H0 [] ρ s ρ1 σ1 s1)
    (hr : IsRange s1.heap r0 a b 1 ta tb tc) (ha : -1000000 ≤ a ∧ a ≤ 1000000) (hb : -1000000 ≤ b ∧ b ≤ 1000000) (hP : P (rng a (b - a).toNat) (fun _ => True) σ1) :
    wpAny (model prog w) A (pyIter (.ref r0)) (fun it s2 => ∃ I wr xs live ρ' σ' St, it = .ref I ∧ Mv H0 [] ρ s ρ' σ' s2 ∧ Itr prog w H0 t I wr xs live ρ' St ∧ St 0 s2.heap ∧
      (∀ b ∈ wr, s.heap.get? b = none ∧ b ∉ ρ') ∧ P xs live σ') (fun _ _ => False) s1 := by
  refine wpAny_pyIter_range hr (small_one (by omega) (by omega) (by omega) (by omega)) ?_
  have kk : ∀ q o, s1.heap.get? q = some o → (s1.heap.push { cls := .type "range_iterator", data := .fields #[rawInt a, rawInt (Builtin.Range.rangeSize a b 1), rawInt 1] }).get? q = some o := fun b o e => Heap.get?_push_of_some _ e
  have hsz : Builtin.Range.rangeSize a b 1 = (((b - a).toNat : Nat) : Int) := by rw [rangeSize_one]; split <;> (first | exact ar142 (by assumption) | exact ar143 (by assumption))
  refine ⟨s1.heap.objs.size, _, _, _, ρ1, σ1, _, rfl, m.trans (Mv.grow (W := []) m.hr s1.toks kk), itr_range (a := a) (n := (b - a).toNat) ht, ?_, fun q hq => ?_, hP⟩
  · show IsRangeIter _ _ _ _ _
    have := Heap.get?_push_size s1.heap (o := { cls := .type "range_iterator", data := .fields #[rawInt a, rawInt (Builtin.Range.rangeSize a b 1), rawInt 1] }) rfl
    rw [hsz] at this ⊢
    simpa using this
  · simp at hq; subst hq
    exact ⟨m.back (get?_size_none _), m.hr.notin_fresh (get?_size_none _)⟩

noncomputable def wIRange1 (Ws : WL) : WI := fun ε σ P => Ws ε σ fun vs σ1 => ∃ n : Int, vs = [.int n] ∧ -1000000 ≤ n ∧ n ≤ 1000000 ∧ P (rng 0 n.toNat) (fun _ => True) σ1
theorem sndI_range1 (Wh : Wd prog H0 mg mb) {t e : Expr} {p pos : Pos} {Ws : WL} (ht : ∃ x p, t = .Name x p) (hm : mg "range" = none) (hk : sc.names.lookup ("range" : Str) = some .globalImplicit)
    (hst : ∀ env, starEach [e] env = [(false, eval e env)]) (h : SndL prog w H0 d sc [e] Ws) : SndI prog w H0 d sc t (.Call (.Name "range" p) [e] [] pos) (wIRange1 Ws) := by
  intro A env s ρ σ ε P r hs F R hP
  refine callB_wp Wh (f := .type "range") ⟨_, rfl⟩ boot_range hm (by decide) hk (by decide) hst (fun _ _ => rfl) h r hs F R hP fun us s1 ρ1 σ1 vs m hv h1 => ?_
  obtain ⟨n, rfl, h0, h1, hP⟩ := h1
  obtain ⟨u, rfl, hu⟩ := hv.one
  cases hu with
  | int _ t =>
  refine call_range_1 ?_
  have kk : ∀ q o, s1.heap.get? q = some o → (s1.heap.push { cls := .type "range", data := .fields #[.int 0 s1.toks, .int n t, .int 1 (s1.toks + 1)] }).get? q = some o := fun b o e => Heap.get?_push_of_some _ e
  refine range_iter_ok ht (m.trans (Mv.grow (W := []) m.hr (s1.toks + 1 + 1) kk)) (IsRange.new ..) (by exact ar144) ⟨h0, h1⟩ ?_
  simpa using hP
noncomputable def wIRange2 (Ws : WL) : WI := fun ε σ P => Ws ε σ fun vs σ1 => ∃ a b : Int, vs = [.int a, .int b] ∧ (-1000000 ≤ a ∧ a ≤ 1000000) ∧ (-1000000 ≤ b ∧ b ≤ 1000000) ∧ P (rng a (b - a).toNat) (fun _ => True) σ1
theorem sndI_range2 (Wh : Wd prog H0 mg mb) {t e e' : Expr} {p pos : Pos} {Ws : WL} (ht : ∃ x p, t = .Name x p) (hm : mg "range" = none) (hk : sc.names.lookup ("range" : Str) = some .globalImplicit)
    (hst : ∀ env, starEach [e, e'] env = (false, eval e env) :: starEach [e'] env) (hp : Plain [e']) (h : SndL prog w H0 d sc [e, e'] Ws) : SndI prog w H0 d sc t (.Call (.Name "range" p) [e, e'] [] pos) (wIRange2 Ws) := by
  intro A env s ρ σ ε P r hs F R hP
  refine callB_wp Wh (f := .type "range") ⟨_, rfl⟩ boot_range hm (by decide) hk (by decide) hst hp h r hs F R hP fun us s1 ρ1 σ1 vs m hv h1 => ?_
  obtain ⟨a, b, rfl, h0, h1, hP⟩ := h1
  obtain ⟨u, u', rfl, hu, hu'⟩ := hv.two
  cases hu with
  | int _ t =>
  cases hu' with
  | int _ t' =>
  refine call_range_2 ?_
  have kk : ∀ q o, s1.heap.get? q = some o → (s1.heap.push { cls := .type "range", data := .fields #[.int a t, .int b t', .int 1 s1.toks] }).get? q = some o := fun b o e => Heap.get?_push_of_some _ e
  exact range_iter_ok ht (m.trans (Mv.grow (W := []) m.hr (s1.toks + 1) kk)) (IsRange.new ..) h0 h1 hP

/-- enumerate: pairs of the place and the item -/
noncomputable def enm (xs : List V) : List V := xs.mapIdx fun i x => .tup [.int i, x]
theorem enum_notseq {h : Heap} {e it : Addr} {i : Int} {old : Value} (x : IsEnum h e it i old) : ∀ o vs n, h.get? e = some o → o.data ≠ .seq vs n := fun o vs n ee q => by
  have x' : h.get? e = _ := x
  rw [ee] at x'; cases x'; cases q
theorem itr_enum {t : Expr} {e it a : Addr} {k : Nat} {xs : List V} {ρ0 : List Addr} (ht : ∃ es k p, t = .Tuple es k p) (hne : e ≠ it) (hk : ρ0[k]? = some a) :
    Itr prog w H0 t e [e, it] (enm xs) (fun σ => σ[k]? = some xs) ρ0 (fun i h => (∃ old, IsEnum h e it i old) ∧ h.IsListIter it a i) where
  frame := fun i h h' st kk => ⟨let ⟨old, x⟩ := st.1; ⟨old, kk e (by simp) _ x⟩, st.2.at fun o x => kk it (by simp) o x⟩
  flds := fun i h st b hb => by
    obtain ⟨⟨old, x⟩, y⟩ := st
    simp at hb
    rcases hb with rfl | rfl
    · exact ⟨_, _, x, rfl⟩
    · obtain ⟨o, e, _, d⟩ := y; exact ⟨o, _, e, d⟩
  next := fun A s ρ σ i x Q hh pre R live hx st hQ => by
    obtain ⟨⟨old, he⟩, hit⟩ := st
    obtain ⟨es, kk, p, rfl⟩ := ht
    obtain ⟨r, hr⟩ := pre
    have hk' : ρ[k]? = some a := by rw [← hr, List.getElem?_append_left ((List.getElem?_eq_some_iff.mp hk).1)]; exact hk
    obtain ⟨vs, hL, hv⟩ := R.at hk' live
    simp only [enm, List.getElem?_mapIdx, Option.map_eq_some_iff] at hx
    obtain ⟨y, hy, rfl⟩ := hx
    obtain ⟨u, eu, hu⟩ := hv.get hy
    refine wpAny_pyNext_enum_item he hit hL.isList (x := u) (by simpa using eu) hne fun h' ho hit' hT hsz kk' => ⟨_, rfl, ?_⟩
    have hTe : s.heap.objs.size ≠ e := (Nat.ne_of_lt (Heap.lt_size he)).symm
    have hTi : s.heap.objs.size ≠ it := by obtain ⟨o, e', _⟩ := hit; exact (Nat.ne_of_lt (Heap.lt_size e')).symm
    refine wpAny_letOwnedTupleGo_enum ho fun h'' he'' hs'' => ?_
    have kk2 : ∀ b o, b ≠ e → b ≠ it → s.heap.get? b = some o → h''.get? b = some o := fun b o h1 h2 e1 => hs''.extBut b o h1 (kk' b o h1 h2 e1)
    have tu : Tups s.heap h'' := fun b o ws n e1 _ e3 => kk2 b o (fun q => by subst q; exact enum_notseq he o ws n e1 e3) (fun q => by subst q; exact listiter_notseq hit o ws n e1 e3) e1
    refine hQ _ h'' _ (.tup (vs := [.int i s.toks, u]) ⟨_, hs''.extBut _ _ hTe hT, rfl, _, rfl⟩ rfl (VRs.cons (.int _ _) (VRs.cons (hu.mono (List.prefix_refl _) tu) VRs.nil)).2) ⟨⟨_, by simpa using he''⟩, hit'.extBut hs''.extBut (Ne.symm hne)⟩ fun b o hb e1 => ?_
    simp at hb
    exact kk2 b o hb.1 hb.2 e1
  done := fun A s ρ σ Q hh pre R live st hQ => by
    obtain ⟨⟨old, he⟩, hit⟩ := st
    obtain ⟨r, hr⟩ := pre
    have hk' : ρ[k]? = some a := by rw [← hr, List.getElem?_append_left ((List.getElem?_eq_some_iff.mp hk).1)]; exact hk
    obtain ⟨vs, hL, hv⟩ := R.at hk' live
    refine wpAny_pyNext_enum_end hh he hit hL.isList (by simp [enm, hv.1]) fun h' hx => ⟨rfl, hQ h' s.toks fun b o hb e1 => hx b o (fun q => hb (by simp [q])) e1⟩
  self := fun A s i Q E st h => by
    obtain ⟨⟨old, he⟩, _⟩ := st
    exact wpAny_pyIter_enum he h

noncomputable def wIEnum (Ws : WL) : WI := fun ε σ P => Ws ε σ fun vs σ1 => ∃ k xs, vs = [.ref k] ∧ σ1[k]? = some xs ∧ P (enm xs) (fun σ' => σ'[k]? = some xs) σ1
theorem sndI_enum (Wh : Wd prog H0 mg mb) {t e : Expr} {p pos : Pos} {Ws : WL} (ht : ∃ es k p, t = .Tuple es k p) (hm : mg "enumerate" = none) (hk : sc.names.lookup ("enumerate" : Str) = some .globalImplicit)
    (hst : ∀ env, starEach [e] env = [(false, eval e env)]) (h : SndL prog w H0 d sc [e] Ws) : SndI prog w H0 d sc t (.Call (.Name "enumerate" p) [e] [] pos) (wIEnum Ws) := by
  intro A env s ρ σ ε P r hs F R hP
  refine callB_wp Wh (f := .type "enumerate") ⟨_, rfl⟩ boot_enumerate hm (by decide) hk (by decide) hst (fun _ _ => rfl) h r hs F R hP fun us s1 ρ1 σ1 vs m hv h1 => ?_
  obtain ⟨k, xs, rfl, hx, hP⟩ := h1
  obtain ⟨u, rfl, hu⟩ := hv.one
  cases hu with
  | @ref _ a ea =>
  obtain ⟨vs, hL, _⟩ := m.hr.at ea hx
  refine call_enumerate_list hL.isList fun h' he hit hsz kk => wpAny_pyIter_enum he ?_
  refine ⟨_, _, _, _, ρ1, σ1, _, rfl, m.trans (Mv.grow (W := []) m.hr s1.toks kk), itr_enum ht (Nat.succ_ne_self _) ea, ⟨⟨_, he⟩, hit⟩, fun b hb => ?_, hP⟩
  have hn : s1.heap.get? b = none := get?_ge_none (by simp at hb; rcases hb with rfl | rfl <;> (first | exact ar145 | exact ar146))
  exact ⟨m.back hn, m.hr.notin_fresh hn⟩

/-- the for loop -/
noncomputable def forL (live : Sto → Prop) (Wa : WA) (Wb : WS) : List V → WS
  | [] => fun ε σ P => live σ ∧ P .next ε σ
  | x :: xs => fun ε σ P => live σ ∧ Wa x ε σ fun ε1 σ1 => Wb ε1 σ1 fun fl ε2 σ2 => match fl with
      | .next => forL live Wa Wb xs ε2 σ2 P
      | .cont => forL live Wa Wb xs ε2 σ2 P
      | .brk => P .next ε2 σ2
      | .ret v => P (.ret v) ε2 σ2
noncomputable def wFor (Wi : WI) (Wa : WA) (Wb : WS) : WS := fun ε σ P => Wi ε σ fun xs live σ1 => forL live Wa Wb xs ε σ1 P

theorem own_alive {ρ : List Addr} {h : Heap} {env : Env} {ε : Loc} (F : FR H0 ρ h env ε) : ∀ a ∈ own env, h.get? a ≠ none := fun a ha => by
  rcases List.mem_cons.mp ha with rfl | ha
  · obtain ⟨m, ⟨o, _, _, e, _⟩, _⟩ := F.loc
    rw [e]; simp
  · obtain ⟨x, _, hx⟩ := List.mem_flatMap.mp ha
    cases q : env.cells.lookup x with
    | none => rw [q] at hx; simp at hx
    | some c =>
      rw [q] at hx; simp at hx; subst hx
      obtain ⟨cv, ⟨o, e, _⟩, _⟩ := F.cel x a q
      rw [e]; simp

theorem wr_alive {ρ : List Addr} {h : Heap} {env : Env} {ε : Loc} (F : FR H0 ρ h env ε) {x : Str} : ∀ a ∈ wr env x, h.get? a ≠ none := fun a ha => by
  unfold wr at ha
  split at ha
  · simp at ha; subst ha
    obtain ⟨m, ⟨o, _, _, e, _⟩, _⟩ := F.loc
    rw [e]; simp
  · cases q : env.cells.lookup x with
    | none => rw [q] at ha; simp at ha
    | some c =>
      rw [q] at ha; simp at ha; subst ha
      obtain ⟨cv, ⟨o, e, _⟩, _⟩ := F.cel x a q
      rw [e]; simp
theorem wrs_alive {ρ : List Addr} {h : Heap} {env : Env} {ε : Loc} (F : FR H0 ρ h env ε) {ns : List Str} : ∀ a ∈ wrs env ns, h.get? a ≠ none := fun a ha => by
  obtain ⟨x, _, hx⟩ := List.mem_flatMap.mp ha
  exact wr_alive F a hx

/-- a frame stays where only what was not there at the start is written -/
theorem FR.past {ρ ρ1 : List Addr} {h0 h h' : Heap} {env : Env} {ε ε0 : Loc} {W : List Addr} (F0 : FR H0 ρ h0 env ε0) (F : FR H0 ρ1 h env ε) (ht : Tups h h') (hf : ∀ b ∈ W, h0.get? b = none)
    (k : ∀ b o, b ∉ W → h.get? b = some o → h'.get? b = some o) : FR H0 ρ1 h' env ε := by
  refine F.keepOwn (List.prefix_refl _) ht (fun o e => k _ o (fun hm => ?_) e) (fun x c e o eo => k _ o (fun hm => ?_) eo)
  · obtain ⟨m, ⟨o', _, _, e', _⟩, _⟩ := F0.loc
    rw [hf _ hm] at e'; cases e'
  · obtain ⟨cv, ⟨o', e', _⟩, _⟩ := F0.cel x c e
    rw [hf _ hm] at e'; cases e'

theorem itr_wok {t : Expr} {I : Addr} {wr : List Addr} {xs : List V} {live : Sto → Prop} {ρ0 : List Addr} {St : Nat → Heap → Prop} (T : Itr prog w H0 t I wr xs live ρ0 St) {i : Nat} {h h0 : Heap} {ρ ρ1 : List Addr} {σ : Sto}
    (st : St i h) (R0 : HR H0 ρ σ h0) (hf : ∀ b ∈ wr, h0.get? b = none) (hn : ∀ b ∈ wr, b ∉ ρ1) : WOk H0 ρ1 wr h where
  tup := fun a ha o vs n e _ => T.notseq i h st a ha o vs n e
  base := fun a ha => by
    cases q : H0.get? a with
    | none => rfl
    | some o => have := R0.keep a o q; rw [hf a ha] at this; cases this
  off := hn

theorem snd_for {t e : Expr} {b : List Stmt} {pos : Pos} {ns : List Str} {Wi : WI} {Wa : WA} {Wb : WS} (hi : SndI prog w H0 d sc t e Wi) (ha : SndA prog w H0 d sc t ns Wa) (hb : SndB prog w H0 d sc b Wb)
    (hset : ∀ env x, foldedSetIterable e env x = pure x) : SndS prog w H0 d sc (.For t e b [] pos) (wFor Wi Wa Wb) := by
  intro A env s ρ σ ε P r hs F R hP
  refine wpAny_For (wpAny_mono (hi A env s ρ σ ε _ r hs F R hP) (fun xv s1 h1 => wpAny_mono h1 (fun it s2 h2 => ?_) fun _ _ h => h) fun _ _ h => h) (hset env)
  obtain ⟨I, wr, xs, live, ρ2, σ2, St, rfl, m2, T, st, hwr, hP⟩ := h2
  refine codeAny_forLoop_any (fun n s' => ∃ i ρ' σ' ε', Mv H0 (own env) ρ s ρ' σ' s' ∧ FR H0 ρ' s'.heap env ε' ∧ St i s'.heap ∧ ρ2 <+: ρ' ∧ (∀ b ∈ wr, b ∉ ρ') ∧ i ≤ xs.length ∧ n = xs.length - i ∧ forL live Wa Wb (xs.drop i) ε' σ' P) ?_ xs.length
    ⟨0, ρ2, σ2, ε, m2.weak0, F.mv R m2, st, List.prefix_refl _, fun b hb => (hwr b hb).2, Nat.zero_le _, rfl, hP⟩
  rintro n s3 ⟨i, ρ3, σ3, ε3, m3, F3, st3, pre3, off3, hi3, hn3, h3⟩
  have ok3 : WOk H0 ρ3 wr s3.heap := itr_wok T st3 R (fun b hb => (hwr b hb).1) off3
  cases hx : xs[i]? with
  | none =>
    have hi : i = xs.length := by have := List.getElem?_eq_none_iff.mp hx; exact ar147 hi3 this
    subst hi
    rw [List.drop_length] at h3
    refine wpAny_mono (T.done A s3 ρ3 σ3 (fun s' => ∃ h' tk, s' = { s3 with heap := h', toks := tk } ∧ ∀ b o, b ∉ wr → s3.heap.get? b = some o → h'.get? b = some o) r.hd pre3 m3.hr h3.1 st3 fun h' tk k => ⟨h', tk, rfl, k⟩) (fun rr s4 h4 => ?_) notedBy_false
    obtain ⟨rfl, h', tk, rfl, k⟩ := h4
    have m4 := m3.after ok3 (fun b hb => (hwr b hb).1) tk k
    have tu : Tups s3.heap h' := fun a o vs n e1 e2 e3 => k a o (fun hm => ok3.tup a hm o vs n e1 e2 e3) e1
    exact wpAny_execs_nil ⟨ρ3, σ3, ε3, .next, m4, FR.past F F3 tu (fun b hb => (hwr b hb).1) k, .next, h3.2⟩
  | some x =>
    have hlt := (List.getElem?_eq_some_iff.mp hx).1
    have hxe := (List.getElem?_eq_some_iff.mp hx).2
    rw [List.drop_eq_getElem_cons hlt, hxe] at h3
    refine wpAny_mono (T.next A s3 ρ3 σ3 i x (fun u s' => ∃ h' tk, s' = { s3 with heap := h', toks := tk } ∧ VR H0 ρ3 h' x u ∧ St (i + 1) h' ∧ ∀ b o, b ∉ wr → s3.heap.get? b = some o → h'.get? b = some o) r.hd pre3 m3.hr h3.1 hx st3
      fun u h' tk hu st' k => ⟨h', tk, rfl, hu, st', k⟩) (fun rr s4 h4 => ?_) notedBy_false
    obtain ⟨u, rfl, h4⟩ := h4
    refine wpAny_mono h4 (fun _ s5 h5 => ?_) notedBy_false
    obtain ⟨h', tk, rfl, hu, st5, k⟩ := h5
    have m5 := m3.after ok3 (fun b hb => (hwr b hb).1) tk k
    have tu : Tups s3.heap h' := fun a o vs n e1 e2 e3 => k a o (fun hm => ok3.tup a hm o vs n e1 e2 e3) e1
    have F5 : FR H0 ρ3 h' env ε3 := FR.past F F3 tu (fun b hb => (hwr b hb).1) k
    refine wpAny_mono (ha A env { s3 with heap := h', toks := tk } ρ3 σ3 ε3 u x _ r hs F5 m5.hr hu h3.2) (fun _ s6 hPq => ?_) notedBy_false
    obtain ⟨ρ6, σ6, ε6, m6, F6, h6⟩ := hPq
    -- the iterator stands behind the assignment
    have step : ∀ {ρa ρb : List Addr} {σa σb : Sto} {sa sb : Shared} {W : List Addr} {j : Nat}, St j sa.heap → HR H0 ρa σa sa.heap → Mv H0 W ρa sa ρb σb sb → (∀ b ∈ wr, b ∉ ρa) → (∀ b ∈ wr, b ∉ W) → St j sb.heap ∧ ∀ b ∈ wr, b ∉ ρb := by
      intro ρa ρb σa σb sa sb W j sta Ra mm offa offW
      refine ⟨T.frame _ _ _ sta fun b hb o e => mm.kp b o e fun hm => (List.mem_append.mp hm).elim (offa b hb) (offW b hb), fun b hb hm => ?_⟩
      rcases mm.fresh b hm with q | q
      · exact offa b hb q
      · -- b lives or not: if it is a new list it is a sequence in sb; the iterator's own are none
        have st' := T.frame _ _ _ sta fun b hb o e => mm.kp b o e fun hm => (List.mem_append.mp hm).elim (offa b hb) (offW b hb)
        obtain ⟨vs, o, e, _, n, hd⟩ := mm.hr.isList hm
        exact T.notseq _ _ st' b hb o vs n e hd
    have offown : ∀ b ∈ wr, b ∉ own env := fun b hb hm => own_alive F b hm (hwr b hb).1
    obtain ⟨st6, off6⟩ := step (sa := { s3 with heap := h', toks := tk }) st5 m5.hr m6 off3 (fun b hb hm => offown b hb (wrs_own b hm))
    have m36 := m5.trans (m6.weak wrs_own)
    refine wpAny_mono (hb A env s6 ρ6 σ6 ε6 _ r hs F6 m6.hr h6) (fun f s7 hPq => ?_) notedBy_false
    obtain ⟨ρ7, σ7, ε7, fl, m7, F7, hf7, h7⟩ := hPq
    obtain ⟨st7, off7⟩ := step st6 m6.hr m7 off6 offown
    have m := m36.trans m7
    have pre7 := pre3.trans (m6.pre.trans m7.pre)
    cases hf7 with
    | next => exact ⟨xs.length - (i + 1), by exact ar148 hn3 hlt, i + 1, ρ7, σ7, ε7, m, F7, st7, pre7, off7, by exact ar96 hlt, rfl, h7⟩
    | cont => exact ⟨xs.length - (i + 1), by exact ar148 hn3 hlt, i + 1, ρ7, σ7, ε7, m, F7, st7, pre7, off7, by exact ar96 hlt, rfl, h7⟩
    | brk => exact ⟨ρ7, σ7, ε7, .next, m, F7, .next, h7⟩
    | ret hv => exact ⟨ρ7, σ7, ε7, .ret _, m, F7, .ret hv, h7⟩
end Mine

namespace Mine
open PySem PySem.W PyProof.Rows
set_option linter.unusedVariables false
open PySem.Calls

variable {prog : Program} {w : World} {H0 : Heap} {d : Nat} {sc : Scope} {mg mb : Str → Option Value}

/-- the tests of a comprehension -/
noncomputable def SndIfs (prog : Program) (w : World) (H0 : Heap) (d : Nat) (sc : Scope) (ifs : List Expr) (W : WT) : Prop :=
  ∀ (A : Around) (env : Env) (s : Shared) (ρ : List Addr) (σ : Sto) (ε : Loc) (P : Bool → Sto → Prop), Room d A → env.scope = sc → FR H0 ρ s.heap env ε → HR H0 ρ σ s.heap → W ε σ P →
    wpAny (model prog w) A (forIn ifs true fun c r => if r = true then do let ok ← isTrue c env (eval c env); pure (ForInStep.yield ok) else pure (ForInStep.yield r))
      (fun b s' => ∃ ρ' σ', Mv H0 [] ρ s ρ' σ' s' ∧ P b σ') (fun _ _ => False) s
noncomputable def wTrue : WT := fun ε σ P => P true σ
theorem sndIfs_nil : SndIfs prog w H0 d sc [] wTrue := by
  intro A env s ρ σ ε P r hs F R hP
  exact wpAny_tests_nil ⟨ρ, σ, Mv.refl R, hP⟩
theorem sndIfs_one {c : Expr} {W : WT} (h : SndT prog w H0 d sc c W) : SndIfs prog w H0 d sc [c] W := by
  intro A env s ρ σ ε P r hs F R hP
  exact wpAny_tests_one (h A env s ρ σ ε P r hs F R hP)

theorem codeAny_compLoop_any {A : Around} {R : Result → Shared → Prop} {s : Shared} {elt target iter : Expr} {ifs : List Expr} {scope : Scope} {pos : Pos} {it acc : Value} {env : Env} (I : Nat → Shared → Prop)
    (turn : ∀ n s, I n s → wpAny (model prog w) A (pyNext it) (fun r s₁ => match r with
      | none => R (.ok .next) s₁
      | some v => wpAny (model prog w) A (letOwnedTupleGo target it v) (fun _ s₁' => wpAny (model prog w) A (assign target env v) (fun _ s₂ =>
          wpAny (model prog w) A (forIn ifs true fun c r => if r = true then do let ok ← isTrue c env (eval c env); pure (ForInStep.yield ok) else pure (ForInStep.yield r)) (fun ok s₃ =>
            if ok = true then wpAny (model prog w) A (eval elt env) (fun x s₄ =>
              wpAny (model prog w) A (call (.builtin "list.append") [acc, x]) (fun _ s₅ => ∃ m, m < n ∧ I m s₅) (fun _ _ => False) s₄) (fun _ _ => False) s₃
            else ∃ m, m < n ∧ I m s₃) (fun _ _ => False) s₂) (fun _ _ => False) s₁') (fun _ _ => False) s₁) (fun _ _ => False) s)
    (n : Nat) (h : I n s) : codeAny (model prog w) A (.compLoop (.ListComp elt [⟨target, iter, ifs, 0⟩] scope pos) 0 it acc env) R s := by
  refine codeAny_loop rfl I (fun n s hI => ?_) n h
  show wpAny _ A ((compTurn (.ListComp elt [⟨target, iter, ifs, 0⟩] scope pos) 0 it acc env).onRaise (fun x => do noteFrame x env; theTreesLotGoes x)) _ _ s
  refine wpAny_noted (wpAny_mono (E := fun _ _ => False) ?_ (fun _ _ h => h) notedBy_false)
  rw [compTurn_list]
  refine wpAny_bind (wpAny_standAt (wpAny_bind (wpAny_mono (turn n s hI) (fun r s₁ h₁ => ?_) fun _ _ h' => h')))
  cases r with
  | none => exact wpAny_pure h₁
  | some v =>
    refine wpAny_bind (wpAny_mono h₁ (fun _ s₁' h₁' => ?_) fun _ _ h' => h')
    refine wpAny_bind (wpAny_mono h₁' (fun _ s₂ h₂ => wpAny_bind (wpAny_mono h₂ (fun ok s₃ h₃ => ?_) fun _ _ h' => h')) fun _ _ h' => h')
    cases ok with
    | false => exact wpAny_pure ⟨rfl, h₃⟩
    | true =>
      exact wpAny_bind (wpAny_bind (wpAny_mono h₃ (fun x s₄ h₄ => wpAny_bind (wpAny_mono h₄ (fun _ s₅ h₅ => wpAny_pure (wpAny_pure ⟨rfl, h₅⟩)) fun _ _ h' => h')) fun _ _ h' => h'))

/-- the cells that a comprehension takes from around -/
noncomputable def clOf (env : Env) : List (Str × NameKind) → List (Str × Addr) → List (Str × Addr)
  | [], acc => acc
  | (n, k) :: r, acc => clOf env r (if k == .free then (match env.cells.lookup n with | some c => (n, c) :: acc | none => acc) else acc)
theorem clos_go {env : Env} : ∀ (names : List (Str × NameKind)) (acc : List (Str × Addr)), (∀ n, (n, NameKind.free) ∈ names → ∃ c, env.cells.lookup n = some c) →
    (forIn names acc fun (x : Str × NameKind) (cs : List (Str × Addr)) => (match x with
      | (name, kind) => if kind == .free then do pure (ForInStep.yield ((name, ← cellOf env name) :: cs)) else pure (ForInStep.yield cs) : Sem (ForInStep (List (Str × Addr))))) = pure (clOf env names acc)
  | [], acc, _ => rfl
  | (n, k) :: r, acc, h => by
    rw [List.forIn_cons]
    have hr : ∀ m, (m, NameKind.free) ∈ r → ∃ c, env.cells.lookup m = some c := fun m hm => h m (List.mem_cons_of_mem _ hm)
    cases hk : k == NameKind.free with
    | false =>
      simp only [hk, Bool.false_eq_true, if_false, pure_bind]
      rw [clos_go r acc hr]
      simp only [clOf, hk, Bool.false_eq_true, if_false]
    | true =>
      have hk' : k = .free := by simpa using hk
      subst hk'
      obtain ⟨c, hc⟩ := h n List.mem_cons_self
      have : cellOf env n = pure c := by unfold cellOf; rw [hc]
      simp only [hk, if_true, this, pure_bind]
      rw [clos_go r _ hr]
      simp only [clOf, hk, if_true, hc]
theorem clos_eq {scope : Scope} {env : Env} (h : ∀ n, (n, NameKind.free) ∈ scope.names → ∃ c, env.cells.lookup n = some c) : closureFor scope env = pure (clOf env scope.names []) := by
  have e := clos_go scope.names [] h
  simp only [closureFor]
  exact (congrArg (fun t => t >>= fun r => pure r) e).trans (by simp)

theorem lookup_of_mem {α : Type} : ∀ {l : List (Str × α)} {x : Str} {c : α}, (x, c) ∈ l → ∃ c', l.lookup x = some c'
  | (y, b) :: r, x, c, h => by
    rw [List.lookup_cons]
    cases hb : x == y with
    | true => exact ⟨b, rfl⟩
    | false =>
      rcases List.mem_cons.mp h with e | h
      · cases e; simp at hb
      · exact lookup_of_mem h
theorem clOf_keeps {env : Env} : ∀ (names : List (Str × NameKind)) (acc : List (Str × Addr)) (p : Str × Addr), p ∈ acc → p ∈ clOf env names acc
  | [], acc, p, h => h
  | (n, k) :: r, acc, p, h => by
    unfold clOf
    refine clOf_keeps r _ p ?_
    split
    · split
      · exact List.mem_cons_of_mem _ h
      · exact h
    · exact h
theorem clOf_mem {env : Env} : ∀ (names : List (Str × NameKind)) (acc : List (Str × Addr)) (x : Str) (c : Addr), (x, c) ∈ clOf env names acc → (x, c) ∈ acc ∨ (env.cells.lookup x = some c ∧ (x, NameKind.free) ∈ names)
  | [], acc, x, c, h => .inl h
  | (n, k) :: r, acc, x, c, h => by
    unfold clOf at h
    rcases clOf_mem r _ x c h with h | ⟨h1, h2⟩
    · split at h
      · rename_i hk
        have hk' : k = .free := by simpa using hk
        split at h
        · rename_i c' hc
          rcases List.mem_cons.mp h with e | h
          · cases e; exact .inr ⟨hc, by rw [hk']; exact List.mem_cons_self⟩
          · exact .inl h
        · exact .inl h
      · exact .inl h
    · exact .inr ⟨h1, List.mem_cons_of_mem _ h2⟩
theorem clOf_has {env : Env} : ∀ (names : List (Str × NameKind)) (acc : List (Str × Addr)) (x : Str), (∀ n, (n, NameKind.free) ∈ names → ∃ c, env.cells.lookup n = some c) → (x, NameKind.free) ∈ names → ∃ c, (x, c) ∈ clOf env names acc
  | (n, k) :: r, acc, x, hh, h => by
    unfold clOf
    rcases List.mem_cons.mp h with e | h
    · cases e
      obtain ⟨c, hc⟩ := hh _ List.mem_cons_self
      refine ⟨c, clOf_keeps r _ _ ?_⟩
      simp [hc]
    · exact clOf_has r _ x (fun n hn => hh n (List.mem_cons_of_mem _ hn)) h

theorem cellsFrom_append : ∀ (names : List (Str × NameKind)) (n : Nat) (acc : List (Str × Addr)), cellsFrom n names acc = cellsFrom n names [] ++ acc
  | [], n, acc => rfl
  | (x, k) :: r, n, acc => by
    unfold cellsFrom
    split
    · rw [cellsFrom_append r (n + 1) ((x, n) :: acc), cellsFrom_append r (n + 1) [(x, n)], List.append_assoc]; rfl
    · exact cellsFrom_append r n acc
theorem cellsFrom_mem : ∀ (names : List (Str × NameKind)) (n : Nat) (x : Str) (c : Addr), (x, c) ∈ cellsFrom n names [] → (x, NameKind.cell) ∈ names
  | (y, k) :: r, n, x, c, h => by
    unfold cellsFrom at h
    split at h
    · rename_i hk
      have hk' : k = .cell := by simpa using hk
      rw [cellsFrom_append] at h
      rcases List.mem_append.mp h with h | h
      · exact List.mem_cons_of_mem _ (cellsFrom_mem r (n + 1) x c h)
      · simp at h; rw [h.1, hk']; exact List.mem_cons_self
    · exact List.mem_cons_of_mem _ (cellsFrom_mem r n x c h)
theorem cellsFrom_has : ∀ (names : List (Str × NameKind)) (n : Nat) (x : Str), (x, NameKind.cell) ∈ names → ∃ c, (x, c) ∈ cellsFrom n names []
  | (y, k) :: r, n, x, h => by
    unfold cellsFrom
    rcases List.mem_cons.mp h with e | h
    · cases e
      simp only [beq_self_eq_true, if_true]
      rw [cellsFrom_append]
      exact ⟨n, List.mem_append_right _ (by simp)⟩
    · split
      · rw [cellsFrom_append]
        obtain ⟨c, hc⟩ := cellsFrom_has r (n + 1) x h
        exact ⟨c, List.mem_append_left _ hc⟩
      · exact cellsFrom_has r n x h

/-- the scope of a comprehension within a function's -/
noncomputable def relabelS (scope sc : Scope) : Scope :=
  { scope with names := scope.names.map fun (n, k) => if (k == .free && sc.kind == .function && sc.names.lookup n == some .cell) then (n, .cell) else (n, k) }
theorem relabel_eq (scope : Scope) (env : Env) : relabel scope env = relabelS scope env.scope := rfl
theorem lookup_relabelS {sc : Scope} {x : Str} {k : NameKind} : ∀ {names : List (Str × NameKind)}, (names.map fun ((n, k) : Str × NameKind) => if (k == .free && sc.kind == .function && sc.names.lookup n == some .cell) then (n, NameKind.cell) else (n, k)).lookup x = some k →
    ∃ k0, names.lookup x = some k0 ∧ (k0 = k ∨ (k0 = .free ∧ k = .cell))
  | [], h => by simp at h
  | (n, j) :: r, h => by
    rw [List.map_cons] at h
    have e : (if (j == NameKind.free && sc.kind == .function && sc.names.lookup n == some .cell) = true then (n, NameKind.cell) else (n, j)) = (n, if (j == NameKind.free && sc.kind == .function && sc.names.lookup n == some .cell) = true then NameKind.cell else j) := by split <;> rfl
    simp only [e] at h
    rw [List.lookup_cons] at h ⊢
    cases hb : x == n with
    | true =>
      rw [hb] at h
      refine ⟨j, rfl, ?_⟩
      simp only [Option.some.injEq] at h
      split at h
      · rename_i hc
        have : j = .free := by simp only [Bool.and_eq_true] at hc; simpa using hc.1.1
        exact .inr ⟨this, h.symm⟩
      · exact .inl h
    | false =>
      rw [hb] at h
      exact lookup_relabelS h

/-- the names that a comprehension sees of those around -/
noncomputable def compLoc (scope : Scope) (ε : Loc) : Loc := fun x => if scope.names.lookup x = some .free then ε x else none

/-- what the check of a comprehension's scope asks -/
noncomputable def scopeOk (scope sc : Scope) : Bool :=
  scope.names.all fun (n, k) => (k != .local || scope.names.lookup n == some .local) && (k != .cell || scope.names.lookup n == some .cell) && (k != .free || (scope.names.lookup n == some .free && (sc.names.lookup n == some .cell || sc.names.lookup n == some .free)))

theorem newCompEnv {M : Model} {A : Around} {E : Value → Shared → Prop} {s : Shared} {scope : Scope} {globals : Addr} {cl : List (Str × Addr)} {qual : Str} {env : Env} {Q : Env → Shared → Prop}
    (h : ∀ h', h'.Ns s.heap.objs.size (fun _ => none) → (∀ b o, s.heap.get? b = some o → h'.get? b = some o) → CellsOk h' (s.heap.objs.size + 1) (cellsFrom (s.heap.objs.size + 1) scope.names []) →
      Q (newEnv scope s.heap.objs.size globals (cellsFrom (s.heap.objs.size + 1) scope.names cl) qual none .none (some env) builtinsNs) { s with heap := h' }) :
    wpAny M A (newFunctionEnv scope globals cl [] qual none .none (some env)) Q E s := by
  simp only [newFunctionEnv, Option.isSome_some, if_true]
  refine wpAny_bind (wpAny_alloc ?_)
  refine wpAny_bind (wpAny_layCells _ (fun name kind cells => by cases hkc : kind == NameKind.cell <;> simp [hkc]) _ _ _ _ ?_)
  have ok := cellsFrom_ok scope.names (s.heap.push { cls := .type "dict", data := .dict #[] }) (s.heap.objs.size + 1) [] ⟨fun _ _ hm => (nomatch hm), List.Pairwise.nil⟩ (by rw [Heap.size_push]; exact Nat.le_refl _)
  rw [Heap.size_push] at ok
  rw [show ({ s with heap := s.heap.push { cls := .type "dict", data := .dict #[] } } : Shared).heap.objs.size = s.heap.objs.size + 1 from Heap.size_push ..]
  rw [List.forIn_nil]
  refine wpAny_bind (wpAny_pure (wpAny_pure ?_))
  exact h _ ((Heap.Ns.new s.heap (.type "dict")).keeps (pushCells_keeps _ _)) (fun b o e => pushCells_keeps _ _ b o (Heap.get?_push_of_some _ e)) ok

theorem scopeOk_local {scope sc : Scope} (h : scopeOk scope sc = true) : ∀ x ∈ scope.names, x.2 = .local → scope.names.lookup x.1 = some .local := fun x hx hk => by
  have := List.all_eq_true.mp h x hx
  simp only [Bool.and_eq_true, Bool.or_eq_true] at this
  have h1 := this.1.1
  rw [hk] at h1
  simpa using h1
theorem scopeOk_cell {scope sc : Scope} (h : scopeOk scope sc = true) : ∀ x ∈ scope.names, x.2 = .cell → scope.names.lookup x.1 = some .cell := fun x hx hk => by
  have := List.all_eq_true.mp h x hx
  simp only [Bool.and_eq_true, Bool.or_eq_true] at this
  have h1 := this.1.2
  rw [hk] at h1
  simpa using h1
theorem scopeOk_free {scope sc : Scope} (h : scopeOk scope sc = true) : ∀ x ∈ scope.names, x.2 = .free → scope.names.lookup x.1 = some .free ∧ (sc.names.lookup x.1 = some .cell ∨ sc.names.lookup x.1 = some .free) := fun x hx hk => by
  have := List.all_eq_true.mp h x hx
  simp only [Bool.and_eq_true, Bool.or_eq_true] at this
  have h1 := this.2
  rw [hk] at h1
  simpa using h1

/-- the frame of a comprehension -/
theorem comp_frame {ρ ρ' : List Addr} {h h' : Heap} {env : Env} {ε : Loc} {scope : Scope} {L n : Nat} {cl : List (Str × Addr)} {cenv : Env} {H0 : Heap} (F : FR H0 ρ h env ε) (hkeep0 : ∀ a o, H0.get? a = some o → h.get? a = some o) (hs : scopeOk scope env.scope = true) (hk : scope.kind = .function)
    (hcl : cl = clOf env scope.names []) (hce : cenv = { newEnv scope L env.globals (cellsFrom n scope.names cl) env.qual none .none (some env) builtinsNs with scope := relabel scope env })
    (hN : h'.Ns L (fun _ => none)) (hkp : ∀ b o, h.get? b = some o → h'.get? b = some o) (ok : CellsOk h' n (cellsFrom n scope.names [])) (hL : h.get? L = none) (hn : ∀ b, n ≤ b → h.get? b = none) (hρ : ρ <+: ρ') : FR H0 ρ' h' cenv (compLoc scope ε) := by
  subst hce
  have hfr : ∀ x, (x, NameKind.free) ∈ scope.names → ∃ c, env.cells.lookup x = some c := fun x hx => by
    obtain ⟨_, h2⟩ := scopeOk_free hs _ hx rfl
    exact F.has x h2
  have base : ∀ b, h.get? b = none → H0.get? b = none := fun b e => by
    cases q : H0.get? b with
    | none => rfl
    | some o => rw [hkeep0 b o q] at e; cases e
  -- where a cell's name comes from
  have src : ∀ x c, (cellsFrom n scope.names cl).lookup x = some c → ((x, c) ∈ cellsFrom n scope.names [] ∧ (x, NameKind.cell) ∈ scope.names) ∨ (env.cells.lookup x = some c ∧ (x, NameKind.free) ∈ scope.names) := fun x c e => by
    have hm := mem_of_lookup e
    rw [cellsFrom_append] at hm
    rcases List.mem_append.mp hm with hm | hm
    · exact .inl ⟨hm, cellsFrom_mem _ _ _ _ hm⟩
    · rw [hcl] at hm
      rcases clOf_mem _ _ _ _ hm with h | h
      · cases h
      · exact .inr h
  refine ⟨by show (relabel scope env).kind = _; exact hk, F.glob, F.bi, ⟨_, hN, fun x v hx e => ?_⟩, fun x c e => ?_, fun x hx => ?_, fun x y c e1 e2 => ?_, base _ hL, fun x c e => ?_⟩
  · exfalso
    have hx' : (relabelS scope env.scope).names.lookup x = some .local := hx
    obtain ⟨k0, h1, h2⟩ := lookup_relabelS hx'
    rcases h2 with rfl | ⟨_, h2⟩
    · unfold compLoc at e; rw [h1] at e; simp at e
    · cases h2
  · have e' : (cellsFrom n scope.names cl).lookup x = some c := e
    rcases src x c e' with ⟨h1, h2⟩ | ⟨h1, h2⟩
    · refine ⟨none, (ok.empty x c h1).1, fun _ v ev => ?_⟩
      exfalso
      have := scopeOk_cell hs _ h2 rfl
      unfold compLoc at ev; rw [this] at ev; simp at ev
    · obtain ⟨cv, C, hv⟩ := F.cel x c h1
      refine ⟨cv, C.keeps hkp, fun _ v ev => ?_⟩
      obtain ⟨h3, h4⟩ := scopeOk_free hs _ h2 rfl
      have ev' : ε x = some v := by unfold compLoc at ev; rw [if_pos h3] at ev; exact ev
      obtain ⟨u, hu, H⟩ := hv (by unfold Env.kindOf; rcases h4 with h4 | h4 <;> rw [h4] <;> simp) v ev'
      exact ⟨u, hu, H.mono hρ (tups_of hkp)⟩
  · show ∃ c, (cellsFrom n scope.names cl).lookup x = some c
    have key : (x, NameKind.cell) ∈ scope.names ∨ (x, NameKind.free) ∈ scope.names := by
      rcases hx with hx | hx
      · have hx' : (relabelS scope env.scope).names.lookup x = some .cell := hx
        obtain ⟨k0, h1, h2⟩ := lookup_relabelS hx'
        rcases h2 with rfl | ⟨rfl, _⟩
        · exact .inl (mem_of_lookup h1)
        · exact .inr (mem_of_lookup h1)
      · have hx' : (relabelS scope env.scope).names.lookup x = some .free := hx
        obtain ⟨k0, h1, h2⟩ := lookup_relabelS hx'
        rcases h2 with rfl | ⟨_, h2⟩
        · exact .inr (mem_of_lookup h1)
        · cases h2
    rcases key with key | key
    · obtain ⟨c, hc⟩ := cellsFrom_has _ n x key
      refine lookup_of_mem (c := c) ?_
      rw [cellsFrom_append]
      exact List.mem_append_left _ hc
    · obtain ⟨c, hc⟩ := clOf_has scope.names [] x hfr key
      refine lookup_of_mem (c := c) ?_
      rw [cellsFrom_append, hcl]
      exact List.mem_append_right _ hc
  · have e1' : (cellsFrom n scope.names cl).lookup x = some c := e1
    have e2' : (cellsFrom n scope.names cl).lookup y = some c := e2
    have alive : ∀ z, env.cells.lookup z = some c → h.get? c ≠ none := fun z ez => by
      obtain ⟨cv, ⟨o, eo, _⟩, _⟩ := F.cel z c ez
      rw [eo]; simp
    rcases src x c e1' with ⟨h1, h2⟩ | ⟨h1, h2⟩ <;> rcases src y c e2' with ⟨h3, h4⟩ | ⟨h3, h4⟩
    · exact name_of_addr ok.apart h1 h3
    · exact absurd (hn c (ok.empty x c h1).2) (alive y h3)
    · exact absurd (hn c (ok.empty y c h3).2) (alive x h1)
    · exact F.inj x y c h1 h3
  · have e' : (cellsFrom n scope.names cl).lookup x = some c := e
    rcases src x c e' with ⟨h1, h2⟩ | ⟨h1, h2⟩
    · exact base _ (hn c (ok.empty x c h1).2)
    · exact F.baseC x c h1
end Mine

namespace Mine
open PySem PySem.W PyProof.Rows
set_option linter.unusedVariables false
open PySem.Calls

variable {prog : Program} {w : World} {H0 : Heap} {d : Nat} {sc : Scope} {mg mb : Str → Option Value}

noncomputable def WaFrame (Wa : WA) (ns : List Str) : Prop := ∀ x ε σ P, Wa x ε σ P → Wa x ε σ fun ε' σ' => P ε' σ' ∧ ∀ z, z ∉ ns → ε' z = ε z
theorem waF_name {x : Str} : WaFrame (wStore x) [x] := fun v ε σ P h => ⟨h, fun z hz => by unfold Loc.set; rw [if_neg (by simpa using hz)]⟩
theorem waF_two {x y : Str} {n : Nat} : WaFrame (wUnpack n (wACons (wStore x) (wACons (wStore y) fun xs ε σ P => xs = [] ∧ P ε σ))) ([x] ++ ([y] ++ [])) := fun v ε σ P h => by
  obtain ⟨xs, h1, h2, a, as, h3, b, bs, h4, h5, h6⟩ := h
  refine ⟨xs, h1, h2, a, as, h3, b, bs, h4, h5, h6, fun z hz => ?_⟩
  simp at hz
  simp [Loc.set, hz]

theorem FR.weak {ρ : List Addr} {h : Heap} {env : Env} {ε ε0 : Loc} (F : FR H0 ρ h env ε) (hw : ∀ z v, ε0 z = some v → ε z = some v) : FR H0 ρ h env ε0 where
  kind := F.kind
  glob := F.glob
  bi := F.bi
  loc := let ⟨m, N, hm⟩ := F.loc; ⟨m, N, fun x v hx e => hm x v hx (hw x v e)⟩
  cel := fun x c e => let ⟨cv, C, hv⟩ := F.cel x c e; ⟨cv, C, fun hl v ev => hv hl v (hw x v ev)⟩
  has := F.has
  inj := F.inj
  baseL := F.baseL
  baseC := F.baseC

/-- what is neither a namespace nor a cell -/
noncomputable def Odd (h : Heap) (W : List Addr) : Prop := ∀ b ∈ W, ∀ o, h.get? b = some o → (∀ es ep, o.data ≠ .dict es ep) ∧ ∀ v, o.data ≠ .cell v
theorem FR.keepOdd {ρ : List Addr} {h h' : Heap} {env : Env} {ε : Loc} {W : List Addr} (F : FR H0 ρ h env ε) (ht : Tups h h') (ho : Odd h W) (k : ∀ b o, b ∉ W → h.get? b = some o → h'.get? b = some o) : FR H0 ρ h' env ε := by
  refine F.keepOwn (List.prefix_refl _) ht (fun o e => k _ o (fun hm => ?_) e) (fun x c e o eo => k _ o (fun hm => ?_) eo)
  · obtain ⟨m, ⟨o', es, ep, e', hd, _⟩, _⟩ := F.loc
    exact (ho _ hm o' e').1 es ep hd
  · obtain ⟨cv, ⟨o', e', hd⟩, _⟩ := F.cel x c e
    exact (ho _ hm o' e').2 cv hd
/-- what a frame writes is a namespace or a cell -/
theorem FR.wrs_kind {ρ : List Addr} {h : Heap} {env : Env} {ε : Loc} (F : FR H0 ρ h env ε) {ns : List Str} : ∀ a ∈ wrs env ns, ∃ o, h.get? a = some o ∧ ((∃ es ep, o.data = .dict es ep) ∨ ∃ v, o.data = .cell v) := fun a ha => by
  obtain ⟨x, _, hx⟩ := List.mem_flatMap.mp ha
  unfold wr at hx
  split at hx
  · simp at hx; subst hx
    obtain ⟨m, ⟨o', es, ep, e', hd, _⟩, _⟩ := F.loc
    exact ⟨o', e', .inl ⟨es, ep, hd⟩⟩
  · cases q : env.cells.lookup x with
    | none => rw [q] at hx; simp at hx
    | some c =>
      rw [q] at hx; simp at hx; subst hx
      obtain ⟨cv, ⟨o, e, hd⟩, _⟩ := F.cel x a q
      exact ⟨o, e, .inr ⟨cv, hd⟩⟩
theorem FR.off_wrs {ρ : List Addr} {h : Heap} {env : Env} {ε : Loc} (F : FR H0 ρ h env ε) {ns : List Str} {W : List Addr} (ho : Odd h W) : ∀ b ∈ W, b ∉ wrs env ns := fun b hb hm => by
  obtain ⟨o, e, hd⟩ := F.wrs_kind b hm
  rcases hd with ⟨es, ep, hd⟩ | ⟨v, hd⟩
  · exact (ho b hb o e).1 es ep hd
  · exact (ho b hb o e).2 v hd
theorem odd_itr {t : Expr} {I : Addr} {wr : List Addr} {xs : List V} {live : Sto → Prop} {ρ0 : List Addr} {St : Nat → Heap → Prop} (T : Itr prog w H0 t I wr xs live ρ0 St) {i : Nat} {h : Heap} (st : St i h) : Odd h wr := fun b hb o e => by
  obtain ⟨o', vs, e', hd⟩ := T.flds i h st b hb
  rw [e] at e'; cases e'
  exact ⟨fun es ep q => (by rw [hd] at q; cases q), fun v q => (by rw [hd] at q; cases q)⟩
theorem odd_list {h : Heap} {D : Addr} {vs : Array Value} (hl : h.PlainList D vs) : Odd h [D] := fun b hb o e => by
  simp at hb; subst hb
  obtain ⟨n, e'⟩ := hl
  rw [e] at e'; cases e'
  exact ⟨fun es ep q => (by cases q), fun v q => (by cases q)⟩

/-- a comprehension over its items -/
noncomputable def compL (live : Sto → Prop) (Wa : WA) (Wt : WT) (We : WE) (ε0 : Loc) : List V → List V → Sto → (List V → Sto → Prop) → Prop
  | [], acc, σ, P => live σ ∧ P acc σ
  | x :: xs, acc, σ, P => live σ ∧ Wa x ε0 σ fun ε1 σ1 => Wt ε1 σ1 fun b σ2 =>
      (b = true → We ε1 σ2 fun v σ3 => acc.length < 1000 ∧ compL live Wa Wt We ε0 xs (acc ++ [v]) σ3 P) ∧ (b = false → compL live Wa Wt We ε0 xs acc σ2 P)

theorem comp_core {A : Around} {env : Env} {s : Shared} {ρ : List Addr} {σ : Sto} {ε : Loc} {elt t e : Expr} {ifs : List Expr} {scope : Scope} {pos : Pos} {ns : List Str} {Wi : WI} {Wa : WA} {Wt : WT} {We : WE} {P : List V → Sto → Prop}
    {RR : Value → Addr → Result → Shared → Prop} (r : Room d A) (hs : env.scope = sc) (F : FR H0 ρ s.heap env ε) (R : HR H0 ρ σ s.heap)
    (hi : SndI prog w H0 d sc t e Wi) (ha : SndA prog w H0 d (relabelS scope sc) t ns Wa) (hfa : WaFrame Wa ns) (ht : SndIfs prog w H0 d (relabelS scope sc) ifs Wt) (he : SndE prog w H0 d (relabelS scope sc) elt We)
    (hok : scopeOk scope sc = true) (hk : scope.kind = .function) (hns : ∀ n ∈ ns, scope.names.lookup n = some .local ∨ scope.names.lookup n = some .cell)
    (hP : Wi ε σ fun xs live σ1 => compL live Wa Wt We (compLoc scope ε) xs [] σ1 P)
    (hRR : ∀ D C s' ρ' σ' acc (vs : List Value) m', Mv H0 [] ρ s ρ' σ' s' → s'.heap.PlainList D vs.toArray → VRs H0 ρ' s'.heap acc vs → acc.length ≤ 1000 → D ∉ ρ' → s.heap.get? D = none → s.heap.get? C = none → C ≠ D → C ∉ ρ' → s'.heap.Ns C m' → P acc σ' → RR (.ref D) C (.ok .next) s') :
    wpAny (model prog w) A (eval e env) (fun x s₁ => wpAny (model prog w) A (pyIter x) (fun it s₂ => wpAny (model prog w) A (newList []) (fun acc s₃ =>
      wpAny (model prog w) A (newFunctionEnv scope env.globals (clOf env scope.names []) [] env.qual none .none (some env)) (fun cenv s₄ =>
        codeAny (model prog w) A (.compStart (.ListComp elt [⟨t, e, ifs, 0⟩] scope pos) 0 it acc { cenv with scope := relabel scope env }) (RR acc cenv.locals) s₄) (fun _ _ => False) s₃) (fun _ _ => False) s₂) (fun _ _ => False) s₁) (fun _ _ => False) s := by
  refine wpAny_mono (hi A env s ρ σ ε _ r hs F R hP) (fun xv s1 h1 => wpAny_mono h1 (fun it s2 h2 => ?_) fun _ _ h => h) fun _ _ h => h
  obtain ⟨I, wr', xs, live, ρ2, σ2, St, rfl, m2, T, st, hwr, hP⟩ := h2
  refine wpAny_newList ?_
  generalize hD : s2.heap.objs.size = D
  have hDn : s2.heap.get? D = none := by rw [← hD]; exact get?_size_none _
  have k3 : ∀ b o, s2.heap.get? b = some o → (s2.heap.push { cls := .type "list", data := .seq ([] : List Value).toArray }).get? b = some o := fun b o e => Heap.get?_push_of_some _ e
  have hL3 : (s2.heap.push { cls := .type "list", data := .seq ([] : List Value).toArray }).PlainList D ([] : List Value).toArray := ⟨_, by rw [← hD]; exact Heap.get?_push_size _ rfl⟩
  generalize hH3 : s2.heap.push { cls := .type "list", data := .seq ([] : List Value).toArray } = H3 at k3 hL3 ⊢
  refine newCompEnv fun h4 hN4 kp4 ok4 => ?_
  dsimp only at hN4 kp4 ok4 ⊢
  have hlt : D < H3.objs.size := by rw [← hH3, Heap.size_push, hD]; exact Nat.lt_succ_self _
  have hge : s2.heap.objs.size ≤ H3.objs.size := by rw [hD]; exact Nat.le_of_lt hlt
  generalize hC : H3.objs.size = C at hN4 ok4 hlt hge ⊢
  have k4 : ∀ b o, s2.heap.get? b = some o → h4.get? b = some o := fun b o e => kp4 b o (k3 b o e)
  have m4 : Mv H0 [] ρ s ρ2 σ2 { s2 with heap := h4 } := m2.trans (Mv.grow (W := []) m2.hr s2.toks k4)
  have hCD : C ≠ D := Nat.ne_of_gt hlt
  have hL4 : h4.PlainList D ([] : List Value).toArray := let ⟨n, e⟩ := hL3; ⟨n, kp4 _ _ e⟩
  have fresh : ∀ b, C ≤ b → s.heap.get? b = none := fun b hb => m2.back (get?_ge_none (Nat.le_trans hge hb))
  generalize hcenv : ({ newEnv scope C env.globals (cellsFrom (C + 1) scope.names (clOf env scope.names [])) env.qual none .none (some env) builtinsNs with scope := relabel scope env } : Env) = cenv
  have hcl : cenv.locals = C := by rw [← hcenv]; rfl
  have hsc : cenv.scope = relabelS scope sc := by rw [← hcenv, ← hs]; rfl
  have F4 : FR H0 ρ2 h4 cenv (compLoc scope ε) :=
    comp_frame (F.mv R m2) m2.hr.keep (by rw [hs]; exact hok) hk rfl hcenv.symm hN4 k4 ok4 (get?_ge_none hge) (fun b hb => get?_ge_none (Nat.le_trans hge (Nat.le_of_succ_le hb))) (List.prefix_refl _)
  have hloc : ∀ n ∈ ns, compLoc scope ε n = none := fun n hn => by
    unfold compLoc
    rcases hns n hn with h | h <;> rw [h] <;> simp
  -- what the block writes was not there at the start
  have hwrs : ∀ b ∈ wrs cenv ns, s.heap.get? b = none := fun b hb => by
    obtain ⟨x, hx, hb⟩ := List.mem_flatMap.mp hb
    unfold wr at hb
    split at hb
    · simp at hb; subst hb; rw [hcl]; exact fresh C (Nat.le_refl _)
    · rename_i hnl
      have hcell : scope.names.lookup x = some .cell := by
        rcases hns x hx with h | h
        · exfalso
          apply hnl
          show cenv.scope.names.lookup x = _
          rw [← hcenv]
          exact lookup_relabel_local h
        · exact h
      cases q : cenv.cells.lookup x with
      | none => rw [q] at hb; simp at hb
      | some c =>
        rw [q] at hb; simp at hb; subst hb
        have hm := mem_of_lookup q
        rw [← hcenv] at hm
        have hm' : (x, b) ∈ cellsFrom (C + 1) scope.names (clOf env scope.names []) := hm
        rw [cellsFrom_append] at hm'
        rcases List.mem_append.mp hm' with hm' | hm'
        · exact fresh b (Nat.le_of_succ_le (ok4.empty x b hm').2)
        · exfalso
          -- a name taken from around is no name of the block's own: its cell would be hidden by the new one
          rcases clOf_mem _ _ _ _ hm' with h | ⟨_, h⟩
          · cases h
          · have := (scopeOk_free hok _ h rfl).1
            rw [hcell] at this; cases this
  have loop : codeAny (model prog w) A (.compLoop (.ListComp elt [⟨t, e, ifs, 0⟩] scope pos) 0 (.ref I) (.ref D) cenv) (RR (.ref D) C) { s2 with heap := h4 } := by
    refine codeAny_compLoop_any (fun n s' => ∃ (i : Nat) (ρ' : List Addr) (σ' : Sto) (acc : List V) (vs : List Value), Mv H0 [] ρ s ρ' σ' s' ∧ FR H0 ρ' s'.heap cenv (compLoc scope ε) ∧ St i s'.heap ∧ ρ2 <+: ρ' ∧ (∀ b ∈ wr', b ∉ ρ') ∧
        s'.heap.PlainList D vs.toArray ∧ VRs H0 ρ' s'.heap acc vs ∧ acc.length ≤ 1000 ∧ D ∉ ρ' ∧ i ≤ xs.length ∧ n = xs.length - i ∧ compL live Wa Wt We (compLoc scope ε) (xs.drop i) acc σ' P) ?_ xs.length
      ⟨0, ρ2, σ2, [], [], m4, F4, T.frame _ _ _ st fun b _ o e => k4 b o e, List.prefix_refl _, fun b hb => (hwr b hb).2, hL4, VRs.nil, by simp, m2.hr.notin_fresh hDn, Nat.zero_le _, rfl, hP⟩
    rintro n s3 ⟨i, ρ3, σ3, acc, vs, m3, F3, st3, pre3, off3, hL3, hv3, ha3, hD3, hi3, hn3, h3⟩
    have ok3 : WOk H0 ρ3 wr' s3.heap := itr_wok T st3 R (fun b hb => (hwr b hb).1) off3
    have odd3 := odd_itr T st3
    have hDwr : D ∉ wr' := fun hm => by
      obtain ⟨o, vs', e1, hd⟩ := T.flds i _ st3 D hm
      obtain ⟨n', e2⟩ := hL3
      rw [e1] at e2; cases e2; cases hd
    cases hx : xs[i]? with
    | none =>
      have hi : i = xs.length := by have := List.getElem?_eq_none_iff.mp hx; exact ar147 hi3 this
      subst hi
      rw [List.drop_length] at h3
      refine wpAny_mono (T.done A s3 ρ3 σ3 (fun s' => ∃ h' tk, s' = { s3 with heap := h', toks := tk } ∧ ∀ b o, b ∉ wr' → s3.heap.get? b = some o → h'.get? b = some o) r.hd pre3 m3.hr h3.1 st3 fun h' tk k => ⟨h', tk, rfl, k⟩) (fun rr s4 h4 => ?_) fun _ _ h => h
      obtain ⟨rfl, h', tk, rfl, k⟩ := h4
      have mE := m3.after ok3 (fun b hb => (hwr b hb).1) tk k
      have tu : Tups s3.heap h' := fun a o vs n e1 e2 e3 => k a o (fun hm => ok3.tup a hm o vs n e1 e2 e3) e1
      have FE := F3.keepOdd tu odd3 k
      obtain ⟨m', N', _⟩ := FE.loc
      rw [hcl] at N'
      exact hRR D C { s3 with heap := h', toks := tk } ρ3 σ3 acc vs m' mE (let ⟨n', e2⟩ := hL3; ⟨n', k _ _ hDwr e2⟩) (hv3.mono (List.prefix_refl _) tu) ha3 hD3 (m2.back hDn) (fresh C (Nat.le_refl _)) hCD (ns_notin mE.hr N') N' h3.2
    | some x =>
      have hlti := (List.getElem?_eq_some_iff.mp hx).1
      have hxe := (List.getElem?_eq_some_iff.mp hx).2
      rw [List.drop_eq_getElem_cons hlti, hxe] at h3
      refine wpAny_mono (T.next A s3 ρ3 σ3 i x (fun u s' => ∃ h' tk, s' = { s3 with heap := h', toks := tk } ∧ VR H0 ρ3 h' x u ∧ St (i + 1) h' ∧ ∀ b o, b ∉ wr' → s3.heap.get? b = some o → h'.get? b = some o) r.hd pre3 m3.hr h3.1 hx st3
        fun u h' tk hu st' k => ⟨h', tk, rfl, hu, st', k⟩) (fun rr s4 h4 => ?_) fun _ _ h => h
      obtain ⟨u, rfl, h4⟩ := h4
      refine wpAny_mono h4 (fun _ s5 h5 => ?_) fun _ _ h => h
      obtain ⟨h', tk, rfl, hu, st5, k⟩ := h5
      have m5 := m3.after ok3 (fun b hb => (hwr b hb).1) tk k
      have tu : Tups s3.heap h' := fun a o vs n e1 e2 e3 => k a o (fun hm => ok3.tup a hm o vs n e1 e2 e3) e1
      have F5 := F3.keepOdd tu odd3 k
      have hL5 : h'.PlainList D vs.toArray := let ⟨n', e2⟩ := hL3; ⟨n', k _ _ hDwr e2⟩
      have hv5 := hv3.mono (List.prefix_refl _) tu
      refine wpAny_mono (ha A cenv { s3 with heap := h', toks := tk } ρ3 σ3 (compLoc scope ε) u x _ r hsc F5 m5.hr hu (hfa _ _ _ _ h3.2)) (fun _ s6 hPq => ?_) fun _ _ h => h
      obtain ⟨ρ6, σ6, ε6, m6, F6, h6, hε6⟩ := hPq
      -- over a step that writes W: the iterator and the list stand
      have step : ∀ {ρa ρb : List Addr} {σa σb : Sto} {sa sb : Shared} {W : List Addr} {j : Nat}, St j sa.heap → sa.heap.PlainList D vs.toArray → HR H0 ρa σa sa.heap → WOk H0 ρa W sa.heap → Mv H0 W ρa sa ρb σb sb → (∀ b ∈ wr', b ∉ ρa) → D ∉ ρa → (∀ b ∈ wr', b ∉ W) → D ∉ W → VRs H0 ρa sa.heap acc vs →
          St j sb.heap ∧ sb.heap.PlainList D vs.toArray ∧ (∀ b ∈ wr', b ∉ ρb) ∧ D ∉ ρb ∧ VRs H0 ρb sb.heap acc vs := by
        intro ρa ρb σa σb sa sb W j sta hLa Ra Oa mm offa offD offW offDW hva
        have st' := T.frame _ _ _ sta fun b hb o e => mm.kp b o e fun hm => (List.mem_append.mp hm).elim (offa b hb) (offW b hb)
        refine ⟨st', let ⟨n', e2⟩ := hLa; ⟨n', mm.kp _ _ e2 fun hm => (List.mem_append.mp hm).elim offD offDW⟩, fun b hb hm => ?_, fun hm => ?_, hva.mono mm.pre (mm.tups Ra Oa)⟩
        · rcases mm.fresh b hm with q | q
          · exact offa b hb q
          · obtain ⟨vs, o, e, _, n, hd⟩ := mm.hr.isList hm
            exact T.notseq _ _ st' b hb o vs n e hd
        · rcases mm.fresh D hm with q | q
          · exact offD q
          · obtain ⟨n', e2⟩ := hLa
            rw [q] at e2; cases e2
      have odd5 : Odd h' wr' := odd_itr T st5
      obtain ⟨st6, hL6, off6, hD6, hv6⟩ := step (sa := { s3 with heap := h', toks := tk }) st5 hL5 m5.hr (F5.woks m5.hr ns) m6 off3 hD3 (F5.off_wrs odd5) (F5.off_wrs (odd_list hL5) D (by simp)) hv5
      have m36 : Mv H0 [] ρ s ρ6 σ6 s6 := by
        -- what was written is the block's own
        refine ⟨?_, m5.pre.trans m6.pre, fun a o e hn => ?_, fun a ha => (nomatch ha), fun a ha => ?_, m6.hr⟩
        · obtain ⟨h1, t1, e1⟩ := m5.eq
          obtain ⟨h2, t2, e2⟩ := m6.eq
          rw [e1] at e2
          exact ⟨h2, t2, e2⟩
        · have hρ : a ∉ ρ := fun q => hn (List.mem_append_left _ q)
          have e5 := m5.kp a o e (by simpa using hρ)
          refine m6.kp a o e5 fun hm => ?_
          rcases List.mem_append.mp hm with q | q
          · rcases m5.fresh a q with q | q
            · exact hρ q
            · rw [q] at e; cases e
          · rw [hwrs a q] at e; cases e
        · rcases m6.fresh a ha with q | q
          · exact m5.fresh a q
          · exact .inr (m5.back q)
      refine wpAny_mono (ht A cenv s6 ρ6 σ6 ε6 _ r hsc F6 m6.hr h6) (fun ok s7 hPq => ?_) fun _ _ h => h
      obtain ⟨ρ7, σ7, m7, h7⟩ := hPq
      obtain ⟨st7, hL7, off7, hD7, hv7⟩ := step st6 hL6 m6.hr .nil m7 off6 hD6 (fun b _ h => (nomatch h)) (fun h => (nomatch h)) hv6
      have m37 := m36.trans m7
      have F7 := F6.mv m6.hr m7
      have weak : ∀ {ρx : List Addr} {hx : Heap}, FR H0 ρx hx cenv ε6 → FR H0 ρx hx cenv (compLoc scope ε) := fun Fx => Fx.weak fun z v ez => by
        by_cases hz : z ∈ ns
        · rw [hloc z hz] at ez; cases ez
        · rw [hε6 z hz]; exact ez
      have pre7 := pre3.trans (m6.pre.trans m7.pre)
      cases ok with
      | false =>
        simp only [Bool.false_eq_true, if_false]
        exact ⟨xs.length - (i + 1), by exact ar148 hn3 hlti, i + 1, ρ7, σ7, acc, vs, m37, weak F7, st7, pre7, off7, hL7, hv7, ha3, hD7, by exact ar96 hlti, rfl, h7.2 rfl⟩
      | true =>
        simp only [if_true]
        refine (he A cenv s7 ρ7 σ7 ε6 _ r hsc F7 m7.hr (h7.1 rfl)).mono fun u8 s8 ρ8 σ8 v8 m8 hv8' h8 => ?_
        obtain ⟨st8, hL8, off8, hD8, hv8⟩ := step st7 hL7 m7.hr .nil m8 off7 hD7 (fun b _ h => (nomatch h)) (fun h => (nomatch h)) hv7
        have m38 := m37.trans m8
        have F8 := F7.mv m7.hr m8
        refine wpAny_list_append_plain hL8 (fun h9 hL9 hs9 => ?_) (by rw [sizeLine_eq]; simp [← hv8.1]; exact ar150 h8)
        have okD : WOk H0 ρ8 [D] s8.heap := by
          refine ⟨fun a hm o vs' n' e1 e2 e3 => ?_, fun a hm => ?_, fun a hm => ?_⟩ <;> (simp only [List.mem_singleton] at hm; subst hm)
          · obtain ⟨n'', e4⟩ := hL8
            rw [e1] at e4; cases e4; simp at e2
          · cases q : H0.get? a with
            | none => rfl
            | some o => have := R.keep a o q; rw [m2.back hDn] at this; cases this
          · exact hD8
        have k9 : ∀ b o, b ∉ [D] → s8.heap.get? b = some o → h9.get? b = some o := fun b o hb e => hs9.extBut b o (by simpa using hb) e
        have m9 := m38.after okD (fun b hb => by simp at hb; subst hb; exact m2.back hDn) s8.toks k9
        have tu9 : Tups s8.heap h9 := fun a o vs n e1 e2 e3 => k9 a o (fun hm => okD.tup a hm o vs n e1 e2 e3) e1
        have hDwr8 : ∀ b ∈ wr', b ∉ [D] := fun b hb hm => by simp at hm; subst hm; exact hDwr hb
        refine ⟨xs.length - (i + 1), by exact ar148 hn3 hlti, i + 1, ρ8, σ8, acc ++ [v8], vs ++ [u8], m9, weak (F8.keepOdd tu9 (odd_list hL8) k9), T.frame _ _ _ st8 fun b hb o e => k9 b o (hDwr8 b hb) e, pre7.trans m8.pre, off8, by simpa using hL9,
          (hv8.append (VRs.cons hv8' VRs.nil)).mono (List.prefix_refl _) tu9, by have := h8.1; simp; exact ar151 h8, hD8, by exact ar96 hlti, rfl, h8.2⟩
  rw [show (newEnv scope C env.globals (cellsFrom (C + 1) scope.names (clOf env scope.names [])) env.qual none .none (some env) builtinsNs).locals = C from rfl]
  exact codeAny_compStart_list loop (T.self A { s2 with heap := h4 } 0 _ _ (T.frame _ _ _ st fun b _ o e => k4 b o e) loop)
end Mine

namespace Mine
open PySem PySem.W PyProof.Rows
set_option linter.unusedVariables false
open PySem.Calls

variable {prog : Program} {w : World} {H0 : Heap} {d : Nat} {sc : Scope} {mg mb : Str → Option Value}

theorem ns_wok {ρ : List Addr} {σ σ' : Sto} {h h0 : Heap} {ρ0 : List Addr} {C : Addr} {m : Str → Option Value} (R : HR H0 ρ σ h) (R0 : HR H0 ρ0 σ' h0) (N : h.Ns C m) (hf : h0.get? C = none) : WOk H0 ρ [C] h := by
  refine ⟨fun a hm o vs' n' e1 e2 e3 => ?_, fun a hm => ?_, fun a hm => ?_⟩ <;> (simp only [List.mem_singleton] at hm; subst hm)
  · exact ns_notseq N o vs' n' e1 e3
  · cases q : H0.get? a with
    | none => rfl
    | some o => have := R0.keep a o q; rw [hf] at this; cases this
  · exact ns_notin R N

noncomputable def wComp (scope : Scope) (Wi : WI) (Wa : WA) (Wt : WT) (We : WE) : WE := fun ε σ P => Wi ε σ fun xs live σ1 => compL live Wa Wt We (compLoc scope ε) xs [] σ1 fun acc σ2 => P (.ref σ2.length) (σ2 ++ [acc])

theorem snd_comp {elt t e : Expr} {ifs : List Expr} {scope : Scope} {pos : Pos} {ns : List Str} {Wi : WI} {Wa : WA} {Wt : WT} {We : WE}
    (hi : SndI prog w H0 d sc t e Wi) (ha : SndA prog w H0 d (relabelS scope sc) t ns Wa) (hfa : WaFrame Wa ns) (ht : SndIfs prog w H0 d (relabelS scope sc) ifs Wt) (he : SndE prog w H0 d (relabelS scope sc) elt We)
    (hok : scopeOk scope sc = true) (hk : scope.kind = .function) (hns : ∀ n ∈ ns, scope.names.lookup n = some .local ∨ scope.names.lookup n = some .cell) (hset : ∀ env x, foldedSetIterable e env x = pure x) :
    SndE prog w H0 d sc (.ListComp elt [⟨t, e, ifs, 0⟩] scope pos) (wComp scope Wi Wa Wt We) := by
  intro A env s ρ σ ε P r hs F R hP
  unfold Giv
  rw [eval_ListComp]
  refine wpAny_comprehension_free (use := none) rfl (hset env) (clos_eq fun n hn => ?_) hk (scopeOk_local hok)
    (comp_core (RR := fun acc C => compPost (model prog w) A (fun _ _ => False) none _ acc C) r hs F R hi ha hfa ht he hok hk hns hP ?_)
  · obtain ⟨_, h2⟩ := scopeOk_free hok _ hn rfl
    exact F.has n (by unfold Env.kindOf; rw [hs]; exact h2)
  · intro D C s' ρ' σ' acc vs m' m hL hv hlen hD hDf hCf hCD hC N hP
    refine ⟨m', N, fun h' hs' => ?_⟩
    have ok := ns_wok m.hr R N hCf
    have k : ∀ b o, b ∉ [C] → s'.heap.get? b = some o → h'.get? b = some o := fun b o hb e => hs'.extBut b o (by simpa using hb) e
    have m2 := m.after ok (fun b hb => by simp only [List.mem_singleton] at hb; subst hb; exact hCf) s'.toks k
    have tu : Tups s'.heap h' := fun a o vs n e1 e2 e3 => k a o (fun hm => ok.tup a hm o vs n e1 e2 e3) e1
    have hL' : h'.PlainList D vs.toArray := let ⟨n, e⟩ := hL; ⟨n, k _ _ (by simpa using Ne.symm hCD) e⟩
    have := m2.adopt R hL' (hv.mono (List.prefix_refl _) tu) hD hDf hlen
    exact ⟨_, _, _, this.1, this.2, hP⟩

noncomputable def wCompS (y : Str) (scope : Scope) (Wi : WI) (Wa : WA) (Wt : WT) (We : WE) : WS := fun ε σ P => Wi ε σ fun xs live σ1 => compL live Wa Wt We (compLoc scope ε) xs [] σ1 fun acc σ2 => P .next (ε.set y (.ref σ2.length)) (σ2 ++ [acc])

theorem snd_assign_comp {elt t e : Expr} {ifs : List Expr} {scope : Scope} {pos py spos : Pos} {y : Str} {ns : List Str} {Wi : WI} {Wa : WA} {Wt : WT} {We : WE}
    (hi : SndI prog w H0 d sc t e Wi) (ha : SndA prog w H0 d (relabelS scope sc) t ns Wa) (hfa : WaFrame Wa ns) (ht : SndIfs prog w H0 d (relabelS scope sc) ifs Wt) (he : SndE prog w H0 d (relabelS scope sc) elt We)
    (hok : scopeOk scope sc = true) (hk : scope.kind = .function) (hns : ∀ n ∈ ns, scope.names.lookup n = some .local ∨ scope.names.lookup n = some .cell) (hset : ∀ env x, foldedSetIterable e env x = pure x)
    (hsw : ∀ env, env.scope = sc → swapsWith (.ListComp elt [⟨t, e, ifs, 0⟩] scope pos) (some (.Name y py)) spos.line env = pure true) (hy : sc.names.lookup y = some .local) :
    SndS prog w H0 d sc (.Assign [.Name y py] (.ListComp elt [⟨t, e, ifs, 0⟩] scope pos) spos) (wCompS y scope Wi Wa Wt We) := by
  intro A env s ρ σ ε P r hs F R hP
  have hy' : env.kindOf y = some .local := by unfold Env.kindOf; rw [hs]; exact hy
  unfold Run
  rw [exec_Assign_Name_used _ _ _ _ (hsw env hs)]
  refine wpAny_bind (wpAny_standAt (wpAny_bind ?_))
  show wpAny _ A (do let _ ← comprehension (.ListComp elt [⟨t, e, ifs, 0⟩] scope pos) scope env _ (newList []) false (eval e env) (some (assign (.Name y py) env))) _ _ s
  refine wpAny_bind (wpAny_mono (wpAny_comprehension_free (E := fun _ _ => False) (use := some (assign (.Name y py) env)) (Q := fun _ s' => ∃ ρ' σ' ε' fl, Mv H0 (own env) ρ s ρ' σ' s' ∧ FR H0 ρ' s'.heap env ε' ∧ FlR H0 ρ' s'.heap fl .next ∧ P fl ε' σ') rfl (hset env) (clos_eq fun n hn => ?_) hk (scopeOk_local hok)
    (comp_core (RR := fun acc C => compPost (model prog w) A (fun _ _ => False) (some (assign (.Name y py) env)) _ acc C) r hs F R hi ha hfa ht he hok hk hns hP ?_)) (fun _ s' hq => wpAny_pure (wpAny_pure hq)) fun _ _ h => h)
  · obtain ⟨_, h2⟩ := scopeOk_free hok _ hn rfl
    exact F.has n (by unfold Env.kindOf; rw [hs]; exact h2)
  · intro D C s' ρ' σ' acc vs m' m hL hv hlen hD hDf hCf hCD hC N hP
    show wpAny _ A (assign (.Name y py) env (.ref D)) _ _ _
    have ma := m.adopt R hL hv hD hDf hlen
    have F1 := F.mv R ma.1
    refine wpAny_assign_Name (store_ok F1 ma.1.hr ma.2 (.inl hy') fun s2 m2 F2 => ?_)
    have hwr : wr env y = [env.locals] := by unfold wr; rw [if_pos hy']
    have hCL : C ≠ env.locals := by
      rintro rfl
      obtain ⟨mm, ⟨o, _, _, e1, _⟩, _⟩ := F.loc
      rw [hCf] at e1; cases e1
    have N2 : s2.heap.Ns C m' := Ns.keep1 N fun o e1 => m2.kp C o e1 fun hm => by
      rcases List.mem_append.mp hm with hm | hm
      · rcases List.mem_append.mp hm with hm | hm
        · exact hC hm
        · simp at hm; exact hCD hm
      · rw [hwr] at hm; simp at hm; exact hCL hm
    refine ⟨m', N2, fun h' hs' => ?_⟩
    have m3 : Mv H0 (own env) ρ s (ρ' ++ [D]) (σ' ++ [acc]) s2 := ma.1.weak0.trans (m2.weak wr_own)
    have ok := ns_wok m3.hr R N2 hCf
    have k : ∀ b o, b ∉ [C] → s2.heap.get? b = some o → h'.get? b = some o := fun b o hb e => hs'.extBut b o (by simpa using hb) e
    have hfr : ∀ b ∈ [C], s.heap.get? b = none := fun b hb => by simp only [List.mem_singleton] at hb; subst hb; exact hCf
    have m4 := m3.after ok hfr s2.toks k
    have tu : Tups s2.heap h' := fun a o vs n e1 e2 e3 => k a o (fun hm => ok.tup a hm o vs n e1 e2 e3) e1
    exact ⟨_, _, _, .next, m4, FR.past F F2 tu hfr k, .next, hP⟩

theorem Mv.drop {W : List Addr} {ρ ρ1 ρ2 : List Addr} {σ1 σ2 : Sto} {s s1 s2 : Shared} (a : Mv H0 [] ρ s ρ1 σ1 s1) (b : Mv H0 W ρ1 s1 ρ2 σ2 s2) (hW : ∀ x ∈ W, s.heap.get? x = none) : Mv H0 [] ρ s ρ2 σ2 s2 := by
  refine ⟨?_, a.pre.trans b.pre, fun x o e hn => ?_, fun x hx => (nomatch hx), fun x hx => ?_, b.hr⟩
  · obtain ⟨h1, t1, e1⟩ := a.eq
    obtain ⟨h2, t2, e2⟩ := b.eq
    rw [e1] at e2
    exact ⟨h2, t2, e2⟩
  · have hρ : x ∉ ρ := fun q => hn (List.mem_append_left _ q)
    refine b.kp x o (a.kp x o e (by simpa using hρ)) fun hm => ?_
    rcases List.mem_append.mp hm with q | q
    · rcases a.fresh x q with q | q
      · exact hρ q
      · rw [q] at e; cases e
    · rw [hW x q] at e; cases e
  · rcases b.fresh x hx with q | q
    · exact a.fresh x q
    · exact .inr (a.back q)

noncomputable def post (P : PV) : PS := fun fl _ σ => match fl with | .ret v => P v σ | _ => P .none σ
noncomputable def locOf (ps : List Str) (vs : List V) : Loc := wStores ps vs fun _ => none

theorem bindL_ok {ρ : List Addr} {h : Heap} {kd : Str → Option NameKind} : ∀ (ps : List Str) (vs : List V) (us : List Value) (m : Str → Option Value) (ε : Loc), VRs H0 ρ h vs us →
    (∀ x v, kd x = some .local → ε x = some v → ∃ u, m x = some u ∧ VR H0 ρ h v u) → ∀ x v, kd x = some .local → wStores ps vs ε x = some v → ∃ u, bindL kd (ps.zip us) m x = some u ∧ VR H0 ρ h v u
  | [], vs, us, m, ε, hv, hm, x, v, hk, e => by
    have : wStores [] vs ε = ε := by cases vs <;> rfl
    rw [this] at e
    simpa [bindL] using hm x v hk e
  | p :: ps, [], us, m, ε, hv, hm, x, v, hk, e => by
    have : us = [] := by cases us with | nil => rfl | cons _ _ => simp [VRs] at hv
    subst this
    simpa [bindL] using hm x v hk e
  | p :: ps, y :: vs, [], m, ε, hv, hm, x, v, hk, e => by simp [VRs] at hv
  | p :: ps, y :: vs, u :: us, m, ε, hv, hm, x, v, hk, e => by
    simp only [List.zip_cons_cons, bindL]
    simp only [wStores] at e
    split
    · rename_i hl
      refine bindL_ok ps vs us _ _ hv.tail (fun z w hz ez => ?_) x v hk e
      by_cases hzp : z = p
      · subst hzp; simp [Loc.set] at ez; subst ez; exact ⟨u, by simp, hv.head⟩
      · simp only [Loc.set, if_neg hzp] at ez
        obtain ⟨u', h1, h2⟩ := hm z w hz ez
        exact ⟨u', by simp [hzp, h1], h2⟩
    · rename_i hl
      refine bindL_ok ps vs us _ _ hv.tail (fun z w hz ez => ?_) x v hk e
      have hzp : z ≠ p := fun q => hl (q ▸ hz)
      simp only [Loc.set, if_neg hzp] at ez
      exact hm z w hz ez
theorem bindC_ok {ρ : List Addr} {h : Heap} {kd : Str → Option NameKind} : ∀ (ps : List Str) (vs : List V) (us : List Value) (m : Str → Option Value) (ε : Loc), VRs H0 ρ h vs us →
    (∀ x v, kd x ≠ some .local → ε x = some v → ∃ u, m x = some u ∧ VR H0 ρ h v u) → ∀ x v, kd x ≠ some .local → wStores ps vs ε x = some v → ∃ u, bindC kd (ps.zip us) m x = some u ∧ VR H0 ρ h v u
  | [], vs, us, m, ε, hv, hm, x, v, hk, e => by
    have : wStores [] vs ε = ε := by cases vs <;> rfl
    rw [this] at e
    simpa [bindC] using hm x v hk e
  | p :: ps, [], us, m, ε, hv, hm, x, v, hk, e => by
    have : us = [] := by cases us with | nil => rfl | cons _ _ => simp [VRs] at hv
    subst this
    simpa [bindC] using hm x v hk e
  | p :: ps, y :: vs, [], m, ε, hv, hm, x, v, hk, e => by simp [VRs] at hv
  | p :: ps, y :: vs, u :: us, m, ε, hv, hm, x, v, hk, e => by
    simp only [List.zip_cons_cons, bindC]
    simp only [wStores] at e
    split
    · rename_i hl
      refine bindC_ok ps vs us _ _ hv.tail (fun z w hz ez => ?_) x v hk e
      have hzp : z ≠ p := fun q => hz (q ▸ hl)
      simp only [Loc.set, if_neg hzp] at ez
      exact hm z w hz ez
    · rename_i hl
      refine bindC_ok ps vs us _ _ hv.tail (fun z w hz ez => ?_) x v hk e
      by_cases hzp : z = p
      · subst hzp; simp [Loc.set] at ez; subst ez; exact ⟨u, by simp, hv.head⟩
      · simp only [Loc.set, if_neg hzp] at ez
        obtain ⟨u', h1, h2⟩ := hm z w hz ez
        exact ⟨u', by simp [hzp, h1], h2⟩

/-- a function's call, seen from anywhere -/
theorem call_ok (Wh : Wd prog H0 mg mb) {a : Addr} {o : Obj} {name : Str} {params : Arguments} {body : List Stmt} {scope : Scope} {pm cd doc : Value} {ps : List Str} {W : WS}
    (ho : H0.get? a = some o) (hdata : o.data = .func (docDef name params body scope pm cd doc)) (hcd : H0.CodeRec cd name) (hb : SndB prog w H0 d scope body W)
    (hbind : ∀ us : List Value, us.length = ps.length → bindArgs (docDef name params body scope pm cd doc) ⟨us, []⟩ = pure (ps.zip us)) (hkinds : ∀ p ∈ ps, scope.names.lookup p = some .local ∨ scope.names.lookup p = some .cell)
    (hc : scopeOk scope scope = true ∨ ∀ x ∈ scope.names, x.2 ≠ .free) (hco : scope.isCoroutine = false) (hgen : scope.isGenerator = false) (hk : scope.kind = .function) (hfree : ∀ x ∈ scope.names, x.2 ≠ .free)
    {A : Around} {s : Shared} {ρ : List Addr} {σ : Sto} {vs : List V} {us : List Value} {P : PV} (r : RoomC (d + 1) A) (R : HR H0 ρ σ s.heap) (hv : VRs H0 ρ s.heap vs us) (hl : vs.length = ps.length) (hP : W (locOf ps vs) σ (post P)) :
    Giv prog w H0 A (call (.ref a) us []) ρ s P := by
  have hul : us.length = ps.length := by rw [← hv.1]; exact hl
  refine wpAny_call ?_
  refine call_cells_ret (by have := r.dep; have h2 : recursionLimit = 1000 := rfl; exact ar152 this h2) (R.keep _ _ ho) hdata (Wh.nolimit.keeps R.keep) (hcd.keeps R.keep) (hbind us hul) (fun x hx => ?_) (fun h₁ tk Fx X => ?_) hco hgen hk
  · have hx1 : x.1 ∈ ps := (List.of_mem_zip (a := x.1) (b := x.2) hx).1
    rcases hkinds _ hx1 with h | h
    · exact .inl h
    · obtain ⟨c, hc⟩ := cellsFrom_has _ (s.heap.objs.size + 1) x.1 (mem_of_lookup h)
      obtain ⟨c', hc'⟩ := lookup_of_mem hc
      exact .inr ⟨h, by rw [hc']; rfl⟩
  · generalize henv : envOfC name scope s.heap.objs.size a cd = env at Fx X ⊢
    have e1 : env.locals = s.heap.objs.size := by rw [← henv]; rfl
    have e2 : env.cells = cellsFrom (s.heap.objs.size + 1) scope.names [] := by rw [← henv]; rfl
    have e3 : env.scope = scope := by rw [← henv]; rfl
    have e4 : env.kindOf = fun x => scope.names.lookup x := by rw [← henv]; rfl
    have kp : ∀ b o, s.heap.get? b = some o → h₁.get? b = some o := Fx.keep
    have m1 : Mv H0 [] ρ s ρ σ { s with heap := h₁, toks := tk } := Mv.grow R tk kp
    have hv1 : VRs H0 ρ h₁ vs us := hv.mono (List.prefix_refl _) (tups_of kp)
    have base : ∀ b, s.heap.objs.size ≤ b → H0.get? b = none := fun b hb => by
      cases q : H0.get? b with
      | none => rfl
      | some o => have := R.keep b o q; rw [get?_ge_none hb] at this; cases this
    have F : FR H0 ρ h₁ env (locOf ps vs) := by
      refine ⟨by rw [e3]; exact hk, by rw [← henv]; rfl, by rw [← henv]; rfl, ⟨_, by rw [e1]; exact Fx.ns, ?_⟩, fun x c e => ?_, fun x hx => ?_, fun x y c h1 h2 => ?_, by rw [e1]; exact base _ (Nat.le_refl _), fun x c e => ?_⟩
      · exact bindL_ok ps vs us _ _ hv1 (fun x v _ e => by cases e)
      · rw [e2] at e
        refine ⟨_, X.cell x c e, fun hl v ev => bindC_ok ps vs us _ _ hv1 (fun x v _ e => by cases e) x v hl ev⟩
      · rw [e2]
        rcases hx with hx | hx
        · rw [e4] at hx
          obtain ⟨c, hc⟩ := cellsFrom_has _ (s.heap.objs.size + 1) x (mem_of_lookup hx)
          exact lookup_of_mem hc
        · rw [e4] at hx
          exact absurd rfl (hfree _ (mem_of_lookup hx))
      · rw [e2] at h1 h2
        exact name_of_addr X.apart (mem_of_lookup h1) (mem_of_lookup h2)
      · rw [e2] at e
        exact base _ (Nat.le_of_lt (X.above x c (mem_of_lookup e)))
    have rd : Room d (A.deeper env) := r.deeper env (by rw [e3]; exact hgen) (by rw [e3]; exact hco) (by rw [← henv]; rfl) (by rw [← henv]; rfl)
    refine wpAny_mono (hb (A.deeper env) env { s with heap := h₁, toks := tk } ρ σ _ _ rd e3 F m1.hr hP) (fun f s2 hPq => ?_) fun _ _ h => h
    obtain ⟨ρ2, σ2, ε2, fl, m2, F2, hf, h2⟩ := hPq
    have hown : ∀ x ∈ own env, s.heap.get? x = none := fun x hx => by
      rcases List.mem_cons.mp hx with rfl | hx
      · rw [e1]; exact get?_size_none _
      · obtain ⟨y, _, hy⟩ := List.mem_flatMap.mp hx
        cases q : env.cells.lookup y with
        | none => rw [q] at hy; simp at hy
        | some c =>
          rw [q] at hy; simp at hy; subst hy
          rw [e2] at q
          exact get?_ge_none (Nat.le_of_lt (X.above y x (mem_of_lookup q)))
    have m := m1.drop m2 hown
    cases hf with
    | ret hv => exact ⟨ρ2, σ2, _, m, hv, h2⟩
    | next => exact ⟨ρ2, σ2, .none, m, .none, h2⟩
    | brk => exact ⟨ρ2, σ2, .none, m, .none, h2⟩
    | cont => exact ⟨ρ2, σ2, .none, m, .none, h2⟩
end Mine

namespace Mine
open PySem PySem.W PyProof.Rows
set_option linter.unusedVariables false
set_option maxRecDepth 100000
open PySem.Calls

/-- the statement at a place -/
noncomputable def stAt : Nat → List Stmt → Stmt
  | _, [] => .Pass default
  | 0, s :: _ => s
  | n + 1, _ :: r => stAt n r

noncomputable abbrev pg : Program := PySem.Challenge.rw_sa0106_01.row.prog

/-- what the walk knows of the program -/
structure Cx (w : World) (H0 : Heap) (mg mb : Str → Option Value) : Prop where
  wd : Wd pg H0 mg mb
  made : ∀ d ∈ (recsOf vw).map itemOf, d.Made 0 mg H0
  free : ∀ x, x ∉ namesW vw [] → x ∉ bootMainNames → mg x = none
  r0 : Stands H0 mg (Str.ofString "R0") (.tup [.int 0, .int 1])
  r1 : Stands H0 mg (Str.ofString "R1") (.tup [.int 1, .int 1])

variable {w : World} {H0 : Heap} {mg mb : Str → Option Value}

theorem fn_of (X : Cx w H0 mg mb) {i k d : Nat} {name bind : Str} {args : Arguments} {body : List Stmt} {decs : List Expr} {ret : Option Expr} {tps : List TypeParam} {sc : Scope} {tsc : Option Scope} {pos : Pos} {W : WS} {C : Con} {ps : List Str}
    (hst : stAt i vw.main.body = .FunctionDef name args body decs ret tps sc tsc bind pos) (hps : ps = args.args.map (·.arg))
    (hrec : ((recsOf vw).map itemOf)[k]? = some ⟨name, args, body, sc, pos⟩) (hdef : args.defaults = [])
    (hb : SndB pg w H0 d sc body W)
    (hbind : ∀ (pm cd doc : Value) (us : List Value), us.length = ps.length → bindArgs (docDef name args body sc pm cd doc) ⟨us, []⟩ = pure (ps.zip us)) (hkinds : ps.all (fun p => sc.names.lookup p == some .local || sc.names.lookup p == some .cell) = true)
    (hco : sc.isCoroutine = false) (hgen : sc.isGenerator = false) (hk : sc.kind = .function) (hfree : sc.names.all (fun x => x.2 != .free) = true)
    (hC : ∀ vs σ P, C vs σ P → vs.length = ps.length ∧ W (locOf ps vs) σ (post P)) : FnOk pg w H0 mg (d + 1) name C := by
  obtain ⟨a, c', o, pm, doc, _, _, h1, h2, h3, h4⟩ := (X.made _ (List.mem_of_getElem? hrec)).plain hdef
  refine ⟨a, o, _, h1, h2, h3, fun A s ρ σ vs us P r R hv hc => ?_⟩
  obtain ⟨hl, hw⟩ := hC vs σ P hc
  refine call_ok X.wd h2 h3 h4 hb (hbind _ _ _) (fun p hp => ?_) ?_ hco hgen hk (fun x hx => ?_) r.toC R hv hl hw
  · have := List.all_eq_true.mp hkinds p hp
    simpa using this
  · exact .inr fun x hx => by have := List.all_eq_true.mp hfree x hx; simpa using this
  · have := List.all_eq_true.mp hfree x hx; simpa using this

theorem ofString_inj {a b : String} : (Str.ofString a = Str.ofString b) = (a = b) := by
  apply propext
  constructor
  · intro h
    rw [Str.ofString_eq_toList, Str.ofString_eq_toList] at h
    have h2 := congrArg (fun s : Str => s.cps.toList) h
    simp only at h2
    have h3 : a.toList = b.toList := List.map_inj_right (f := Char.toNat) (fun x y e => Char.toNat_inj.mp e) |>.mp (by simpa using h2)
    exact String.toList_inj.mp h3
  · rintro rfl; rfl

noncomputable def tgtNames : List Expr → List Str
  | [] => []
  | .Name x _ :: r => x :: tgtNames r
  | _ :: r => tgtNames r
theorem tgt_nil : tgtNames [] = [] := rfl
theorem tgt_cons {x : Str} {p : Pos} {r : List Expr} : tgtNames (.Name x p :: r) = x :: tgtNames r := rfl
theorem snd_swapN {prog : Program} {d : Nat} {sc : Scope} {elts : List Expr} {k : Nat} {tpos pos : Pos} {e : Expr} {We : WE} (he : SndE prog w H0 d sc e We) (hk : (tgtNames elts).all (fun n => sc.names.lookup n == some .local || sc.names.lookup n == some .cell) = true)
    (hsw : ∀ env, env.scope = sc → swapsWithSole [.Tuple elts k tpos] e pos.line env = pure false) (hsw2 : ∀ env, env.scope = sc → swappedStores [.Tuple elts k tpos] e env = pure (some (tgtNames elts))) :
    SndS prog w H0 d sc (.Assign [.Tuple elts k tpos] e pos) (wSwap We (tgtNames elts)) :=
  snd_swap he (fun n hn => by have := List.all_eq_true.mp hk n hn; simpa using this) hsw hsw2
theorem free_len (X : Cx w H0 mg mb) : mg (Str.ofString "len") = none := X.free _ (by decide +kernel) (by decide +kernel)
theorem free_range (X : Cx w H0 mg mb) : mg (Str.ofString "range") = none := X.free _ (by decide +kernel) (by decide +kernel)
theorem free_sum (X : Cx w H0 mg mb) : mg (Str.ofString "sum") = none := X.free _ (by decide +kernel) (by decide +kernel)
theorem free_abs (X : Cx w H0 mg mb) : mg (Str.ofString "abs") = none := X.free _ (by decide +kernel) (by decide +kernel)
theorem free_int (X : Cx w H0 mg mb) : mg (Str.ofString "int") = none := X.free _ (by decide +kernel) (by decide +kernel)
theorem free_list (X : Cx w H0 mg mb) : mg (Str.ofString "list") = none := X.free _ (by decide +kernel) (by decide +kernel)
theorem free_min (X : Cx w H0 mg mb) : mg (Str.ofString "min") = none := X.free _ (by decide +kernel) (by decide +kernel)
theorem free_max (X : Cx w H0 mg mb) : mg (Str.ofString "max") = none := X.free _ (by decide +kernel) (by decide +kernel)
theorem free_enumerate (X : Cx w H0 mg mb) : mg (Str.ofString "enumerate") = none := X.free _ (by decide +kernel) (by decide +kernel)
/-- the goal hidden while a hypothesis is taken apart -/
theorem hide {A B : Prop} (h : ∀ G : Prop, (B → G) → A → G) : A → B := h B id
theorem seq_cut {S R : WS} {ε : Loc} {σ : Sto} {P : PS} (h : ∀ T, T = R → wSeq S T ε σ P) : wSeq S R ε σ P := h R rfl
theorem cut2 {R S T : WS} {G : Prop} (e : R = wSeq S T) (h : ∀ T', T' = T → R = wSeq S T' → G) : G := h T rfl e
theorem cutR {R T : WS} {ε : Loc} {σ : Sto} {P : PS} (e : R = T) (h : T ε σ P) : R ε σ P := e ▸ h
theorem for_cut {live : Sto → Prop} {Wa : WA} {S R : WS} {xs : List V} {ε : Loc} {σ : Sto} {P : PS} (h : ∀ T, T = R → forL live Wa (wSeq S T) xs ε σ P) : forL live Wa (wSeq S R) xs ε σ P := h R rfl
theorem while_cut {C : WT} {S R : WS} {ε : Loc} {σ : Sto} {P : PS} (h : ∀ T, T = R → wWhile C (wSeq S T) ε σ P) : wWhile C (wSeq S R) ε σ P := h R rfl
theorem len0 {P : List Value → Prop} (h : P []) (us : List Value) (e : us.length = 0) : P us := by
  cases List.eq_nil_of_length_eq_zero e; exact h
theorem lenS {P : List Value → Prop} {n : Nat} (h : ∀ a us, us.length = n → P (a :: us)) (us : List Value) (e : us.length = n + 1) : P us := by
  cases us with
  | nil => exact Nat.noConfusion e
  | cons a us => exact h a us (Nat.succ.inj e)
theorem ofLen1 {P : List Value → Prop} (h : ∀ a, P [a]) : ∀ us : List Value, us.length = 1 → P us := lenS fun a => len0 (h a)
theorem ofLen2 {P : List Value → Prop} (h : ∀ a b, P [a, b]) : ∀ us : List Value, us.length = 2 → P us := lenS fun a => lenS fun b => len0 (h a b)
theorem ofLen3 {P : List Value → Prop} (h : ∀ a b c, P [a, b, c]) : ∀ us : List Value, us.length = 3 → P us := lenS fun a => lenS fun b => lenS fun c => len0 (h a b c)
theorem ofLen4 {P : List Value → Prop} (h : ∀ a b c d, P [a, b, c, d]) : ∀ us : List Value, us.length = 4 → P us := lenS fun a => lenS fun b => lenS fun c => lenS fun e => len0 (h a b c e)

/-! side conditions as one Bool each: the kernel alone reads them -/
noncomputable def nmD (x : Str) : Bool := !(x == Str.ofString "__debug__") && !(x == Str.ofString "__classdict__")
noncomputable def nm2 (sc : Scope) (x : Str) : Bool := sc.names.lookup x == some .local || sc.names.lookup x == some .cell
noncomputable def nm3 (sc : Scope) (x : Str) : Bool := (nm2 sc x || sc.names.lookup x == some .free) && nmD x
noncomputable def nmA (sc : Scope) (x : Str) : Bool := sc.names.lookup x == some .local && nmD x
noncomputable def gl1 (sc : Scope) (x : Str) : Bool := sc.names.lookup x == some .globalImplicit && !(x == Str.ofString "__debug__")
section
variable {prog : Program} {d : Nat} {sc : Scope} {x : Str} {pos p : Pos}
theorem nm2_ok (h : nm2 sc x = true) : sc.names.lookup x = some .local ∨ sc.names.lookup x = some .cell := by
  unfold nm2 at h; simpa using h
theorem nmD_ok (h : nmD x = true) : (x == Str.ofString "__debug__") = false ∧ (x == Str.ofString "__classdict__") = false := by
  unfold nmD at h; simpa [and_comm] using h
theorem gl1_ok (h : gl1 sc x = true) : sc.names.lookup x = some .globalImplicit ∧ (x == Str.ofString "__debug__") = false := by
  unfold gl1 at h; simpa using h
theorem n_name (h : nm3 sc x = true) : SndE prog w H0 d sc (.Name x pos) (wName x) := by
  unfold nm3 at h
  obtain ⟨h1, h2⟩ := (Bool.and_eq_true _ _).mp h
  refine snd_name ?_ (nmD_ok h2).1 (nmD_ok h2).2
  rcases (Bool.or_eq_true _ _).mp h1 with h | h
  · exact (nm2_ok h).elim .inl fun h => .inr (.inl h)
  · exact .inr (.inr (by simpa using h))
theorem n_tgt (h : nm2 sc x = true) : SndA prog w H0 d sc (.Name x pos) [x] (wStore x) := sndA_name (nm2_ok h)
theorem n_aug {op : Operator} {e : Expr} {We : WE} (h : nmA sc x = true) (he : SndE prog w H0 d sc e We) : SndS prog w H0 d sc (.AugAssign (.Name x p) op e pos) (wAugS x op We) := by
  unfold nmA at h
  obtain ⟨h1, h2⟩ := (Bool.and_eq_true _ _).mp h
  have h1 : sc.names.lookup x = some .local := by simpa using h1
  exact snd_aug (snd_name (.inl h1) (nmD_ok h2).1 (nmD_ok h2).2) (nmD_ok h2).1 h1 he
theorem n_glob (X : Cx w H0 mg mb) {v : V} (hv : Stands H0 mg x v) (h : gl1 sc x = true) : SndE pg w H0 d sc (.Name x pos) (wVal v) :=
  snd_glob X.wd hv (gl1_ok h).1 (gl1_ok h).2
theorem n_call (X : Cx w H0 mg mb) {d' : Nat} {e : Expr} {es : List Expr} {Ws : WL} {C : Con} (hc : FnOk pg w H0 mg d' x C) (hd : Nat.ble d' d = true) (h : gl1 sc x = true)
    (hst : ∀ env, starEach (e :: es) env = (false, eval e env) :: starEach es env) (hl : SndL pg w H0 d sc (e :: es) Ws) : SndE pg w H0 d sc (.Call (.Name x p) (e :: es) [] pos) (wCall Ws C) :=
  snd_call X.wd (hc.less (Nat.le_of_ble_eq_true hd)) (gl1_ok h).1 (gl1_ok h).2 hst hl
theorem n_comp {elt y e : Expr} {ifs : List Expr} {scope : Scope} {ns : List Str} {Wi : WI} {Wa : WA} {Wt : WT} {We : WE}
    (hok : scopeOk scope sc = true) (hk : scope.kind = .function) (hset : ∀ env x, foldedSetIterable e env x = pure x) (hi : SndI prog w H0 d sc y e Wi) (ha : SndA prog w H0 d (relabelS scope sc) y ns Wa) (hfa : WaFrame Wa ns) (ht : SndIfs prog w H0 d (relabelS scope sc) ifs Wt) (he : SndE prog w H0 d (relabelS scope sc) elt We)
    (hns : ns.all (nm2 scope) = true) : SndE prog w H0 d sc (.ListComp elt [⟨y, e, ifs, 0⟩] scope pos) (wComp scope Wi Wa Wt We) :=
  snd_comp hi ha hfa ht he hok hk (fun n hn => nm2_ok (List.all_eq_true.mp hns n hn)) hset
theorem n_acomp {elt y e : Expr} {ifs : List Expr} {scope : Scope} {ns : List Str} {py spos : Pos} {Wi : WI} {Wa : WA} {Wt : WT} {We : WE}
    (hok : scopeOk scope sc = true) (hk : scope.kind = .function) (hset : ∀ env x, foldedSetIterable e env x = pure x)
    (hsw : ∀ env, env.scope = sc → swapsWith (.ListComp elt [⟨y, e, ifs, 0⟩] scope pos) (some (.Name x py)) spos.line env = pure true) (hy : (sc.names.lookup x == some .local) = true)
    (hi : SndI prog w H0 d sc y e Wi) (ha : SndA prog w H0 d (relabelS scope sc) y ns Wa) (hfa : WaFrame Wa ns) (ht : SndIfs prog w H0 d (relabelS scope sc) ifs Wt) (he : SndE prog w H0 d (relabelS scope sc) elt We)
    (hns : ns.all (nm2 scope) = true) : SndS prog w H0 d sc (.Assign [.Name x py] (.ListComp elt [⟨y, e, ifs, 0⟩] scope pos) spos) (wCompS x scope Wi Wa Wt We) :=
  snd_assign_comp hi ha hfa ht he hok hk (fun n hn => nm2_ok (List.all_eq_true.mp hns n hn)) hset hsw (by simpa using hy)
theorem n_range1 (X : Cx w H0 mg mb) {e : Expr} {q : Pos} {Ws : WL} (hk : gl1 sc (Str.ofString "range") = true) (hst : ∀ env, starEach [e] env = [(false, eval e env)]) (h : SndL pg w H0 d sc [e] Ws) :
    SndI pg w H0 d sc (.Name x q) (.Call (.Name (Str.ofString "range") p) [e] [] pos) (wIRange1 Ws) := sndI_range1 X.wd ⟨_, _, rfl⟩ (free_range X) (gl1_ok hk).1 hst h
theorem n_range2 (X : Cx w H0 mg mb) {e e' : Expr} {q : Pos} {Ws : WL} (hk : gl1 sc (Str.ofString "range") = true) (hst : ∀ env, starEach [e, e'] env = (false, eval e env) :: starEach [e'] env) (hp : Plain [e']) (h : SndL pg w H0 d sc [e, e'] Ws) :
    SndI pg w H0 d sc (.Name x q) (.Call (.Name (Str.ofString "range") p) [e, e'] [] pos) (wIRange2 Ws) := sndI_range2 X.wd ⟨_, _, rfl⟩ (free_range X) (gl1_ok hk).1 hst hp h
theorem n_enum (X : Cx w H0 mg mb) {e : Expr} {q : Pos} {es : List Expr} {k : Nat} {Ws : WL} (hk : gl1 sc (Str.ofString "enumerate") = true) (hst : ∀ env, starEach [e] env = [(false, eval e env)]) (h : SndL pg w H0 d sc [e] Ws) :
    SndI pg w H0 d sc (.Tuple es k q) (.Call (.Name (Str.ofString "enumerate") p) [e] [] pos) (wIEnum Ws) := sndI_enum X.wd ⟨_, _, _, rfl⟩ (free_enumerate X) (gl1_ok hk).1 hst h
theorem n_listN {e : Expr} {q : Pos} {W : WE} (he : SndE prog w H0 d sc e W) : SndI prog w H0 d sc (.Name x q) e (wIList W) := sndI_list (.inl ⟨_, _, rfl⟩) he
theorem n_listT {e : Expr} {q : Pos} {es : List Expr} {k : Nat} {W : WE} (he : SndE prog w H0 d sc e W) : SndI prog w H0 d sc (.Tuple es k q) e (wIList W) := sndI_list (.inr ⟨_, _, _, rfl⟩) he
theorem n_len (X : Cx w H0 mg mb) {e : Expr} {es : List Expr} {Ws : WL} (hk : gl1 sc (Str.ofString "len") = true) (hst : ∀ env, starEach (e :: es) env = (false, eval e env) :: starEach es env) (hp : Plain es) (h : SndL pg w H0 d sc (e :: es) Ws) :
    SndE pg w H0 d sc (.Call (.Name (Str.ofString "len") p) (e :: es) [] pos) (wCall Ws cLen) := snd_callB (x := Str.ofString "len") X.wd (.inl ⟨_, rfl⟩) boot_len (free_len X) (by decide) (gl1_ok hk).1 (gl1_ok hk).2 hst hp h ok_len
theorem n_abs (X : Cx w H0 mg mb) {e : Expr} {es : List Expr} {Ws : WL} (hk : gl1 sc (Str.ofString "abs") = true) (hst : ∀ env, starEach (e :: es) env = (false, eval e env) :: starEach es env) (hp : Plain es) (h : SndL pg w H0 d sc (e :: es) Ws) :
    SndE pg w H0 d sc (.Call (.Name (Str.ofString "abs") p) (e :: es) [] pos) (wCall Ws cAbs) := snd_callB (x := Str.ofString "abs") X.wd (.inl ⟨_, rfl⟩) boot_abs (free_abs X) (by decide) (gl1_ok hk).1 (gl1_ok hk).2 hst hp h ok_abs
theorem n_int (X : Cx w H0 mg mb) {e : Expr} {es : List Expr} {Ws : WL} (hk : gl1 sc (Str.ofString "int") = true) (hst : ∀ env, starEach (e :: es) env = (false, eval e env) :: starEach es env) (hp : Plain es) (h : SndL pg w H0 d sc (e :: es) Ws) :
    SndE pg w H0 d sc (.Call (.Name (Str.ofString "int") p) (e :: es) [] pos) (wCall Ws cInt) := snd_callB (x := Str.ofString "int") X.wd (.inr ⟨_, rfl⟩) PyProof.Rows.boot_int (free_int X) (by decide) (gl1_ok hk).1 (gl1_ok hk).2 hst hp h ok_int
theorem n_list (X : Cx w H0 mg mb) {e : Expr} {es : List Expr} {Ws : WL} (hk : gl1 sc (Str.ofString "list") = true) (hst : ∀ env, starEach (e :: es) env = (false, eval e env) :: starEach es env) (hp : Plain es) (h : SndL pg w H0 d sc (e :: es) Ws) :
    SndE pg w H0 d sc (.Call (.Name (Str.ofString "list") p) (e :: es) [] pos) (wCall Ws cList) := snd_callB (x := Str.ofString "list") X.wd (.inr ⟨_, rfl⟩) PyProof.Rows.boot_list (free_list X) (by decide) (gl1_ok hk).1 (gl1_ok hk).2 hst hp h ok_list
theorem n_min (X : Cx w H0 mg mb) {e : Expr} {es : List Expr} {Ws : WL} (hk : gl1 sc (Str.ofString "min") = true) (hst : ∀ env, starEach (e :: es) env = (false, eval e env) :: starEach es env) (hp : Plain es) (h : SndL pg w H0 d sc (e :: es) Ws) :
    SndE pg w H0 d sc (.Call (.Name (Str.ofString "min") p) (e :: es) [] pos) (wCall Ws cMin) := snd_callB (x := Str.ofString "min") X.wd (.inl ⟨_, rfl⟩) boot_min (free_min X) (by decide) (gl1_ok hk).1 (gl1_ok hk).2 hst hp h ok_min
theorem n_max (X : Cx w H0 mg mb) {e : Expr} {es : List Expr} {Ws : WL} (hk : gl1 sc (Str.ofString "max") = true) (hst : ∀ env, starEach (e :: es) env = (false, eval e env) :: starEach es env) (hp : Plain es) (h : SndL pg w H0 d sc (e :: es) Ws) :
    SndE pg w H0 d sc (.Call (.Name (Str.ofString "max") p) (e :: es) [] pos) (wCall Ws cMax) := snd_callB (x := Str.ofString "max") X.wd (.inl ⟨_, rfl⟩) boot_max (free_max X) (by decide) (gl1_ok hk).1 (gl1_ok hk).2 hst hp h ok_max
theorem n_sum (X : Cx w H0 mg mb) {e : Expr} {es : List Expr} {Ws : WL} (hk : gl1 sc (Str.ofString "sum") = true) (hst : ∀ env, starEach (e :: es) env = (false, eval e env) :: starEach es env) (hp : Plain es) (h : SndL pg w H0 (d + 1) sc (e :: es) Ws) :
    SndE pg w H0 (d + 1) sc (.Call (.Name (Str.ofString "sum") p) (e :: es) [] pos) (wCall Ws cSum) := snd_callB (x := Str.ofString "sum") X.wd (.inl ⟨_, rfl⟩) boot_sum (free_sum X) (by decide) (gl1_ok hk).1 (gl1_ok hk).2 hst hp h ok_sum
end
end Mine

namespace Mine
open PySem PySem.W PyProof.Rows
set_option linter.unusedVariables false
open PySem.Calls

/-! the clean transformers, word by word -/
section
variable {x y : Int} {a b : Bool} {k l : Nat} {σ : Sto} {P : PV}
theorem bin_add : wBin .Add (.int x) (.int y) σ P = P (.int (x + y)) σ := rfl
theorem bin_sub : wBin .Sub (.int x) (.int y) σ P = P (.int (x - y)) σ := rfl
theorem bin_subb : wBin .Sub (.bool a) (.bool b) σ P = P (.int (b2i a - b2i b)) σ := rfl
theorem bin_mul : wBin .Mult (.int x) (.int y) σ P = (IntMulOk x y ∧ P (.int (x * y)) σ) := rfl
theorem bin_fdiv : wBin .FloorDiv (.int x) (.int y) σ P = (y ≠ 0 ∧ P (.int (x.fdiv y)) σ) := rfl
theorem bin_mod : wBin .Mod (.int x) (.int y) σ P = (y ≠ 0 ∧ P (.int (x.fmod y)) σ) := rfl
theorem bin_cat : wBin .Add (.ref k) (.ref l) σ P = ∃ xs ys, σ[k]? = some xs ∧ σ[l]? = some ys ∧ xs.length + ys.length ≤ 1000 ∧ P (.ref σ.length) (σ ++ [xs ++ ys]) := rfl
theorem bin_rep : wBin .Mult (.ref k) (.int x) σ P = ∃ xs, σ[k]? = some xs ∧ xs.length * x.toNat ≤ 256 ∧ -1000 ≤ x ∧ x ≤ 1000 ∧ P (.ref σ.length) (σ ++ [(List.replicate x.toNat xs).flatten]) := rfl
theorem aug_add : wAug .Add (.int x) (.int y) σ P = P (.int (x + y)) σ := rfl
theorem aug_sub : wAug .Sub (.int x) (.int y) σ P = P (.int (x - y)) σ := rfl
theorem neg_i : wNeg (.int x) σ P ↔ P (.int (-x)) σ := by simp [wNeg]
theorem eq_ints : wCmp .Eq (.int x) (.int y) σ P ↔ P (.bool (decide (x = y))) σ := by
  constructor
  · rintro ⟨da, db, h1, h2, _, _, h⟩
    cases h1; cases h2
    have e : PyData.eqv (.int x) (.int y) = decide (x = y) := by simp [PyData.eqv]; rfl
    rw [e] at h; exact h
  · intro h
    have e : PyData.eqv (.int x) (.int y) = decide (x = y) := by simp [PyData.eqv]; rfl
    exact ⟨.int x, .int y, .int x, .int y, rfl, rfl, by rw [e]; exact h⟩
theorem ne_ints : wCmp .NotEq (.int x) (.int y) σ P ↔ P (.bool (!decide (x = y))) σ := by
  constructor
  · rintro ⟨da, db, h1, h2, _, _, h⟩
    cases h1; cases h2
    have e : PyData.eqv (.int x) (.int y) = decide (x = y) := by simp [PyData.eqv]; rfl
    rw [e] at h; exact h
  · intro h
    have e : PyData.eqv (.int x) (.int y) = decide (x = y) := by simp [PyData.eqv]; rfl
    exact ⟨.int x, .int y, .int x, .int y, rfl, rfl, by rw [e]; exact h⟩
theorem lt_ints : wCmp .Lt (.int x) (.int y) σ P ↔ P (.bool (decide (x < y))) σ := by simp [wCmp]
theorem le_ints : wCmp .LtE (.int x) (.int y) σ P ↔ P (.bool (decide (x ≤ y))) σ := by simp [wCmp]
theorem gt_ints : wCmp .Gt (.int x) (.int y) σ P ↔ P (.bool (decide (y < x))) σ := by simp [wCmp]
theorem ge_ints : wCmp .GtE (.int x) (.int y) σ P ↔ P (.bool (decide (y ≤ x))) σ := by simp [wCmp]
theorem is_nn : wCmp .Is .none .none σ P ↔ P (.bool true) σ := by simp [wCmp]
theorem is_in : wCmp .Is (.int x) .none σ P ↔ P (.bool false) σ := by simp [wCmp]
theorem item_ref {xs : List V} {i : Int} {v : V} (hk : σ[k]? = some xs) (h0 : 0 ≤ i) (hi : xs[i.toNat]? = some v) (h : P v σ) : wItem (.ref k) (.int i) σ P := ⟨xs, i, v, hk, rfl, .inl ⟨h0, hi⟩, h⟩
theorem item_last {xs : List V} {v : V} (hk : σ[k]? = some xs) (hl : xs.getLast? = some v) (h : P v σ) : wItem (.ref k) (.int (-1)) σ P := by
  have hne : xs ≠ [] := by intro e; subst e; simp at hl
  have hp : 0 < xs.length := List.length_pos_iff.mpr hne
  refine ⟨xs, -1, v, hk, rfl, .inr ⟨by decide, by exact ar153 hp, ?_⟩, h⟩
  rw [List.getLast?_eq_getElem?] at hl
  have e : (-1 + (xs.length : Int)).toNat = xs.length - 1 := by exact ar154
  rw [e]; exact hl
theorem setitem_ref {xs : List V} {i : Int} {v : V} {K : Sto → Prop} (hk : σ[k]? = some xs) (h0 : 0 ≤ i) (hi : i < xs.length) (h : K (σ.set k (xs.set i.toNat v))) : wSetItem (.ref k) (.int i) v σ K := ⟨k, xs, i, rfl, rfl, hk, h0, hi, h⟩
theorem upto_ref {xs : List V} {i : Int} (hk : σ[k]? = some xs) (h : P (.ref σ.length) (σ ++ [xs.take (upto xs.length i)])) : wUpto (.ref k) (.int i) σ P := ⟨i, rfl, .inl ⟨k, xs, rfl, hk, h⟩⟩
end

/-- a while loop by an invariant with a measure -/
theorem while_of {T : WT} {Wb : WS} {ε : Loc} {σ : Sto} {P : PS} (I : Nat → Loc → Sto → Prop) (m : Nat) (h0 : I m ε σ)
    (step : ∀ (m : Nat) (ε : Loc) (σ : Sto) (K : Loc → Sto → Prop), (∀ m' ε' σ', m' < m → I m' ε' σ' → K ε' σ') → I m ε σ →
      T ε σ fun b σ1 => (b = false → P .next ε σ1) ∧ (b = true → Wb ε σ1 fun fl ε2 σ2 => match fl with | .next => K ε2 σ2 | .cont => K ε2 σ2 | .brk => P .next ε2 σ2 | .ret v => P (.ret v) ε2 σ2)) :
    wWhile T Wb ε σ P := by
  have key : ∀ (n m : Nat) (ε : Loc) (σ : Sto), m < n → I m ε σ → whileN T Wb n ε σ P := by
    intro n
    induction n with
    | zero => intro m ε σ h; exact (ar155 h).elim
    | succ n ih =>
      intro m ε σ hm hI
      exact step m ε σ (fun ε' σ' => whileN T Wb n ε' σ' P) (fun m' ε' σ' h hI' => ih m' ε' σ' (by exact ar156 hm h) hI') hI
  exact ⟨m + 1, key (m + 1) m ε σ (Nat.lt_succ_self m) h0⟩

/-- a for loop by an invariant over the place -/
theorem for_of {live : Sto → Prop} {Wa : WA} {Wb : WS} {xs : List V} {ε : Loc} {σ : Sto} {P : PS} (I : Nat → Loc → Sto → Prop) (h0 : I 0 ε σ) (hend : ∀ ε σ, I xs.length ε σ → live σ ∧ P .next ε σ)
    (step : ∀ (i : Nat) (x : V) (ε : Loc) (σ : Sto) (K : Loc → Sto → Prop), xs[i]? = some x → (∀ ε' σ', I (i + 1) ε' σ' → K ε' σ') → I i ε σ →
      live σ ∧ Wa x ε σ fun ε1 σ1 => Wb ε1 σ1 fun fl ε2 σ2 => match fl with | .next => K ε2 σ2 | .cont => K ε2 σ2 | .brk => P .next ε2 σ2 | .ret v => P (.ret v) ε2 σ2) :
    forL live Wa Wb xs ε σ P := by
  have key : ∀ (ys : List V) (i : Nat) (ε : Loc) (σ : Sto), xs.drop i = ys → i ≤ xs.length → I i ε σ → forL live Wa Wb ys ε σ P := by
    intro ys
    induction ys with
    | nil =>
      intro i ε σ hd hi hI
      have : i = xs.length := by have := congrArg List.length hd; simp at this; exact ar157 hi this
      subst this
      exact hend ε σ hI
    | cons x ys ih =>
      intro i ε σ hd hi hI
      have hlt : i < xs.length := by have := congrArg List.length hd; simp at this; exact ar158 this
      rw [List.drop_eq_getElem_cons hlt] at hd
      obtain ⟨e1, e2⟩ := List.cons.inj hd
      exact step i x ε σ (fun ε' σ' => forL live Wa Wb ys ε' σ' P) (by rw [List.getElem?_eq_getElem hlt, e1]) (fun ε' σ' hI' => ih (i + 1) ε' σ' e2 hlt hI') hI
  exact key xs 0 ε σ rfl (Nat.zero_le _) h0

/-- a comprehension by an invariant over the place -/
theorem comp_of {live : Sto → Prop} {Wa : WA} {Wt : WT} {We : WE} {ε0 : Loc} {xs : List V} {σ : Sto} {P : List V → Sto → Prop} (I : Nat → List V → Sto → Prop) (h0 : I 0 [] σ) (hend : ∀ acc σ, I xs.length acc σ → live σ ∧ P acc σ)
    (step : ∀ (i : Nat) (x : V) (acc : List V) (σ : Sto) (K : List V → Sto → Prop), xs[i]? = some x → (∀ acc' σ', I (i + 1) acc' σ' → K acc' σ') → I i acc σ →
      live σ ∧ Wa x ε0 σ fun ε1 σ1 => Wt ε1 σ1 fun b σ2 => (b = true → We ε1 σ2 fun v σ3 => acc.length < 1000 ∧ K (acc ++ [v]) σ3) ∧ (b = false → K acc σ2)) :
    compL live Wa Wt We ε0 xs [] σ P := by
  have key : ∀ (ys : List V) (i : Nat) (acc : List V) (σ : Sto), xs.drop i = ys → i ≤ xs.length → I i acc σ → compL live Wa Wt We ε0 ys acc σ P := by
    intro ys
    induction ys with
    | nil =>
      intro i acc σ hd hi hI
      have : i = xs.length := by have := congrArg List.length hd; simp at this; exact ar157 hi this
      subst this
      exact hend acc σ hI
    | cons x ys ih =>
      intro i acc σ hd hi hI
      have hlt : i < xs.length := by have := congrArg List.length hd; simp at this; omega
      rw [List.drop_eq_getElem_cons hlt] at hd
      obtain ⟨e1, e2⟩ := List.cons.inj hd
      exact step i x acc σ (fun acc' σ' => compL live Wa Wt We ε0 ys acc' σ' P) (by rw [List.getElem?_eq_getElem hlt, e1]) (fun acc' σ' hI' => ih (i + 1) acc' σ' e2 hlt hI') hI
  exact key xs 0 [] σ rfl (Nat.zero_le _) h0

/-- a comprehension that only reckons -/
theorem comp_map {live : Sto → Prop} {Wa : WA} {Wt : WT} {We : WE} {ε0 : Loc} {xs : List V} {σ : Sto} {P : List V → Sto → Prop} (f : Nat → V) (hn : xs.length ≤ 1000) (hl : live σ)
    (step : ∀ (i : Nat) (x : V) (K : V → Sto → Prop) (KF : Sto → Prop), xs[i]? = some x → K (f i) σ → Wa x ε0 σ fun ε1 σ1 => Wt ε1 σ1 fun b σ2 => (b = true → We ε1 σ2 K) ∧ (b = false → KF σ2))
    (hP : P ((List.range xs.length).map f) σ) : compL live Wa Wt We ε0 xs [] σ P := by
  refine comp_of (fun i acc σ' => σ' = σ ∧ acc = (List.range i).map f) ⟨rfl, rfl⟩ (fun acc σ' h => by obtain ⟨rfl, rfl⟩ := h; exact ⟨hl, hP⟩) fun i x acc σ' K hx hK hI => ?_
  obtain ⟨rfl, rfl⟩ := hI
  refine ⟨hl, step i x _ _ hx ⟨?_, hK _ _ ⟨rfl, ?_⟩⟩⟩
  · have := (List.getElem?_eq_some_iff.mp hx).1
    simp; exact ar159 hn this
  · rw [List.range_succ]; simp

/-! rationals as the program has them -/
theorem mulok {x y : Int} {n m : Nat} (h1 : x.natAbs < 2 ^ n) (h2 : y.natAbs < 2 ^ m) (h : n + m ≤ 134000000) : IntMulOk x y := by
  have a := (intBits_le_iff (m := n) (x := x)).mpr h1
  have b := (intBits_le_iff (m := m) (x := y)).mpr h2
  have c : Builtin.Int.intTooBig (Builtin.Int.intBits x + Builtin.Int.intBits y) = false := by
    unfold Builtin.Int.intTooBig
    rw [bitsLine_eq]
    simp only [gt_iff_lt, decide_eq_false_iff_not]
    exact ar160 h a b
  unfold IntMulOk
  rw [c]
  simp

noncomputable def qv (q : Rat) : V := .tup [.int q.num, .int (q.den : Int)]
theorem qv_num {q : Rat} {σ : Sto} {P : PV} : wItem (qv q) (.int 0) σ P ↔ P (.int q.num) σ := by simp [wItem, qv, seqOf]
theorem qv_den {q : Rat} {σ : Sto} {P : PV} : wItem (qv q) (.int 1) σ P ↔ P (.int (q.den : Int)) σ := by simp [wItem, qv, seqOf]
theorem qv_inj {a b : Rat} : (qv a = qv b) = (a = b) := by
  apply propext
  constructor
  · intro h
    simp only [qv, V.tup.injEq, List.cons.injEq, V.int.injEq, and_true] at h
    exact Rat.ext h.1 (by exact ar161 h)
  · rintro rfl; rfl
theorem qv_eqv {a b : Rat} : PyData.eqv (.tuple [.int a.num, .int a.den]) (.tuple [.int b.num, .int b.den]) = decide (a = b) := by
  have : (a = b) ↔ (a.num = b.num ∧ (a.den : Int) = b.den) := ⟨fun h => by rw [h]; exact ⟨rfl, rfl⟩, fun h => Rat.ext h.1 (by exact ar161 h)⟩
  simp only [PyData.eqv, PyData.eqvAll, Bool.and_true, this]
  by_cases h1 : a.num = b.num <;> by_cases h2 : (a.den : Int) = b.den <;> simp [h1, h2]
theorem rd_q {σ : Sto} {q : Rat} : Rd σ (qv q) (.tuple [.int q.num, .int q.den]) := .tup rfl fun i x d h1 h2 => by
  match i, h1, h2 with
  | 0, h1, h2 => simp at h1 h2; subst h1 h2; exact .int _
  | 1, h1, h2 => simp at h1 h2; subst h1 h2; exact .int _
  | i + 2, h1, _ => simp at h1
theorem rd_q_inv {σ : Sto} {q : Rat} {d : PyData} (h : Rd σ (qv q) d) : d = .tuple [.int q.num, .int q.den] := by
  unfold qv at h
  cases h with
  | @tup _ ds hl hh =>
  match ds, hl with
  | [d1, d2], _ =>
    have h1 := hh 0 _ _ rfl rfl
    have h2 := hh 1 _ _ rfl rfl
    cases h1; cases h2; rfl
theorem eq_q {a b : Rat} {σ : Sto} {P : PV} : wCmp .Eq (qv a) (qv b) σ P ↔ P (.bool (decide (a = b))) σ := by
  constructor
  · rintro ⟨da, db, h1, h2, _, _, h⟩
    rw [rd_q_inv h1, rd_q_inv h2, qv_eqv] at h
    exact h
  · intro h
    exact ⟨_, _, rd_q, rd_q, rfl, rfl, by rw [qv_eqv]; exact h⟩
theorem ne_q {a b : Rat} {σ : Sto} {P : PV} : wCmp .NotEq (qv a) (qv b) σ P ↔ P (.bool (!decide (a = b))) σ := by
  constructor
  · rintro ⟨da, db, h1, h2, _, _, h⟩
    rw [rd_q_inv h1, rd_q_inv h2, qv_eqv] at h
    exact h
  · intro h
    exact ⟨_, _, rd_q, rd_q, rfl, rfl, by rw [qv_eqv]; exact h⟩
theorem qv0 : V.tup [.int 0, .int 1] = qv 0 := rfl
theorem qv1 : V.tup [.int 1, .int 1] = qv 1 := rfl
end Mine

namespace Mine
open PySem PySem.W PyProof.Rows
set_option linter.unusedVariables false
open PySem.Calls

theorem qget {σ : Sto} {k : Nat} {l : List Rat} {i : Int} {P : PV} (hk : σ[k]? = some (l.map qv)) (h0 : 0 ≤ i) (hi : i.toNat < l.length) (h : P (qv (co l i.toNat)) σ) : wItem (.ref k) (.int i) σ P :=
  item_ref hk h0 (by rw [List.getElem?_map, co_get hi]; rfl) h
theorem rng_len (a : Int) (n : Nat) : (rng a n).length = n := by simp [rng]
theorem rng_get {a : Int} {n i : Nat} {x : V} (h : (rng a n)[i]? = some x) : x = .int (a + i) ∧ i < n := by
  have hi := (List.getElem?_eq_some_iff.mp h).1
  rw [rng_len] at hi
  simp [rng, hi] at h
  exact ⟨h.symm, hi⟩
theorem enm_len (xs : List V) : (enm xs).length = xs.length := by simp [enm]
theorem enm_get {xs : List V} {i : Nat} {x : V} (h : (enm xs)[i]? = some x) : ∃ y, xs[i]? = some y ∧ x = .tup [.int i, y] := by
  simp [enm] at h
  obtain ⟨y, h1, h2⟩ := h
  exact ⟨y, h1, h2.symm⟩
theorem qmap_get {l : List Rat} {i : Nat} {x : V} (h : (l.map qv)[i]? = some x) : x = qv (co l i) ∧ i < l.length := by
  have hi := (List.getElem?_eq_some_iff.mp h).1
  rw [List.length_map] at hi
  rw [List.getElem?_map, co_get hi] at h
  exact ⟨by cases h; rfl, hi⟩
/-- an old list is still there -/
theorem got_app {σ τ : Sto} {k : Nat} {xs : List V} (h : σ[k]? = some xs) : (σ ++ τ)[k]? = some xs := by
  rw [List.getElem?_append_left (List.getElem?_eq_some_iff.mp h).1]; exact h
theorem got_pre {σ σ' : Sto} {k : Nat} {xs : List V} (p : σ <+: σ') (h : σ[k]? = some xs) : σ'[k]? = some xs := by
  obtain ⟨t, rfl⟩ := p; exact got_app h
theorem got_new {σ : Sto} {xs : List V} : (σ ++ [xs])[σ.length]? = some xs := by simp
theorem got_lt {σ : Sto} {k : Nat} {xs : List V} (h : σ[k]? = some xs) : k < σ.length := (List.getElem?_eq_some_iff.mp h).1
theorem pre_app {σ τ : Sto} : σ <+: σ ++ τ := ⟨τ, rfl⟩
/-- a store in a list beyond the old ones -/
theorem pre_set {σ σ' : Sto} {k : Nat} {xs : List V} (p : σ <+: σ') (h : σ.length ≤ k) : σ <+: σ'.set k xs := by
  obtain ⟨t, rfl⟩ := p
  exact ⟨t.set (k - σ.length) xs, by rw [List.set_append_right _ _ h]⟩
theorem got_set {σ : Sto} {k : Nat} {xs ys : List V} (h : σ[k]? = some ys) : (σ.set k xs)[k]? = some xs := by
  rw [List.getElem?_set_self (got_lt h)]
theorem gotA {σ : Sto} {k : Nat} {xs : List V} (h : σ[k]? = some xs) : ∀ τ, (σ ++ τ)[k]? = some xs := fun τ => got_app h
theorem got_at0 {σ τ : Sto} : (σ ++ τ)[σ.length]? = τ[0]? := by rw [List.getElem?_append_right (Nat.le_refl _), Nat.sub_self]
theorem got_at {σ τ : Sto} {i : Nat} : (σ ++ τ)[σ.length + i]? = τ[i]? := by rw [List.getElem?_append_right (Nat.le_add_right ..), Nat.add_sub_cancel_left]
theorem got_preA {σ σ' : Sto} {k : Nat} {xs : List V} (p : σ <+: σ') (h : σ[k]? = some xs) : ∀ τ, (σ' ++ τ)[k]? = some xs := fun τ => got_app (got_pre p h)
theorem ofString_beq {a b : String} : (Str.ofString a == Str.ofString b) = (a == b) := by
  rw [Bool.eq_iff_iff, beq_iff_eq, beq_iff_eq, ofString_inj]
end Mine

namespace Mine
open PySem PySem.W PyProof.Rows
set_option linter.unusedVariables false
open PySem.Calls
noncomputable def pdq (q : Rat) : PyData := .tuple [.int q.num, .int q.den]
theorem pdq_can : ∀ l : List Rat, PyData.canLayAll0 (l.map pdq) = true
  | [] => by simp [PyData.canLayAll0]
  | q :: l => by simp [PyData.canLayAll0, PyData.canLay0, pdq, pdq_can l]
theorem pdq_deep : ∀ l : List Rat, PyData.depthAll (l.map pdq) ≤ 1
  | [] => by simp [PyData.depthAll]
  | q :: l => by
    have := pdq_deep l
    simp [PyData.depthAll, PyData.depth, pdq]
    exact ar162 this
theorem pdq_shaped (l : List Rat) : SeqAt.shaped (.list (l.map pdq)) = true := by
  have := pdq_deep l
  simp [SeqAt.shaped, PyData.canLay0, PyData.depth, pdq_can]
  exact ar163 this
theorem rd_ql {σ : Sto} {k : Nat} {l : List Rat} (h : σ[k]? = some (l.map qv)) : Rd σ (.ref k) (.list (l.map pdq)) := by
  refine .ref h (by simp) fun i x d h1 h2 => ?_
  rw [List.getElem?_map] at h1 h2
  cases e : l[i]? with
  | none => rw [e] at h1; cases h1
  | some q =>
    rw [e] at h1 h2
    cases h1; cases h2
    exact rd_q
theorem ne_nil_q {σ : Sto} {k k2 : Nat} {l : List Rat} {P : PV} (h : σ[k]? = some (l.map qv)) (h2 : σ[k2]? = some []) (hP : P (.bool (!decide (l = []))) σ) : wCmp .NotEq (.ref k) (.ref k2) σ P := by
  refine ⟨_, _, rd_ql h, rd_ql (l := []) h2, pdq_shaped l, pdq_shaped [], ?_⟩
  have e : PyData.eqv (.list (l.map pdq)) (.list (([] : List Rat).map pdq)) = decide (l = []) := by
    cases l with
    | nil => simp [PyData.eqv, PyData.eqvAll]
    | cons q l => simp [PyData.eqv, PyData.eqvAll]
  rw [e]; exact hP
theorem eq_pair_q {σ : Sto} {k1 k2 k3 k4 : Nat} {a b : List Rat} {P : PV} (h1 : σ[k1]? = some (a.map qv)) (h2 : σ[k2]? = some (b.map qv)) (h3 : σ[k3]? = some (a.map qv)) (h4 : σ[k4]? = some (b.map qv)) (hP : P (.bool true) σ) :
    wCmp .Eq (.tup [.ref k1, .ref k2]) (.tup [.ref k3, .ref k4]) σ P := by
  have hd : ∀ x y, σ[x]? = some (a.map qv) → σ[y]? = some (b.map qv) → Rd σ (.tup [.ref x, .ref y]) (.tuple [.list (a.map pdq), .list (b.map pdq)]) := fun x y hx hy => .tup rfl fun i v d g1 g2 => by
    match i, g1, g2 with
    | 0, g1, g2 => cases g1; cases g2; exact rd_ql hx
    | 1, g1, g2 => cases g1; cases g2; exact rd_ql hy
    | i + 2, g1, _ => simp at g1
  have hc : PyData.canLay0 (.tuple [.list (a.map pdq), .list (b.map pdq)]) = true := by simp [PyData.canLay0, PyData.canLayAll0, pdq_can]
  have hs : SeqAt.shaped (.tuple [.list (a.map pdq), .list (b.map pdq)]) = true := by
    have := pdq_deep a
    have := pdq_deep b
    simp [SeqAt.shaped, PyData.canLay0, PyData.canLayAll0, PyData.depth, PyData.depthAll, pdq_can]
    exact ar164 (by assumption) this
  refine ⟨_, _, hd k1 k2 h1 h2, hd k3 k4 h3 h4, hs, hs, ?_⟩
  rw [show PyData.eqv (.tuple [.list (a.map pdq), .list (b.map pdq)]) (.tuple [.list (a.map pdq), .list (b.map pdq)]) = true from SeqAt.eqv_refl _ hc]
  exact hP
end Mine

namespace Mine
open PySem PySem.W PyProof.Rows
set_option linter.unusedVariables false
set_option linter.unusedSimpArgs false
set_option maxRecDepth 100000
set_option maxHeartbeats 4000000
open PySem.Calls
variable {w : World} {H0 : Heap} {mg mb : Str → Option Value}


noncomputable def cGcd : Con := fun vs σ P => ∃ a b : Int, vs = [.int a, .int b] ∧ P (.int (Int.gcd a b)) σ
theorem ok_gcd (X : Cx w H0 mg mb) : FnOk pg w H0 mg 2 (Str.ofString "gcd") cGcd := by
  refine' fn_of X (i := 1) (k := 0) (d := 1) (C := cGcd) rfl rfl (by kernel_rfl) rfl ?snd ?bind (by kernel_rfl) rfl rfl rfl (by kernel_rfl) ?law
  case snd =>
    repeat' (first
      | (with_reducible first | exact sndB_nil | refine' sndB_cons ?_ ?_ | refine' snd_if ?_ ?_ ?_ | refine' snd_while ?_ ?_ | exact snd_no (st := Stmt.Return (some (Expr.Constant (Const.bool false) _ _)) _) | refine' snd_ret ?_ | exact snd_cont | exact snd_no (st := Stmt.Raise _ _ _) | exact sndL_nil | refine' sndA_sub ?_ ?_ | exact sndAs_nil | exact sndIfs_nil | refine' sndIfs_one ?_ | exact waF_name | exact waF_two | exact snd_int | exact snd_none | refine' snd_tup ?_ | refine' snd_lst ?_ | refine' snd_binop X.wd ?_ ?_ | refine' snd_usub ?_ | refine' snd_ifexp ?_ ?_ ?_ | refine' snd_upto ?_ ?_ | refine' sndT_and ?_ ?_ | refine' sndT_or ?_ ?_)
      | ((with_reducible first | refine' n_tgt ?s1 | refine' n_aug ?s1 ?_ | refine' n_glob X X.r0 ?s1 | refine' n_glob X X.r1 ?s1 | refine' n_name ?s1); (case s1 => kernel_rfl))
      | ((with_reducible first | refine' sndL_cons ?_ ?_ ?s1 | refine' sndAs_cons ?_ ?_ ?s1); (case s1 => exact fun _ => rfl))
      | ((with_reducible first | refine' snd_for ?_ ?_ ?_ ?s1 | refine' snd_sub ?_ ?_ ?s1); (case s1 => exact fun _ _ => rfl))
      | ((with_reducible first | refine' snd_compare ?_ ?_ ?s1 | refine' sndT_cmp ?_ ?_ ?s1); (case s1 => rfl))
      | ((with_reducible refine' n_acomp ?s1 ?s2 ?s4 ?s5 ?s6 ?_ ?_ ?_ ?_ ?_ ?_); (case s1 => kernel_rfl); (case s2 => rfl); (case s4 => exact fun _ _ => rfl); (case s5 => (intro env h; cases env; cases h; kernel_rfl)); (case s6 => decide +kernel))
      | ((with_reducible refine' snd_assign (e := Expr.Tuple (Expr.Constant _ _ _ :: Expr.Constant _ _ _ :: _) _ _) ?_ ?_ ?s1 ?s2 ?s3); (case s1 => exact fun _ => rfl); (case s2 => first | exact fun _ _ => rfl | (intro env h; cases env; cases h; kernel_rfl)); (case s3 => first | exact fun _ _ => rfl | (intro env h; cases env; cases h; kernel_rfl)))
      | ((with_reducible refine' snd_swapN (elts := Expr.Name _ _ :: _) (e := Expr.Tuple _ _ _) ?_ ?s1 ?s2 ?s3); (case s1 => kernel_rfl); (case s2 => exact fun _ _ => rfl); (case s3 => (intro env h; cases env; cases h; kernel_rfl)))
      | ((with_reducible refine' snd_assign ?_ ?_ ?s1 ?s2 ?s3); (case s1 => exact fun _ => rfl); (case s2 => first | exact fun _ _ => rfl | (intro env h; cases env; cases h; kernel_rfl)); (case s3 => first | exact fun _ _ => rfl | (intro env h; cases env; cases h; kernel_rfl)))
      | ((with_reducible refine' snd_expr ?_ ?s1 ?s2); (case s1 => (intro env h; cases env; cases h; kernel_rfl)); (case s2 => first | exact fun _ _ => rfl | (intro env h; cases env; cases h; kernel_rfl)))
      | ((with_reducible refine' sndA_tup ?_ ?s1); (case s1 => exact fun _ => ⟨rfl, rfl⟩))
      | ((with_reducible first | refine' n_range1 X ?s1 ?s2 ?_ | refine' n_enum X ?s1 ?s2 ?_); (case s1 => kernel_rfl); (case s2 => exact fun _ => rfl))
      | ((with_reducible refine' n_range2 X ?s1 ?s2 ?s3 ?_); (case s1 => kernel_rfl); (case s2 => exact fun _ => rfl); (case s3 => exact fun _ _ => rfl))
      | (with_reducible first | refine' n_listN ?_ | refine' n_listT ?_)
      | ((with_reducible refine' snd_append ?_ ?_ ?s1 ?s2 ?s3); (case s1 => exact fun _ => rfl); (case s2 => exact fun _ => rfl); (case s3 => rfl))
      | ((with_reducible first | refine' n_len X ?s1 ?s3 ?s4 ?_ | refine' n_abs X ?s1 ?s3 ?s4 ?_ | refine' n_int X ?s1 ?s3 ?s4 ?_ | refine' n_list X ?s1 ?s3 ?s4 ?_ | refine' n_min X ?s1 ?s3 ?s4 ?_ | refine' n_max X ?s1 ?s3 ?s4 ?_ | refine' n_sum X ?s1 ?s3 ?s4 ?_); (case s1 => kernel_rfl); (case s3 => exact fun _ => rfl); (case s4 => exact fun _ _ => rfl))
      | ((with_reducible refine' n_comp ?s1 ?s2 ?s4 ?_ ?_ ?_ ?_ ?_ ?_); (case s1 => kernel_rfl); (case s2 => rfl); (case s4 => exact fun _ _ => rfl))
      | kernel_rfl)
  case bind => intro pm cd doc; refine ofLen2 ?_; intros; kernel_rfl
  case law =>
    intro vs σ P; refine hide fun Gq hGq => ?_; rintro ⟨a, b, rfl, hP⟩; refine hGq ?_; clear hGq
    refine ⟨rfl, ?_⟩
    simp only [wSeq, wSwap, wRet, wTup, wOp2, wCall, wName, wStores, Loc.set, locOf, post, tgt_nil, tgt_cons, ofString_inj, String.reduceEq, cAbs, List.map, List.reverse, List.reverseAux, List.length, List.cons.injEq, Option.some.injEq, V.int.injEq, V.tup.injEq, if_true, if_false, exists_eq_left', and_true, true_and, Nat.reduceAdd, Nat.reduceLeDiff]
    refine while_of (fun m ε σ' => σ' = σ ∧ ∃ x y : Nat, ε (Str.ofString "a") = some (.int x) ∧ ε (Str.ofString "b") = some (.int y) ∧ y ≤ m ∧ Nat.gcd x y = Int.gcd a b) b.natAbs ⟨rfl, a.natAbs, b.natAbs, by kernel_rfl, by kernel_rfl, Nat.le_refl _, rfl⟩ ?_
    intro m ε σ' K hK; refine hide fun Gq hGq => ?_; rintro ⟨rfl, x, y, hx, hy, hm, hg⟩; refine hGq ?_; clear hGq
    simp only [hx, hy, wSeq, wNil, wSwap, wTup, wName, wVal, wTest, wStores, bin_mod, ne_ints, List.reverse, List.reverseAux, List.length, Option.some.injEq, V.tup.injEq, V.bool.injEq, exists_eq_left', true_and, Nat.reduceAdd, Nat.reduceLeDiff, ne_eq, decide_eq_true_eq, decide_eq_false_iff_not, Bool.not_eq_true', Bool.not_eq_false']
    constructor
    · intro h
      have h0 : y = 0 := by exact ar165 h
      subst h0
      rw [← hg, Nat.gcd_zero_right] at hP
      exact hP
    · intro h0
      have h1 : y ≠ 0 := by exact ar166 h0
      refine ⟨h0, hK (m - 1) _ _ (by exact ar167 hm h1) ⟨rfl, y, x % y, by kernel_rfl, by simp [Loc.set, ofString_inj, Int.fmod_eq_emod_of_nonneg], ?_, ?_⟩⟩
      · have := Nat.mod_lt x (Nat.pos_of_ne_zero h1); exact ar168 hm this
      · rw [← hg, Nat.gcd_comm x y, Nat.gcd_rec y x, Nat.gcd_comm]

noncomputable def cRat : Con := fun vs σ P => ∃ t b : Int, vs = [.int t, .int b] ∧ b ≠ 0 ∧ P (qv (Rat.divInt t b)) σ
theorem ok_rat (X : Cx w H0 mg mb) : FnOk pg w H0 mg 3 (Str.ofString "rat") cRat := by
  refine' fn_of X (i := 4) (k := 1) (d := 2) (C := cRat) rfl rfl (by kernel_rfl) rfl ?snd ?bind (by kernel_rfl) rfl rfl rfl (by kernel_rfl) ?law
  case snd =>
    repeat' (first
      | (with_reducible first | exact sndB_nil | refine' sndB_cons ?_ ?_ | refine' snd_if ?_ ?_ ?_ | refine' snd_while ?_ ?_ | exact snd_no (st := Stmt.Return (some (Expr.Constant (Const.bool false) _ _)) _) | refine' snd_ret ?_ | exact snd_cont | exact snd_no (st := Stmt.Raise _ _ _) | exact sndL_nil | refine' sndA_sub ?_ ?_ | exact sndAs_nil | exact sndIfs_nil | refine' sndIfs_one ?_ | exact waF_name | exact waF_two | exact snd_int | exact snd_none | refine' snd_tup ?_ | refine' snd_lst ?_ | refine' snd_binop X.wd ?_ ?_ | refine' snd_usub ?_ | refine' snd_ifexp ?_ ?_ ?_ | refine' snd_upto ?_ ?_ | refine' sndT_and ?_ ?_ | refine' sndT_or ?_ ?_)
      | ((with_reducible first | refine' n_tgt ?s1 | refine' n_aug ?s1 ?_ | refine' n_glob X X.r0 ?s1 | refine' n_glob X X.r1 ?s1 | refine' n_name ?s1); (case s1 => kernel_rfl))
      | ((with_reducible first | refine' sndL_cons ?_ ?_ ?s1 | refine' sndAs_cons ?_ ?_ ?s1); (case s1 => exact fun _ => rfl))
      | ((with_reducible first | refine' snd_for ?_ ?_ ?_ ?s1 | refine' snd_sub ?_ ?_ ?s1); (case s1 => exact fun _ _ => rfl))
      | ((with_reducible first | refine' snd_compare ?_ ?_ ?s1 | refine' sndT_cmp ?_ ?_ ?s1); (case s1 => rfl))
      | ((with_reducible refine' n_acomp ?s1 ?s2 ?s4 ?s5 ?s6 ?_ ?_ ?_ ?_ ?_ ?_); (case s1 => kernel_rfl); (case s2 => rfl); (case s4 => exact fun _ _ => rfl); (case s5 => (intro env h; cases env; cases h; kernel_rfl)); (case s6 => decide +kernel))
      | ((with_reducible refine' snd_assign (e := Expr.Tuple (Expr.Constant _ _ _ :: Expr.Constant _ _ _ :: _) _ _) ?_ ?_ ?s1 ?s2 ?s3); (case s1 => exact fun _ => rfl); (case s2 => first | exact fun _ _ => rfl | (intro env h; cases env; cases h; kernel_rfl)); (case s3 => first | exact fun _ _ => rfl | (intro env h; cases env; cases h; kernel_rfl)))
      | ((with_reducible refine' snd_swapN (elts := Expr.Name _ _ :: _) (e := Expr.Tuple _ _ _) ?_ ?s1 ?s2 ?s3); (case s1 => kernel_rfl); (case s2 => exact fun _ _ => rfl); (case s3 => (intro env h; cases env; cases h; kernel_rfl)))
      | ((with_reducible refine' snd_assign ?_ ?_ ?s1 ?s2 ?s3); (case s1 => exact fun _ => rfl); (case s2 => first | exact fun _ _ => rfl | (intro env h; cases env; cases h; kernel_rfl)); (case s3 => first | exact fun _ _ => rfl | (intro env h; cases env; cases h; kernel_rfl)))
      | ((with_reducible refine' snd_expr ?_ ?s1 ?s2); (case s1 => (intro env h; cases env; cases h; kernel_rfl)); (case s2 => first | exact fun _ _ => rfl | (intro env h; cases env; cases h; kernel_rfl)))
      | ((with_reducible refine' sndA_tup ?_ ?s1); (case s1 => exact fun _ => ⟨rfl, rfl⟩))
      | ((with_reducible first | refine' n_range1 X ?s1 ?s2 ?_ | refine' n_enum X ?s1 ?s2 ?_); (case s1 => kernel_rfl); (case s2 => exact fun _ => rfl))
      | ((with_reducible refine' n_range2 X ?s1 ?s2 ?s3 ?_); (case s1 => kernel_rfl); (case s2 => exact fun _ => rfl); (case s3 => exact fun _ _ => rfl))
      | (with_reducible first | refine' n_listN ?_ | refine' n_listT ?_)
      | ((with_reducible refine' snd_append ?_ ?_ ?s1 ?s2 ?s3); (case s1 => exact fun _ => rfl); (case s2 => exact fun _ => rfl); (case s3 => rfl))
      | ((with_reducible first | refine' n_len X ?s1 ?s3 ?s4 ?_ | refine' n_abs X ?s1 ?s3 ?s4 ?_ | refine' n_int X ?s1 ?s3 ?s4 ?_ | refine' n_list X ?s1 ?s3 ?s4 ?_ | refine' n_min X ?s1 ?s3 ?s4 ?_ | refine' n_max X ?s1 ?s3 ?s4 ?_ | refine' n_sum X ?s1 ?s3 ?s4 ?_); (case s1 => kernel_rfl); (case s3 => exact fun _ => rfl); (case s4 => exact fun _ _ => rfl))
      | ((with_reducible first | refine' n_call X (ok_gcd X) ?s1 ?s2 ?s3 ?_); (case s1 => rfl); (case s2 => kernel_rfl); (case s3 => exact fun _ => rfl))
      | ((with_reducible refine' n_comp ?s1 ?s2 ?s4 ?_ ?_ ?_ ?_ ?_ ?_); (case s1 => kernel_rfl); (case s2 => rfl); (case s4 => exact fun _ _ => rfl))
      | kernel_rfl)
  case bind => intro pm cd doc; refine ofLen2 ?_; intros; kernel_rfl
  case law =>
    intro vs σ P; refine hide fun Gq hGq => ?_; rintro ⟨t, b, rfl, hb, hP⟩; refine hGq ?_; clear hGq
    refine ⟨rfl, ?_⟩
    have hr := rat_made (t := t) hb
    simp only [wSeq, wNil, wAssign, wStore, wIf, wRet, wNo, wTup, wOp2, wCall, wName, wVal, wTest, wIfE, wStores, Loc.set, locOf, post, bin_sub, bin_fdiv, eq_ints, gt_ints, ofString_inj, String.reduceEq, List.map, List.length, List.cons.injEq, Option.some.injEq, V.int.injEq, V.bool.injEq, if_true, if_false, exists_eq_left', exists_and_left, and_true, true_and, Nat.reduceAdd, Nat.reduceLeDiff, ne_eq, and_assoc, decide_eq_true_eq, decide_eq_false_iff_not, cGcd]
    refine ⟨hb, fun _ => ⟨fun h => ?_, fun h => ?_⟩⟩
    · simp only [gt_iff_lt, h, if_true] at hr
      obtain ⟨h1, h2, h3⟩ := hr
      refine ⟨h1, h1, ?_⟩
      rw [h2, h3]; exact hP
    · simp only [gt_iff_lt, h, if_false] at hr
      obtain ⟨h1, h2, h3⟩ := hr
      refine ⟨h1, h1, ?_⟩
      rw [h2, h3]; exact hP

theorem Wq.num_lt {n : Nat} {q : Rat} (h : Wq n q) : q.num.natAbs < 2 ^ n := h.1
theorem Wq.den_lt {n : Nat} {q : Rat} (h : Wq n q) : (q.den : Int).natAbs < 2 ^ n := by have := h.2; exact ar169 this

noncomputable def cR2 (f : Rat → Rat → Rat) : Con := fun vs σ P => ∃ (a b : Rat) (n m : Nat), vs = [qv a, qv b] ∧ Wq n a ∧ Wq m b ∧ n + m ≤ 130000000 ∧ P (qv (f a b)) σ
theorem ok_radd (X : Cx w H0 mg mb) : FnOk pg w H0 mg 4 (Str.ofString "radd") (cR2 fun a b => a + b) := by
  refine' fn_of X (i := 5) (k := 2) (d := 3) (C := (cR2 fun a b => a + b)) rfl rfl (by kernel_rfl) rfl ?snd ?bind (by kernel_rfl) rfl rfl rfl (by kernel_rfl) ?law
  case snd =>
    repeat' (first
      | (with_reducible first | exact sndB_nil | refine' sndB_cons ?_ ?_ | refine' snd_if ?_ ?_ ?_ | refine' snd_while ?_ ?_ | exact snd_no (st := Stmt.Return (some (Expr.Constant (Const.bool false) _ _)) _) | refine' snd_ret ?_ | exact snd_cont | exact snd_no (st := Stmt.Raise _ _ _) | exact sndL_nil | refine' sndA_sub ?_ ?_ | exact sndAs_nil | exact sndIfs_nil | refine' sndIfs_one ?_ | exact waF_name | exact waF_two | exact snd_int | exact snd_none | refine' snd_tup ?_ | refine' snd_lst ?_ | refine' snd_binop X.wd ?_ ?_ | refine' snd_usub ?_ | refine' snd_ifexp ?_ ?_ ?_ | refine' snd_upto ?_ ?_ | refine' sndT_and ?_ ?_ | refine' sndT_or ?_ ?_)
      | ((with_reducible first | refine' n_tgt ?s1 | refine' n_aug ?s1 ?_ | refine' n_glob X X.r0 ?s1 | refine' n_glob X X.r1 ?s1 | refine' n_name ?s1); (case s1 => kernel_rfl))
      | ((with_reducible first | refine' sndL_cons ?_ ?_ ?s1 | refine' sndAs_cons ?_ ?_ ?s1); (case s1 => exact fun _ => rfl))
      | ((with_reducible first | refine' snd_for ?_ ?_ ?_ ?s1 | refine' snd_sub ?_ ?_ ?s1); (case s1 => exact fun _ _ => rfl))
      | ((with_reducible first | refine' snd_compare ?_ ?_ ?s1 | refine' sndT_cmp ?_ ?_ ?s1); (case s1 => rfl))
      | ((with_reducible refine' n_acomp ?s1 ?s2 ?s4 ?s5 ?s6 ?_ ?_ ?_ ?_ ?_ ?_); (case s1 => kernel_rfl); (case s2 => rfl); (case s4 => exact fun _ _ => rfl); (case s5 => (intro env h; cases env; cases h; kernel_rfl)); (case s6 => decide +kernel))
      | ((with_reducible refine' snd_assign (e := Expr.Tuple (Expr.Constant _ _ _ :: Expr.Constant _ _ _ :: _) _ _) ?_ ?_ ?s1 ?s2 ?s3); (case s1 => exact fun _ => rfl); (case s2 => first | exact fun _ _ => rfl | (intro env h; cases env; cases h; kernel_rfl)); (case s3 => first | exact fun _ _ => rfl | (intro env h; cases env; cases h; kernel_rfl)))
      | ((with_reducible refine' snd_swapN (elts := Expr.Name _ _ :: _) (e := Expr.Tuple _ _ _) ?_ ?s1 ?s2 ?s3); (case s1 => kernel_rfl); (case s2 => exact fun _ _ => rfl); (case s3 => (intro env h; cases env; cases h; kernel_rfl)))
      | ((with_reducible refine' snd_assign ?_ ?_ ?s1 ?s2 ?s3); (case s1 => exact fun _ => rfl); (case s2 => first | exact fun _ _ => rfl | (intro env h; cases env; cases h; kernel_rfl)); (case s3 => first | exact fun _ _ => rfl | (intro env h; cases env; cases h; kernel_rfl)))
      | ((with_reducible refine' snd_expr ?_ ?s1 ?s2); (case s1 => (intro env h; cases env; cases h; kernel_rfl)); (case s2 => first | exact fun _ _ => rfl | (intro env h; cases env; cases h; kernel_rfl)))
      | ((with_reducible refine' sndA_tup ?_ ?s1); (case s1 => exact fun _ => ⟨rfl, rfl⟩))
      | ((with_reducible first | refine' n_range1 X ?s1 ?s2 ?_ | refine' n_enum X ?s1 ?s2 ?_); (case s1 => kernel_rfl); (case s2 => exact fun _ => rfl))
      | ((with_reducible refine' n_range2 X ?s1 ?s2 ?s3 ?_); (case s1 => kernel_rfl); (case s2 => exact fun _ => rfl); (case s3 => exact fun _ _ => rfl))
      | (with_reducible first | refine' n_listN ?_ | refine' n_listT ?_)
      | ((with_reducible refine' snd_append ?_ ?_ ?s1 ?s2 ?s3); (case s1 => exact fun _ => rfl); (case s2 => exact fun _ => rfl); (case s3 => rfl))
      | ((with_reducible first | refine' n_len X ?s1 ?s3 ?s4 ?_ | refine' n_abs X ?s1 ?s3 ?s4 ?_ | refine' n_int X ?s1 ?s3 ?s4 ?_ | refine' n_list X ?s1 ?s3 ?s4 ?_ | refine' n_min X ?s1 ?s3 ?s4 ?_ | refine' n_max X ?s1 ?s3 ?s4 ?_ | refine' n_sum X ?s1 ?s3 ?s4 ?_); (case s1 => kernel_rfl); (case s3 => exact fun _ => rfl); (case s4 => exact fun _ _ => rfl))
      | ((with_reducible first | refine' n_call X (ok_rat X) ?s1 ?s2 ?s3 ?_); (case s1 => rfl); (case s2 => kernel_rfl); (case s3 => exact fun _ => rfl))
      | ((with_reducible refine' n_comp ?s1 ?s2 ?s4 ?_ ?_ ?_ ?_ ?_ ?_); (case s1 => kernel_rfl); (case s2 => rfl); (case s4 => exact fun _ _ => rfl))
      | kernel_rfl)
  case bind => intro pm cd doc; refine ofLen2 ?_; intros; kernel_rfl
  case law =>
    intro vs σ P; refine hide fun Gq hGq => ?_; rintro ⟨a, b, n, m, rfl, ha, hb, hnm, hP⟩; refine hGq ?_; clear hGq
    refine ⟨rfl, ?_⟩
    simp only [wSeq, wRet, wOp2, wCall, wName, wVal, wStores, Loc.set, locOf, post, bin_add, bin_mul, qv_num, qv_den, ofString_inj, String.reduceEq, List.map, List.cons.injEq, Option.some.injEq, V.int.injEq, if_true, if_false, exists_eq_left', exists_and_left, and_true, ne_eq, and_assoc, cRat]
    dsimp only at hP
    rw [add_divInt] at hP
    have h1 := ha.num_lt; have h2 := ha.den_lt; have h3 := hb.num_lt; have h4 := hb.den_lt
    have hd : (a.den : Int) * b.den ≠ 0 := Int.mul_ne_zero (den_ne a) (den_ne b)
    exact ⟨mulok h1 h4 (by exact ar170 hnm), mulok h3 h2 (by exact ar171 hnm), mulok h2 h4 (by exact ar170 hnm), hd, hP⟩
theorem ok_rsub (X : Cx w H0 mg mb) : FnOk pg w H0 mg 4 (Str.ofString "rsub") (cR2 fun a b => a - b) := by
  refine' fn_of X (i := 6) (k := 3) (d := 3) (C := (cR2 fun a b => a - b)) rfl rfl (by kernel_rfl) rfl ?snd ?bind (by kernel_rfl) rfl rfl rfl (by kernel_rfl) ?law
  case snd =>
    repeat' (first
      | (with_reducible first | exact sndB_nil | refine' sndB_cons ?_ ?_ | refine' snd_if ?_ ?_ ?_ | refine' snd_while ?_ ?_ | exact snd_no (st := Stmt.Return (some (Expr.Constant (Const.bool false) _ _)) _) | refine' snd_ret ?_ | exact snd_cont | exact snd_no (st := Stmt.Raise _ _ _) | exact sndL_nil | refine' sndA_sub ?_ ?_ | exact sndAs_nil | exact sndIfs_nil | refine' sndIfs_one ?_ | exact waF_name | exact waF_two | exact snd_int | exact snd_none | refine' snd_tup ?_ | refine' snd_lst ?_ | refine' snd_binop X.wd ?_ ?_ | refine' snd_usub ?_ | refine' snd_ifexp ?_ ?_ ?_ | refine' snd_upto ?_ ?_ | refine' sndT_and ?_ ?_ | refine' sndT_or ?_ ?_)
      | ((with_reducible first | refine' n_tgt ?s1 | refine' n_aug ?s1 ?_ | refine' n_glob X X.r0 ?s1 | refine' n_glob X X.r1 ?s1 | refine' n_name ?s1); (case s1 => kernel_rfl))
      | ((with_reducible first | refine' sndL_cons ?_ ?_ ?s1 | refine' sndAs_cons ?_ ?_ ?s1); (case s1 => exact fun _ => rfl))
      | ((with_reducible first | refine' snd_for ?_ ?_ ?_ ?s1 | refine' snd_sub ?_ ?_ ?s1); (case s1 => exact fun _ _ => rfl))
      | ((with_reducible first | refine' snd_compare ?_ ?_ ?s1 | refine' sndT_cmp ?_ ?_ ?s1); (case s1 => rfl))
      | ((with_reducible refine' n_acomp ?s1 ?s2 ?s4 ?s5 ?s6 ?_ ?_ ?_ ?_ ?_ ?_); (case s1 => kernel_rfl); (case s2 => rfl); (case s4 => exact fun _ _ => rfl); (case s5 => (intro env h; cases env; cases h; kernel_rfl)); (case s6 => decide +kernel))
      | ((with_reducible refine' snd_assign (e := Expr.Tuple (Expr.Constant _ _ _ :: Expr.Constant _ _ _ :: _) _ _) ?_ ?_ ?s1 ?s2 ?s3); (case s1 => exact fun _ => rfl); (case s2 => first | exact fun _ _ => rfl | (intro env h; cases env; cases h; kernel_rfl)); (case s3 => first | exact fun _ _ => rfl | (intro env h; cases env; cases h; kernel_rfl)))
      | ((with_reducible refine' snd_swapN (elts := Expr.Name _ _ :: _) (e := Expr.Tuple _ _ _) ?_ ?s1 ?s2 ?s3); (case s1 => kernel_rfl); (case s2 => exact fun _ _ => rfl); (case s3 => (intro env h; cases env; cases h; kernel_rfl)))
      | ((with_reducible refine' snd_assign ?_ ?_ ?s1 ?s2 ?s3); (case s1 => exact fun _ => rfl); (case s2 => first | exact fun _ _ => rfl | (intro env h; cases env; cases h; kernel_rfl)); (case s3 => first | exact fun _ _ => rfl | (intro env h; cases env; cases h; kernel_rfl)))
      | ((with_reducible refine' snd_expr ?_ ?s1 ?s2); (case s1 => (intro env h; cases env; cases h; kernel_rfl)); (case s2 => first | exact fun _ _ => rfl | (intro env h; cases env; cases h; kernel_rfl)))
      | ((with_reducible refine' sndA_tup ?_ ?s1); (case s1 => exact fun _ => ⟨rfl, rfl⟩))
      | ((with_reducible first | refine' n_range1 X ?s1 ?s2 ?_ | refine' n_enum X ?s1 ?s2 ?_); (case s1 => kernel_rfl); (case s2 => exact fun _ => rfl))
      | ((with_reducible refine' n_range2 X ?s1 ?s2 ?s3 ?_); (case s1 => kernel_rfl); (case s2 => exact fun _ => rfl); (case s3 => exact fun _ _ => rfl))
      | (with_reducible first | refine' n_listN ?_ | refine' n_listT ?_)
      | ((with_reducible refine' snd_append ?_ ?_ ?s1 ?s2 ?s3); (case s1 => exact fun _ => rfl); (case s2 => exact fun _ => rfl); (case s3 => rfl))
      | ((with_reducible first | refine' n_len X ?s1 ?s3 ?s4 ?_ | refine' n_abs X ?s1 ?s3 ?s4 ?_ | refine' n_int X ?s1 ?s3 ?s4 ?_ | refine' n_list X ?s1 ?s3 ?s4 ?_ | refine' n_min X ?s1 ?s3 ?s4 ?_ | refine' n_max X ?s1 ?s3 ?s4 ?_ | refine' n_sum X ?s1 ?s3 ?s4 ?_); (case s1 => kernel_rfl); (case s3 => exact fun _ => rfl); (case s4 => exact fun _ _ => rfl))
      | ((with_reducible first | refine' n_call X (ok_rat X) ?s1 ?s2 ?s3 ?_); (case s1 => rfl); (case s2 => kernel_rfl); (case s3 => exact fun _ => rfl))
      | ((with_reducible refine' n_comp ?s1 ?s2 ?s4 ?_ ?_ ?_ ?_ ?_ ?_); (case s1 => kernel_rfl); (case s2 => rfl); (case s4 => exact fun _ _ => rfl))
      | kernel_rfl)
  case bind => intro pm cd doc; refine ofLen2 ?_; intros; kernel_rfl
  case law =>
    intro vs σ P; refine hide fun Gq hGq => ?_; rintro ⟨a, b, n, m, rfl, ha, hb, hnm, hP⟩; refine hGq ?_; clear hGq
    refine ⟨rfl, ?_⟩
    simp only [wSeq, wRet, wOp2, wCall, wName, wVal, wStores, Loc.set, locOf, post, bin_sub, bin_mul, qv_num, qv_den, ofString_inj, String.reduceEq, List.map, List.cons.injEq, Option.some.injEq, V.int.injEq, if_true, if_false, exists_eq_left', exists_and_left, and_true, ne_eq, and_assoc, cRat]
    dsimp only at hP
    rw [sub_divInt] at hP
    have h1 := ha.num_lt; have h2 := ha.den_lt; have h3 := hb.num_lt; have h4 := hb.den_lt
    have hd : (a.den : Int) * b.den ≠ 0 := Int.mul_ne_zero (den_ne a) (den_ne b)
    exact ⟨mulok h1 h4 (by exact ar170 hnm), mulok h3 h2 (by exact ar171 hnm), mulok h2 h4 (by exact ar170 hnm), hd, hP⟩
theorem ok_rmul (X : Cx w H0 mg mb) : FnOk pg w H0 mg 4 (Str.ofString "rmul") (cR2 fun a b => a * b) := by
  refine' fn_of X (i := 7) (k := 4) (d := 3) (C := (cR2 fun a b => a * b)) rfl rfl (by kernel_rfl) rfl ?snd ?bind (by kernel_rfl) rfl rfl rfl (by kernel_rfl) ?law
  case snd =>
    repeat' (first
      | (with_reducible first | exact sndB_nil | refine' sndB_cons ?_ ?_ | refine' snd_if ?_ ?_ ?_ | refine' snd_while ?_ ?_ | exact snd_no (st := Stmt.Return (some (Expr.Constant (Const.bool false) _ _)) _) | refine' snd_ret ?_ | exact snd_cont | exact snd_no (st := Stmt.Raise _ _ _) | exact sndL_nil | refine' sndA_sub ?_ ?_ | exact sndAs_nil | exact sndIfs_nil | refine' sndIfs_one ?_ | exact waF_name | exact waF_two | exact snd_int | exact snd_none | refine' snd_tup ?_ | refine' snd_lst ?_ | refine' snd_binop X.wd ?_ ?_ | refine' snd_usub ?_ | refine' snd_ifexp ?_ ?_ ?_ | refine' snd_upto ?_ ?_ | refine' sndT_and ?_ ?_ | refine' sndT_or ?_ ?_)
      | ((with_reducible first | refine' n_tgt ?s1 | refine' n_aug ?s1 ?_ | refine' n_glob X X.r0 ?s1 | refine' n_glob X X.r1 ?s1 | refine' n_name ?s1); (case s1 => kernel_rfl))
      | ((with_reducible first | refine' sndL_cons ?_ ?_ ?s1 | refine' sndAs_cons ?_ ?_ ?s1); (case s1 => exact fun _ => rfl))
      | ((with_reducible first | refine' snd_for ?_ ?_ ?_ ?s1 | refine' snd_sub ?_ ?_ ?s1); (case s1 => exact fun _ _ => rfl))
      | ((with_reducible first | refine' snd_compare ?_ ?_ ?s1 | refine' sndT_cmp ?_ ?_ ?s1); (case s1 => rfl))
      | ((with_reducible refine' n_acomp ?s1 ?s2 ?s4 ?s5 ?s6 ?_ ?_ ?_ ?_ ?_ ?_); (case s1 => kernel_rfl); (case s2 => rfl); (case s4 => exact fun _ _ => rfl); (case s5 => (intro env h; cases env; cases h; kernel_rfl)); (case s6 => decide +kernel))
      | ((with_reducible refine' snd_assign (e := Expr.Tuple (Expr.Constant _ _ _ :: Expr.Constant _ _ _ :: _) _ _) ?_ ?_ ?s1 ?s2 ?s3); (case s1 => exact fun _ => rfl); (case s2 => first | exact fun _ _ => rfl | (intro env h; cases env; cases h; kernel_rfl)); (case s3 => first | exact fun _ _ => rfl | (intro env h; cases env; cases h; kernel_rfl)))
      | ((with_reducible refine' snd_swapN (elts := Expr.Name _ _ :: _) (e := Expr.Tuple _ _ _) ?_ ?s1 ?s2 ?s3); (case s1 => kernel_rfl); (case s2 => exact fun _ _ => rfl); (case s3 => (intro env h; cases env; cases h; kernel_rfl)))
      | ((with_reducible refine' snd_assign ?_ ?_ ?s1 ?s2 ?s3); (case s1 => exact fun _ => rfl); (case s2 => first | exact fun _ _ => rfl | (intro env h; cases env; cases h; kernel_rfl)); (case s3 => first | exact fun _ _ => rfl | (intro env h; cases env; cases h; kernel_rfl)))
      | ((with_reducible refine' snd_expr ?_ ?s1 ?s2); (case s1 => (intro env h; cases env; cases h; kernel_rfl)); (case s2 => first | exact fun _ _ => rfl | (intro env h; cases env; cases h; kernel_rfl)))
      | ((with_reducible refine' sndA_tup ?_ ?s1); (case s1 => exact fun _ => ⟨rfl, rfl⟩))
      | ((with_reducible first | refine' n_range1 X ?s1 ?s2 ?_ | refine' n_enum X ?s1 ?s2 ?_); (case s1 => kernel_rfl); (case s2 => exact fun _ => rfl))
      | ((with_reducible refine' n_range2 X ?s1 ?s2 ?s3 ?_); (case s1 => kernel_rfl); (case s2 => exact fun _ => rfl); (case s3 => exact fun _ _ => rfl))
      | (with_reducible first | refine' n_listN ?_ | refine' n_listT ?_)
      | ((with_reducible refine' snd_append ?_ ?_ ?s1 ?s2 ?s3); (case s1 => exact fun _ => rfl); (case s2 => exact fun _ => rfl); (case s3 => rfl))
      | ((with_reducible first | refine' n_len X ?s1 ?s3 ?s4 ?_ | refine' n_abs X ?s1 ?s3 ?s4 ?_ | refine' n_int X ?s1 ?s3 ?s4 ?_ | refine' n_list X ?s1 ?s3 ?s4 ?_ | refine' n_min X ?s1 ?s3 ?s4 ?_ | refine' n_max X ?s1 ?s3 ?s4 ?_ | refine' n_sum X ?s1 ?s3 ?s4 ?_); (case s1 => kernel_rfl); (case s3 => exact fun _ => rfl); (case s4 => exact fun _ _ => rfl))
      | ((with_reducible first | refine' n_call X (ok_rat X) ?s1 ?s2 ?s3 ?_); (case s1 => rfl); (case s2 => kernel_rfl); (case s3 => exact fun _ => rfl))
      | ((with_reducible refine' n_comp ?s1 ?s2 ?s4 ?_ ?_ ?_ ?_ ?_ ?_); (case s1 => kernel_rfl); (case s2 => rfl); (case s4 => exact fun _ _ => rfl))
      | kernel_rfl)
  case bind => intro pm cd doc; refine ofLen2 ?_; intros; kernel_rfl
  case law =>
    intro vs σ P; refine hide fun Gq hGq => ?_; rintro ⟨a, b, n, m, rfl, ha, hb, hnm, hP⟩; refine hGq ?_; clear hGq
    refine ⟨rfl, ?_⟩
    simp only [wSeq, wRet, wOp2, wCall, wName, wVal, wStores, Loc.set, locOf, post, bin_mul, qv_num, qv_den, ofString_inj, String.reduceEq, List.map, List.cons.injEq, Option.some.injEq, V.int.injEq, if_true, if_false, exists_eq_left', exists_and_left, and_true, ne_eq, and_assoc, cRat]
    dsimp only at hP
    rw [mul_divInt] at hP
    have h1 := ha.num_lt; have h2 := ha.den_lt; have h3 := hb.num_lt; have h4 := hb.den_lt
    have hd : (a.den : Int) * b.den ≠ 0 := Int.mul_ne_zero (den_ne a) (den_ne b)
    exact ⟨mulok h1 h3 (by exact ar170 hnm), mulok h2 h4 (by exact ar170 hnm), hd, hP⟩
noncomputable def cRdiv : Con := fun vs σ P => ∃ (a b : Rat) (n m : Nat), vs = [qv a, qv b] ∧ Wq n a ∧ Wq m b ∧ n + m ≤ 130000000 ∧ b ≠ 0 ∧ P (qv (a / b)) σ
theorem ok_rdiv (X : Cx w H0 mg mb) : FnOk pg w H0 mg 4 (Str.ofString "rdiv") cRdiv := by
  refine' fn_of X (i := 8) (k := 5) (d := 3) (C := cRdiv) rfl rfl (by kernel_rfl) rfl ?snd ?bind (by kernel_rfl) rfl rfl rfl (by kernel_rfl) ?law
  case snd =>
    repeat' (first
      | (with_reducible first | exact sndB_nil | refine' sndB_cons ?_ ?_ | refine' snd_if ?_ ?_ ?_ | refine' snd_while ?_ ?_ | exact snd_no (st := Stmt.Return (some (Expr.Constant (Const.bool false) _ _)) _) | refine' snd_ret ?_ | exact snd_cont | exact snd_no (st := Stmt.Raise _ _ _) | exact sndL_nil | refine' sndA_sub ?_ ?_ | exact sndAs_nil | exact sndIfs_nil | refine' sndIfs_one ?_ | exact waF_name | exact waF_two | exact snd_int | exact snd_none | refine' snd_tup ?_ | refine' snd_lst ?_ | refine' snd_binop X.wd ?_ ?_ | refine' snd_usub ?_ | refine' snd_ifexp ?_ ?_ ?_ | refine' snd_upto ?_ ?_ | refine' sndT_and ?_ ?_ | refine' sndT_or ?_ ?_)
      | ((with_reducible first | refine' n_tgt ?s1 | refine' n_aug ?s1 ?_ | refine' n_glob X X.r0 ?s1 | refine' n_glob X X.r1 ?s1 | refine' n_name ?s1); (case s1 => kernel_rfl))
      | ((with_reducible first | refine' sndL_cons ?_ ?_ ?s1 | refine' sndAs_cons ?_ ?_ ?s1); (case s1 => exact fun _ => rfl))
      | ((with_reducible first | refine' snd_for ?_ ?_ ?_ ?s1 | refine' snd_sub ?_ ?_ ?s1); (case s1 => exact fun _ _ => rfl))
      | ((with_reducible first | refine' snd_compare ?_ ?_ ?s1 | refine' sndT_cmp ?_ ?_ ?s1); (case s1 => rfl))
      | ((with_reducible refine' n_acomp ?s1 ?s2 ?s4 ?s5 ?s6 ?_ ?_ ?_ ?_ ?_ ?_); (case s1 => kernel_rfl); (case s2 => rfl); (case s4 => exact fun _ _ => rfl); (case s5 => (intro env h; cases env; cases h; kernel_rfl)); (case s6 => decide +kernel))
      | ((with_reducible refine' snd_assign (e := Expr.Tuple (Expr.Constant _ _ _ :: Expr.Constant _ _ _ :: _) _ _) ?_ ?_ ?s1 ?s2 ?s3); (case s1 => exact fun _ => rfl); (case s2 => first | exact fun _ _ => rfl | (intro env h; cases env; cases h; kernel_rfl)); (case s3 => first | exact fun _ _ => rfl | (intro env h; cases env; cases h; kernel_rfl)))
      | ((with_reducible refine' snd_swapN (elts := Expr.Name _ _ :: _) (e := Expr.Tuple _ _ _) ?_ ?s1 ?s2 ?s3); (case s1 => kernel_rfl); (case s2 => exact fun _ _ => rfl); (case s3 => (intro env h; cases env; cases h; kernel_rfl)))
      | ((with_reducible refine' snd_assign ?_ ?_ ?s1 ?s2 ?s3); (case s1 => exact fun _ => rfl); (case s2 => first | exact fun _ _ => rfl | (intro env h; cases env; cases h; kernel_rfl)); (case s3 => first | exact fun _ _ => rfl | (intro env h; cases env; cases h; kernel_rfl)))
      | ((with_reducible refine' snd_expr ?_ ?s1 ?s2); (case s1 => (intro env h; cases env; cases h; kernel_rfl)); (case s2 => first | exact fun _ _ => rfl | (intro env h; cases env; cases h; kernel_rfl)))
      | ((with_reducible refine' sndA_tup ?_ ?s1); (case s1 => exact fun _ => ⟨rfl, rfl⟩))
      | ((with_reducible first | refine' n_range1 X ?s1 ?s2 ?_ | refine' n_enum X ?s1 ?s2 ?_); (case s1 => kernel_rfl); (case s2 => exact fun _ => rfl))
      | ((with_reducible refine' n_range2 X ?s1 ?s2 ?s3 ?_); (case s1 => kernel_rfl); (case s2 => exact fun _ => rfl); (case s3 => exact fun _ _ => rfl))
      | (with_reducible first | refine' n_listN ?_ | refine' n_listT ?_)
      | ((with_reducible refine' snd_append ?_ ?_ ?s1 ?s2 ?s3); (case s1 => exact fun _ => rfl); (case s2 => exact fun _ => rfl); (case s3 => rfl))
      | ((with_reducible first | refine' n_len X ?s1 ?s3 ?s4 ?_ | refine' n_abs X ?s1 ?s3 ?s4 ?_ | refine' n_int X ?s1 ?s3 ?s4 ?_ | refine' n_list X ?s1 ?s3 ?s4 ?_ | refine' n_min X ?s1 ?s3 ?s4 ?_ | refine' n_max X ?s1 ?s3 ?s4 ?_ | refine' n_sum X ?s1 ?s3 ?s4 ?_); (case s1 => kernel_rfl); (case s3 => exact fun _ => rfl); (case s4 => exact fun _ _ => rfl))
      | ((with_reducible first | refine' n_call X (ok_rat X) ?s1 ?s2 ?s3 ?_); (case s1 => rfl); (case s2 => kernel_rfl); (case s3 => exact fun _ => rfl))
      | ((with_reducible refine' n_comp ?s1 ?s2 ?s4 ?_ ?_ ?_ ?_ ?_ ?_); (case s1 => kernel_rfl); (case s2 => rfl); (case s4 => exact fun _ _ => rfl))
      | kernel_rfl)
  case bind => intro pm cd doc; refine ofLen2 ?_; intros; kernel_rfl
  case law =>
    intro vs σ P; refine hide fun Gq hGq => ?_; rintro ⟨a, b, n, m, rfl, ha, hb, hnm, h0, hP⟩; refine hGq ?_; clear hGq
    refine ⟨rfl, ?_⟩
    simp only [wSeq, wRet, wOp2, wCall, wName, wVal, wStores, Loc.set, locOf, post, bin_mul, qv_num, qv_den, ofString_inj, String.reduceEq, List.map, List.cons.injEq, Option.some.injEq, V.int.injEq, if_true, if_false, exists_eq_left', exists_and_left, and_true, ne_eq, and_assoc, cRat]
    rw [div_divInt] at hP
    have h1 := ha.num_lt; have h2 := ha.den_lt; have h3 := hb.num_lt; have h4 := hb.den_lt
    have hd : (a.den : Int) * b.num ≠ 0 := Int.mul_ne_zero (den_ne a) (num_ne h0)
    exact ⟨mulok h1 h4 (by exact ar170 hnm), mulok h2 h3 (by exact ar170 hnm), hd, hP⟩
noncomputable def cRneg : Con := fun vs σ P => ∃ (a : Rat), vs = [qv a] ∧ P (qv (-a)) σ
theorem ok_rneg (X : Cx w H0 mg mb) : FnOk pg w H0 mg 4 (Str.ofString "rneg") cRneg := by
  refine' fn_of X (i := 9) (k := 6) (d := 3) (C := cRneg) rfl rfl (by kernel_rfl) rfl ?snd ?bind (by kernel_rfl) rfl rfl rfl (by kernel_rfl) ?law
  case snd =>
    repeat' (first
      | (with_reducible first | exact sndB_nil | refine' sndB_cons ?_ ?_ | refine' snd_if ?_ ?_ ?_ | refine' snd_while ?_ ?_ | exact snd_no (st := Stmt.Return (some (Expr.Constant (Const.bool false) _ _)) _) | refine' snd_ret ?_ | exact snd_cont | exact snd_no (st := Stmt.Raise _ _ _) | exact sndL_nil | refine' sndA_sub ?_ ?_ | exact sndAs_nil | exact sndIfs_nil | refine' sndIfs_one ?_ | exact waF_name | exact waF_two | exact snd_int | exact snd_none | refine' snd_tup ?_ | refine' snd_lst ?_ | refine' snd_binop X.wd ?_ ?_ | refine' snd_usub ?_ | refine' snd_ifexp ?_ ?_ ?_ | refine' snd_upto ?_ ?_ | refine' sndT_and ?_ ?_ | refine' sndT_or ?_ ?_)
      | ((with_reducible first | refine' n_tgt ?s1 | refine' n_aug ?s1 ?_ | refine' n_glob X X.r0 ?s1 | refine' n_glob X X.r1 ?s1 | refine' n_name ?s1); (case s1 => kernel_rfl))
      | ((with_reducible first | refine' sndL_cons ?_ ?_ ?s1 | refine' sndAs_cons ?_ ?_ ?s1); (case s1 => exact fun _ => rfl))
      | ((with_reducible first | refine' snd_for ?_ ?_ ?_ ?s1 | refine' snd_sub ?_ ?_ ?s1); (case s1 => exact fun _ _ => rfl))
      | ((with_reducible first | refine' snd_compare ?_ ?_ ?s1 | refine' sndT_cmp ?_ ?_ ?s1); (case s1 => rfl))
      | ((with_reducible refine' n_acomp ?s1 ?s2 ?s4 ?s5 ?s6 ?_ ?_ ?_ ?_ ?_ ?_); (case s1 => kernel_rfl); (case s2 => rfl); (case s4 => exact fun _ _ => rfl); (case s5 => (intro env h; cases env; cases h; kernel_rfl)); (case s6 => decide +kernel))
      | ((with_reducible refine' snd_assign (e := Expr.Tuple (Expr.Constant _ _ _ :: Expr.Constant _ _ _ :: _) _ _) ?_ ?_ ?s1 ?s2 ?s3); (case s1 => exact fun _ => rfl); (case s2 => first | exact fun _ _ => rfl | (intro env h; cases env; cases h; kernel_rfl)); (case s3 => first | exact fun _ _ => rfl | (intro env h; cases env; cases h; kernel_rfl)))
      | ((with_reducible refine' snd_swapN (elts := Expr.Name _ _ :: _) (e := Expr.Tuple _ _ _) ?_ ?s1 ?s2 ?s3); (case s1 => kernel_rfl); (case s2 => exact fun _ _ => rfl); (case s3 => (intro env h; cases env; cases h; kernel_rfl)))
      | ((with_reducible refine' snd_assign ?_ ?_ ?s1 ?s2 ?s3); (case s1 => exact fun _ => rfl); (case s2 => first | exact fun _ _ => rfl | (intro env h; cases env; cases h; kernel_rfl)); (case s3 => first | exact fun _ _ => rfl | (intro env h; cases env; cases h; kernel_rfl)))
      | ((with_reducible refine' snd_expr ?_ ?s1 ?s2); (case s1 => (intro env h; cases env; cases h; kernel_rfl)); (case s2 => first | exact fun _ _ => rfl | (intro env h; cases env; cases h; kernel_rfl)))
      | ((with_reducible refine' sndA_tup ?_ ?s1); (case s1 => exact fun _ => ⟨rfl, rfl⟩))
      | ((with_reducible first | refine' n_range1 X ?s1 ?s2 ?_ | refine' n_enum X ?s1 ?s2 ?_); (case s1 => kernel_rfl); (case s2 => exact fun _ => rfl))
      | ((with_reducible refine' n_range2 X ?s1 ?s2 ?s3 ?_); (case s1 => kernel_rfl); (case s2 => exact fun _ => rfl); (case s3 => exact fun _ _ => rfl))
      | (with_reducible first | refine' n_listN ?_ | refine' n_listT ?_)
      | ((with_reducible refine' snd_append ?_ ?_ ?s1 ?s2 ?s3); (case s1 => exact fun _ => rfl); (case s2 => exact fun _ => rfl); (case s3 => rfl))
      | ((with_reducible first | refine' n_len X ?s1 ?s3 ?s4 ?_ | refine' n_abs X ?s1 ?s3 ?s4 ?_ | refine' n_int X ?s1 ?s3 ?s4 ?_ | refine' n_list X ?s1 ?s3 ?s4 ?_ | refine' n_min X ?s1 ?s3 ?s4 ?_ | refine' n_max X ?s1 ?s3 ?s4 ?_ | refine' n_sum X ?s1 ?s3 ?s4 ?_); (case s1 => kernel_rfl); (case s3 => exact fun _ => rfl); (case s4 => exact fun _ _ => rfl))
      | ((with_reducible first | refine' n_call X (ok_rat X) ?s1 ?s2 ?s3 ?_); (case s1 => rfl); (case s2 => kernel_rfl); (case s3 => exact fun _ => rfl))
      | ((with_reducible refine' n_comp ?s1 ?s2 ?s4 ?_ ?_ ?_ ?_ ?_ ?_); (case s1 => kernel_rfl); (case s2 => rfl); (case s4 => exact fun _ _ => rfl))
      | kernel_rfl)
  case bind => intro pm cd doc; refine ofLen1 ?_; intros; kernel_rfl
  case law =>
    intro vs σ P; refine hide fun Gq hGq => ?_; rintro ⟨a, rfl, hP⟩; refine hGq ?_; clear hGq
    refine ⟨rfl, ?_⟩
    simp only [wSeq, wRet, wTup, wOp2, wName, wVal, wStores, Loc.set, locOf, post, bin_sub, qv_num, qv_den, List.map, List.length, Option.some.injEq, if_true, exists_eq_left', true_and, Nat.reduceAdd, Nat.reduceLeDiff]
    have e : qv (-a) = V.tup [.int (0 - a.num), .int (a.den : Int)] := by simp [qv]
    rw [e] at hP; exact hP
noncomputable def cRinv : Con := fun vs σ P => ∃ (a : Rat), vs = [qv a] ∧ a ≠ 0 ∧ P (qv a⁻¹) σ
theorem ok_rinv (X : Cx w H0 mg mb) : FnOk pg w H0 mg 4 (Str.ofString "rinv") cRinv := by
  refine' fn_of X (i := 10) (k := 7) (d := 3) (C := cRinv) rfl rfl (by kernel_rfl) rfl ?snd ?bind (by kernel_rfl) rfl rfl rfl (by kernel_rfl) ?law
  case snd =>
    repeat' (first
      | (with_reducible first | exact sndB_nil | refine' sndB_cons ?_ ?_ | refine' snd_if ?_ ?_ ?_ | refine' snd_while ?_ ?_ | exact snd_no (st := Stmt.Return (some (Expr.Constant (Const.bool false) _ _)) _) | refine' snd_ret ?_ | exact snd_cont | exact snd_no (st := Stmt.Raise _ _ _) | exact sndL_nil | refine' sndA_sub ?_ ?_ | exact sndAs_nil | exact sndIfs_nil | refine' sndIfs_one ?_ | exact waF_name | exact waF_two | exact snd_int | exact snd_none | refine' snd_tup ?_ | refine' snd_lst ?_ | refine' snd_binop X.wd ?_ ?_ | refine' snd_usub ?_ | refine' snd_ifexp ?_ ?_ ?_ | refine' snd_upto ?_ ?_ | refine' sndT_and ?_ ?_ | refine' sndT_or ?_ ?_)
      | ((with_reducible first | refine' n_tgt ?s1 | refine' n_aug ?s1 ?_ | refine' n_glob X X.r0 ?s1 | refine' n_glob X X.r1 ?s1 | refine' n_name ?s1); (case s1 => kernel_rfl))
      | ((with_reducible first | refine' sndL_cons ?_ ?_ ?s1 | refine' sndAs_cons ?_ ?_ ?s1); (case s1 => exact fun _ => rfl))
      | ((with_reducible first | refine' snd_for ?_ ?_ ?_ ?s1 | refine' snd_sub ?_ ?_ ?s1); (case s1 => exact fun _ _ => rfl))
      | ((with_reducible first | refine' snd_compare ?_ ?_ ?s1 | refine' sndT_cmp ?_ ?_ ?s1); (case s1 => rfl))
      | ((with_reducible refine' n_acomp ?s1 ?s2 ?s4 ?s5 ?s6 ?_ ?_ ?_ ?_ ?_ ?_); (case s1 => kernel_rfl); (case s2 => rfl); (case s4 => exact fun _ _ => rfl); (case s5 => (intro env h; cases env; cases h; kernel_rfl)); (case s6 => decide +kernel))
      | ((with_reducible refine' snd_assign (e := Expr.Tuple (Expr.Constant _ _ _ :: Expr.Constant _ _ _ :: _) _ _) ?_ ?_ ?s1 ?s2 ?s3); (case s1 => exact fun _ => rfl); (case s2 => first | exact fun _ _ => rfl | (intro env h; cases env; cases h; kernel_rfl)); (case s3 => first | exact fun _ _ => rfl | (intro env h; cases env; cases h; kernel_rfl)))
      | ((with_reducible refine' snd_swapN (elts := Expr.Name _ _ :: _) (e := Expr.Tuple _ _ _) ?_ ?s1 ?s2 ?s3); (case s1 => kernel_rfl); (case s2 => exact fun _ _ => rfl); (case s3 => (intro env h; cases env; cases h; kernel_rfl)))
      | ((with_reducible refine' snd_assign ?_ ?_ ?s1 ?s2 ?s3); (case s1 => exact fun _ => rfl); (case s2 => first | exact fun _ _ => rfl | (intro env h; cases env; cases h; kernel_rfl)); (case s3 => first | exact fun _ _ => rfl | (intro env h; cases env; cases h; kernel_rfl)))
      | ((with_reducible refine' snd_expr ?_ ?s1 ?s2); (case s1 => (intro env h; cases env; cases h; kernel_rfl)); (case s2 => first | exact fun _ _ => rfl | (intro env h; cases env; cases h; kernel_rfl)))
      | ((with_reducible refine' sndA_tup ?_ ?s1); (case s1 => exact fun _ => ⟨rfl, rfl⟩))
      | ((with_reducible first | refine' n_range1 X ?s1 ?s2 ?_ | refine' n_enum X ?s1 ?s2 ?_); (case s1 => kernel_rfl); (case s2 => exact fun _ => rfl))
      | ((with_reducible refine' n_range2 X ?s1 ?s2 ?s3 ?_); (case s1 => kernel_rfl); (case s2 => exact fun _ => rfl); (case s3 => exact fun _ _ => rfl))
      | (with_reducible first | refine' n_listN ?_ | refine' n_listT ?_)
      | ((with_reducible refine' snd_append ?_ ?_ ?s1 ?s2 ?s3); (case s1 => exact fun _ => rfl); (case s2 => exact fun _ => rfl); (case s3 => rfl))
      | ((with_reducible first | refine' n_len X ?s1 ?s3 ?s4 ?_ | refine' n_abs X ?s1 ?s3 ?s4 ?_ | refine' n_int X ?s1 ?s3 ?s4 ?_ | refine' n_list X ?s1 ?s3 ?s4 ?_ | refine' n_min X ?s1 ?s3 ?s4 ?_ | refine' n_max X ?s1 ?s3 ?s4 ?_ | refine' n_sum X ?s1 ?s3 ?s4 ?_); (case s1 => kernel_rfl); (case s3 => exact fun _ => rfl); (case s4 => exact fun _ _ => rfl))
      | ((with_reducible first | refine' n_call X (ok_rat X) ?s1 ?s2 ?s3 ?_); (case s1 => rfl); (case s2 => kernel_rfl); (case s3 => exact fun _ => rfl))
      | ((with_reducible refine' n_comp ?s1 ?s2 ?s4 ?_ ?_ ?_ ?_ ?_ ?_); (case s1 => kernel_rfl); (case s2 => rfl); (case s4 => exact fun _ _ => rfl))
      | kernel_rfl)
  case bind => intro pm cd doc; refine ofLen1 ?_; intros; kernel_rfl
  case law =>
    intro vs σ P; refine hide fun Gq hGq => ?_; rintro ⟨a, rfl, h0, hP⟩; refine hGq ?_; clear hGq
    refine ⟨rfl, ?_⟩
    simp only [wSeq, wRet, wOp2, wCall, wName, wVal, wStores, Loc.set, locOf, post, qv_num, qv_den, List.map, List.cons.injEq, Option.some.injEq, V.int.injEq, if_true, exists_eq_left', exists_and_left, and_true, ne_eq, and_assoc, cRat]
    rw [inv_divInt] at hP
    exact ⟨num_ne h0, hP⟩
noncomputable def cRcmp : Con := fun vs σ P => ∃ (a : Rat) (n : Nat), vs = [qv a, qv 0] ∧ Wq n a ∧ n ≤ 130000000 ∧ (∀ x : Int, (x = 0 ↔ a = 0) → P (.int x) σ)
theorem ok_rcompare (X : Cx w H0 mg mb) : FnOk pg w H0 mg 4 (Str.ofString "rcompare") cRcmp := by
  refine' fn_of X (i := 11) (k := 8) (d := 3) (C := cRcmp) rfl rfl (by kernel_rfl) rfl ?snd ?bind (by kernel_rfl) rfl rfl rfl (by kernel_rfl) ?law
  case snd =>
    repeat' (first
      | (with_reducible first | exact sndB_nil | refine' sndB_cons ?_ ?_ | refine' snd_if ?_ ?_ ?_ | refine' snd_while ?_ ?_ | exact snd_no (st := Stmt.Return (some (Expr.Constant (Const.bool false) _ _)) _) | refine' snd_ret ?_ | exact snd_cont | exact snd_no (st := Stmt.Raise _ _ _) | exact sndL_nil | refine' sndA_sub ?_ ?_ | exact sndAs_nil | exact sndIfs_nil | refine' sndIfs_one ?_ | exact waF_name | exact waF_two | exact snd_int | exact snd_none | refine' snd_tup ?_ | refine' snd_lst ?_ | refine' snd_binop X.wd ?_ ?_ | refine' snd_usub ?_ | refine' snd_ifexp ?_ ?_ ?_ | refine' snd_upto ?_ ?_ | refine' sndT_and ?_ ?_ | refine' sndT_or ?_ ?_)
      | ((with_reducible first | refine' n_tgt ?s1 | refine' n_aug ?s1 ?_ | refine' n_glob X X.r0 ?s1 | refine' n_glob X X.r1 ?s1 | refine' n_name ?s1); (case s1 => kernel_rfl))
      | ((with_reducible first | refine' sndL_cons ?_ ?_ ?s1 | refine' sndAs_cons ?_ ?_ ?s1); (case s1 => exact fun _ => rfl))
      | ((with_reducible first | refine' snd_for ?_ ?_ ?_ ?s1 | refine' snd_sub ?_ ?_ ?s1); (case s1 => exact fun _ _ => rfl))
      | ((with_reducible first | refine' snd_compare ?_ ?_ ?s1 | refine' sndT_cmp ?_ ?_ ?s1); (case s1 => rfl))
      | ((with_reducible refine' n_acomp ?s1 ?s2 ?s4 ?s5 ?s6 ?_ ?_ ?_ ?_ ?_ ?_); (case s1 => kernel_rfl); (case s2 => rfl); (case s4 => exact fun _ _ => rfl); (case s5 => (intro env h; cases env; cases h; kernel_rfl)); (case s6 => decide +kernel))
      | ((with_reducible refine' snd_assign (e := Expr.Tuple (Expr.Constant _ _ _ :: Expr.Constant _ _ _ :: _) _ _) ?_ ?_ ?s1 ?s2 ?s3); (case s1 => exact fun _ => rfl); (case s2 => first | exact fun _ _ => rfl | (intro env h; cases env; cases h; kernel_rfl)); (case s3 => first | exact fun _ _ => rfl | (intro env h; cases env; cases h; kernel_rfl)))
      | ((with_reducible refine' snd_swapN (elts := Expr.Name _ _ :: _) (e := Expr.Tuple _ _ _) ?_ ?s1 ?s2 ?s3); (case s1 => kernel_rfl); (case s2 => exact fun _ _ => rfl); (case s3 => (intro env h; cases env; cases h; kernel_rfl)))
      | ((with_reducible refine' snd_assign ?_ ?_ ?s1 ?s2 ?s3); (case s1 => exact fun _ => rfl); (case s2 => first | exact fun _ _ => rfl | (intro env h; cases env; cases h; kernel_rfl)); (case s3 => first | exact fun _ _ => rfl | (intro env h; cases env; cases h; kernel_rfl)))
      | ((with_reducible refine' snd_expr ?_ ?s1 ?s2); (case s1 => (intro env h; cases env; cases h; kernel_rfl)); (case s2 => first | exact fun _ _ => rfl | (intro env h; cases env; cases h; kernel_rfl)))
      | ((with_reducible refine' sndA_tup ?_ ?s1); (case s1 => exact fun _ => ⟨rfl, rfl⟩))
      | ((with_reducible first | refine' n_range1 X ?s1 ?s2 ?_ | refine' n_enum X ?s1 ?s2 ?_); (case s1 => kernel_rfl); (case s2 => exact fun _ => rfl))
      | ((with_reducible refine' n_range2 X ?s1 ?s2 ?s3 ?_); (case s1 => kernel_rfl); (case s2 => exact fun _ => rfl); (case s3 => exact fun _ _ => rfl))
      | (with_reducible first | refine' n_listN ?_ | refine' n_listT ?_)
      | ((with_reducible refine' snd_append ?_ ?_ ?s1 ?s2 ?s3); (case s1 => exact fun _ => rfl); (case s2 => exact fun _ => rfl); (case s3 => rfl))
      | ((with_reducible first | refine' n_len X ?s1 ?s3 ?s4 ?_ | refine' n_abs X ?s1 ?s3 ?s4 ?_ | refine' n_int X ?s1 ?s3 ?s4 ?_ | refine' n_list X ?s1 ?s3 ?s4 ?_ | refine' n_min X ?s1 ?s3 ?s4 ?_ | refine' n_max X ?s1 ?s3 ?s4 ?_ | refine' n_sum X ?s1 ?s3 ?s4 ?_); (case s1 => kernel_rfl); (case s3 => exact fun _ => rfl); (case s4 => exact fun _ _ => rfl))
      | ((with_reducible first | refine' n_call X (ok_rat X) ?s1 ?s2 ?s3 ?_); (case s1 => rfl); (case s2 => kernel_rfl); (case s3 => exact fun _ => rfl))
      | ((with_reducible refine' n_comp ?s1 ?s2 ?s4 ?_ ?_ ?_ ?_ ?_ ?_); (case s1 => kernel_rfl); (case s2 => rfl); (case s4 => exact fun _ _ => rfl))
      | kernel_rfl)
  case bind => intro pm cd doc; refine ofLen2 ?_; intros; kernel_rfl
  case law =>
    intro vs σ P; refine hide fun Gq hGq => ?_; rintro ⟨a, n, rfl, ha, hn, hP⟩; refine hGq ?_; clear hGq
    refine ⟨rfl, ?_⟩
    simp only [wSeq, wAssign, wStore, wRet, wOp2, wName, wVal, wStores, Loc.set, locOf, post, bin_sub, bin_subb, bin_mul, lt_ints, gt_ints, qv_num, qv_den, ofString_inj, String.reduceEq, List.map, Option.some.injEq, if_true, if_false, exists_eq_left']
    have h1 := ha.num_lt; have h2 := ha.den_lt
    have e1 : ((0 : Rat).den : Int) = 1 := rfl
    have e2 : (0 : Rat).num = 0 := rfl
    rw [e1, e2]
    refine ⟨mulok (m := 1) h1 (by decide) (by exact ar172 hn), mulok (n := 1) (by decide) h2 (by exact ar173 hn), hP _ ?_⟩
    rw [← Rat.num_eq_zero]
    unfold b2i
    simp only [Int.mul_one, Int.zero_mul, Int.sub_zero, decide_eq_true_eq]
    split <;> split <;> (first | exact ar174 (by assumption) (by assumption) | exact ar175 (by assumption) | exact ar176 (by assumption) | exact ar177 (by assumption) (by assumption))
end Mine

namespace Mine
open PySem PySem.W PyProof.Rows
set_option linter.unusedVariables false
set_option linter.unusedSimpArgs false
set_option maxRecDepth 100000
set_option maxHeartbeats 4000000
open PySem.Calls
variable {w : World} {H0 : Heap} {mg mb : Str → Option Value}


noncomputable def cDisc : Con := fun vs σ P => ∃ (k j n B X : Nat) (row poly : List Rat), vs = [.ref k, .int n, .ref j] ∧ σ[k]? = some (row.map qv) ∧ σ[j]? = some (poly.map qv) ∧ n < row.length ∧ row.length ≤ 1000 ∧ poly.length ≤ 1000 ∧ 0 < poly.length ∧ co poly 0 = 1 ∧
  1 ≤ B ∧ 1 ≤ X ∧ Wl B row ∧ Wl X poly ∧ B + (n + 1) * (X + B + 1) ≤ 65000000 ∧ (Wq (B + n * (X + B + 1)) (cv (co poly) (co row) n) → P (qv (cv (co poly) (co row) n)) σ)
inductive IvDisc (σ : Sto) (k j n M B X : Nat) (poly row : List Rat) (i : Nat) (ε : Loc) (σ' : Sto) (q : Rat) : Prop where
  | mk : (ε (Str.ofString "found") = some (qv q)) → (q = sm (fun i => co poly i * co row (n - i)) (i + 1)) → (Wq (B + i * (X + B + 1)) q) → IvDisc σ k j n M B X poly row i ε σ' q
theorem ok_discrepancy (X : Cx w H0 mg mb) : FnOk pg w H0 mg 5 (Str.ofString "discrepancy") cDisc := by
  refine' fn_of X (i := 12) (k := 9) (d := 4) (C := cDisc) rfl rfl (by kernel_rfl) rfl ?snd ?bind (by kernel_rfl) rfl rfl rfl (by kernel_rfl) ?law
  case snd =>
    repeat' (first
      | (with_reducible first | exact sndB_nil | refine' sndB_cons ?_ ?_ | refine' snd_if ?_ ?_ ?_ | refine' snd_while ?_ ?_ | exact snd_no (st := Stmt.Return (some (Expr.Constant (Const.bool false) _ _)) _) | refine' snd_ret ?_ | exact snd_cont | exact snd_no (st := Stmt.Raise _ _ _) | exact sndL_nil | refine' sndA_sub ?_ ?_ | exact sndAs_nil | exact sndIfs_nil | refine' sndIfs_one ?_ | exact waF_name | exact waF_two | exact snd_int | exact snd_none | refine' snd_tup ?_ | refine' snd_lst ?_ | refine' snd_binop X.wd ?_ ?_ | refine' snd_usub ?_ | refine' snd_ifexp ?_ ?_ ?_ | refine' snd_upto ?_ ?_ | refine' sndT_and ?_ ?_ | refine' sndT_or ?_ ?_)
      | ((with_reducible first | refine' n_tgt ?s1 | refine' n_aug ?s1 ?_ | refine' n_glob X X.r0 ?s1 | refine' n_glob X X.r1 ?s1 | refine' n_name ?s1); (case s1 => kernel_rfl))
      | ((with_reducible first | refine' sndL_cons ?_ ?_ ?s1 | refine' sndAs_cons ?_ ?_ ?s1); (case s1 => exact fun _ => rfl))
      | ((with_reducible first | refine' snd_for ?_ ?_ ?_ ?s1 | refine' snd_sub ?_ ?_ ?s1); (case s1 => exact fun _ _ => rfl))
      | ((with_reducible first | refine' snd_compare ?_ ?_ ?s1 | refine' sndT_cmp ?_ ?_ ?s1); (case s1 => rfl))
      | ((with_reducible refine' n_acomp ?s1 ?s2 ?s4 ?s5 ?s6 ?_ ?_ ?_ ?_ ?_ ?_); (case s1 => kernel_rfl); (case s2 => rfl); (case s4 => exact fun _ _ => rfl); (case s5 => (intro env h; cases env; cases h; kernel_rfl)); (case s6 => decide +kernel))
      | ((with_reducible refine' snd_assign (e := Expr.Tuple (Expr.Constant _ _ _ :: Expr.Constant _ _ _ :: _) _ _) ?_ ?_ ?s1 ?s2 ?s3); (case s1 => exact fun _ => rfl); (case s2 => first | exact fun _ _ => rfl | (intro env h; cases env; cases h; kernel_rfl)); (case s3 => first | exact fun _ _ => rfl | (intro env h; cases env; cases h; kernel_rfl)))
      | ((with_reducible refine' snd_swapN (elts := Expr.Name _ _ :: _) (e := Expr.Tuple _ _ _) ?_ ?s1 ?s2 ?s3); (case s1 => kernel_rfl); (case s2 => exact fun _ _ => rfl); (case s3 => (intro env h; cases env; cases h; kernel_rfl)))
      | ((with_reducible refine' snd_assign ?_ ?_ ?s1 ?s2 ?s3); (case s1 => exact fun _ => rfl); (case s2 => first | exact fun _ _ => rfl | (intro env h; cases env; cases h; kernel_rfl)); (case s3 => first | exact fun _ _ => rfl | (intro env h; cases env; cases h; kernel_rfl)))
      | ((with_reducible refine' snd_expr ?_ ?s1 ?s2); (case s1 => (intro env h; cases env; cases h; kernel_rfl)); (case s2 => first | exact fun _ _ => rfl | (intro env h; cases env; cases h; kernel_rfl)))
      | ((with_reducible refine' sndA_tup ?_ ?s1); (case s1 => exact fun _ => ⟨rfl, rfl⟩))
      | ((with_reducible first | refine' n_range1 X ?s1 ?s2 ?_ | refine' n_enum X ?s1 ?s2 ?_); (case s1 => kernel_rfl); (case s2 => exact fun _ => rfl))
      | ((with_reducible refine' n_range2 X ?s1 ?s2 ?s3 ?_); (case s1 => kernel_rfl); (case s2 => exact fun _ => rfl); (case s3 => exact fun _ _ => rfl))
      | (with_reducible first | refine' n_listN ?_ | refine' n_listT ?_)
      | ((with_reducible refine' snd_append ?_ ?_ ?s1 ?s2 ?s3); (case s1 => exact fun _ => rfl); (case s2 => exact fun _ => rfl); (case s3 => rfl))
      | ((with_reducible first | refine' n_len X ?s1 ?s3 ?s4 ?_ | refine' n_abs X ?s1 ?s3 ?s4 ?_ | refine' n_int X ?s1 ?s3 ?s4 ?_ | refine' n_list X ?s1 ?s3 ?s4 ?_ | refine' n_min X ?s1 ?s3 ?s4 ?_ | refine' n_max X ?s1 ?s3 ?s4 ?_ | refine' n_sum X ?s1 ?s3 ?s4 ?_); (case s1 => kernel_rfl); (case s3 => exact fun _ => rfl); (case s4 => exact fun _ _ => rfl))
      | ((with_reducible first | refine' n_call X (ok_radd X) ?s1 ?s2 ?s3 ?_ | refine' n_call X (ok_rmul X) ?s1 ?s2 ?s3 ?_); (case s1 => rfl); (case s2 => kernel_rfl); (case s3 => exact fun _ => rfl))
      | ((with_reducible refine' n_comp ?s1 ?s2 ?s4 ?_ ?_ ?_ ?_ ?_ ?_); (case s1 => kernel_rfl); (case s2 => rfl); (case s4 => exact fun _ _ => rfl))
      | kernel_rfl)
  case bind => intro pm cd doc; refine ofLen3 ?_; intros; kernel_rfl
  case law =>
    intro vs σ P; refine hide fun Gq hGq => ?_; rintro ⟨k, j, n, B, X, row, poly, rfl, hk, hj, hn, hlr, hlp, hp0, hp1, hB, hX, hwr, hwp, hbnd, hP⟩; refine hGq ?_; clear hGq
    refine ⟨rfl, ?_⟩
    simp only [wSeq, wAssign, wStore, wRet, wOp2, wCall, wName, wVal, wStores, wIRange2, wFor, Loc.set, locOf, post, bin_add, bin_sub, ofString_inj, String.reduceEq, cLen, cMin, List.map, List.cons.injEq, Option.some.injEq, V.int.injEq, V.ref.injEq, if_true, if_false, exists_eq_left', exists_and_left, and_true, Int.reduceNeg, and_assoc]
    refine qget hk (by exact ar178) (by simpa using hn) ?_
    simp only [hj, Option.some.injEq, exists_eq_left', Int.reduceNeg, List.length_map]
    have hm : (min (n : Int) ((poly.length : Int) - 1) + 1 - 1).toNat = min n (poly.length - 1) := by omega
    refine ⟨by decide, by decide, by exact ar179, by exact ar180 hlp, ?_⟩
    rw [hm]
    generalize hM : min n (poly.length - 1) = M
    have hMn : M ≤ n := by exact ar181 hM
    refine for_of (fun i ε σ' => σ' = σ ∧ ε (Str.ofString "row") = some (.ref k) ∧ ε (Str.ofString "polynomial") = some (.ref j) ∧ ε (Str.ofString "n") = some (.int n) ∧ i ≤ M ∧ ∃ (q : Rat), IvDisc σ k j n M B X poly row i ε σ' q) ?_ ?_ ?_
    · refine ⟨rfl, by kernel_rfl, by kernel_rfl, by kernel_rfl, by exact ar51, _, by simp [Loc.set]; rfl, ?_, ?_⟩
      · simp [sm, hp1, Rat.zero_add]
      · simpa using co_w hwr hB _
    · intro ε σ'; refine hide fun Gq hGq => ?_; rintro ⟨rfl, h1, h2, h3, hi, q, h4, h5, h6⟩; refine hGq ?_; clear hGq
      refine ⟨trivial, _, h4, ?_⟩
      rw [rng_len] at h5 h6
      have e : q = cv (co poly) (co row) n := by
        rw [h5, cv, sm_more (m := M + 1) (n := n + 1) (by exact ar182 hMn)]
        intro i h1 h2
        rw [co_big (by exact ar183 hM h1 h2), Rat.zero_mul]
      rw [e] at h6 ⊢
      refine hP (h6.mono ?_)
      exact Nat.add_le_add_left (Nat.mul_le_mul_right _ hMn) _
    · intro i x ε σ' K hx hK; refine hide fun Gq hGq => ?_; rintro ⟨rfl, h1, h2, h3, hi, q, h4, h5, h6⟩; refine hGq ?_; clear hGq
      obtain ⟨rfl, hiM⟩ := rng_get hx
      refine ⟨trivial, ?_⟩
      simp only [h1, h2, h3, h4, wSeq, wNil, wAssign, wStore, wCall, Loc.set, bin_sub, ofString_inj, String.reduceEq, Option.some.injEq, if_true, if_false, exists_eq_left']
      refine qget hj (by exact ar184) (by exact ar185 hM hiM) ?_
      refine qget hk (by exact ar186 hMn hiM) (by exact ar187 hn) ?_
      have w1 := co_w hwp hX (1 + (i : Int)).toNat
      have w2 := co_w hwr hB ((n : Int) - (1 + (i : Int))).toNat
      have e1 : (1 + (i : Int)).toNat = i + 1 := by exact ar188
      have e2 : ((n : Int) - (1 + (i : Int))).toNat = n - (i + 1) := by exact ar189
      rw [e1] at w1; rw [e2] at w2
      simp only [e1, e2]
      have hi1 : (i + 1) * (X + B + 1) = i * (X + B + 1) + (X + B + 1) := Nat.succ_mul ..
      have hn1 : (n + 1) * (X + B + 1) = n * (X + B + 1) + (X + B + 1) := Nat.succ_mul ..
      have hle : (i + 1) * (X + B + 1) ≤ n * (X + B + 1) := Nat.mul_le_mul_right _ (by exact ar190 hMn hiM)
      refine ⟨_, _, _, _, rfl, w1, w2, by exact ar191 hbnd hn1, _, _, _, _, rfl, h6, w1.mul w2, by exact ar192 hbnd hi1 hn1 hle, hK _ _ ⟨rfl, (Eq.trans (by kernel_rfl) h1), (Eq.trans (by kernel_rfl) h2), (Eq.trans (by kernel_rfl) h3), by exact ar96 hiM, _, by simp [Loc.set]; rfl, ?_, ?_⟩⟩
      · rw [h5]; rfl
      · exact (h6.add (w1.mul w2)).mono (by exact ar193 hi1)

theorem co_set {l : List Rat} {i t : Nat} {v : Rat} (h : i < l.length) : co (l.set i v) t = if t = i then v else co l t := by
  unfold co
  rw [List.getD_eq_getElem?_getD, List.getElem?_set, List.getD_eq_getElem?_getD]
  by_cases e : i = t
  · subst e; simp [h]
  · rw [if_neg e, if_neg (fun h => e h.symm)]
theorem set_qv {l : List Rat} {i : Nat} {v : Rat} : (l.map qv).set i (qv v) = (l.set i v).map qv := (List.map_set ..).symm
theorem Wl.set {n i : Nat} {l : List Rat} {v : Rat} (h : Wl n l) (hv : Wq n v) : Wl n (l.set i v) := fun q hq => by
  rcases List.mem_or_eq_of_mem_set hq with h1 | h1
  · exact h q h1
  · rw [h1]; exact hv
theorem rep_q0 (n : Nat) : (List.replicate n [qv 0]).flatten = (List.replicate n (0 : Rat)).map qv := by
  induction n with
  | zero => rfl
  | succ n ih => rw [List.replicate_succ, List.flatten_cons, ih]; rfl
theorem co_app0 {l : List Rat} {n t : Nat} : co (l ++ List.replicate n 0) t = co l t := by
  unfold co
  simp only [List.getD_eq_getElem?_getD]
  by_cases h : t < l.length
  · rw [List.getElem?_append_left h]
  · rw [List.getElem?_append_right (by exact ar15 h), List.getElem?_replicate]
    rw [List.getElem?_eq_none (by exact ar15 h : l.length ≤ t)]
    split <;> rfl
theorem Wl.app0 {n m : Nat} {l : List Rat} (h : Wl n l) (hn : 1 ≤ n) : Wl n (l ++ List.replicate m 0) := fun q hq => by
  rcases List.mem_append.mp hq with h1 | h1
  · exact h q h1
  · rw [(List.mem_replicate.mp h1).2]; exact Wq.zero hn

noncomputable def cMend : Con := fun vs σ P => ∃ (k j g F N X : Nat) (num : Rat) (poly former : List Rat), vs = [.ref k, qv num, .ref j, .int g] ∧ σ[k]? = some (poly.map qv) ∧ σ[j]? = some (former.map qv) ∧ poly.length ≤ 100 ∧ former.length ≤ 100 ∧ g ≤ 100 ∧
  1 ≤ X ∧ Wl X poly ∧ Wl F former ∧ Wq N num ∧ X + N + F + 1 ≤ 65000000 ∧ ∀ σ' kk r, σ <+: σ' → σ'[kk]? = some (r.map qv) → r.length = max poly.length (former.length + g) → Wl (X + N + F + 1) r →
    (∀ t, co r t = co poly t - (if g ≤ t then num * co former (t - g) else 0)) → P (.ref kk) σ'
inductive IvMend (σ : Sto) (g X N F : Nat) (num : Rat) (poly former : List Rat) (i : Nat) (ε : Loc) (σ' : Sto) (r : List Rat) : Prop where
  | mk : (σ'[σ.length + 3]? = some (r.map qv)) → (r.length = max poly.length (former.length + g)) → (Wl (X + N + F + 1) r) → (∀ t, co r t = co poly t - (if g ≤ t ∧ t < g + i then num * co former (t - g) else 0)) → IvMend σ g X N F num poly former i ε σ' r
theorem ok_mended (X : Cx w H0 mg mb) : FnOk pg w H0 mg 5 (Str.ofString "mended") cMend := by
  refine' fn_of X (i := 13) (k := 10) (d := 4) (C := cMend) rfl rfl (by kernel_rfl) rfl ?snd ?bind (by kernel_rfl) rfl rfl rfl (by kernel_rfl) ?law
  case snd =>
    repeat' (first
      | (with_reducible first | exact sndB_nil | refine' sndB_cons ?_ ?_ | refine' snd_if ?_ ?_ ?_ | refine' snd_while ?_ ?_ | exact snd_no (st := Stmt.Return (some (Expr.Constant (Const.bool false) _ _)) _) | refine' snd_ret ?_ | exact snd_cont | exact snd_no (st := Stmt.Raise _ _ _) | exact sndL_nil | refine' sndA_sub ?_ ?_ | exact sndAs_nil | exact sndIfs_nil | refine' sndIfs_one ?_ | exact waF_name | exact waF_two | exact snd_int | exact snd_none | refine' snd_tup ?_ | refine' snd_lst ?_ | refine' snd_binop X.wd ?_ ?_ | refine' snd_usub ?_ | refine' snd_ifexp ?_ ?_ ?_ | refine' snd_upto ?_ ?_ | refine' sndT_and ?_ ?_ | refine' sndT_or ?_ ?_)
      | ((with_reducible first | refine' n_tgt ?s1 | refine' n_aug ?s1 ?_ | refine' n_glob X X.r0 ?s1 | refine' n_glob X X.r1 ?s1 | refine' n_name ?s1); (case s1 => kernel_rfl))
      | ((with_reducible first | refine' sndL_cons ?_ ?_ ?s1 | refine' sndAs_cons ?_ ?_ ?s1); (case s1 => exact fun _ => rfl))
      | ((with_reducible first | refine' snd_for ?_ ?_ ?_ ?s1 | refine' snd_sub ?_ ?_ ?s1); (case s1 => exact fun _ _ => rfl))
      | ((with_reducible first | refine' snd_compare ?_ ?_ ?s1 | refine' sndT_cmp ?_ ?_ ?s1); (case s1 => rfl))
      | ((with_reducible refine' n_acomp ?s1 ?s2 ?s4 ?s5 ?s6 ?_ ?_ ?_ ?_ ?_ ?_); (case s1 => kernel_rfl); (case s2 => rfl); (case s4 => exact fun _ _ => rfl); (case s5 => (intro env h; cases env; cases h; kernel_rfl)); (case s6 => decide +kernel))
      | ((with_reducible refine' snd_assign (e := Expr.Tuple (Expr.Constant _ _ _ :: Expr.Constant _ _ _ :: _) _ _) ?_ ?_ ?s1 ?s2 ?s3); (case s1 => exact fun _ => rfl); (case s2 => first | exact fun _ _ => rfl | (intro env h; cases env; cases h; kernel_rfl)); (case s3 => first | exact fun _ _ => rfl | (intro env h; cases env; cases h; kernel_rfl)))
      | ((with_reducible refine' snd_swapN (elts := Expr.Name _ _ :: _) (e := Expr.Tuple _ _ _) ?_ ?s1 ?s2 ?s3); (case s1 => kernel_rfl); (case s2 => exact fun _ _ => rfl); (case s3 => (intro env h; cases env; cases h; kernel_rfl)))
      | ((with_reducible refine' snd_assign ?_ ?_ ?s1 ?s2 ?s3); (case s1 => exact fun _ => rfl); (case s2 => first | exact fun _ _ => rfl | (intro env h; cases env; cases h; kernel_rfl)); (case s3 => first | exact fun _ _ => rfl | (intro env h; cases env; cases h; kernel_rfl)))
      | ((with_reducible refine' snd_expr ?_ ?s1 ?s2); (case s1 => (intro env h; cases env; cases h; kernel_rfl)); (case s2 => first | exact fun _ _ => rfl | (intro env h; cases env; cases h; kernel_rfl)))
      | ((with_reducible refine' sndA_tup ?_ ?s1); (case s1 => exact fun _ => ⟨rfl, rfl⟩))
      | ((with_reducible first | refine' n_range1 X ?s1 ?s2 ?_ | refine' n_enum X ?s1 ?s2 ?_); (case s1 => kernel_rfl); (case s2 => exact fun _ => rfl))
      | ((with_reducible refine' n_range2 X ?s1 ?s2 ?s3 ?_); (case s1 => kernel_rfl); (case s2 => exact fun _ => rfl); (case s3 => exact fun _ _ => rfl))
      | (with_reducible first | refine' n_listN ?_ | refine' n_listT ?_)
      | ((with_reducible refine' snd_append ?_ ?_ ?s1 ?s2 ?s3); (case s1 => exact fun _ => rfl); (case s2 => exact fun _ => rfl); (case s3 => rfl))
      | ((with_reducible first | refine' n_len X ?s1 ?s3 ?s4 ?_ | refine' n_abs X ?s1 ?s3 ?s4 ?_ | refine' n_int X ?s1 ?s3 ?s4 ?_ | refine' n_list X ?s1 ?s3 ?s4 ?_ | refine' n_min X ?s1 ?s3 ?s4 ?_ | refine' n_max X ?s1 ?s3 ?s4 ?_ | refine' n_sum X ?s1 ?s3 ?s4 ?_); (case s1 => kernel_rfl); (case s3 => exact fun _ => rfl); (case s4 => exact fun _ _ => rfl))
      | ((with_reducible first | refine' n_call X (ok_rsub X) ?s1 ?s2 ?s3 ?_ | refine' n_call X (ok_rmul X) ?s1 ?s2 ?s3 ?_); (case s1 => rfl); (case s2 => kernel_rfl); (case s3 => exact fun _ => rfl))
      | ((with_reducible refine' n_comp ?s1 ?s2 ?s4 ?_ ?_ ?_ ?_ ?_ ?_); (case s1 => kernel_rfl); (case s2 => rfl); (case s4 => exact fun _ _ => rfl))
      | kernel_rfl)
  case bind => intro pm cd doc; refine ofLen4 ?_; intros; kernel_rfl
  case law =>
    intro vs σ P; refine hide fun Gq hGq => ?_; rintro ⟨k, j, g, F, N, X, num, poly, former, rfl, hk, hj, hlp, hlf, hg, hX, hwp, hwf, hwn, hbnd, hP⟩; refine hGq ?_; clear hGq
    refine ⟨rfl, ?_⟩
    simp only [hk, hj, wSeq, wAssign, wStore, wRet, wLst, wOp2, wCall, wName, wVal, wStores, wIEnum, wFor, Loc.set, locOf, post, bin_add, bin_sub, bin_cat, bin_rep, qv0, ofString_inj, String.reduceEq, cLen, cList, cMax, List.map, List.length, List.cons.injEq, Option.some.injEq, V.int.injEq, V.ref.injEq, if_true, if_false, exists_eq_left', exists_and_left, and_true, true_and, Nat.reduceAdd, Nat.reduceLeDiff, Int.reduceNeg, and_assoc, List.length_map]
    simp only [gotA hk, gotA hj, List.append_assoc, List.cons_append, List.nil_append, List.length_append, List.length_cons, List.length_nil, got_at0, got_at, List.getElem?_cons_zero, List.getElem?_cons_succ, List.length_map, Nat.zero_add, Nat.reduceAdd, Option.some.injEq, exists_eq_left']
    generalize hN : (max (poly.length : Int) (former.length + g) - poly.length).toNat = M
    have hM : poly.length + M = max poly.length (former.length + g) := by exact ar194 hN
    refine ⟨by exact ar195 hlf hg hM, by exact ar196, by exact ar197 hlf hg, by simp; exact ar198 hlp hlf hg hM, ?_⟩
    rw [rep_q0, ← List.map_append]
    refine for_of (fun i ε σ' => σ <+: σ' ∧ ε (Str.ofString "found") = some (.ref (σ.length + 3)) ∧ ε (Str.ofString "number") = some (qv num) ∧ ε (Str.ofString "gap") = some (.int g) ∧ ∃ (r : List Rat), IvMend σ g X N F num poly former i ε σ' r) ?_ ?_ ?_
    · refine ⟨pre_app, by kernel_rfl, by kernel_rfl, by kernel_rfl, _, got_at, by simpa using hM, fun q hq => ((hwp.app0 hX) q hq).mono (by exact ar199), fun t => ?_⟩
      rw [if_neg (by exact ar200), co_app0]; grind
    · intro ε σ'; refine hide fun Gq hGq => ?_; rintro ⟨hpre, h1, h2, h3, r, h4, h5, h6, h7⟩; refine hGq ?_; clear hGq
      refine ⟨got_pre hpre hj, _, h1, hP _ _ r hpre h4 h5 h6 fun t => ?_⟩
      rw [h7 t, enm_len, List.length_map]
      by_cases e : g ≤ t
      · by_cases e2 : t < g + former.length
        · simp [e, e2]
        · rw [if_neg (by exact ar201 e2), if_pos e, co_big (l := former) (by exact ar202 e2), Rat.mul_zero]
      · rw [if_neg (by exact ar203 e), if_neg (by exact ar204 e)]
    · intro i x ε σ' K hx hK; refine hide fun Gq hGq => ?_; rintro ⟨hpre, h1, h2, h3, r, h4, h5, h6, h7⟩; refine hGq ?_; clear hGq
      obtain ⟨y, hy, rfl⟩ := enm_get hx
      obtain ⟨rfl, hi⟩ := qmap_get hy
      refine ⟨got_pre hpre hj, ?_⟩
      simp only [wSeq, wNil, wAssign, wStore, wUnpack, wACons, wOp2, wCall, wName, wSub, Loc.set, ofString_inj, String.reduceEq, List.length, List.cons.injEq, List.nil_eq, Option.some.injEq, V.tup.injEq, if_true, if_false, exists_eq_left, exists_eq_left', exists_and_left, true_and, Nat.reduceAdd, and_assoc]
      have f1 : ((ε.set (Str.ofString "at") (.int i)).set (Str.ofString "one") (qv (co former i))) (Str.ofString "found") = some (.ref (σ.length + 3)) := (Eq.trans (by kernel_rfl) h1)
      have f2 : ((ε.set (Str.ofString "at") (.int i)).set (Str.ofString "one") (qv (co former i))) (Str.ofString "number") = some (qv num) := (Eq.trans (by kernel_rfl) h2)
      have f3 : ((ε.set (Str.ofString "at") (.int i)).set (Str.ofString "one") (qv (co former i))) (Str.ofString "gap") = some (.int g) := (Eq.trans (by kernel_rfl) h3)
      generalize hε : (ε.set (Str.ofString "at") (.int i)).set (Str.ofString "one") (qv (co former i)) = ε1 at *
      simp only [h1, h2, h3, bin_add, Option.some.injEq, exists_eq_left']
      have e1 : ((i : Int) + g).toNat = i + g := by exact ar205
      refine qget h4 (by exact ar206) (by exact ar207 h5 hi) ?_
      rw [e1]
      have w0 : Wq X (co r (i + g)) := by
        rw [h7, if_neg (by exact ar208)]
        have : co poly (i + g) - 0 = co poly (i + g) := by grind
        rw [this]; exact co_w hwp hX _
      have w1 : Wq F (co former i) := hwf _ (List.mem_of_getElem? (co_get hi))
      refine ⟨_, _, _, _, rfl, hwn, w1, by exact ar209 hbnd, _, _, _, _, rfl, w0, hwn.mul w1, by exact ar210 hbnd, ?_⟩
      refine setitem_ref h4 (by exact ar206) (by simp; exact ar211 h5 hi) ?_
      rw [e1, set_qv]
      refine hK _ _ ⟨pre_set hpre (by exact ar212), f1, f2, f3, _, got_set h4, by simpa using h5, h6.set ((w0.sub (hwn.mul w1)).mono (by exact ar213)), fun t => ?_⟩
      rw [co_set (by exact ar214 h5 hi)]
      by_cases e : t = i + g
      · subst e
        rw [if_pos rfl, if_pos (by exact ar215), h7, if_neg (by exact ar208), Nat.add_sub_cancel]
        grind
      · rw [if_neg e, h7]
        by_cases e2 : g ≤ t ∧ t < g + i
        · rw [if_pos e2, if_pos (by exact ar216 e2)]
        · rw [if_neg e2, if_neg (by exact ar217 e e2)]
end Mine

namespace Mine
open PySem PySem.W PyProof.Rows
set_option linter.unusedVariables false
set_option linter.unusedSimpArgs false
set_option maxRecDepth 100000
set_option maxHeartbeats 4000000
open PySem.Calls
variable {w : World} {H0 : Heap} {mg mb : Str → Option Value}


noncomputable def cLeast : Con := fun vs σ P => ∃ (k L : Nat) (row : List Rat) (A : Nat → Rat), vs = [.ref k] ∧ σ[k]? = some (row.map qv) ∧ row.length = 6 ∧ Wl 8 row ∧ A 0 = 1 ∧ (∀ i, L < i → A i = 0) ∧ (∀ k, L ≤ k → k < 6 → cv A (co row) k = 0) ∧
  ∀ σ' kk r (D : Nat → Rat), σ <+: σ' → σ'[kk]? = some (r.map qv) → r.length ≤ L → D 0 = 1 → (∀ i, r.length < i → D i = 0) → (∀ i, i < r.length → co r i = - D (i + 1)) → (∀ k, r.length ≤ k → k < 6 → cv D (co row) k = 0) → P (.ref kk) σ'
noncomputable def bW : Nat → Nat | 0 => 1 | n + 1 => 2 * bW n + 2 * (8 + n * (bW n + 9)) + 1
noncomputable def bU (n : Nat) : Nat := 8 + n * (bW n + 9)
theorem b_ok : ∀ n, n < 6 → 1 ≤ bW n ∧ 8 + (n + 1) * (bW n + 8 + 1) ≤ 65000000 ∧ bU n + bU n + bW n + bW n + 1 ≤ 65000000 ∧ bU n ≤ bU (n + 1) ∧ bW n ≤ bW (n + 1) := by decide
inductive IvLeast (k L : Nat) (row : List Rat) (n : Nat) (ε : Loc) (σ' : Sto) (kn kf size sizeF gap : Nat) (now former : List Rat) (last : Rat) : Prop where
  | mk : (ε (Str.ofString "row") = some (.ref k)) → (ε (Str.ofString "now") = some (.ref kn)) → (ε (Str.ofString "former") = some (.ref kf)) → (ε (Str.ofString "size") = some (.int size)) → (ε (Str.ofString "gap") = some (.int gap)) → (ε (Str.ofString "last") = some (qv last)) → (σ'[kn]? = some (now.map qv)) → (σ'[kf]? = some (former.map qv)) → (0 < now.length) → (now.length ≤ size + 1) → (former.length ≤ sizeF + 1) → (Wl (bW n) now) → (Wl (bW n) former) → (Wq (bU n) last) → (size ≤ L) → (Bm (co row) n size sizeF gap (co now) (co former) last) → IvLeast k L row n ε σ' kn kf size sizeF gap now former last
theorem ok_least_recurrence (X : Cx w H0 mg mb) : FnOk pg w H0 mg 6 (Str.ofString "least_recurrence") cLeast := by
  refine' fn_of X (i := 14) (k := 11) (d := 5) (C := cLeast) rfl rfl (by kernel_rfl) rfl ?snd ?bind (by kernel_rfl) rfl rfl rfl (by kernel_rfl) ?law
  case snd =>
    repeat' (first
      | (with_reducible first | exact sndB_nil | refine' sndB_cons ?_ ?_ | refine' snd_if ?_ ?_ ?_ | refine' snd_while ?_ ?_ | exact snd_no (st := Stmt.Return (some (Expr.Constant (Const.bool false) _ _)) _) | refine' snd_ret ?_ | exact snd_cont | exact snd_no (st := Stmt.Raise _ _ _) | exact sndL_nil | refine' sndA_sub ?_ ?_ | exact sndAs_nil | exact sndIfs_nil | refine' sndIfs_one ?_ | exact waF_name | exact waF_two | exact snd_int | exact snd_none | refine' snd_tup ?_ | refine' snd_lst ?_ | refine' snd_binop X.wd ?_ ?_ | refine' snd_usub ?_ | refine' snd_ifexp ?_ ?_ ?_ | refine' snd_upto ?_ ?_ | refine' sndT_and ?_ ?_ | refine' sndT_or ?_ ?_)
      | ((with_reducible first | refine' n_tgt ?s1 | refine' n_aug ?s1 ?_ | refine' n_glob X X.r0 ?s1 | refine' n_glob X X.r1 ?s1 | refine' n_name ?s1); (case s1 => kernel_rfl))
      | ((with_reducible first | refine' sndL_cons ?_ ?_ ?s1 | refine' sndAs_cons ?_ ?_ ?s1); (case s1 => exact fun _ => rfl))
      | ((with_reducible first | refine' snd_for ?_ ?_ ?_ ?s1 | refine' snd_sub ?_ ?_ ?s1); (case s1 => exact fun _ _ => rfl))
      | ((with_reducible first | refine' snd_compare ?_ ?_ ?s1 | refine' sndT_cmp ?_ ?_ ?s1); (case s1 => rfl))
      | ((with_reducible refine' n_acomp ?s1 ?s2 ?s4 ?s5 ?s6 ?_ ?_ ?_ ?_ ?_ ?_); (case s1 => kernel_rfl); (case s2 => rfl); (case s4 => exact fun _ _ => rfl); (case s5 => (intro env h; cases env; cases h; kernel_rfl)); (case s6 => decide +kernel))
      | ((with_reducible refine' snd_assign (e := Expr.Tuple (Expr.Constant _ _ _ :: Expr.Constant _ _ _ :: _) _ _) ?_ ?_ ?s1 ?s2 ?s3); (case s1 => exact fun _ => rfl); (case s2 => first | exact fun _ _ => rfl | (intro env h; cases env; cases h; kernel_rfl)); (case s3 => first | exact fun _ _ => rfl | (intro env h; cases env; cases h; kernel_rfl)))
      | ((with_reducible refine' snd_assign ?_ ?_ ?s1 ?s2 ?s3); (case s1 => exact fun _ => rfl); (case s2 => first | exact fun _ _ => rfl | (intro env h; cases env; cases h; kernel_rfl)); (case s3 => first | exact fun _ _ => rfl | (intro env h; cases env; cases h; kernel_rfl)))
      | ((with_reducible refine' snd_expr ?_ ?s1 ?s2); (case s1 => (intro env h; cases env; cases h; kernel_rfl)); (case s2 => first | exact fun _ _ => rfl | (intro env h; cases env; cases h; kernel_rfl)))
      | ((with_reducible refine' sndA_tup ?_ ?s1); (case s1 => exact fun _ => ⟨rfl, rfl⟩))
      | ((with_reducible first | refine' n_range1 X ?s1 ?s2 ?_ | refine' n_enum X ?s1 ?s2 ?_); (case s1 => kernel_rfl); (case s2 => exact fun _ => rfl))
      | ((with_reducible refine' n_range2 X ?s1 ?s2 ?s3 ?_); (case s1 => kernel_rfl); (case s2 => exact fun _ => rfl); (case s3 => exact fun _ _ => rfl))
      | (with_reducible first | refine' n_listN ?_ | refine' n_listT ?_)
      | ((with_reducible refine' snd_append ?_ ?_ ?s1 ?s2 ?s3); (case s1 => exact fun _ => rfl); (case s2 => exact fun _ => rfl); (case s3 => rfl))
      | ((with_reducible first | refine' n_len X ?s1 ?s3 ?s4 ?_ | refine' n_abs X ?s1 ?s3 ?s4 ?_ | refine' n_int X ?s1 ?s3 ?s4 ?_ | refine' n_list X ?s1 ?s3 ?s4 ?_ | refine' n_min X ?s1 ?s3 ?s4 ?_ | refine' n_max X ?s1 ?s3 ?s4 ?_ | refine' n_sum X ?s1 ?s3 ?s4 ?_); (case s1 => kernel_rfl); (case s3 => exact fun _ => rfl); (case s4 => exact fun _ _ => rfl))
      | ((with_reducible first | refine' n_call X (ok_discrepancy X) ?s1 ?s2 ?s3 ?_ | refine' n_call X (ok_mended X) ?s1 ?s2 ?s3 ?_ | refine' n_call X (ok_rdiv X) ?s1 ?s2 ?s3 ?_ | refine' n_call X (ok_rneg X) ?s1 ?s2 ?s3 ?_); (case s1 => rfl); (case s2 => kernel_rfl); (case s3 => exact fun _ => rfl))
      | ((with_reducible refine' n_comp ?s1 ?s2 ?s4 ?_ ?_ ?_ ?_ ?_ ?_); (case s1 => kernel_rfl); (case s2 => rfl); (case s4 => exact fun _ _ => rfl))
      | kernel_rfl)
  case bind => intro pm cd doc; refine ofLen1 ?_; intros; kernel_rfl
  case law =>
    intro vs σ P; refine hide fun Gq hGq => ?_; rintro ⟨k, L, row, A, rfl, hk, hl6, hwr, A0, Ad, Aa, hP⟩; refine hGq ?_; clear hGq
    refine ⟨rfl, ?_⟩
    refine seq_cut fun R1 hR1 => ?_
    refine cut2 hR1 fun R2 hR2 hR1 => ?_
    repeat (first | (with_reducible first | refine cutR hR1 ?_ | refine cutR hR2 ?_ | refine cutR hB1 ?_ | refine cutR hB2 ?_ | refine cutR hB3 ?_ | refine cutR hB4 ?_ | refine cutR hB5 ?_) | simp only [wSeq, wAssign, wStore, wUnpack, wACons, wTup, wLst, wOp2, wCall, wName, wVal, wStores, wIRange1, wFor, Loc.set, locOf, post, qv0, qv1, ofString_inj, String.reduceEq, cLen, List.map, List.length, List.cons.injEq, List.nil_eq, Option.some.injEq, V.int.injEq, V.ref.injEq, V.tup.injEq, if_true, if_false, exists_eq_left, exists_eq_left', exists_and_left, and_true, true_and, Nat.reduceAdd, Nat.reduceLeDiff, Int.reduceNeg, and_assoc])
    simp only [gotA hk, List.append_assoc, List.cons_append, List.nil_append, List.length_append, List.length_cons, List.length_nil, List.length_map, Nat.zero_add, Option.some.injEq, exists_eq_left']
    repeat (first | (with_reducible first | refine cutR hR1 ?_ | refine cutR hR2 ?_ | refine cutR hB1 ?_ | refine cutR hB2 ?_ | refine cutR hB3 ?_ | refine cutR hB4 ?_ | refine cutR hB5 ?_) | simp only [hk, gotA hk, List.append_assoc, List.cons_append, List.nil_append, List.length_append, List.length_cons, List.length_nil, got_at0, got_at, List.getElem?_cons_zero, List.getElem?_cons_succ, List.length_map, Nat.add_assoc, Nat.zero_add, Nat.reduceAdd, Nat.add_zero, Option.some.injEq, exists_eq_left', exists_eq_left, exists_eq, and_assoc, and_true, true_and, wSeq, wNil, wSwap, wAssign, wStore, wUnpack, wACons, wAugS, wIf, wRet, wCont, wExpr, wNo, wTup, wLst, wOp2, wUn, wCall, wName, wVal, wTest, wAnd, wOr, wIfE, wTrue, wApp, wSub, wStores, wIList, wIRange1, wIRange2, wIEnum, wComp, wCompS, wFor, compLoc, Loc.set, locOf, post, tgt_nil, tgt_cons, bin_add, bin_sub, bin_subb, bin_mul, bin_fdiv, bin_mod, bin_cat, bin_rep, aug_add, aug_sub, neg_i, eq_ints, ne_ints, lt_ints, le_ints, gt_ints, ge_ints, is_nn, is_in, qv_num, qv_den, qv0, qv1, eq_q, ne_q, ofString_inj, ofString_beq, String.reduceEq, String.reduceBEq, cLen, cAbs, cInt, cList, cMin, cMax, cSum, List.map, List.reverse, List.reverseAux, List.length, List.append, List.nil_append, List.cons_append, List.lookup_cons, List.lookup_nil, List.cons.injEq, List.nil_eq, Option.some.injEq, V.int.injEq, V.ref.injEq, V.tup.injEq, V.bool.injEq, reduceCtorEq, if_true, if_false, exists_eq_left, exists_eq_left', exists_eq, exists_and_left, exists_and_right, and_true, true_and, and_false, false_and, exists_false, Nat.reduceAdd, Nat.reduceLeDiff, Int.reduceNeg, not_true_eq_false, not_false_eq_true, forall_const, true_implies, false_implies, implies_true, ne_eq, and_assoc, decide_eq_true_eq, decide_eq_false_iff_not, Bool.not_eq_true', Bool.not_eq_false', Bool.not_true, Bool.not_false, Bool.true_eq_false, Bool.false_eq_true, List.length_map])
    rw [hl6]
    refine ⟨by decide, by decide, ?_⟩
    refine for_cut fun B1 hB1 => ?_
    refine cut2 hB1 fun B2 hB2 hB1 => ?_
    refine cut2 hB2 fun B3 hB3 hB2 => ?_
    refine cut2 hB3 fun B4 hB4 hB3 => ?_
    refine cut2 hB4 fun B5 hB5 hB4 => ?_
    refine for_of (fun n ε σ' => σ <+: σ' ∧ n ≤ 6 ∧ ∃ (kn kf size sizeF gap : Nat) (now former : List Rat) (last : Rat), IvLeast k L row n ε σ' kn kf size sizeF gap now former last) ?_ ?_ ?_
    · refine ⟨pre_app, by decide, σ.length, σ.length + 1, 0, 0, 1, [1], [1], 1, by simp [Loc.set, ofString_inj], by simp [Loc.set, ofString_inj], by simp [Loc.set, ofString_inj], by simp [Loc.set, ofString_inj], by simp [Loc.set, ofString_inj], by simp [Loc.set], got_at0, got_at, by decide, by decide, by decide, ?_, ?_, Wq.one (by decide), Nat.zero_le _, ?_⟩
      · intro q hq; simp at hq; subst hq; exact Wq.one (by decide)
      · intro q hq; simp at hq; subst hq; exact Wq.one (by decide)
      · have hd : ∀ i, 0 < i → co [1] i = 0 := fun i h => co_big h
        exact ⟨rfl, hd, fun k h1 h2 => by exact ar90 h2, by decide, by decide, hd, by exact ar218, fun k h1 h2 => by exact ar219 h2, fun h => by exact ar220 h⟩
    · intro ε σ'; refine hide fun Gq hGq => ?_; rintro ⟨hpre, hn, kn, kf, size, sizeF, gap, now, former, last, h1, h2, h3, h4, h5, h6, h7, h8, h9, h10, h11, h12, h13, h14, h15, hb⟩; refine hGq ?_; clear hGq
      refine ⟨trivial, ?_⟩
      rw [rng_len] at hb
      have hsz : size + sizeF + gap = 7 := hb.sum
      repeat (first | (with_reducible first | refine cutR hR1 ?_ | refine cutR hR2 ?_ | refine cutR hB1 ?_ | refine cutR hB2 ?_ | refine cutR hB3 ?_ | refine cutR hB4 ?_ | refine cutR hB5 ?_) | simp only [h4, wSeq, wRet, wOp2, wName, wVal, wIRange2, wComp, post, bin_add, qv0, List.cons.injEq, Option.some.injEq, V.int.injEq, exists_eq_left', exists_and_left, and_true, Int.reduceNeg, and_assoc])
      refine ⟨by decide, by decide, by exact ar221, by exact ar222 hsz, ?_⟩
      have hN : ((size : Int) + 1 - 1).toNat = size := by exact ar223
      rw [hN]
      refine comp_map (fun i => qv (- co now (i + 1))) (by rw [rng_len]; exact ar224 hsz) trivial ?_ ?_
      · intro i x K KF hx hK
        obtain ⟨rfl, hi⟩ := rng_get hx
        repeat (first | (with_reducible first | refine cutR hR1 ?_ | refine cutR hR2 ?_ | refine cutR hB1 ?_ | refine cutR hB2 ?_ | refine cutR hB3 ?_ | refine cutR hB4 ?_ | refine cutR hB5 ?_) | simp only [h2, wStore, wCall, wName, wVal, wTest, wIfE, wTrue, compLoc, Loc.set, lt_ints, ofString_inj, ofString_beq, String.reduceEq, String.reduceBEq, cLen, List.lookup_cons, List.cons.injEq, Option.some.injEq, V.ref.injEq, V.bool.injEq, reduceCtorEq, if_true, if_false, exists_eq_left', exists_and_left, and_true, forall_const, false_implies, decide_eq_true_eq, decide_eq_false_iff_not, Bool.true_eq_false])
        repeat (first | (with_reducible first | refine cutR hR1 ?_ | refine cutR hR2 ?_ | refine cutR hB1 ?_ | refine cutR hB2 ?_ | refine cutR hB3 ?_ | refine cutR hB4 ?_ | refine cutR hB5 ?_) | simp only [h7, Option.some.injEq, exists_eq_left', List.length_map])
        refine ⟨fun h => ?_, fun h => ?_⟩
        · refine qget h7 (by exact ar184) (by exact ar225 h) ?_
          rw [show (1 + (i : Int)).toNat = i + 1 by exact ar188]
          exact ⟨_, rfl, hK⟩
        · rw [co_big (by exact ar226 h)] at hK
          exact hK
      · rw [rng_len]
        have e : (List.range size).map (fun i => qv (- co now (i + 1))) = ((List.range size).map fun i => - co now (i + 1)).map qv := by rw [List.map_map]; rfl
        have el : ((List.range size).map fun i => - co now (i + 1)).length = size := by simp
        rw [e]
        refine hP _ _ _ (co now) (List.IsPrefix.trans hpre pre_app) got_at0 (by rw [el]; exact h15) hb.now0 (by rw [el]; exact hb.deg) (fun i hi => ?_) (by rw [el]; exact hb.ann)
        rw [el] at hi
        simp [co, hi]
    · intro n x ε σ' K hx hK; refine hide fun Gq hGq => ?_; rintro ⟨hpre, hn, kn, kf, size, sizeF, gap, now, former, last, h1, h2, h3, h4, h5, h6, h7, h8, h9, h10, h11, h12, h13, h14, h15, hb⟩; refine hGq ?_; clear hGq
      obtain ⟨rfl, hi⟩ := rng_get hx
      have hi : n < 6 := hi
      have hsum := hb.sum
      have hgap := hb.gap1
      obtain ⟨b1, b2, b3, b4, b5⟩ := b_ok n hi
      refine ⟨trivial, ?_⟩
      repeat (first | (with_reducible first | refine cutR hR1 ?_ | refine cutR hR2 ?_ | refine cutR hB1 ?_ | refine cutR hB2 ?_ | refine cutR hB3 ?_ | refine cutR hB4 ?_ | refine cutR hB5 ?_) | simp only [h1, h2, wSeq, wAssign, wStore, wCall, Loc.set, ofString_inj, String.reduceEq, Option.some.injEq, if_true, if_false, exists_eq_left'])
      have e0 : (0 : Int) + (n : Int) = (n : Int) := by exact ar227
      rw [e0]
      refine ⟨k, kn, n, 8, bW n, row, now, rfl, got_pre hpre hk, h7, by exact ar228 hl6 hi, by exact ar229 hl6, by exact ar230 h10 hi hsum, h9, hb.now0, by decide, b1, hwr, h12, by exact ar231 b2, fun hoff => ?_⟩
      have hoff : Wq (bU n) (cv (co now) (co row) n) := hoff
      repeat (first | (with_reducible first | refine cutR hR1 ?_ | refine cutR hR2 ?_ | refine cutR hB1 ?_ | refine cutR hB2 ?_ | refine cutR hB3 ?_ | refine cutR hB4 ?_ | refine cutR hB5 ?_) | simp only [h5, wSeq, wNil, wAugS, wIf, wCont, wName, wVal, wTest, Loc.set, aug_add, eq_q, ofString_inj, String.reduceEq, Option.some.injEq, V.bool.injEq, if_true, if_false, exists_eq_left', decide_eq_true_eq, decide_eq_false_iff_not])
      refine ⟨fun hz => ?_, fun hz => ?_⟩
      · refine hK _ _ ⟨hpre, by exact ar232 hi, kn, kf, size, sizeF, gap + 1, now, former, last, by simp [Loc.set, ofString_inj, h1], by simp [Loc.set, ofString_inj, h2], by simp [Loc.set, ofString_inj, h3], by simp [Loc.set, ofString_inj, h4], by simp [Loc.set], by simp [Loc.set, ofString_inj, h6], h7, h8, h9, h10, h11,
          fun q hq => (h12 q hq).mono b5, fun q hq => (h13 q hq).mono b5, h14.mono b4, h15, hb.keep hz⟩
      · repeat (first | (with_reducible first | refine cutR hR1 ?_ | refine cutR hR2 ?_ | refine cutR hB1 ?_ | refine cutR hB2 ?_ | refine cutR hB3 ?_ | refine cutR hB4 ?_ | refine cutR hB5 ?_) | simp only [h2, h3, h5, h6, wSeq, wAssign, wStore, wCall, Loc.set, ofString_inj, String.reduceEq, Option.some.injEq, if_true, if_false, exists_eq_left'])
        refine ⟨_, _, _, _, rfl, hoff, h14, by exact ar233 b3, hb.lastnz, ?_⟩
        refine ⟨kn, kf, gap, bW n, bU n + bU n, bW n, _, now, former, rfl, h7, h8, by exact ar234 h10 hi hsum, by exact ar235 h11 hi hsum, by exact ar236 hi hsum, b1, h12, h13, hoff.div h14 hb.lastnz, by exact ar237 b3, ?_⟩
        intro σ2 kl later hpre2 hl hlen hwl hlc
        have hL := hb.least hz hi A0 Ad Aa
        have hpre' := List.IsPrefix.trans hpre hpre2
        have hwl' : Wl (bW (n + 1)) later := fun q hq => (hwl q hq).mono (by show _ ≤ 2 * bW n + 2 * (bU n) + 1; exact ar238)
        have hll : 0 < later.length := by exact ar239 hgap hlen
        repeat (first | (with_reducible first | refine cutR hR1 ?_ | refine cutR hR2 ?_ | refine cutR hB1 ?_ | refine cutR hB2 ?_ | refine cutR hB3 ?_ | refine cutR hB4 ?_ | refine cutR hB5 ?_) | simp only [h2, h4, wSeq, wNil, wAssign, wStore, wUnpack, wACons, wIf, wTup, wOp2, wName, wVal, wTest, Loc.set, bin_add, bin_sub, bin_mul, le_ints, ofString_inj, String.reduceEq, List.length, List.cons.injEq, List.nil_eq, Option.some.injEq, V.tup.injEq, V.bool.injEq, if_true, if_false, exists_eq_left, exists_eq_left', exists_and_left, true_and, Nat.reduceAdd, Nat.reduceLeDiff, and_assoc, decide_eq_true_eq, decide_eq_false_iff_not])
        refine ⟨mulok (n := 2) (m := 4) (by decide) (by omega) (by decide), ?_, ?_⟩
        · intro h2s
          repeat (first | (with_reducible first | refine cutR hR1 ?_ | refine cutR hR2 ?_ | refine cutR hB1 ?_ | refine cutR hB2 ?_ | refine cutR hB3 ?_ | refine cutR hB4 ?_ | refine cutR hB5 ?_) | simp only [h5, wSeq, wNil, wAssign, wStore, wAugS, wName, wVal, Loc.set, aug_add, ofString_inj, String.reduceEq, Option.some.injEq, if_true, if_false, exists_eq_left'])
          refine hK _ _ ⟨hpre', by exact ar232 hi, kl, kn, n + 1 - size, size, 1, later, now, _, by simp [Loc.set, ofString_inj, h1], by simp [Loc.set, ofString_inj], by simp [Loc.set, ofString_inj], by simp [Loc.set, ofString_inj]; exact ar240 h2s, by simp [Loc.set], by simp [Loc.set, ofString_inj], hl, got_pre hpre2 h7, hll, by exact ar241 h10 h11 hsum hlen h2s, by exact ar242 h10,
            hwl', fun q hq => (h12 q hq).mono b5, hoff.mono b4, hL, hb.grow hlc (by exact ar243 h2s) hz⟩
        · intro h2s
          repeat (first | (with_reducible first | refine cutR hR1 ?_ | refine cutR hR2 ?_ | refine cutR hB1 ?_ | refine cutR hB2 ?_ | refine cutR hB3 ?_ | refine cutR hB4 ?_ | refine cutR hB5 ?_) | simp only [h5, wSeq, wNil, wAssign, wStore, wAugS, wName, wVal, Loc.set, aug_add, ofString_inj, String.reduceEq, Option.some.injEq, if_true, if_false, exists_eq_left'])
          refine hK _ _ ⟨hpre', by exact ar232 hi, kl, kf, size, sizeF, gap + 1, later, former, last, by simp [Loc.set, ofString_inj, h1], by simp [Loc.set, ofString_inj], by simp [Loc.set, ofString_inj, h3], by simp [Loc.set, ofString_inj, h4], by simp [Loc.set], by simp [Loc.set, ofString_inj, h6], hl, got_pre hpre2 h8, hll, by exact ar244 h10 h11 hsum hlen h2s, h11,
            hwl', fun q hq => (h13 q hq).mono b5, h14.mono b4, h15, hb.stay hlc (by exact ar245 h2s)⟩
end Mine

namespace Mine
open PySem PySem.W PyProof.Rows
set_option linter.unusedVariables false
set_option linter.unusedSimpArgs false
set_option maxRecDepth 100000
set_option maxHeartbeats 4000000
open PySem.Calls
variable {w : World} {H0 : Heap} {mg mb : Str → Option Value}


/-- gives back a list that S takes -/
noncomputable def Ret (σ : Sto) (P : PV) (S : List Rat → Prop) : Prop := ∀ σ' kk r, σ <+: σ' → σ.length ≤ kk → σ'[kk]? = some (r.map qv) → S r → P (.ref kk) σ'
noncomputable def Trm (r : List Rat) : Prop := 0 < r.length → co r (r.length - 1) ≠ 0

theorem co_take {l : List Rat} {s t : Nat} : co (l.take s) t = if t < s then co l t else 0 := by
  unfold co
  simp only [List.getD_eq_getElem?_getD, List.getElem?_take]
  split <;> rfl
theorem Wl.take {n s : Nat} {l : List Rat} (h : Wl n l) : Wl n (l.take s) := fun q hq => h q (List.mem_of_mem_take hq)
theorem Wl.mono {n m : Nat} {l : List Rat} (h : Wl n l) (hn : n ≤ m) : Wl m l := fun q hq => (h q hq).mono hn
theorem map_take {l : List Rat} {s : Nat} : (l.map qv).take s = (l.take s).map qv := (List.map_take ..).symm

theorem upto_nat {n m : Nat} (h : m ≤ n) : upto n (m : Int) = m := by unfold upto; rw [if_neg (by exact ar246)]; exact ar247 h
theorem upto_m1 {n : Nat} : upto n (-1) = n - 1 := by unfold upto; rw [if_pos (by decide)]; exact ar248

noncomputable def cQtrim : Con := fun vs σ P => ∃ (k : Nat) (l : List Rat), vs = [.ref k] ∧ σ[k]? = some (l.map qv) ∧ l.length ≤ 100 ∧
  Ret σ P fun r => ∃ s, r = l.take s ∧ s ≤ l.length ∧ (∀ t, s ≤ t → co l t = 0) ∧ (0 < s → co l (s - 1) ≠ 0)
theorem ok_qtrim (X : Cx w H0 mg mb) : FnOk pg w H0 mg 6 (Str.ofString "qtrim") cQtrim := by
  refine' fn_of X (i := 25) (k := 22) (d := 5) (C := cQtrim) rfl rfl (by kernel_rfl) rfl ?snd ?bind (by kernel_rfl) rfl rfl rfl (by kernel_rfl) ?law
  case snd =>
    repeat' (first
      | (with_reducible first | exact sndB_nil | refine' sndB_cons ?_ ?_ | refine' snd_if ?_ ?_ ?_ | refine' snd_while ?_ ?_ | exact snd_no (st := Stmt.Return (some (Expr.Constant (Const.bool false) _ _)) _) | refine' snd_ret ?_ | exact snd_cont | exact snd_no (st := Stmt.Raise _ _ _) | exact sndL_nil | refine' sndA_sub ?_ ?_ | exact sndAs_nil | exact sndIfs_nil | refine' sndIfs_one ?_ | exact waF_name | exact waF_two | exact snd_int | exact snd_none | refine' snd_tup ?_ | refine' snd_lst ?_ | refine' snd_binop X.wd ?_ ?_ | refine' snd_usub ?_ | refine' snd_ifexp ?_ ?_ ?_ | refine' snd_upto ?_ ?_ | refine' sndT_and ?_ ?_ | refine' sndT_or ?_ ?_)
      | ((with_reducible first | refine' n_tgt ?s1 | refine' n_aug ?s1 ?_ | refine' n_glob X X.r0 ?s1 | refine' n_glob X X.r1 ?s1 | refine' n_name ?s1); (case s1 => kernel_rfl))
      | ((with_reducible first | refine' sndL_cons ?_ ?_ ?s1 | refine' sndAs_cons ?_ ?_ ?s1); (case s1 => exact fun _ => rfl))
      | ((with_reducible first | refine' snd_for ?_ ?_ ?_ ?s1 | refine' snd_sub ?_ ?_ ?s1); (case s1 => exact fun _ _ => rfl))
      | ((with_reducible first | refine' snd_compare ?_ ?_ ?s1 | refine' sndT_cmp ?_ ?_ ?s1); (case s1 => rfl))
      | ((with_reducible refine' n_acomp ?s1 ?s2 ?s4 ?s5 ?s6 ?_ ?_ ?_ ?_ ?_ ?_); (case s1 => kernel_rfl); (case s2 => rfl); (case s4 => exact fun _ _ => rfl); (case s5 => (intro env h; cases env; cases h; kernel_rfl)); (case s6 => decide +kernel))
      | ((with_reducible refine' snd_assign (e := Expr.Tuple (Expr.Constant _ _ _ :: Expr.Constant _ _ _ :: _) _ _) ?_ ?_ ?s1 ?s2 ?s3); (case s1 => exact fun _ => rfl); (case s2 => first | exact fun _ _ => rfl | (intro env h; cases env; cases h; kernel_rfl)); (case s3 => first | exact fun _ _ => rfl | (intro env h; cases env; cases h; kernel_rfl)))
      | ((with_reducible refine' snd_swapN (elts := Expr.Name _ _ :: _) (e := Expr.Tuple _ _ _) ?_ ?s1 ?s2 ?s3); (case s1 => kernel_rfl); (case s2 => exact fun _ _ => rfl); (case s3 => (intro env h; cases env; cases h; kernel_rfl)))
      | ((with_reducible refine' snd_assign ?_ ?_ ?s1 ?s2 ?s3); (case s1 => exact fun _ => rfl); (case s2 => first | exact fun _ _ => rfl | (intro env h; cases env; cases h; kernel_rfl)); (case s3 => first | exact fun _ _ => rfl | (intro env h; cases env; cases h; kernel_rfl)))
      | ((with_reducible refine' snd_expr ?_ ?s1 ?s2); (case s1 => (intro env h; cases env; cases h; kernel_rfl)); (case s2 => first | exact fun _ _ => rfl | (intro env h; cases env; cases h; kernel_rfl)))
      | ((with_reducible refine' sndA_tup ?_ ?s1); (case s1 => exact fun _ => ⟨rfl, rfl⟩))
      | ((with_reducible first | refine' n_range1 X ?s1 ?s2 ?_ | refine' n_enum X ?s1 ?s2 ?_); (case s1 => kernel_rfl); (case s2 => exact fun _ => rfl))
      | ((with_reducible refine' n_range2 X ?s1 ?s2 ?s3 ?_); (case s1 => kernel_rfl); (case s2 => exact fun _ => rfl); (case s3 => exact fun _ _ => rfl))
      | (with_reducible first | refine' n_listN ?_ | refine' n_listT ?_)
      | ((with_reducible refine' snd_append ?_ ?_ ?s1 ?s2 ?s3); (case s1 => exact fun _ => rfl); (case s2 => exact fun _ => rfl); (case s3 => rfl))
      | ((with_reducible first | refine' n_len X ?s1 ?s3 ?s4 ?_ | refine' n_abs X ?s1 ?s3 ?s4 ?_ | refine' n_int X ?s1 ?s3 ?s4 ?_ | refine' n_list X ?s1 ?s3 ?s4 ?_ | refine' n_min X ?s1 ?s3 ?s4 ?_ | refine' n_max X ?s1 ?s3 ?s4 ?_ | refine' n_sum X ?s1 ?s3 ?s4 ?_); (case s1 => kernel_rfl); (case s3 => exact fun _ => rfl); (case s4 => exact fun _ _ => rfl))
      | ((with_reducible refine' n_comp ?s1 ?s2 ?s4 ?_ ?_ ?_ ?_ ?_ ?_); (case s1 => kernel_rfl); (case s2 => rfl); (case s4 => exact fun _ _ => rfl))
      | kernel_rfl)
  case bind => intro pm cd doc; refine ofLen1 ?_; intros; kernel_rfl
  case law =>
    intro vs σ P; refine hide fun Gq hGq => ?_; rintro ⟨k, l, rfl, hk, hl, hP⟩; refine hGq ?_; clear hGq
    refine ⟨rfl, ?_⟩
    simp only [hk, wSeq, wAssign, wStore, wRet, wOp2, wCall, wName, wStores, Loc.set, locOf, post, cLen, cList, List.map, List.cons.injEq, Option.some.injEq, V.ref.injEq, if_true, exists_eq_left', exists_and_left, and_true, List.length_map]
    refine while_of (fun m ε σ' => σ' = σ ∧ ε (Str.ofString "row") = some (.ref k) ∧ ε (Str.ofString "size") = some (.int m) ∧ m ≤ l.length ∧ ∀ t, m ≤ t → co l t = 0) l.length
      ⟨rfl, by simp [Loc.set, ofString_inj], by simp [Loc.set], Nat.le_refl _, fun t h => co_big h⟩ ?_
    intro m ε σ' K hK; refine hide fun Gq hGq => ?_; rintro ⟨rfl, h1, h2, hm, hz⟩; refine hGq ?_; clear hGq
    simp only [h1, h2, wSeq, wNil, wAugS, wOp2, wName, wVal, wTest, wAnd, bin_sub, aug_sub, gt_ints, Option.some.injEq, V.bool.injEq, exists_eq_left', and_true, forall_const, false_implies, decide_eq_true_eq, decide_eq_false_iff_not, Bool.false_eq_true]
    constructor
    · intro h0
      have e0 : m = 0 := by exact ar249 h0
      subst e0
      refine upto_ref hk ?_
      simp only [List.append_assoc, List.cons_append, List.nil_append, List.length_append, got_at0, List.getElem?_cons_zero, List.length_map, Nat.zero_add, Option.some.injEq, exists_eq_left', List.length, List.nil_append, List.cons_append, Option.some.injEq, V.ref.injEq, exists_eq_left']
      rw [upto_nat hm, map_take]
      refine hP _ _ _ pre_app (by exact ar145) got_at ⟨0, rfl, by exact ar51, fun t _ => hz t (by exact ar51), fun h => absurd h (by decide)⟩
    · intro h0
      refine qget hk (by exact ar250 h0) (by exact ar251 hm h0) ?_
      simp only [eq_ints, qv_num, V.bool.injEq, exists_eq_left', decide_eq_true_eq, decide_eq_false_iff_not]
      rw [show ((m : Int) - 1).toNat = m - 1 by exact ar252]
      constructor
      · intro h3
        refine upto_ref hk ?_
        simp only [List.append_assoc, List.cons_append, List.nil_append, List.length_append, got_at0, List.getElem?_cons_zero, List.length_map, Nat.zero_add, Option.some.injEq, exists_eq_left', List.length, List.nil_append, List.cons_append, Option.some.injEq, V.ref.injEq, exists_eq_left']
        rw [upto_nat hm, map_take]
        exact hP _ _ _ pre_app (by exact ar145) got_at ⟨m, rfl, hm, hz, fun _ h => h3 (by rw [h]; rfl)⟩
      · intro h3
        refine hK (m - 1) _ _ (by exact ar253 h0) ⟨rfl, by simp [Loc.set, ofString_inj, h1], by simp [Loc.set]; exact ar254 h0, by exact ar255 hm, fun t ht => ?_⟩
        by_cases e : t = m - 1
        · rw [e]; exact Rat.num_eq_zero.mp h3
        · exact hz t (by exact ar256 ht e)

theorem Ret.mono {σ σ' : Sto} {P : PV} {S S' : List Rat → Prop} (h : Ret σ P S) (hp : σ <+: σ') (hs : ∀ r, S' r → S r) : Ret σ' P S' := fun σ2 kk r h1 h0 h2 h3 => h σ2 kk r (List.IsPrefix.trans hp h1) (Nat.le_trans hp.length_le h0) h2 (hs r h3)
/-- what trimming gives -/
theorem trm_of {l r : List Rat} (h : ∃ s, r = l.take s ∧ s ≤ l.length ∧ (∀ t, s ≤ t → co l t = 0) ∧ (0 < s → co l (s - 1) ≠ 0)) : Trm r ∧ (∀ t, co r t = co l t) ∧ r.length ≤ l.length ∧ ∀ n, Wl n l → Wl n r := by
  obtain ⟨s, rfl, hs, h1, h2⟩ := h
  refine ⟨fun h => ?_, fun t => ?_, by simp; exact ar257, fun n h => h.take⟩
  · rw [List.length_take, Nat.min_eq_left hs] at h ⊢
    rw [co_take, if_pos (by exact ar258 h)]
    exact h2 h
  · rw [co_take]
    split
    · rfl
    · rw [h1 t (by exact ar15 (by assumption))]
theorem map_rep {l : List V} : l.map id = l := List.map_id l
theorem lst_of {n : Nat} {f : Nat → Rat} {g : Nat → V} (h : ∀ i, i < n → g i = qv (f i)) : (List.range n).map g = ((List.range n).map f).map qv := by
  rw [List.map_map]; exact List.map_congr_left fun i hi => h i (by simpa using hi)
theorem co_range {n : Nat} {f : Nat → Rat} {t : Nat} : co ((List.range n).map f) t = if t < n then f t else 0 := by
  unfold co
  by_cases h : t < n <;> simp [h]
theorem Wl.range {n m : Nat} {f : Nat → Rat} (h : ∀ i, i < n → Wq m (f i)) : Wl m ((List.range n).map f) := fun q hq => by
  obtain ⟨i, hi, rfl⟩ := List.mem_map.mp hq
  exact h i (by simpa using hi)

noncomputable def cQadd : Con := fun vs σ P => ∃ (k j A B : Nat) (a b : List Rat), vs = [.ref k, .ref j] ∧ σ[k]? = some (a.map qv) ∧ σ[j]? = some (b.map qv) ∧ a.length ≤ 100 ∧ b.length ≤ 100 ∧ 1 ≤ A ∧ 1 ≤ B ∧ Wl A a ∧ Wl B b ∧ A + B + 1 ≤ 130000000 ∧
  Ret σ P fun r => Trm r ∧ (∀ t, co r t = co a t + co b t) ∧ Wl (A + B + 1) r ∧ r.length ≤ max a.length b.length
theorem ok_qadd (X : Cx w H0 mg mb) : FnOk pg w H0 mg 7 (Str.ofString "qadd") cQadd := by
  refine' fn_of X (i := 26) (k := 23) (d := 6) (C := cQadd) rfl rfl (by kernel_rfl) rfl ?snd ?bind (by kernel_rfl) rfl rfl rfl (by kernel_rfl) ?law
  case snd =>
    repeat' (first
      | (with_reducible first | exact sndB_nil | refine' sndB_cons ?_ ?_ | refine' snd_if ?_ ?_ ?_ | refine' snd_while ?_ ?_ | exact snd_no (st := Stmt.Return (some (Expr.Constant (Const.bool false) _ _)) _) | refine' snd_ret ?_ | exact snd_cont | exact snd_no (st := Stmt.Raise _ _ _) | exact sndL_nil | refine' sndA_sub ?_ ?_ | exact sndAs_nil | exact sndIfs_nil | refine' sndIfs_one ?_ | exact waF_name | exact waF_two | exact snd_int | exact snd_none | refine' snd_tup ?_ | refine' snd_lst ?_ | refine' snd_binop X.wd ?_ ?_ | refine' snd_usub ?_ | refine' snd_ifexp ?_ ?_ ?_ | refine' snd_upto ?_ ?_ | refine' sndT_and ?_ ?_ | refine' sndT_or ?_ ?_)
      | ((with_reducible first | refine' n_tgt ?s1 | refine' n_aug ?s1 ?_ | refine' n_glob X X.r0 ?s1 | refine' n_glob X X.r1 ?s1 | refine' n_name ?s1); (case s1 => kernel_rfl))
      | ((with_reducible first | refine' sndL_cons ?_ ?_ ?s1 | refine' sndAs_cons ?_ ?_ ?s1); (case s1 => exact fun _ => rfl))
      | ((with_reducible first | refine' snd_for ?_ ?_ ?_ ?s1 | refine' snd_sub ?_ ?_ ?s1); (case s1 => exact fun _ _ => rfl))
      | ((with_reducible first | refine' snd_compare ?_ ?_ ?s1 | refine' sndT_cmp ?_ ?_ ?s1); (case s1 => rfl))
      | ((with_reducible refine' n_acomp ?s1 ?s2 ?s4 ?s5 ?s6 ?_ ?_ ?_ ?_ ?_ ?_); (case s1 => kernel_rfl); (case s2 => rfl); (case s4 => exact fun _ _ => rfl); (case s5 => (intro env h; cases env; cases h; kernel_rfl)); (case s6 => decide +kernel))
      | ((with_reducible refine' snd_assign (e := Expr.Tuple (Expr.Constant _ _ _ :: Expr.Constant _ _ _ :: _) _ _) ?_ ?_ ?s1 ?s2 ?s3); (case s1 => exact fun _ => rfl); (case s2 => first | exact fun _ _ => rfl | (intro env h; cases env; cases h; kernel_rfl)); (case s3 => first | exact fun _ _ => rfl | (intro env h; cases env; cases h; kernel_rfl)))
      | ((with_reducible refine' snd_swapN (elts := Expr.Name _ _ :: _) (e := Expr.Tuple _ _ _) ?_ ?s1 ?s2 ?s3); (case s1 => kernel_rfl); (case s2 => exact fun _ _ => rfl); (case s3 => (intro env h; cases env; cases h; kernel_rfl)))
      | ((with_reducible refine' snd_assign ?_ ?_ ?s1 ?s2 ?s3); (case s1 => exact fun _ => rfl); (case s2 => first | exact fun _ _ => rfl | (intro env h; cases env; cases h; kernel_rfl)); (case s3 => first | exact fun _ _ => rfl | (intro env h; cases env; cases h; kernel_rfl)))
      | ((with_reducible refine' snd_expr ?_ ?s1 ?s2); (case s1 => (intro env h; cases env; cases h; kernel_rfl)); (case s2 => first | exact fun _ _ => rfl | (intro env h; cases env; cases h; kernel_rfl)))
      | ((with_reducible refine' sndA_tup ?_ ?s1); (case s1 => exact fun _ => ⟨rfl, rfl⟩))
      | ((with_reducible first | refine' n_range1 X ?s1 ?s2 ?_ | refine' n_enum X ?s1 ?s2 ?_); (case s1 => kernel_rfl); (case s2 => exact fun _ => rfl))
      | ((with_reducible refine' n_range2 X ?s1 ?s2 ?s3 ?_); (case s1 => kernel_rfl); (case s2 => exact fun _ => rfl); (case s3 => exact fun _ _ => rfl))
      | (with_reducible first | refine' n_listN ?_ | refine' n_listT ?_)
      | ((with_reducible refine' snd_append ?_ ?_ ?s1 ?s2 ?s3); (case s1 => exact fun _ => rfl); (case s2 => exact fun _ => rfl); (case s3 => rfl))
      | ((with_reducible first | refine' n_len X ?s1 ?s3 ?s4 ?_ | refine' n_abs X ?s1 ?s3 ?s4 ?_ | refine' n_int X ?s1 ?s3 ?s4 ?_ | refine' n_list X ?s1 ?s3 ?s4 ?_ | refine' n_min X ?s1 ?s3 ?s4 ?_ | refine' n_max X ?s1 ?s3 ?s4 ?_ | refine' n_sum X ?s1 ?s3 ?s4 ?_); (case s1 => kernel_rfl); (case s3 => exact fun _ => rfl); (case s4 => exact fun _ _ => rfl))
      | ((with_reducible first | refine' n_call X (ok_radd X) ?s1 ?s2 ?s3 ?_ | refine' n_call X (ok_qtrim X) ?s1 ?s2 ?s3 ?_); (case s1 => rfl); (case s2 => kernel_rfl); (case s3 => exact fun _ => rfl))
      | ((with_reducible refine' n_comp ?s1 ?s2 ?s4 ?_ ?_ ?_ ?_ ?_ ?_); (case s1 => kernel_rfl); (case s2 => rfl); (case s4 => exact fun _ _ => rfl))
      | kernel_rfl)
  case bind => intro pm cd doc; refine ofLen2 ?_; intros; kernel_rfl
  case law =>
    intro vs σ P; refine hide fun Gq hGq => ?_; rintro ⟨k, j, A, B, a, b, rfl, hk, hj, hla, hlb, hA, hB, hwa, hwb, hbnd, hP⟩; refine hGq ?_; clear hGq
    refine ⟨rfl, ?_⟩
    simp only [hk, hj, wSeq, wAssign, wStore, wRet, wOp2, wCall, wName, wVal, wTest, wIfE, wStores, wIRange1, wComp, Loc.set, locOf, post, qv0, ofString_inj, String.reduceEq, cLen, cMax, List.map, List.cons.injEq, Option.some.injEq, V.int.injEq, V.ref.injEq, if_true, if_false, exists_eq_left', exists_and_left, and_true, Int.reduceNeg, and_assoc, List.length_map]
    refine ⟨by exact ar259, by exact ar260 hla hlb, ?_⟩
    have hM : (max (a.length : Int) b.length).toNat = max a.length b.length := by exact ar261
    rw [hM]
    refine comp_map (fun i => qv (co a i + co b i)) (by rw [rng_len]; exact ar262 hla hlb) trivial ?_ ?_
    · intro i x K KF hx hK
      obtain ⟨rfl, hi⟩ := rng_get hx
      simp only [hk, hj, wStore, wCall, wTrue, compLoc, Loc.set, lt_ints, ofString_inj, ofString_beq, String.reduceEq, String.reduceBEq, List.lookup_cons, Option.some.injEq, V.ref.injEq, V.bool.injEq, reduceCtorEq, if_true, if_false, exists_eq_left', and_true, forall_const, false_implies, decide_eq_true_eq, decide_eq_false_iff_not, Bool.true_eq_false, List.length_map]
      rw [show (0 : Int) + (i : Int) = (i : Int) by exact ar227]
      have fin : cR2 (fun a b => a + b) [qv (co a i), qv (co b i)] σ K := ⟨_, _, A, B, rfl, co_w hwa hA i, co_w hwb hB i, by exact ar263 hbnd, hK⟩
      have ei : (i : Int).toNat = i := by exact ar264
      refine ⟨fun h => qget hk (by exact ar178) (by exact ar265 h) ?_, fun h => ?_⟩
      · refine ⟨_, hj, fun h => qget hj (by omega) (by simp at h; exact ar266 h) fin, fun h => ?_⟩
        simp at h
        rw [co_big (l := b) (by exact ar267 h)] at fin; exact fin
      · rw [co_big (l := a) (by exact ar268 h)] at fin
        refine ⟨fun h => qget hj (by omega) (by exact ar265 h) fin, fun h => ?_⟩
        rw [co_big (l := b) (by exact ar268 h)] at fin; exact fin
    · rw [rng_len, lst_of (f := fun i => co a i + co b i) fun i _ => rfl]
      refine ⟨_, _, rfl, got_at0, by simp; exact ar269 hla hlb, hP.mono pre_app fun r hr => ?_⟩
      obtain ⟨h1, h2, h3, h4⟩ := trm_of hr
      refine ⟨h1, fun t => ?_, h4 _ (Wl.range fun i _ => (co_w hwa hA i).add (co_w hwb hB i)), by simpa using h3⟩
      rw [h2, co_range]
      split
      · rfl
      · rw [co_big (by exact ar270 (by assumption)), co_big (by exact ar271 (by assumption))]; grind

noncomputable def cQneg : Con := fun vs σ P => ∃ (k : Nat) (a : List Rat), vs = [.ref k] ∧ σ[k]? = some (a.map qv) ∧ a.length ≤ 100 ∧ Ret σ P fun r => r.length = a.length ∧ (∀ t, co r t = - co a t) ∧ ∀ n, Wl n a → Wl n r
theorem ok_qneg (X : Cx w H0 mg mb) : FnOk pg w H0 mg 7 (Str.ofString "qneg") cQneg := by
  refine' fn_of X (i := 27) (k := 24) (d := 6) (C := cQneg) rfl rfl (by kernel_rfl) rfl ?snd ?bind (by kernel_rfl) rfl rfl rfl (by kernel_rfl) ?law
  case snd =>
    repeat' (first
      | (with_reducible first | exact sndB_nil | refine' sndB_cons ?_ ?_ | refine' snd_if ?_ ?_ ?_ | refine' snd_while ?_ ?_ | exact snd_no (st := Stmt.Return (some (Expr.Constant (Const.bool false) _ _)) _) | refine' snd_ret ?_ | exact snd_cont | exact snd_no (st := Stmt.Raise _ _ _) | exact sndL_nil | refine' sndA_sub ?_ ?_ | exact sndAs_nil | exact sndIfs_nil | refine' sndIfs_one ?_ | exact waF_name | exact waF_two | exact snd_int | exact snd_none | refine' snd_tup ?_ | refine' snd_lst ?_ | refine' snd_binop X.wd ?_ ?_ | refine' snd_usub ?_ | refine' snd_ifexp ?_ ?_ ?_ | refine' snd_upto ?_ ?_ | refine' sndT_and ?_ ?_ | refine' sndT_or ?_ ?_)
      | ((with_reducible first | refine' n_tgt ?s1 | refine' n_aug ?s1 ?_ | refine' n_glob X X.r0 ?s1 | refine' n_glob X X.r1 ?s1 | refine' n_name ?s1); (case s1 => kernel_rfl))
      | ((with_reducible first | refine' sndL_cons ?_ ?_ ?s1 | refine' sndAs_cons ?_ ?_ ?s1); (case s1 => exact fun _ => rfl))
      | ((with_reducible first | refine' snd_for ?_ ?_ ?_ ?s1 | refine' snd_sub ?_ ?_ ?s1); (case s1 => exact fun _ _ => rfl))
      | ((with_reducible first | refine' snd_compare ?_ ?_ ?s1 | refine' sndT_cmp ?_ ?_ ?s1); (case s1 => rfl))
      | ((with_reducible refine' n_acomp ?s1 ?s2 ?s4 ?s5 ?s6 ?_ ?_ ?_ ?_ ?_ ?_); (case s1 => kernel_rfl); (case s2 => rfl); (case s4 => exact fun _ _ => rfl); (case s5 => (intro env h; cases env; cases h; kernel_rfl)); (case s6 => decide +kernel))
      | ((with_reducible refine' snd_assign (e := Expr.Tuple (Expr.Constant _ _ _ :: Expr.Constant _ _ _ :: _) _ _) ?_ ?_ ?s1 ?s2 ?s3); (case s1 => exact fun _ => rfl); (case s2 => first | exact fun _ _ => rfl | (intro env h; cases env; cases h; kernel_rfl)); (case s3 => first | exact fun _ _ => rfl | (intro env h; cases env; cases h; kernel_rfl)))
      | ((with_reducible refine' snd_swapN (elts := Expr.Name _ _ :: _) (e := Expr.Tuple _ _ _) ?_ ?s1 ?s2 ?s3); (case s1 => kernel_rfl); (case s2 => exact fun _ _ => rfl); (case s3 => (intro env h; cases env; cases h; kernel_rfl)))
      | ((with_reducible refine' snd_assign ?_ ?_ ?s1 ?s2 ?s3); (case s1 => exact fun _ => rfl); (case s2 => first | exact fun _ _ => rfl | (intro env h; cases env; cases h; kernel_rfl)); (case s3 => first | exact fun _ _ => rfl | (intro env h; cases env; cases h; kernel_rfl)))
      | ((with_reducible refine' snd_expr ?_ ?s1 ?s2); (case s1 => (intro env h; cases env; cases h; kernel_rfl)); (case s2 => first | exact fun _ _ => rfl | (intro env h; cases env; cases h; kernel_rfl)))
      | ((with_reducible refine' sndA_tup ?_ ?s1); (case s1 => exact fun _ => ⟨rfl, rfl⟩))
      | ((with_reducible first | refine' n_range1 X ?s1 ?s2 ?_ | refine' n_enum X ?s1 ?s2 ?_); (case s1 => kernel_rfl); (case s2 => exact fun _ => rfl))
      | ((with_reducible refine' n_range2 X ?s1 ?s2 ?s3 ?_); (case s1 => kernel_rfl); (case s2 => exact fun _ => rfl); (case s3 => exact fun _ _ => rfl))
      | (with_reducible first | refine' n_listN ?_ | refine' n_listT ?_)
      | ((with_reducible refine' snd_append ?_ ?_ ?s1 ?s2 ?s3); (case s1 => exact fun _ => rfl); (case s2 => exact fun _ => rfl); (case s3 => rfl))
      | ((with_reducible first | refine' n_len X ?s1 ?s3 ?s4 ?_ | refine' n_abs X ?s1 ?s3 ?s4 ?_ | refine' n_int X ?s1 ?s3 ?s4 ?_ | refine' n_list X ?s1 ?s3 ?s4 ?_ | refine' n_min X ?s1 ?s3 ?s4 ?_ | refine' n_max X ?s1 ?s3 ?s4 ?_ | refine' n_sum X ?s1 ?s3 ?s4 ?_); (case s1 => kernel_rfl); (case s3 => exact fun _ => rfl); (case s4 => exact fun _ _ => rfl))
      | ((with_reducible first | refine' n_call X (ok_rneg X) ?s1 ?s2 ?s3 ?_); (case s1 => rfl); (case s2 => kernel_rfl); (case s3 => exact fun _ => rfl))
      | ((with_reducible refine' n_comp ?s1 ?s2 ?s4 ?_ ?_ ?_ ?_ ?_ ?_); (case s1 => kernel_rfl); (case s2 => rfl); (case s4 => exact fun _ _ => rfl))
      | kernel_rfl)
  case bind => intro pm cd doc; refine ofLen1 ?_; intros; kernel_rfl
  case law =>
    intro vs σ P; refine hide fun Gq hGq => ?_; rintro ⟨k, a, rfl, hk, hla, hP⟩; refine hGq ?_; clear hGq
    refine ⟨rfl, ?_⟩
    simp only [hk, wSeq, wRet, wName, wStores, wIList, wComp, Loc.set, locOf, post, List.map, Option.some.injEq, V.ref.injEq, if_true, exists_eq_left', exists_and_left]
    refine comp_map (fun i => qv (- co a i)) (by simp; exact ar272 hla) hk ?_ ?_
    · intro i x K KF hx hK
      obtain ⟨rfl, hi⟩ := qmap_get hx
      simp only [wStore, wCall, wTrue, compLoc, Loc.set, ofString_inj, ofString_beq, String.reduceEq, String.reduceBEq, List.lookup_cons, Option.some.injEq, reduceCtorEq, if_true, if_false, exists_eq_left', and_true, forall_const, false_implies, Bool.true_eq_false]
      exact ⟨_, rfl, hK⟩
    · rw [List.length_map, lst_of (f := fun i => - co a i) fun i _ => rfl]
      refine hP _ _ _ pre_app (by exact ar146) got_at0 ⟨by simp, fun t => ?_, fun n h => Wl.range fun i hi => (h _ (List.mem_of_getElem? (co_get hi))).neg⟩
      rw [co_range]
      split
      · rfl
      · rw [co_big (by exact ar15 (by assumption))]; rfl
noncomputable def cQsub : Con := fun vs σ P => ∃ (k j A B : Nat) (a b : List Rat), vs = [.ref k, .ref j] ∧ σ[k]? = some (a.map qv) ∧ σ[j]? = some (b.map qv) ∧ a.length ≤ 100 ∧ b.length ≤ 100 ∧ 1 ≤ A ∧ 1 ≤ B ∧ Wl A a ∧ Wl B b ∧ A + B + 1 ≤ 130000000 ∧
  Ret σ P fun r => Trm r ∧ (∀ t, co r t = co a t - co b t) ∧ Wl (A + B + 1) r ∧ r.length ≤ max a.length b.length
theorem ok_qsub (X : Cx w H0 mg mb) : FnOk pg w H0 mg 8 (Str.ofString "qsub") cQsub := by
  refine' fn_of X (i := 28) (k := 25) (d := 7) (C := cQsub) rfl rfl (by kernel_rfl) rfl ?snd ?bind (by kernel_rfl) rfl rfl rfl (by kernel_rfl) ?law
  case snd =>
    repeat' (first
      | (with_reducible first | exact sndB_nil | refine' sndB_cons ?_ ?_ | refine' snd_if ?_ ?_ ?_ | refine' snd_while ?_ ?_ | exact snd_no (st := Stmt.Return (some (Expr.Constant (Const.bool false) _ _)) _) | refine' snd_ret ?_ | exact snd_cont | exact snd_no (st := Stmt.Raise _ _ _) | exact sndL_nil | refine' sndA_sub ?_ ?_ | exact sndAs_nil | exact sndIfs_nil | refine' sndIfs_one ?_ | exact waF_name | exact waF_two | exact snd_int | exact snd_none | refine' snd_tup ?_ | refine' snd_lst ?_ | refine' snd_binop X.wd ?_ ?_ | refine' snd_usub ?_ | refine' snd_ifexp ?_ ?_ ?_ | refine' snd_upto ?_ ?_ | refine' sndT_and ?_ ?_ | refine' sndT_or ?_ ?_)
      | ((with_reducible first | refine' n_tgt ?s1 | refine' n_aug ?s1 ?_ | refine' n_glob X X.r0 ?s1 | refine' n_glob X X.r1 ?s1 | refine' n_name ?s1); (case s1 => kernel_rfl))
      | ((with_reducible first | refine' sndL_cons ?_ ?_ ?s1 | refine' sndAs_cons ?_ ?_ ?s1); (case s1 => exact fun _ => rfl))
      | ((with_reducible first | refine' snd_for ?_ ?_ ?_ ?s1 | refine' snd_sub ?_ ?_ ?s1); (case s1 => exact fun _ _ => rfl))
      | ((with_reducible first | refine' snd_compare ?_ ?_ ?s1 | refine' sndT_cmp ?_ ?_ ?s1); (case s1 => rfl))
      | ((with_reducible refine' n_acomp ?s1 ?s2 ?s4 ?s5 ?s6 ?_ ?_ ?_ ?_ ?_ ?_); (case s1 => kernel_rfl); (case s2 => rfl); (case s4 => exact fun _ _ => rfl); (case s5 => (intro env h; cases env; cases h; kernel_rfl)); (case s6 => decide +kernel))
      | ((with_reducible refine' snd_assign (e := Expr.Tuple (Expr.Constant _ _ _ :: Expr.Constant _ _ _ :: _) _ _) ?_ ?_ ?s1 ?s2 ?s3); (case s1 => exact fun _ => rfl); (case s2 => first | exact fun _ _ => rfl | (intro env h; cases env; cases h; kernel_rfl)); (case s3 => first | exact fun _ _ => rfl | (intro env h; cases env; cases h; kernel_rfl)))
      | ((with_reducible refine' snd_swapN (elts := Expr.Name _ _ :: _) (e := Expr.Tuple _ _ _) ?_ ?s1 ?s2 ?s3); (case s1 => kernel_rfl); (case s2 => exact fun _ _ => rfl); (case s3 => (intro env h; cases env; cases h; kernel_rfl)))
      | ((with_reducible refine' snd_assign ?_ ?_ ?s1 ?s2 ?s3); (case s1 => exact fun _ => rfl); (case s2 => first | exact fun _ _ => rfl | (intro env h; cases env; cases h; kernel_rfl)); (case s3 => first | exact fun _ _ => rfl | (intro env h; cases env; cases h; kernel_rfl)))
      | ((with_reducible refine' snd_expr ?_ ?s1 ?s2); (case s1 => (intro env h; cases env; cases h; kernel_rfl)); (case s2 => first | exact fun _ _ => rfl | (intro env h; cases env; cases h; kernel_rfl)))
      | ((with_reducible refine' sndA_tup ?_ ?s1); (case s1 => exact fun _ => ⟨rfl, rfl⟩))
      | ((with_reducible first | refine' n_range1 X ?s1 ?s2 ?_ | refine' n_enum X ?s1 ?s2 ?_); (case s1 => kernel_rfl); (case s2 => exact fun _ => rfl))
      | ((with_reducible refine' n_range2 X ?s1 ?s2 ?s3 ?_); (case s1 => kernel_rfl); (case s2 => exact fun _ => rfl); (case s3 => exact fun _ _ => rfl))
      | (with_reducible first | refine' n_listN ?_ | refine' n_listT ?_)
      | ((with_reducible refine' snd_append ?_ ?_ ?s1 ?s2 ?s3); (case s1 => exact fun _ => rfl); (case s2 => exact fun _ => rfl); (case s3 => rfl))
      | ((with_reducible first | refine' n_len X ?s1 ?s3 ?s4 ?_ | refine' n_abs X ?s1 ?s3 ?s4 ?_ | refine' n_int X ?s1 ?s3 ?s4 ?_ | refine' n_list X ?s1 ?s3 ?s4 ?_ | refine' n_min X ?s1 ?s3 ?s4 ?_ | refine' n_max X ?s1 ?s3 ?s4 ?_ | refine' n_sum X ?s1 ?s3 ?s4 ?_); (case s1 => kernel_rfl); (case s3 => exact fun _ => rfl); (case s4 => exact fun _ _ => rfl))
      | ((with_reducible first | refine' n_call X (ok_qadd X) ?s1 ?s2 ?s3 ?_ | refine' n_call X (ok_qneg X) ?s1 ?s2 ?s3 ?_); (case s1 => rfl); (case s2 => kernel_rfl); (case s3 => exact fun _ => rfl))
      | ((with_reducible refine' n_comp ?s1 ?s2 ?s4 ?_ ?_ ?_ ?_ ?_ ?_); (case s1 => kernel_rfl); (case s2 => rfl); (case s4 => exact fun _ _ => rfl))
      | kernel_rfl)
  case bind => intro pm cd doc; refine ofLen2 ?_; intros; kernel_rfl
  case law =>
    intro vs σ P; refine hide fun Gq hGq => ?_; rintro ⟨k, j, A, B, a, b, rfl, hk, hj, hla, hlb, hA, hB, hwa, hwb, hbnd, hP⟩; refine hGq ?_; clear hGq
    refine ⟨rfl, ?_⟩
    simp only [wSeq, wRet, wCall, wName, wStores, Loc.set, locOf, post, ofString_inj, String.reduceEq, List.map, Option.some.injEq, if_true, if_false, exists_eq_left']
    refine ⟨_, _, rfl, hj, hlb, fun σ' kk r hp _ hr ⟨h1, h2, h3⟩ => ?_⟩
    refine ⟨_, _, A, B, a, r, rfl, got_pre hp hk, hr, hla, by omega, hA, hB, hwa, h3 _ hwb, hbnd, hP.mono hp fun r' ⟨g1, g2, g3, g4⟩ => ⟨g1, fun t => ?_, g3, by omega⟩⟩
    rw [g2, h2]; grind

noncomputable def cQscale : Con := fun vs σ P => ∃ (k A B : Nat) (a : List Rat) (q : Rat), vs = [.ref k, qv q] ∧ σ[k]? = some (a.map qv) ∧ a.length ≤ 100 ∧ 1 ≤ A ∧ Wl A a ∧ Wq B q ∧ A + B ≤ 130000000 ∧
  Ret σ P fun r => (q ≠ 0 → r.length = a.length) ∧ (q = 0 → r = []) ∧ (∀ t, co r t = co a t * q) ∧ Wl (A + B) r
theorem ok_qscale (X : Cx w H0 mg mb) : FnOk pg w H0 mg 7 (Str.ofString "qscale") cQscale := by
  refine' fn_of X (i := 29) (k := 26) (d := 6) (C := cQscale) rfl rfl (by kernel_rfl) rfl ?snd ?bind (by kernel_rfl) rfl rfl rfl (by kernel_rfl) ?law
  case snd =>
    repeat' (first
      | (with_reducible first | exact sndB_nil | refine' sndB_cons ?_ ?_ | refine' snd_if ?_ ?_ ?_ | refine' snd_while ?_ ?_ | exact snd_no (st := Stmt.Return (some (Expr.Constant (Const.bool false) _ _)) _) | refine' snd_ret ?_ | exact snd_cont | exact snd_no (st := Stmt.Raise _ _ _) | exact sndL_nil | refine' sndA_sub ?_ ?_ | exact sndAs_nil | exact sndIfs_nil | refine' sndIfs_one ?_ | exact waF_name | exact waF_two | exact snd_int | exact snd_none | refine' snd_tup ?_ | refine' snd_lst ?_ | refine' snd_binop X.wd ?_ ?_ | refine' snd_usub ?_ | refine' snd_ifexp ?_ ?_ ?_ | refine' snd_upto ?_ ?_ | refine' sndT_and ?_ ?_ | refine' sndT_or ?_ ?_)
      | ((with_reducible first | refine' n_tgt ?s1 | refine' n_aug ?s1 ?_ | refine' n_glob X X.r0 ?s1 | refine' n_glob X X.r1 ?s1 | refine' n_name ?s1); (case s1 => kernel_rfl))
      | ((with_reducible first | refine' sndL_cons ?_ ?_ ?s1 | refine' sndAs_cons ?_ ?_ ?s1); (case s1 => exact fun _ => rfl))
      | ((with_reducible first | refine' snd_for ?_ ?_ ?_ ?s1 | refine' snd_sub ?_ ?_ ?s1); (case s1 => exact fun _ _ => rfl))
      | ((with_reducible first | refine' snd_compare ?_ ?_ ?s1 | refine' sndT_cmp ?_ ?_ ?s1); (case s1 => rfl))
      | ((with_reducible refine' n_acomp ?s1 ?s2 ?s4 ?s5 ?s6 ?_ ?_ ?_ ?_ ?_ ?_); (case s1 => kernel_rfl); (case s2 => rfl); (case s4 => exact fun _ _ => rfl); (case s5 => (intro env h; cases env; cases h; kernel_rfl)); (case s6 => decide +kernel))
      | ((with_reducible refine' snd_assign (e := Expr.Tuple (Expr.Constant _ _ _ :: Expr.Constant _ _ _ :: _) _ _) ?_ ?_ ?s1 ?s2 ?s3); (case s1 => exact fun _ => rfl); (case s2 => first | exact fun _ _ => rfl | (intro env h; cases env; cases h; kernel_rfl)); (case s3 => first | exact fun _ _ => rfl | (intro env h; cases env; cases h; kernel_rfl)))
      | ((with_reducible refine' snd_swapN (elts := Expr.Name _ _ :: _) (e := Expr.Tuple _ _ _) ?_ ?s1 ?s2 ?s3); (case s1 => kernel_rfl); (case s2 => exact fun _ _ => rfl); (case s3 => (intro env h; cases env; cases h; kernel_rfl)))
      | ((with_reducible refine' snd_assign ?_ ?_ ?s1 ?s2 ?s3); (case s1 => exact fun _ => rfl); (case s2 => first | exact fun _ _ => rfl | (intro env h; cases env; cases h; kernel_rfl)); (case s3 => first | exact fun _ _ => rfl | (intro env h; cases env; cases h; kernel_rfl)))
      | ((with_reducible refine' snd_expr ?_ ?s1 ?s2); (case s1 => (intro env h; cases env; cases h; kernel_rfl)); (case s2 => first | exact fun _ _ => rfl | (intro env h; cases env; cases h; kernel_rfl)))
      | ((with_reducible refine' sndA_tup ?_ ?s1); (case s1 => exact fun _ => ⟨rfl, rfl⟩))
      | ((with_reducible first | refine' n_range1 X ?s1 ?s2 ?_ | refine' n_enum X ?s1 ?s2 ?_); (case s1 => kernel_rfl); (case s2 => exact fun _ => rfl))
      | ((with_reducible refine' n_range2 X ?s1 ?s2 ?s3 ?_); (case s1 => kernel_rfl); (case s2 => exact fun _ => rfl); (case s3 => exact fun _ _ => rfl))
      | (with_reducible first | refine' n_listN ?_ | refine' n_listT ?_)
      | ((with_reducible refine' snd_append ?_ ?_ ?s1 ?s2 ?s3); (case s1 => exact fun _ => rfl); (case s2 => exact fun _ => rfl); (case s3 => rfl))
      | ((with_reducible first | refine' n_len X ?s1 ?s3 ?s4 ?_ | refine' n_abs X ?s1 ?s3 ?s4 ?_ | refine' n_int X ?s1 ?s3 ?s4 ?_ | refine' n_list X ?s1 ?s3 ?s4 ?_ | refine' n_min X ?s1 ?s3 ?s4 ?_ | refine' n_max X ?s1 ?s3 ?s4 ?_ | refine' n_sum X ?s1 ?s3 ?s4 ?_); (case s1 => kernel_rfl); (case s3 => exact fun _ => rfl); (case s4 => exact fun _ _ => rfl))
      | ((with_reducible first | refine' n_call X (ok_rmul X) ?s1 ?s2 ?s3 ?_); (case s1 => rfl); (case s2 => kernel_rfl); (case s3 => exact fun _ => rfl))
      | ((with_reducible refine' n_comp ?s1 ?s2 ?s4 ?_ ?_ ?_ ?_ ?_ ?_); (case s1 => kernel_rfl); (case s2 => rfl); (case s4 => exact fun _ _ => rfl))
      | kernel_rfl)
  case bind => intro pm cd doc; refine ofLen2 ?_; intros; kernel_rfl
  case law =>
    intro vs σ P; refine hide fun Gq hGq => ?_; rintro ⟨k, A, B, a, q, rfl, hk, hla, hA, hwa, hq, hbnd, hP⟩; refine hGq ?_; clear hGq
    refine ⟨rfl, ?_⟩
    simp only [hk, wSeq, wRet, wLst, wOp2, wName, wVal, wTest, wIfE, wStores, wIList, wComp, Loc.set, locOf, post, ne_ints, qv_num, ofString_inj, String.reduceEq, List.map, List.length, Option.some.injEq, V.ref.injEq, V.bool.injEq, if_true, if_false, exists_eq_left', exists_and_left, true_and, Nat.reduceLeDiff, decide_eq_true_eq, decide_eq_false_iff_not, Bool.not_eq_true', Bool.not_eq_false']
    refine ⟨fun hz => ?_, fun hz => ?_⟩
    · have h0 : q ≠ 0 := fun e => hz (by rw [e]; rfl)
      refine comp_map (fun i => qv (co a i * q)) (by simp; exact ar272 hla) hk ?_ ?_
      · intro i x K KF hx hK
        obtain ⟨rfl, hi⟩ := qmap_get hx
        simp only [wStore, wCall, wTrue, compLoc, Loc.set, ofString_inj, ofString_beq, String.reduceEq, String.reduceBEq, List.lookup_cons, Option.some.injEq, reduceCtorEq, if_true, if_false, exists_eq_left', and_true, forall_const, false_implies, Bool.true_eq_false]
        exact ⟨_, _, A, B, rfl, co_w hwa hA i, hq, hbnd, hK⟩
      · rw [List.length_map, lst_of (f := fun i => co a i * q) fun i _ => rfl]
        refine hP _ _ _ pre_app (by exact ar146) got_at0 ⟨fun _ => by simp, fun h => absurd h h0, fun t => ?_, Wl.range fun i _ => (co_w hwa hA i).mul hq⟩
        rw [co_range]
        split
        · rfl
        · rw [co_big (by exact ar15 (by assumption)), Rat.zero_mul]
    · have h0 : q = 0 := Rat.num_eq_zero.mp hz
      refine hP _ _ [] pre_app (by exact ar146) got_at0 ⟨fun h => absurd h0 h, fun _ => rfl, fun t => ?_, fun q hq => by simp at hq⟩
      rw [h0, Rat.mul_zero]; rfl
noncomputable def cQraise : Con := fun vs σ P => ∃ (k m : Nat) (a : List Rat), vs = [.ref k, .int m] ∧ σ[k]? = some (a.map qv) ∧ a.length ≤ 100 ∧ m ≤ 100 ∧ Ret σ P fun r => r.length ≤ a.length + m ∧ (∀ t, co r t = up m (co a) t) ∧ ∀ n, 1 ≤ n → Wl n a → Wl n r
theorem co_raise {a : List Rat} {m t : Nat} : co (List.replicate m 0 ++ a) t = up m (co a) t := by
  unfold co up
  simp only [List.getD_eq_getElem?_getD]
  by_cases h : m ≤ t
  · rw [if_pos h, List.getElem?_append_right (by simpa using h)]; simp
  · rw [if_neg h, List.getElem?_append_left (by simp; exact ar21 h), List.getElem?_replicate, if_pos (by exact ar21 h)]; rfl
theorem ok_qraise (X : Cx w H0 mg mb) : FnOk pg w H0 mg 7 (Str.ofString "qraise") cQraise := by
  refine' fn_of X (i := 30) (k := 27) (d := 6) (C := cQraise) rfl rfl (by kernel_rfl) rfl ?snd ?bind (by kernel_rfl) rfl rfl rfl (by kernel_rfl) ?law
  case snd =>
    repeat' (first
      | (with_reducible first | exact sndB_nil | refine' sndB_cons ?_ ?_ | refine' snd_if ?_ ?_ ?_ | refine' snd_while ?_ ?_ | exact snd_no (st := Stmt.Return (some (Expr.Constant (Const.bool false) _ _)) _) | refine' snd_ret ?_ | exact snd_cont | exact snd_no (st := Stmt.Raise _ _ _) | exact sndL_nil | refine' sndA_sub ?_ ?_ | exact sndAs_nil | exact sndIfs_nil | refine' sndIfs_one ?_ | exact waF_name | exact waF_two | exact snd_int | exact snd_none | refine' snd_tup ?_ | refine' snd_lst ?_ | refine' snd_binop X.wd ?_ ?_ | refine' snd_usub ?_ | refine' snd_ifexp ?_ ?_ ?_ | refine' snd_upto ?_ ?_ | refine' sndT_and ?_ ?_ | refine' sndT_or ?_ ?_)
      | ((with_reducible first | refine' n_tgt ?s1 | refine' n_aug ?s1 ?_ | refine' n_glob X X.r0 ?s1 | refine' n_glob X X.r1 ?s1 | refine' n_name ?s1); (case s1 => kernel_rfl))
      | ((with_reducible first | refine' sndL_cons ?_ ?_ ?s1 | refine' sndAs_cons ?_ ?_ ?s1); (case s1 => exact fun _ => rfl))
      | ((with_reducible first | refine' snd_for ?_ ?_ ?_ ?s1 | refine' snd_sub ?_ ?_ ?s1); (case s1 => exact fun _ _ => rfl))
      | ((with_reducible first | refine' snd_compare ?_ ?_ ?s1 | refine' sndT_cmp ?_ ?_ ?s1); (case s1 => rfl))
      | ((with_reducible refine' n_acomp ?s1 ?s2 ?s4 ?s5 ?s6 ?_ ?_ ?_ ?_ ?_ ?_); (case s1 => kernel_rfl); (case s2 => rfl); (case s4 => exact fun _ _ => rfl); (case s5 => (intro env h; cases env; cases h; kernel_rfl)); (case s6 => decide +kernel))
      | ((with_reducible refine' snd_assign (e := Expr.Tuple (Expr.Constant _ _ _ :: Expr.Constant _ _ _ :: _) _ _) ?_ ?_ ?s1 ?s2 ?s3); (case s1 => exact fun _ => rfl); (case s2 => first | exact fun _ _ => rfl | (intro env h; cases env; cases h; kernel_rfl)); (case s3 => first | exact fun _ _ => rfl | (intro env h; cases env; cases h; kernel_rfl)))
      | ((with_reducible refine' snd_swapN (elts := Expr.Name _ _ :: _) (e := Expr.Tuple _ _ _) ?_ ?s1 ?s2 ?s3); (case s1 => kernel_rfl); (case s2 => exact fun _ _ => rfl); (case s3 => (intro env h; cases env; cases h; kernel_rfl)))
      | ((with_reducible refine' snd_assign ?_ ?_ ?s1 ?s2 ?s3); (case s1 => exact fun _ => rfl); (case s2 => first | exact fun _ _ => rfl | (intro env h; cases env; cases h; kernel_rfl)); (case s3 => first | exact fun _ _ => rfl | (intro env h; cases env; cases h; kernel_rfl)))
      | ((with_reducible refine' snd_expr ?_ ?s1 ?s2); (case s1 => (intro env h; cases env; cases h; kernel_rfl)); (case s2 => first | exact fun _ _ => rfl | (intro env h; cases env; cases h; kernel_rfl)))
      | ((with_reducible refine' sndA_tup ?_ ?s1); (case s1 => exact fun _ => ⟨rfl, rfl⟩))
      | ((with_reducible first | refine' n_range1 X ?s1 ?s2 ?_ | refine' n_enum X ?s1 ?s2 ?_); (case s1 => kernel_rfl); (case s2 => exact fun _ => rfl))
      | ((with_reducible refine' n_range2 X ?s1 ?s2 ?s3 ?_); (case s1 => kernel_rfl); (case s2 => exact fun _ => rfl); (case s3 => exact fun _ _ => rfl))
      | (with_reducible first | refine' n_listN ?_ | refine' n_listT ?_)
      | ((with_reducible refine' snd_append ?_ ?_ ?s1 ?s2 ?s3); (case s1 => exact fun _ => rfl); (case s2 => exact fun _ => rfl); (case s3 => rfl))
      | ((with_reducible first | refine' n_len X ?s1 ?s3 ?s4 ?_ | refine' n_abs X ?s1 ?s3 ?s4 ?_ | refine' n_int X ?s1 ?s3 ?s4 ?_ | refine' n_list X ?s1 ?s3 ?s4 ?_ | refine' n_min X ?s1 ?s3 ?s4 ?_ | refine' n_max X ?s1 ?s3 ?s4 ?_ | refine' n_sum X ?s1 ?s3 ?s4 ?_); (case s1 => kernel_rfl); (case s3 => exact fun _ => rfl); (case s4 => exact fun _ _ => rfl))
      | ((with_reducible refine' n_comp ?s1 ?s2 ?s4 ?_ ?_ ?_ ?_ ?_ ?_); (case s1 => kernel_rfl); (case s2 => rfl); (case s4 => exact fun _ _ => rfl))
      | kernel_rfl)
  case bind => intro pm cd doc; refine ofLen2 ?_; intros; kernel_rfl
  case law =>
    intro vs σ P; refine hide fun Gq hGq => ?_; rintro ⟨k, m, a, rfl, hk, hla, hm, hP⟩; refine hGq ?_; clear hGq
    refine ⟨rfl, ?_⟩
    simp only [hk, gotA hk, List.append_assoc, List.cons_append, List.nil_append, List.length_append, got_at0, got_at, List.getElem?_cons_zero, List.getElem?_cons_succ, List.length_map, Nat.zero_add, Nat.reduceAdd, Option.some.injEq, exists_eq_left', and_true, true_and, wSeq, wRet, wLst, wOp2, wCall, wName, wVal, wTest, wIfE, wStores, Loc.set, locOf, post, bin_cat, bin_rep, gt_ints, qv0, ofString_inj, String.reduceEq, cLen, cList, List.map, List.length, List.nil_append, List.cons_append, List.cons.injEq, Option.some.injEq, V.ref.injEq, V.bool.injEq, if_true, if_false, exists_eq_left', exists_and_left, and_true, true_and, Nat.reduceAdd, Nat.reduceLeDiff, Int.reduceNeg, decide_eq_true_eq, decide_eq_false_iff_not]
    refine ⟨fun h => ?_, fun h => ?_⟩
    · rw [show ((m : Int)).toNat = m by exact ar264, rep_q0, ← List.map_append]
      refine ⟨by exact ar273 hm, by exact ar274, by exact ar275 hm, by simp; exact ar276 hla hm, hP _ _ _ pre_app (by exact ar212) got_at ⟨by simp; exact ar277, fun t => co_raise, fun n hn h q hq => ?_⟩⟩
      rcases List.mem_append.mp hq with h1 | h1
      · rw [(List.mem_replicate.mp h1).2]; exact Wq.zero hn
      · exact h q h1
    · have e : a = [] := List.length_eq_zero_iff.mp (by exact ar249 h)
      subst e
      refine hP _ _ [] pre_app (by exact ar146) got_at0 ⟨by simp, fun t => ?_, fun n _ h => h⟩
      unfold up; split <;> rfl
end Mine

namespace Mine
open PySem PySem.W PyProof.Rows
set_option linter.unusedVariables false
set_option linter.unusedSimpArgs false
set_option maxRecDepth 100000
set_option maxHeartbeats 4000000
open PySem.Calls
variable {w : World} {H0 : Heap} {mg mb : Str → Option Value}


theorem cv_part {a b : List Rat} {t : Nat} : sm (fun x => co a x * up x (co b) t) a.length = cv (co a) (co b) t := by
  have h1 : sm (fun x => co a x * up x (co b) t) (max a.length (t + 1)) = sm (fun x => co a x * up x (co b) t) a.length :=
    sm_more (by exact ar278) fun i h _ => by rw [co_big h, Rat.zero_mul]
  have h2 : sm (fun x => co a x * up x (co b) t) (max a.length (t + 1)) = sm (fun x => co a x * up x (co b) t) (t + 1) :=
    sm_more (by exact ar279) fun i h _ => by rw [up, if_neg (by exact ar280 h), Rat.mul_zero]
  rw [← h1, h2, cv]
  exact sm_congr fun i hi => by rw [up, if_pos (by exact ar16 hi)]
theorem cv_nil {b : List Rat} {t : Nat} : cv (co []) (co b) t = 0 := by rw [← cv_part]; rfl
noncomputable def cQmul : Con := fun vs σ P => ∃ (k j A B : Nat) (a b : List Rat), vs = [.ref k, .ref j] ∧ σ[k]? = some (a.map qv) ∧ σ[j]? = some (b.map qv) ∧ a.length ≤ 20 ∧ b.length ≤ 20 ∧ 1 ≤ A ∧ 1 ≤ B ∧ Wl A a ∧ Wl B b ∧ 1 + 20 * (A + B + 1) ≤ 65000000 ∧
  Ret σ P fun r => (∀ t, co r t = cv (co a) (co b) t) ∧ Wl (1 + a.length * (A + B + 1)) r ∧ r.length = (if a.length = 0 ∨ b.length = 0 then 0 else a.length + b.length - 1)
inductive IvMulA (σ : Sto) (j A B : Nat) (a b : List Rat) (i : Nat) (ε : Loc) (σ' : Sto) (r : List Rat) : Prop where
  | mk : (σ'[σ.length + 1]? = some (r.map qv)) → (r.length = a.length + b.length - 1) → (Wl (1 + i * (A + B + 1)) r) → (∀ t, co r t = sm (fun x => co a x * up x (co b) t) i) → IvMulA σ j A B a b i ε σ' r
inductive IvMulB (σ : Sto) (j A B i : Nat) (a b : List Rat) (l : Nat) (ε1 : Loc) (σ1 : Sto) (r : List Rat) : Prop where
  | mk : (σ1[σ.length + 1]? = some (r.map qv)) → (r.length = a.length + b.length - 1) → (Wl (1 + (i + 1) * (A + B + 1)) r) → ((∀ t, i + l ≤ t → Wq (1 + i * (A + B + 1)) (co r t))) → (∀ t, co r t = sm (fun x => co a x * up x (co b) t) i + if i ≤ t ∧ t < i + l then co a i * co b (t - i) else 0) → IvMulB σ j A B i a b l ε1 σ1 r
theorem ok_qmul (X : Cx w H0 mg mb) : FnOk pg w H0 mg 7 (Str.ofString "qmul") cQmul := by
  refine' fn_of X (i := 31) (k := 28) (d := 6) (C := cQmul) rfl rfl (by kernel_rfl) rfl ?snd ?bind (by kernel_rfl) rfl rfl rfl (by kernel_rfl) ?law
  case snd =>
    repeat' (first
      | (with_reducible first | exact sndB_nil | refine' sndB_cons ?_ ?_ | refine' snd_if ?_ ?_ ?_ | refine' snd_while ?_ ?_ | exact snd_no (st := Stmt.Return (some (Expr.Constant (Const.bool false) _ _)) _) | refine' snd_ret ?_ | exact snd_cont | exact snd_no (st := Stmt.Raise _ _ _) | exact sndL_nil | refine' sndA_sub ?_ ?_ | exact sndAs_nil | exact sndIfs_nil | refine' sndIfs_one ?_ | exact waF_name | exact waF_two | exact snd_int | exact snd_none | refine' snd_tup ?_ | refine' snd_lst ?_ | refine' snd_binop X.wd ?_ ?_ | refine' snd_usub ?_ | refine' snd_ifexp ?_ ?_ ?_ | refine' snd_upto ?_ ?_ | refine' sndT_and ?_ ?_ | refine' sndT_or ?_ ?_)
      | ((with_reducible first | refine' n_tgt ?s1 | refine' n_aug ?s1 ?_ | refine' n_glob X X.r0 ?s1 | refine' n_glob X X.r1 ?s1 | refine' n_name ?s1); (case s1 => kernel_rfl))
      | ((with_reducible first | refine' sndL_cons ?_ ?_ ?s1 | refine' sndAs_cons ?_ ?_ ?s1); (case s1 => exact fun _ => rfl))
      | ((with_reducible first | refine' snd_for ?_ ?_ ?_ ?s1 | refine' snd_sub ?_ ?_ ?s1); (case s1 => exact fun _ _ => rfl))
      | ((with_reducible first | refine' snd_compare ?_ ?_ ?s1 | refine' sndT_cmp ?_ ?_ ?s1); (case s1 => rfl))
      | ((with_reducible refine' n_acomp ?s1 ?s2 ?s4 ?s5 ?s6 ?_ ?_ ?_ ?_ ?_ ?_); (case s1 => kernel_rfl); (case s2 => rfl); (case s4 => exact fun _ _ => rfl); (case s5 => (intro env h; cases env; cases h; kernel_rfl)); (case s6 => decide +kernel))
      | ((with_reducible refine' snd_assign (e := Expr.Tuple (Expr.Constant _ _ _ :: Expr.Constant _ _ _ :: _) _ _) ?_ ?_ ?s1 ?s2 ?s3); (case s1 => exact fun _ => rfl); (case s2 => first | exact fun _ _ => rfl | (intro env h; cases env; cases h; kernel_rfl)); (case s3 => first | exact fun _ _ => rfl | (intro env h; cases env; cases h; kernel_rfl)))
      | ((with_reducible refine' snd_swapN (elts := Expr.Name _ _ :: _) (e := Expr.Tuple _ _ _) ?_ ?s1 ?s2 ?s3); (case s1 => kernel_rfl); (case s2 => exact fun _ _ => rfl); (case s3 => (intro env h; cases env; cases h; kernel_rfl)))
      | ((with_reducible refine' snd_assign ?_ ?_ ?s1 ?s2 ?s3); (case s1 => exact fun _ => rfl); (case s2 => first | exact fun _ _ => rfl | (intro env h; cases env; cases h; kernel_rfl)); (case s3 => first | exact fun _ _ => rfl | (intro env h; cases env; cases h; kernel_rfl)))
      | ((with_reducible refine' snd_expr ?_ ?s1 ?s2); (case s1 => (intro env h; cases env; cases h; kernel_rfl)); (case s2 => first | exact fun _ _ => rfl | (intro env h; cases env; cases h; kernel_rfl)))
      | ((with_reducible refine' sndA_tup ?_ ?s1); (case s1 => exact fun _ => ⟨rfl, rfl⟩))
      | ((with_reducible first | refine' n_range1 X ?s1 ?s2 ?_ | refine' n_enum X ?s1 ?s2 ?_); (case s1 => kernel_rfl); (case s2 => exact fun _ => rfl))
      | ((with_reducible refine' n_range2 X ?s1 ?s2 ?s3 ?_); (case s1 => kernel_rfl); (case s2 => exact fun _ => rfl); (case s3 => exact fun _ _ => rfl))
      | (with_reducible first | refine' n_listN ?_ | refine' n_listT ?_)
      | ((with_reducible refine' snd_append ?_ ?_ ?s1 ?s2 ?s3); (case s1 => exact fun _ => rfl); (case s2 => exact fun _ => rfl); (case s3 => rfl))
      | ((with_reducible first | refine' n_len X ?s1 ?s3 ?s4 ?_ | refine' n_abs X ?s1 ?s3 ?s4 ?_ | refine' n_int X ?s1 ?s3 ?s4 ?_ | refine' n_list X ?s1 ?s3 ?s4 ?_ | refine' n_min X ?s1 ?s3 ?s4 ?_ | refine' n_max X ?s1 ?s3 ?s4 ?_ | refine' n_sum X ?s1 ?s3 ?s4 ?_); (case s1 => kernel_rfl); (case s3 => exact fun _ => rfl); (case s4 => exact fun _ _ => rfl))
      | ((with_reducible first | refine' n_call X (ok_rmul X) ?s1 ?s2 ?s3 ?_ | refine' n_call X (ok_radd X) ?s1 ?s2 ?s3 ?_); (case s1 => rfl); (case s2 => kernel_rfl); (case s3 => exact fun _ => rfl))
      | ((with_reducible refine' n_comp ?s1 ?s2 ?s4 ?_ ?_ ?_ ?_ ?_ ?_); (case s1 => kernel_rfl); (case s2 => rfl); (case s4 => exact fun _ _ => rfl))
      | kernel_rfl)
  case bind => intro pm cd doc; refine ofLen2 ?_; intros; kernel_rfl
  case law =>
    intro vs σ P; refine hide fun Gq hGq => ?_; rintro ⟨k, j, A, B, a, b, rfl, hk, hj, hla, hlb, hA, hB, hwa, hwb, hbnd, hP⟩; refine hGq ?_; clear hGq
    refine ⟨rfl, ?_⟩
    simp only [hk, hj, gotA hk, gotA hj, List.append_assoc, List.cons_append, List.nil_append, List.length_append, got_at0, List.getElem?_cons_zero, List.length_map, Nat.zero_add, Nat.reduceAdd, Option.some.injEq, exists_eq_left', and_true, true_and, wSeq, wNil, wAssign, wStore, wIf, wRet, wLst, wOp2, wCall, wName, wVal, wTest, wOr, wStores, wIEnum, wFor, Loc.set, locOf, post, bin_add, bin_sub, bin_rep, eq_ints, qv0, ofString_inj, String.reduceEq, cLen, List.map, List.length, List.nil_append, List.cons_append, List.cons.injEq, Option.some.injEq, V.ref.injEq, V.bool.injEq, if_true, if_false, exists_eq_left', exists_and_left, and_true, true_and, Nat.reduceAdd, Nat.reduceLeDiff, Int.reduceNeg, forall_const, false_implies, decide_eq_true_eq, decide_eq_false_iff_not, Bool.true_eq_false, List.length_map]
    have hempty : (a.length = 0 ∨ b.length = 0) → P (.ref σ.length) (σ ++ [[]]) := fun h => by
      refine hP _ _ [] pre_app (by exact ar146) got_at0 ⟨fun t => ?_, fun q hq => by simp at hq, by rw [if_pos h]; rfl⟩
      rcases h with h | h
      · have e : a = [] := List.length_eq_zero_iff.mp h
        rw [e, cv_nil]; rfl
      · have e : b = [] := List.length_eq_zero_iff.mp h
        rw [e, cv_comm, cv_nil]; rfl
    refine ⟨fun h => hempty (.inl (by exact ar165 h)), fun ha0 => ⟨fun h => hempty (.inr (by exact ar165 h)), fun hb0 => ⟨by exact ar281 hla hlb, by exact ar282, by exact ar283 hla hlb, ?_⟩⟩⟩
    have hN : ((a.length : Int) + b.length - 1).toNat = a.length + b.length - 1 := by exact ar284
    rw [hN, rep_q0]
    have hlen0 : ¬ (a.length = 0 ∨ b.length = 0) := by exact ar285 ha0 hb0
    refine for_of (fun i ε σ' => σ <+: σ' ∧ i ≤ a.length ∧ ε (Str.ofString "b") = some (.ref j) ∧ ε (Str.ofString "found") = some (.ref (σ.length + 1)) ∧ ∃ (r : List Rat), IvMulA σ j A B a b i ε σ' r) ?_ ?_ ?_
    · refine ⟨pre_app, by exact ar51, by kernel_rfl, by kernel_rfl, _, got_at, by simp, fun q hq => by rw [(List.mem_replicate.mp hq).2]; exact Wq.zero (by exact ar286), fun t => ?_⟩
      have := co_app0 (l := []) (n := a.length + b.length - 1) (t := t)
      rw [List.nil_append] at this
      rw [this]; rfl
    · intro ε σ'; refine hide fun Gq hGq => ?_; rintro ⟨hpre, hi, h2, h3, r, h4, h5, h6, h7⟩; refine hGq ?_; clear hGq
      rw [enm_len, List.length_map] at h6 h7
      exact ⟨got_pre hpre hk, _, h3, hP _ _ r hpre (by exact ar145) h4 ⟨fun t => by rw [h7, cv_part], h6, by rw [if_neg hlen0]; exact h5⟩⟩
    · intro i x ε σ' K hx hK; refine hide fun Gq hGq => ?_; rintro ⟨hpre, hi, h2, h3, r, h4, h5, h6, h7⟩; refine hGq ?_; clear hGq
      obtain ⟨y, hy, rfl⟩ := enm_get hx
      obtain ⟨rfl, hi⟩ := qmap_get hy
      refine ⟨got_pre hpre hk, ?_⟩
      simp only [h2, got_pre hpre hj, wSeq, wNil, wStore, wUnpack, wACons, wIEnum, wFor, Loc.set, ofString_inj, String.reduceEq, List.length, List.cons.injEq, List.nil_eq, Option.some.injEq, V.ref.injEq, V.tup.injEq, if_false, exists_eq_left, exists_eq_left', exists_and_left, and_true, true_and, Nat.reduceAdd, and_assoc]
      refine for_of (fun l ε1 σ1 => σ <+: σ1 ∧ l ≤ b.length ∧ ε1 (Str.ofString "b") = some (.ref j) ∧ ε1 (Str.ofString "found") = some (.ref (σ.length + 1)) ∧ ε1 (Str.ofString "one") = some (.int i) ∧ ε1 (Str.ofString "left") = some (qv (co a i)) ∧ ∃ (r : List Rat), IvMulB σ j A B i a b l ε1 σ1 r) ?_ ?_ ?_
      · have hm : 1 + i * (A + B + 1) ≤ 1 + (i + 1) * (A + B + 1) := Nat.add_le_add_left (Nat.mul_le_mul_right (A + B + 1) (Nat.le_succ i)) 1
        refine ⟨hpre, by exact ar51, (Eq.trans (by kernel_rfl) h2), (Eq.trans (by kernel_rfl) h3), by kernel_rfl, by kernel_rfl, r, h4, h5, h6.mono hm, fun t _ => co_w h6 (by exact ar287) t, fun t => ?_⟩
        rw [h7, if_neg (by exact ar200), Rat.add_zero]
      · intro ε1 σ1; refine hide fun Gq hGq => ?_; rintro ⟨hpre1, _, g2, g3, g4, g5, r, g6, g7, g8, _, g9⟩; refine hGq ?_; clear hGq
        rw [enm_len, List.length_map] at g9
        refine ⟨got_pre hpre1 hj, hK _ _ ⟨hpre1, by exact ar96 hi, g2, g3, r, g6, g7, g8, fun t => ?_⟩⟩
        rw [g9, sm]
        congr 1
        unfold up
        by_cases e : i ≤ t
        · rw [if_pos e]
          split
          · rfl
          · rw [co_big (l := b) (by exact ar288 e (by assumption)), Rat.mul_zero]
        · rw [if_neg e, if_neg (by exact ar203 e), Rat.mul_zero]
      · intro l x ε1 σ1 K1 hx1 hK1; refine hide fun Gq hGq => ?_; rintro ⟨hpre1, _, g2, g3, g4, g5, r, g6, g7, g8, gw, g9⟩; refine hGq ?_; clear hGq
        obtain ⟨y, hy, rfl⟩ := enm_get hx1
        obtain ⟨rfl, hl⟩ := qmap_get hy
        refine ⟨got_pre hpre1 hj, ?_⟩
        simp only [g3, g4, g5, wSeq, wNil, wAssign, wStore, wUnpack, wACons, wOp2, wCall, wName, wSub, Loc.set, bin_add, ofString_inj, String.reduceEq, List.length, List.cons.injEq, List.nil_eq, Option.some.injEq, V.tup.injEq, if_true, if_false, exists_eq_left, exists_eq_left', exists_and_left, true_and, Nat.reduceAdd, and_assoc]
        have e1 : ((i : Int) + l).toNat = i + l := by exact ar205
        refine qget g6 (by exact ar206) (by exact ar289 hi g7 hl) ?_
        rw [e1]
        have w0 := gw (i + l) (Nat.le_refl _)
        have w1 := co_w hwa hA i
        have w2 := co_w hwb hB l
        have hm : (i + 1) * (A + B + 1) = i * (A + B + 1) + (A + B + 1) := Nat.succ_mul ..
        have hm2 : (i + 1) * (A + B + 1) ≤ 20 * (A + B + 1) := Nat.mul_le_mul_right _ (by exact ar290 hla hi)
        refine ⟨_, _, _, _, rfl, w1, w2, by exact ar291 hbnd, _, _, _, _, rfl, w0, w1.mul w2, by exact ar292 hbnd hm hm2, ?_⟩
        refine setitem_ref g6 (by exact ar206) (by simp; exact ar293 hi g7 hl) ?_
        rw [e1, set_qv]
        have ws := (w0.add (w1.mul w2)).mono (m := 1 + (i + 1) * (A + B + 1)) (by exact ar294 hm)
        refine hK1 _ _ ⟨pre_set hpre1 (by exact ar145), by exact ar96 hl, (Eq.trans (by kernel_rfl) g2), (Eq.trans (by kernel_rfl) g3), (Eq.trans (by kernel_rfl) g4), (Eq.trans (by kernel_rfl) g5), _, got_set g6, by simpa using g7, g8.set ws, fun t ht => ?_, fun t => ?_⟩
        · rw [co_set (by exact ar295 hi g7 hl), if_neg (by exact ar296 ht)]; exact gw t (by exact ar297 ht)
        · rw [co_set (by exact ar295 hi g7 hl)]
          by_cases e : t = i + l
          · subst e
            rw [if_pos rfl, if_pos (by exact ar298), g9, if_neg (by exact ar299), Nat.add_sub_cancel_left]
            grind
          · rw [if_neg e, g9]
            by_cases e2 : i ≤ t ∧ t < i + l
            · rw [if_pos e2, if_pos (by exact ar216 e2)]
            · rw [if_neg e2, if_neg (by exact ar300 e e2)]
end Mine

namespace Mine
open PySem PySem.W PyProof.Rows
set_option linter.unusedVariables false
set_option linter.unusedSimpArgs false
set_option maxRecDepth 100000
set_option maxHeartbeats 4000000
open PySem.Calls
variable {w : World} {H0 : Heap} {mg mb : Str → Option Value}


theorem qlast {σ : Sto} {k : Nat} {l : List Rat} {P : PV} (hk : σ[k]? = some (l.map qv)) (h0 : 0 < l.length) (h : P (qv (co l (l.length - 1))) σ) : wItem (.ref k) (.int (-1)) σ P := by
  refine item_last hk ?_ h
  rw [List.getLast?_eq_getElem?, List.length_map, List.getElem?_map, co_get (by exact ar258 h0)]; rfl
noncomputable def gw (R B : Nat) : Nat → Nat | 0 => R | n + 1 => 2 * gw R B n + 2 * B + 1
theorem gw_mono {R B n m : Nat} (h : n ≤ m) : gw R B n ≤ gw R B m := by
  induction m with
  | zero => have : n = 0 := by exact ar13 h
            rw [this]; exact Nat.le_refl _
  | succ m ih =>
    by_cases e : n = m + 1
    · rw [e]; exact Nat.le_refl _
    · have := ih (by exact ar14 h e)
      show _ ≤ 2 * gw R B m + 2 * B + 1
      exact ar301 this
theorem gw_pos {R B n : Nat} (h : 1 ≤ R) : 1 ≤ gw R B n := Nat.le_trans h (gw_mono (n := 0) (Nat.zero_le n))

theorem cv_unit (g : Nat → Rat) (n : Nat) : cv (fun i => if i = 0 then 1 else 0) g n = g n := by
  rw [cv_one (a := 0) (fun i _ h => if_neg (by exact ar302 h)) (fun i h1 h2 => by exact ar303 h1 h2)]
  simp [Rat.one_mul]
theorem div_step {f b r r' : List Rat} {p : Nat} {q : Rat} (hb : 0 < b.length) (hp : p + b.length = r.length) (hf : p < f.length) (hz : co f p = 0) (hq : q = co r (r.length - 1) / co b (b.length - 1)) (hbn : co b (b.length - 1) ≠ 0)
    (hr : ∀ t, co r' t = co (r.take (r.length - 1)) t - up p (fun u => co (b.take (b.length - 1)) u * q) t) (t : Nat) :
    cv (co (f.set p q)) (co b) t + co r' t = cv (co f) (co b) t + co r t := by
  have e1 : cv (co (f.set p q)) (co b) t = cv (co f) (co b) t + q * up p (co b) t := by
    have h : cv (co (f.set p q)) (co b) t = cv (fun i => co f i + q * up p (fun i => if i = 0 then 1 else 0) i) (co b) t := cv_congr (fun i _ => by
      rw [co_set hf]
      unfold up
      by_cases e : i = p
      · subst e; rw [if_pos rfl, if_pos (Nat.le_refl _), Nat.sub_self, hz]; dsimp only; rw [if_pos rfl]; grind
      · rw [if_neg e]
        split
        · dsimp only; rw [if_neg (by exact ar304 e (by assumption))]; grind
        · grind) fun _ _ => rfl
    rw [h, cv_add, cv_mul, cv_up]
    congr 2
    unfold up
    split
    · exact cv_unit ..
    · rfl
  rw [e1, hr, co_take]
  unfold up
  by_cases h1 : p ≤ t
  · rw [if_pos h1, if_pos h1]; dsimp only; rw [co_take]
    by_cases h2 : t < r.length - 1
    · rw [if_pos h2, if_pos (by omega)]; grind
    · rw [if_neg h2, if_neg (by exact ar305 hp h2)]
      by_cases h3 : t = r.length - 1
      · rw [show t - p = b.length - 1 by exact ar306 hp h3, h3, hq]; grind
      · rw [co_big (l := b) (by omega), co_big (l := r) (by exact ar307 h2 h3)]; grind
  · rw [if_neg h1, if_neg h1, if_pos (by exact ar308 hb hp h1)]; grind
theorem take_trm {f : List Rat} {s : Nat} (hf : Trm f) (hs : s ≤ f.length) (h1 : ∀ t, s ≤ t → co f t = 0) : f.take s = f := by
  by_cases e : s = f.length
  · rw [e, List.take_length]
  · exact absurd (h1 (f.length - 1) (by exact ar309 hs e)) (hf (by exact ar310 hs e))
noncomputable def cQdiv : Con := fun vs σ P => ∃ (k j A B : Nat) (a b : List Rat), vs = [.ref k, .ref j] ∧ σ[k]? = some (a.map qv) ∧ σ[j]? = some (b.map qv) ∧ a.length ≤ 20 ∧ b.length ≤ 20 ∧ 1 ≤ A ∧ 1 ≤ B ∧ Wl A a ∧ Wl B b ∧ Trm a ∧ Trm b ∧ 0 < b.length ∧
  2 * (gw A B (a.length + 1 - b.length) + B) ≤ 60000000 ∧
  ∀ σ' kf kr f r, σ <+: σ' → σ'[kf]? = some (f.map qv) → σ'[kr]? = some (r.map qv) → Trm f → Trm r → r.length < b.length → f.length = a.length + 1 - b.length → (∀ t, co a t = cv (co f) (co b) t + co r t) →
    Wl (gw A B (a.length + 1 - b.length) + B) f → Wl (gw A B (a.length + 1 - b.length)) r → P (.tup [.ref kf, .ref kr]) σ'
inductive IvDiv (σ : Sto) (j A B : Nat) (a b : List Rat) (m : Nat) (ε : Loc) (σ' : Sto) (kf kr it : Nat) (f r : List Rat) : Prop where
  | mk : (ε (Str.ofString "found") = some (.ref kf)) → (ε (Str.ofString "rest") = some (.ref kr)) → (σ.length ≤ kf) → (kr ≠ kf) → (σ'[kf]? = some (f.map qv)) → (σ'[kr]? = some (r.map qv)) → (r.length ≤ m) → (f.length = a.length + 1 - b.length) → (it + r.length ≤ a.length) → (it ≤ a.length + 1 - b.length) → (Trm r) → (Wl (gw A B it) r) → (Wl (gw A B (a.length + 1 - b.length) + B) f) → ((∀ t, co a t = cv (co f) (co b) t + co r t)) → ((∀ t, t + b.length ≤ r.length → co f t = 0)) → ((r.length = a.length ∨ r.length < a.length ∧ co f (a.length - b.length) ≠ 0)) → IvDiv σ j A B a b m ε σ' kf kr it f r
theorem ok_qdivmod (X : Cx w H0 mg mb) : FnOk pg w H0 mg 9 (Str.ofString "qdivmod") cQdiv := by
  refine' fn_of X (i := 32) (k := 29) (d := 8) (C := cQdiv) rfl rfl (by kernel_rfl) rfl ?snd ?bind (by kernel_rfl) rfl rfl rfl (by kernel_rfl) ?law
  case snd =>
    repeat' (first
      | (with_reducible first | exact sndB_nil | refine' sndB_cons ?_ ?_ | refine' snd_if ?_ ?_ ?_ | refine' snd_while ?_ ?_ | exact snd_no (st := Stmt.Return (some (Expr.Constant (Const.bool false) _ _)) _) | refine' snd_ret ?_ | exact snd_cont | exact snd_no (st := Stmt.Raise _ _ _) | exact sndL_nil | refine' sndA_sub ?_ ?_ | exact sndAs_nil | exact sndIfs_nil | refine' sndIfs_one ?_ | exact waF_name | exact waF_two | exact snd_int | exact snd_none | refine' snd_tup ?_ | refine' snd_lst ?_ | refine' snd_binop X.wd ?_ ?_ | refine' snd_usub ?_ | refine' snd_ifexp ?_ ?_ ?_ | refine' snd_upto ?_ ?_ | refine' sndT_and ?_ ?_ | refine' sndT_or ?_ ?_)
      | ((with_reducible first | refine' n_tgt ?s1 | refine' n_aug ?s1 ?_ | refine' n_glob X X.r0 ?s1 | refine' n_glob X X.r1 ?s1 | refine' n_name ?s1); (case s1 => kernel_rfl))
      | ((with_reducible first | refine' sndL_cons ?_ ?_ ?s1 | refine' sndAs_cons ?_ ?_ ?s1); (case s1 => exact fun _ => rfl))
      | ((with_reducible first | refine' snd_for ?_ ?_ ?_ ?s1 | refine' snd_sub ?_ ?_ ?s1); (case s1 => exact fun _ _ => rfl))
      | ((with_reducible first | refine' snd_compare ?_ ?_ ?s1 | refine' sndT_cmp ?_ ?_ ?s1); (case s1 => rfl))
      | ((with_reducible refine' n_acomp ?s1 ?s2 ?s4 ?s5 ?s6 ?_ ?_ ?_ ?_ ?_ ?_); (case s1 => kernel_rfl); (case s2 => rfl); (case s4 => exact fun _ _ => rfl); (case s5 => (intro env h; cases env; cases h; kernel_rfl)); (case s6 => decide +kernel))
      | ((with_reducible refine' snd_assign (e := Expr.Tuple (Expr.Constant _ _ _ :: Expr.Constant _ _ _ :: _) _ _) ?_ ?_ ?s1 ?s2 ?s3); (case s1 => exact fun _ => rfl); (case s2 => first | exact fun _ _ => rfl | (intro env h; cases env; cases h; kernel_rfl)); (case s3 => first | exact fun _ _ => rfl | (intro env h; cases env; cases h; kernel_rfl)))
      | ((with_reducible refine' snd_swapN (elts := Expr.Name _ _ :: _) (e := Expr.Tuple _ _ _) ?_ ?s1 ?s2 ?s3); (case s1 => kernel_rfl); (case s2 => exact fun _ _ => rfl); (case s3 => (intro env h; cases env; cases h; kernel_rfl)))
      | ((with_reducible refine' snd_assign ?_ ?_ ?s1 ?s2 ?s3); (case s1 => exact fun _ => rfl); (case s2 => first | exact fun _ _ => rfl | (intro env h; cases env; cases h; kernel_rfl)); (case s3 => first | exact fun _ _ => rfl | (intro env h; cases env; cases h; kernel_rfl)))
      | ((with_reducible refine' snd_expr ?_ ?s1 ?s2); (case s1 => (intro env h; cases env; cases h; kernel_rfl)); (case s2 => first | exact fun _ _ => rfl | (intro env h; cases env; cases h; kernel_rfl)))
      | ((with_reducible refine' sndA_tup ?_ ?s1); (case s1 => exact fun _ => ⟨rfl, rfl⟩))
      | ((with_reducible first | refine' n_range1 X ?s1 ?s2 ?_ | refine' n_enum X ?s1 ?s2 ?_); (case s1 => kernel_rfl); (case s2 => exact fun _ => rfl))
      | ((with_reducible refine' n_range2 X ?s1 ?s2 ?s3 ?_); (case s1 => kernel_rfl); (case s2 => exact fun _ => rfl); (case s3 => exact fun _ _ => rfl))
      | (with_reducible first | refine' n_listN ?_ | refine' n_listT ?_)
      | ((with_reducible refine' snd_append ?_ ?_ ?s1 ?s2 ?s3); (case s1 => exact fun _ => rfl); (case s2 => exact fun _ => rfl); (case s3 => rfl))
      | ((with_reducible first | refine' n_len X ?s1 ?s3 ?s4 ?_ | refine' n_abs X ?s1 ?s3 ?s4 ?_ | refine' n_int X ?s1 ?s3 ?s4 ?_ | refine' n_list X ?s1 ?s3 ?s4 ?_ | refine' n_min X ?s1 ?s3 ?s4 ?_ | refine' n_max X ?s1 ?s3 ?s4 ?_ | refine' n_sum X ?s1 ?s3 ?s4 ?_); (case s1 => kernel_rfl); (case s3 => exact fun _ => rfl); (case s4 => exact fun _ _ => rfl))
      | ((with_reducible first | refine' n_call X (ok_rdiv X) ?s1 ?s2 ?s3 ?_ | refine' n_call X (ok_qsub X) ?s1 ?s2 ?s3 ?_ | refine' n_call X (ok_qraise X) ?s1 ?s2 ?s3 ?_ | refine' n_call X (ok_qscale X) ?s1 ?s2 ?s3 ?_ | refine' n_call X (ok_qtrim X) ?s1 ?s2 ?s3 ?_); (case s1 => rfl); (case s2 => kernel_rfl); (case s3 => exact fun _ => rfl))
      | ((with_reducible refine' n_comp ?s1 ?s2 ?s4 ?_ ?_ ?_ ?_ ?_ ?_); (case s1 => kernel_rfl); (case s2 => rfl); (case s4 => exact fun _ _ => rfl))
      | kernel_rfl)
  case bind => intro pm cd doc; refine ofLen2 ?_; intros; kernel_rfl
  case law =>
    intro vs σ P; refine hide fun Gq hGq => ?_; rintro ⟨k, j, A, B, a, b, rfl, hk, hj, hla, hlb, hA, hB, hwa, hwb, hta, htb, hb0, hbnd, hP⟩; refine hGq ?_; clear hGq
    refine ⟨rfl, ?_⟩
    refine seq_cut fun R1 hR1 => ?_
    refine cut2 hR1 fun R2 hR2 hR1 => ?_
    refine cut2 hR2 fun R3 hR3 hR2 => ?_
    repeat (first | (with_reducible first | refine cutR hR1 ?_ | refine cutR hR2 ?_ | refine cutR hR3 ?_ | refine cutR hB1 ?_ | refine cutR hB2 ?_ | refine cutR hB3 ?_) | simp only [hj, List.length_map, Option.some.injEq, exists_eq_left', and_true, wSeq, wNil, wIf, wNo, wCall, wName, wVal, wTest, wStores, Loc.set, locOf, eq_ints, ofString_inj, String.reduceEq, cLen, List.map, List.cons.injEq, Option.some.injEq, V.ref.injEq, V.bool.injEq, if_true, if_false, exists_eq_left', exists_and_left, and_true, decide_eq_true_eq, decide_eq_false_iff_not, List.length_map])
    refine ⟨fun h => by exact (ar311 hb0 h).elim, fun _ => ?_⟩
    repeat (first | (with_reducible first | refine cutR hR1 ?_ | refine cutR hR2 ?_ | refine cutR hR3 ?_ | refine cutR hB1 ?_ | refine cutR hB2 ?_ | refine cutR hB3 ?_) | simp only [hk, gotA hk, gotA hj, List.append_assoc, List.cons_append, List.nil_append, List.length_append, List.length_cons, got_at, List.getElem?_cons_zero, List.getElem?_cons_succ, List.length_map, Nat.zero_add, Nat.reduceAdd, Option.some.injEq, exists_eq_left', and_assoc, and_true, true_and, wSeq, wSwap, wTup, wLst, wOp2, wCall, wName, wVal, wStores, Loc.set, tgt_nil, tgt_cons, bin_add, bin_sub, bin_rep, qv0, ofString_inj, String.reduceEq, cLen, cList, cMax, List.reverse, List.reverseAux, List.length, List.nil_append, List.cons_append, List.cons.injEq, Option.some.injEq, V.int.injEq, V.ref.injEq, V.tup.injEq, if_true, if_false, exists_eq_left', exists_and_left, and_true, true_and, Nat.reduceAdd, Nat.reduceLeDiff, Int.reduceNeg, and_assoc, List.length_map])
    refine ⟨by exact ar312 hla, by exact ar313, by exact ar314 hla, ?_⟩
    have hN : (max 0 ((a.length : Int) - b.length + 1)).toNat = a.length + 1 - b.length := by exact ar315
    rw [hN, rep_q0]
    generalize hZ : List.replicate (a.length + 1 - b.length) (0 : Rat) = Z
    have hZ0 : ∀ t, co Z t = 0 := fun t => by
      have := co_app0 (l := []) (n := a.length + 1 - b.length) (t := t)
      rw [List.nil_append, hZ] at this
      rw [this]; rfl
    repeat (first | (with_reducible first | refine cutR hR1 ?_ | refine cutR hR2 ?_ | refine cutR hR3 ?_ | refine cutR hB1 ?_ | refine cutR hB2 ?_ | refine cutR hB3 ?_) | simp only [wSeq, wOp2, wUn, wCall, wName, wVal, post, tgt_nil, tgt_cons, bin_sub, neg_i, cLen, List.cons.injEq, exists_and_left, and_true, Int.reduceNeg])
    refine while_cut fun B1 hB1 => ?_
    refine cut2 hB1 fun B2 hB2 hB1 => ?_
    refine cut2 hB2 fun B3 hB3 hB2 => ?_
    refine while_of (fun m ε σ' => σ <+: σ' ∧ ε (Str.ofString "b") = some (.ref j) ∧ ∃ (kf kr it : Nat) (f r : List Rat), IvDiv σ j A B a b m ε σ' kf kr it f r) a.length ?_ ?_
    · refine ⟨pre_app, by kernel_rfl, σ.length + 2, σ.length, 0, Z, a, by kernel_rfl, by kernel_rfl, by exact ar316, by exact ar317, got_at, got_at0, Nat.le_refl _, by rw [← hZ, List.length_replicate], by exact ar318, by exact ar319, hta, hwa, ?_, fun t => ?_, fun t _ => hZ0 t, .inl rfl⟩
      · intro q hq; rw [← hZ] at hq; rw [(List.mem_replicate.mp hq).2]; exact Wq.zero (by exact ar320 hB)
      · have e : cv (co Z) (co b) t = 0 := by
          have : cv (co Z) (co b) t = cv (co []) (co b) t := cv_congr (fun i _ => by rw [hZ0]; rfl) fun _ _ => rfl
          rw [this, cv_nil]
        rw [e, Rat.zero_add]
    · intro m ε σ' K hK; refine hide fun Gq hGq => ?_; rintro ⟨hpre, h1, kf, kr, it, f, r, h2, h3, h4, h5, h6, h7, h8, h9, h10, hit, h11, h12, h13, h14, h15, h16⟩; refine hGq ?_; clear hGq
      repeat (first | (with_reducible first | refine cutR hR1 ?_ | refine cutR hR2 ?_ | refine cutR hR3 ?_ | refine cutR hB1 ?_ | refine cutR hB2 ?_ | refine cutR hB3 ?_) | simp only [h1, h3, h7, got_pre hpre hj, wSeq, wSwap, wTup, wCall, wTest, wStores, ge_ints, cLen, List.reverse, List.reverseAux, List.length, List.cons.injEq, Option.some.injEq, V.ref.injEq, V.tup.injEq, V.bool.injEq, exists_eq_left', exists_and_left, and_true, true_and, Nat.reduceAdd, Nat.reduceLeDiff, Int.reduceNeg, decide_eq_true_eq, decide_eq_false_iff_not, List.length_map])
      constructor
      · intro hlt
        have hlt : r.length < b.length := by exact ar321 hlt
        repeat (first | (with_reducible first | refine cutR hR1 ?_ | refine cutR hR2 ?_ | refine cutR hR3 ?_ | refine cutR hB1 ?_ | refine cutR hB2 ?_ | refine cutR hB3 ?_) | simp only [h2, h3, wSeq, wRet, wTup, wCall, wName, post, List.length, Option.some.injEq, exists_eq_left', true_and, Nat.reduceAdd, Nat.reduceLeDiff])
        refine ⟨_, _, rfl, h6, by exact ar322 hla h9, fun σ2 kk g hp2 _ hg ⟨s, e1, e2, e3, e4⟩ => ?_⟩
        have htf : Trm f := fun h => by
          rcases h16 with h | ⟨_, h⟩
          · exact ar323 h9 (by assumption) (by assumption) h
          · rw [h9, show a.length + 1 - b.length - 1 = a.length - b.length by exact ar324]; exact h
        rw [e1, take_trm htf e2 e3] at hg
        exact hP σ2 kk kr f r (List.IsPrefix.trans hpre hp2) hg (got_pre hp2 h7) htf h11 hlt h9 h14 h13 (h12.mono (gw_mono (by exact ar325 hit)))
      · intro hge
        have hge : b.length ≤ r.length := by exact ar326 hge
        have hbn := htb hb0
        have hrn := h11 (by exact ar327 hb0 (by assumption))
        refine qlast h7 (by omega) ?_
        refine qlast (got_pre hpre hj) hb0 ?_
        have w1 : Wq (gw A B it) (co r (r.length - 1)) := co_w h12 (gw_pos hA) _
        have w2 : Wq B (co b (b.length - 1)) := co_w hwb hB _
        have hgm : gw A B (it + 1) ≤ gw A B (a.length + 1 - b.length) := gw_mono (by exact ar328 h10 (by assumption))
        have hg1 : gw A B (it + 1) = 2 * gw A B it + 2 * B + 1 := rfl
        refine ⟨_, _, _, _, rfl, w1, w2, by exact ar329 hbnd hgm hg1, hbn, ?_⟩
        repeat (first | (with_reducible first | refine cutR hR1 ?_ | refine cutR hR2 ?_ | refine cutR hR3 ?_ | refine cutR hB1 ?_ | refine cutR hB2 ?_ | refine cutR hB3 ?_) | simp only [h2, h7, got_pre hpre hj, wSeq, wAssign, wName, wSub, Loc.set, ofString_inj, String.reduceEq, Option.some.injEq, if_true, if_false, exists_eq_left', List.length_map])
        repeat (first | (with_reducible first | refine cutR hR1 ?_ | refine cutR hR2 ?_ | refine cutR hR3 ?_ | refine cutR hB1 ?_ | refine cutR hB2 ?_ | refine cutR hB3 ?_) | simp only [h1, h2, h3, wSeq, wNil, wSwap, wAssign, wStore, wUnpack, wACons, wAugS, wIf, wRet, wCont, wExpr, wNo, wTup, wLst, wOp2, wUn, wCall, wName, wVal, wTest, wAnd, wOr, wIfE, wTrue, wApp, wSub, wStores, wIList, wIRange1, wIRange2, wIEnum, wComp, wCompS, wFor, compLoc, Loc.set, locOf, post, tgt_nil, tgt_cons, bin_add, bin_sub, bin_subb, bin_mul, bin_fdiv, bin_mod, bin_cat, bin_rep, aug_add, aug_sub, neg_i, eq_ints, ne_ints, lt_ints, le_ints, gt_ints, ge_ints, is_nn, is_in, qv_num, qv_den, qv0, qv1, eq_q, ne_q, ofString_inj, ofString_beq, String.reduceEq, String.reduceBEq, cLen, cAbs, cInt, cList, cMin, cMax, cSum, List.map, List.reverse, List.reverseAux, List.length, List.append, List.nil_append, List.cons_append, List.lookup_cons, List.lookup_nil, List.cons.injEq, List.nil_eq, Option.some.injEq, V.int.injEq, V.ref.injEq, V.tup.injEq, V.bool.injEq, reduceCtorEq, if_true, if_false, exists_eq_left, exists_eq_left', exists_eq, exists_and_left, exists_and_right, and_true, true_and, and_false, false_and, exists_false, Nat.reduceAdd, Nat.reduceLeDiff, Int.reduceNeg, not_true_eq_false, not_false_eq_true, forall_const, true_implies, false_implies, implies_true, ne_eq, and_assoc, decide_eq_true_eq, decide_eq_false_iff_not, Bool.not_eq_true', Bool.not_eq_false', Bool.not_true, Bool.not_false, Bool.true_eq_false, Bool.false_eq_true])
        refine setitem_ref h6 (by exact ar330 (by assumption)) (by simp; exact ar331 h9 h16) ?_
        have hp : ((r.length : Int) - b.length).toNat = r.length - b.length := by exact ar332
        rw [hp, set_qv]
        have hj2 := got_pre (pre_set (xs := ((f.set (r.length - b.length) (co r (r.length - 1) / co b (b.length - 1))).map qv)) hpre h4) hj
        have hr2 : (σ'.set kf ((f.set (r.length - b.length) (co r (r.length - 1) / co b (b.length - 1))).map qv))[kr]? = some (r.map qv) := by rw [List.getElem?_set_ne (Ne.symm h5)]; exact h7
        have hf2 := got_set (xs := (f.set (r.length - b.length) (co r (r.length - 1) / co b (b.length - 1))).map qv) h6
        have hpre2 := pre_set (xs := ((f.set (r.length - b.length) (co r (r.length - 1) / co b (b.length - 1))).map qv)) hpre h4
        have hzf := h15 (r.length - b.length) (by exact ar333 (by assumption))
        have wn : Wq (gw A B it + B) (co r (r.length - 1) / co b (b.length - 1)) := w1.div w2 hbn
        have hn0 : co r (r.length - 1) / co b (b.length - 1) ≠ 0 := by grind
        have hlen2 : (σ'.set kf ((f.set (r.length - b.length) (co r (r.length - 1) / co b (b.length - 1))).map qv)).length = σ'.length := by simp
        generalize σ'.set kf ((f.set (r.length - b.length) (co r (r.length - 1) / co b (b.length - 1))).map qv) = σ2 at hj2 hr2 hf2 hpre2 hlen2 ⊢
        repeat (first | (with_reducible first | refine cutR hR1 ?_ | refine cutR hR2 ?_ | refine cutR hR3 ?_ | refine cutR hB1 ?_ | refine cutR hB2 ?_ | refine cutR hB3 ?_) | simp only [h1, h3, wSeq, wAssign, wStore, wCall, Loc.set, ofString_inj, String.reduceEq, Option.some.injEq, if_true, if_false, exists_eq_left', Int.reduceNeg])
        refine upto_ref hr2 ?_
        rw [List.length_map, upto_m1, map_take]
        refine upto_ref (gotA hj2 _) ?_
        rw [List.length_map, upto_m1, map_take]
        simp only [List.append_assoc, List.cons_append, List.nil_append, List.length_append, List.length_cons, List.length_nil, Nat.zero_add]
        refine ⟨_, B, gw A B it + B, _, _, rfl, got_at, by simp; exact ar334 hlb, hB, hwb.take, wn, by exact ar335 hbnd hgm hg1, ?_⟩
        intro σ3 ks S hp3 _ hs ⟨s1, s2, s3, s4⟩
        rw [show (r.length : Int) - b.length = ((r.length - b.length : Nat) : Int) by exact ar336 (by assumption)]
        have hSl : S.length = b.length - 1 := by rw [s1 hn0]; simp
        refine ⟨_, _, S, rfl, hs, by exact ar337 hlb hSl, by exact ar338 hla h10, ?_⟩
        intro σ4 kt T hp4 _ ht ⟨t1, t2, t3⟩
        have hp24 : σ2 ++ [List.map qv (List.take (r.length - 1) r), List.map qv (List.take (b.length - 1) b)] <+: σ4 := List.IsPrefix.trans hp3 hp4
        refine ⟨_, _, gw A B it, B + (gw A B it + B), _, T, rfl, got_pre hp24 got_at0, ht, by simp; exact ar339 hla h10, by exact ar340 hla h10 (by assumption) hSl t1, gw_pos hA, by exact ar341 hB, h12.take, t3 _ (by exact ar341 hB) s4, by exact ar342 hbnd hgm hg1, ?_⟩
        intro σ5 ku U hp5 hku hu ⟨u1, u2, u3, u4⟩
        have hp25 : σ2 <+: σ5 := List.IsPrefix.trans pre_app (List.IsPrefix.trans hp24 hp5)
        have hkf : kf < σ2.length := got_lt hf2
        have hl4 := hp24.length_le
        simp at hl4
        have hUl : U.length ≤ r.length - 1 := by simp at u4; exact ar343 hb0 (by assumption) hSl t1 u4
        have hstep := div_step (f := f) (b := b) (r := r) (r' := U) (p := r.length - b.length) hb0 (by exact ar344 (by assumption)) (by exact ar345 h9 h16 (by assumption)) hzf rfl hbn (fun t => by
          rw [u2, t2]
          congr 1
          unfold up
          split
          · rw [s3]
          · rfl)
        repeat (first | (with_reducible first | refine cutR hR1 ?_ | refine cutR hR2 ?_ | refine cutR hR3 ?_ | refine cutR hB1 ?_ | refine cutR hB2 ?_ | refine cutR hB3 ?_) | simp only [wSeq, wNil, wAssign, wStore, wName, Loc.set, ofString_inj, String.reduceEq, Option.some.injEq, if_true, if_false, exists_eq_left'])
        refine hK (m - 1) _ _ (by exact ar346 hb0 h8 (by assumption)) ⟨List.IsPrefix.trans hpre2 hp25, (Eq.trans (by kernel_rfl) h1), kf, ku, it + 1, _, U, (Eq.trans (by kernel_rfl) h2), by kernel_rfl, h4, by exact ar347 hku hkf hl4, got_pre hp25 hf2, hu, by exact ar348 h8 hUl, by simpa using h9, by exact ar349 hb0 h10 (by assumption) hUl, by exact ar328 h10 (by assumption), u1,
          u3.mono (by exact ar350 hg1), h13.set (wn.mono (by exact ar351 hgm hg1)), fun t => by rw [hstep]; exact h14 t, fun t ht => ?_, .inr ⟨by exact ar352 hb0 h10 (by assumption) hUl, ?_⟩⟩
        · rw [co_set (by exact ar353 h9 h16 hUl ht), if_neg (by exact ar354 hb0 hUl ht)]; exact h15 t (by exact ar355 hUl ht)
        · rw [co_set (by exact ar345 h9 h16 (by assumption))]
          rcases h16 with h | ⟨_, h⟩
          · rw [if_pos (by exact ar356 h)]; exact hn0
          · split
            · exact hn0
            · exact h
end Mine

namespace Mine
open PySem PySem.W PyProof.Rows
set_option linter.unusedVariables false
set_option linter.unusedSimpArgs false
set_option maxRecDepth 100000
set_option maxHeartbeats 4000000
open PySem.Calls
variable {w : World} {H0 : Heap} {mg mb : Str → Option Value}


noncomputable def cCut : Con := fun vs σ P => ∃ (k n : Nat) (a : List Rat), vs = [.ref k, .int n] ∧ σ[k]? = some (a.map qv) ∧ a.length ≤ 100 ∧ n ≤ a.length ∧ Ret σ P fun r => r = a.take n
theorem ok_cut (X : Cx w H0 mg mb) : FnOk pg w H0 mg 9 (Str.ofString "cut") cCut := by
  refine' fn_of X (i := 33) (k := 30) (d := 8) (C := cCut) rfl rfl (by kernel_rfl) rfl ?snd ?bind (by kernel_rfl) rfl rfl rfl (by kernel_rfl) ?law
  case snd =>
    repeat' (first
      | (with_reducible first | exact sndB_nil | refine' sndB_cons ?_ ?_ | refine' snd_if ?_ ?_ ?_ | refine' snd_while ?_ ?_ | exact snd_no (st := Stmt.Return (some (Expr.Constant (Const.bool false) _ _)) _) | refine' snd_ret ?_ | exact snd_cont | exact snd_no (st := Stmt.Raise _ _ _) | exact sndL_nil | refine' sndA_sub ?_ ?_ | exact sndAs_nil | exact sndIfs_nil | refine' sndIfs_one ?_ | exact waF_name | exact waF_two | exact snd_int | exact snd_none | refine' snd_tup ?_ | refine' snd_lst ?_ | refine' snd_binop X.wd ?_ ?_ | refine' snd_usub ?_ | refine' snd_ifexp ?_ ?_ ?_ | refine' snd_upto ?_ ?_ | refine' sndT_and ?_ ?_ | refine' sndT_or ?_ ?_)
      | ((with_reducible first | refine' n_tgt ?s1 | refine' n_aug ?s1 ?_ | refine' n_glob X X.r0 ?s1 | refine' n_glob X X.r1 ?s1 | refine' n_name ?s1); (case s1 => kernel_rfl))
      | ((with_reducible first | refine' sndL_cons ?_ ?_ ?s1 | refine' sndAs_cons ?_ ?_ ?s1); (case s1 => exact fun _ => rfl))
      | ((with_reducible first | refine' snd_for ?_ ?_ ?_ ?s1 | refine' snd_sub ?_ ?_ ?s1); (case s1 => exact fun _ _ => rfl))
      | ((with_reducible first | refine' snd_compare ?_ ?_ ?s1 | refine' sndT_cmp ?_ ?_ ?s1); (case s1 => rfl))
      | ((with_reducible refine' n_acomp ?s1 ?s2 ?s4 ?s5 ?s6 ?_ ?_ ?_ ?_ ?_ ?_); (case s1 => kernel_rfl); (case s2 => rfl); (case s4 => exact fun _ _ => rfl); (case s5 => (intro env h; cases env; cases h; kernel_rfl)); (case s6 => decide +kernel))
      | ((with_reducible refine' snd_assign (e := Expr.Tuple (Expr.Constant _ _ _ :: Expr.Constant _ _ _ :: _) _ _) ?_ ?_ ?s1 ?s2 ?s3); (case s1 => exact fun _ => rfl); (case s2 => first | exact fun _ _ => rfl | (intro env h; cases env; cases h; kernel_rfl)); (case s3 => first | exact fun _ _ => rfl | (intro env h; cases env; cases h; kernel_rfl)))
      | ((with_reducible refine' snd_swapN (elts := Expr.Name _ _ :: _) (e := Expr.Tuple _ _ _) ?_ ?s1 ?s2 ?s3); (case s1 => kernel_rfl); (case s2 => exact fun _ _ => rfl); (case s3 => (intro env h; cases env; cases h; kernel_rfl)))
      | ((with_reducible refine' snd_assign ?_ ?_ ?s1 ?s2 ?s3); (case s1 => exact fun _ => rfl); (case s2 => first | exact fun _ _ => rfl | (intro env h; cases env; cases h; kernel_rfl)); (case s3 => first | exact fun _ _ => rfl | (intro env h; cases env; cases h; kernel_rfl)))
      | ((with_reducible refine' snd_expr ?_ ?s1 ?s2); (case s1 => (intro env h; cases env; cases h; kernel_rfl)); (case s2 => first | exact fun _ _ => rfl | (intro env h; cases env; cases h; kernel_rfl)))
      | ((with_reducible refine' sndA_tup ?_ ?s1); (case s1 => exact fun _ => ⟨rfl, rfl⟩))
      | ((with_reducible first | refine' n_range1 X ?s1 ?s2 ?_ | refine' n_enum X ?s1 ?s2 ?_); (case s1 => kernel_rfl); (case s2 => exact fun _ => rfl))
      | ((with_reducible refine' n_range2 X ?s1 ?s2 ?s3 ?_); (case s1 => kernel_rfl); (case s2 => exact fun _ => rfl); (case s3 => exact fun _ _ => rfl))
      | (with_reducible first | refine' n_listN ?_ | refine' n_listT ?_)
      | ((with_reducible refine' snd_append ?_ ?_ ?s1 ?s2 ?s3); (case s1 => exact fun _ => rfl); (case s2 => exact fun _ => rfl); (case s3 => rfl))
      | ((with_reducible first | refine' n_len X ?s1 ?s3 ?s4 ?_ | refine' n_abs X ?s1 ?s3 ?s4 ?_ | refine' n_int X ?s1 ?s3 ?s4 ?_ | refine' n_list X ?s1 ?s3 ?s4 ?_ | refine' n_min X ?s1 ?s3 ?s4 ?_ | refine' n_max X ?s1 ?s3 ?s4 ?_ | refine' n_sum X ?s1 ?s3 ?s4 ?_); (case s1 => kernel_rfl); (case s3 => exact fun _ => rfl); (case s4 => exact fun _ _ => rfl))
      | ((with_reducible refine' n_comp ?s1 ?s2 ?s4 ?_ ?_ ?_ ?_ ?_ ?_); (case s1 => kernel_rfl); (case s2 => rfl); (case s4 => exact fun _ _ => rfl))
      | kernel_rfl)
  case bind => intro pm cd doc; refine ofLen2 ?_; intros; kernel_rfl
  case law =>
    intro vs σ P; refine hide fun Gq hGq => ?_; rintro ⟨k, n, a, rfl, hk, hla, hn, hP⟩; refine hGq ?_; clear hGq
    refine ⟨rfl, ?_⟩
    simp only [wSeq, wRet, wLst, wOp2, wCall, wName, wVal, wStores, Loc.set, locOf, post, bin_sub, bin_cat, bin_rep, qv0, ofString_inj, String.reduceEq, cLen, cList, List.map, List.length, List.cons.injEq, Option.some.injEq, V.ref.injEq, if_true, if_false, exists_eq_left', exists_and_left, and_true, true_and, Nat.reduceAdd, Nat.reduceLeDiff, Int.reduceNeg]
    refine upto_ref hk ?_
    rw [List.length_map, upto_nat hn, map_take]
    simp only [gotA hk, List.append_assoc, List.cons_append, List.nil_append, List.length_append, got_at0, got_at, List.getElem?_cons_zero, List.getElem?_cons_succ, List.length_map, Nat.zero_add, Nat.reduceAdd, Option.some.injEq, exists_eq_left', List.length, List.nil_append, List.cons_append, Option.some.injEq, V.ref.injEq, exists_eq_left', Nat.reduceAdd, Int.reduceNeg]
    have el : (a.take n).length = n := by rw [List.length_take]; exact ar357 hn
    have e : ((n : Int) - a.length).toNat = 0 := by exact ar358 hn
    rw [el, e]
    refine ⟨by exact ar359, by exact ar360 hla, by exact ar361 hn, by simp; exact ar362 hla hn, ?_⟩
    exact hP _ _ (a.take n) pre_app (by exact ar363) (by rw [got_at]; simp) rfl
theorem sm_at {f : Nat → Rat} {i n : Nat} (hi : i < n) (h : ∀ x, x < n → x ≠ i → f x = 0) : sm f n = f i := by
  rw [sm_more (m := i + 1) (by exact ar96 hi) (fun x h1 h2 => h x h2 (by exact ar364 h1)), sm, sm_more (m := 0) (by exact ar51) (fun x h1 h2 => h x (by exact ar365 hi h2) (by exact ar366 h2))]
  exact Rat.zero_add _
theorem cv_top {f g : Nat → Rat} {i j : Nat} (hf : ∀ x, i < x → f x = 0) (hg : ∀ x, j < x → g x = 0) : cv f g (i + j) = f i * g j := by
  rw [cv, sm_at (i := i) (by exact ar367) (fun x h1 h2 => ?_)]
  · rw [Nat.add_sub_cancel_left]
  · by_cases e : i < x
    · rw [hf x e, Rat.zero_mul]
    · rw [hg _ (by exact ar368 h2 e), Rat.mul_zero]
theorem cv_over {f g : Nat → Rat} {i j t : Nat} (hf : ∀ x, i < x → f x = 0) (hg : ∀ x, j < x → g x = 0) (ht : i + j < t) : cv f g t = 0 :=
  cv_none (a := i) (fun x _ h => hf x h) fun x h1 h2 => hg x (by exact ar369 ht h1)
theorem len_of {r : List Rat} {i : Nat} (h : Trm r) (h1 : co r i ≠ 0) (h2 : ∀ t, i < t → co r t = 0) : r.length = i + 1 := by
  have a : ¬ r.length ≤ i := fun h => h1 (co_big h)
  have b : ¬ i < r.length - 1 := fun e => h (by exact ar370 a) (h2 _ e)
  exact ar371 a b
/-- a step of the way of Euclid -/
theorem euclid_step {N : Nat} {a f r u o : Nat → Rat} {ti o' l : List Rat} (hd : ∀ t, f t = cv (co ti) r t + co l t) (ho : ∀ t, co o' t = u t - cv (co ti) o t) (hr : ∀ t, t < N → r t = cv o a t) (hf : ∀ t, t < N → f t = cv u a t) (t : Nat) (ht : t < N) :
    co l t = cv (co o') a t := by
  have e1 : cv (co o') a t = cv u a t - cv (cv (co ti) o) a t := by
    rw [← cv_sub]; exact cv_congr (fun i _ => ho i) fun _ _ => rfl
  have e2 : cv (cv (co ti) o) a t = cv (co ti) r t := by
    rw [cv_assoc]; exact cv_congr (fun _ _ => rfl) fun i hi => (hr i (by exact ar40 ht hi)).symm
  have := hd t
  rw [hf t ht] at this
  rw [e1, e2]; grind
noncomputable def eG : Nat → Nat | 0 => 8 | d + 1 => gw (eG d) (eG d) (d + 1)
noncomputable def eH : Nat → Nat | 0 => 1 | d + 1 => 1 + 7 * (eG (d + 2) + eG (d + 1) + eH d + 1) + eH d + 1
theorem gw_le {R R' B B' n : Nat} (h : R ≤ R') (h' : B ≤ B') : gw R B n ≤ gw R' B' n := by
  induction n with
  | zero => exact h
  | succ n ih => show 2 * gw R B n + 2 * B + 1 ≤ 2 * gw R' B' n + 2 * B' + 1; exact ar372 h' ih
theorem eG_mono {d e : Nat} (h : d ≤ e) : eG d ≤ eG e := by
  induction e with
  | zero => have : d = 0 := by exact ar13 h
            rw [this]; exact Nat.le_refl _
  | succ e ih =>
    by_cases q : d = e + 1
    · rw [q]; exact Nat.le_refl _
    · exact Nat.le_trans (ih (by exact ar14 h q)) (gw_mono (n := 0) (Nat.zero_le _))
theorem eH_mono {d e : Nat} (h : d ≤ e) : eH d ≤ eH e := by
  induction e with
  | zero => have : d = 0 := by exact ar13 h
            rw [this]; exact Nat.le_refl _
  | succ e ih =>
    by_cases q : d = e + 1
    · rw [q]; exact Nat.le_refl _
    · have := ih (by exact ar14 h q)
      show _ ≤ 1 + 7 * (eG (e + 2) + eG (e + 1) + eH e + 1) + eH e + 1
      exact ar373 this
theorem e_num : ∀ d, d ≤ 2 → 2 * (eG (d + 2) + eG (d + 1)) ≤ 60000000 ∧ 1 + 20 * (eG (d + 2) + eG (d + 1) + eH d + 1) ≤ 60000000 ∧ eH d + (1 + 7 * (eG (d + 2) + eG (d + 1) + eH d + 1)) + 1 = eH (d + 1) ∧ eH (d + 1) ≤ 60000000 := by decide +kernel

/-- what the way of Euclid stops at -/
structure Euc (L : Nat) (a r o : List Rat) : Prop where
  tr : Trm r
  to : Trm o
  lo : 0 < o.length
  lo' : o.length ≤ L + 1
  lr : r.length ≤ L
  eq : ∀ t, t < 2 * L → co r t = cv (co o) (co a) t
  wr : Wl (eG 4) r
  wo : Wl (eH 3) o
noncomputable def cFirst : Con := fun vs σ P => ∃ (k L : Nat) (a : List Rat), vs = [.ref k, .int ((L : Int) - 1)] ∧ σ[k]? = some (a.map qv) ∧ a.length = 2 * L ∧ L ≤ 3 ∧ Wl 8 a ∧
  ∀ σ' kr ko r o, σ <+: σ' → σ'[kr]? = some (r.map qv) → σ'[ko]? = some (o.map qv) → Euc L a r o → P (.tup [.ref kr, .ref ko]) σ'
inductive IvFirst (L : Nat) (a : List Rat) (m : Nat) (ε : Loc) (σ' : Sto) (kf kr ku ko : Nat) (f r u o : List Rat) : Prop where
  | mk : (ε (Str.ofString "front") = some (.ref kf)) → (ε (Str.ofString "rest") = some (.ref kr)) → (ε (Str.ofString "one") = some (.ref ku)) → (ε (Str.ofString "other") = some (.ref ko)) → (σ'[kf]? = some (f.map qv)) → (σ'[kr]? = some (r.map qv)) → (σ'[ku]? = some (u.map qv)) → (σ'[ko]? = some (o.map qv)) → (r.length ≤ m) → (r.length < f.length) → (o.length + f.length = 2 * L + 2) → (u.length < o.length) → (L < f.length) → (Trm f) → (Trm r) → (Trm o) → ((∀ t, t < 2 * L → co r t = cv (co o) (co a) t)) → ((∀ t, t < 2 * L → co f t = cv (co u) (co a) t)) → (Wl (eG (2 * L + 1 - f.length)) f) → (Wl (eG (min 4 (2 * L + 1 - r.length))) r) → (Wl (eH (2 * L + 1 - f.length)) u) → (Wl (eH (2 * L + 1 - f.length)) o) → IvFirst L a m ε σ' kf kr ku ko f r u o
theorem ok_first_within (X : Cx w H0 mg mb) : FnOk pg w H0 mg 10 (Str.ofString "first_within") cFirst := by
  refine' fn_of X (i := 34) (k := 31) (d := 9) (C := cFirst) rfl rfl (by kernel_rfl) rfl ?snd ?bind (by kernel_rfl) rfl rfl rfl (by kernel_rfl) ?law
  case snd =>
    repeat' (first
      | (with_reducible first | exact sndB_nil | refine' sndB_cons ?_ ?_ | refine' snd_if ?_ ?_ ?_ | refine' snd_while ?_ ?_ | exact snd_no (st := Stmt.Return (some (Expr.Constant (Const.bool false) _ _)) _) | refine' snd_ret ?_ | exact snd_cont | exact snd_no (st := Stmt.Raise _ _ _) | exact sndL_nil | refine' sndA_sub ?_ ?_ | exact sndAs_nil | exact sndIfs_nil | refine' sndIfs_one ?_ | exact waF_name | exact waF_two | exact snd_int | exact snd_none | refine' snd_tup ?_ | refine' snd_lst ?_ | refine' snd_binop X.wd ?_ ?_ | refine' snd_usub ?_ | refine' snd_ifexp ?_ ?_ ?_ | refine' snd_upto ?_ ?_ | refine' sndT_and ?_ ?_ | refine' sndT_or ?_ ?_)
      | ((with_reducible first | refine' n_tgt ?s1 | refine' n_aug ?s1 ?_ | refine' n_glob X X.r0 ?s1 | refine' n_glob X X.r1 ?s1 | refine' n_name ?s1); (case s1 => kernel_rfl))
      | ((with_reducible first | refine' sndL_cons ?_ ?_ ?s1 | refine' sndAs_cons ?_ ?_ ?s1); (case s1 => exact fun _ => rfl))
      | ((with_reducible first | refine' snd_for ?_ ?_ ?_ ?s1 | refine' snd_sub ?_ ?_ ?s1); (case s1 => exact fun _ _ => rfl))
      | ((with_reducible first | refine' snd_compare ?_ ?_ ?s1 | refine' sndT_cmp ?_ ?_ ?s1); (case s1 => rfl))
      | ((with_reducible refine' n_acomp ?s1 ?s2 ?s4 ?s5 ?s6 ?_ ?_ ?_ ?_ ?_ ?_); (case s1 => kernel_rfl); (case s2 => rfl); (case s4 => exact fun _ _ => rfl); (case s5 => (intro env h; cases env; cases h; kernel_rfl)); (case s6 => decide +kernel))
      | ((with_reducible refine' snd_assign (e := Expr.Tuple (Expr.Constant _ _ _ :: Expr.Constant _ _ _ :: _) _ _) ?_ ?_ ?s1 ?s2 ?s3); (case s1 => exact fun _ => rfl); (case s2 => first | exact fun _ _ => rfl | (intro env h; cases env; cases h; kernel_rfl)); (case s3 => first | exact fun _ _ => rfl | (intro env h; cases env; cases h; kernel_rfl)))
      | ((with_reducible refine' snd_swapN (elts := Expr.Name _ _ :: _) (e := Expr.Tuple _ _ _) ?_ ?s1 ?s2 ?s3); (case s1 => kernel_rfl); (case s2 => exact fun _ _ => rfl); (case s3 => (intro env h; cases env; cases h; kernel_rfl)))
      | ((with_reducible refine' snd_assign ?_ ?_ ?s1 ?s2 ?s3); (case s1 => exact fun _ => rfl); (case s2 => first | exact fun _ _ => rfl | (intro env h; cases env; cases h; kernel_rfl)); (case s3 => first | exact fun _ _ => rfl | (intro env h; cases env; cases h; kernel_rfl)))
      | ((with_reducible refine' snd_expr ?_ ?s1 ?s2); (case s1 => (intro env h; cases env; cases h; kernel_rfl)); (case s2 => first | exact fun _ _ => rfl | (intro env h; cases env; cases h; kernel_rfl)))
      | ((with_reducible refine' sndA_tup ?_ ?s1); (case s1 => exact fun _ => ⟨rfl, rfl⟩))
      | ((with_reducible first | refine' n_range1 X ?s1 ?s2 ?_ | refine' n_enum X ?s1 ?s2 ?_); (case s1 => kernel_rfl); (case s2 => exact fun _ => rfl))
      | ((with_reducible refine' n_range2 X ?s1 ?s2 ?s3 ?_); (case s1 => kernel_rfl); (case s2 => exact fun _ => rfl); (case s3 => exact fun _ _ => rfl))
      | (with_reducible first | refine' n_listN ?_ | refine' n_listT ?_)
      | ((with_reducible refine' snd_append ?_ ?_ ?s1 ?s2 ?s3); (case s1 => exact fun _ => rfl); (case s2 => exact fun _ => rfl); (case s3 => rfl))
      | ((with_reducible first | refine' n_len X ?s1 ?s3 ?s4 ?_ | refine' n_abs X ?s1 ?s3 ?s4 ?_ | refine' n_int X ?s1 ?s3 ?s4 ?_ | refine' n_list X ?s1 ?s3 ?s4 ?_ | refine' n_min X ?s1 ?s3 ?s4 ?_ | refine' n_max X ?s1 ?s3 ?s4 ?_ | refine' n_sum X ?s1 ?s3 ?s4 ?_); (case s1 => kernel_rfl); (case s3 => exact fun _ => rfl); (case s4 => exact fun _ _ => rfl))
      | ((with_reducible first | refine' n_call X (ok_qtrim X) ?s1 ?s2 ?s3 ?_ | refine' n_call X (ok_qdivmod X) ?s1 ?s2 ?s3 ?_ | refine' n_call X (ok_qsub X) ?s1 ?s2 ?s3 ?_ | refine' n_call X (ok_qmul X) ?s1 ?s2 ?s3 ?_); (case s1 => rfl); (case s2 => kernel_rfl); (case s3 => exact fun _ => rfl))
      | ((with_reducible refine' n_comp ?s1 ?s2 ?s4 ?_ ?_ ?_ ?_ ?_ ?_); (case s1 => kernel_rfl); (case s2 => rfl); (case s4 => exact fun _ _ => rfl))
      | kernel_rfl)
  case bind => intro pm cd doc; refine ofLen2 ?_; intros; kernel_rfl
  case law =>
    intro vs σ P; refine hide fun Gq hGq => ?_; rintro ⟨k, L, a, rfl, hk, hla, hL, hwa, hP⟩; refine hGq ?_; clear hGq
    refine ⟨rfl, ?_⟩
    refine seq_cut fun R1 hR1 => ?_
    refine cut2 hR1 fun R2 hR2 hR1 => ?_
    refine cut2 hR2 fun R3 hR3 hR2 => ?_
    repeat (first | (with_reducible first | refine cutR hR1 ?_ | refine cutR hR2 ?_ | refine cutR hR3 ?_ | refine cutR hB1 ?_ | refine cutR hB2 ?_) | simp only [gotA hk, List.append_assoc, List.cons_append, List.nil_append, List.length_append, List.length_cons, got_at0, got_at, List.getElem?_cons_zero, List.getElem?_cons_succ, List.length_map, Nat.zero_add, Nat.reduceAdd, Option.some.injEq, exists_eq_left', and_true, true_and, wSeq, wSwap, wTup, wLst, wOp2, wCall, wName, wVal, wStores, Loc.set, locOf, tgt_nil, tgt_cons, bin_cat, bin_rep, qv0, qv1, ofString_inj, String.reduceEq, cLen, List.map, List.reverse, List.reverseAux, List.length, List.nil_append, List.cons_append, List.cons.injEq, Option.some.injEq, V.ref.injEq, V.tup.injEq, if_true, if_false, exists_eq_left', exists_and_left, and_true, true_and, Nat.reduceAdd, Nat.reduceLeDiff, Int.reduceNeg, List.length_map])
    rw [hla]
    have hN : (((2 * L : Nat) : Int)).toNat = 2 * L := by exact ar374
    rw [hN, rep_q0]
    have hfr : List.map qv (List.replicate (2 * L) (0 : Rat)) ++ [qv 1] = (List.replicate (2 * L) (0 : Rat) ++ [1]).map qv := by rw [List.map_append]; rfl
    rw [hfr]
    refine ⟨by exact ar375 hL, by exact ar376, by exact ar377 hL, by simp; exact ar378 hL, ?_⟩
    generalize hF : List.replicate (2 * L) (0 : Rat) ++ [1] = F
    refine ⟨_, _, rfl, gotA hk _, by exact ar379 hla hL, fun σ1 ka r0 hp1 _ hr0 hs => ?_⟩
    obtain ⟨a1, a2, a3, a4⟩ := trm_of hs
    have hp1' : σ <+: σ1 := List.IsPrefix.trans pre_app hp1
    have hFg : σ1[σ.length + 3]? = some (F.map qv) := got_pre hp1 got_at
    have hF0 : ∀ t, t < 2 * L → co F t = 0 := fun t h => by rw [← hF]; simp [co, List.getElem?_append_left, h]
    have hFl : F.length = 2 * L + 1 := by rw [← hF]; simp
    have hF1 : co F (2 * L) = 1 := by rw [← hF]; simp [co]
    have hFw : Wl 8 F := fun q hq => by
      rw [← hF] at hq
      rcases List.mem_append.mp hq with h | h
      · rw [(List.mem_replicate.mp h).2]; exact Wq.zero (by decide)
      · simp at h; subst h; exact Wq.one (by decide)
    have l2g : ∀ {d}, 8 ≤ eG d := fun {d} => eG_mono (Nat.zero_le d)
    have l2h : ∀ {d}, 1 ≤ eH d := fun {d} => eH_mono (Nat.zero_le d)
    repeat (first | (with_reducible first | refine cutR hR1 ?_ | refine cutR hR2 ?_ | refine cutR hR3 ?_ | refine cutR hB1 ?_ | refine cutR hB2 ?_) | simp only [List.append_assoc, List.cons_append, List.nil_append, List.length_append, List.length_cons, Nat.zero_add, Nat.reduceAdd, exists_eq_left', true_and, wSeq, wSwap, wTup, wLst, wCall, wName, wVal, wStores, post, tgt_nil, tgt_cons, qv1, List.reverse, List.reverseAux, List.length, List.nil_append, List.cons_append, V.tup.injEq, exists_eq_left', true_and, Nat.reduceAdd, Nat.reduceLeDiff])
    refine while_cut fun B1 hB1 => ?_
    refine cut2 hB1 fun B2 hB2 hB1 => ?_
    refine while_of (fun m ε σ' => σ <+: σ' ∧ ε (Str.ofString "most") = some (.int ((L : Int) - 1)) ∧ ∃ (kf kr ku ko : Nat) (f r u o : List Rat), IvFirst L a m ε σ' kf kr ku ko f r u o) (2 * L) ?_ ?_
    · refine ⟨List.IsPrefix.trans hp1' pre_app, by kernel_rfl, σ.length + 3, ka, σ1.length, σ1.length + 1, F, r0, [], [1], by kernel_rfl, by kernel_rfl, by kernel_rfl, by kernel_rfl, got_app hFg, got_app hr0, got_at0, got_at, by exact ar380 hla a3, by exact ar381 hla a3 hFl, by rw [hFl]; show 1 + _ = _; exact ar382, by decide, by exact ar383 hFl, fun _ => by rw [hFl, Nat.add_sub_cancel, hF1]; decide, a1, fun _ => (by decide : (1 : Rat) ≠ 0),
        fun t _ => ?_, fun t ht => by rw [hF0 t ht, cv_nil], hFw.mono l2g, (a4 _ hwa).mono l2g, fun q hq => by simp at hq, fun q hq => by simp at hq; subst hq; exact Wq.one l2h⟩
      rw [a2, cv_one (a := 0) (fun i _ h => co_big h) (fun i h1 h2 => by exact ar303 h1 h2)]
      exact (Rat.one_mul _).symm
    · intro m ε σ' K hK; refine hide fun Gq hGq => ?_; rintro ⟨hpre, h1, kf, kr, ku, ko, f, r, u, o, h2, h3, h4, h5, h6, h7, h8, h9, h10, h11, h12, h13, h14, h15, h16, h17, h18, h19, w1, w2, w3, w4⟩; refine hGq ?_; clear hGq
      repeat (first | (with_reducible first | refine cutR hR1 ?_ | refine cutR hR2 ?_ | refine cutR hR3 ?_ | refine cutR hB1 ?_ | refine cutR hB2 ?_) | simp only [h1, h2, h3, h7, wSeq, wAssign, wStore, wUnpack, wACons, wOp2, wCall, wName, wVal, wTest, bin_add, gt_ints, cLen, List.cons.injEq, Option.some.injEq, V.ref.injEq, V.bool.injEq, exists_eq_left', exists_and_left, and_true, decide_eq_true_eq, decide_eq_false_iff_not, List.length_map])
      constructor
      · intro hlt
        repeat (first | (with_reducible first | refine cutR hR1 ?_ | refine cutR hR2 ?_ | refine cutR hR3 ?_ | refine cutR hB1 ?_ | refine cutR hB2 ?_) | simp only [h3, h5, wSeq, wRet, wTup, wName, post, List.length, Option.some.injEq, exists_eq_left', true_and, Nat.reduceAdd, Nat.reduceLeDiff])
        exact hP σ' kr ko r o hpre h7 h9 ⟨h16, h17, by exact ar384 h13, by exact ar385 h12 h14, by exact ar386 hlt, h18, w2.mono (eG_mono (by exact ar387)), w4.mono (eH_mono (by exact ar388 hL h14))⟩
      · intro hgt
        have hgt : L < r.length := by exact ar389 hgt
        obtain ⟨e, he⟩ : ∃ e, 2 * L + 1 - r.length = e + 1 := ⟨2 * L - r.length, by exact ar390 h11 h12 h13⟩
        rw [Nat.min_eq_right (by exact ar391 hL (by assumption)), he] at w2
        obtain ⟨n1, n2, n3, n4⟩ := e_num e (by exact ar392 hL (by assumption) he)
        have hGm : eG (2 * L + 1 - f.length) ≤ eG (e + 1) := eG_mono (by exact ar393 h11 he)
        have hgw : gw (eG (2 * L + 1 - f.length)) (eG (e + 1)) (f.length + 1 - r.length) ≤ eG (e + 2) :=
          Nat.le_trans (gw_le hGm (Nat.le_refl _)) (gw_mono (by exact ar394 h12 h13 he))
        have g1 : ∀ {d}, 1 ≤ eG d := fun {d} => Nat.le_trans (by decide) (l2g (d := d))
        refine ⟨_, _, _, _, f, r, rfl, h6, h7, by exact ar395 hL h12, by exact ar396 hL h11 h12, g1, g1, w1, w2, h15, h16, by exact ar397 (by assumption), by exact ar398 n3 n4 hgw, ?_⟩
        intro σ2 kt kl ti l hp2 ht hl tt tl ll lt eqd wt wl
        repeat (first | (with_reducible first | refine cutR hR1 ?_ | refine cutR hR2 ?_ | refine cutR hR3 ?_ | refine cutR hB1 ?_ | refine cutR hB2 ?_) | simp only [h3, h4, h5, wSeq, wNil, wSwap, wTup, wStores, Loc.set, ofString_inj, String.reduceEq, List.reverse, List.reverseAux, List.length, List.cons.injEq, List.nil_eq, Option.some.injEq, V.tup.injEq, if_true, if_false, exists_eq_left, exists_eq_left', exists_and_left, true_and, Nat.reduceAdd, Nat.reduceLeDiff, and_assoc])
        have lt7 : ti.length ≤ 7 := by exact ar399 hL h12 (by assumption) lt
        have wt' := wt.mono (m := eG (e + 2) + eG (e + 1)) (by exact ar400 hgw)
        have hHm : eH (2 * L + 1 - f.length) ≤ eH e := eH_mono (by exact ar401 h11 he)
        refine ⟨_, _, _, eH e, ti, o, rfl, ht, got_pre hp2 h9, by exact ar402 lt7, by exact ar403 hL h12, by have := g1 (d := e + 1); exact ar320 this, l2h, wt', w4.mono hHm, by exact ar404 n2, ?_⟩
        intro σ3 km pm hp3 _ hm ⟨m1, m2, m3⟩
        have hp13 := List.IsPrefix.trans hp2 hp3
        have hm7 : ti.length * (eG (e + 2) + eG (e + 1) + eH e + 1) ≤ 7 * (eG (e + 2) + eG (e + 1) + eH e + 1) := Nat.mul_le_mul_right _ lt7
        have lpm : pm.length = ti.length + o.length - 1 := by rw [m3, if_neg (by exact ar405 h11 h13 lt)]
        refine ⟨_, _, eH e, 1 + 7 * (eG (e + 2) + eG (e + 1) + eH e + 1), u, pm, rfl, got_pre hp13 h8, hm, by exact ar406 hL h12 h13, by exact ar407 hL h12 lt7 lpm, l2h, by exact ar408, w3.mono hHm, m2.mono (by exact ar409 hm7), by exact ar410 n3 n4, ?_⟩
        intro σ4 kn o' hp4 _ hn ⟨o1, o2, o3, o4⟩
        have hp14 := List.IsPrefix.trans hp13 hp4
        have oe : ∀ t, co o' t = co u t - cv (co ti) (co o) t := fun t => by rw [o2, m1]
        have lo' : o'.length = ti.length + o.length - 1 := by
          have hz : ∀ x, ti.length - 1 < x → co ti x = 0 := fun x h => co_big (by exact ar411 h)
          have hz2 : ∀ x, o.length - 1 < x → co o x = 0 := fun x h => co_big (by exact ar411 h)
          have := len_of (i := ti.length - 1 + (o.length - 1)) o1 (by
            rw [oe, cv_top hz hz2, co_big (l := u) (by exact ar412 h13)]
            have p1 := tt (by exact ar413 h11 lt)
            have p2 := h17 (by exact ar384 h13)
            grind) (fun t ht => by rw [oe, cv_over hz hz2 ht, co_big (by exact ar414 h13 ht)]; grind)
          exact ar415 h13 lpm o4 this
        refine hK (m - 1) _ _ (by exact ar416 h10 ll) ⟨List.IsPrefix.trans hpre hp14, (Eq.trans (by kernel_rfl) h1), kr, kl, ko, kn, r, l, o, o', by kernel_rfl, by kernel_rfl, by kernel_rfl, by kernel_rfl, got_pre hp14 h7, got_pre (List.IsPrefix.trans hp3 hp4) hl, got_pre hp14 h9, hn, by exact ar168 h10 ll, ll, by exact ar417 h11 h12 lt lo', by exact ar418 h11 lt lo', hgt, h16, tl, o1,
          euclid_step eqd oe h18 h19, h18, by rw [he]; exact w2, wl.mono (Nat.le_trans hgw (eG_mono (Nat.le_min.mpr ⟨by exact ar419 hL (by assumption) he, by exact ar420 he ll⟩))), ?_, ?_⟩
        · rw [he]; exact w4.mono (eH_mono (by exact ar393 h11 he))
        · rw [he]; exact o3.mono (Nat.le_of_eq n3)
end Mine

namespace Mine
open PySem PySem.W PyProof.Rows
set_option linter.unusedVariables false
set_option linter.unusedSimpArgs false
set_option maxRecDepth 100000
set_option maxHeartbeats 4000000
open PySem.Calls
variable {w : World} {H0 : Heap} {mg mb : Str → Option Value}


noncomputable def cPade : Con := fun vs σ P => ∃ (k L : Nat) (a : List Rat), vs = [.ref k, .int ((L : Int) - 1), .int L] ∧ σ[k]? = some (a.map qv) ∧ a.length = 6 ∧ L ≤ 3 ∧ Wl 8 a ∧ (∀ r o, Euc L (a.take (2 * L)) r o → co o 0 ≠ 0) ∧
  ∀ σ' k1 k2 r o R O, σ <+: σ' → σ'[k1]? = some (R.map qv) → σ'[k2]? = some (O.map qv) → Euc L (a.take (2 * L)) r o → R.length = r.length → O.length = o.length → (∀ t, co R t = co r t * (co o 0)⁻¹) → (∀ t, co O t = co o t * (co o 0)⁻¹) → P (.tup [.ref k1, .ref k2]) σ'
theorem ok_pade (X : Cx w H0 mg mb) : FnOk pg w H0 mg 11 (Str.ofString "pade") cPade := by
  refine' fn_of X (i := 35) (k := 32) (d := 10) (C := cPade) rfl rfl (by kernel_rfl) rfl ?snd ?bind (by kernel_rfl) rfl rfl rfl (by kernel_rfl) ?law
  case snd =>
    repeat' (first
      | (with_reducible first | exact sndB_nil | refine' sndB_cons ?_ ?_ | refine' snd_if ?_ ?_ ?_ | refine' snd_while ?_ ?_ | exact snd_no (st := Stmt.Return (some (Expr.Constant (Const.bool false) _ _)) _) | refine' snd_ret ?_ | exact snd_cont | exact snd_no (st := Stmt.Raise _ _ _) | exact sndL_nil | refine' sndA_sub ?_ ?_ | exact sndAs_nil | exact sndIfs_nil | refine' sndIfs_one ?_ | exact waF_name | exact waF_two | exact snd_int | exact snd_none | refine' snd_tup ?_ | refine' snd_lst ?_ | refine' snd_binop X.wd ?_ ?_ | refine' snd_usub ?_ | refine' snd_ifexp ?_ ?_ ?_ | refine' snd_upto ?_ ?_ | refine' sndT_and ?_ ?_ | refine' sndT_or ?_ ?_)
      | ((with_reducible first | refine' n_tgt ?s1 | refine' n_aug ?s1 ?_ | refine' n_glob X X.r0 ?s1 | refine' n_glob X X.r1 ?s1 | refine' n_name ?s1); (case s1 => kernel_rfl))
      | ((with_reducible first | refine' sndL_cons ?_ ?_ ?s1 | refine' sndAs_cons ?_ ?_ ?s1); (case s1 => exact fun _ => rfl))
      | ((with_reducible first | refine' snd_for ?_ ?_ ?_ ?s1 | refine' snd_sub ?_ ?_ ?s1); (case s1 => exact fun _ _ => rfl))
      | ((with_reducible first | refine' snd_compare ?_ ?_ ?s1 | refine' sndT_cmp ?_ ?_ ?s1); (case s1 => rfl))
      | ((with_reducible refine' n_acomp ?s1 ?s2 ?s4 ?s5 ?s6 ?_ ?_ ?_ ?_ ?_ ?_); (case s1 => kernel_rfl); (case s2 => rfl); (case s4 => exact fun _ _ => rfl); (case s5 => (intro env h; cases env; cases h; kernel_rfl)); (case s6 => decide +kernel))
      | ((with_reducible refine' snd_assign (e := Expr.Tuple (Expr.Constant _ _ _ :: Expr.Constant _ _ _ :: _) _ _) ?_ ?_ ?s1 ?s2 ?s3); (case s1 => exact fun _ => rfl); (case s2 => first | exact fun _ _ => rfl | (intro env h; cases env; cases h; kernel_rfl)); (case s3 => first | exact fun _ _ => rfl | (intro env h; cases env; cases h; kernel_rfl)))
      | ((with_reducible refine' snd_swapN (elts := Expr.Name _ _ :: _) (e := Expr.Tuple _ _ _) ?_ ?s1 ?s2 ?s3); (case s1 => kernel_rfl); (case s2 => exact fun _ _ => rfl); (case s3 => (intro env h; cases env; cases h; kernel_rfl)))
      | ((with_reducible refine' snd_assign ?_ ?_ ?s1 ?s2 ?s3); (case s1 => exact fun _ => rfl); (case s2 => first | exact fun _ _ => rfl | (intro env h; cases env; cases h; kernel_rfl)); (case s3 => first | exact fun _ _ => rfl | (intro env h; cases env; cases h; kernel_rfl)))
      | ((with_reducible refine' snd_expr ?_ ?s1 ?s2); (case s1 => (intro env h; cases env; cases h; kernel_rfl)); (case s2 => first | exact fun _ _ => rfl | (intro env h; cases env; cases h; kernel_rfl)))
      | ((with_reducible refine' sndA_tup ?_ ?s1); (case s1 => exact fun _ => ⟨rfl, rfl⟩))
      | ((with_reducible first | refine' n_range1 X ?s1 ?s2 ?_ | refine' n_enum X ?s1 ?s2 ?_); (case s1 => kernel_rfl); (case s2 => exact fun _ => rfl))
      | ((with_reducible refine' n_range2 X ?s1 ?s2 ?s3 ?_); (case s1 => kernel_rfl); (case s2 => exact fun _ => rfl); (case s3 => exact fun _ _ => rfl))
      | (with_reducible first | refine' n_listN ?_ | refine' n_listT ?_)
      | ((with_reducible refine' snd_append ?_ ?_ ?s1 ?s2 ?s3); (case s1 => exact fun _ => rfl); (case s2 => exact fun _ => rfl); (case s3 => rfl))
      | ((with_reducible first | refine' n_len X ?s1 ?s3 ?s4 ?_ | refine' n_abs X ?s1 ?s3 ?s4 ?_ | refine' n_int X ?s1 ?s3 ?s4 ?_ | refine' n_list X ?s1 ?s3 ?s4 ?_ | refine' n_min X ?s1 ?s3 ?s4 ?_ | refine' n_max X ?s1 ?s3 ?s4 ?_ | refine' n_sum X ?s1 ?s3 ?s4 ?_); (case s1 => kernel_rfl); (case s3 => exact fun _ => rfl); (case s4 => exact fun _ _ => rfl))
      | ((with_reducible first | refine' n_call X (ok_first_within X) ?s1 ?s2 ?s3 ?_ | refine' n_call X (ok_cut X) ?s1 ?s2 ?s3 ?_ | refine' n_call X (ok_rcompare X) ?s1 ?s2 ?s3 ?_ | refine' n_call X (ok_rinv X) ?s1 ?s2 ?s3 ?_ | refine' n_call X (ok_qscale X) ?s1 ?s2 ?s3 ?_); (case s1 => rfl); (case s2 => kernel_rfl); (case s3 => exact fun _ => rfl))
      | ((with_reducible refine' n_comp ?s1 ?s2 ?s4 ?_ ?_ ?_ ?_ ?_ ?_); (case s1 => kernel_rfl); (case s2 => rfl); (case s4 => exact fun _ _ => rfl))
      | kernel_rfl)
  case bind => intro pm cd doc; refine ofLen3 ?_; intros; kernel_rfl
  case law =>
    intro vs σ P; refine hide fun Gq hGq => ?_; rintro ⟨k, L, a, rfl, hk, hla, hL, hwa, hne, hP⟩; refine hGq ?_; clear hGq
    refine ⟨rfl, ?_⟩
    simp only [wSeq, wNil, wAssign, wStore, wUnpack, wACons, wIf, wRet, wTup, wOp2, wUn, wCall, wName, wVal, wTest, wOr, wStores, Loc.set, locOf, post, bin_add, neg_i, eq_ints, lt_ints, qv0, ofString_inj, String.reduceEq, cLen, List.map, List.length, List.cons.injEq, Option.some.injEq, V.bool.injEq, if_true, if_false, exists_eq_left', exists_and_left, and_true, true_and, Nat.reduceAdd, Nat.reduceLeDiff, Int.reduceNeg, forall_const, false_implies, decide_eq_true_eq, decide_eq_false_iff_not, Bool.true_eq_false]
    refine ⟨fun h => by exact (ar421 h).elim, fun _ => ⟨fun h => by exact (ar422 h).elim, fun _ => ?_⟩⟩
    rw [show (L : Int) - 1 + L + 1 = ((2 * L : Nat) : Int) by exact ar423]
    refine ⟨_, _, _, rfl, hk, by exact ar424 hla, by exact ar425 hla hL, fun σ1 k1 a1 hp1 _ h1 ha1 => ?_⟩
    subst ha1
    refine ⟨_, L, _, rfl, h1, by rw [List.length_take]; exact ar426 hla hL, hL, hwa.take, fun σ2 kr ko r o hp2 hr ho he => ?_⟩
    simp only [ho, List.length, List.cons.injEq, List.nil_eq, Option.some.injEq, V.ref.injEq, V.tup.injEq, exists_eq_left, exists_eq_left', exists_and_left, true_and, Nat.reduceAdd, and_assoc, List.length_map]
    have hlo := he.lo
    have hn0 := hne r o he
    refine ⟨fun h => absurd h (by exact ar427 hlo), fun _ => ?_⟩
    refine qget ho (by exact ar428) (by exact ar429 hlo) ?_
    have hH : eH 3 ≤ 60000000 := by decide +kernel
    have hG : eG 4 + eH 3 ≤ 130000000 := by decide +kernel
    have h1H : 1 ≤ eH 3 := by decide +kernel
    have h1G : 1 ≤ eG 4 := by decide +kernel
    have w0 : Wq (eH 3) (co o 0) := co_w he.wo h1H 0
    refine ⟨co o 0, eH 3, rfl, w0, by exact ar430 hH, fun x hx => ?_⟩
    simp only [eq_ints, V.bool.injEq, exists_eq_left', decide_eq_true_eq, decide_eq_false_iff_not]
    refine ⟨fun h => absurd (hx.mp h) hn0, fun _ => ?_⟩
    refine qget ho (by exact ar428) (by exact ar429 hlo) ?_
    refine ⟨co o 0, rfl, hn0, ?_⟩
    have wi := w0.inv hn0
    have hi0 : (co o 0)⁻¹ ≠ 0 := by grind
    refine ⟨_, _, _, r, _, rfl, hr, by have := he.lr; exact ar431 hL this, h1G, he.wr, wi, by exact ar432 hG, fun σ3 kR R hp3 _ hR hR' => ?_⟩
    refine qget (got_pre hp3 ho) (by exact ar428) (by exact ar429 hlo) ?_
    refine ⟨co o 0, rfl, hn0, ?_⟩
    refine ⟨_, _, _, o, _, rfl, got_pre hp3 ho, by have := he.lo'; exact ar433 hL this, h1H, he.wo, wi, by exact ar434 hH, fun σ4 kO O hp4 _ hO hO' => ?_⟩
    exact hP σ4 kR kO r o R O (List.IsPrefix.trans hp1 (List.IsPrefix.trans hp2 (List.IsPrefix.trans hp3 hp4))) (got_pre hp4 hR) hO he (hR'.1 hi0) (hO'.1 hi0) hR'.2.2.1 hO'.2.2.1
end Mine

namespace Mine
open PySem PySem.W PyProof.Rows
set_option linter.unusedVariables false
set_option linter.unusedSimpArgs false
set_option maxRecDepth 100000
set_option maxHeartbeats 4000000
open PySem.Calls
variable {w : World} {H0 : Heap} {mg mb : Str → Option Value}


noncomputable def fl (n : Nat) (f : Nat → V) : List V := (List.range n).map f
theorem fl_len {n : Nat} {f : Nat → V} : (fl n f).length = n := by simp [fl]
theorem fl_get {n i : Nat} {f : Nat → V} (h : i < n) : (fl n f)[i]? = some (f i) := by simp [fl, h]
theorem fl_set {n i : Nat} {f : Nat → V} {v : V} : (fl n f).set i v = fl n fun x => if x = i then v else f x := by
  apply List.ext_getElem?
  intro t
  rw [List.getElem?_set, fl_len]
  by_cases e : t < n
  · rw [fl_get e, fl_get e]
    by_cases q : i = t
    · subst q; simp [e]
    · rw [if_neg q, if_neg (fun h => q h.symm)]
  · have h1 : (fl n f)[t]? = none := by simp [fl]; exact ar15 e
    have h2 : (fl n fun x => if x = i then v else f x)[t]? = none := by simp [fl]; exact ar15 e
    rw [h1, h2]
    split <;> simp <;> exact ar435 e (by assumption)
theorem fl_congr {n : Nat} {f g : Nat → V} (h : ∀ i, i < n → f i = g i) : fl n f = fl n g := List.map_congr_left fun i hi => h i (by simpa using hi)
/-- a matrix in the store -/
structure Mx (σ : Sto) (k n m : Nat) (ks : Nat → Nat) (M : Nat → Nat → V) : Prop where
  top : σ[k]? = some (fl n fun i => .ref (ks i))
  row : ∀ i, i < n → σ[ks i]? = some (fl m (M i))
  inj : ∀ i j, i < n → j < n → ks i = ks j → i = j
  off : ∀ i, i < n → ks i ≠ k
theorem fget {σ : Sto} {k n : Nat} {f : Nat → V} {i : Int} {j : Nat} {P : PV} (hk : σ[k]? = some (fl n f)) (e : i = (j : Int)) (hi : j < n) (h : P (f j) σ) : wItem (.ref k) (.int i) σ P := by
  subst e
  exact item_ref hk (by exact ar178) (by rw [Int.toNat_natCast]; exact fl_get hi) h
theorem Mx.set {σ : Sto} {k n m i j : Nat} {ks : Nat → Nat} {M : Nat → Nat → V} {v : V} (h : Mx σ k n m ks M) (hi : i < n) : Mx (σ.set (ks i) ((fl m (M i)).set j v)) k n m ks (fun r c => if r = i ∧ c = j then v else M r c) where
  top := by rw [List.getElem?_set_ne (h.off i hi)]; exact h.top
  row := fun r hr => by
    by_cases e : r = i
    · subst e
      rw [got_set (h.row r hr), fl_set]
      congr 1
      exact fl_congr fun c _ => by simp
    · rw [List.getElem?_set_ne (fun q => e (h.inj r i hr hi q.symm)), h.row r hr]
      congr 1
      exact fl_congr fun c _ => by simp [e]
  inj := h.inj
  off := h.off
theorem Mx.congr {σ : Sto} {k n m : Nat} {ks : Nat → Nat} {M M' : Nat → Nat → V} (h : Mx σ k n m ks M) (e : ∀ i j, i < n → j < m → M i j = M' i j) : Mx σ k n m ks M' where
  top := h.top
  row := fun i hi => by rw [h.row i hi]; congr 1; exact fl_congr fun j hj => e i j hi hj
  inj := h.inj
  off := h.off
/-- nothing but the rows is touched -/
noncomputable def Same (σ σ' : Sto) (n : Nat) (ks : Nat → Nat) : Prop := ∀ x, (∀ i, i < n → x ≠ ks i) → σ'[x]? = σ[x]?
theorem Same.rfl {σ : Sto} {n : Nat} {ks : Nat → Nat} : Same σ σ n ks := fun _ _ => Eq.refl _
theorem Same.set {σ σ' : Sto} {n i : Nat} {ks : Nat → Nat} {xs : List V} (h : Same σ σ' n ks) (hi : i < n) : Same σ (σ'.set (ks i) xs) n ks := fun x hx => by
  rw [List.getElem?_set_ne (fun e => hx i hi e.symm)]; exact h x hx
theorem pre_of {σ σ' : Sto} (h : ∀ x, x < σ.length → σ'[x]? = σ[x]?) : σ <+: σ' := by
  rw [List.prefix_iff_eq_take]
  apply List.ext_getElem?
  intro x
  by_cases e : x < σ.length
  · rw [List.getElem?_take_of_lt e, h x e]
  · rw [List.getElem?_eq_none (by exact ar15 e), List.getElem?_eq_none (by simp; exact ar436 e)]

noncomputable def cPivot : Con := fun vs σ P => ∃ (k n s : Nat) (ks : Nat → Nat) (M : Nat → Nat → Int), vs = [.ref k, .int s] ∧ Mx σ k n n ks (fun i j => .int (M i j)) ∧ n ≤ 100 ∧ s < n ∧
  ((∀ i, s ≤ i → i < n → M i s = 0) → P .none σ) ∧ ∀ i, s ≤ i → i < n → M i s ≠ 0 → P (.int i) σ
theorem ok_pivot_row (X : Cx w H0 mg mb) : FnOk pg w H0 mg 2 (Str.ofString "pivot_row") cPivot := by
  refine' fn_of X (i := 15) (k := 12) (d := 1) (C := cPivot) rfl rfl (by kernel_rfl) rfl ?snd ?bind (by kernel_rfl) rfl rfl rfl (by kernel_rfl) ?law
  case snd =>
    repeat' (first
      | (with_reducible first | exact sndB_nil | refine' sndB_cons ?_ ?_ | refine' snd_if ?_ ?_ ?_ | refine' snd_while ?_ ?_ | exact snd_no (st := Stmt.Return (some (Expr.Constant (Const.bool false) _ _)) _) | refine' snd_ret ?_ | exact snd_cont | exact snd_no (st := Stmt.Raise _ _ _) | exact sndL_nil | refine' sndA_sub ?_ ?_ | exact sndAs_nil | exact sndIfs_nil | refine' sndIfs_one ?_ | exact waF_name | exact waF_two | exact snd_int | exact snd_none | refine' snd_tup ?_ | refine' snd_lst ?_ | refine' snd_binop X.wd ?_ ?_ | refine' snd_usub ?_ | refine' snd_ifexp ?_ ?_ ?_ | refine' snd_upto ?_ ?_ | refine' sndT_and ?_ ?_ | refine' sndT_or ?_ ?_)
      | ((with_reducible first | refine' n_tgt ?s1 | refine' n_aug ?s1 ?_ | refine' n_glob X X.r0 ?s1 | refine' n_glob X X.r1 ?s1 | refine' n_name ?s1); (case s1 => kernel_rfl))
      | ((with_reducible first | refine' sndL_cons ?_ ?_ ?s1 | refine' sndAs_cons ?_ ?_ ?s1); (case s1 => exact fun _ => rfl))
      | ((with_reducible first | refine' snd_for ?_ ?_ ?_ ?s1 | refine' snd_sub ?_ ?_ ?s1); (case s1 => exact fun _ _ => rfl))
      | ((with_reducible first | refine' snd_compare ?_ ?_ ?s1 | refine' sndT_cmp ?_ ?_ ?s1); (case s1 => rfl))
      | ((with_reducible refine' n_acomp ?s1 ?s2 ?s4 ?s5 ?s6 ?_ ?_ ?_ ?_ ?_ ?_); (case s1 => kernel_rfl); (case s2 => rfl); (case s4 => exact fun _ _ => rfl); (case s5 => (intro env h; cases env; cases h; kernel_rfl)); (case s6 => decide +kernel))
      | ((with_reducible refine' snd_assign (e := Expr.Tuple (Expr.Constant _ _ _ :: Expr.Constant _ _ _ :: _) _ _) ?_ ?_ ?s1 ?s2 ?s3); (case s1 => exact fun _ => rfl); (case s2 => first | exact fun _ _ => rfl | (intro env h; cases env; cases h; kernel_rfl)); (case s3 => first | exact fun _ _ => rfl | (intro env h; cases env; cases h; kernel_rfl)))
      | ((with_reducible refine' snd_swapN (elts := Expr.Name _ _ :: _) (e := Expr.Tuple _ _ _) ?_ ?s1 ?s2 ?s3); (case s1 => kernel_rfl); (case s2 => exact fun _ _ => rfl); (case s3 => (intro env h; cases env; cases h; kernel_rfl)))
      | ((with_reducible refine' snd_assign ?_ ?_ ?s1 ?s2 ?s3); (case s1 => exact fun _ => rfl); (case s2 => first | exact fun _ _ => rfl | (intro env h; cases env; cases h; kernel_rfl)); (case s3 => first | exact fun _ _ => rfl | (intro env h; cases env; cases h; kernel_rfl)))
      | ((with_reducible refine' snd_expr ?_ ?s1 ?s2); (case s1 => (intro env h; cases env; cases h; kernel_rfl)); (case s2 => first | exact fun _ _ => rfl | (intro env h; cases env; cases h; kernel_rfl)))
      | ((with_reducible refine' sndA_tup ?_ ?s1); (case s1 => exact fun _ => ⟨rfl, rfl⟩))
      | ((with_reducible first | refine' n_range1 X ?s1 ?s2 ?_ | refine' n_enum X ?s1 ?s2 ?_); (case s1 => kernel_rfl); (case s2 => exact fun _ => rfl))
      | ((with_reducible refine' n_range2 X ?s1 ?s2 ?s3 ?_); (case s1 => kernel_rfl); (case s2 => exact fun _ => rfl); (case s3 => exact fun _ _ => rfl))
      | (with_reducible first | refine' n_listN ?_ | refine' n_listT ?_)
      | ((with_reducible refine' snd_append ?_ ?_ ?s1 ?s2 ?s3); (case s1 => exact fun _ => rfl); (case s2 => exact fun _ => rfl); (case s3 => rfl))
      | ((with_reducible first | refine' n_len X ?s1 ?s3 ?s4 ?_ | refine' n_abs X ?s1 ?s3 ?s4 ?_ | refine' n_int X ?s1 ?s3 ?s4 ?_ | refine' n_list X ?s1 ?s3 ?s4 ?_ | refine' n_min X ?s1 ?s3 ?s4 ?_ | refine' n_max X ?s1 ?s3 ?s4 ?_ | refine' n_sum X ?s1 ?s3 ?s4 ?_); (case s1 => kernel_rfl); (case s3 => exact fun _ => rfl); (case s4 => exact fun _ _ => rfl))
      | ((with_reducible refine' n_comp ?s1 ?s2 ?s4 ?_ ?_ ?_ ?_ ?_ ?_); (case s1 => kernel_rfl); (case s2 => rfl); (case s4 => exact fun _ _ => rfl))
      | kernel_rfl)
  case bind => intro pm cd doc; refine ofLen2 ?_; intros; kernel_rfl
  case law =>
    intro vs σ P; refine hide fun Gq hGq => ?_; rintro ⟨k, n, s, ks, M, rfl, hM, hn, hs, hP1, hP2⟩; refine hGq ?_; clear hGq
    refine ⟨rfl, ?_⟩
    simp only [hM.top, wSeq, wRet, wCall, wName, wVal, wStores, wIRange2, wFor, Loc.set, locOf, post, ofString_inj, String.reduceEq, cLen, List.map, List.cons.injEq, Option.some.injEq, V.int.injEq, V.ref.injEq, if_true, if_false, exists_eq_left', exists_and_left, and_true, Int.reduceNeg, and_assoc]
    rw [fl_len]
    refine ⟨by exact ar437, by exact ar438 hn hs, by exact ar437, by exact ar439 hn, ?_⟩
    rw [show ((n : Int) - s).toNat = n - s by exact ar332]
    refine for_of (fun i ε σ' => σ' = σ ∧ ε (Str.ofString "a") = some (.ref k) ∧ ε (Str.ofString "step") = some (.int s) ∧ ∀ r, s ≤ r → r < s + i → M r s = 0) ?_ ?_ ?_
    · exact ⟨rfl, by kernel_rfl, by kernel_rfl, fun r h1 h2 => by exact ar440 h1 h2⟩
    · intro ε σ'; refine hide fun Gq hGq => ?_; rintro ⟨rfl, h1, h2, h3⟩; refine hGq ?_; clear hGq
      rw [rng_len] at h3
      exact ⟨trivial, hP1 fun i h4 h5 => h3 i h4 (by exact ar441 h5)⟩
    · intro i x ε σ' K hx hK; refine hide fun Gq hGq => ?_; rintro ⟨rfl, h1, h2, h3⟩; refine hGq ?_; clear hGq
      obtain ⟨rfl, hi⟩ := rng_get hx
      refine ⟨trivial, ?_⟩
      simp only [h1, h2, wSeq, wNil, wStore, wIf, wRet, wOp2, wName, wVal, wTest, Loc.set, ofString_inj, String.reduceEq, Option.some.injEq, if_true, if_false, exists_eq_left']
      refine fget (j := s + i) hM.top (by exact ar442) (by exact ar443 hi) ?_
      refine fget (j := s) (hM.row _ (by omega)) rfl (by exact ar444 hs) ?_
      simp only [ne_ints, V.bool.injEq, exists_eq_left', decide_eq_true_eq, decide_eq_false_iff_not, Bool.not_eq_true', Bool.not_eq_false']
      refine ⟨fun h => ?_, fun h => ?_⟩
      · have := hP2 (s + i) (by exact ar86) (by exact ar443 hi) h
        simpa using this
      · refine hK _ _ ⟨rfl, (Eq.trans (by kernel_rfl) h1), (Eq.trans (by kernel_rfl) h2), fun r h4 h5 => ?_⟩
        by_cases e : r = s + i
        · rw [e]; exact h
        · exact h3 r h4 (by exact ar445 h5 e)

/-- what a step of Bareiss does -/
noncomputable def bst (M : Nat → Nat → Int) (s : Nat) (ahead : Int) (i j : Nat) : Int :=
  if s < i then (if s < j then (M i j * M s s - M i s * M s j).fdiv ahead else if j = s then 0 else M i j) else M i j
noncomputable def cStep : Con := fun vs σ P => ∃ (k n s w : Nat) (ahead : Int) (ks : Nat → Nat) (M : Nat → Nat → Int), vs = [.ref k, .int s, .int ahead] ∧ Mx σ k n n ks (fun i j => .int (M i j)) ∧ n ≤ 100 ∧ s < n ∧ ahead ≠ 0 ∧ w ≤ 60000000 ∧ (∀ i j, i < n → j < n → (M i j).natAbs < 2 ^ w) ∧
  ∀ σ', Same σ σ' n ks → Mx σ' k n n ks (fun i j => .int (bst M s ahead i j)) → P .none σ'
inductive IvBarA (σ : Sto) (k n s : Nat) (ks : Nat → Nat) (M : Nat → Nat → Int) (ahead : Int) (i : Nat) (ε : Loc) (σ' : Sto)  : Prop where
  | mk : (Same σ σ' n ks) → (ε (Str.ofString "a") = some (.ref k)) → (ε (Str.ofString "step") = some (.int s)) → (ε (Str.ofString "ahead") = some (.int ahead)) → (ε (Str.ofString "lead") = some (.int (M s s))) → (i ≤ n - (s + 1)) → (Mx σ' k n n ks (fun r c => .int (if r < s + 1 + i then bst M s ahead r c else M r c))) → IvBarA σ k n s ks M ahead i ε σ'
inductive IvBarB (σ : Sto) (k n s i : Nat) (ks : Nat → Nat) (M : Nat → Nat → Int) (ahead : Int) (j : Nat) (ε1 : Loc) (σ1 : Sto)  : Prop where
  | mk : (Same σ σ1 n ks) → (ε1 (Str.ofString "a") = some (.ref k)) → (ε1 (Str.ofString "step") = some (.int s)) → (ε1 (Str.ofString "ahead") = some (.int ahead)) → (ε1 (Str.ofString "lead") = some (.int (M s s))) → (ε1 (Str.ofString "row") = some (.int (s + 1 + i : Nat))) → (ε1 (Str.ofString "first") = some (.int (M (s + 1 + i) s))) → (Mx σ1 k n n ks (fun r c => .int (if r < s + 1 + i then bst M s ahead r c else if r = s + 1 + i ∧ s < c ∧ c < s + 1 + j then bst M s ahead r c else M r c))) → IvBarB σ k n s i ks M ahead j ε1 σ1
theorem ok_bareiss_step (X : Cx w H0 mg mb) : FnOk pg w H0 mg 2 (Str.ofString "bareiss_step") cStep := by
  refine' fn_of X (i := 16) (k := 13) (d := 1) (C := cStep) rfl rfl (by kernel_rfl) rfl ?snd ?bind (by kernel_rfl) rfl rfl rfl (by kernel_rfl) ?law
  case snd =>
    repeat' (first
      | (with_reducible first | exact sndB_nil | refine' sndB_cons ?_ ?_ | refine' snd_if ?_ ?_ ?_ | refine' snd_while ?_ ?_ | exact snd_no (st := Stmt.Return (some (Expr.Constant (Const.bool false) _ _)) _) | refine' snd_ret ?_ | exact snd_cont | exact snd_no (st := Stmt.Raise _ _ _) | exact sndL_nil | refine' sndA_sub ?_ ?_ | exact sndAs_nil | exact sndIfs_nil | refine' sndIfs_one ?_ | exact waF_name | exact waF_two | exact snd_int | exact snd_none | refine' snd_tup ?_ | refine' snd_lst ?_ | refine' snd_binop X.wd ?_ ?_ | refine' snd_usub ?_ | refine' snd_ifexp ?_ ?_ ?_ | refine' snd_upto ?_ ?_ | refine' sndT_and ?_ ?_ | refine' sndT_or ?_ ?_)
      | ((with_reducible first | refine' n_tgt ?s1 | refine' n_aug ?s1 ?_ | refine' n_glob X X.r0 ?s1 | refine' n_glob X X.r1 ?s1 | refine' n_name ?s1); (case s1 => kernel_rfl))
      | ((with_reducible first | refine' sndL_cons ?_ ?_ ?s1 | refine' sndAs_cons ?_ ?_ ?s1); (case s1 => exact fun _ => rfl))
      | ((with_reducible first | refine' snd_for ?_ ?_ ?_ ?s1 | refine' snd_sub ?_ ?_ ?s1); (case s1 => exact fun _ _ => rfl))
      | ((with_reducible first | refine' snd_compare ?_ ?_ ?s1 | refine' sndT_cmp ?_ ?_ ?s1); (case s1 => rfl))
      | ((with_reducible refine' n_acomp ?s1 ?s2 ?s4 ?s5 ?s6 ?_ ?_ ?_ ?_ ?_ ?_); (case s1 => kernel_rfl); (case s2 => rfl); (case s4 => exact fun _ _ => rfl); (case s5 => (intro env h; cases env; cases h; kernel_rfl)); (case s6 => decide +kernel))
      | ((with_reducible refine' snd_assign (e := Expr.Tuple (Expr.Constant _ _ _ :: Expr.Constant _ _ _ :: _) _ _) ?_ ?_ ?s1 ?s2 ?s3); (case s1 => exact fun _ => rfl); (case s2 => first | exact fun _ _ => rfl | (intro env h; cases env; cases h; kernel_rfl)); (case s3 => first | exact fun _ _ => rfl | (intro env h; cases env; cases h; kernel_rfl)))
      | ((with_reducible refine' snd_swapN (elts := Expr.Name _ _ :: _) (e := Expr.Tuple _ _ _) ?_ ?s1 ?s2 ?s3); (case s1 => kernel_rfl); (case s2 => exact fun _ _ => rfl); (case s3 => (intro env h; cases env; cases h; kernel_rfl)))
      | ((with_reducible refine' snd_assign ?_ ?_ ?s1 ?s2 ?s3); (case s1 => exact fun _ => rfl); (case s2 => first | exact fun _ _ => rfl | (intro env h; cases env; cases h; kernel_rfl)); (case s3 => first | exact fun _ _ => rfl | (intro env h; cases env; cases h; kernel_rfl)))
      | ((with_reducible refine' snd_expr ?_ ?s1 ?s2); (case s1 => (intro env h; cases env; cases h; kernel_rfl)); (case s2 => first | exact fun _ _ => rfl | (intro env h; cases env; cases h; kernel_rfl)))
      | ((with_reducible refine' sndA_tup ?_ ?s1); (case s1 => exact fun _ => ⟨rfl, rfl⟩))
      | ((with_reducible first | refine' n_range1 X ?s1 ?s2 ?_ | refine' n_enum X ?s1 ?s2 ?_); (case s1 => kernel_rfl); (case s2 => exact fun _ => rfl))
      | ((with_reducible refine' n_range2 X ?s1 ?s2 ?s3 ?_); (case s1 => kernel_rfl); (case s2 => exact fun _ => rfl); (case s3 => exact fun _ _ => rfl))
      | (with_reducible first | refine' n_listN ?_ | refine' n_listT ?_)
      | ((with_reducible refine' snd_append ?_ ?_ ?s1 ?s2 ?s3); (case s1 => exact fun _ => rfl); (case s2 => exact fun _ => rfl); (case s3 => rfl))
      | ((with_reducible first | refine' n_len X ?s1 ?s3 ?s4 ?_ | refine' n_abs X ?s1 ?s3 ?s4 ?_ | refine' n_int X ?s1 ?s3 ?s4 ?_ | refine' n_list X ?s1 ?s3 ?s4 ?_ | refine' n_min X ?s1 ?s3 ?s4 ?_ | refine' n_max X ?s1 ?s3 ?s4 ?_ | refine' n_sum X ?s1 ?s3 ?s4 ?_); (case s1 => kernel_rfl); (case s3 => exact fun _ => rfl); (case s4 => exact fun _ _ => rfl))
      | ((with_reducible refine' n_comp ?s1 ?s2 ?s4 ?_ ?_ ?_ ?_ ?_ ?_); (case s1 => kernel_rfl); (case s2 => rfl); (case s4 => exact fun _ _ => rfl))
      | kernel_rfl)
  case bind => intro pm cd doc; refine ofLen3 ?_; intros; kernel_rfl
  case law =>
    intro vs σ P; refine hide fun Gq hGq => ?_; rintro ⟨k, n, s, w, ahead, ks, M, rfl, hM, hn, hs, ha, hw, hb, hP⟩; refine hGq ?_; clear hGq
    refine ⟨rfl, ?_⟩
    simp only [wSeq, wNil, wAssign, wStore, wOp2, wCall, wName, wVal, wStores, wIRange2, wFor, Loc.set, locOf, post, bin_add, ofString_inj, String.reduceEq, cLen, List.map, List.cons.injEq, Option.some.injEq, V.int.injEq, V.ref.injEq, if_true, if_false, exists_eq_left', exists_and_left, and_true, Int.reduceNeg, and_assoc]
    refine fget (j := s) hM.top rfl hs ?_
    refine fget (j := s) (hM.row s hs) rfl hs ?_
    simp only [hM.top, Option.some.injEq, exists_eq_left', Int.reduceNeg]
    rw [fl_len]
    refine ⟨by exact ar221, by exact ar446 hn hs, by exact ar437, by exact ar439 hn, ?_⟩
    rw [show ((n : Int) - (s + 1)).toNat = n - (s + 1) by exact ar447]
    refine for_of (fun i ε σ' => IvBarA σ k n s ks M ahead i ε σ') ?_ ?_ ?_
    · refine ⟨Same.rfl, by kernel_rfl, by kernel_rfl, by kernel_rfl, by kernel_rfl, by exact ar448, hM.congr fun i j hi hj => ?_⟩
      congr 1
      split
      · rw [bst, if_neg (by exact ar449 (by assumption))]
      · rfl
    · intro ε σ'; refine hide fun Gq hGq => ?_; rintro ⟨h0, h1, h2, h3, h4, h5, h6⟩; refine hGq ?_; clear hGq
      rw [rng_len] at h6
      refine ⟨trivial, hP _ h0 (h6.congr fun i j hi hj => ?_)⟩
      rw [if_pos (by exact ar450 hi)]
    · intro i x ε σ' K hx hK; refine hide fun Gq hGq => ?_; rintro ⟨h0, h1, h2, h3, h4, h5, h6⟩; refine hGq ?_; clear hGq
      obtain ⟨rfl, hi⟩ := rng_get hx
      refine ⟨trivial, ?_⟩
      simp only [h1, h2, wSeq, wNil, wAssign, wStore, wOp2, wName, wVal, wSub, wIRange2, wFor, Loc.set, bin_add, ofString_inj, String.reduceEq, List.cons.injEq, Option.some.injEq, V.int.injEq, V.ref.injEq, if_true, if_false, exists_eq_left', exists_and_left, and_true, Int.reduceNeg, and_assoc]
      have e1 : (s : Int) + 1 + i = ((s + 1 + i : Nat) : Int) := by exact ar451
      have hr : s + 1 + i < n := by exact ar452 hi
      refine fget (j := s + 1 + i) h6.top e1 hr ?_
      refine fget (j := s) (h6.row _ hr) rfl hs ?_
      rw [if_neg (Nat.lt_irrefl _)]
      simp only [h6.top, Option.some.injEq, exists_eq_left', Int.reduceNeg]
      rw [fl_len]
      refine ⟨by exact ar221, by exact ar446 hn hs, by exact ar437, by exact ar439 hn, ?_⟩
      rw [show ((n : Int) - (s + 1)).toNat = n - (s + 1) by exact ar447]
      refine for_of (fun j ε1 σ1 => IvBarB σ k n s i ks M ahead j ε1 σ1) ?_ ?_ ?_
      · refine ⟨h0, (Eq.trans (by kernel_rfl) h1), (Eq.trans (by kernel_rfl) h2), (Eq.trans (by kernel_rfl) h3), (Eq.trans (by kernel_rfl) h4), by kernel_rfl, by kernel_rfl, h6.congr fun r c hr hc => ?_⟩
        congr 1
        rw [if_neg (c := r = s + 1 + i ∧ s < c ∧ c < s + 1 + 0) (by exact ar453)]
      · intro ε1 σ1; refine hide fun Gq hGq => ?_; rintro ⟨g0, g1, g2, g3, g4, g5, g6, g7⟩; refine hGq ?_; clear hGq
        rw [rng_len] at g7
        refine ⟨trivial, ?_⟩
        simp only [g1, g2, g5, Option.some.injEq, exists_eq_left']
        refine fget (j := s + 1 + i) g7.top rfl hr ?_
        refine setitem_ref (g7.row _ hr) (by exact ar178) (by rw [fl_len]; exact ar454 hs) ?_
        rw [Int.toNat_natCast]
        refine hK _ _ ⟨g0.set hr, g1, g2, g3, g4, by exact ar455 hi, (g7.set hr).congr fun r c hr hc => ?_⟩
        by_cases e : r = s + 1 + i
        · subst e
          by_cases q : c = s
          · subst q
            rw [if_pos ⟨rfl, rfl⟩, if_pos (by exact ar456), bst, if_pos (by exact ar457), if_neg (by exact ar458), if_pos rfl]
          · rw [if_neg (by exact ar459 q), if_neg (by exact ar460), if_pos (c := s + 1 + i < s + 1 + (i + 1)) (by exact ar456)]
            by_cases q2 : s < c
            · rw [if_pos (by exact ar461 hc q2)]
            · rw [if_neg (by exact ar462 q2), bst, if_pos (by exact ar457), if_neg q2, if_neg q]
        · rw [if_neg (by exact ar463 e)]
          congr 1
          by_cases q : r < s + 1 + i
          · rw [if_pos q, if_pos (by exact ar464 q)]
          · rw [if_neg q, if_neg (by exact ar465 e), if_neg (by exact ar466 e q)]
      · intro j x ε1 σ1 K1 hx1 hK1; refine hide fun Gq hGq => ?_; rintro ⟨g0, g1, g2, g3, g4, g5, g6, g7⟩; refine hGq ?_; clear hGq
        obtain ⟨rfl, hj⟩ := rng_get hx1
        refine ⟨trivial, ?_⟩
        simp only [g1, g2, g3, g4, g5, g6, wSeq, wNil, wAssign, wStore, wOp2, wName, wSub, Loc.set, ofString_inj, String.reduceEq, Option.some.injEq, if_true, if_false, exists_eq_left']
        have e2 : (s : Int) + 1 + j = ((s + 1 + j : Nat) : Int) := by exact ar451
        have hc : s + 1 + j < n := by exact ar452 hj
        refine fget (j := s + 1 + i) g7.top rfl hr ?_
        refine fget (j := s + 1 + j) (g7.row _ hr) e2 hc ?_
        rw [if_neg (Nat.lt_irrefl _), if_neg (by exact ar467)]
        simp only [bin_mul]
        refine ⟨mulok (hb _ _ hr hc) (hb _ _ hs hs) (by exact ar468 hw), ?_⟩
        refine fget (j := s) g7.top rfl hs ?_
        refine fget (j := s + 1 + j) (g7.row _ hs) e2 hc ?_
        rw [if_pos (by exact ar457)]
        have eb : bst M s ahead s (s + 1 + j) = M s (s + 1 + j) := by rw [bst, if_neg (Nat.lt_irrefl _)]
        rw [eb]
        simp only [bin_sub, bin_mul, bin_fdiv, ne_eq]
        refine ⟨mulok (hb _ _ hr hs) (hb _ _ hs hc) (by exact ar468 hw), ha, ?_⟩
        refine fget (j := s + 1 + i) g7.top rfl hr ?_
        rw [e2]
        refine setitem_ref (g7.row _ hr) (by exact ar469) (by rw [fl_len]; exact ar470 hc) ?_
        rw [Int.toNat_natCast]
        refine hK1 _ _ ⟨g0.set hr, (Eq.trans (by kernel_rfl) g1), (Eq.trans (by kernel_rfl) g2), (Eq.trans (by kernel_rfl) g3), (Eq.trans (by kernel_rfl) g4), (Eq.trans (by kernel_rfl) g5), (Eq.trans (by kernel_rfl) g6), (g7.set hr).congr fun r c hr hc => ?_⟩
        by_cases e : r = s + 1 + i ∧ c = s + 1 + j
        · obtain ⟨rfl, rfl⟩ := e
          rw [if_pos ⟨rfl, rfl⟩, if_neg (Nat.lt_irrefl _), if_pos (by exact ar471), bst, if_pos (by exact ar457), if_pos (by exact ar457)]
        · rw [if_neg e]
          congr 1
          by_cases q : r < s + 1 + i
          · rw [if_pos q, if_pos q]
          · rw [if_neg q, if_neg q]
            by_cases q2 : r = s + 1 + i ∧ s < c ∧ c < s + 1 + j
            · rw [if_pos q2, if_pos (by exact ar472 q2)]
            · rw [if_neg q2, if_neg (by exact ar473 e q2)]
end Mine

namespace Mine
open PySem PySem.W PyProof.Rows
set_option linter.unusedVariables false
set_option linter.unusedSimpArgs false
set_option maxRecDepth 100000
set_option maxHeartbeats 4000000
open PySem.Calls
variable {w : World} {H0 : Heap} {mg mb : Str → Option Value}


theorem Mx.swap {σ : Sto} {k n m i j : Nat} {ks : Nat → Nat} {M : Nat → Nat → V} (h : Mx σ k n m ks M) (hi : i < n) (hj : j < n) :
    Mx ((σ.set k ((fl n fun x => .ref (ks x)).set i (.ref (ks j)))).set k (((fl n fun x => .ref (ks x)).set i (.ref (ks j))).set j (.ref (ks i)))) k n m (fun x => ks (sw i j x)) (fun x => M (sw i j x)) where
  top := by
    rw [got_set (got_set h.top), fl_set, fl_set]
    congr 1
    exact fl_congr fun x hx => by unfold sw; by_cases e1 : x = j <;> by_cases e2 : x = i <;> simp_all
  row := fun x hx => by
    have hs := sw_lt hi hj hx
    rw [List.getElem?_set_ne (fun e => h.off _ hs e.symm), List.getElem?_set_ne (fun e => h.off _ hs e.symm)]
    exact h.row _ hs
  inj := fun x y hx hy e => sw_inj (h.inj _ _ (sw_lt hi hj hx) (sw_lt hi hj hy) e)
  off := fun x hx => h.off _ (sw_lt hi hj hx)

noncomputable def Gd (M : Nat → Nat → Int) (ahead : Int) (s : Nat) : Nat → Prop
  | 0 => True
  | 1 => M s s ≠ 0
  | 2 => ∃ d, d ≠ 0 ∧ M s s * M (s + 1) (s + 1) - M s (s + 1) * M (s + 1) s = ahead * d
  | 3 => ahead = 1 ∧ M s s * (M (s + 1) (s + 1) * M (s + 2) (s + 2) - M (s + 1) (s + 2) * M (s + 2) (s + 1)) - M s (s + 1) * (M (s + 1) s * M (s + 2) (s + 2) - M (s + 1) (s + 2) * M (s + 2) s) +
      M s (s + 2) * (M (s + 1) s * M (s + 2) (s + 1) - M (s + 1) (s + 1) * M (s + 2) s) ≠ 0
  | _ => False
theorem Gd.some {M : Nat → Nat → Int} {ahead : Int} {s r : Nat} (h : Gd M ahead s (r + 1)) (ha : ahead ≠ 0) : ∃ i, s ≤ i ∧ i < s + (r + 1) ∧ M i s ≠ 0 := by
  refine Classical.byContradiction fun hc => ?_
  have hz : ∀ i, s ≤ i → i < s + (r + 1) → M i s = 0 := fun i h1 h2 => Classical.byContradiction fun h3 => hc ⟨i, h1, h2, h3⟩
  match r, h with
  | 0, h => exact h (hz s (by exact ar146) (by exact ar474))
  | 1, ⟨d, hd, h⟩ =>
    rw [hz s (by exact ar146) (by exact ar475), hz (s + 1) (by exact ar145) (by exact ar476)] at h
    have : ahead * d ≠ 0 := Int.mul_ne_zero ha hd
    grind
  | 2, ⟨_, h⟩ =>
    rw [hz s (by exact ar146) (by exact ar477), hz (s + 1) (by exact ar145) (by exact ar478), hz (s + 2) (by exact ar316) (by exact ar479)] at h
    grind
  | r + 3, h => exact h.elim
theorem Gd.swap {M : Nat → Nat → Int} {ahead : Int} {s r p : Nat} (h : Gd M ahead s (r + 1)) (h1 : s ≤ p) (h2 : p < s + (r + 1)) : Gd (fun x => M (sw p s x)) ahead s (r + 1) := by
  match r, h with
  | 0, h =>
    have e : p = s := by exact ar480 h1 h2
    subst e
    simpa [Gd, sw] using h
  | 1, ⟨d, hd, h⟩ =>
    by_cases e : p = s
    · subst e; exact ⟨d, hd, by simpa [sw] using h⟩
    · have e : p = s + 1 := by exact ar481 h1 h2 e
      subst e
      refine ⟨-d, by exact ar482 hd, ?_⟩
      simp only [sw]
      simp only [if_true, show ¬ s = s + 1 by exact ar483, if_false]
      grind
  | 2, ⟨ha, h⟩ =>
    refine ⟨ha, ?_⟩
    by_cases e : p = s
    · subst e; simpa [sw] using h
    · by_cases e2 : p = s + 1
      · subst e2
        simp only [sw]
        simp only [if_true, show ¬ s = s + 1 by exact ar483, if_false, show ¬ s + 2 = s + 1 by exact ar484, show ¬ s + 2 = s by exact ar485]
        grind
      · have e2 : p = s + 2 := by exact ar486 h1 h2 e e2
        subst e2
        simp only [sw]
        simp only [if_true, show ¬ s = s + 2 by exact ar487, if_false, show ¬ s + 1 = s + 2 by exact ar488, show ¬ s + 1 = s by exact ar489]
        grind
  | r + 3, h => exact h.elim
theorem Gd.step {M : Nat → Nat → Int} {ahead : Int} {s r : Nat} (h : Gd M ahead s (r + 1)) (ha : ahead ≠ 0) : Gd (bst M s ahead) (M s s) (s + 1) r := by
  match r, h with
  | 0, h => trivial
  | 1, ⟨d, hd, h⟩ =>
    show bst M s ahead (s + 1) (s + 1) ≠ 0
    rw [bst, if_pos (by exact ar12), if_pos (by exact ar12)]
    have e : M (s + 1) (s + 1) * M s s - M (s + 1) s * M s (s + 1) = ahead * d := by grind
    rw [e, Int.mul_fdiv_cancel_left _ ha]
    exact hd
  | 2, ⟨h1, hd⟩ =>
    subst h1
    refine ⟨_, hd, ?_⟩
    simp only [bst, Int.fdiv_one, show s < s + 1 by exact ar12, show s < s + 1 + 1 by exact ar490, if_true]
    grind
  | r + 3, h => exact h.elim
theorem bst_w {M : Nat → Nat → Int} {ahead : Int} {s n w : Nat} (hs : s < n) (h : ∀ i j, i < n → j < n → (M i j).natAbs < 2 ^ w) (i j : Nat) (hi : i < n) (hj : j < n) : (bst M s ahead i j).natAbs < 2 ^ (2 * w + 1) := by
  have hm : 2 ^ w ≤ 2 ^ (2 * w + 1) := Nat.pow_le_pow_right (by decide) (by exact ar491)
  unfold bst
  split
  · split
    · refine Nat.lt_of_le_of_lt (Int.natAbs_fdiv_le_natAbs _ _) ?_
      have a := natAbs_lt_mul (h i j hi hj) (h s s hs hs)
      have b := natAbs_lt_mul (h i s hi hs) (h s j hs hj)
      have e : 2 ^ (2 * w + 1) = 2 ^ (w + w) + 2 ^ (w + w) := by rw [show 2 * w + 1 = (w + w) + 1 by exact ar492, Nat.pow_succ]; exact ar1
      exact ar493 a b e
    · split
      · exact Nat.pow_pos (by decide)
      · exact Nat.lt_of_lt_of_le (h i j hi hj) hm
  · exact Nat.lt_of_lt_of_le (h i j hi hj) hm
noncomputable def dw : Nat → Nat | 0 => 8 | s + 1 => 2 * dw s + 1
noncomputable def cDet : Con := fun vs σ P => ∃ (k n : Nat) (ks : Nat → Nat) (M : Nat → Nat → Int), vs = [.ref k] ∧ Mx σ k n n ks (fun i j => .int (M i j)) ∧ n ≤ 3 ∧ (∀ i j, i < n → j < n → (M i j).natAbs < 2 ^ 8) ∧ Gd M 1 0 n ∧
  ∀ σ' x, σ <+: σ' → x ≠ 0 → P (.int x) σ'
inductive IvDet (σ' : Sto) (n : Nat) (s : Nat) (ε : Loc) (σ2 : Sto) (kf : Nat) (sign ahead : Int) (ks : Nat → Nat) (M : Nat → Nat → Int) : Prop where
  | mk : (ε (Str.ofString "found") = some (.ref kf)) → (ε (Str.ofString "sign") = some (.int sign)) → (ε (Str.ofString "ahead") = some (.int ahead)) → (σ'.length ≤ kf) → ((sign = 1 ∨ sign = -1)) → (ahead ≠ 0) → (ahead.natAbs < 2 ^ dw s) → ((∀ i, i < n → σ'.length ≤ ks i)) → (Mx σ2 kf n n ks (fun i j => .int (M i j))) → ((∀ i j, i < n → j < n → (M i j).natAbs < 2 ^ dw s)) → (Gd M ahead s (n - s)) → IvDet σ' n s ε σ2 kf sign ahead ks M
theorem ok_determinant (X : Cx w H0 mg mb) : FnOk pg w H0 mg 3 (Str.ofString "determinant") cDet := by
  refine' fn_of X (i := 17) (k := 14) (d := 2) (C := cDet) rfl rfl (by kernel_rfl) rfl ?snd ?bind (by kernel_rfl) rfl rfl rfl (by kernel_rfl) ?law
  case snd =>
    repeat' (first
      | (with_reducible first | exact sndB_nil | refine' sndB_cons ?_ ?_ | refine' snd_if ?_ ?_ ?_ | refine' snd_while ?_ ?_ | exact snd_no (st := Stmt.Return (some (Expr.Constant (Const.bool false) _ _)) _) | refine' snd_ret ?_ | exact snd_cont | exact snd_no (st := Stmt.Raise _ _ _) | exact sndL_nil | refine' sndA_sub ?_ ?_ | exact sndAs_nil | exact sndIfs_nil | refine' sndIfs_one ?_ | exact waF_name | exact waF_two | exact snd_int | exact snd_none | refine' snd_tup ?_ | refine' snd_lst ?_ | refine' snd_binop X.wd ?_ ?_ | refine' snd_usub ?_ | refine' snd_ifexp ?_ ?_ ?_ | refine' snd_upto ?_ ?_ | refine' sndT_and ?_ ?_ | refine' sndT_or ?_ ?_)
      | ((with_reducible first | refine' n_tgt ?s1 | refine' n_aug ?s1 ?_ | refine' n_glob X X.r0 ?s1 | refine' n_glob X X.r1 ?s1 | refine' n_name ?s1); (case s1 => kernel_rfl))
      | ((with_reducible first | refine' sndL_cons ?_ ?_ ?s1 | refine' sndAs_cons ?_ ?_ ?s1); (case s1 => exact fun _ => rfl))
      | ((with_reducible first | refine' snd_for ?_ ?_ ?_ ?s1 | refine' snd_sub ?_ ?_ ?s1); (case s1 => exact fun _ _ => rfl))
      | ((with_reducible first | refine' snd_compare ?_ ?_ ?s1 | refine' sndT_cmp ?_ ?_ ?s1); (case s1 => rfl))
      | ((with_reducible refine' n_acomp ?s1 ?s2 ?s4 ?s5 ?s6 ?_ ?_ ?_ ?_ ?_ ?_); (case s1 => kernel_rfl); (case s2 => rfl); (case s4 => exact fun _ _ => rfl); (case s5 => (intro env h; cases env; cases h; kernel_rfl)); (case s6 => decide +kernel))
      | ((with_reducible refine' snd_assign (e := Expr.Tuple (Expr.Constant _ _ _ :: Expr.Constant _ _ _ :: _) _ _) ?_ ?_ ?s1 ?s2 ?s3); (case s1 => exact fun _ => rfl); (case s2 => first | exact fun _ _ => rfl | (intro env h; cases env; cases h; kernel_rfl)); (case s3 => first | exact fun _ _ => rfl | (intro env h; cases env; cases h; kernel_rfl)))
      | ((with_reducible refine' snd_swapN (elts := Expr.Name _ _ :: _) (e := Expr.Tuple _ _ _) ?_ ?s1 ?s2 ?s3); (case s1 => kernel_rfl); (case s2 => exact fun _ _ => rfl); (case s3 => (intro env h; cases env; cases h; kernel_rfl)))
      | ((with_reducible refine' snd_assign ?_ ?_ ?s1 ?s2 ?s3); (case s1 => exact fun _ => rfl); (case s2 => first | exact fun _ _ => rfl | (intro env h; cases env; cases h; kernel_rfl)); (case s3 => first | exact fun _ _ => rfl | (intro env h; cases env; cases h; kernel_rfl)))
      | ((with_reducible refine' snd_expr ?_ ?s1 ?s2); (case s1 => (intro env h; cases env; cases h; kernel_rfl)); (case s2 => first | exact fun _ _ => rfl | (intro env h; cases env; cases h; kernel_rfl)))
      | ((with_reducible refine' sndA_tup ?_ ?s1); (case s1 => exact fun _ => ⟨rfl, rfl⟩))
      | ((with_reducible first | refine' n_range1 X ?s1 ?s2 ?_ | refine' n_enum X ?s1 ?s2 ?_); (case s1 => kernel_rfl); (case s2 => exact fun _ => rfl))
      | ((with_reducible refine' n_range2 X ?s1 ?s2 ?s3 ?_); (case s1 => kernel_rfl); (case s2 => exact fun _ => rfl); (case s3 => exact fun _ _ => rfl))
      | (with_reducible first | refine' n_listN ?_ | refine' n_listT ?_)
      | ((with_reducible refine' snd_append ?_ ?_ ?s1 ?s2 ?s3); (case s1 => exact fun _ => rfl); (case s2 => exact fun _ => rfl); (case s3 => rfl))
      | ((with_reducible first | refine' n_len X ?s1 ?s3 ?s4 ?_ | refine' n_abs X ?s1 ?s3 ?s4 ?_ | refine' n_int X ?s1 ?s3 ?s4 ?_ | refine' n_list X ?s1 ?s3 ?s4 ?_ | refine' n_min X ?s1 ?s3 ?s4 ?_ | refine' n_max X ?s1 ?s3 ?s4 ?_ | refine' n_sum X ?s1 ?s3 ?s4 ?_); (case s1 => kernel_rfl); (case s3 => exact fun _ => rfl); (case s4 => exact fun _ _ => rfl))
      | ((with_reducible first | refine' n_call X (ok_pivot_row X) ?s1 ?s2 ?s3 ?_ | refine' n_call X (ok_bareiss_step X) ?s1 ?s2 ?s3 ?_); (case s1 => rfl); (case s2 => kernel_rfl); (case s3 => exact fun _ => rfl))
      | ((with_reducible refine' n_comp ?s1 ?s2 ?s4 ?_ ?_ ?_ ?_ ?_ ?_); (case s1 => kernel_rfl); (case s2 => rfl); (case s4 => exact fun _ _ => rfl))
      | kernel_rfl)
  case bind => intro pm cd doc; refine ofLen1 ?_; intros; kernel_rfl
  case law =>
    intro vs σ P; refine hide fun Gq hGq => ?_; rintro ⟨k, n, ks, M, rfl, hM, hn, hb, hg, hP⟩; refine hGq ?_; clear hGq
    refine ⟨rfl, ?_⟩
    simp only [hM.top, wSeq, wNil, wSwap, wIf, wRet, wNo, wTup, wLst, wOp2, wCall, wName, wVal, wTest, wStores, wIList, wIRange1, wComp, wFor, Loc.set, locOf, post, tgt_nil, tgt_cons, ofString_inj, String.reduceEq, cLen, List.map, List.reverse, List.reverseAux, List.length, List.cons.injEq, Option.some.injEq, V.int.injEq, V.ref.injEq, V.tup.injEq, if_true, if_false, exists_eq_left', exists_and_left, and_true, true_and, Nat.reduceAdd, Nat.reduceLeDiff, Int.reduceNeg]
    refine comp_of (fun i acc σ' => σ' = σ ∧ acc = []) ⟨rfl, rfl⟩ ?_ ?_
    · intro acc σ'; refine hide fun Gq hGq => ?_; rintro ⟨rfl, rfl⟩; refine hGq ?_; clear hGq
      refine ⟨hM.top, ?_⟩
      have h1 : (σ' ++ [[]] ++ [[]])[σ'.length]? = some [] := by simp
      have h2 : (σ' ++ [[]] ++ [[]])[(σ' ++ [([] : List V)]).length]? = some [] := by simp
      refine ⟨.list [], .list [], .ref h1 rfl (fun i x d e => by simp at e), .ref h2 rfl (fun i x d e => by simp at e), rfl, rfl, ?_⟩
      have e : (!PyData.eqv (.list []) (.list [])) = false := by simp [PyData.eqv, PyData.eqvAll]
      rw [e]
      refine ⟨false, rfl, fun h => (by cases h), fun _ => ?_⟩
      refine ⟨_, got_app (got_app hM.top), ?_⟩
      refine comp_of (fun i acc σ1 => σ1 = (σ' ++ [[]] ++ [[]]) ++ (List.range i).map (fun r => fl n fun c => V.int (M r c)) ∧ acc = (List.range i).map fun r => V.ref (σ'.length + 2 + r)) ⟨by simp, rfl⟩ ?_ ?_
      · intro acc σ1; refine hide fun Gq hGq => ?_; rintro ⟨e1, e2⟩; refine hGq ?_; clear hGq
        rw [fl_len] at e1 e2
        have hk : σ1[k]? = some (fl n fun i => V.ref (ks i)) := by rw [e1]; exact got_app (got_app (got_app hM.top))
        refine ⟨hk, _, got_app hk, ?_⟩
        rw [fl_len]
        refine ⟨by exact ar437, by exact ar494 hn, ?_⟩
        have hlen : σ1.length = σ'.length + 2 + n := by rw [e1]; simp; exact ar495
        have hM1 : Mx (σ1 ++ [acc]) σ1.length n n (fun r => σ'.length + 2 + r) (fun i j => .int (M i j)) := {
          top := by rw [got_at0, e2]; rfl
          row := fun i hi => by
            rw [e1, List.append_assoc, List.append_assoc, List.append_assoc, List.getElem?_append_right (by exact ar496)]
            rw [show σ'.length + 2 + i - σ'.length = i + 1 + 1 by exact ar497]
            show ([] :: [] :: ((List.range n).map (fun r => fl n fun c => V.int (M r c)) ++ [acc]))[i + 1 + 1]? = _
            rw [List.getElem?_cons_succ, List.getElem?_cons_succ, List.getElem?_append_left (by simpa using hi)]
            simp [hi]
          inj := fun i j hi hj h => by exact ar498 h
          off := fun i hi => by exact ar499 hlen hi }
        have hpre1 : σ' <+: σ1 ++ [acc] := by rw [e1, List.append_assoc, List.append_assoc, List.append_assoc]; exact pre_app
        rw [show ((n : Int)).toNat = n by exact ar264]
        refine for_of (fun s ε σ2 => σ' <+: σ2 ∧ s ≤ n ∧ ∃ (kf : Nat) (sign ahead : Int) (ks : Nat → Nat) (M : Nat → Nat → Int), IvDet σ' n s ε σ2 kf sign ahead ks M) ?_ ?_ ?_
        · exact ⟨hpre1, by exact ar51, σ1.length, 1, 1, _, M, by kernel_rfl, by kernel_rfl, by kernel_rfl, by exact ar500 hlen, .inl rfl, by decide, by decide, fun i hi => by exact ar496, hM1, hb, hg⟩
        · intro ε σ2; refine hide fun Gq hGq => ?_; rintro ⟨g0, _, kf, sign, ahead, ks, M, g1, g2, g3, g4, g5, g6, g7, g8, g9, g10, g11⟩; refine hGq ?_; clear hGq
          refine ⟨trivial, ?_⟩
          rw [rng_len] at g7
          simp only [g2, g3, bin_mul, Option.some.injEq, exists_eq_left']
          have hdn : dw n ≤ 1000 := by
            have : ∀ n, n ≤ 3 → dw n ≤ 1000 := by decide
            exact this n hn
          refine ⟨mulok (n := 1) (by rcases g5 with rfl | rfl <;> decide) g7 (by exact ar501 hdn), hP _ _ g0 (Int.mul_ne_zero (by rcases g5 with rfl | rfl <;> decide) g6)⟩
        · intro s x ε σ2 K hx hK; refine hide fun Gq hGq => ?_; rintro ⟨g0, _, kf, sign, ahead, ks, M, g1, g2, g3, g4, g5, g6, g7, g8, g9, g10, g11⟩; refine hGq ?_; clear hGq
          obtain ⟨rfl, hs⟩ := rng_get hx
          refine ⟨trivial, ?_⟩
          have e0 : (0 : Int) + s = s := by exact ar227
          rw [e0]
          obtain ⟨r, hr⟩ : ∃ r, n - s = r + 1 := ⟨n - s - 1, by exact ar502 hs⟩
          have hr2 : n - (s + 1) = r := by exact ar503 hr
          rw [hr] at g11
          have hdn : dw s ≤ 1000 := by
            have : ∀ n, n ≤ 3 → dw n ≤ 1000 := by decide
            exact this s (by exact ar504 hn hs)
          simp only [g1, g2, g3, wSeq, wNil, wAssign, wStore, wUnpack, wACons, wIf, wRet, wExpr, wTup, wOp2, wUn, wCall, wName, wVal, wTest, wSub, Loc.set, neg_i, ofString_inj, String.reduceEq, List.length, List.cons.injEq, List.nil_eq, Option.some.injEq, V.tup.injEq, if_true, if_false, exists_eq_left, exists_eq_left', exists_and_left, true_and, Nat.reduceAdd, Nat.reduceLeDiff, and_assoc]
          refine ⟨kf, n, s, ks, M, rfl, g9, by exact ar505 hn, hs, fun hz => ?_, fun p hp1 hp2 hp3 => ?_⟩
          · obtain ⟨i, h1, h2, h3⟩ := g11.some g6
            exact absurd (hz i h1 (by exact ar506 hs hr2 h2)) h3
          · simp only [ne_ints, is_in, V.bool.injEq, exists_eq_left', true_and, forall_const, false_implies, decide_eq_true_eq, decide_eq_false_iff_not, Bool.not_eq_true', Bool.not_eq_false', Bool.false_eq_true]
            have tail : ∀ (σ3 : Sto) (ks1 : Nat → Nat) (M1 : Nat → Nat → Int) (sg : Int) (ε2 : Loc), σ' <+: σ3 → (∀ i, i < n → σ'.length ≤ ks1 i) → Mx σ3 kf n n ks1 (fun i j => .int (M1 i j)) → (∀ i j, i < n → j < n → (M1 i j).natAbs < 2 ^ dw s) → Gd M1 ahead s (r + 1) → M1 s s ≠ 0 →
                (sg = 1 ∨ sg = -1) → ε2 (Str.ofString "found") = some (.ref kf) → ε2 (Str.ofString "sign") = some (.int sg) →
                cStep [V.ref kf, V.int s, V.int ahead] σ3 fun x σ1 => wItem (V.ref kf) (V.int s) σ1 fun a σ1 => wItem a (V.int s) σ1 fun v σ1 => K (ε2.set (Str.ofString "ahead") v) σ1 := by
              intro σ3 ks1 M1 sg ε2 q1 q2 q3 q4 q5 q6 q7 q8 q9
              refine ⟨kf, n, s, dw s, ahead, ks1, M1, rfl, q3, by exact ar505 hn, hs, g6, by exact ar507 hdn, q4, fun σ4 hsame hM4 => ?_⟩
              have ebs : bst M1 s ahead s s = M1 s s := by rw [bst, if_neg (Nat.lt_irrefl _)]
              refine fget (j := s) hM4.top rfl hs ?_
              refine fget (j := s) (hM4.row s hs) rfl hs ?_
              rw [ebs]
              refine hK _ _ ⟨?_, by exact ar96 hs, kf, sg, M1 s s, ks1, bst M1 s ahead, (Eq.trans (by kernel_rfl) q8), (Eq.trans (by kernel_rfl) q9), by kernel_rfl, g4, q7, q6, ?_, q2, hM4, fun i j hi hj => bst_w hs q4 i j hi hj, ?_⟩
              · refine pre_of fun x hx => ?_
                rw [hsame x fun i hi => by have := q2 i hi; exact ar508 hx this]
                obtain ⟨t, rfl⟩ := q1
                rw [List.getElem?_append_left hx]
              · exact Nat.lt_of_lt_of_le (q4 s s hs hs) (Nat.pow_le_pow_right (by decide) (show dw s ≤ 2 * dw s + 1 by exact ar491))
              · rw [hr2]; exact q5.step g6
            refine ⟨fun hne => ?_, fun he => ?_⟩
            · refine fget (j := s) g9.top rfl hs ?_
              refine fget (j := p) g9.top rfl hp2 ?_
              refine setitem_ref g9.top (by exact ar178) (by rw [fl_len]; exact ar454 hp2) ?_
              rw [Int.toNat_natCast]
              refine setitem_ref (got_set g9.top) (by exact ar178) (by rw [List.length_set, fl_len]; exact ar454 hs) ?_
              rw [Int.toNat_natCast]
              refine tail _ _ _ (-sign) _ (pre_set (pre_set g0 g4) g4) (fun i hi => g8 _ (sw_lt hp2 hs hi)) (g9.swap hp2 hs) (fun i j hi hj => g10 _ j (sw_lt hp2 hs hi) hj) (g11.swap hp1 (by exact ar509 hr2 hp2)) ?_ (by exact ar510 g5) ((Eq.trans (by kernel_rfl) g1)) (by kernel_rfl)
              have : sw p s s = p := by unfold sw; split <;> simp_all
              rw [this]; exact hp3
            · have he : p = s := by exact ar511 he
              subst he
              exact tail σ2 ks M sign _ g0 g8 g9 g10 g11 hp3 g5 ((Eq.trans (by kernel_rfl) g1)) ((Eq.trans (by kernel_rfl) g2))
      · intro i x acc σ1 K hx hK; refine hide fun Gq hGq => ?_; rintro ⟨rfl, rfl⟩; refine hGq ?_; clear hGq
        have hi : i < n := by
          have := (List.getElem?_eq_some_iff.mp hx).1
          rw [fl_len] at this; exact this
        rw [fl_get hi] at hx
        cases hx
        refine ⟨got_app (got_app (got_app hM.top)), ?_⟩
        simp only [wStore, wCall, wTrue, compLoc, Loc.set, ofString_inj, ofString_beq, String.reduceEq, String.reduceBEq, cList, List.lookup_cons, List.cons.injEq, Option.some.injEq, V.ref.injEq, reduceCtorEq, if_true, if_false, exists_eq_left', exists_and_left, and_true, forall_const, false_implies, Bool.true_eq_false]
        refine ⟨_, got_app (got_app (got_app (hM.row i hi))), ?_⟩
        refine ⟨by simp; exact ar512 hn hi, hK _ _ ⟨?_, ?_⟩⟩
        · rw [List.range_succ, List.map_append, List.append_assoc]; rfl
        · rw [List.range_succ, List.map_append]
          congr 1
          simp
          exact ar495
    · intro i x acc σ' K hx hK; refine hide fun Gq hGq => ?_; rintro ⟨rfl, rfl⟩; refine hGq ?_; clear hGq
      have hi : i < n := by
        have := (List.getElem?_eq_some_iff.mp hx).1
        rw [fl_len] at this; exact this
      rw [fl_get hi] at hx
      cases hx
      refine ⟨hM.top, ?_⟩
      simp only [hM.row i hi, hM.top, wStore, wCall, wName, wTest, compLoc, Loc.set, ne_ints, ofString_inj, ofString_beq, String.reduceEq, String.reduceBEq, cLen, List.length, List.nil_append, List.lookup_cons, List.cons.injEq, Option.some.injEq, V.ref.injEq, V.bool.injEq, reduceCtorEq, if_true, if_false, exists_eq_left', exists_and_left, and_true, decide_eq_true_eq, decide_eq_false_iff_not, Bool.not_eq_true', Bool.not_eq_false']
      simp only [fl_len, not_true_eq_false, true_and, not_true_eq_false, forall_const, false_implies]
      exact hK _ _ ⟨rfl, rfl⟩
end Mine

namespace Mine
open PySem PySem.W PyProof.Rows
set_option linter.unusedVariables false
set_option linter.unusedSimpArgs false
set_option maxRecDepth 100000
set_option maxHeartbeats 4000000
open PySem.Calls
variable {w : World} {H0 : Heap} {mg mb : Str → Option Value}


theorem Mx.mv {σ σ' : Sto} {k n m : Nat} {ks : Nat → Nat} {M : Nat → Nat → V} (h : Mx σ k n m ks M) (hp : σ <+: σ') : Mx σ' k n m ks M where
  top := got_pre hp h.top
  row := fun i hi => got_pre hp (h.row i hi)
  inj := h.inj
  off := h.off
/-- all but the list k stands -/
noncomputable def Only (σ σ' : Sto) (k : Nat) : Prop := σ.length ≤ σ'.length ∧ ∀ x, x < σ.length → x ≠ k → σ'[x]? = σ[x]?
theorem Only.pre {σ0 σ σ' : Sto} {k : Nat} (h : Only σ σ' k) (hp : σ0 <+: σ) (hk : σ0.length ≤ k) : σ0 <+: σ' := by
  refine pre_of fun x hx => ?_
  have := hp.length_le
  rw [h.2 x (by exact ar513 hx this) (by exact ar514 hk hx)]
  obtain ⟨t, rfl⟩ := hp
  rw [List.getElem?_append_left hx]
theorem Only.got {σ σ' : Sto} {k x : Nat} {xs : List V} (h : Only σ σ' k) (hx : σ[x]? = some xs) (hk : x ≠ k) : σ'[x]? = some xs := by rw [h.2 x (got_lt hx) hk]; exact hx
/-- a new list as a row -/
theorem Mx.put {σ τ : Sto} {k n m i : Nat} {ks : Nat → Nat} {M : Nat → Nat → V} {f : Nat → V} {kk : Nat} (h : Mx σ k n m ks M) (hi : i < n) (hkk : σ.length ≤ kk) (hg : (σ ++ τ)[kk]? = some (fl m f)) :
    Mx ((σ ++ τ).set k ((fl n fun x => .ref (ks x)).set i (.ref kk))) k n m (fun x => if x = i then kk else ks x) (fun x => if x = i then f else M x) ∧ Only σ ((σ ++ τ).set k ((fl n fun x => .ref (ks x)).set i (.ref kk))) k := by
  have hk := got_lt h.top
  refine ⟨⟨?_, fun x hx => ?_, fun x y hx hy e => ?_, fun x hx => ?_⟩, by simp, fun x hx hne => ?_⟩
  · rw [got_set (got_app h.top), fl_set]
    congr 1
    exact fl_congr fun x hx => by split <;> rfl
  · by_cases e : x = i
    · simp only [e, if_true]
      rw [List.getElem?_set_ne (by exact ar514 hkk hk)]; exact hg
    · simp only [e, if_false]
      rw [List.getElem?_set_ne (fun q => h.off x hx q.symm)]; exact got_app (h.row x hx)
  · have hx' := got_lt (h.row x hx)
    have hy' := got_lt (h.row y hy)
    by_cases e1 : x = i <;> by_cases e2 : y = i
    · rw [e1, e2]
    · simp only [e1, e2, if_true, if_false] at e; exact ar515 hkk hy' e
    · simp only [e1, e2, if_true, if_false] at e; exact ar516 hkk hx' e
    · simp only [e1, e2, if_false] at e; exact h.inj x y hx hy e
  · by_cases e1 : x = i
    · simp only [e1, if_true]; exact ar517 hkk hk
    · simp only [e1, if_false]; exact h.off x hx
  · rw [List.getElem?_set_ne (Ne.symm hne), List.getElem?_append_left hx]

noncomputable def cShape : Con := fun vs σ P => ∃ (k n m : Nat) (ks : Nat → Nat) (M : Nat → Nat → V), vs = [.ref k] ∧ Mx σ k n m ks M ∧ 0 < n ∧ P (.tup [.int n, .int m]) σ
theorem ok_shape (X : Cx w H0 mg mb) : FnOk pg w H0 mg 2 (Str.ofString "shape") cShape := by
  refine' fn_of X (i := 18) (k := 15) (d := 1) (C := cShape) rfl rfl (by kernel_rfl) rfl ?snd ?bind (by kernel_rfl) rfl rfl rfl (by kernel_rfl) ?law
  case snd =>
    repeat' (first
      | (with_reducible first | exact sndB_nil | refine' sndB_cons ?_ ?_ | refine' snd_if ?_ ?_ ?_ | refine' snd_while ?_ ?_ | exact snd_no (st := Stmt.Return (some (Expr.Constant (Const.bool false) _ _)) _) | refine' snd_ret ?_ | exact snd_cont | exact snd_no (st := Stmt.Raise _ _ _) | exact sndL_nil | refine' sndA_sub ?_ ?_ | exact sndAs_nil | exact sndIfs_nil | refine' sndIfs_one ?_ | exact waF_name | exact waF_two | exact snd_int | exact snd_none | refine' snd_tup ?_ | refine' snd_lst ?_ | refine' snd_binop X.wd ?_ ?_ | refine' snd_usub ?_ | refine' snd_ifexp ?_ ?_ ?_ | refine' snd_upto ?_ ?_ | refine' sndT_and ?_ ?_ | refine' sndT_or ?_ ?_)
      | ((with_reducible first | refine' n_tgt ?s1 | refine' n_aug ?s1 ?_ | refine' n_glob X X.r0 ?s1 | refine' n_glob X X.r1 ?s1 | refine' n_name ?s1); (case s1 => kernel_rfl))
      | ((with_reducible first | refine' sndL_cons ?_ ?_ ?s1 | refine' sndAs_cons ?_ ?_ ?s1); (case s1 => exact fun _ => rfl))
      | ((with_reducible first | refine' snd_for ?_ ?_ ?_ ?s1 | refine' snd_sub ?_ ?_ ?s1); (case s1 => exact fun _ _ => rfl))
      | ((with_reducible first | refine' snd_compare ?_ ?_ ?s1 | refine' sndT_cmp ?_ ?_ ?s1); (case s1 => rfl))
      | ((with_reducible refine' n_acomp ?s1 ?s2 ?s4 ?s5 ?s6 ?_ ?_ ?_ ?_ ?_ ?_); (case s1 => kernel_rfl); (case s2 => rfl); (case s4 => exact fun _ _ => rfl); (case s5 => (intro env h; cases env; cases h; kernel_rfl)); (case s6 => decide +kernel))
      | ((with_reducible refine' snd_assign (e := Expr.Tuple (Expr.Constant _ _ _ :: Expr.Constant _ _ _ :: _) _ _) ?_ ?_ ?s1 ?s2 ?s3); (case s1 => exact fun _ => rfl); (case s2 => first | exact fun _ _ => rfl | (intro env h; cases env; cases h; kernel_rfl)); (case s3 => first | exact fun _ _ => rfl | (intro env h; cases env; cases h; kernel_rfl)))
      | ((with_reducible refine' snd_swapN (elts := Expr.Name _ _ :: _) (e := Expr.Tuple _ _ _) ?_ ?s1 ?s2 ?s3); (case s1 => kernel_rfl); (case s2 => exact fun _ _ => rfl); (case s3 => (intro env h; cases env; cases h; kernel_rfl)))
      | ((with_reducible refine' snd_assign ?_ ?_ ?s1 ?s2 ?s3); (case s1 => exact fun _ => rfl); (case s2 => first | exact fun _ _ => rfl | (intro env h; cases env; cases h; kernel_rfl)); (case s3 => first | exact fun _ _ => rfl | (intro env h; cases env; cases h; kernel_rfl)))
      | ((with_reducible refine' snd_expr ?_ ?s1 ?s2); (case s1 => (intro env h; cases env; cases h; kernel_rfl)); (case s2 => first | exact fun _ _ => rfl | (intro env h; cases env; cases h; kernel_rfl)))
      | ((with_reducible refine' sndA_tup ?_ ?s1); (case s1 => exact fun _ => ⟨rfl, rfl⟩))
      | ((with_reducible first | refine' n_range1 X ?s1 ?s2 ?_ | refine' n_enum X ?s1 ?s2 ?_); (case s1 => kernel_rfl); (case s2 => exact fun _ => rfl))
      | ((with_reducible refine' n_range2 X ?s1 ?s2 ?s3 ?_); (case s1 => kernel_rfl); (case s2 => exact fun _ => rfl); (case s3 => exact fun _ _ => rfl))
      | (with_reducible first | refine' n_listN ?_ | refine' n_listT ?_)
      | ((with_reducible refine' snd_append ?_ ?_ ?s1 ?s2 ?s3); (case s1 => exact fun _ => rfl); (case s2 => exact fun _ => rfl); (case s3 => rfl))
      | ((with_reducible first | refine' n_len X ?s1 ?s3 ?s4 ?_ | refine' n_abs X ?s1 ?s3 ?s4 ?_ | refine' n_int X ?s1 ?s3 ?s4 ?_ | refine' n_list X ?s1 ?s3 ?s4 ?_ | refine' n_min X ?s1 ?s3 ?s4 ?_ | refine' n_max X ?s1 ?s3 ?s4 ?_ | refine' n_sum X ?s1 ?s3 ?s4 ?_); (case s1 => kernel_rfl); (case s3 => exact fun _ => rfl); (case s4 => exact fun _ _ => rfl))
      | ((with_reducible refine' n_comp ?s1 ?s2 ?s4 ?_ ?_ ?_ ?_ ?_ ?_); (case s1 => kernel_rfl); (case s2 => rfl); (case s4 => exact fun _ _ => rfl))
      | kernel_rfl)
  case bind => intro pm cd doc; refine ofLen1 ?_; intros; kernel_rfl
  case law =>
    intro vs σ P; refine hide fun Gq hGq => ?_; rintro ⟨k, n, m, ks, M, rfl, hM, hn, hP⟩; refine hGq ?_; clear hGq
    refine ⟨rfl, ?_⟩
    simp only [hM.top, wSeq, wRet, wTup, wOp2, wCall, wName, wVal, wTest, wIfE, wStores, Loc.set, locOf, post, gt_ints, cLen, List.map, List.length, List.cons.injEq, Option.some.injEq, V.ref.injEq, V.bool.injEq, if_true, exists_eq_left', exists_and_left, and_true, true_and, Nat.reduceAdd, Nat.reduceLeDiff, decide_eq_true_eq, decide_eq_false_iff_not]
    rw [fl_len]
    refine ⟨fun _ => ?_, fun h => by exact (ar518 hn h).elim⟩
    refine fget (j := 0) hM.top rfl hn ?_
    refine ⟨_, rfl, _, hM.row 0 hn, ?_⟩
    rw [fl_len]; exact hP

noncomputable def cCopied : Con := fun vs σ P => ∃ (k n m : Nat) (ks : Nat → Nat) (M : Nat → Nat → V), vs = [.ref k] ∧ Mx σ k n m ks M ∧ n ≤ 100 ∧
  ∀ σ' kk ks', σ <+: σ' → σ.length ≤ kk → (∀ i, i < n → σ.length ≤ ks' i ∧ ks' i < σ'.length) → Mx σ' kk n m ks' M → P (.ref kk) σ'
theorem ok_copied (X : Cx w H0 mg mb) : FnOk pg w H0 mg 2 (Str.ofString "copied") cCopied := by
  refine' fn_of X (i := 19) (k := 16) (d := 1) (C := cCopied) rfl rfl (by kernel_rfl) rfl ?snd ?bind (by kernel_rfl) rfl rfl rfl (by kernel_rfl) ?law
  case snd =>
    repeat' (first
      | (with_reducible first | exact sndB_nil | refine' sndB_cons ?_ ?_ | refine' snd_if ?_ ?_ ?_ | refine' snd_while ?_ ?_ | exact snd_no (st := Stmt.Return (some (Expr.Constant (Const.bool false) _ _)) _) | refine' snd_ret ?_ | exact snd_cont | exact snd_no (st := Stmt.Raise _ _ _) | exact sndL_nil | refine' sndA_sub ?_ ?_ | exact sndAs_nil | exact sndIfs_nil | refine' sndIfs_one ?_ | exact waF_name | exact waF_two | exact snd_int | exact snd_none | refine' snd_tup ?_ | refine' snd_lst ?_ | refine' snd_binop X.wd ?_ ?_ | refine' snd_usub ?_ | refine' snd_ifexp ?_ ?_ ?_ | refine' snd_upto ?_ ?_ | refine' sndT_and ?_ ?_ | refine' sndT_or ?_ ?_)
      | ((with_reducible first | refine' n_tgt ?s1 | refine' n_aug ?s1 ?_ | refine' n_glob X X.r0 ?s1 | refine' n_glob X X.r1 ?s1 | refine' n_name ?s1); (case s1 => kernel_rfl))
      | ((with_reducible first | refine' sndL_cons ?_ ?_ ?s1 | refine' sndAs_cons ?_ ?_ ?s1); (case s1 => exact fun _ => rfl))
      | ((with_reducible first | refine' snd_for ?_ ?_ ?_ ?s1 | refine' snd_sub ?_ ?_ ?s1); (case s1 => exact fun _ _ => rfl))
      | ((with_reducible first | refine' snd_compare ?_ ?_ ?s1 | refine' sndT_cmp ?_ ?_ ?s1); (case s1 => rfl))
      | ((with_reducible refine' n_acomp ?s1 ?s2 ?s4 ?s5 ?s6 ?_ ?_ ?_ ?_ ?_ ?_); (case s1 => kernel_rfl); (case s2 => rfl); (case s4 => exact fun _ _ => rfl); (case s5 => (intro env h; cases env; cases h; kernel_rfl)); (case s6 => decide +kernel))
      | ((with_reducible refine' snd_assign (e := Expr.Tuple (Expr.Constant _ _ _ :: Expr.Constant _ _ _ :: _) _ _) ?_ ?_ ?s1 ?s2 ?s3); (case s1 => exact fun _ => rfl); (case s2 => first | exact fun _ _ => rfl | (intro env h; cases env; cases h; kernel_rfl)); (case s3 => first | exact fun _ _ => rfl | (intro env h; cases env; cases h; kernel_rfl)))
      | ((with_reducible refine' snd_swapN (elts := Expr.Name _ _ :: _) (e := Expr.Tuple _ _ _) ?_ ?s1 ?s2 ?s3); (case s1 => kernel_rfl); (case s2 => exact fun _ _ => rfl); (case s3 => (intro env h; cases env; cases h; kernel_rfl)))
      | ((with_reducible refine' snd_assign ?_ ?_ ?s1 ?s2 ?s3); (case s1 => exact fun _ => rfl); (case s2 => first | exact fun _ _ => rfl | (intro env h; cases env; cases h; kernel_rfl)); (case s3 => first | exact fun _ _ => rfl | (intro env h; cases env; cases h; kernel_rfl)))
      | ((with_reducible refine' snd_expr ?_ ?s1 ?s2); (case s1 => (intro env h; cases env; cases h; kernel_rfl)); (case s2 => first | exact fun _ _ => rfl | (intro env h; cases env; cases h; kernel_rfl)))
      | ((with_reducible refine' sndA_tup ?_ ?s1); (case s1 => exact fun _ => ⟨rfl, rfl⟩))
      | ((with_reducible first | refine' n_range1 X ?s1 ?s2 ?_ | refine' n_enum X ?s1 ?s2 ?_); (case s1 => kernel_rfl); (case s2 => exact fun _ => rfl))
      | ((with_reducible refine' n_range2 X ?s1 ?s2 ?s3 ?_); (case s1 => kernel_rfl); (case s2 => exact fun _ => rfl); (case s3 => exact fun _ _ => rfl))
      | (with_reducible first | refine' n_listN ?_ | refine' n_listT ?_)
      | ((with_reducible refine' snd_append ?_ ?_ ?s1 ?s2 ?s3); (case s1 => exact fun _ => rfl); (case s2 => exact fun _ => rfl); (case s3 => rfl))
      | ((with_reducible first | refine' n_len X ?s1 ?s3 ?s4 ?_ | refine' n_abs X ?s1 ?s3 ?s4 ?_ | refine' n_int X ?s1 ?s3 ?s4 ?_ | refine' n_list X ?s1 ?s3 ?s4 ?_ | refine' n_min X ?s1 ?s3 ?s4 ?_ | refine' n_max X ?s1 ?s3 ?s4 ?_ | refine' n_sum X ?s1 ?s3 ?s4 ?_); (case s1 => kernel_rfl); (case s3 => exact fun _ => rfl); (case s4 => exact fun _ _ => rfl))
      | ((with_reducible refine' n_comp ?s1 ?s2 ?s4 ?_ ?_ ?_ ?_ ?_ ?_); (case s1 => kernel_rfl); (case s2 => rfl); (case s4 => exact fun _ _ => rfl))
      | kernel_rfl)
  case bind => intro pm cd doc; refine ofLen1 ?_; intros; kernel_rfl
  case law =>
    intro vs σ P; refine hide fun Gq hGq => ?_; rintro ⟨k, n, m, ks, M, rfl, hM, hn, hP⟩; refine hGq ?_; clear hGq
    refine ⟨rfl, ?_⟩
    simp only [hM.top, wSeq, wRet, wName, wStores, wIList, wComp, Loc.set, locOf, post, List.map, Option.some.injEq, V.ref.injEq, if_true, exists_eq_left', exists_and_left]
    refine comp_of (fun i acc σ1 => σ1 = σ ++ (List.range i).map (fun r => fl m (M r)) ∧ acc = (List.range i).map fun r => V.ref (σ.length + r)) ⟨by simp, rfl⟩ ?_ ?_
    · intro acc σ1; refine hide fun Gq hGq => ?_; rintro ⟨e1, e2⟩; refine hGq ?_; clear hGq
      rw [fl_len] at e1 e2
      have hlen : σ1.length = σ.length + n := by rw [e1]; simp
      refine ⟨by rw [e1]; exact got_app hM.top, hP _ σ1.length (fun r => σ.length + r) (by rw [e1, List.append_assoc]; exact pre_app) (by exact ar519 hlen) (fun i hi => ⟨by exact ar86, by simp; exact ar520 hlen hi⟩) ⟨by rw [got_at0, e2]; rfl, fun i hi => ?_, fun i j hi hj h => by exact ar521 h, fun i hi => by exact ar522 hlen hi⟩⟩
      rw [e1, List.append_assoc, got_at, List.getElem?_append_left (by simpa using hi)]
      simp [hi]
    · intro i x acc σ1 K hx hK; refine hide fun Gq hGq => ?_; rintro ⟨rfl, rfl⟩; refine hGq ?_; clear hGq
      have hi : i < n := by
        have := (List.getElem?_eq_some_iff.mp hx).1
        rw [fl_len] at this; exact this
      rw [fl_get hi] at hx
      cases hx
      refine ⟨got_app hM.top, ?_⟩
      simp only [wStore, wCall, wTrue, compLoc, Loc.set, ofString_inj, ofString_beq, String.reduceEq, String.reduceBEq, cList, List.lookup_cons, List.cons.injEq, Option.some.injEq, V.ref.injEq, reduceCtorEq, if_true, if_false, exists_eq_left', exists_and_left, and_true, forall_const, false_implies, Bool.true_eq_false]
      refine ⟨_, got_app (hM.row i hi), ?_⟩
      refine ⟨by simp; exact ar523 hn hi, hK _ _ ⟨?_, ?_⟩⟩
      · rw [List.range_succ, List.map_append, List.append_assoc]; rfl
      · rw [List.range_succ, List.map_append]
        congr 1
        simp

noncomputable def cWhole : Con := fun vs σ P => ∃ (k n m : Nat) (ks : Nat → Nat) (M : Nat → Nat → Int), vs = [.ref k] ∧ Mx σ k n m ks (fun i j => .int (M i j)) ∧ n ≤ 100 ∧ m ≤ 100 ∧
  ∀ σ' kk ks', σ <+: σ' → σ.length ≤ kk → Mx σ' kk n m ks' (fun i j => qv (M i j : Rat)) → P (.ref kk) σ'
theorem ok_from_whole (X : Cx w H0 mg mb) : FnOk pg w H0 mg 2 (Str.ofString "from_whole") cWhole := by
  refine' fn_of X (i := 20) (k := 17) (d := 1) (C := cWhole) rfl rfl (by kernel_rfl) rfl ?snd ?bind (by kernel_rfl) rfl rfl rfl (by kernel_rfl) ?law
  case snd =>
    repeat' (first
      | (with_reducible first | exact sndB_nil | refine' sndB_cons ?_ ?_ | refine' snd_if ?_ ?_ ?_ | refine' snd_while ?_ ?_ | exact snd_no (st := Stmt.Return (some (Expr.Constant (Const.bool false) _ _)) _) | refine' snd_ret ?_ | exact snd_cont | exact snd_no (st := Stmt.Raise _ _ _) | exact sndL_nil | refine' sndA_sub ?_ ?_ | exact sndAs_nil | exact sndIfs_nil | refine' sndIfs_one ?_ | exact waF_name | exact waF_two | exact snd_int | exact snd_none | refine' snd_tup ?_ | refine' snd_lst ?_ | refine' snd_binop X.wd ?_ ?_ | refine' snd_usub ?_ | refine' snd_ifexp ?_ ?_ ?_ | refine' snd_upto ?_ ?_ | refine' sndT_and ?_ ?_ | refine' sndT_or ?_ ?_)
      | ((with_reducible first | refine' n_tgt ?s1 | refine' n_aug ?s1 ?_ | refine' n_glob X X.r0 ?s1 | refine' n_glob X X.r1 ?s1 | refine' n_name ?s1); (case s1 => kernel_rfl))
      | ((with_reducible first | refine' sndL_cons ?_ ?_ ?s1 | refine' sndAs_cons ?_ ?_ ?s1); (case s1 => exact fun _ => rfl))
      | ((with_reducible first | refine' snd_for ?_ ?_ ?_ ?s1 | refine' snd_sub ?_ ?_ ?s1); (case s1 => exact fun _ _ => rfl))
      | ((with_reducible first | refine' snd_compare ?_ ?_ ?s1 | refine' sndT_cmp ?_ ?_ ?s1); (case s1 => rfl))
      | ((with_reducible refine' n_acomp ?s1 ?s2 ?s4 ?s5 ?s6 ?_ ?_ ?_ ?_ ?_ ?_); (case s1 => kernel_rfl); (case s2 => rfl); (case s4 => exact fun _ _ => rfl); (case s5 => (intro env h; cases env; cases h; kernel_rfl)); (case s6 => decide +kernel))
      | ((with_reducible refine' snd_assign (e := Expr.Tuple (Expr.Constant _ _ _ :: Expr.Constant _ _ _ :: _) _ _) ?_ ?_ ?s1 ?s2 ?s3); (case s1 => exact fun _ => rfl); (case s2 => first | exact fun _ _ => rfl | (intro env h; cases env; cases h; kernel_rfl)); (case s3 => first | exact fun _ _ => rfl | (intro env h; cases env; cases h; kernel_rfl)))
      | ((with_reducible refine' snd_swapN (elts := Expr.Name _ _ :: _) (e := Expr.Tuple _ _ _) ?_ ?s1 ?s2 ?s3); (case s1 => kernel_rfl); (case s2 => exact fun _ _ => rfl); (case s3 => (intro env h; cases env; cases h; kernel_rfl)))
      | ((with_reducible refine' snd_assign ?_ ?_ ?s1 ?s2 ?s3); (case s1 => exact fun _ => rfl); (case s2 => first | exact fun _ _ => rfl | (intro env h; cases env; cases h; kernel_rfl)); (case s3 => first | exact fun _ _ => rfl | (intro env h; cases env; cases h; kernel_rfl)))
      | ((with_reducible refine' snd_expr ?_ ?s1 ?s2); (case s1 => (intro env h; cases env; cases h; kernel_rfl)); (case s2 => first | exact fun _ _ => rfl | (intro env h; cases env; cases h; kernel_rfl)))
      | ((with_reducible refine' sndA_tup ?_ ?s1); (case s1 => exact fun _ => ⟨rfl, rfl⟩))
      | ((with_reducible first | refine' n_range1 X ?s1 ?s2 ?_ | refine' n_enum X ?s1 ?s2 ?_); (case s1 => kernel_rfl); (case s2 => exact fun _ => rfl))
      | ((with_reducible refine' n_range2 X ?s1 ?s2 ?s3 ?_); (case s1 => kernel_rfl); (case s2 => exact fun _ => rfl); (case s3 => exact fun _ _ => rfl))
      | (with_reducible first | refine' n_listN ?_ | refine' n_listT ?_)
      | ((with_reducible refine' snd_append ?_ ?_ ?s1 ?s2 ?s3); (case s1 => exact fun _ => rfl); (case s2 => exact fun _ => rfl); (case s3 => rfl))
      | ((with_reducible first | refine' n_len X ?s1 ?s3 ?s4 ?_ | refine' n_abs X ?s1 ?s3 ?s4 ?_ | refine' n_int X ?s1 ?s3 ?s4 ?_ | refine' n_list X ?s1 ?s3 ?s4 ?_ | refine' n_min X ?s1 ?s3 ?s4 ?_ | refine' n_max X ?s1 ?s3 ?s4 ?_ | refine' n_sum X ?s1 ?s3 ?s4 ?_); (case s1 => kernel_rfl); (case s3 => exact fun _ => rfl); (case s4 => exact fun _ _ => rfl))
      | ((with_reducible refine' n_comp ?s1 ?s2 ?s4 ?_ ?_ ?_ ?_ ?_ ?_); (case s1 => kernel_rfl); (case s2 => rfl); (case s4 => exact fun _ _ => rfl))
      | kernel_rfl)
  case bind => intro pm cd doc; refine ofLen1 ?_; intros; kernel_rfl
  case law =>
    intro vs σ P; refine hide fun Gq hGq => ?_; rintro ⟨k, n, m, ks, M, rfl, hM, hn, hm, hP⟩; refine hGq ?_; clear hGq
    refine ⟨rfl, ?_⟩
    simp only [hM.top, wSeq, wRet, wName, wVal, wStores, wIList, wComp, Loc.set, locOf, post, List.map, Option.some.injEq, V.ref.injEq, if_true, exists_eq_left', exists_and_left]
    refine comp_of (fun i acc σ1 => σ1 = σ ++ (List.range i).map (fun r => fl m fun j => qv (M r j : Rat)) ∧ acc = (List.range i).map fun r => V.ref (σ.length + r)) ⟨by simp, rfl⟩ ?_ ?_
    · intro acc σ1; refine hide fun Gq hGq => ?_; rintro ⟨e1, e2⟩; refine hGq ?_; clear hGq
      rw [fl_len] at e1 e2
      have hlen : σ1.length = σ.length + n := by rw [e1]; simp
      refine ⟨by rw [e1]; exact got_app hM.top, hP _ σ1.length (fun r => σ.length + r) (by rw [e1, List.append_assoc]; exact pre_app) (by exact ar519 hlen) ⟨by rw [got_at0, e2]; rfl, fun i hi => ?_, fun i j hi hj h => by exact ar521 h, fun i hi => by exact ar522 hlen hi⟩⟩
      rw [e1, List.append_assoc, got_at, List.getElem?_append_left (by simpa using hi)]
      simp [hi]
    · intro i x acc σ1 K hx hK; refine hide fun Gq hGq => ?_; rintro ⟨rfl, rfl⟩; refine hGq ?_; clear hGq
      have hi : i < n := by
        have := (List.getElem?_eq_some_iff.mp hx).1
        rw [fl_len] at this; exact this
      rw [fl_get hi] at hx
      cases hx
      refine ⟨got_app hM.top, ?_⟩
      simp only [wStore, wName, wTrue, wIList, wComp, compLoc, Loc.set, ofString_inj, ofString_beq, String.reduceEq, String.reduceBEq, List.lookup_cons, Option.some.injEq, V.ref.injEq, reduceCtorEq, if_true, if_false, exists_eq_left', exists_and_left, and_true, forall_const, false_implies, Bool.true_eq_false]
      refine ⟨_, got_app (hM.row i hi), ?_⟩
      refine comp_map (fun j => qv (M i j : Rat)) (by rw [fl_len]; exact ar272 hm) (got_app (hM.row i hi)) ?_ ?_
      · intro j x K KF hx hK
        have hj : j < m := by
          have := (List.getElem?_eq_some_iff.mp hx).1
          rw [fl_len] at this; exact this
        rw [fl_get hj] at hx
        cases hx
        simp only [wStore, wTup, wTrue, compLoc, Loc.set, ofString_inj, ofString_beq, String.reduceEq, String.reduceBEq, List.length, List.lookup_cons, List.lookup_nil, Option.some.injEq, reduceCtorEq, if_true, if_false, exists_eq_left', and_true, true_and, Nat.reduceAdd, Nat.reduceLeDiff, forall_const, false_implies, Bool.true_eq_false]
        exact hK
      · refine ⟨by simp; exact ar523 hn hi, hK _ _ ⟨?_, ?_⟩⟩
        · rw [List.range_succ, List.map_append, List.append_assoc, fl_len]; rfl
        · rw [List.range_succ, List.map_append]
          congr 1
          simp
noncomputable def cSwap : Con := fun vs σ P => ∃ (k n m i j : Nat) (ks : Nat → Nat) (M : Nat → Nat → V), vs = [.ref k, .int i, .int j] ∧ Mx σ k n m ks M ∧ i < n ∧ j < n ∧
  ∀ σ', Only σ σ' k → Mx σ' k n m (fun x => ks (sw i j x)) (fun x => M (sw i j x)) → P .none σ'
theorem ok_swap_rows (X : Cx w H0 mg mb) : FnOk pg w H0 mg 2 (Str.ofString "swap_rows") cSwap := by
  refine' fn_of X (i := 21) (k := 18) (d := 1) (C := cSwap) rfl rfl (by kernel_rfl) rfl ?snd ?bind (by kernel_rfl) rfl rfl rfl (by kernel_rfl) ?law
  case snd =>
    repeat' (first
      | (with_reducible first | exact sndB_nil | refine' sndB_cons ?_ ?_ | refine' snd_if ?_ ?_ ?_ | refine' snd_while ?_ ?_ | exact snd_no (st := Stmt.Return (some (Expr.Constant (Const.bool false) _ _)) _) | refine' snd_ret ?_ | exact snd_cont | exact snd_no (st := Stmt.Raise _ _ _) | exact sndL_nil | refine' sndA_sub ?_ ?_ | exact sndAs_nil | exact sndIfs_nil | refine' sndIfs_one ?_ | exact waF_name | exact waF_two | exact snd_int | exact snd_none | refine' snd_tup ?_ | refine' snd_lst ?_ | refine' snd_binop X.wd ?_ ?_ | refine' snd_usub ?_ | refine' snd_ifexp ?_ ?_ ?_ | refine' snd_upto ?_ ?_ | refine' sndT_and ?_ ?_ | refine' sndT_or ?_ ?_)
      | ((with_reducible first | refine' n_tgt ?s1 | refine' n_aug ?s1 ?_ | refine' n_glob X X.r0 ?s1 | refine' n_glob X X.r1 ?s1 | refine' n_name ?s1); (case s1 => kernel_rfl))
      | ((with_reducible first | refine' sndL_cons ?_ ?_ ?s1 | refine' sndAs_cons ?_ ?_ ?s1); (case s1 => exact fun _ => rfl))
      | ((with_reducible first | refine' snd_for ?_ ?_ ?_ ?s1 | refine' snd_sub ?_ ?_ ?s1); (case s1 => exact fun _ _ => rfl))
      | ((with_reducible first | refine' snd_compare ?_ ?_ ?s1 | refine' sndT_cmp ?_ ?_ ?s1); (case s1 => rfl))
      | ((with_reducible refine' n_acomp ?s1 ?s2 ?s4 ?s5 ?s6 ?_ ?_ ?_ ?_ ?_ ?_); (case s1 => kernel_rfl); (case s2 => rfl); (case s4 => exact fun _ _ => rfl); (case s5 => (intro env h; cases env; cases h; kernel_rfl)); (case s6 => decide +kernel))
      | ((with_reducible refine' snd_assign (e := Expr.Tuple (Expr.Constant _ _ _ :: Expr.Constant _ _ _ :: _) _ _) ?_ ?_ ?s1 ?s2 ?s3); (case s1 => exact fun _ => rfl); (case s2 => first | exact fun _ _ => rfl | (intro env h; cases env; cases h; kernel_rfl)); (case s3 => first | exact fun _ _ => rfl | (intro env h; cases env; cases h; kernel_rfl)))
      | ((with_reducible refine' snd_swapN (elts := Expr.Name _ _ :: _) (e := Expr.Tuple _ _ _) ?_ ?s1 ?s2 ?s3); (case s1 => kernel_rfl); (case s2 => exact fun _ _ => rfl); (case s3 => (intro env h; cases env; cases h; kernel_rfl)))
      | ((with_reducible refine' snd_assign ?_ ?_ ?s1 ?s2 ?s3); (case s1 => exact fun _ => rfl); (case s2 => first | exact fun _ _ => rfl | (intro env h; cases env; cases h; kernel_rfl)); (case s3 => first | exact fun _ _ => rfl | (intro env h; cases env; cases h; kernel_rfl)))
      | ((with_reducible refine' snd_expr ?_ ?s1 ?s2); (case s1 => (intro env h; cases env; cases h; kernel_rfl)); (case s2 => first | exact fun _ _ => rfl | (intro env h; cases env; cases h; kernel_rfl)))
      | ((with_reducible refine' sndA_tup ?_ ?s1); (case s1 => exact fun _ => ⟨rfl, rfl⟩))
      | ((with_reducible first | refine' n_range1 X ?s1 ?s2 ?_ | refine' n_enum X ?s1 ?s2 ?_); (case s1 => kernel_rfl); (case s2 => exact fun _ => rfl))
      | ((with_reducible refine' n_range2 X ?s1 ?s2 ?s3 ?_); (case s1 => kernel_rfl); (case s2 => exact fun _ => rfl); (case s3 => exact fun _ _ => rfl))
      | (with_reducible first | refine' n_listN ?_ | refine' n_listT ?_)
      | ((with_reducible refine' snd_append ?_ ?_ ?s1 ?s2 ?s3); (case s1 => exact fun _ => rfl); (case s2 => exact fun _ => rfl); (case s3 => rfl))
      | ((with_reducible first | refine' n_len X ?s1 ?s3 ?s4 ?_ | refine' n_abs X ?s1 ?s3 ?s4 ?_ | refine' n_int X ?s1 ?s3 ?s4 ?_ | refine' n_list X ?s1 ?s3 ?s4 ?_ | refine' n_min X ?s1 ?s3 ?s4 ?_ | refine' n_max X ?s1 ?s3 ?s4 ?_ | refine' n_sum X ?s1 ?s3 ?s4 ?_); (case s1 => kernel_rfl); (case s3 => exact fun _ => rfl); (case s4 => exact fun _ _ => rfl))
      | ((with_reducible refine' n_comp ?s1 ?s2 ?s4 ?_ ?_ ?_ ?_ ?_ ?_); (case s1 => kernel_rfl); (case s2 => rfl); (case s4 => exact fun _ _ => rfl))
      | kernel_rfl)
  case bind => intro pm cd doc; refine ofLen3 ?_; intros; kernel_rfl
  case law =>
    intro vs σ P; refine hide fun Gq hGq => ?_; rintro ⟨k, n, m, i, j, ks, M, rfl, hM, hi, hj, hP⟩; refine hGq ?_; clear hGq
    refine ⟨rfl, ?_⟩
    simp only [wSeq, wNil, wAssign, wUnpack, wACons, wTup, wOp2, wName, wSub, wStores, Loc.set, locOf, post, ofString_inj, String.reduceEq, List.map, List.length, List.cons.injEq, List.nil_eq, Option.some.injEq, V.tup.injEq, if_true, if_false, exists_eq_left, exists_eq_left', exists_and_left, true_and, Nat.reduceAdd, Nat.reduceLeDiff, and_assoc]
    refine fget (j := j) hM.top rfl hj ?_
    refine fget (j := i) hM.top rfl hi ?_
    refine setitem_ref hM.top (by exact ar178) (by rw [fl_len]; exact ar454 hi) ?_
    rw [Int.toNat_natCast]
    refine setitem_ref (got_set hM.top) (by exact ar178) (by rw [List.length_set, fl_len]; exact ar454 hj) ?_
    rw [Int.toNat_natCast]
    exact hP _ ⟨by simp, fun x hx hne => by rw [List.getElem?_set_ne (Ne.symm hne), List.getElem?_set_ne (Ne.symm hne)]⟩ (hM.swap hi hj)
noncomputable def cTake : Con := fun vs σ P => ∃ (k n m w i s : Nat) (q : Rat) (ks : Nat → Nat) (M : Nat → Nat → Rat), vs = [.ref k, .int i, .int s, qv q] ∧ Mx σ k n m ks (fun i j => qv (M i j)) ∧ m ≤ 100 ∧ i < n ∧ s < n ∧ i ≠ s ∧ 1 ≤ w ∧ w ≤ 10000000 ∧ (∀ i j, i < n → j < m → Wq w (M i j)) ∧ Wq w q ∧
  ∀ σ' ks', Only σ σ' k → (∀ x, x < n → ks' x = ks x ∨ σ.length ≤ ks' x ∧ ks' x < σ'.length) → Mx σ' k n m ks' (fun x y => qv (if x = i then M i y - q * M s y else M x y)) → P .none σ'
theorem ok_take_off (X : Cx w H0 mg mb) : FnOk pg w H0 mg 5 (Str.ofString "take_off") cTake := by
  refine' fn_of X (i := 22) (k := 19) (d := 4) (C := cTake) rfl rfl (by kernel_rfl) rfl ?snd ?bind (by kernel_rfl) rfl rfl rfl (by kernel_rfl) ?law
  case snd =>
    repeat' (first
      | (with_reducible first | exact sndB_nil | refine' sndB_cons ?_ ?_ | refine' snd_if ?_ ?_ ?_ | refine' snd_while ?_ ?_ | exact snd_no (st := Stmt.Return (some (Expr.Constant (Const.bool false) _ _)) _) | refine' snd_ret ?_ | exact snd_cont | exact snd_no (st := Stmt.Raise _ _ _) | exact sndL_nil | refine' sndA_sub ?_ ?_ | exact sndAs_nil | exact sndIfs_nil | refine' sndIfs_one ?_ | exact waF_name | exact waF_two | exact snd_int | exact snd_none | refine' snd_tup ?_ | refine' snd_lst ?_ | refine' snd_binop X.wd ?_ ?_ | refine' snd_usub ?_ | refine' snd_ifexp ?_ ?_ ?_ | refine' snd_upto ?_ ?_ | refine' sndT_and ?_ ?_ | refine' sndT_or ?_ ?_)
      | ((with_reducible first | refine' n_tgt ?s1 | refine' n_aug ?s1 ?_ | refine' n_glob X X.r0 ?s1 | refine' n_glob X X.r1 ?s1 | refine' n_name ?s1); (case s1 => kernel_rfl))
      | ((with_reducible first | refine' sndL_cons ?_ ?_ ?s1 | refine' sndAs_cons ?_ ?_ ?s1); (case s1 => exact fun _ => rfl))
      | ((with_reducible first | refine' snd_for ?_ ?_ ?_ ?s1 | refine' snd_sub ?_ ?_ ?s1); (case s1 => exact fun _ _ => rfl))
      | ((with_reducible first | refine' snd_compare ?_ ?_ ?s1 | refine' sndT_cmp ?_ ?_ ?s1); (case s1 => rfl))
      | ((with_reducible refine' n_acomp ?s1 ?s2 ?s4 ?s5 ?s6 ?_ ?_ ?_ ?_ ?_ ?_); (case s1 => kernel_rfl); (case s2 => rfl); (case s4 => exact fun _ _ => rfl); (case s5 => (intro env h; cases env; cases h; kernel_rfl)); (case s6 => decide +kernel))
      | ((with_reducible refine' snd_assign (e := Expr.Tuple (Expr.Constant _ _ _ :: Expr.Constant _ _ _ :: _) _ _) ?_ ?_ ?s1 ?s2 ?s3); (case s1 => exact fun _ => rfl); (case s2 => first | exact fun _ _ => rfl | (intro env h; cases env; cases h; kernel_rfl)); (case s3 => first | exact fun _ _ => rfl | (intro env h; cases env; cases h; kernel_rfl)))
      | ((with_reducible refine' snd_swapN (elts := Expr.Name _ _ :: _) (e := Expr.Tuple _ _ _) ?_ ?s1 ?s2 ?s3); (case s1 => kernel_rfl); (case s2 => exact fun _ _ => rfl); (case s3 => (intro env h; cases env; cases h; kernel_rfl)))
      | ((with_reducible refine' snd_assign ?_ ?_ ?s1 ?s2 ?s3); (case s1 => exact fun _ => rfl); (case s2 => first | exact fun _ _ => rfl | (intro env h; cases env; cases h; kernel_rfl)); (case s3 => first | exact fun _ _ => rfl | (intro env h; cases env; cases h; kernel_rfl)))
      | ((with_reducible refine' snd_expr ?_ ?s1 ?s2); (case s1 => (intro env h; cases env; cases h; kernel_rfl)); (case s2 => first | exact fun _ _ => rfl | (intro env h; cases env; cases h; kernel_rfl)))
      | ((with_reducible refine' sndA_tup ?_ ?s1); (case s1 => exact fun _ => ⟨rfl, rfl⟩))
      | ((with_reducible first | refine' n_range1 X ?s1 ?s2 ?_ | refine' n_enum X ?s1 ?s2 ?_); (case s1 => kernel_rfl); (case s2 => exact fun _ => rfl))
      | ((with_reducible refine' n_range2 X ?s1 ?s2 ?s3 ?_); (case s1 => kernel_rfl); (case s2 => exact fun _ => rfl); (case s3 => exact fun _ _ => rfl))
      | (with_reducible first | refine' n_listN ?_ | refine' n_listT ?_)
      | ((with_reducible refine' snd_append ?_ ?_ ?s1 ?s2 ?s3); (case s1 => exact fun _ => rfl); (case s2 => exact fun _ => rfl); (case s3 => rfl))
      | ((with_reducible first | refine' n_len X ?s1 ?s3 ?s4 ?_ | refine' n_abs X ?s1 ?s3 ?s4 ?_ | refine' n_int X ?s1 ?s3 ?s4 ?_ | refine' n_list X ?s1 ?s3 ?s4 ?_ | refine' n_min X ?s1 ?s3 ?s4 ?_ | refine' n_max X ?s1 ?s3 ?s4 ?_ | refine' n_sum X ?s1 ?s3 ?s4 ?_); (case s1 => kernel_rfl); (case s3 => exact fun _ => rfl); (case s4 => exact fun _ _ => rfl))
      | ((with_reducible first | refine' n_call X (ok_rsub X) ?s1 ?s2 ?s3 ?_ | refine' n_call X (ok_rmul X) ?s1 ?s2 ?s3 ?_); (case s1 => rfl); (case s2 => kernel_rfl); (case s3 => exact fun _ => rfl))
      | ((with_reducible refine' n_comp ?s1 ?s2 ?s4 ?_ ?_ ?_ ?_ ?_ ?_); (case s1 => kernel_rfl); (case s2 => rfl); (case s4 => exact fun _ _ => rfl))
      | kernel_rfl)
  case bind => intro pm cd doc; refine ofLen4 ?_; intros; kernel_rfl
  case law =>
    intro vs σ P; refine hide fun Gq hGq => ?_; rintro ⟨k, n, m, w, i, s, q, ks, M, rfl, hM, hm, hi, hs, hne, hw, hw2, hwM, hwq, hP⟩; refine hGq ?_; clear hGq
    refine ⟨rfl, ?_⟩
    simp only [wSeq, wNil, wAssign, wOp2, wCall, wName, wSub, wStores, wIEnum, wComp, Loc.set, locOf, post, ofString_inj, String.reduceEq, List.map, List.length, List.cons.injEq, Option.some.injEq, if_true, if_false, exists_eq_left', exists_and_left, and_true, Nat.reduceAdd]
    refine fget (j := i) hM.top rfl hi ?_
    refine ⟨_, rfl, _, hM.row i hi, ?_⟩
    refine comp_map (fun y => qv (M i y - q * M s y)) (by rw [enm_len, fl_len]; exact ar272 hm) (hM.row i hi) ?_ ?_
    · intro y x K KF hx hK
      obtain ⟨z, hz, rfl⟩ := enm_get hx
      have hy : y < m := by
        have := (List.getElem?_eq_some_iff.mp hz).1
        rw [fl_len] at this; exact this
      rw [fl_get hy] at hz
      cases hz
      simp only [wStore, wUnpack, wACons, wCall, wTrue, compLoc, Loc.set, ofString_inj, ofString_beq, String.reduceEq, String.reduceBEq, List.length, List.lookup_cons, List.cons.injEq, List.nil_eq, Option.some.injEq, V.tup.injEq, reduceCtorEq, if_true, if_false, exists_eq_left, exists_eq_left', exists_and_left, and_true, true_and, Nat.reduceAdd, forall_const, false_implies, and_assoc, Bool.true_eq_false]
      refine fget (j := s) hM.top rfl hs ?_
      refine fget (j := y) (hM.row s hs) rfl hy ?_
      exact ⟨_, _, w, w, rfl, hwq, hwM s y hs hy, by exact ar524 hw2, _, _, w, w + w, rfl, hwM i y hi hy, hwq.mul (hwM s y hs hy), by exact ar525 hw2, hK⟩
    · rw [enm_len, fl_len]
      refine setitem_ref (got_app hM.top) (by exact ar178) (by rw [fl_len]; exact ar454 hi) ?_
      rw [Int.toNat_natCast]
      obtain ⟨h1, h2⟩ := hM.put (τ := [fl m fun y => qv (M i y - q * M s y)]) (kk := σ.length) (f := fun y => qv (M i y - q * M s y)) hi (Nat.le_refl _) got_at0
      refine hP _ _ h2 (fun x hx => ?_) (h1.congr fun x y hx hy => ?_)
      · by_cases e : x = i
        · simp only [e, if_true]; exact .inr ⟨Nat.le_refl _, by simp⟩
        · simp only [e, if_false]; exact .inl trivial
      · by_cases e : x = i
        · simp only [e, if_true]
        · simp only [e, if_false]


theorem rst_w {S : Nat → Nat → Rat} {t e : Nat} (h : ∀ i j, i < 3 → j < 3 → Wq e (S i j)) (ht : t < 3) (h0 : S t t ≠ 0) (i j : Nat) (hi : i < 3) (hj : j < 3) : Wq (4 * e + 1) (rst S t i j) := by
  have hd := (h t j ht hj).div (h t t ht ht) h0
  unfold rst
  split
  · exact hd.mono (by exact ar526)
  · exact ((h i j hi hj).sub ((h i t hi ht).mul hd)).mono (by exact ar527)
theorem Mx.setOff {σ : Sto} {k n m kp : Nat} {ks : Nat → Nat} {M : Nat → Nat → V} {xs : List V} (h : Mx σ k n m ks M) (h1 : kp ≠ k) (h2 : ∀ i, i < n → ks i ≠ kp) : Mx (σ.set kp xs) k n m ks M where
  top := by rw [List.getElem?_set_ne h1]; exact h.top
  row := fun i hi => by rw [List.getElem?_set_ne (Ne.symm (h2 i hi))]; exact h.row i hi
  inj := h.inj
  off := h.off
noncomputable def cEch : Con := fun vs σ P => ∃ (k L : Nat) (c : Nat → Rat) (ks : Nat → Nat) (M : Nat → Nat → Rat), vs = [.ref k] ∧ Mx σ k 3 3 ks (fun i j => qv (M i j)) ∧ L ≤ 3 ∧ Ech L c 0 M ∧ (∀ i j, i < 3 → j < 3 → Wq 8 (M i j)) ∧
  ∀ σ' kf kp xs, σ <+: σ' → σ'[kp]? = some xs → xs.length = L → P (.tup [.ref kf, .ref kp]) σ'
theorem item_ref' {xs : List V} {i : Int} {v : V} {σ : Sto} {P : PV} (h : (0 ≤ i ∧ xs[i.toNat]? = some v)) (hl : xs.length ≤ 1000) : P v σ → wItem (.tup xs) (.int i) σ P := fun hp => ⟨xs, i, v, by simp [seqOf, hl], rfl, .inl h, hp⟩
noncomputable def ew : Nat → Nat | 0 => 8 | t + 1 => 4 * ew t + 1
inductive IvEchA (σ : Sto) (kf kp L : Nat) (c : Nat → Rat) (t : Nat) (ε : Loc) (σ' : Sto) (ks : Nat → Nat) (N : Nat → Nat → Rat) (xs : List V) : Prop where
  | mk : ((∀ i, i < 3 → ks i ≠ kp ∧ σ.length ≤ ks i)) → (Mx σ' kf 3 3 ks (fun i j => qv (N i j))) → (σ'[kp]? = some xs) → (xs.length = min t L) → (Ech L c t N) → (∀ i j, i < 3 → j < 3 → Wq (ew t) (N i j)) → IvEchA σ kf kp L c t ε σ' ks N xs
inductive IvEchB (σ : Sto) (kf kp t : Nat) (xs : List V) (S : Nat → Nat → Rat) (o : Nat) (ε : Loc) (σ5 : Sto) (ks : Nat → Nat) : Prop where
  | mk : ((∀ i, i < 3 → ks i ≠ kp ∧ σ.length ≤ ks i)) → (Mx σ5 kf 3 3 ks (fun i j => qv (if i = t ∨ i < o then rst S t i j else S i j))) → IvEchB σ kf kp t xs S o ε σ5 ks
theorem ok_echelon (X : Cx w H0 mg mb) : FnOk pg w H0 mg 6 (Str.ofString "echelon") cEch := by
  refine' fn_of X (i := 23) (k := 20) (d := 5) (C := cEch) rfl rfl (by kernel_rfl) rfl ?snd ?bind (by kernel_rfl) rfl rfl rfl (by kernel_rfl) ?law
  case snd =>
    repeat' (first
      | (with_reducible first | exact sndB_nil | refine' sndB_cons ?_ ?_ | refine' snd_if ?_ ?_ ?_ | refine' snd_while ?_ ?_ | exact snd_no (st := Stmt.Return (some (Expr.Constant (Const.bool false) _ _)) _) | refine' snd_ret ?_ | exact snd_cont | exact snd_no (st := Stmt.Raise _ _ _) | exact sndL_nil | refine' sndA_sub ?_ ?_ | exact sndAs_nil | exact sndIfs_nil | refine' sndIfs_one ?_ | exact waF_name | exact waF_two | exact snd_int | exact snd_none | refine' snd_tup ?_ | refine' snd_lst ?_ | refine' snd_binop X.wd ?_ ?_ | refine' snd_usub ?_ | refine' snd_ifexp ?_ ?_ ?_ | refine' snd_upto ?_ ?_ | refine' sndT_and ?_ ?_ | refine' sndT_or ?_ ?_)
      | ((with_reducible first | refine' n_tgt ?s1 | refine' n_aug ?s1 ?_ | refine' n_glob X X.r0 ?s1 | refine' n_glob X X.r1 ?s1 | refine' n_name ?s1); (case s1 => kernel_rfl))
      | ((with_reducible first | refine' sndL_cons ?_ ?_ ?s1 | refine' sndAs_cons ?_ ?_ ?s1); (case s1 => exact fun _ => rfl))
      | ((with_reducible first | refine' snd_for ?_ ?_ ?_ ?s1 | refine' snd_sub ?_ ?_ ?s1); (case s1 => exact fun _ _ => rfl))
      | ((with_reducible first | refine' snd_compare ?_ ?_ ?s1 | refine' sndT_cmp ?_ ?_ ?s1); (case s1 => rfl))
      | ((with_reducible refine' n_acomp ?s1 ?s2 ?s4 ?s5 ?s6 ?_ ?_ ?_ ?_ ?_ ?_); (case s1 => kernel_rfl); (case s2 => rfl); (case s4 => exact fun _ _ => rfl); (case s5 => (intro env h; cases env; cases h; kernel_rfl)); (case s6 => decide +kernel))
      | ((with_reducible refine' snd_assign (e := Expr.Tuple (Expr.Constant _ _ _ :: Expr.Constant _ _ _ :: _) _ _) ?_ ?_ ?s1 ?s2 ?s3); (case s1 => exact fun _ => rfl); (case s2 => first | exact fun _ _ => rfl | (intro env h; cases env; cases h; kernel_rfl)); (case s3 => first | exact fun _ _ => rfl | (intro env h; cases env; cases h; kernel_rfl)))
      | ((with_reducible refine' snd_assign ?_ ?_ ?s1 ?s2 ?s3); (case s1 => exact fun _ => rfl); (case s2 => first | exact fun _ _ => rfl | (intro env h; cases env; cases h; kernel_rfl)); (case s3 => first | exact fun _ _ => rfl | (intro env h; cases env; cases h; kernel_rfl)))
      | ((with_reducible refine' snd_expr ?_ ?s1 ?s2); (case s1 => (intro env h; cases env; cases h; kernel_rfl)); (case s2 => first | exact fun _ _ => rfl | (intro env h; cases env; cases h; kernel_rfl)))
      | ((with_reducible refine' sndA_tup ?_ ?s1); (case s1 => exact fun _ => ⟨rfl, rfl⟩))
      | ((with_reducible first | refine' n_range1 X ?s1 ?s2 ?_ | refine' n_enum X ?s1 ?s2 ?_); (case s1 => kernel_rfl); (case s2 => exact fun _ => rfl))
      | ((with_reducible refine' n_range2 X ?s1 ?s2 ?s3 ?_); (case s1 => kernel_rfl); (case s2 => exact fun _ => rfl); (case s3 => exact fun _ _ => rfl))
      | (with_reducible first | refine' n_listN ?_ | refine' n_listT ?_)
      | ((with_reducible refine' snd_append ?_ ?_ ?s1 ?s2 ?s3); (case s1 => exact fun _ => rfl); (case s2 => exact fun _ => rfl); (case s3 => rfl))
      | ((with_reducible first | refine' n_len X ?s1 ?s3 ?s4 ?_ | refine' n_abs X ?s1 ?s3 ?s4 ?_ | refine' n_int X ?s1 ?s3 ?s4 ?_ | refine' n_list X ?s1 ?s3 ?s4 ?_ | refine' n_min X ?s1 ?s3 ?s4 ?_ | refine' n_max X ?s1 ?s3 ?s4 ?_ | refine' n_sum X ?s1 ?s3 ?s4 ?_); (case s1 => kernel_rfl); (case s3 => exact fun _ => rfl); (case s4 => exact fun _ _ => rfl))
      | ((with_reducible first | refine' n_call X (ok_copied X) ?s1 ?s2 ?s3 ?_ | refine' n_call X (ok_shape X) ?s1 ?s2 ?s3 ?_ | refine' n_call X (ok_swap_rows X) ?s1 ?s2 ?s3 ?_ | refine' n_call X (ok_rdiv X) ?s1 ?s2 ?s3 ?_ | refine' n_call X (ok_take_off X) ?s1 ?s2 ?s3 ?_); (case s1 => rfl); (case s2 => kernel_rfl); (case s3 => exact fun _ => rfl))
      | ((with_reducible refine' n_comp ?s1 ?s2 ?s4 ?_ ?_ ?_ ?_ ?_ ?_); (case s1 => kernel_rfl); (case s2 => rfl); (case s4 => exact fun _ _ => rfl))
      | kernel_rfl)
  case bind => intro pm cd doc; refine ofLen1 ?_; intros; kernel_rfl
  case law =>
    intro vs σ P; refine hide fun Gq hGq => ?_; rintro ⟨k, L, c, ks, M, rfl, hM, hL, hE, hw, hP⟩; refine hGq ?_; clear hGq
    refine ⟨rfl, ?_⟩
    refine seq_cut fun R1 hR1 => ?_
    refine cut2 hR1 fun R2 hR2 hR1 => ?_
    repeat (first | (with_reducible first | refine cutR hR1 ?_ | refine cutR hR2 ?_ | refine cutR hB1 ?_ | refine cutR hB2 ?_ | refine cutR hB3 ?_ | refine cutR hB4 ?_ | refine cutR hB5 ?_ | refine cutR hB6 ?_ | refine cutR hB7 ?_) | simp only [wSeq, wAssign, wStore, wUnpack, wACons, wTup, wLst, wCall, wName, wStores, Loc.set, locOf, List.map, List.length, List.cons.injEq, List.nil_eq, Option.some.injEq, V.tup.injEq, if_true, exists_eq_left, exists_eq_left', exists_and_left, true_and, Nat.reduceAdd, Nat.reduceLeDiff, and_assoc])
    refine ⟨k, 3, 3, ks, _, rfl, hM, by decide, fun σ1 kf ks1 hp1 hkf hks1 hM1 => ?_⟩
    repeat (first | (with_reducible first | refine cutR hR1 ?_ | refine cutR hR2 ?_ | refine cutR hB1 ?_ | refine cutR hB2 ?_ | refine cutR hB3 ?_ | refine cutR hB4 ?_ | refine cutR hB5 ?_ | refine cutR hB6 ?_ | refine cutR hB7 ?_) | simp only [wSeq, wOp2, wCall, wName, wVal, wIRange1, wFor, Loc.set, post, qv0, ofString_inj, String.reduceEq, cLen, List.cons.injEq, Option.some.injEq, if_true, if_false, exists_eq_left', exists_and_left, and_true, Int.reduceNeg])
    refine ⟨k, 3, 3, ks, _, rfl, (hM.mv hp1).mv pre_app, by decide, ?_⟩
    dsimp only
    refine item_ref' (v := .int 3) ⟨by decide, rfl⟩ (by decide) ?_
    refine ⟨_, rfl, by decide, by decide, ?_⟩
    show forL _ _ _ (rng 0 3) _ _ _
    have hkp : kf < σ1.length := got_lt hM1.top
    have hl1 := hp1.length_le
    generalize hkpe : σ1.length = kp at *
    refine for_cut fun B1 hB1 => ?_
    refine cut2 hB1 fun B2 hB2 hB1 => ?_
    refine cut2 hB2 fun B3 hB3 hB2 => ?_
    refine cut2 hB3 fun B4 hB4 hB3 => ?_
    refine cut2 hB4 fun B5 hB5 hB4 => ?_
    refine cut2 hB5 fun B6 hB6 hB5 => ?_
    refine cut2 hB6 fun B7 hB7 hB6 => ?_
    refine for_of (fun t ε σ' => σ <+: σ' ∧ t ≤ 3 ∧ ε (Str.ofString "found") = some (.ref kf) ∧ ε (Str.ofString "pivots") = some (.ref kp) ∧ ∃ (ks : Nat → Nat) (N : Nat → Nat → Rat) (xs : List V), IvEchA σ kf kp L c t ε σ' ks N xs) ?_ ?_ ?_
    · exact ⟨List.IsPrefix.trans hp1 pre_app, by decide, by kernel_rfl, by kernel_rfl, ks1, M, [], fun i hi => ⟨by have := hks1 i hi; exact ar528 this, (hks1 i hi).1⟩, hM1.mv pre_app, by rw [← hkpe]; exact got_at0, by simp, hE, hw⟩
    · intro ε σ'; refine hide fun Gq hGq => ?_; rintro ⟨h0, _, h1, h2, ks2, N, xs, _, _, h5, h6, _⟩; refine hGq ?_; clear hGq
      refine ⟨trivial, ?_⟩
      repeat (first | (with_reducible first | refine cutR hR1 ?_ | refine cutR hR2 ?_ | refine cutR hB1 ?_ | refine cutR hB2 ?_ | refine cutR hB3 ?_ | refine cutR hB4 ?_ | refine cutR hB5 ?_ | refine cutR hB6 ?_ | refine cutR hB7 ?_) | simp only [wSeq, wRet, wTup, wName, post, List.length, true_and, Nat.reduceAdd, Nat.reduceLeDiff])
      exact ⟨_, h1, _, h2, hP σ' kf kp xs h0 h5 (by rw [h6]; show min 3 L = L; exact ar529 hL)⟩
    · intro t x ε σ' K hx hK; refine hide fun Gq hGq => ?_; rintro ⟨h0, _, h1, h2, ks2, N, xs, h3, h4, h5, h6, h7, h8⟩; refine hGq ?_; clear hGq
      obtain ⟨rfl, ht⟩ := rng_get hx
      refine ⟨trivial, ?_⟩
      have hew : ew t ≤ 1000 ∧ 1 ≤ ew t := by
        have : ∀ t, t < 3 → ew t ≤ 1000 ∧ 1 ≤ ew t := by decide
        exact this t ht
      repeat (first | (with_reducible first | refine cutR hR1 ?_ | refine cutR hR2 ?_ | refine cutR hB1 ?_ | refine cutR hB2 ?_ | refine cutR hB3 ?_ | refine cutR hB4 ?_ | refine cutR hB5 ?_ | refine cutR hB6 ?_ | refine cutR hB7 ?_) | simp only [h1, h2, h4.top, h5, wSeq, wAssign, wStore, wCall, wIRange2, wCompS, Loc.set, ofString_inj, String.reduceEq, cLen, List.cons.injEq, Option.some.injEq, V.int.injEq, V.ref.injEq, if_true, if_false, exists_eq_left', exists_and_left, and_true, Int.reduceNeg, and_assoc])
      rw [fl_len, h6]
      refine ⟨by exact ar530, by exact ar531 ht, by decide, by decide, ?_⟩
      rw [show (0 : Int) + t = t by exact ar227, show (((3 : Nat) : Int) - (min t L : Nat)).toNat = 3 - min t L by exact ar532]
      refine comp_of (fun i acc σ2 => σ2 = σ' ∧ (∃ L0 : List Nat, acc = L0.map (fun n => V.int (n : Nat)) ∧ L0.length ≤ i ∧ ∀ x ∈ L0, min t L ≤ x ∧ x < 3 ∧ N x t ≠ 0) ∧ ∀ x, min t L ≤ x → x < min t L + i → N x t ≠ 0 → acc ≠ []) ⟨rfl, ⟨[], rfl, by simp, fun x hx => by simp at hx⟩, fun x h1 h2 => by exact (ar533 h1 h2).elim⟩ ?_ ?_
      · intro acc σ2; refine hide fun Gq hGq => ?_; rintro ⟨rfl, ⟨L0, rfl, hLl, hL0⟩, hacc⟩; refine hGq ?_; clear hGq
        refine ⟨trivial, ?_⟩
        rw [rng_len] at hacc
        repeat (first | (with_reducible first | refine cutR hR1 ?_ | refine cutR hR2 ?_ | refine cutR hB1 ?_ | refine cutR hB2 ?_ | refine cutR hB3 ?_ | refine cutR hB4 ?_ | refine cutR hB5 ?_ | refine cutR hB6 ?_ | refine cutR hB7 ?_) | simp only [wSeq, wNil, wIf, wCont, wCall, wVal, wTest, Loc.set, eq_ints, ofString_inj, String.reduceEq, cLen, List.cons.injEq, Option.some.injEq, V.ref.injEq, V.bool.injEq, if_true, if_false, exists_eq_left', exists_and_left, and_true, decide_eq_true_eq, decide_eq_false_iff_not])
        refine ⟨_, got_at0, fun hz => ?_, fun hz => ?_⟩
        · have hnil : L0.map (fun n => V.int (n : Nat)) = [] := List.length_eq_zero_iff.mp (by exact ar165 hz)
          have htL : L ≤ t := by
            refine Decidable.byContradiction fun hc => ?_
            obtain ⟨i, i1, i2, i3⟩ := h7.some (by exact ar21 hc) hL
            exact hacc i (by exact ar534 i1) (by exact ar535 i2) i3 hnil
          exact hK _ _ ⟨List.IsPrefix.trans h0 pre_app, by exact ar536 ht, (Eq.trans (by kernel_rfl) h1), (Eq.trans (by kernel_rfl) h2), ks2, N, xs, h3, h4.mv pre_app, got_app h5, by exact ar537 h6 htL, h7.over htL, fun i j hi hj => (h8 i j hi hj).mono (show ew t ≤ 4 * ew t + 1 by exact ar538)⟩
        · match L0, hL0, hz with
          | [], _, hz => exact absurd rfl hz
          | p :: L1, hL0, _ =>
          obtain ⟨hp1', hp2', hp3'⟩ := hL0 p (by simp)
          have htL : t < L := by
            refine Decidable.byContradiction fun hc => hp3' ?_
            exact h7.none (by exact ar15 hc) p (by exact ar539 hp1' hc) hp2' t (by exact ar15 hc) ht
          have hmin : min t L = t := by exact ar540 htL
          rw [hmin] at hp1' h6 ⊢
          repeat (first | (with_reducible first | refine cutR hR1 ?_ | refine cutR hR2 ?_ | refine cutR hB1 ?_ | refine cutR hB2 ?_ | refine cutR hB3 ?_ | refine cutR hB4 ?_ | refine cutR hB5 ?_ | refine cutR hB6 ?_ | refine cutR hB7 ?_) | simp only [h1, wSeq, wExpr, wCall, Loc.set, ofString_inj, String.reduceEq, List.map, Option.some.injEq, if_true, if_false, exists_eq_left'])
          refine item_ref got_at0 (by decide) (v := .int p) rfl ?_
          refine ⟨kf, 3, 3, t, p, ks2, _, rfl, h4.mv pre_app, ht, hp2', fun σ3 ho3 hM3 => ?_⟩
          have hS := h7.swap hp1' hp2' htL
          have hS0 : (fun x => N (sw t p x)) t t ≠ 0 := by
            have e : sw t p t = p := by simp [sw]
            show N (sw t p t) t ≠ 0
            rw [e]; exact hp3'
          have hSw : ∀ i j, i < 3 → j < 3 → Wq (ew t) ((fun x => N (sw t p x)) i j) := fun i j hi hj => h8 _ j (sw_lt ht hp2' hi) hj
          have hks3 : ∀ i, i < 3 → (fun x => ks2 (sw t p x)) i ≠ kp ∧ σ.length ≤ (fun x => ks2 (sw t p x)) i := fun i hi => h3 _ (sw_lt ht hp2' hi)
          have hM3 : Mx σ3 kf 3 3 (fun x => ks2 (sw t p x)) (fun i j => qv ((fun x => N (sw t p x)) i j)) := hM3
          have hpre3 : σ <+: σ3 := ho3.pre (List.IsPrefix.trans h0 pre_app) hkf
          have h53 : σ3[kp]? = some xs := ho3.got (got_app h5) (by exact ar541 hkp)
          generalize (fun x => N (sw t p x)) = S at hS hS0 hSw hM3
          generalize (fun x => ks2 (sw t p x)) = ks3 at hks3 hM3
          repeat (first | (with_reducible first | refine cutR hR1 ?_ | refine cutR hR2 ?_ | refine cutR hB1 ?_ | refine cutR hB2 ?_ | refine cutR hB3 ?_ | refine cutR hB4 ?_ | refine cutR hB5 ?_ | refine cutR hB6 ?_ | refine cutR hB7 ?_) | simp only [h1, wSeq, wAssign, wStore, wOp2, wName, Loc.set, ofString_inj, String.reduceEq, Option.some.injEq, if_true, if_false, exists_eq_left'])
          refine fget (j := t) hM3.top rfl ht ?_
          refine fget (j := t) (hM3.row t ht) rfl ht ?_
          repeat (first | (with_reducible first | refine cutR hR1 ?_ | refine cutR hR2 ?_ | refine cutR hB1 ?_ | refine cutR hB2 ?_ | refine cutR hB3 ?_ | refine cutR hB4 ?_ | refine cutR hB5 ?_ | refine cutR hB6 ?_ | refine cutR hB7 ?_) | simp only [h1, wSeq, wAssign, wOp2, wName, wSub, wIList, wComp, Loc.set, ofString_inj, String.reduceEq, Option.some.injEq, if_true, if_false, exists_eq_left', exists_and_left])
          refine fget (j := t) hM3.top rfl ht ?_
          refine ⟨_, rfl, _, hM3.row t ht, ?_⟩
          refine comp_map (fun y => qv (S t y / S t t)) (by rw [fl_len]; exact ar542) (hM3.row t ht) ?_ ?_
          · intro y x K3 KF hx hK3
            have hy : y < 3 := by
              have := (List.getElem?_eq_some_iff.mp hx).1
              rw [fl_len] at this; exact this
            rw [fl_get hy] at hx
            cases hx
            repeat (first | (with_reducible first | refine cutR hR1 ?_ | refine cutR hR2 ?_ | refine cutR hB1 ?_ | refine cutR hB2 ?_ | refine cutR hB3 ?_ | refine cutR hB4 ?_ | refine cutR hB5 ?_ | refine cutR hB6 ?_ | refine cutR hB7 ?_) | simp only [wStore, wCall, wTrue, compLoc, Loc.set, ofString_inj, ofString_beq, String.reduceEq, String.reduceBEq, List.lookup_cons, Option.some.injEq, reduceCtorEq, if_true, if_false, exists_eq_left', and_true, forall_const, false_implies, Bool.true_eq_false])
            exact ⟨_, _, _, _, rfl, hSw t y ht hy, hSw t t ht ht, by exact ar543 hew, hS0, hK3⟩
          · rw [fl_len]
            show wSetItem _ _ _ (σ3 ++ [fl 3 fun y => qv (S t y / S t t)]) _
            refine setitem_ref (got_app hM3.top) (by exact ar178) (by rw [fl_len]; exact ar544 ht) ?_
            rw [Int.toNat_natCast]
            obtain ⟨hM4, ho4⟩ := hM3.put (τ := [fl 3 fun y => qv (S t y / S t t)]) (kk := σ3.length) (f := fun y => qv (S t y / S t t)) ht (Nat.le_refl _) got_at0
            have hl3 := got_lt h53
            have hpre4 := ho4.pre hpre3 hkf
            have h54 := ho4.got h53 (by exact ar541 hkp)
            have hl4 := ho4.1
            have hks4 : ∀ i, i < 3 → (fun x => if x = t then σ3.length else ks3 x) i ≠ kp ∧ σ.length ≤ (fun x => if x = t then σ3.length else ks3 x) i := fun i hi => by
              have := hks3 i hi
              have := hpre3.length_le
              by_cases e : i = t
              · simp only [e, if_true]; exact ar545 hl3 this
              · simp only [e, if_false]; exact ar546 (by assumption)
            repeat (first | (with_reducible first | refine cutR hR1 ?_ | refine cutR hR2 ?_ | refine cutR hB1 ?_ | refine cutR hB2 ?_ | refine cutR hB3 ?_ | refine cutR hB4 ?_ | refine cutR hB5 ?_ | refine cutR hB6 ?_ | refine cutR hB7 ?_) | simp only [h1, wSeq, wIRange1, wFor, Loc.set, ofString_inj, String.reduceEq, List.cons.injEq, Option.some.injEq, V.int.injEq, V.ref.injEq, if_false, exists_eq_left', and_true, Int.reduceNeg])
            show ∃ x, ((σ3 ++ [fl 3 fun y => qv (S t y / S t t)]).set kf ((fl 3 fun x => V.ref (ks3 x)).set t (.ref σ3.length)))[kf]? = some x ∧ _
            generalize (σ3 ++ [fl 3 fun y => qv (S t y / S t t)]).set kf ((fl 3 fun x => V.ref (ks3 x)).set t (.ref σ3.length)) = σ4 at hM4 hpre4 h54 hl4 ⊢
            refine ⟨_, hM4.top, by rw [fl_len]; decide, by rw [fl_len]; decide, ?_⟩
            rw [fl_len]
            show forL _ _ _ (rng 0 3) _ _ _
            refine for_of (fun o ε σ5 => σ <+: σ5 ∧ o ≤ 3 ∧ ε (Str.ofString "found") = some (.ref kf) ∧ ε (Str.ofString "pivots") = some (.ref kp) ∧ ε (Str.ofString "column") = some (.int t) ∧ ε (Str.ofString "row") = some (.int t) ∧ σ5[kp]? = some xs ∧ ∃ (ks : Nat → Nat), IvEchB σ kf kp t xs S o ε σ5 ks) ?_ ?_ ?_
            · refine ⟨hpre4, by decide, (Eq.trans (by kernel_rfl) h1), (Eq.trans (by kernel_rfl) h2), by kernel_rfl, by kernel_rfl, h54, _, hks4, hM4.congr fun i j hi hj => ?_⟩
              by_cases e : i = t
              · simp [e, rst]
              · simp [e]
            · intro ε5 σ5; refine hide fun Gq hGq => ?_; rintro ⟨g0, _, g1, g2, g3, g4, g5, ks5, g6, g7⟩; refine hGq ?_; clear hGq
              refine ⟨trivial, ?_⟩
              repeat (first | (with_reducible first | refine cutR hR1 ?_ | refine cutR hR2 ?_ | refine cutR hB1 ?_ | refine cutR hB2 ?_ | refine cutR hB3 ?_ | refine cutR hB4 ?_ | refine cutR hB5 ?_ | refine cutR hB6 ?_ | refine cutR hB7 ?_) | simp only [g2, g3, g5, wSeq, wNil, wExpr, wName, wApp, Option.some.injEq, V.ref.injEq, exists_eq_left'])
              refine ⟨by exact ar547 h6 ht, hK _ _ ⟨pre_set g0 hl1, by exact ar536 ht, g1, g2, ks5, rst S t, _, g6, (g7.setOff (by exact ar541 hkp) fun i hi => (g6 i hi).1).congr fun i j hi hj => ?_, got_set g5, by simp; exact ar548 h6 htL, hS.step htL hL hS0, rst_w hSw ht hS0⟩⟩
              rw [if_pos (.inr (by rw [rng_len]; exact hi))]
            · intro o x ε5 σ5 K5 hx5 hK5; refine hide fun Gq hGq => ?_; rintro ⟨g0, _, g1, g2, g3, g4, g5, ks5, g6, g7⟩; refine hGq ?_; clear hGq
              obtain ⟨rfl, ho⟩ := rng_get hx5
              refine ⟨trivial, ?_⟩
              rw [show (0 : Int) + o = o by exact ar227]
              repeat (first | (with_reducible first | refine cutR hR1 ?_ | refine cutR hR2 ?_ | refine cutR hB1 ?_ | refine cutR hB2 ?_ | refine cutR hB3 ?_ | refine cutR hB4 ?_ | refine cutR hB5 ?_ | refine cutR hB6 ?_ | refine cutR hB7 ?_) | simp only [g1, g3, g4, wSeq, wNil, wStore, wIf, wExpr, wOp2, wCall, wName, wVal, wTest, wAnd, Loc.set, ne_ints, ofString_inj, String.reduceEq, Option.some.injEq, V.bool.injEq, if_true, if_false, exists_eq_left', true_and, forall_const, false_implies, decide_eq_true_eq, decide_eq_false_iff_not, Bool.not_eq_true', Bool.not_eq_false', Bool.false_eq_true])
              have f1 : (ε5.set (Str.ofString "other") (.int o)) (Str.ofString "found") = some (.ref kf) := (Eq.trans (by kernel_rfl) g1)
              have f2 : (ε5.set (Str.ofString "other") (.int o)) (Str.ofString "pivots") = some (.ref kp) := (Eq.trans (by kernel_rfl) g2)
              have f3 : (ε5.set (Str.ofString "other") (.int o)) (Str.ofString "column") = some (.int t) := (Eq.trans (by kernel_rfl) g3)
              have f4 : (ε5.set (Str.ofString "other") (.int o)) (Str.ofString "row") = some (.int t) := (Eq.trans (by kernel_rfl) g4)
              refine ⟨fun he => ?_, fun hne => ?_⟩
              · have he : o = t := by exact ar511 he
                refine hK5 _ _ ⟨g0, by exact ar536 ho, f1, f2, f3, f4, g5, ks5, g6, g7.congr fun i j hi hj => ?_⟩
                by_cases e : i = t ∨ i < o
                · rw [if_pos e, if_pos (by exact ar549 e)]
                · rw [if_neg e, if_neg (by exact ar550 (by assumption) e)]
              · have hne : ¬ o = t := by exact ar551 hne
                refine fget (j := o) g7.top rfl ho ?_
                refine fget (j := t) (g7.row o ho) rfl ht ?_
                rw [if_neg (by exact ar552 hne)]
                repeat (first | (with_reducible first | refine cutR hR1 ?_ | refine cutR hR2 ?_ | refine cutR hB1 ?_ | refine cutR hB2 ?_ | refine cutR hB3 ?_ | refine cutR hB4 ?_ | refine cutR hB5 ?_ | refine cutR hB6 ?_ | refine cutR hB7 ?_) | simp only [ne_q, V.bool.injEq, exists_eq_left', decide_eq_true_eq, decide_eq_false_iff_not, Bool.not_eq_true', Bool.not_eq_false'])
                refine ⟨fun hn => ?_, fun hn => ?_⟩
                · refine fget (j := o) g7.top rfl ho ?_
                  refine fget (j := t) (g7.row o ho) rfl ht ?_
                  rw [if_neg (by omega)]
                  refine ⟨kf, 3, 3, 4 * ew t + 1, o, t, S o t, ks5, _, rfl, g7, by decide, ho, ht, hne, by exact ar553, by exact ar554 hew, fun i j hi hj => ?_, (hSw o t ho ht).mono (by exact ar538), fun σ6 ks6 q1 q2 q3 => ?_⟩
                  · split
                    · exact rst_w hSw ht hS0 i j hi hj
                    · exact (hSw i j hi hj).mono (by exact ar538)
                  · have hl5 := got_lt g5
                    have hl0 := g0.length_le
                    refine hK5 _ _ ⟨q1.pre g0 hkf, by exact ar536 ho, f1, f2, f3, f4, q1.got g5 (by exact ar541 hkp), ks6, fun i hi => ?_, q3.congr fun i j hi hj => ?_⟩
                    · have := g6 i hi
                      rcases q2 i hi with h | ⟨h, _⟩
                      · rw [h]; exact this
                      · exact ar555 hkf hkp hl5 h
                    · congr 1
                      by_cases e : i = o
                      · subst e
                        rw [if_pos rfl, if_neg (by exact ar552 hne), if_pos (.inl rfl), if_pos (by exact ar556)]
                        simp only [rst, if_neg hne, if_true]
                      · rw [if_neg e]
                        by_cases e2 : i = t ∨ i < o
                        · rw [if_pos e2, if_pos (by exact ar549 e2)]
                        · rw [if_neg e2, if_neg (by exact ar557 e e2)]
                · refine hK5 _ _ ⟨g0, by exact ar536 ho, f1, f2, f3, f4, g5, ks5, g6, g7.congr fun i j hi hj => ?_⟩
                  congr 1
                  by_cases e : i = o
                  · subst e
                    rw [if_neg (by exact ar552 hne), if_pos (by exact ar556)]
                    simp only [rst, if_neg hne]
                    rw [hn]; grind
                  · by_cases e2 : i = t ∨ i < o
                    · rw [if_pos e2, if_pos (by exact ar549 e2)]
                    · rw [if_neg e2, if_neg (by exact ar557 e e2)]
      · intro i x acc σ2 K2 hx2 hK2; refine hide fun Gq hGq => ?_; rintro ⟨rfl, ⟨L0, rfl, hLl, hL0⟩, hacc⟩; refine hGq ?_; clear hGq
        obtain ⟨rfl, hi⟩ := rng_get hx2
        refine ⟨trivial, ?_⟩
        have hi3 : min t L + i < 3 := by exact ar558 hi
        repeat (first | (with_reducible first | refine cutR hR1 ?_ | refine cutR hR2 ?_ | refine cutR hB1 ?_ | refine cutR hB2 ?_ | refine cutR hB3 ?_ | refine cutR hB4 ?_ | refine cutR hB5 ?_ | refine cutR hB6 ?_ | refine cutR hB7 ?_) | simp only [h1, wStore, wOp2, wName, wVal, wTest, compLoc, Loc.set, ofString_inj, ofString_beq, String.reduceEq, String.reduceBEq, List.lookup_cons, Option.some.injEq, reduceCtorEq, if_true, if_false, exists_eq_left'])
        refine fget (i := ((min t L : Nat) : Int) + (i : Int)) (j := min t L + i) h4.top (by exact ar559) hi3 ?_
        refine fget (j := t) (h4.row _ hi3) rfl ht ?_
        repeat (first | (with_reducible first | refine cutR hR1 ?_ | refine cutR hR2 ?_ | refine cutR hB1 ?_ | refine cutR hB2 ?_ | refine cutR hB3 ?_ | refine cutR hB4 ?_ | refine cutR hB5 ?_ | refine cutR hB6 ?_ | refine cutR hB7 ?_) | simp only [ne_q, V.bool.injEq, exists_eq_left', decide_eq_true_eq, decide_eq_false_iff_not, Bool.not_eq_true', Bool.not_eq_false'])
        refine ⟨fun hn => ⟨?_, hK2 _ _ ⟨rfl, ⟨L0 ++ [min t L + i], by simp, by simp; exact ar267 hLl, fun x hx => ?_⟩, fun x _ _ _ => by simp⟩⟩, fun hn => hK2 _ _ ⟨rfl, ⟨L0, rfl, by exact ar560 hLl, hL0⟩, fun x x1 x2 x3 => ?_⟩⟩
        · simp; exact ar561 hLl hi3
        · rcases List.mem_append.mp hx with h | h
          · exact hL0 x h
          · simp at h; subst h; exact ⟨by exact ar562, hi3, hn⟩
        · by_cases e : x = min t L + i
          · subst e; exact absurd hn x3
          · exact hacc x x1 (by exact ar563 x2 e) x3
end Mine

namespace Mine
open PySem PySem.W PyProof.Rows
set_option linter.unusedVariables false
set_option linter.unusedSimpArgs false
set_option maxRecDepth 100000
set_option maxHeartbeats 4000000
open PySem.Calls
variable {w : World} {H0 : Heap} {mg mb : Str → Option Value}


noncomputable def cRank : Con := fun vs σ P => ∃ (k L : Nat) (c : Nat → Rat) (ks : Nat → Nat) (M : Nat → Nat → Rat), vs = [.ref k] ∧ Mx σ k 3 3 ks (fun i j => qv (M i j)) ∧ L ≤ 3 ∧ Ech L c 0 M ∧ (∀ i j, i < 3 → j < 3 → Wq 8 (M i j)) ∧
  ∀ σ', σ <+: σ' → P (.int L) σ'
theorem ok_rank (X : Cx w H0 mg mb) : FnOk pg w H0 mg 7 (Str.ofString "rank") cRank := by
  refine' fn_of X (i := 24) (k := 21) (d := 6) (C := cRank) rfl rfl (by kernel_rfl) rfl ?snd ?bind (by kernel_rfl) rfl rfl rfl (by kernel_rfl) ?law
  case snd =>
    repeat' (first
      | (with_reducible first | exact sndB_nil | refine' sndB_cons ?_ ?_ | refine' snd_if ?_ ?_ ?_ | refine' snd_while ?_ ?_ | exact snd_no (st := Stmt.Return (some (Expr.Constant (Const.bool false) _ _)) _) | refine' snd_ret ?_ | exact snd_cont | exact snd_no (st := Stmt.Raise _ _ _) | exact sndL_nil | refine' sndA_sub ?_ ?_ | exact sndAs_nil | exact sndIfs_nil | refine' sndIfs_one ?_ | exact waF_name | exact waF_two | exact snd_int | exact snd_none | refine' snd_tup ?_ | refine' snd_lst ?_ | refine' snd_binop X.wd ?_ ?_ | refine' snd_usub ?_ | refine' snd_ifexp ?_ ?_ ?_ | refine' snd_upto ?_ ?_ | refine' sndT_and ?_ ?_ | refine' sndT_or ?_ ?_)
      | ((with_reducible first | refine' n_tgt ?s1 | refine' n_aug ?s1 ?_ | refine' n_glob X X.r0 ?s1 | refine' n_glob X X.r1 ?s1 | refine' n_name ?s1); (case s1 => kernel_rfl))
      | ((with_reducible first | refine' sndL_cons ?_ ?_ ?s1 | refine' sndAs_cons ?_ ?_ ?s1); (case s1 => exact fun _ => rfl))
      | ((with_reducible first | refine' snd_for ?_ ?_ ?_ ?s1 | refine' snd_sub ?_ ?_ ?s1); (case s1 => exact fun _ _ => rfl))
      | ((with_reducible first | refine' snd_compare ?_ ?_ ?s1 | refine' sndT_cmp ?_ ?_ ?s1); (case s1 => rfl))
      | ((with_reducible refine' n_acomp ?s1 ?s2 ?s4 ?s5 ?s6 ?_ ?_ ?_ ?_ ?_ ?_); (case s1 => kernel_rfl); (case s2 => rfl); (case s4 => exact fun _ _ => rfl); (case s5 => (intro env h; cases env; cases h; kernel_rfl)); (case s6 => decide +kernel))
      | ((with_reducible refine' snd_assign (e := Expr.Tuple (Expr.Constant _ _ _ :: Expr.Constant _ _ _ :: _) _ _) ?_ ?_ ?s1 ?s2 ?s3); (case s1 => exact fun _ => rfl); (case s2 => first | exact fun _ _ => rfl | (intro env h; cases env; cases h; kernel_rfl)); (case s3 => first | exact fun _ _ => rfl | (intro env h; cases env; cases h; kernel_rfl)))
      | ((with_reducible refine' snd_swapN (elts := Expr.Name _ _ :: _) (e := Expr.Tuple _ _ _) ?_ ?s1 ?s2 ?s3); (case s1 => kernel_rfl); (case s2 => exact fun _ _ => rfl); (case s3 => (intro env h; cases env; cases h; kernel_rfl)))
      | ((with_reducible refine' snd_assign ?_ ?_ ?s1 ?s2 ?s3); (case s1 => exact fun _ => rfl); (case s2 => first | exact fun _ _ => rfl | (intro env h; cases env; cases h; kernel_rfl)); (case s3 => first | exact fun _ _ => rfl | (intro env h; cases env; cases h; kernel_rfl)))
      | ((with_reducible refine' snd_expr ?_ ?s1 ?s2); (case s1 => (intro env h; cases env; cases h; kernel_rfl)); (case s2 => first | exact fun _ _ => rfl | (intro env h; cases env; cases h; kernel_rfl)))
      | ((with_reducible refine' sndA_tup ?_ ?s1); (case s1 => exact fun _ => ⟨rfl, rfl⟩))
      | ((with_reducible first | refine' n_range1 X ?s1 ?s2 ?_ | refine' n_enum X ?s1 ?s2 ?_); (case s1 => kernel_rfl); (case s2 => exact fun _ => rfl))
      | ((with_reducible refine' n_range2 X ?s1 ?s2 ?s3 ?_); (case s1 => kernel_rfl); (case s2 => exact fun _ => rfl); (case s3 => exact fun _ _ => rfl))
      | (with_reducible first | refine' n_listN ?_ | refine' n_listT ?_)
      | ((with_reducible refine' snd_append ?_ ?_ ?s1 ?s2 ?s3); (case s1 => exact fun _ => rfl); (case s2 => exact fun _ => rfl); (case s3 => rfl))
      | ((with_reducible first | refine' n_len X ?s1 ?s3 ?s4 ?_ | refine' n_abs X ?s1 ?s3 ?s4 ?_ | refine' n_int X ?s1 ?s3 ?s4 ?_ | refine' n_list X ?s1 ?s3 ?s4 ?_ | refine' n_min X ?s1 ?s3 ?s4 ?_ | refine' n_max X ?s1 ?s3 ?s4 ?_ | refine' n_sum X ?s1 ?s3 ?s4 ?_); (case s1 => kernel_rfl); (case s3 => exact fun _ => rfl); (case s4 => exact fun _ _ => rfl))
      | ((with_reducible first | refine' n_call X (ok_echelon X) ?s1 ?s2 ?s3 ?_); (case s1 => rfl); (case s2 => kernel_rfl); (case s3 => exact fun _ => rfl))
      | ((with_reducible refine' n_comp ?s1 ?s2 ?s4 ?_ ?_ ?_ ?_ ?_ ?_); (case s1 => kernel_rfl); (case s2 => rfl); (case s4 => exact fun _ _ => rfl))
      | kernel_rfl)
  case bind => intro pm cd doc; refine ofLen1 ?_; intros; kernel_rfl
  case law =>
    intro vs σ P; refine hide fun Gq hGq => ?_; rintro ⟨k, L, c, ks, M, rfl, hM, hL, hE, hw, hP⟩; refine hGq ?_; clear hGq
    refine ⟨rfl, ?_⟩
    simp only [wSeq, wRet, wOp2, wCall, wName, wVal, wStores, Loc.set, locOf, post, cLen, List.map, List.cons.injEq, Option.some.injEq, if_true, exists_eq_left', exists_and_left, and_true]
    refine ⟨k, L, c, ks, M, rfl, hM, hL, hE, hw, fun σ' kf kp xs h1 h2 h3 => ?_⟩
    refine item_ref' (v := .ref kp) ⟨by decide, rfl⟩ (by simp) ?_
    refine ⟨_, rfl, _, h2, ?_⟩
    rw [h3]
    exact hP σ' h1
noncomputable def cDraw : Con := fun vs σ P => ∃ (k j l n : Nat) (cells : List Int), vs = [.ref k, .int n] ∧ σ[k]? = some [.ref j, .int l] ∧ σ[j]? = some (cells.map V.int) ∧ j ≠ k ∧ 0 < n ∧ l ≤ 100 ∧
  ∀ x : Nat, x < n → P (.int x) (σ.set k [.ref j, .int (l + 1 : Nat)])
theorem ok__law_draw (X : Cx w H0 mg mb) : FnOk pg w H0 mg 2 (Str.ofString "_law_draw") cDraw := by
  refine' fn_of X (i := 36) (k := 33) (d := 1) (C := cDraw) rfl rfl (by kernel_rfl) rfl ?snd ?bind (by kernel_rfl) rfl rfl rfl (by kernel_rfl) ?law
  case snd =>
    repeat' (first
      | (with_reducible first | exact sndB_nil | refine' sndB_cons ?_ ?_ | refine' snd_if ?_ ?_ ?_ | refine' snd_while ?_ ?_ | exact snd_no (st := Stmt.Return (some (Expr.Constant (Const.bool false) _ _)) _) | refine' snd_ret ?_ | exact snd_cont | exact snd_no (st := Stmt.Raise _ _ _) | exact sndL_nil | refine' sndA_sub ?_ ?_ | exact sndAs_nil | exact sndIfs_nil | refine' sndIfs_one ?_ | exact waF_name | exact waF_two | exact snd_int | exact snd_none | refine' snd_tup ?_ | refine' snd_lst ?_ | refine' snd_binop X.wd ?_ ?_ | refine' snd_usub ?_ | refine' snd_ifexp ?_ ?_ ?_ | refine' snd_upto ?_ ?_ | refine' sndT_and ?_ ?_ | refine' sndT_or ?_ ?_)
      | ((with_reducible first | refine' n_tgt ?s1 | refine' n_aug ?s1 ?_ | refine' n_glob X X.r0 ?s1 | refine' n_glob X X.r1 ?s1 | refine' n_name ?s1); (case s1 => kernel_rfl))
      | ((with_reducible first | refine' sndL_cons ?_ ?_ ?s1 | refine' sndAs_cons ?_ ?_ ?s1); (case s1 => exact fun _ => rfl))
      | ((with_reducible first | refine' snd_for ?_ ?_ ?_ ?s1 | refine' snd_sub ?_ ?_ ?s1); (case s1 => exact fun _ _ => rfl))
      | ((with_reducible first | refine' snd_compare ?_ ?_ ?s1 | refine' sndT_cmp ?_ ?_ ?s1); (case s1 => rfl))
      | ((with_reducible refine' n_acomp ?s1 ?s2 ?s4 ?s5 ?s6 ?_ ?_ ?_ ?_ ?_ ?_); (case s1 => kernel_rfl); (case s2 => rfl); (case s4 => exact fun _ _ => rfl); (case s5 => (intro env h; cases env; cases h; kernel_rfl)); (case s6 => decide +kernel))
      | ((with_reducible refine' snd_assign (e := Expr.Tuple (Expr.Constant _ _ _ :: Expr.Constant _ _ _ :: _) _ _) ?_ ?_ ?s1 ?s2 ?s3); (case s1 => exact fun _ => rfl); (case s2 => first | exact fun _ _ => rfl | (intro env h; cases env; cases h; kernel_rfl)); (case s3 => first | exact fun _ _ => rfl | (intro env h; cases env; cases h; kernel_rfl)))
      | ((with_reducible refine' snd_swapN (elts := Expr.Name _ _ :: _) (e := Expr.Tuple _ _ _) ?_ ?s1 ?s2 ?s3); (case s1 => kernel_rfl); (case s2 => exact fun _ _ => rfl); (case s3 => (intro env h; cases env; cases h; kernel_rfl)))
      | ((with_reducible refine' snd_assign ?_ ?_ ?s1 ?s2 ?s3); (case s1 => exact fun _ => rfl); (case s2 => first | exact fun _ _ => rfl | (intro env h; cases env; cases h; kernel_rfl)); (case s3 => first | exact fun _ _ => rfl | (intro env h; cases env; cases h; kernel_rfl)))
      | ((with_reducible refine' snd_expr ?_ ?s1 ?s2); (case s1 => (intro env h; cases env; cases h; kernel_rfl)); (case s2 => first | exact fun _ _ => rfl | (intro env h; cases env; cases h; kernel_rfl)))
      | ((with_reducible refine' sndA_tup ?_ ?s1); (case s1 => exact fun _ => ⟨rfl, rfl⟩))
      | ((with_reducible first | refine' n_range1 X ?s1 ?s2 ?_ | refine' n_enum X ?s1 ?s2 ?_); (case s1 => kernel_rfl); (case s2 => exact fun _ => rfl))
      | ((with_reducible refine' n_range2 X ?s1 ?s2 ?s3 ?_); (case s1 => kernel_rfl); (case s2 => exact fun _ => rfl); (case s3 => exact fun _ _ => rfl))
      | (with_reducible first | refine' n_listN ?_ | refine' n_listT ?_)
      | ((with_reducible refine' snd_append ?_ ?_ ?s1 ?s2 ?s3); (case s1 => exact fun _ => rfl); (case s2 => exact fun _ => rfl); (case s3 => rfl))
      | ((with_reducible first | refine' n_len X ?s1 ?s3 ?s4 ?_ | refine' n_abs X ?s1 ?s3 ?s4 ?_ | refine' n_int X ?s1 ?s3 ?s4 ?_ | refine' n_list X ?s1 ?s3 ?s4 ?_ | refine' n_min X ?s1 ?s3 ?s4 ?_ | refine' n_max X ?s1 ?s3 ?s4 ?_ | refine' n_sum X ?s1 ?s3 ?s4 ?_); (case s1 => kernel_rfl); (case s3 => exact fun _ => rfl); (case s4 => exact fun _ _ => rfl))
      | ((with_reducible refine' n_comp ?s1 ?s2 ?s4 ?_ ?_ ?_ ?_ ?_ ?_); (case s1 => kernel_rfl); (case s2 => rfl); (case s4 => exact fun _ _ => rfl))
      | kernel_rfl)
  case bind => intro pm cd doc; refine ofLen2 ?_; intros; kernel_rfl
  case law =>
    intro vs σ P; refine hide fun Gq hGq => ?_; rintro ⟨k, j, l, n, cells, rfl, hk, hj, hne, hn, hl, hP⟩; refine hGq ?_; clear hGq
    refine ⟨rfl, ?_⟩
    simp only [wSeq, wNil, wAssign, wStore, wIf, wRet, wOp2, wCall, wName, wVal, wTest, wSub, wStores, Loc.set, locOf, post, bin_mod, ofString_inj, String.reduceEq, cLen, cAbs, List.map, List.cons.injEq, Option.some.injEq, if_true, if_false, exists_eq_left', exists_and_left, and_true, ne_eq]
    refine item_ref hk (by decide) (v := .int l) rfl ?_
    simp only [bin_add, bin_mul, bin_mod, lt_ints, V.bool.injEq, exists_eq_left', ne_eq, decide_eq_true_eq, decide_eq_false_iff_not]
    refine setitem_ref hk (by decide) (by simp) ?_
    have hk' : (σ.set k ([V.ref j, .int l].set (1 : Int).toNat (.int ((l : Int) + 1))))[k]? = some [.ref j, .int ((l + 1 : Nat) : Int)] := by rw [got_set hk]; rfl
    have hj' : (σ.set k ([V.ref j, .int l].set (1 : Int).toNat (.int ((l : Int) + 1))))[j]? = some (cells.map V.int) := by rw [List.getElem?_set_ne (Ne.symm hne)]; exact hj
    have hP' : ∀ x : Nat, x < n → P (.int x) (σ.set k ([V.ref j, .int l].set (1 : Int).toNat (.int ((l : Int) + 1)))) := hP
    generalize σ.set k ([V.ref j, .int l].set (1 : Int).toNat (.int ((l : Int) + 1))) = σ1 at *
    refine item_ref hk' (by decide) (v := .ref j) rfl ?_
    refine ⟨j, rfl, _, hj', ?_⟩
    simp only [List.length_map]
    refine ⟨fun h => ?_, fun h => ?_⟩
    · refine item_ref hk' (by decide) (v := .ref j) rfl ?_
      refine item_ref hj' (by exact ar178) (v := .int (cells[l]'(by exact ar564 h))) (by simp [show l < cells.length by exact ar564 h]) ?_
      refine ⟨_, rfl, by exact ar427 hn, ?_⟩
      have e : ((cells[l]'(by exact ar564 h)).natAbs : Int).fmod n = (((cells[l]'(by exact ar564 h)).natAbs % n : Nat) : Int) := by rw [Int.fmod_eq_emod_of_nonneg _ (by exact ar178)]; rfl
      rw [e]
      exact hP' _ (Nat.mod_lt _ hn)
    · refine ⟨mulok (n := 2) (m := 7) (by decide) (by omega) (by decide), by exact ar427 hn, ?_⟩
      have e : (3 * (l : Int) + 4).fmod n = (((3 * l + 4) % n : Nat) : Int) := by rw [Int.fmod_eq_emod_of_nonneg _ (by omega)]; rfl
      rw [e]
      exact hP' _ (Nat.mod_lt _ hn)
end Mine

namespace Mine
open PySem PySem.W PyProof.Rows
set_option linter.unusedVariables false
set_option linter.unusedSimpArgs false
set_option maxRecDepth 100000
set_option maxHeartbeats 4000000
open PySem.Calls
variable {w : World} {H0 : Heap} {mg mb : Str → Option Value}


theorem tup0 {a b : V} {σ : Sto} {P : PV} : wItem (.tup [a, b]) (.int 0) σ P ↔ P a σ := by simp [wItem, seqOf]
theorem tup1 {a b : V} {σ : Sto} {P : PV} : wItem (.tup [a, b]) (.int 1) σ P ↔ P b σ := by simp [wItem, seqOf]
theorem fl_take {n m : Nat} {f : Nat → V} (h : m ≤ n) : (fl n f).take m = fl m f := by
  apply List.ext_getElem?
  intro t
  rw [List.getElem?_take]
  by_cases e : t < m
  · rw [if_pos e, fl_get e, fl_get (by exact ar565 h e)]
  · rw [if_neg e, List.getElem?_eq_none (by rw [fl_len]; exact ar15 e)]
/-- rows made one by one -/
theorem Mx.made {σ σ' : Sto} {n m : Nat} {M : Nat → Nat → V} {acc : List V} (e1 : σ' = σ ++ (List.range n).map fun r => fl m (M r)) (e2 : acc = (List.range n).map fun r => V.ref (σ.length + r)) : Mx (σ' ++ [acc]) σ'.length n m (fun r => σ.length + r) M where
  top := by rw [got_at0, e2]; rfl
  row := fun i hi => by
    rw [e1, List.append_assoc, got_at, List.getElem?_append_left (by simpa using hi)]
    simp [hi]
  inj := fun i j hi hj h => by exact ar521 h
  off := fun i hi => by rw [e1]; simp; exact ar566 hi
theorem made_more {σ : Sto} {i m : Nat} {M : Nat → Nat → V} {acc : List V} (e2 : acc = (List.range i).map fun r => V.ref (σ.length + r)) : (σ ++ (List.range i).map fun r => fl m (M r)) ++ [fl m (M i)] = σ ++ (List.range (i + 1)).map (fun r => fl m (M r)) ∧
    acc ++ [V.ref (List.length (σ ++ (List.range i).map fun r => fl m (M r)))] = (List.range (i + 1)).map fun r => V.ref (σ.length + r) := by
  refine ⟨by rw [List.range_succ, List.map_append, List.append_assoc]; rfl, ?_⟩
  rw [e2, List.range_succ, List.map_append]
  congr 1
  simp
theorem eq_co {a b : List Rat} (hl : a.length = b.length) (h : ∀ t, t < a.length → co a t = co b t) : a = b := by
  apply List.ext_getElem?
  intro t
  by_cases e : t < a.length
  · rw [co_get e, co_get (by exact ar567 hl e), h t e]
  · rw [List.getElem?_eq_none (by exact ar15 e), List.getElem?_eq_none (by exact ar568 hl e)]
theorem trm_eq {a b : List Rat} (ha : Trm a) (hb : Trm b) (h : ∀ t, co a t = co b t) : a = b := by
  refine eq_co ?_ fun t _ => h t
  refine Decidable.byContradiction fun hc => ?_
  by_cases e : a.length < b.length
  · exact hb (by exact ar384 e) (by rw [← h, co_big (by exact ar569 e)])
  · exact ha (by exact ar570 hc e) (by rw [h, co_big (by exact ar571 hc e)])
theorem trm_scale {r R : List Rat} {q : Rat} (hr : Trm r) (hq : q ≠ 0) (hl : R.length = r.length) (h : ∀ t, co R t = co r t * q) : Trm R := fun h0 e => by
  rw [hl, h] at e
  rcases Rat.mul_eq_zero.mp e with h1 | h1
  · exact hr (by exact ar572 hl h0) h1
  · exact hq h1
/-- the store but for one list -/
noncomputable def But (σ σ' : Sto) (k : Nat) : Prop := σ'.length = σ.length ∧ ∀ x, x ≠ k → σ'[x]? = σ[x]?
theorem draws {kp j l n : Nat} {cells : List Int} {ε0 : Loc} {σ : Sto} {Q : List V → Sto → Prop} (he : ε0 (Str.ofString "pool") = some (.ref kp)) (hk : σ[kp]? = some [.ref j, .int l]) (hj : σ[j]? = some (cells.map V.int)) (hne : j ≠ kp) (hl : l + n ≤ 90)
    (hQ : ∀ (σ' : Sto) (L0 : List Int), But σ σ' kp → L0.length = n → (∀ x ∈ L0, x ∈ dom) → σ'[kp]? = some [.ref j, .int ((l + n : Nat) : Int)] → Q (L0.map V.int) σ') :
    compL (fun _ => True) (wStore (Str.ofString "at")) wTrue (wOp2 (wBin .Sub) (wCall (fun ε σ P => ∃ v, ε (Str.ofString "pool") = some v ∧ P [v, V.int 5] σ) cDraw) (wVal (V.int 2))) ε0 (rng 0 n) [] σ Q := by
  refine comp_of (fun i acc σ' => But σ σ' kp ∧ σ'[kp]? = some [.ref j, .int ((l + i : Nat) : Int)] ∧ ∃ L0, acc = L0.map V.int ∧ L0.length = i ∧ ∀ x ∈ L0, x ∈ dom) ⟨⟨rfl, fun _ _ => rfl⟩, hk, [], rfl, rfl, fun x hx => by simp at hx⟩ ?_ ?_
  · intro acc σ'; refine hide fun Gq hGq => ?_; rintro ⟨h1, h2, L0, rfl, h3, h4⟩; refine hGq ?_; clear hGq
    rw [rng_len] at h2 h3
    exact ⟨trivial, hQ σ' L0 h1 h3 h4 h2⟩
  · intro i x acc σ' K hx hK; refine hide fun Gq hGq => ?_; rintro ⟨h1, h2, L0, rfl, h3, h4⟩; refine hGq ?_; clear hGq
    obtain ⟨rfl, hi⟩ := rng_get hx
    refine ⟨trivial, ?_⟩
    simp only [he, wStore, wOp2, wCall, wVal, wTrue, Loc.set, ofString_inj, String.reduceEq, Option.some.injEq, if_false, exists_eq_left', and_true, forall_const, false_implies, Bool.true_eq_false]
    refine ⟨kp, j, l + i, 5, cells, rfl, h2, by rw [h1.2 j hne]; exact hj, hne, by decide, by exact ar573 hl hi, fun y hy => ?_⟩
    refine ⟨by simp; exact ar574 hl h3 hi, hK _ _ ⟨⟨by simp; exact h1.1, fun x hx => by rw [List.getElem?_set_ne (Ne.symm hx)]; exact h1.2 x hx⟩, got_set h2, L0 ++ [(y : Int) - 2], by simp, by simp; exact ar575 h3, fun x hx => ?_⟩⟩
    rcases List.mem_append.mp hx with h | h
    · exact h4 x h
    · simp at h
      subst h
      have : ∀ y : Nat, y < 5 → ((y : Int) - 2) ∈ dom := by decide
      exact this y hy

/-- a function called from the top -/
noncomputable def TopOk (prog : Program) (w : World) (H0 : Heap) (mg : Str → Option Value) (d : Nat) (x : Str) (C : Con) : Prop :=
  ∃ a, mg x = some (.ref a) ∧ ∀ (A : Around) (s : Shared) (ρ : List Addr) (σ : Sto) (vs : List V) (us : List Value) (P : PV), RoomC d A → HR H0 ρ σ s.heap → VRs H0 ρ s.heap vs us → C vs σ P → Giv prog w H0 A (call (.ref a) us []) ρ s P
theorem top_of (X : Cx w H0 mg mb) {i k d : Nat} {name bind : Str} {args : Arguments} {body : List Stmt} {decs : List Expr} {ret : Option Expr} {tps : List TypeParam} {sc : Scope} {tsc : Option Scope} {pos : Pos} {W : WS} {C : Con} {ps : List Str}
    (hst : stAt i vw.main.body = .FunctionDef name args body decs ret tps sc tsc bind pos) (hps : ps = args.args.map (·.arg))
    (hrec : ((recsOf vw).map itemOf)[k]? = some ⟨name, args, body, sc, pos⟩) (hdef : args.defaults = [])
    (hb : SndB pg w H0 d sc body W)
    (hbind : ∀ (pm cd doc : Value) (us : List Value), us.length = ps.length → bindArgs (docDef name args body sc pm cd doc) ⟨us, []⟩ = pure (ps.zip us)) (hkinds : ps.all (fun p => sc.names.lookup p == some .local || sc.names.lookup p == some .cell) = true)
    (hco : sc.isCoroutine = false) (hgen : sc.isGenerator = false) (hk : sc.kind = .function) (hfree : sc.names.all (fun x => x.2 != .free) = true)
    (hC : ∀ vs σ P, C vs σ P → vs.length = ps.length ∧ W (locOf ps vs) σ (post P)) : TopOk pg w H0 mg (d + 1) name C := by
  obtain ⟨a, c', o, pm, doc, _, _, h1, h2, h3, h4⟩ := (X.made _ (List.mem_of_getElem? hrec)).plain hdef
  refine ⟨a, h1, fun A s ρ σ vs us P r R hv hc => ?_⟩
  obtain ⟨hl, hw⟩ := hC vs σ P hc
  refine call_ok X.wd h2 h3 h4 hb (hbind _ _ _) (fun p hp => ?_) ?_ hco hgen hk (fun x hx => ?_) r R hv hl hw
  · have := List.all_eq_true.mp hkinds p hp
    simpa using this
  · exact .inr fun x hx => by have := List.all_eq_true.mp hfree x hx; simpa using this
  · have := List.all_eq_true.mp hfree x hx; simpa using this
noncomputable def cLaw : Con := fun vs σ P => ∃ (ns : List Int), vs = [.frz ns] ∧ ns.length ≤ 63 ∧ ∀ σ', P (.bool true) σ'
inductive IvRow (size : Nat) (W steps : List Int) (σ1 σ2 : Sto) (m : Nat) (ε : Loc) (σ' : Sto)  : Prop where
  | mk : (m ≤ 6) → (size ≤ 6 - m) → (ε (Str.ofString "row") = some (.ref σ2.length)) → (ε (Str.ofString "steps") = some (.ref σ1.length)) → (ε (Str.ofString "size") = some (.int size)) → (σ'[σ2.length]? = some ((W.take (6 - m)).map V.int)) → (σ'[σ1.length]? = some (steps.map V.int)) → IvRow size W steps σ1 σ2 m ε σ'
inductive IvTop (L kr kb : Nat) (c : Nat → Int) (W : List Int) (σ2 σB : Sto) (i : Nat) (ε : Loc) (σ' : Sto)  : Prop where
  | mk : (σB <+: σ') → (i ≤ L) → (ε (Str.ofString "ratios") = some (.ref kr)) → (ε (Str.ofString "many") = some (.int L)) → (ε (Str.ofString "row") = some (.ref σ2.length)) → (ε (Str.ofString "bottom") = some (.ref kb)) → (ε (Str.ofString "top") = some (.ref σB.length)) → (σ'[σB.length]? = some (((List.range i).map fun t => ((TT L c (gi W) t : Int) : Rat)).map qv)) → IvTop L kr kb c W σ2 σB i ε σ'
inductive IvCutA (L kr kb : Nat) (c : Nat → Int) (W : List Int) (σB : Sto) (m : Nat) (ε : Loc) (σ' : Sto) (ktp : Nat) : Prop where
  | mk : (ε (Str.ofString "top") = some (.ref ktp)) → (σ'[ktp]? = some (((List.range m).map fun t => ((TT L c (gi W) t : Int) : Rat)).map qv)) → (∀ t, m ≤ t → t < L → TT L c (gi W) t = 0) → IvCutA L kr kb c W σB m ε σ' ktp
inductive IvCutB (L kr ktp : Nat) (c : Nat → Int) (Tl : List Rat) (σB : Sto) (m2 : Nat) (ε : Loc) (σ' : Sto) (kb2 : Nat) : Prop where
  | mk : (ε (Str.ofString "bottom") = some (.ref kb2)) → (σ'[kb2]? = some (((List.range (m2 + 1)).map fun t => ((ai L c t : Int) : Rat)).map qv)) → (∀ t, m2 < t → ai L c t = 0) → IvCutB L kr ktp c Tl σB m2 ε σ' kb2
inductive IvSum (L kr kb i : Nat) (c : Nat → Int) (W : List Int) (σ2 σB σ12 : Sto) (b : Nat) (ε2 : Loc) (σ' : Sto)  : Prop where
  | mk : (σ' = σ12) → (ε2 (Str.ofString "ratios") = some (.ref kr)) → (ε2 (Str.ofString "many") = some (.int L)) → (ε2 (Str.ofString "row") = some (.ref σ2.length)) → (ε2 (Str.ofString "bottom") = some (.ref kb)) → (ε2 (Str.ofString "top") = some (.ref σB.length)) → (ε2 (Str.ofString "at") = some (.int i)) → (ε2 (Str.ofString "under") = some (.int 1)) → (ε2 (Str.ofString "above") = some (.int (ism (fun b => ai L c b * gi W (i - b)) b))) → IvSum L kr kb i c W σ2 σB σ12 b ε2 σ'
theorem ok_law (X : Cx w H0 mg mb) : TopOk pg w H0 mg 13 (Str.ofString "law") cLaw := by
  refine' top_of X (i := 37) (k := 34) (d := 12) (C := cLaw) rfl rfl (by kernel_rfl) rfl ?snd ?bind (by kernel_rfl) rfl rfl rfl (by kernel_rfl) ?law
  case snd =>
    repeat' (first
      | (with_reducible first | exact sndB_nil | refine' sndB_cons ?_ ?_ | refine' snd_if ?_ ?_ ?_ | refine' snd_while ?_ ?_ | exact snd_no (st := Stmt.Return (some (Expr.Constant (Const.bool false) _ _)) _) | refine' snd_ret ?_ | exact snd_cont | exact snd_no (st := Stmt.Raise _ _ _) | exact sndL_nil | refine' sndA_sub ?_ ?_ | exact sndAs_nil | exact sndIfs_nil | refine' sndIfs_one ?_ | exact waF_name | exact waF_two | exact snd_int | exact snd_none | refine' snd_tup ?_ | refine' snd_lst ?_ | refine' snd_binop X.wd ?_ ?_ | refine' snd_usub ?_ | refine' snd_ifexp ?_ ?_ ?_ | refine' snd_upto ?_ ?_ | refine' sndT_and ?_ ?_ | refine' sndT_or ?_ ?_)
      | ((with_reducible first | refine' n_tgt ?s1 | refine' n_aug ?s1 ?_ | refine' n_glob X X.r0 ?s1 | refine' n_glob X X.r1 ?s1 | refine' n_name ?s1); (case s1 => kernel_rfl))
      | ((with_reducible first | refine' sndL_cons ?_ ?_ ?s1 | refine' sndAs_cons ?_ ?_ ?s1); (case s1 => exact fun _ => rfl))
      | ((with_reducible first | refine' snd_for ?_ ?_ ?_ ?s1 | refine' snd_sub ?_ ?_ ?s1); (case s1 => exact fun _ _ => rfl))
      | ((with_reducible first | refine' snd_compare ?_ ?_ ?s1 | refine' sndT_cmp ?_ ?_ ?s1); (case s1 => rfl))
      | ((with_reducible refine' n_acomp ?s1 ?s2 ?s4 ?s5 ?s6 ?_ ?_ ?_ ?_ ?_ ?_); (case s1 => kernel_rfl); (case s2 => rfl); (case s4 => exact fun _ _ => rfl); (case s5 => (intro env h; cases env; cases h; kernel_rfl)); (case s6 => decide +kernel))
      | ((with_reducible refine' snd_assign (e := Expr.Tuple (Expr.Constant _ _ _ :: Expr.Constant _ _ _ :: _) _ _) ?_ ?_ ?s1 ?s2 ?s3); (case s1 => exact fun _ => rfl); (case s2 => first | exact fun _ _ => rfl | (intro env h; cases env; cases h; kernel_rfl)); (case s3 => first | exact fun _ _ => rfl | (intro env h; cases env; cases h; kernel_rfl)))
      | ((with_reducible refine' snd_swapN (elts := Expr.Name _ _ :: _) (e := Expr.Tuple _ _ _) ?_ ?s1 ?s2 ?s3); (case s1 => kernel_rfl); (case s2 => exact fun _ _ => rfl); (case s3 => (intro env h; cases env; cases h; kernel_rfl)))
      | ((with_reducible refine' snd_assign ?_ ?_ ?s1 ?s2 ?s3); (case s1 => exact fun _ => rfl); (case s2 => first | exact fun _ _ => rfl | (intro env h; cases env; cases h; kernel_rfl)); (case s3 => first | exact fun _ _ => rfl | (intro env h; cases env; cases h; kernel_rfl)))
      | ((with_reducible refine' snd_expr ?_ ?s1 ?s2); (case s1 => (intro env h; cases env; cases h; kernel_rfl)); (case s2 => first | exact fun _ _ => rfl | (intro env h; cases env; cases h; kernel_rfl)))
      | ((with_reducible refine' sndA_tup ?_ ?s1); (case s1 => exact fun _ => ⟨rfl, rfl⟩))
      | ((with_reducible first | refine' n_range1 X ?s1 ?s2 ?_ | refine' n_enum X ?s1 ?s2 ?_); (case s1 => kernel_rfl); (case s2 => exact fun _ => rfl))
      | ((with_reducible refine' n_range2 X ?s1 ?s2 ?s3 ?_); (case s1 => kernel_rfl); (case s2 => exact fun _ => rfl); (case s3 => exact fun _ _ => rfl))
      | (with_reducible first | refine' n_listN ?_ | refine' n_listT ?_)
      | ((with_reducible refine' snd_append ?_ ?_ ?s1 ?s2 ?s3); (case s1 => exact fun _ => rfl); (case s2 => exact fun _ => rfl); (case s3 => rfl))
      | ((with_reducible first | refine' n_len X ?s1 ?s3 ?s4 ?_ | refine' n_abs X ?s1 ?s3 ?s4 ?_ | refine' n_int X ?s1 ?s3 ?s4 ?_ | refine' n_list X ?s1 ?s3 ?s4 ?_ | refine' n_min X ?s1 ?s3 ?s4 ?_ | refine' n_max X ?s1 ?s3 ?s4 ?_ | refine' n_sum X ?s1 ?s3 ?s4 ?_); (case s1 => kernel_rfl); (case s3 => exact fun _ => rfl); (case s4 => exact fun _ _ => rfl))
      | ((with_reducible first | refine' n_call X (ok__law_draw X) ?s1 ?s2 ?s3 ?_ | refine' n_call X (ok_least_recurrence X) ?s1 ?s2 ?s3 ?_ | refine' n_call X (ok_rank X) ?s1 ?s2 ?s3 ?_ | refine' n_call X (ok_from_whole X) ?s1 ?s2 ?s3 ?_ | refine' n_call X (ok_determinant X) ?s1 ?s2 ?s3 ?_ | refine' n_call X (ok_pade X) ?s1 ?s2 ?s3 ?_); (case s1 => rfl); (case s2 => kernel_rfl); (case s3 => exact fun _ => rfl))
      | ((with_reducible refine' n_comp ?s1 ?s2 ?s4 ?_ ?_ ?_ ?_ ?_ ?_); (case s1 => kernel_rfl); (case s2 => rfl); (case s4 => exact fun _ _ => rfl))
      | kernel_rfl)
  case bind => intro pm cd doc; refine ofLen1 ?_; intros; kernel_rfl
  case law =>
    intro vs σ P; refine hide fun Gq hGq => ?_; rintro ⟨ns, rfl, hns, hP⟩; refine hGq ?_; clear hGq
    refine ⟨rfl, ?_⟩
    refine seq_cut fun R1 hR1 => ?_
    refine cut2 hR1 fun R2 hR2 hR1 => ?_
    refine cut2 hR2 fun R3 hR3 hR2 => ?_
    refine cut2 hR3 fun R4 hR4 hR3 => ?_
    refine cut2 hR4 fun R5 hR5 hR4 => ?_
    refine cut2 hR5 fun R6 hR6 hR5 => ?_
    refine cut2 hR6 fun R7 hR7 hR6 => ?_
    refine cut2 hR7 fun R8 hR8 hR7 => ?_
    refine cut2 hR8 fun R9 hR9 hR8 => ?_
    refine cut2 hR9 fun R10 hR10 hR9 => ?_
    refine cut2 hR10 fun R11 hR11 hR10 => ?_
    refine cut2 hR11 fun R12 hR12 hR11 => ?_
    refine cut2 hR12 fun R13 hR13 hR12 => ?_
    refine cut2 hR13 fun R14 hR14 hR13 => ?_
    refine cut2 hR14 fun R15 hR15 hR14 => ?_
    refine cut2 hR15 fun R16 hR16 hR15 => ?_
    repeat (first | (with_reducible first | refine cutR hR1 ?_ | refine cutR hR2 ?_ | refine cutR hR3 ?_ | refine cutR hR4 ?_ | refine cutR hR5 ?_ | refine cutR hR6 ?_ | refine cutR hR7 ?_ | refine cutR hR8 ?_ | refine cutR hR9 ?_ | refine cutR hR10 ?_ | refine cutR hR11 ?_ | refine cutR hR12 ?_ | refine cutR hR13 ?_ | refine cutR hR14 ?_ | refine cutR hR15 ?_ | refine cutR hR16 ?_) | simp only [wSeq, wAssign, wStore, wLst, wOp2, wName, wVal, wStores, wIList, wComp, Loc.set, locOf, List.map, List.length, Option.some.injEq, if_true, exists_eq_left', exists_and_left, true_and, Nat.reduceAdd, Nat.reduceLeDiff])
    refine ⟨8, rfl, .inr ⟨ns, rfl, by exact ar576 hns, ?_⟩⟩
    have hc : ns.take (upto ns.length 8) = ns.take 8 := by
      unfold upto
      rw [if_neg (by decide)]
      by_cases h : ns.length ≤ 8
      · rw [show (max 0 (min (8 : Int) ns.length)).toNat = ns.length by exact ar577 h, List.take_length, List.take_of_length_le h]
      · rw [show (max 0 (min (8 : Int) ns.length)).toNat = 8 by exact ar578 h]
    rw [hc]
    have hcl : (ns.take 8).length ≤ 8 := by simp; exact ar579
    generalize ns.take 8 = cs at hcl
    refine ⟨_, rfl, _, got_at0, ?_⟩
    refine comp_map (fun i => .int (cs.getD i 0)) (by simp; exact ar580 hcl) got_at0 ?_ ?_
    · intro i x K KF hx hK
      rw [List.getElem?_map] at hx
      have hi : i < cs.length := by
        refine Decidable.byContradiction fun h => ?_
        rw [List.getElem?_eq_none (by exact ar15 h)] at hx; cases hx
      simp only [List.getElem?_eq_getElem hi, Option.map_some, Option.some.injEq] at hx
      subst hx
      repeat (first | (with_reducible first | refine cutR hR1 ?_ | refine cutR hR2 ?_ | refine cutR hR3 ?_ | refine cutR hR4 ?_ | refine cutR hR5 ?_ | refine cutR hR6 ?_ | refine cutR hR7 ?_ | refine cutR hR8 ?_ | refine cutR hR9 ?_ | refine cutR hR10 ?_ | refine cutR hR11 ?_ | refine cutR hR12 ?_ | refine cutR hR13 ?_ | refine cutR hR14 ?_ | refine cutR hR15 ?_ | refine cutR hR16 ?_) | simp only [wStore, wCall, wTrue, compLoc, Loc.set, ofString_inj, ofString_beq, String.reduceEq, String.reduceBEq, cInt, List.lookup_cons, List.cons.injEq, Option.some.injEq, V.int.injEq, reduceCtorEq, if_true, if_false, exists_eq_left', and_true, forall_const, false_implies, Bool.true_eq_false])
      simpa [List.getD, hi] using hK
    have hj0 : (σ ++ [cs.map V.int] ++ [(List.range (cs.map V.int).length).map fun i => V.int (cs.getD i 0)] ++ [[.ref (List.length (σ ++ [cs.map V.int])), .int 0]])[List.length (σ ++ [cs.map V.int])]? = some (((List.range (cs.map V.int).length).map fun i => cs.getD i 0).map V.int) := by
      rw [List.append_assoc, got_at0, List.map_map]; rfl
    have hk0 : (σ ++ [cs.map V.int] ++ [(List.range (cs.map V.int).length).map fun i => V.int (cs.getD i 0)] ++ [[.ref (List.length (σ ++ [cs.map V.int])), .int 0]])[List.length (σ ++ [cs.map V.int] ++ [(List.range (cs.map V.int).length).map fun i => V.int (cs.getD i 0)])]? = some [.ref (List.length (σ ++ [cs.map V.int])), .int ((0 : Nat) : Int)] := got_at0
    have hjk : List.length (σ ++ [cs.map V.int]) ≠ List.length (σ ++ [cs.map V.int] ++ [(List.range (cs.map V.int).length).map fun i => V.int (cs.getD i 0)]) := by simp
    generalize hkp : List.length (σ ++ [cs.map V.int] ++ [(List.range (cs.map V.int).length).map fun i => V.int (cs.getD i 0)]) = kp at *
    generalize (σ ++ [cs.map V.int] ++ [(List.range (cs.map V.int).length).map fun i => V.int (cs.getD i 0)] ++ [[.ref (List.length (σ ++ [cs.map V.int])), .int 0]]) = σ0 at *
    generalize List.length (σ ++ [cs.map V.int]) = j at *
    repeat (first | (with_reducible first | refine cutR hR1 ?_ | refine cutR hR2 ?_ | refine cutR hR3 ?_ | refine cutR hR4 ?_ | refine cutR hR5 ?_ | refine cutR hR6 ?_ | refine cutR hR7 ?_ | refine cutR hR8 ?_ | refine cutR hR9 ?_ | refine cutR hR10 ?_ | refine cutR hR11 ?_ | refine cutR hR12 ?_ | refine cutR hR13 ?_ | refine cutR hR14 ?_ | refine cutR hR15 ?_ | refine cutR hR16 ?_) | simp only [wSeq, wAssign, wStore, wOp2, wCall, wName, wVal, Loc.set, ofString_inj, String.reduceEq, Option.some.injEq, if_true, if_false, exists_eq_left'])
    refine ⟨kp, j, 0, 3, _, rfl, hk0, hj0, hjk, by decide, by decide, fun z hz => ?_⟩
    repeat (first | (with_reducible first | refine cutR hR1 ?_ | refine cutR hR2 ?_ | refine cutR hR3 ?_ | refine cutR hR4 ?_ | refine cutR hR5 ?_ | refine cutR hR6 ?_ | refine cutR hR7 ?_ | refine cutR hR8 ?_ | refine cutR hR9 ?_ | refine cutR hR10 ?_ | refine cutR hR11 ?_ | refine cutR hR12 ?_ | refine cutR hR13 ?_ | refine cutR hR14 ?_ | refine cutR hR15 ?_ | refine cutR hR16 ?_) | simp only [wSeq, wName, wVal, wIRange1, wCompS, Loc.set, bin_add, ofString_inj, String.reduceEq, List.cons.injEq, Option.some.injEq, V.int.injEq, if_true, if_false, exists_eq_left', and_true, Nat.reduceAdd, Int.reduceNeg])
    refine ⟨by exact ar581, by exact ar582 hz, ?_⟩
    have hn : (1 + (z : Int)).toNat = 1 + z := by exact ar583
    rw [hn]
    have hz1 : (1 + (z : Int)) = ((1 + z : Nat) : Int) := by exact ar584
    rw [hz1]
    have hz13 : 1 ≤ 1 + z ∧ 1 + z ≤ 3 := by exact ar585 hz
    generalize 1 + z = size at *
    refine draws (kp := kp) (j := j) (l := 1) (by simp [compLoc, Loc.set, ofString_inj, ofString_beq, List.lookup]) (got_set hk0) (by rw [List.getElem?_set_ne (Ne.symm hjk)]; exact hj0) hjk (by exact ar586 hz hz1) fun σ1 steps hB1 hsl hsd hk1 => ?_
    repeat (first | (with_reducible first | refine cutR hR1 ?_ | refine cutR hR2 ?_ | refine cutR hR3 ?_ | refine cutR hR4 ?_ | refine cutR hR5 ?_ | refine cutR hR6 ?_ | refine cutR hR7 ?_ | refine cutR hR8 ?_ | refine cutR hR9 ?_ | refine cutR hR10 ?_ | refine cutR hR11 ?_ | refine cutR hR12 ?_ | refine cutR hR13 ?_ | refine cutR hR14 ?_ | refine cutR hR15 ?_ | refine cutR hR16 ?_) | simp only [wSeq, wAssign, wStore, wName, wVal, wIRange1, wComp, Loc.set, ofString_inj, String.reduceEq, List.cons.injEq, Option.some.injEq, V.int.injEq, if_true, if_false, exists_eq_left', and_true, Int.reduceNeg])
    refine ⟨by exact ar437, by exact ar587 hz hz1, ?_⟩
    have hj1 : σ1[j]? = some (((List.range (cs.map V.int).length).map fun i => cs.getD i 0).map V.int) := by rw [hB1.2 j hjk, List.getElem?_set_ne (Ne.symm hjk)]; exact hj0
    have hkl1 := got_lt hk1
    refine draws (kp := kp) (j := j) (l := 1 + size) (by simp [compLoc, Loc.set, ofString_inj, ofString_beq, List.lookup]) (got_app hk1) (got_app hj1) hjk (by exact ar588 hz hz1) fun σ2 init hB2 hil hid hk2 => ?_
    have hks : σ2[σ1.length]? = some (steps.map V.int) := by rw [hB2.2 _ (by exact ar541 hkl1)]; exact got_at0
    have hl2 : σ2.length = σ1.length + 1 := by rw [hB2.1]; simp
    obtain ⟨W, hW, L, c, hLs, hg⟩ := row_of hz13.1 hz13.2 hsl hil hsd hid
    repeat (first | (with_reducible first | refine cutR hR1 ?_ | refine cutR hR2 ?_ | refine cutR hR3 ?_ | refine cutR hR4 ?_ | refine cutR hR5 ?_ | refine cutR hR6 ?_ | refine cutR hR7 ?_ | refine cutR hR8 ?_ | refine cutR hR9 ?_ | refine cutR hR10 ?_ | refine cutR hR11 ?_ | refine cutR hR12 ?_ | refine cutR hR13 ?_ | refine cutR hR14 ?_ | refine cutR hR15 ?_ | refine cutR hR16 ?_) | simp only [wSeq, wName, wIEnum, wComp, post, List.length, List.cons.injEq, exists_and_left, and_true, Nat.reduceAdd])
    refine while_of (fun m ε σ' => IvRow size W steps σ1 σ2 m ε σ') (6 - size) ?_ ?_
    · refine ⟨by exact ar589, by exact ar590 hz hz1, by kernel_rfl, by kernel_rfl, by kernel_rfl, ?_, got_app hks⟩
      rw [show 6 - (6 - size) = size by exact ar591 hz hz1, hW.ini]; exact got_at0
    · intro m ε σ' K hK; refine hide fun Gq hGq => ?_; rintro ⟨h1, h2, h3, h4, h5, h6, h7⟩; refine hGq ?_; clear hGq
      have hWl := hW.len
      have hlen : (W.take (6 - m)).length = 6 - m := by rw [List.length_take]; exact ar592 hWl
      repeat (first | (with_reducible first | refine cutR hR1 ?_ | refine cutR hR2 ?_ | refine cutR hR3 ?_ | refine cutR hR4 ?_ | refine cutR hR5 ?_ | refine cutR hR6 ?_ | refine cutR hR7 ?_ | refine cutR hR8 ?_ | refine cutR hR9 ?_ | refine cutR hR10 ?_ | refine cutR hR11 ?_ | refine cutR hR12 ?_ | refine cutR hR13 ?_ | refine cutR hR14 ?_ | refine cutR hR15 ?_ | refine cutR hR16 ?_) | simp only [h3, h4, h6, h7, wSeq, wNil, wExpr, wCall, wName, wVal, wTest, wApp, lt_ints, cLen, cSum, List.cons.injEq, Option.some.injEq, V.ref.injEq, V.bool.injEq, exists_eq_left', exists_and_left, and_true, decide_eq_true_eq, decide_eq_false_iff_not, List.length_map])
      rw [hlen]
      constructor
      · intro hge
        have hm0 : m = 0 := by exact ar593 hge
        subst hm0
        have hWt : W.take (6 - 0) = W := by rw [Nat.sub_zero, ← hWl, List.take_length]
        repeat (first | (with_reducible first | refine cutR hR1 ?_ | refine cutR hR2 ?_ | refine cutR hR3 ?_ | refine cutR hR4 ?_ | refine cutR hR5 ?_ | refine cutR hR6 ?_ | refine cutR hR7 ?_ | refine cutR hR8 ?_ | refine cutR hR9 ?_ | refine cutR hR10 ?_ | refine cutR hR11 ?_ | refine cutR hR12 ?_ | refine cutR hR13 ?_ | refine cutR hR14 ?_ | refine cutR hR15 ?_ | refine cutR hR16 ?_) | simp only [h3, h6, wSeq, wName, wVal, wIList, wCompS, Option.some.injEq, V.ref.injEq, exists_eq_left', exists_and_left])
        rw [hWt] at h6 ⊢
        have hW6 : ∀ i, i < 6 → W[i]? = some (gi W i) := fun i hi => by
          have : i < W.length := by exact ar228 hWl hi
          simp [gi, this]
        refine comp_map (fun i => qv ((gi W i : Int) : Rat)) (by rw [List.length_map]; exact ar229 hWl) h6 ?_ ?_
        · intro i x K2 KF hx hK2
          have hi : i < 6 := by
            refine Decidable.byContradiction fun h => ?_
            rw [List.getElem?_eq_none (by rw [List.length_map]; exact ar594 hWl h)] at hx; cases hx
          rw [List.getElem?_map, hW6 i hi] at hx
          cases hx
          repeat (first | (with_reducible first | refine cutR hR1 ?_ | refine cutR hR2 ?_ | refine cutR hR3 ?_ | refine cutR hR4 ?_ | refine cutR hR5 ?_ | refine cutR hR6 ?_ | refine cutR hR7 ?_ | refine cutR hR8 ?_ | refine cutR hR9 ?_ | refine cutR hR10 ?_ | refine cutR hR11 ?_ | refine cutR hR12 ?_ | refine cutR hR13 ?_ | refine cutR hR14 ?_ | refine cutR hR15 ?_ | refine cutR hR16 ?_) | simp only [wStore, wTup, wTrue, compLoc, Loc.set, ofString_beq, String.reduceBEq, List.length, List.lookup_cons, Option.some.injEq, reduceCtorEq, if_true, if_false, exists_eq_left', and_true, true_and, Nat.reduceAdd, Nat.reduceLeDiff, forall_const, false_implies, Bool.true_eq_false])
          exact hK2
        · rw [List.length_map, hWl, lst_of (f := fun i => ((gi W i : Int) : Rat)) fun i _ => rfl]
          have hrt : ∀ k, co ((List.range 6).map fun i => ((gi W i : Int) : Rat)) k = rq (gi W) k := fun k => by
            rw [co_range]
            split
            · rfl
            · have : gi W k = 0 := by simp [gi, List.getD]; rw [List.getElem?_eq_none (by exact ar594 hWl (by assumption))]; rfl
              simp [rq, this]
          have hrl : ((List.range 6).map fun i => ((gi W i : Int) : Rat)).length = 6 := by simp
          have hrw : Wl 8 ((List.range 6).map fun i => ((gi W i : Int) : Rat)) := Wl.range fun i _ => ⟨by simpa using hW.sm i, by simp⟩
          generalize (List.range 6).map (fun i => ((gi W i : Int) : Rat)) = rt at hrt hrl hrw
          have hrf : co rt = rq (gi W) := funext hrt
          have hrg : (σ' ++ [rt.map qv])[σ'.length]? = some (rt.map qv) := got_at0
          have hwg : (σ' ++ [rt.map qv])[σ2.length]? = some (W.map V.int) := got_app h6
          generalize hkr : σ'.length = kr at hrg
          generalize hσ3 : σ' ++ [rt.map qv] = σ3 at hrg hwg
          repeat (first | (with_reducible first | refine cutR hR1 ?_ | refine cutR hR2 ?_ | refine cutR hR3 ?_ | refine cutR hR4 ?_ | refine cutR hR5 ?_ | refine cutR hR6 ?_ | refine cutR hR7 ?_ | refine cutR hR8 ?_ | refine cutR hR9 ?_ | refine cutR hR10 ?_ | refine cutR hR11 ?_ | refine cutR hR12 ?_ | refine cutR hR13 ?_ | refine cutR hR14 ?_ | refine cutR hR15 ?_ | refine cutR hR16 ?_) | simp only [wSeq, wAssign, wStore, wCall, wName, Loc.set, Option.some.injEq, if_true, exists_eq_left'])
          refine ⟨kr, L, rt, AA L c, rfl, hrg, hrl, hrw, by simp [AA], fun i hi => AA_big hi, fun k q1 q2 => by rw [hrf]; exact hg.cvA k q1 q2, ?_⟩
          intro σ4 kt told D hp4 ht4 htl hD0 hDd hDt hDc
          rw [hrf] at hDc
          obtain ⟨htL, hDA⟩ := hg.tell D htl hD0 hDd hDc
          have hr4 := got_pre hp4 hrg
          have hw4 := got_pre hp4 hwg
          have htold : told.map qv = (List.range L).map fun i => qv ((c (i + 1) : Int) : Rat) := by
            rw [lst_of (g := fun i => qv ((c (i + 1) : Int) : Rat)) (f := fun i => ((c (i + 1) : Int) : Rat)) fun i _ => rfl]
            congr 1
            refine eq_co (by simpa using htL) fun i hi => ?_
            rw [hDt i hi, hDA, AA, if_neg (by exact ar95), if_pos (by exact ar595 htL hi), co_range, if_pos (by exact ar567 htL hi)]
            exact Rat.neg_neg _
          repeat (first | (with_reducible first | refine cutR hR1 ?_ | refine cutR hR2 ?_ | refine cutR hR3 ?_ | refine cutR hR4 ?_ | refine cutR hR5 ?_ | refine cutR hR6 ?_ | refine cutR hR7 ?_ | refine cutR hR8 ?_ | refine cutR hR9 ?_ | refine cutR hR10 ?_ | refine cutR hR11 ?_ | refine cutR hR12 ?_ | refine cutR hR13 ?_ | refine cutR hR14 ?_ | refine cutR hR15 ?_ | refine cutR hR16 ?_) | simp only [ht4, htold, wSeq, wAssign, wStore, wCall, wName, wVal, wIRange1, wCompS, Loc.set, ofString_inj, String.reduceEq, cLen, List.cons.injEq, Option.some.injEq, V.int.injEq, V.ref.injEq, if_true, if_false, exists_eq_left', exists_and_left, and_true, Int.reduceNeg, List.length_map, List.length_range])
          refine ⟨by decide, by decide, ?_⟩
          show compL _ _ _ _ _ (rng 0 3) _ _ _
          refine comp_of (fun i acc σ' => σ' = σ4 ++ (List.range i).map (fun r => fl 3 fun y => V.int (gi W (r + y))) ∧ acc = (List.range i).map fun r => V.ref (σ4.length + r)) ⟨by simp, rfl⟩ ?_ ?_
          · intro acc5 σ5; refine hide fun Gq hGq => ?_; rintro ⟨e51, e52⟩; refine hGq ?_; clear hGq
            rw [rng_len] at e51 e52
            repeat (first | (with_reducible first | refine cutR hR1 ?_ | refine cutR hR2 ?_ | refine cutR hR3 ?_ | refine cutR hR4 ?_ | refine cutR hR5 ?_ | refine cutR hR6 ?_ | refine cutR hR7 ?_ | refine cutR hR8 ?_ | refine cutR hR9 ?_ | refine cutR hR10 ?_ | refine cutR hR11 ?_ | refine cutR hR12 ?_ | refine cutR hR13 ?_ | refine cutR hR14 ?_ | refine cutR hR15 ?_ | refine cutR hR16 ?_) | simp only [h5, wSeq, wNil, wIf, wNo, wCall, wName, wTest, wOr, Loc.set, gt_ints, ofString_inj, String.reduceEq, Option.some.injEq, V.bool.injEq, if_true, if_false, exists_eq_left', and_true, true_and, forall_const, false_implies, decide_eq_true_eq, decide_eq_false_iff_not, Bool.true_eq_false])
            refine ⟨fun h => by exact (ar596 hLs h).elim, fun _ => ?_⟩
            have hM5 := Mx.made e51 e52
            have hp5 : σ4 <+: σ5 ++ [acc5] := by rw [e51, List.append_assoc]; exact pre_app
            generalize hkq : σ5.length = kq at hM5
            generalize σ5 ++ [acc5] = σ6 at hM5 hp5
            refine ⟨kq, 3, 3, _, fun i y => gi W (i + y), rfl, hM5, by decide, by decide, fun σ7 kw ksw hp7 _ hM7 => ?_⟩
            refine ⟨kw, L, _, ksw, fun i y => rq (gi W) (i + y), rfl, hM7, by exact ar597 hz hz1 hLs, hg.ech, fun i y _ _ => ⟨by simpa [rq] using hW.sm (i + y), by simp [rq]⟩, fun σ8 hp8 => ?_⟩
            repeat (first | (with_reducible first | refine cutR hR1 ?_ | refine cutR hR2 ?_ | refine cutR hR3 ?_ | refine cutR hR4 ?_ | refine cutR hR5 ?_ | refine cutR hR6 ?_ | refine cutR hR7 ?_ | refine cutR hR8 ?_ | refine cutR hR9 ?_ | refine cutR hR10 ?_ | refine cutR hR11 ?_ | refine cutR hR12 ?_ | refine cutR hR13 ?_ | refine cutR hR14 ?_ | refine cutR hR15 ?_ | refine cutR hR16 ?_) | simp only [wSeq, wNil, wIf, wNo, wOp2, wCall, wName, wVal, wTest, wIList, wComp, Loc.set, ne_ints, ofString_inj, String.reduceEq, Option.some.injEq, V.bool.injEq, if_true, if_false, exists_eq_left', exists_and_left, true_and, not_true_eq_false, forall_const, false_implies, decide_eq_true_eq, decide_eq_false_iff_not, Bool.not_eq_true', Bool.not_eq_false'])
            have hp48 : σ4 <+: σ8 := List.IsPrefix.trans hp5 (List.IsPrefix.trans hp7 hp8)
            have hM8 := (hM5.mv hp7).mv hp8
            refine upto_ref hM8.top ?_
            rw [fl_len, upto_nat (by exact ar597 hz hz1 hLs), fl_take (by exact ar597 hz hz1 hLs)]
            refine ⟨_, rfl, _, got_at0, ?_⟩
            have hM9 := hM8.mv (pre_app (τ := [fl L fun i => V.ref ((fun r => σ4.length + r) i)]))
            have hp49 : σ4 <+: σ8 ++ [fl L fun i => V.ref ((fun r => σ4.length + r) i)] := List.IsPrefix.trans hp48 pre_app
            have hx9 : (σ8 ++ [fl L fun i => V.ref ((fun r => σ4.length + r) i)])[σ8.length]? = some (fl L fun i => V.ref ((fun r => σ4.length + r) i)) := got_at0
            generalize σ8 ++ [fl L fun i => V.ref ((fun r => σ4.length + r) i)] = σ9 at hM9 hp49 hx9 ⊢
            refine comp_of (fun i acc σ' => σ' = σ9 ++ (List.range i).map (fun r => fl L fun y => V.int (gi W (r + y))) ∧ acc = (List.range i).map fun r => V.ref (σ9.length + r)) ⟨by simp, rfl⟩ ?_ ?_
            · intro acc10 σ10; refine hide fun Gq hGq => ?_; rintro ⟨e101, e102⟩; refine hGq ?_; clear hGq
              rw [fl_len] at e101 e102
              refine ⟨by rw [e101]; exact got_app hx9, ?_⟩
              have hM10 := Mx.made e101 e102
              have hp410 : σ4 <+: σ10 ++ [acc10] := by rw [e101, List.append_assoc]; exact List.IsPrefix.trans hp49 pre_app
              repeat (first | (with_reducible first | refine cutR hR1 ?_ | refine cutR hR2 ?_ | refine cutR hR3 ?_ | refine cutR hR4 ?_ | refine cutR hR5 ?_ | refine cutR hR6 ?_ | refine cutR hR7 ?_ | refine cutR hR8 ?_ | refine cutR hR9 ?_ | refine cutR hR10 ?_ | refine cutR hR11 ?_ | refine cutR hR12 ?_ | refine cutR hR13 ?_ | refine cutR hR14 ?_ | refine cutR hR15 ?_ | refine cutR hR16 ?_) | simp only [h3, h4, h5, wSeq, wNil, wSwap, wAssign, wStore, wUnpack, wACons, wAugS, wIf, wRet, wCont, wExpr, wNo, wTup, wLst, wOp2, wUn, wCall, wName, wVal, wTest, wAnd, wOr, wIfE, wTrue, wApp, wSub, wStores, wIList, wIRange1, wIRange2, wIEnum, wComp, wCompS, wFor, compLoc, Loc.set, locOf, post, tgt_nil, tgt_cons, bin_add, bin_sub, bin_subb, bin_mul, bin_fdiv, bin_mod, bin_cat, bin_rep, aug_add, aug_sub, neg_i, eq_ints, ne_ints, lt_ints, le_ints, gt_ints, ge_ints, is_nn, is_in, qv_num, qv_den, qv0, qv1, eq_q, ne_q, ofString_inj, ofString_beq, String.reduceEq, String.reduceBEq, cLen, cAbs, cInt, cList, cMin, cMax, cSum, List.map, List.reverse, List.reverseAux, List.length, List.append, List.nil_append, List.cons_append, List.lookup_cons, List.lookup_nil, List.cons.injEq, List.nil_eq, Option.some.injEq, V.int.injEq, V.ref.injEq, V.tup.injEq, V.bool.injEq, reduceCtorEq, if_true, if_false, exists_eq_left, exists_eq_left', exists_eq, exists_and_left, exists_and_right, and_true, true_and, and_false, false_and, exists_false, Nat.reduceAdd, Nat.reduceLeDiff, Int.reduceNeg, not_true_eq_false, not_false_eq_true, forall_const, true_implies, false_implies, implies_true, ne_eq, and_assoc, decide_eq_true_eq, decide_eq_false_iff_not, Bool.not_eq_true', Bool.not_eq_false', Bool.not_true, Bool.not_false, Bool.true_eq_false, Bool.false_eq_true])
              have hgd : Gd (fun i y => gi W (i + y)) 1 0 L := by
                have hd := hg.det
                match L, hg.hL, hd with
                | 0, _, _ => trivial
                | 1, _, hd => exact hd
                | 2, _, hd => exact ⟨_, hd, by simp only [dt, Nat.zero_add, Nat.add_zero, Nat.reduceAdd, Int.one_mul]⟩
                | 3, _, hd => exact ⟨rfl, by simpa only [dt, Nat.zero_add, Nat.add_zero, Nat.reduceAdd] using hd⟩
                | L + 4, hL, _ => exact (ar598 hL).elim
              refine ⟨_, L, _, fun i y => gi W (i + y), rfl, hM10, by exact ar597 hz hz1 hLs, fun i y _ _ => hW.sm _, hgd, fun σ11 dx hp11 hdx => ?_⟩
              repeat (first | (with_reducible first | refine cutR hR1 ?_ | refine cutR hR2 ?_ | refine cutR hR3 ?_ | refine cutR hR4 ?_ | refine cutR hR5 ?_ | refine cutR hR6 ?_ | refine cutR hR7 ?_ | refine cutR hR8 ?_ | refine cutR hR9 ?_ | refine cutR hR10 ?_ | refine cutR hR11 ?_ | refine cutR hR12 ?_ | refine cutR hR13 ?_ | refine cutR hR14 ?_ | refine cutR hR15 ?_ | refine cutR hR16 ?_) | simp only [eq_ints, V.bool.injEq, exists_eq_left', decide_eq_true_eq, decide_eq_false_iff_not])
              refine ⟨fun h => absurd h hdx, fun _ => ?_⟩
              have hp411 := List.IsPrefix.trans hp410 hp11
              have ht11 := got_pre hp411 ht4
              rw [htold] at ht11
              have hr11 := got_pre hp411 hr4
              have hw11 := got_pre hp411 hw4
              repeat (first | (with_reducible first | refine cutR hR1 ?_ | refine cutR hR2 ?_ | refine cutR hR3 ?_ | refine cutR hR4 ?_ | refine cutR hR5 ?_ | refine cutR hR6 ?_ | refine cutR hR7 ?_ | refine cutR hR8 ?_ | refine cutR hR9 ?_ | refine cutR hR10 ?_ | refine cutR hR11 ?_ | refine cutR hR12 ?_ | refine cutR hR13 ?_ | refine cutR hR14 ?_ | refine cutR hR15 ?_ | refine cutR hR16 ?_) | simp only [wSeq, wAssign, wStore, wTup, wLst, wOp2, wName, wVal, wIList, wComp, Loc.set, bin_cat, qv1, ofString_inj, String.reduceEq, List.length, Option.some.injEq, V.ref.injEq, if_true, if_false, exists_eq_left', exists_and_left, true_and, Nat.reduceAdd, Nat.reduceLeDiff])
              refine ⟨_, got_app ht11, ?_⟩
              refine comp_map (fun i => qv ((ai L c (i + 1) : Int) : Rat)) (by simp; exact ar599 hz hz1 hLs) (got_app ht11) ?_ ?_
              · intro i x K2 KF hx hK2
                have hi : i < L := by
                  refine Decidable.byContradiction fun h => ?_
                  rw [List.getElem?_eq_none (by simpa using h)] at hx; cases hx
                rw [List.getElem?_map, List.getElem?_range hi] at hx
                cases hx
                have eq : qv ((c (i + 1) : Int) : Rat) = V.tup [.int (c (i + 1)), .int 1] := rfl
                have eq2 : qv ((ai L c (i + 1) : Int) : Rat) = V.tup [.int (0 - c (i + 1)), .int 1] := by
                  rw [ai, if_neg (by exact ar95), if_pos (by exact ar96 hi)]
                  show V.tup [.int (-c (i + 1)), .int 1] = _
                  rw [Int.zero_sub]
                rw [eq2] at hK2
                dsimp only
                rw [eq]
                repeat (first | (with_reducible first | refine cutR hR1 ?_ | refine cutR hR2 ?_ | refine cutR hR3 ?_ | refine cutR hR4 ?_ | refine cutR hR5 ?_ | refine cutR hR6 ?_ | refine cutR hR7 ?_ | refine cutR hR8 ?_ | refine cutR hR9 ?_ | refine cutR hR10 ?_ | refine cutR hR11 ?_ | refine cutR hR12 ?_ | refine cutR hR13 ?_ | refine cutR hR14 ?_ | refine cutR hR15 ?_ | refine cutR hR16 ?_) | simp only [wStore, wUnpack, wACons, wTup, wTrue, compLoc, Loc.set, bin_sub, ofString_inj, ofString_beq, String.reduceEq, String.reduceBEq, List.length, List.lookup_cons, List.cons.injEq, List.nil_eq, Option.some.injEq, V.tup.injEq, reduceCtorEq, if_true, if_false, exists_eq_left, exists_eq_left', exists_and_left, and_true, true_and, Nat.reduceAdd, Nat.reduceLeDiff, forall_const, false_implies, and_assoc, Bool.true_eq_false])
                exact hK2
              · rw [List.length_map, List.length_range]
                refine ⟨_, got_app got_at0, _, got_at0, by simp; exact ar600 hz hz1 hLs, ?_⟩
                have hbl : [qv 1] ++ (List.range L).map (fun i => qv ((ai L c (i + 1) : Int) : Rat)) = ((List.range (L + 1)).map fun i => ((ai L c i : Int) : Rat)).map qv := by
                  rw [List.range_succ_eq_map, List.map_cons, List.map_cons, List.map_map, List.map_map]
                  rfl
                rw [hbl]
                repeat (first | (with_reducible first | refine cutR hR1 ?_ | refine cutR hR2 ?_ | refine cutR hR3 ?_ | refine cutR hR4 ?_ | refine cutR hR5 ?_ | refine cutR hR6 ?_ | refine cutR hR7 ?_ | refine cutR hR8 ?_ | refine cutR hR9 ?_ | refine cutR hR10 ?_ | refine cutR hR11 ?_ | refine cutR hR12 ?_ | refine cutR hR13 ?_ | refine cutR hR14 ?_ | refine cutR hR15 ?_ | refine cutR hR16 ?_) | simp only [wSeq, wAssign, wStore, wLst, wOp2, wName, wVal, wIRange1, wFor, Loc.set, post, tgt_nil, tgt_cons, ofString_inj, String.reduceEq, List.length, List.cons.injEq, Option.some.injEq, V.int.injEq, if_true, if_false, exists_eq_left', and_true, true_and, Nat.reduceAdd, Nat.reduceLeDiff, Int.reduceNeg])
                refine ⟨by exact ar437, by exact ar601 hz hz1 hLs, ?_⟩
                rw [show ((L : Int)).toNat = L by exact ar264]
                have hBco : ∀ t, co ((List.range (L + 1)).map fun i => ((ai L c i : Int) : Rat)) t = AA L c t := fun t => by
                  rw [co_range]
                  split
                  · exact ai_AA ..
                  · rw [AA_big (by exact ar602 (by assumption))]
                have hBl : ((List.range (L + 1)).map fun i => ((ai L c i : Int) : Rat)).length = L + 1 := by simp
                have hBi : ∀ i, i < L + 1 → (((List.range (L + 1)).map fun i => ((ai L c i : Int) : Rat)).map qv)[i]? = some (V.tup [.int (ai L c i), .int 1]) := fun i hi => by simp [hi]; rfl
                generalize hBle : (List.range (L + 1)).map (fun i => ((ai L c i : Int) : Rat)) = Bl at hBco hBl hBi ⊢
                have hbB : ((σ11 ++ [[qv 1]] ++ [(List.range L).map fun i => qv ((ai L c (i + 1) : Int) : Rat)]) ++ [Bl.map qv])[(σ11 ++ [[qv 1]] ++ [(List.range L).map fun i => qv ((ai L c (i + 1) : Int) : Rat)]).length]? = some (Bl.map qv) := got_at0
                have hrB : ((σ11 ++ [[qv 1]] ++ [(List.range L).map fun i => qv ((ai L c (i + 1) : Int) : Rat)]) ++ [Bl.map qv])[kr]? = some (rt.map qv) := got_app (got_app (got_app hr11))
                have hwB : ((σ11 ++ [[qv 1]] ++ [(List.range L).map fun i => qv ((ai L c (i + 1) : Int) : Rat)]) ++ [Bl.map qv])[σ2.length]? = some (W.map V.int) := got_app (got_app (got_app hw11))
                generalize (σ11 ++ [[qv 1]] ++ [(List.range L).map fun i => qv ((ai L c (i + 1) : Int) : Rat)]).length = kb at hbB ⊢
                generalize (σ11 ++ [[qv 1]] ++ [(List.range L).map fun i => qv ((ai L c (i + 1) : Int) : Rat)]) ++ [Bl.map qv] = σB at hbB hrB hwB ⊢
                refine for_of (fun i ε σ' => IvTop L kr kb c W σ2 σB i ε σ') ?_ ?_ ?_
                · refine ⟨pre_app, by exact ar51, by kernel_rfl, by kernel_rfl, (Eq.trans (by kernel_rfl) h3), by kernel_rfl, by kernel_rfl, got_at0⟩
                · intro ε1 σ12; refine hide fun Gq hGq => ?_; rintro ⟨q0, _, q1, q2, q3, q4, q5, q6⟩; refine hGq ?_; clear hGq
                  rw [rng_len] at q6
                  refine ⟨trivial, ?_⟩
                  repeat (first | (with_reducible first | refine cutR hR1 ?_ | refine cutR hR2 ?_ | refine cutR hR3 ?_ | refine cutR hR4 ?_ | refine cutR hR5 ?_ | refine cutR hR6 ?_ | refine cutR hR7 ?_ | refine cutR hR8 ?_ | refine cutR hR9 ?_ | refine cutR hR10 ?_ | refine cutR hR11 ?_ | refine cutR hR12 ?_ | refine cutR hR13 ?_ | refine cutR hR14 ?_ | refine cutR hR15 ?_ | refine cutR hR16 ?_) | simp only [wSeq, wVal, post])
                  refine while_of (fun m ε σ' => σB <+: σ' ∧ m ≤ L ∧ ε (Str.ofString "ratios") = some (.ref kr) ∧ ε (Str.ofString "many") = some (.int L) ∧ ε (Str.ofString "bottom") = some (.ref kb) ∧ ∃ (ktp : Nat), IvCutA L kr kb c W σB m ε σ' ktp) L ⟨q0, Nat.le_refl _, q1, q2, q4, _, q5, q6, fun t h1 h2 => by exact ar603 h1 h2⟩ ?_
                  intro m ε2 σ13 K2 hK2; refine hide fun Gq hGq => ?_; rintro ⟨p0, pm, p1, p2, p3, ktp, p4, p5, p6⟩; refine hGq ?_; clear hGq
                  repeat (first | (with_reducible first | refine cutR hR1 ?_ | refine cutR hR2 ?_ | refine cutR hR3 ?_ | refine cutR hR4 ?_ | refine cutR hR5 ?_ | refine cutR hR6 ?_ | refine cutR hR7 ?_ | refine cutR hR8 ?_ | refine cutR hR9 ?_ | refine cutR hR10 ?_ | refine cutR hR11 ?_ | refine cutR hR12 ?_ | refine cutR hR13 ?_ | refine cutR hR14 ?_ | refine cutR hR15 ?_ | refine cutR hR16 ?_) | simp only [p4, wSeq, wNil, wAssign, wStore, wTup, wLst, wOp2, wUn, wName, wVal, wTest, wAnd, neg_i, qv0, List.length, Option.some.injEq, exists_eq_left', and_true, true_and, Nat.reduceAdd, Nat.reduceLeDiff, Int.reduceNeg, forall_const, false_implies, Bool.false_eq_true])
                  have hTl : ((List.range m).map fun t => ((TT L c (gi W) t : Int) : Rat)).length = m := by simp
                  have hTc : ∀ t, co ((List.range m).map fun t => ((TT L c (gi W) t : Int) : Rat)) t = if t < m then ((TT L c (gi W) t : Int) : Rat) else 0 := fun t => co_range
                  have hTn : (List.range m).map (fun t => ((TT L c (gi W) t : Int) : Rat)) = [] ↔ m = 0 := by rw [← List.length_eq_zero_iff, hTl]
                  have hTm : ((List.range m).map fun t => ((TT L c (gi W) t : Int) : Rat)).take (m - 1) = (List.range (m - 1)).map fun t => ((TT L c (gi W) t : Int) : Rat) := by rw [← List.map_take, List.take_range, Nat.min_eq_left (by exact ar604)]
                  generalize hTe : (List.range m).map (fun t => ((TT L c (gi W) t : Int) : Rat)) = Tl at hTl hTc hTn hTm p5
                  have p5' := got_app (τ := [[]]) p5
                  have p0' : σB <+: σ13 ++ [[]] := List.IsPrefix.trans p0 pre_app
                  refine ne_nil_q p5' got_at0 ?_
                  generalize σ13 ++ [[]] = σ14 at p5' p0'
                  refine' (fun (fin : (m = 0 ∨ ((TT L c (gi W) (m - 1) : Int) : Rat) ≠ 0) → _) => ?main) ?fin
                  case main =>
                    refine ⟨_, rfl, fun hn => ?_, fun hn => ?_⟩
                    rotate_left
                    · have hm0 : ¬ m = 0 := by simpa [hTn] using hn
                      refine qlast p5' (by exact ar605 hTl hm0) ?_
                      rw [hTl, hTc, if_pos (by exact ar606 hm0)]
                      repeat (first | (with_reducible first | refine cutR hR1 ?_ | refine cutR hR2 ?_ | refine cutR hR3 ?_ | refine cutR hR4 ?_ | refine cutR hR5 ?_ | refine cutR hR6 ?_ | refine cutR hR7 ?_ | refine cutR hR8 ?_ | refine cutR hR9 ?_ | refine cutR hR10 ?_ | refine cutR hR11 ?_ | refine cutR hR12 ?_ | refine cutR hR13 ?_ | refine cutR hR14 ?_ | refine cutR hR15 ?_ | refine cutR hR16 ?_) | simp only [eq_q, V.bool.injEq, exists_eq_left', Int.reduceNeg, decide_eq_true_eq, decide_eq_false_iff_not])
                      refine ⟨fun hz => ?_, fun hz => ?_⟩
                      rotate_left
                      · refine upto_ref p5' ?_
                        rw [List.length_map, upto_m1, map_take, hTl, hTm]
                        refine hK2 (m - 1) _ _ (by exact ar606 hm0) ⟨List.IsPrefix.trans p0' pre_app, by exact ar255 pm, (Eq.trans (by kernel_rfl) p1), (Eq.trans (by kernel_rfl) p2), (Eq.trans (by kernel_rfl) p3), _, by simp [Loc.set], got_at0, fun t t1 t2 => ?_⟩
                        by_cases e : t = m - 1
                        · rw [e]; exact Rat.intCast_eq_zero_iff.mp hz
                        · exact p6 t (by exact ar256 t1 e) t2
                      · exact fin (.inr hz)
                    · exact fin (.inl (by simpa [hTn] using hn))
                  case fin =>
                    intro hend
                    repeat (first | (with_reducible first | refine cutR hR1 ?_ | refine cutR hR2 ?_ | refine cutR hR3 ?_ | refine cutR hR4 ?_ | refine cutR hR5 ?_ | refine cutR hR6 ?_ | refine cutR hR7 ?_ | refine cutR hR8 ?_ | refine cutR hR9 ?_ | refine cutR hR10 ?_ | refine cutR hR11 ?_ | refine cutR hR12 ?_ | refine cutR hR13 ?_ | refine cutR hR14 ?_ | refine cutR hR15 ?_ | refine cutR hR16 ?_) | simp only [wSeq, wVal, post])
                    have hTt : Trm Tl := fun h0 => by
                      rw [hTl] at h0 ⊢
                      rw [hTc, if_pos (by exact ar258 h0)]
                      rcases hend with h | h
                      · exact ar607 h0 h
                      · exact h
                    refine while_of (fun m2 ε σ' => σB <+: σ' ∧ m2 ≤ L ∧ ε (Str.ofString "ratios") = some (.ref kr) ∧ ε (Str.ofString "many") = some (.int L) ∧ ε (Str.ofString "top") = some (.ref ktp) ∧ σ'[ktp]? = some (Tl.map qv) ∧ ∃ (kb2 : Nat), IvCutB L kr ktp c Tl σB m2 ε σ' kb2) L ⟨p0', Nat.le_refl _, p1, p2, p4, p5', _, p3, by rw [hBle]; exact got_pre p0' hbB, fun t ht => by rw [ai, if_neg (by exact ar92 ht), if_neg (by exact ar93 ht)]⟩ ?_
                    intro m2 ε3 σ15 K4 hK4; refine hide fun Gq hGq => ?_; rintro ⟨o0, om, o1, o2, o3, o4, kb2, o5, o6, o7⟩; refine hGq ?_; clear hGq
                    have hOl : ((List.range (m2 + 1)).map fun t => ((ai L c t : Int) : Rat)).length = m2 + 1 := by simp
                    have hOc : ∀ t, co ((List.range (m2 + 1)).map fun t => ((ai L c t : Int) : Rat)) t = if t < m2 + 1 then ((ai L c t : Int) : Rat) else 0 := fun t => co_range
                    have hOm : ((List.range (m2 + 1)).map fun t => ((ai L c t : Int) : Rat)).take m2 = (List.range m2).map fun t => ((ai L c t : Int) : Rat) := by rw [← List.map_take, List.take_range, Nat.min_eq_left (by exact ar145)]
                    generalize (List.range (m2 + 1)).map (fun t => ((ai L c t : Int) : Rat)) = Ol at o6 hOl hOc hOm
                    repeat (first | (with_reducible first | refine cutR hR1 ?_ | refine cutR hR2 ?_ | refine cutR hR3 ?_ | refine cutR hR4 ?_ | refine cutR hR5 ?_ | refine cutR hR6 ?_ | refine cutR hR7 ?_ | refine cutR hR8 ?_ | refine cutR hR9 ?_ | refine cutR hR10 ?_ | refine cutR hR11 ?_ | refine cutR hR12 ?_ | refine cutR hR13 ?_ | refine cutR hR14 ?_ | refine cutR hR15 ?_ | refine cutR hR16 ?_) | simp only [o5, wSeq, wNil, wAssign, wStore, wTup, wOp2, wUn, wName, wVal, wTest, neg_i, qv0, List.length, Option.some.injEq, exists_eq_left', true_and, Nat.reduceAdd, Nat.reduceLeDiff, Int.reduceNeg])
                    refine qlast o6 (by exact ar608 hOl) ?_
                    rw [hOl, hOc, if_pos (by exact ar609), Nat.add_sub_cancel]
                    repeat (first | (with_reducible first | refine cutR hR1 ?_ | refine cutR hR2 ?_ | refine cutR hR3 ?_ | refine cutR hR4 ?_ | refine cutR hR5 ?_ | refine cutR hR6 ?_ | refine cutR hR7 ?_ | refine cutR hR8 ?_ | refine cutR hR9 ?_ | refine cutR hR10 ?_ | refine cutR hR11 ?_ | refine cutR hR12 ?_ | refine cutR hR13 ?_ | refine cutR hR14 ?_ | refine cutR hR15 ?_ | refine cutR hR16 ?_) | simp only [eq_q, V.bool.injEq, exists_eq_left', Int.reduceNeg, decide_eq_true_eq, decide_eq_false_iff_not])
                    refine ⟨fun hz => ?_, fun hz => ?_⟩
                    · have hz' : ai L c m2 ≠ 0 := fun e => hz (by rw [e]; rfl)
                      have hOt : Trm Ol := fun h0 => by rw [hOl, Nat.add_sub_cancel, hOc, if_pos (by exact ar12)]; exact hz
                      have hOa : ∀ t, co Ol t = AA L c t := fun t => by
                        rw [hOc, ← ai_AA]
                        split
                        · rfl
                        · rw [o7 t (by exact ar602 (by assumption))]; rfl
                      have hTa : ∀ t, co Tl t = if t < L then cv (AA L c) (rq (gi W)) t else 0 := fun t => by
                        rw [hTc]
                        by_cases e : t < m
                        · rw [if_pos e, if_pos (by exact ar565 pm e), TT_cast]
                        · rw [if_neg e]
                          by_cases e2 : t < L
                          · rw [if_pos e2, ← TT_cast, p6 t (by exact ar15 e) e2]; rfl
                          · rw [if_neg e2]
                      have hec : ∀ r o : List Rat, Euc L (rt.take (2 * L)) r o → (∀ i, co o i = co o 0 * AA L c i) ∧ ∀ k, k < L → co r k = co o 0 * cv (AA L c) (rq (gi W)) k := fun r o he =>
                        hg.euc (a := co (rt.take (2 * L))) (fun k hk => by rw [co_take, if_pos hk, hrt]) (fun k hk => co_big (by have := he.lr; exact ar610 hk this)) (fun i hi => co_big (by have := he.lo'; exact ar611 hi this)) he.eq
                      have hen : ∀ r o : List Rat, Euc L (rt.take (2 * L)) r o → co o 0 ≠ 0 := fun r o he e => by
                        have := (hec r o he).1 (o.length - 1)
                        rw [e, Rat.zero_mul] at this
                        exact he.to he.lo this
                      repeat (first | (with_reducible first | refine cutR hR1 ?_ | refine cutR hR2 ?_ | refine cutR hR3 ?_ | refine cutR hR4 ?_ | refine cutR hR5 ?_ | refine cutR hR6 ?_ | refine cutR hR7 ?_ | refine cutR hR8 ?_ | refine cutR hR9 ?_ | refine cutR hR10 ?_ | refine cutR hR11 ?_ | refine cutR hR12 ?_ | refine cutR hR13 ?_ | refine cutR hR14 ?_ | refine cutR hR15 ?_ | refine cutR hR16 ?_) | simp only [o1, o2, o3, o5, wSeq, wRet, wTup, wOp2, wCall, wName, wVal, post, bin_sub, List.length, Option.some.injEq, exists_eq_left', true_and, Nat.reduceAdd, Nat.reduceLeDiff])
                      refine ⟨kr, L, rt, rfl, got_pre o0 hrB, hrl, by exact ar597 (by assumption) hz1 hLs, hrw, hen, fun σ16 k1 k2 r o R O hp16 hR hO he hRl hOl2 hRc hOc2 => ?_⟩
                      have h0 := hen r o he
                      have hi0 : (co o 0)⁻¹ ≠ 0 := by grind
                      obtain ⟨hec1, hec2⟩ := hec r o he
                      have eR : R = Tl := trm_eq (trm_scale he.tr hi0 hRl hRc) hTt fun t => by
                        rw [hRc, hTa]
                        split
                        · rename_i ht
                          rw [hec2 t ht]; grind
                        · rw [co_big (by have := he.lr; exact ar612 (by assumption) this), Rat.zero_mul]
                      have eO : O = Ol := trm_eq (trm_scale he.to hi0 hOl2 hOc2) hOt fun t => by
                        rw [hOc2, hOa, hec1 t]; grind
                      rw [eR] at hR
                      rw [eO] at hO
                      exact eq_pair_q hR hO (got_pre hp16 o4) (got_pre hp16 o6) (hP _)
                    · have hz' : ai L c m2 = 0 := Rat.intCast_eq_zero_iff.mp hz
                      have hm20 : m2 ≠ 0 := fun e => by subst e; revert hz'; rw [ai, if_pos rfl]; decide
                      refine upto_ref o6 ?_
                      rw [List.length_map, upto_m1, map_take, hOl, Nat.add_sub_cancel, hOm]
                      refine hK4 (m2 - 1) _ _ (by exact ar613 hm20) ⟨List.IsPrefix.trans o0 pre_app, by exact ar255 om, (Eq.trans (by kernel_rfl) o1), (Eq.trans (by kernel_rfl) o2), (Eq.trans (by kernel_rfl) o3), got_app o4, _, by simp [Loc.set]; rfl, by rw [show m2 - 1 + 1 = m2 by exact ar614 hm20]; exact got_at0, fun t ht => ?_⟩
                      by_cases e : t = m2
                      · rw [e]; exact hz'
                      · exact o7 t (by exact ar615 ht e)
                · intro i x ε1 σ12 K2 hx hK2; refine hide fun Gq hGq => ?_; rintro ⟨q0, _, q1, q2, q3, q4, q5, q6⟩; refine hGq ?_; clear hGq
                  obtain ⟨rfl, hi⟩ := rng_get hx
                  refine ⟨trivial, ?_⟩
                  repeat (first | (with_reducible first | refine cutR hR1 ?_ | refine cutR hR2 ?_ | refine cutR hR3 ?_ | refine cutR hR4 ?_ | refine cutR hR5 ?_ | refine cutR hR6 ?_ | refine cutR hR7 ?_ | refine cutR hR8 ?_ | refine cutR hR9 ?_ | refine cutR hR10 ?_ | refine cutR hR11 ?_ | refine cutR hR12 ?_ | refine cutR hR13 ?_ | refine cutR hR14 ?_ | refine cutR hR15 ?_ | refine cutR hR16 ?_) | simp only [wSeq, wNil, wAssign, wStore, wUnpack, wACons, wIf, wExpr, wNo, wTup, wOp2, wName, wVal, wTest, wOr, wApp, wIRange1, wFor, Loc.set, bin_add, ofString_inj, String.reduceEq, List.length, List.cons.injEq, List.nil_eq, Option.some.injEq, V.int.injEq, V.tup.injEq, if_true, if_false, exists_eq_left, exists_eq_left', exists_and_left, and_true, true_and, Nat.reduceAdd, Nat.reduceLeDiff, Int.reduceNeg, forall_const, false_implies, and_assoc, Bool.true_eq_false])
                  refine ⟨by exact ar616, by exact ar617 hz hz1 hLs hi, ?_⟩
                  rw [show (0 + (i : Int) + 1).toNat = i + 1 by exact ar618]
                  refine for_of (fun b ε2 σ' => IvSum L kr kb i c W σ2 σB σ12 b ε2 σ') ?_ ?_ ?_
                  · refine ⟨rfl, by simp [Loc.set, ofString_inj, q1], by simp [Loc.set, ofString_inj, q2], by simp [Loc.set, ofString_inj, q3], by simp [Loc.set, ofString_inj, q4], by simp [Loc.set, ofString_inj, q5], by simp [Loc.set, ofString_inj], by simp [Loc.set], by simp [Loc.set, ofString_inj]; rfl⟩
                  · intro ε2 σ13; refine hide fun Gq hGq => ?_; rintro ⟨rfl, p1, p2, p3, p4, p5, p6, p7, p8⟩; refine hGq ?_; clear hGq
                    rw [rng_len] at p8
                    refine ⟨trivial, ?_⟩
                    repeat (first | (with_reducible first | refine cutR hR1 ?_ | refine cutR hR2 ?_ | refine cutR hR3 ?_ | refine cutR hR4 ?_ | refine cutR hR5 ?_ | refine cutR hR6 ?_ | refine cutR hR7 ?_ | refine cutR hR8 ?_ | refine cutR hR9 ?_ | refine cutR hR10 ?_ | refine cutR hR11 ?_ | refine cutR hR12 ?_ | refine cutR hR13 ?_ | refine cutR hR14 ?_ | refine cutR hR15 ?_ | refine cutR hR16 ?_) | simp only [p5, p7, p8, bin_fdiv, bin_mod, eq_ints, ne_ints, Option.some.injEq, V.ref.injEq, V.bool.injEq, exists_eq_left', ne_eq, decide_eq_true_eq, decide_eq_false_iff_not, Bool.not_eq_true', Bool.not_eq_false'])
                    refine ⟨fun h => absurd h (by decide), fun _ => ⟨by decide, fun h => absurd (Int.fmod_one _) h, fun _ => ⟨by decide, _, q6, by simp; exact ar619 hz hz1 hLs hi, ?_⟩⟩⟩
                    rw [Int.fdiv_one]
                    refine hK2 _ _ ⟨pre_set q0 (Nat.le_refl _), by exact ar96 hi, p1, p2, p3, p4, p5, ?_⟩
                    rw [got_set q6, List.range_succ, List.map_append, List.map_append]
                    rfl
                  · intro b x ε2 σ13 K3 hx hK3; refine hide fun Gq hGq => ?_; rintro ⟨rfl, p1, p2, p3, p4, p5, p6, p7, p8⟩; refine hGq ?_; clear hGq
                    obtain ⟨rfl, hb⟩ := rng_get hx
                    refine ⟨trivial, ?_⟩
                    repeat (first | (with_reducible first | refine cutR hR1 ?_ | refine cutR hR2 ?_ | refine cutR hR3 ?_ | refine cutR hR4 ?_ | refine cutR hR5 ?_ | refine cutR hR6 ?_ | refine cutR hR7 ?_ | refine cutR hR8 ?_ | refine cutR hR9 ?_ | refine cutR hR10 ?_ | refine cutR hR11 ?_ | refine cutR hR12 ?_ | refine cutR hR13 ?_ | refine cutR hR14 ?_ | refine cutR hR15 ?_ | refine cutR hR16 ?_) | simp only [p3, p4, p6, p7, p8, wSeq, wNil, wSwap, wStore, wTup, wStores, Loc.set, bin_sub, ofString_inj, String.reduceEq, List.reverse, List.reverseAux, List.length, Option.some.injEq, V.tup.injEq, if_true, if_false, exists_eq_left', true_and, Nat.reduceAdd, Nat.reduceLeDiff])
                    have hb0 : (0 + (b : Int)).toNat = b := by exact ar620
                    have hbi := hBi b (by exact ar621 hi hb)
                    have hbk := got_pre q0 hbB
                    have f16 : ∀ b, (ai L c b * gi W (i - b)).natAbs < 2 ^ 16 := fun b => by
                      have h8 : (gi W (i - b)).natAbs < 2 ^ 8 := hW.sm (i - b)
                      exact natAbs_lt_mul (n := 8) (m := 8) (hg.ai_small b) h8
                    have fS := ism_small f16 b
                    refine item_ref hbk (by exact ar622) (by rw [hb0]; exact hbi) ?_
                    repeat (first | (with_reducible first | refine cutR hR1 ?_ | refine cutR hR2 ?_ | refine cutR hR3 ?_ | refine cutR hR4 ?_ | refine cutR hR5 ?_ | refine cutR hR6 ?_ | refine cutR hR7 ?_ | refine cutR hR8 ?_ | refine cutR hR9 ?_ | refine cutR hR10 ?_ | refine cutR hR11 ?_ | refine cutR hR12 ?_ | refine cutR hR13 ?_ | refine cutR hR14 ?_ | refine cutR hR15 ?_ | refine cutR hR16 ?_) | simp only [tup1, bin_mul])
                    refine ⟨mulok (n := 20) (m := 1) (by omega) (by decide) (by decide), ?_⟩
                    refine item_ref hbk (by exact ar622) (by rw [hb0]; exact hbi) ?_
                    repeat (first | (with_reducible first | refine cutR hR1 ?_ | refine cutR hR2 ?_ | refine cutR hR3 ?_ | refine cutR hR4 ?_ | refine cutR hR5 ?_ | refine cutR hR6 ?_ | refine cutR hR7 ?_ | refine cutR hR8 ?_ | refine cutR hR9 ?_ | refine cutR hR10 ?_ | refine cutR hR11 ?_ | refine cutR hR12 ?_ | refine cutR hR13 ?_ | refine cutR hR14 ?_ | refine cutR hR15 ?_ | refine cutR hR16 ?_) | simp only [tup0])
                    refine item_ref (got_pre q0 hwB) (by exact ar623 hb) (v := .int (gi W (i - b))) ?_ ?_
                    · rw [show ((i : Int) - (0 + (b : Int))).toNat = i - b by exact ar624, List.getElem?_map, hW6 _ (by exact ar625 hz hz1 hLs hi)]; rfl
                    repeat (first | (with_reducible first | refine cutR hR1 ?_ | refine cutR hR2 ?_ | refine cutR hR3 ?_ | refine cutR hR4 ?_ | refine cutR hR5 ?_ | refine cutR hR6 ?_ | refine cutR hR7 ?_ | refine cutR hR8 ?_ | refine cutR hR9 ?_ | refine cutR hR10 ?_ | refine cutR hR11 ?_ | refine cutR hR12 ?_ | refine cutR hR13 ?_ | refine cutR hR14 ?_ | refine cutR hR15 ?_ | refine cutR hR16 ?_) | simp only [bin_add, bin_mul])
                    refine ⟨mulok (n := 8) (m := 8) (hg.ai_small b) (hW.sm _) (by decide), mulok (n := 16) (m := 1) (f16 b) (by decide) (by decide), ?_⟩
                    refine item_ref hbk (by exact ar622) (by rw [hb0]; exact hbi) ?_
                    repeat (first | (with_reducible first | refine cutR hR1 ?_ | refine cutR hR2 ?_ | refine cutR hR3 ?_ | refine cutR hR4 ?_ | refine cutR hR5 ?_ | refine cutR hR6 ?_ | refine cutR hR7 ?_ | refine cutR hR8 ?_ | refine cutR hR9 ?_ | refine cutR hR10 ?_ | refine cutR hR11 ?_ | refine cutR hR12 ?_ | refine cutR hR13 ?_ | refine cutR hR14 ?_ | refine cutR hR15 ?_ | refine cutR hR16 ?_) | simp only [tup1, bin_mul])
                    refine ⟨mulok (n := 1) (m := 1) (by decide) (by decide) (by decide), hK3 _ _ ⟨rfl, (Eq.trans (by kernel_rfl) p1), (Eq.trans (by kernel_rfl) p2), (Eq.trans (by kernel_rfl) p3), (Eq.trans (by kernel_rfl) p4), (Eq.trans (by kernel_rfl) p5), (Eq.trans (by kernel_rfl) p6), by kernel_rfl, ?_⟩⟩
                    simp [Loc.set, ism]
            · intro i x acc σ' K2 hx hK2; refine hide fun Gq hGq => ?_; rintro ⟨rfl, rfl⟩; refine hGq ?_; clear hGq
              have hi : i < L := by
                have := (List.getElem?_eq_some_iff.mp hx).1
                rw [fl_len] at this; exact this
              rw [fl_get hi] at hx
              cases hx
              refine ⟨got_app hx9, ?_⟩
              repeat (first | (with_reducible first | refine cutR hR1 ?_ | refine cutR hR2 ?_ | refine cutR hR3 ?_ | refine cutR hR4 ?_ | refine cutR hR5 ?_ | refine cutR hR6 ?_ | refine cutR hR7 ?_ | refine cutR hR8 ?_ | refine cutR hR9 ?_ | refine cutR hR10 ?_ | refine cutR hR11 ?_ | refine cutR hR12 ?_ | refine cutR hR13 ?_ | refine cutR hR14 ?_ | refine cutR hR15 ?_ | refine cutR hR16 ?_) | simp only [wStore, wOp2, wName, wTrue, compLoc, Loc.set, ofString_inj, ofString_beq, String.reduceEq, String.reduceBEq, List.lookup_cons, Option.some.injEq, reduceCtorEq, if_true, if_false, exists_eq_left', and_true, forall_const, false_implies, Bool.true_eq_false])
              refine upto_ref (got_app (hM9.row i (by exact ar626 hz hz1 hLs hi))) ?_
              rw [fl_len, upto_nat (by exact ar597 hz hz1 hLs), fl_take (by exact ar597 hz hz1 hLs)]
              obtain ⟨m1, m2⟩ := made_more (σ := σ9) (i := i) (m := L) (M := fun r y => V.int (gi W (r + y))) rfl
              refine ⟨by simp; exact ar619 hz hz1 hLs hi, hK2 _ _ ⟨?_, ?_⟩⟩
              · exact m1
              · exact m2
          · intro i x acc σ' K2 hx hK2; refine hide fun Gq hGq => ?_; rintro ⟨rfl, rfl⟩; refine hGq ?_; clear hGq
            obtain ⟨rfl, hi⟩ := rng_get hx
            refine ⟨trivial, ?_⟩
            repeat (first | (with_reducible first | refine cutR hR1 ?_ | refine cutR hR2 ?_ | refine cutR hR3 ?_ | refine cutR hR4 ?_ | refine cutR hR5 ?_ | refine cutR hR6 ?_ | refine cutR hR7 ?_ | refine cutR hR8 ?_ | refine cutR hR9 ?_ | refine cutR hR10 ?_ | refine cutR hR11 ?_ | refine cutR hR12 ?_ | refine cutR hR13 ?_ | refine cutR hR14 ?_ | refine cutR hR15 ?_ | refine cutR hR16 ?_) | simp only [wStore, wTrue, wIRange1, wComp, List.cons.injEq, V.int.injEq, exists_eq_left', and_true, Int.reduceNeg, forall_const, false_implies, Bool.true_eq_false])
            refine ⟨by decide, by decide, ?_⟩
            show compL _ _ _ _ _ (rng 0 3) _ _ _
            refine comp_map (fun y => V.int (gi W (i + y))) (by rw [rng_len]; decide) trivial ?_ ?_
            · intro y x K3 KF hx hK3
              obtain ⟨rfl, hy⟩ := rng_get hx
              repeat (first | (with_reducible first | refine cutR hR1 ?_ | refine cutR hR2 ?_ | refine cutR hR3 ?_ | refine cutR hR4 ?_ | refine cutR hR5 ?_ | refine cutR hR6 ?_ | refine cutR hR7 ?_ | refine cutR hR8 ?_ | refine cutR hR9 ?_ | refine cutR hR10 ?_ | refine cutR hR11 ?_ | refine cutR hR12 ?_ | refine cutR hR13 ?_ | refine cutR hR14 ?_ | refine cutR hR15 ?_ | refine cutR hR16 ?_) | simp only [h3, wStore, wOp2, wName, wTrue, compLoc, Loc.set, bin_add, ofString_inj, ofString_beq, String.reduceEq, String.reduceBEq, List.lookup_cons, List.lookup_nil, Option.some.injEq, reduceCtorEq, if_true, if_false, exists_eq_left', and_true, forall_const, false_implies, Bool.true_eq_false])
              refine item_ref (got_app hw4) (by exact ar627) (v := .int (gi W (i + y))) ?_ hK3
              rw [show (0 + (i : Int) + (0 + (y : Int))).toNat = i + y by exact ar628, List.getElem?_map, hW6 (i + y) (by exact ar629 hi hy)]; rfl
            · rw [rng_len]
              obtain ⟨m1, m2⟩ := made_more (σ := σ4) (i := i) (m := 3) (M := fun r y => V.int (gi W (r + y))) rfl
              exact ⟨by simp; exact ar630 hi, hK2 _ _ ⟨m1, m2⟩⟩
      · intro hlt
        have hm : 6 - m < 6 := by exact ar631 hlt
        refine comp_map (fun t => .int (gi steps t * gi W (6 - m - 1 - t))) (by rw [enm_len, List.length_map]; exact ar632 hz hz1 hsl) h7 ?_ ?_
        · intro t x K2 KF hx hK2
          obtain ⟨y, hy, rfl⟩ := enm_get hx
          rw [List.getElem?_map] at hy
          have ht : t < steps.length := by
            refine Decidable.byContradiction fun h => ?_
            rw [List.getElem?_eq_none (by exact ar15 h)] at hy; cases hy
          have hgs : gi steps t = steps[t] := by simp [gi, ht]
          simp only [List.getElem?_eq_getElem ht, Option.map_some, Option.some.injEq] at hy
          subst hy
          repeat (first | (with_reducible first | refine cutR hR1 ?_ | refine cutR hR2 ?_ | refine cutR hR3 ?_ | refine cutR hR4 ?_ | refine cutR hR5 ?_ | refine cutR hR6 ?_ | refine cutR hR7 ?_ | refine cutR hR8 ?_ | refine cutR hR9 ?_ | refine cutR hR10 ?_ | refine cutR hR11 ?_ | refine cutR hR12 ?_ | refine cutR hR13 ?_ | refine cutR hR14 ?_ | refine cutR hR15 ?_ | refine cutR hR16 ?_) | simp only [h3, h6, wStore, wUnpack, wACons, wOp2, wCall, wName, wVal, wTrue, compLoc, Loc.set, bin_sub, ofString_inj, ofString_beq, String.reduceEq, String.reduceBEq, cLen, List.length, List.lookup_cons, List.cons.injEq, List.nil_eq, Option.some.injEq, V.ref.injEq, V.tup.injEq, reduceCtorEq, if_true, if_false, exists_eq_left, exists_eq_left', exists_and_left, and_true, true_and, Nat.reduceAdd, forall_const, false_implies, and_assoc, Bool.true_eq_false, List.length_map])
          rw [hlen]
          have htW : 6 - m - 1 - t < W.length := by exact ar633 hWl
          refine item_ref h6 (by exact ar634 hsl h2 ht) (v := .int (gi W (6 - m - 1 - t))) ?_ ?_
          · rw [show (((6 - m : Nat) : Int) - 1 - t).toNat = 6 - m - 1 - t by exact ar635, List.getElem?_map, List.getElem?_take_of_lt (by exact ar636 hsl h2 ht), List.getElem?_eq_getElem htW]
            simp [gi, htW]
          · repeat (first | (with_reducible first | refine cutR hR1 ?_ | refine cutR hR2 ?_ | refine cutR hR3 ?_ | refine cutR hR4 ?_ | refine cutR hR5 ?_ | refine cutR hR6 ?_ | refine cutR hR7 ?_ | refine cutR hR8 ?_ | refine cutR hR9 ?_ | refine cutR hR10 ?_ | refine cutR hR11 ?_ | refine cutR hR12 ?_ | refine cutR hR13 ?_ | refine cutR hR14 ?_ | refine cutR hR15 ?_ | refine cutR hR16 ?_) | simp only [bin_mul])
            rw [← hgs]
            refine ⟨mulok (n := 8) (m := 8) ?_ (hW.sm _) (by decide), hK2⟩
            rw [hgs]; exact dom_small (hsd _ (List.getElem_mem ht))
        · rw [enm_len, List.length_map, hsl]
          have e : (List.range size).map (fun t => V.int (gi steps t * gi W (6 - m - 1 - t))) = ((List.range size).map fun t => gi steps t * gi W (6 - m - 1 - t)).map V.int := by rw [List.map_map]; rfl
          rw [e]
          refine ⟨(List.range size).map fun t => gi steps t * gi W (6 - m - 1 - t), got_at0, sumFits_small (fun x hx => ?_) (by simp; exact ar637 hz hz1), ?_⟩
          · obtain ⟨t, ht, rfl⟩ := List.mem_map.mp hx
            have ht : t < size := by simpa using ht
            have hb1 : (gi steps t).natAbs < 2 ^ 8 := by
              have hgs : gi steps t = steps[t]'(by exact ar638 hsl ht) := by simp [gi, show t < steps.length by exact ar638 hsl ht]
              rw [hgs]; exact dom_small (hsd _ (List.getElem_mem _))
            have hb2 : (gi W (6 - m - 1 - t)).natAbs < 2 ^ 8 := hW.sm _
            have := natAbs_lt_mul hb1 hb2
            omega
          · rw [← hW.rc (6 - m) h2 hm]
            refine ⟨_, got_app h6, by simp; exact ar639, hK (m - 1) _ _ (by exact ar640 hlt) ⟨by exact ar641 h1, by exact ar642 h2, h3, h4, h5, ?_, ?_⟩⟩
            · rw [got_set (got_app h6), show 6 - (m - 1) = 6 - m + 1 by exact ar643 h1 hlt, List.take_add_one, List.map_append]
              congr 2
              rw [List.getElem?_eq_getElem (by exact ar644 hWl hlt)]
              simp [gi, show 6 - m < W.length by exact ar644 hWl hlt]
            · rw [List.getElem?_set_ne (by exact ar645 hl2)]; exact got_app h7
end Mine

namespace Mine
open PySem PySem.W PyProof.Rows
set_option maxRecDepth 100000
theorem gt : pg.given.tree = none := by first | rfl | kernel_rfl
theorem stands_of {H0 : Heap} {mg : Str → Option Value} {x : Str} {i j : Int} {lv : List (Str × WData)} (V : LooseAre lv mg H0) (hm : (x, WData.tuple [.int i, .int j]) ∈ lv) : Stands H0 mg x (.tup [.int i, .int j]) := by
  obtain ⟨v, hv, hr⟩ := V.val _ hm
  cases hr with
  | @tuple a o vs n xs as ho hc hd hr =>
  refine ⟨.ref a, hv, fun ρ h k => ?_⟩
  generalize hl : vs.toList = l at hr
  generalize ([] : List Addr) = q0 at hr
  cases hr with
  | @cons v1 vs1 d1 ds1 as1 bs1 r1 r2 =>
  cases r1
  cases r2 with
  | @cons v2 vs2 d2 ds2 as2 bs2 r3 r4 =>
  cases r3
  cases r4
  rename_i t1 t2
  refine .tup (vs := [.int i t1, .int j t2]) ⟨o, k _ _ ho, hc, n, by rw [hd, ← hl]⟩ rfl fun q v u h1 h2 => ?_
  match q, h1, h2 with
  | 0, h1, h2 => cases h1; cases h2; exact .int _ _
  | 1, h1, h2 => cases h1; cases h2; exact .int _ _
  | q + 2, h1, _ => simp at h1
end Mine

namespace Mine
open PySem PySem.W PyProof.Rows
set_option maxRecDepth 100000
set_option maxHeartbeats 8000000 in
theorem top : PySem.Challenge.rw_sa0106_01.Holds := by
  refine head fun d kwd hdef => ?_
  intro w s₀ s₁ mg mb G Y fa o pm cd doc dV kV ho hdd hcd hD hmg hg args vals as hpre hlay hrd hwl hlo
  have V := (Ground.X G).2
  have GL := glob_more (Ground.glob G (by decide +kernel) (by decide +kernel)) V
  have CX : Cx w s₁.heap mg mb := ⟨⟨gt, GL.g, GL.b, GL.nolimit, GL.seer, GL.builtins⟩, GL.made, GL.free, stands_of V (.head _), stands_of V (.tail _ (.head _))⟩
  obtain ⟨a, ha, hcall⟩ := ok_law CX
  have hfa : a = fa := by
    have e : d.name = Str.ofString "law" := defOf_name hdef
    rw [e, ha] at hmg
    cases hmg; rfl
  subst hfa
  clear ho hdd hcd hD hmg GL CX ha hdef
  refine Ground.open G ?_
  intro T B D TE TW
  try (refine guard_noD D (by decide +kernel) ?_; clear D)
  wrow_args hpre hlay hrd hwl hlo
  rename_i ns hs hlay0 hL1 hr1 hl2 as1 as2 sa vs as3 hL ra w1 r0 hI hr hc1 hc2
  have HR0 : HR s₁.heap [] [] s₁.heap := ⟨fun _ _ e => e, rfl, .nil, fun a h => by simp at h, fun k a xs h => by simp at h, fun k xs h => by simp at h⟩
  have hv : VRs s₁.heap [] s₁.heap [.frz ns] [.ref sa] := ⟨rfl, fun i x v h1 h2 => by
    match i, h1, h2 with
    | 0, h1, h2 => cases h1; cases h2; exact .frz hL hI
    | i + 1, h1, _ => simp at h1⟩
  have hcon : cLaw [.frz ns] [] (fun v _ => v = .bool true) := ⟨ns, rfl, by omega, fun _ => rfl⟩
  have RC : RoomC 13 callerA := ⟨rfl, by decide, by decide, ⟨_, rfl⟩⟩
  refine wpAny_mono (hcall callerA s₁ [] [] [.frz ns] [.ref sa] _ RC HR0 hv hcon) (fun u s' h => ?_) (fun _ _ h => h.elim)
  obtain ⟨ρ', σ', v, m, hu, hvt⟩ := h
  subst hvt
  cases hu
  obtain ⟨h', tk, hs'⟩ := m.eq
  refine ⟨.inl ⟨.bool true, .bool true, [], rfl, fun _ => ?_, .bool _, ?_, fun _ => ⟨.nil, fun a h => by simp at h⟩⟩, OldK.of_keep m.hr.keep, by rw [hs'], AllBare.of_eq (by rw [hs']; exact hg)⟩
  · first | rfl | kernel_rfl
  · first | rfl | kernel_rfl
end Mine

theorem PySem.Challenge.cw_sa0106_01_holds : PySem.Challenge.rw_sa0106_01.Holds := by
  exact Mine.top
