import PyProof.Rows.All
import Wide.All
import OpenK.AllK
import Wide.FinOn
import KE.KStateDown
import HandS.ForMost
import HandS.ForExc
import HandS.ExcIs
import KE.KExcIs
import HandS.ExcInit
import HandS.ExcField
import HandS.IsInst
import HandS.TupLe
import HandS.TupAny
import HandS.Wide
import HandS.Lambda
import HandS.EndTab
import HandS.Head0
import HandS.Head1
import HandS.Head2
import HandS.HeadEnd
import HandS.HeadHook1
import HandS.HeadHook2
import HandS.HeadHook3
import HandS.HeadHook4
import HandS.HeadWalk
import Lean
import HandS.Walk
import HandS.CallLocal
import PySem.Challenge.RW_restfold_k03_two_clocks

set_option autoImplicit false
namespace Rf

/-! ### gcd over lcm -/
theorem nat_gcd_lcm (c a b : Nat) (ha : 0 < a) (hb : 0 < b) : Nat.gcd (Nat.lcm a b) c ∣ Nat.lcm (Nat.gcd a c) (Nat.gcd b c) := by
  have hl : 0 < Nat.lcm a b := Nat.lcm_pos ha hb
  obtain ⟨d, hd⟩ : ∃ d, d = Nat.gcd (Nat.lcm a b) c := ⟨_, rfl⟩
  rw [← hd]
  have d1 : d ∣ Nat.lcm a b := hd ▸ Nat.gcd_dvd_left _ _
  have d2 : d ∣ c := hd ▸ Nat.gcd_dvd_right _ _
  have d0 : 0 < d := by rw [hd]; exact Nat.gcd_pos_of_pos_left _ hl
  obtain ⟨u, hu⟩ : ∃ u, u = Nat.gcd d a := ⟨_, rfl⟩
  obtain ⟨v, hv⟩ : ∃ v, v = Nat.gcd d b := ⟨_, rfl⟩
  obtain ⟨g, hg⟩ : ∃ g, g = Nat.gcd a b := ⟨_, rfl⟩
  have ud : u ∣ d := hu ▸ Nat.gcd_dvd_left _ _
  have ua : u ∣ a := hu ▸ Nat.gcd_dvd_right _ _
  have vd : v ∣ d := hv ▸ Nat.gcd_dvd_left _ _
  have vb : v ∣ b := hv ▸ Nat.gcd_dvd_right _ _
  have e0 : 0 < Nat.gcd d g := Nat.gcd_pos_of_pos_left _ d0
  have eguv : Nat.gcd u v ∣ Nat.gcd d g := by
    refine Nat.dvd_gcd (Nat.dvd_trans (Nat.gcd_dvd_left _ _) ud) ?_
    rw [hg]
    exact Nat.dvd_gcd (Nat.dvd_trans (Nat.gcd_dvd_left _ _) ua) (Nat.dvd_trans (Nat.gcd_dvd_right _ _) vb)
  have gl : g * Nat.lcm a b = a * b := by rw [hg]; exact Nat.gcd_mul_lcm a b
  have D : d * Nat.gcd d g ∣ u * v := by
    have q : u * v = Nat.gcd (d * v) (a * v) := by rw [hu, Nat.gcd_mul_right]
    rw [q]
    refine Nat.dvd_gcd ?_ ?_
    · rw [hv, ← Nat.gcd_mul_left, ← Nat.gcd_mul_left]
      refine Nat.dvd_gcd (Nat.gcd_dvd_left _ _) (Nat.dvd_trans (Nat.gcd_dvd_right _ _) (Nat.mul_dvd_mul_left d ?_))
      rw [hg]; exact Nat.gcd_dvd_right _ _
    · rw [hv, ← Nat.gcd_mul_left, ← Nat.gcd_mul_left]
      refine Nat.dvd_gcd (Nat.dvd_trans (Nat.gcd_dvd_right _ _) ?_) (Nat.dvd_trans (Nat.gcd_dvd_right _ _) ?_)
      · rw [Nat.mul_comm a d]
        exact Nat.mul_dvd_mul_left d (by rw [hg]; exact Nat.gcd_dvd_left _ _)
      · rw [← gl, Nat.mul_comm d g]
        exact Nat.mul_dvd_mul_left g d1
  have k : d ∣ Nat.lcm u v := by
    have q : u * v = Nat.gcd u v * Nat.lcm u v := (Nat.gcd_mul_lcm u v).symm
    rw [q] at D
    have D2 : d * Nat.gcd d g ∣ Nat.lcm u v * Nat.gcd d g := by
      refine Nat.dvd_trans D ?_
      rw [Nat.mul_comm]
      exact Nat.mul_dvd_mul_left _ eguv
    exact Nat.dvd_of_mul_dvd_mul_right e0 D2
  refine Nat.dvd_trans k (Nat.lcm_dvd ?_ ?_)
  · exact Nat.dvd_trans (Nat.dvd_gcd ua (Nat.dvd_trans ud d2)) (Nat.dvd_lcm_left _ _)
  · exact Nat.dvd_trans (Nat.dvd_gcd vb (Nat.dvd_trans vd d2)) (Nat.dvd_lcm_right _ _)

theorem gcd_lcm_dvd {a b c z : Int} (ha : 0 < a) (hb : 0 < b) (h1 : (Int.gcd a c : Int) ∣ z) (h2 : (Int.gcd b c : Int) ∣ z) : (Int.gcd (Int.lcm a b : Int) c : Int) ∣ z := by
  have h := nat_gcd_lcm c.natAbs a.natAbs b.natAbs (by omega) (by omega)
  have e : Int.gcd (Int.lcm a b : Int) c = Nat.gcd (Nat.lcm a.natAbs b.natAbs) c.natAbs := rfl
  rw [e]
  have q : (Nat.lcm (Nat.gcd a.natAbs c.natAbs) (Nat.gcd b.natAbs c.natAbs) : Int) ∣ z := by
    have h1' : (Nat.gcd a.natAbs c.natAbs) ∣ z.natAbs := Int.ofNat_dvd_left.mp h1
    have h2' : (Nat.gcd b.natAbs c.natAbs) ∣ z.natAbs := Int.ofNat_dvd_left.mp h2
    exact Int.ofNat_dvd_left.mpr (Nat.lcm_dvd h1' h2')
  exact Int.dvd_trans (Int.natCast_dvd_natCast.mpr h) q

/-! ### Euclid -/
theorem gcd_step (a b : Int) : Int.gcd b (a % b) = Int.gcd a b := by
  refine Nat.dvd_antisymm ?_ ?_
  · refine Int.dvd_gcd ?_ (Int.gcd_dvd_left _ _)
    have h1 : (Int.gcd b (a % b) : Int) ∣ b := Int.gcd_dvd_left _ _
    have h2 : (Int.gcd b (a % b) : Int) ∣ a % b := Int.gcd_dvd_right _ _
    have e : a = b * (a / b) + a % b := (Int.mul_ediv_add_emod a b).symm
    rw [e]
    have h3 : (Int.gcd b (a % b) : Int) ∣ b * (a / b) := Int.dvd_trans h1 (Int.dvd_mul_right _ _)
    have h4 := Int.dvd_add h3 h2
    have e5 : (b * (a / b) + a % b) = a := e.symm
    rw [e5] at h4 ⊢
    exact h4
  · refine Int.dvd_gcd (Int.gcd_dvd_right _ _) ?_
    have h1 : (Int.gcd a b : Int) ∣ a := Int.gcd_dvd_left _ _
    have h2 : (Int.gcd a b : Int) ∣ b := Int.gcd_dvd_right _ _
    rw [Int.emod_def]
    exact Int.dvd_sub h1 (Int.dvd_trans h2 (Int.dvd_mul_right _ _))

/-- what holds at each turn of the extended Euclid's loop: a0, b0 as handed in -/
structure Eu (a0 b0 one other times more : Int) : Prop where
  o1 : 0 < one
  o2 : 0 ≤ other
  g : Int.gcd one other = Int.gcd a0 b0
  d1 : b0 ∣ one - times * a0
  d2 : b0 ∣ other - more * a0
  s : one * (more.natAbs : Int) + other * (times.natAbs : Int) = b0
  t : (times.natAbs : Int) ≤ b0
  sg : (0 ≤ times ∧ more ≤ 0) ∨ (times ≤ 0 ∧ 0 ≤ more)
  le : one ≤ a0 ∨ one ≤ b0
  ob : other ≤ b0
theorem Eu.start {a b : Int} (ha : 0 < a) (hb : 0 < b) : Eu a b a b 1 0 := by
  refine ⟨ha, by omega, rfl, ?_, ?_, ?_, ?_, .inl ⟨by decide, by decide⟩, .inl (Int.le_refl _), Int.le_refl _⟩
  · rw [Int.one_mul, Int.sub_self]; exact Int.dvd_zero _
  · rw [Int.zero_mul, Int.sub_zero]; exact Int.dvd_refl _
  · show a * ((0 : Int).natAbs : Int) + b * ((1 : Int).natAbs : Int) = b
    simp
  · show ((1 : Int).natAbs : Int) ≤ b
    simp; omega
theorem Eu.step {a0 b0 one other times more : Int} (E : Eu a0 b0 one other times more) (h : 0 < other) (hb : 0 < b0) :
    Eu a0 b0 other (one - one / other * other) more (times - one / other * more) := by
  obtain ⟨o1, o2, g, d1, d2, s, t, sg, le, ob⟩ := E
  have er : one - one / other * other = one % other := by rw [Int.emod_def, Int.mul_comm]
  have q0 : 0 ≤ one / other := Int.ediv_nonneg (by omega) (by omega)
  have hm : (more.natAbs : Int) ≤ b0 := by
    have h1 : (more.natAbs : Int) ≤ one * (more.natAbs : Int) := by
      have := Int.mul_le_mul_of_nonneg_right (show (1 : Int) ≤ one by omega) (show (0 : Int) ≤ (more.natAbs : Int) by omega)
      rw [Int.one_mul] at this
      exact this
    have h2 : 0 ≤ other * (times.natAbs : Int) := Int.mul_nonneg o2 (by omega)
    omega
  have hn : ((times - one / other * more).natAbs : Int) = (times.natAbs : Int) + one / other * (more.natAbs : Int) := by
    rcases sg with ⟨h1, h2⟩ | ⟨h1, h2⟩
    · have e1 : (more.natAbs : Int) = -more := by omega
      have e2 : (times.natAbs : Int) = times := by omega
      have e3 : 0 ≤ one / other * (-more) := Int.mul_nonneg q0 (by omega)
      rw [e1, e2, Int.mul_neg] 
      rw [Int.mul_neg] at e3
      omega
    · have e1 : (more.natAbs : Int) = more := by omega
      have e2 : (times.natAbs : Int) = -times := by omega
      have e3 : 0 ≤ one / other * more := Int.mul_nonneg q0 h2
      rw [e1, e2]
      omega
  refine ⟨h, ?_, ?_, d2, ?_, ?_, hm, ?_, .inr ob, ?_⟩
  · rw [er]; exact Int.emod_nonneg _ (by omega)
  · rw [er, gcd_step]; exact g
  · have e : one - one / other * other - (times - one / other * more) * a0 = (one - times * a0) - one / other * (other - more * a0) := by
      rw [Int.sub_mul, Int.mul_sub, Int.mul_assoc]; omega
    rw [e]
    exact Int.dvd_sub d1 (Int.dvd_trans d2 (Int.dvd_mul_left _ _))
  · rw [hn, Int.mul_add, Int.sub_mul]
    have e1 : other * (one / other * (more.natAbs : Int)) = one / other * other * (more.natAbs : Int) := by
      rw [← Int.mul_assoc, Int.mul_comm other]
    rw [e1]
    omega
  · rcases sg with ⟨h1, h2⟩ | ⟨h1, h2⟩
    · right
      refine ⟨h2, ?_⟩
      have e3 : 0 ≤ one / other * (-more) := Int.mul_nonneg q0 (by omega)
      rw [Int.mul_neg] at e3
      omega
    · left
      refine ⟨h2, ?_⟩
      have e3 : 0 ≤ one / other * more := Int.mul_nonneg q0 h2
      omega
  · rw [er]
    have := Int.emod_lt_of_pos one h
    omega
end Rf

namespace Rf
/-- the greatest number that goes into both -/
abbrev gI (a b : Int) : Int := (Int.gcd a b : Int)
theorem gI_pos {a : Int} (b : Int) (h : 0 < a) : 0 < gI a b := by
  have := Int.gcd_pos_of_ne_zero_left b (show a ≠ 0 by omega)
  show (0 : Int) < (Int.gcd a b : Int)
  omega
theorem gI_comm (a b : Int) : gI a b = gI b a := by show (Int.gcd a b : Int) = Int.gcd b a; rw [Int.gcd_comm]
theorem gI_le {a b : Int} (h : 0 < b) : gI a b ≤ b := Int.gcd_le_right a h
theorem gI_le_left {a b : Int} (h : 0 < a) : gI a b ≤ a := Int.gcd_le_left b h
/-- the least number that both go into -/
def lc (a b : Int) : Int := a * (b / gI a b)
theorem lc_eq {a b : Int} (ha : 0 < a) (_hb : 0 < b) : a / gI a b * b = lc a b := by
  have h1 : gI a b ∣ a := Int.gcd_dvd_left _ _
  have h2 : gI a b ∣ b := Int.gcd_dvd_right _ _
  have g0 := gI_pos b ha
  obtain ⟨u, hu⟩ := h1
  obtain ⟨v, hv⟩ := h2
  unfold lc
  have e1 : a / gI a b = u := by
    conv => lhs; arg 1; rw [hu]
    exact Int.mul_ediv_cancel_left _ (by omega)
  have e2 : b / gI a b = v := by
    conv => lhs; arg 1; rw [hv]
    exact Int.mul_ediv_cancel_left _ (by omega)
  rw [e1, e2]
  conv => lhs; rw [hv]
  conv => rhs; rw [hu]
  rw [← Int.mul_assoc, Int.mul_comm u]
theorem lc_lcm {a b : Int} (ha : 0 < a) (hb : 0 < b) : lc a b = (Int.lcm a b : Int) := by
  have h1 : gI a b ∣ b := Int.gcd_dvd_right _ _
  have g0 := gI_pos b ha
  have e : (Int.gcd a b : Int) * (Int.lcm a b : Int) = a * b := by
    have h := Int.gcd_mul_lcm a b
    have h2 : ((Int.gcd a b * Int.lcm a b : Nat) : Int) = ((a.natAbs * b.natAbs : Nat) : Int) := by rw [h]
    rw [Int.natCast_mul, Int.natCast_mul] at h2
    rw [h2, Int.natAbs_of_nonneg (by omega), Int.natAbs_of_nonneg (by omega)]
  obtain ⟨v, hv⟩ := h1
  have e2 : b / gI a b = v := by
    conv => lhs; arg 1; rw [hv]
    exact Int.mul_ediv_cancel_left _ (by omega)
  have e3 : gI a b * (Int.lcm a b : Int) = gI a b * (a * v) := by
    show (Int.gcd a b : Int) * _ = _
    rw [e]
    conv => lhs; rw [hv]
    rw [← Int.mul_assoc, ← Int.mul_assoc, Int.mul_comm a]
  unfold lc
  rw [e2]
  exact (Int.eq_of_mul_eq_mul_left (by omega) e3).symm
theorem lc_pos {a b : Int} (ha : 0 < a) (hb : 0 < b) : 0 < lc a b := by
  rw [lc_lcm ha hb]
  have := Int.lcm_pos (show a ≠ 0 by omega) (show b ≠ 0 by omega)
  omega
theorem lc_dvd {a b z : Int} (ha : 0 < a) (hb : 0 < b) : lc a b ∣ z ↔ a ∣ z ∧ b ∣ z := by
  rw [lc_lcm ha hb]
  exact Int.coe_lcm_dvd_iff
theorem rest_pos {a b : Int} (ha : 0 < a) (hb : 0 < b) : 0 < b / gI a b := by
  have h := lc_pos ha hb
  unfold lc at h
  exact Int.pos_of_mul_pos_right h (by omega)

theorem dvd_of_emod0 {a b : Int} (h : a % b = 0) : b ∣ a := Int.dvd_of_emod_eq_zero h
/-- two folds laid together -/
theorem fold_two_ok {A x h k t : Int} (hA : 0 < A) (hh : 0 < h) (ht : h ∣ gI A h - t * A) (hg : (k - x) % gI A h = 0) :
    A ∣ (x + A * ((k - x) / gI A h * t % (h / gI A h))) - x ∧ h ∣ (x + A * ((k - x) / gI A h * t % (h / gI A h))) - k ∧
    x ≤ x + A * ((k - x) / gI A h * t % (h / gI A h)) ∧ x + A * ((k - x) / gI A h * t % (h / gI A h)) < x + lc A h := by
  have r0 := rest_pos hA hh
  have g0 := gI_pos h hA
  obtain ⟨q, hq⟩ : ∃ q, q = (k - x) / gI A h * t % (h / gI A h) := ⟨_, rfl⟩
  have q0 : 0 ≤ q := by rw [hq]; exact Int.emod_nonneg _ (by omega)
  have q1 : q < h / gI A h := by rw [hq]; exact Int.emod_lt_of_pos _ r0
  have e1 : gI A h * ((k - x) / gI A h) = k - x := Int.mul_ediv_cancel' (Int.dvd_of_emod_eq_zero hg)
  have hlA : h ∣ A * (h / gI A h) := by
    have := (lc_dvd (z := lc A h) hA hh).mp (Int.dvd_refl _)
    exact this.2
  rw [← hq]
  refine ⟨?_, ?_, ?_, ?_⟩
  · have : x + A * q - x = A * q := by omega
    rw [this]; exact Int.dvd_mul_right _ _
  · -- A * q = A * ((k - x) / g * t) - A * rest * (..)
    have e2 : q = (k - x) / gI A h * t - h / gI A h * ((k - x) / gI A h * t / (h / gI A h)) := by rw [hq, Int.emod_def]
    have e3 : x + A * q - k = (-((k - x) / gI A h)) * (gI A h - t * A) - A * (h / gI A h) * ((k - x) / gI A h * t / (h / gI A h)) := by
      have e4 : A * q = (k - x) / gI A h * (t * A) - A * (h / gI A h) * ((k - x) / gI A h * t / (h / gI A h)) := by
        conv => lhs; rw [e2]
        rw [Int.mul_sub, ← Int.mul_assoc A (h / gI A h)]
        congr 1
        rw [Int.mul_comm A, Int.mul_assoc]
      rw [e4, Int.mul_sub, Int.neg_mul, Int.neg_mul]
      have e5 : (k - x) / gI A h * gI A h = k - x := by rw [Int.mul_comm]; exact e1
      rw [e5]
      omega
    rw [e3]
    refine Int.dvd_sub (Int.dvd_trans ht (Int.dvd_mul_left _ _)) (Int.dvd_trans hlA (Int.dvd_mul_right _ _))
  · have := Int.mul_nonneg (show 0 ≤ A by omega) q0
    omega
  · have := Int.mul_lt_mul_of_pos_left q1 hA
    unfold lc
    omega

/-! ### lists of clocks: (hours, hour) -/
structure Clk (c : Int × Int) : Prop where
  h1 : 1 ≤ c.1
  h2 : c.1 ≤ 10 ^ 30
  k1 : 0 ≤ c.2
  k2 : c.2 < c.1
def lcmL : List (Int × Int) → Int
  | [] => 1
  | c :: l => lc c.1 (lcmL l)
theorem lcmL_pos : ∀ {l : List (Int × Int)}, (∀ c ∈ l, 0 < c.1) → 0 < lcmL l
  | [], _ => by decide
  | c :: l, h => lc_pos (h c List.mem_cons_self) (lcmL_pos fun d hd => h d (List.mem_cons_of_mem _ hd))
theorem lcmL_dvd {z : Int} : ∀ {l : List (Int × Int)}, (∀ c ∈ l, 0 < c.1) → (lcmL l ∣ z ↔ ∀ c ∈ l, c.1 ∣ z)
  | [], _ => ⟨fun _ c hc => (by cases hc), fun _ => Int.one_dvd _⟩
  | c :: l, h => by
    have hl : ∀ d ∈ l, 0 < d.1 := fun d hd => h d (List.mem_cons_of_mem _ hd)
    show lc c.1 (lcmL l) ∣ z ↔ _
    rw [lc_dvd (h c List.mem_cons_self) (lcmL_pos hl), lcmL_dvd hl]
    constructor
    · rintro ⟨h1, h2⟩ d hd
      rcases List.mem_cons.mp hd with rfl | hd
      · exact h1
      · exact h2 d hd
    · intro q
      exact ⟨q c List.mem_cons_self, fun d hd => q d (List.mem_cons_of_mem _ hd)⟩
theorem lcmL_gcd {h z : Int} : ∀ {l : List (Int × Int)}, (∀ c ∈ l, 0 < c.1) → (∀ c ∈ l, gI c.1 h ∣ z) → gI (lcmL l) h ∣ z
  | [], _, _ => by
    have e : gI (lcmL []) h = 1 := by show (Int.gcd 1 h : Int) = 1; simp
    rw [e]; exact Int.one_dvd _
  | c :: l, hp, hg => by
    have hl : ∀ d ∈ l, 0 < d.1 := fun d hd => hp d (List.mem_cons_of_mem _ hd)
    have h1 := hp c List.mem_cons_self
    have e : lcmL (c :: l) = (Int.lcm c.1 (lcmL l) : Int) := lc_lcm h1 (lcmL_pos hl)
    rw [e]
    exact gcd_lcm_dvd h1 (lcmL_pos hl) (hg c List.mem_cons_self) (lcmL_gcd hl fun d hd => hg d (List.mem_cons_of_mem _ hd))
theorem dvd_anti {a b : Int} (ha : 0 < a) (hb : 0 < b) (h : ∀ z, a ∣ z ↔ b ∣ z) : a = b :=
  Int.le_antisymm (Int.le_of_dvd hb ((h b).mpr (Int.dvd_refl b))) (Int.le_of_dvd ha ((h a).mp (Int.dvd_refl a)))

/-- (N, x) is the fold of the clocks l -/
structure IsFold (l : List (Int × Int)) (N x : Int) : Prop where
  pos : 0 < N
  dv : ∀ z, N ∣ z ↔ ∀ c ∈ l, c.1 ∣ z
  rt : ∀ c ∈ l, c.1 ∣ x - c.2
  lo : 0 ≤ x
  hi : x < N
theorem IsFold.nil : IsFold [] 1 0 := ⟨by decide, fun _ => ⟨fun _ c hc => (by cases hc), fun _ => Int.one_dvd _⟩, fun c hc => (by cases hc), by decide, by decide⟩
theorem IsFold.eq {l : List (Int × Int)} {N x : Int} (F : IsFold l N x) (hp : ∀ c ∈ l, 0 < c.1) : N = lcmL l :=
  dvd_anti F.pos (lcmL_pos hp) fun z => by rw [F.dv, lcmL_dvd hp]
theorem IsFold.agrees {l : List (Int × Int)} {N x h k : Int} (F : IsFold l N x) (hp : ∀ c ∈ l, 0 < c.1) (ag : ∀ c ∈ l, gI c.1 h ∣ k - c.2) : gI N h ∣ k - x := by
  rw [F.eq hp]
  refine lcmL_gcd hp fun c hc => ?_
  have e : k - x = (k - c.2) - (x - c.2) := by omega
  rw [e]
  exact Int.dvd_sub (ag c hc) (Int.dvd_trans (Int.gcd_dvd_left _ _) (F.rt c hc))
theorem IsFold.snoc {l : List (Int × Int)} {N x h k t : Int} (F : IsFold l N x) (hh : 0 < h) (ht : h ∣ gI N h - t * N) (hg : (k - x) % gI N h = 0) :
    IsFold (l ++ [(h, k)]) (N * (h / gI N h)) (x + N * ((k - x) / gI N h * t % (h / gI N h))) := by
  obtain ⟨a1, a2, a3, a4⟩ := fold_two_ok F.pos hh ht hg
  have e : N * (h / gI N h) = lc N h := rfl
  refine ⟨lc_pos F.pos hh, fun z => ?_, fun c hc => ?_, by have := F.lo; omega, ?_⟩
  · rw [e, lc_dvd F.pos hh, F.dv]
    constructor
    · rintro ⟨h1, h2⟩ c hc
      rcases List.mem_append.mp hc with hc | hc
      · exact h1 c hc
      · rw [List.mem_singleton.mp hc]; exact h2
    · intro q
      exact ⟨fun c hc => q c (List.mem_append_left _ hc), q (h, k) (List.mem_append_right _ (List.mem_singleton.mpr rfl))⟩
  · rcases List.mem_append.mp hc with hc | hc
    · have h1 : c.1 ∣ N := (F.dv N).mp (Int.dvd_refl N) c hc
      have h2 := Int.dvd_add (Int.dvd_trans h1 a1) (F.rt c hc)
      have e2 : x + N * ((k - x) / gI N h * t % (h / gI N h)) - x + (x - c.2) = x + N * ((k - x) / gI N h * t % (h / gI N h)) - c.2 := by omega
      rw [e2] at h2
      exact h2
    · rw [List.mem_singleton.mp hc]; exact a2
  · rw [e]
    have h1 := F.hi
    have h0 := F.lo
    -- x + N * q < N * rest, q < rest
    obtain ⟨q, hq⟩ : ∃ q, q = (k - x) / gI N h * t % (h / gI N h) := ⟨_, rfl⟩
    have r0 := rest_pos F.pos hh
    have q1 : q < h / gI N h := by rw [hq]; exact Int.emod_lt_of_pos _ r0
    rw [← hq]
    have h2 := Int.mul_le_mul_of_nonneg_left (show q + 1 ≤ h / gI N h by omega) (show 0 ≤ N by have := F.pos; omega)
    rw [Int.mul_add, Int.mul_one] at h2
    unfold lc
    omega
/-- right at a turn -/
theorem right_iff {h k t : Int} (h1 : 0 ≤ k) (h2 : k < h) : t % h = k ↔ h ∣ t - k := by
  constructor
  · intro e
    rw [← e]
    exact Int.dvd_self_sub_emod
  · intro d
    have e : t % h = k % h := Int.emod_eq_emod_iff_emod_sub_eq_zero.mpr (Int.emod_eq_zero_of_dvd d)
    rw [e]
    exact Int.emod_eq_of_lt h1 h2
/-- two hours leave the same by a number just where it goes into what they differ by -/
theorem rests_iff {a b g : Int} : a % g = b % g ↔ (a - b) % g = 0 := Int.emod_eq_emod_iff_emod_sub_eq_zero
theorem emod0_comm {a b g : Int} : (a - b) % g = 0 ↔ (b - a) % g = 0 := by
  constructor
  · intro h
    have h1 := Int.dvd_of_emod_eq_zero h
    have : b - a = -(a - b) := by omega
    rw [this]
    exact Int.emod_eq_zero_of_dvd (Int.dvd_neg.mpr h1)
  · intro h
    have h1 := Int.dvd_of_emod_eq_zero h
    have : a - b = -(b - a) := by omega
    rw [this]
    exact Int.emod_eq_zero_of_dvd (Int.dvd_neg.mpr h1)
end Rf

set_option Elab.async false
set_option linter.all false
set_option maxRecDepth 100000
set_option maxHeartbeats 4000000
/-! What every law's proof here leans on. -/
namespace Rf
open PySem L2

/-! ### a def of the top with its promise -/
structure Has (P : Program) (w : World) (K : PySem.W.Frag) (mg : Str → Option Value) (base : Heap) (CX : CXT) (k : Nat) (x : Str) (ps : List Str) (sp : Sp) : Prop where
  ok : ∃ fd, FnOk P w K mg base CX k (He.ga K x) fd ps sp ∧ Binds K fd ps [] ∧ ∃ oc od osl, K.lookup (He.ga K x) = some ⟨oc, od, .func fd, osl⟩
  g : mg x = some (.ref (He.ga K x))
  kp : PySem.W.keepIn K (.ref (He.ga K x)) = true
section
variable {X : Cx} {CX : CXT} {k : Nat} {ps : List Str} {sp : Sp} {E : XK} {x : Str} {p pos : Pos} {e : Expr} {es : List Expr} {t : TA}
theorem pe_fn (h : Has X.prog X.w X.K X.mg X.base CX k x ps sp) (hr : Room k X.A) (hx : Passes CX X E) (ha : PA X (e :: es) t) (hg : Gl X x := by rfl)
    (hdb : (x == ("__debug__" : Str)) = false := by decide) (he : starEach (e :: es) X.env = (false, eval e X.env) :: starEach es X.env := by rfl) (hpl : (backTo pos (starEach es X.env)).any (·.1) = false := by rfl) :
    PE X (.Call (.Name x p) (e :: es) [] pos) (tCall sp [] E t) := by
  obtain ⟨fd, F, b, _⟩ := h.ok
  exact pe_call F hr hg h.g h.kp b .nil hx ha hdb he hpl
end
end Rf

/-! Exceptions kept as values: tracked behind the clause that caught them, asked by isinstance, their fields read. -/
namespace Rf
open PySem L2 PySem.Spec PyProof.Rows

theorem pe_gint {X : Cx} {x : Str} {i : Int} {p : Pos} (hg : Gl X x) (hm : ∃ t, X.mg x = some (.int i t)) (hdb : (x == ("__debug__" : Str)) = false := by decide) : PE X (.Name x p) (tC (.int i)) := by
  obtain ⟨t, hm⟩ := hm
  exact pe_glob hg hm ⟨t, rfl⟩ hdb

/-- an exception that was caught: its class, its own dict's place -/
def ExV (cls : Value) (d : Option Addr) (a : Addr) : HO := .ext fun h => ∃ (oe : Obj) (vs : Array Value), h.get? a = some oe ∧ Zc cls d oe ∧ oe.data = .fields vs
theorem exV_ok {P : Program} {w : World} {H : Hp} {h : Heap} {a : Addr} {cls : Value} {d : Option Addr} {oe : Obj} {vs : Array Value} (e : h.get? a = some oe) (z : Zc cls d oe) (k : oe.data = .fields vs) : ObjOk P w H h a (ExV cls d a) :=
  ⟨⟨oe, vs, e, z, k⟩, ⟨oe, e⟩, fun _ _ ⟨o, v, q, r⟩ st => ⟨o, v, st o q, r⟩⟩
theorem exV_at {P : Program} {w : World} {H : Hp} {h : Heap} {a : Addr} {cls : Value} {d : Option Addr} (hok : HOk P w H h) (e : H a = some (ExV cls d a)) : ∃ (oe : Obj) (vs : Array Value), h.get? a = some oe ∧ Zc cls d oe ∧ oe.data = .fields vs := by
  have x : ObjOk P w H h a (.ext fun h => ∃ (oe : Obj) (vs : Array Value), h.get? a = some oe ∧ Zc cls d oe ∧ oe.data = .fields vs) := hok a _ e
  exact x.1

section
variable {X : Cx} {pins : List (Addr × Obj)} {σ : L2.St} {H : Hp} {s : Shared}
/-- an untracked record of ours, younger than the entry, is tracked from now on -/
theorem track {a : Addr} {o : HO} {oe : Obj} {vs : Array Value} (I : Inv X pins σ H s) (ha : H a = none) (he : s.heap.get? a = some oe) (hd : oe.data = .fields vs) (h0 : X.s_0.heap.get? a = none) (hl : a ≠ X.env.locals)
    (hp : ∀ p ∈ X.pn ++ pins, p.1 ≠ a) (new : ObjOk X.prog X.w (upd H a o) s.heap a o) : Inv X pins σ (upd H a o) s := by
  have ne0 : ∀ b u, X.s_0.heap.get? b = some u → b ≠ a := fun b u e z => by
    rw [z, h0] at e
    cases e
  have neH : ∀ b u, H b = some u → b ≠ a := fun b u e => ne_of_none e ha
  have neC : ∀ x c, X.env.cells.lookup x = some c → c ≠ a := fun x c e z => by
    obtain ⟨v, oc, ho, hc⟩ := I.cell x c e
    rw [z, he] at ho
    cases ho
    rw [hd] at hc
    cases hc
  exact {
    ok := I.ok
    os := I.os
    bare := I.bare
    base := {
      keep := I.base.keep
      slot := I.base.slot
      free := fun b u e n hx => by rw [upd_ne (ne0 b u e)]; exact I.base.free b u e n hx
      there := I.base.there
      tups := fun b xs e => by
        have q := I.base.tups b xs e
        rw [upd_ne (neH b _ q)]
        exact q
      frzs := fun b u xs e => by
        have q := I.base.frzs b u xs e
        rw [upd_ne (neH b _ q)]
        exact q
      tbls := fun b ps e => by
        obtain ⟨m, q⟩ := I.base.tbls b ps e
        exact ⟨m, by rw [upd_ne (neH b _ q)]; exact q⟩ }
    loc := I.loc
    cell := I.cell
    free := by rw [upd_ne (Ne.symm hl)]; exact I.free
    freeC := fun x c e => by rw [upd_ne (neC x c e)]; exact I.freeC x c e
    pin := fun p m => by
      obtain ⟨e, n, r⟩ := I.pin p m
      exact ⟨e, by rw [upd_ne (hp p m)]; exact n, r⟩
    hok := fun b u e => by
      by_cases hb : b = a
      · rw [hb] at e ⊢
        rw [upd_same] at e
        cases e
        exact new
      · rw [upd_ne hb] at e
        exact (I.hok b u e).stay (fun _ _ _ q => q) (fun c q => by rw [upd_ne (neH c _ q)]; exact q) fun c xs q => by rw [upd_ne (neH c _ q)]; exact q
    len := I.len }
end

/-- what the clause 'except x as n: y = n' wishes of an exception of the body: it is caught, and tracked behind it -/
def wKept (K : PySem.W.Frag) (c : Value) (i j : Nat) (D : Ends) : WX := fun cls d σ H =>
  PySem.W.exmOne K cls c = some true ∧ ∀ a, H a = none → D.nx ((σ.set j (some (.ref a))).set i none) (upd H a (ExV cls d a))

theorem ps_try_kept {X : Cx} {x n y : Str} {c : Value} {i j : Nat} {body : List Stmt} {np py qn pa pos pos' : Pos} {tb : WX → TS} (hs : X.stack = X.env :: X.outer) (hf : X.env.frame = some X.env.locals) (hex : X.ex = []) (hN : X.N.Nodup)
    (hi : X.N[i]? = some n) (hln : X.env.kindOf n = some .local) (hj : X.N[j]? = some y) (hly : X.env.kindOf y = some .local) (hc : Names X x c)
    (hb : ∀ (W : WX) (pn : List (Addr × Obj)) (xe : Value → Shared → Prop), Takes (X.tr pn xe) W → PassesOwn (model X.prog X.w) X.A X.env xe → PSs (X.tr pn xe) body (tb W))
    (hd : (n == ("__debug__" : Str)) = false := by decide) (hcd : (n == ("__classdict__" : Str)) = false := by decide)
    (hsw : swapsWith (.Name n qn) (some (.Name y py)) pa.line X.env = pure false := by rfl) :
    PS X (.Try body [.ExceptHandler (some (.Name x np)) (some n) [.Assign [.Name y py] (.Name n qn) pa] pos'] [] [] pos) (fun D σ H => tb (wKept X.K c i j D) D σ H) := by
  refine ⟨fun pins s σ H D I h => ?_⟩
  have ok := I.ok
  have hfr : X.A.frames = some (X.env :: X.outer) := by rw [ok.frames, hs]
  refine wpAny_Try_except (wpAny_mono ((hb (wKept X.K c i j D) (X.pn ++ pins) (fun e s₁ => wpAny (model X.prog X.w) X.A (noteFrame e X.env) (fun _ s₂ => wpAny (model X.prog X.w) X.A (setFlight e none) (fun _ s₃ =>
    wpAny (model X.prog X.w) X.A (handleBy e X.env [.ExceptHandler (some (.Name x np)) (some n) [.Assign [.Name y py] (.Name n qn) pa] pos']) (SP X pins D) X.xe s₃) X.xe s₂) X.xe s₁) (fun u s' xx => ?_) PassesOwn.looking).run [] s σ H D (I.toTry _) h) (fun f s1 hsp => ?_) fun e s1 he => he)
  · obtain ⟨a, B, sI, pins', σ', H', cls, d, rfl, J', nb, up, sky, na, os, ag, hb1, hyes⟩ := xx
    have J : Inv X pins σ' H' sI := J'.ofTry ok
    have Bn : B.get? a = none := by
      rcases sky with q | q | q
      · exact q.2.1
      · exact q.2.1
      · exact q.2.1
    have gone : ∀ b o, sI.heap.get? b = some o → b ∉ frs X.stack → b ≠ a := fun b o e hm z => by
      have q := nb b o e hm
      rw [z, Bn] at q
      cases q
    rw [hs] at sky
    show wpAny (model X.prog X.w) X.A (noteFrame (.ref a) X.env) _ _ _
    refine Sky.land Zc.steady hfr hf sky fun h3 fl3 up3 => ?_
    have J3 : Inv X pins σ' H' { s' with heap := h3 } := J.landed nb fl3.1 (up.trans up3) os ag
    obtain ⟨oe3, vs3, he3, hz3, hd3⟩ := fl3.there
    have nfr : a ∉ frs (X.env :: X.outer) := fun hm => by
      obtain ⟨_, o', e', hnf⟩ := fl3.2.2.1.mem hm
      rw [he3] at e'
      cases e'
      exact hnf _ hd3
    have nL : a ≠ X.env.locals := fun z => nfr (List.mem_filterMap.mpr ⟨X.env, List.mem_cons_self, by rw [hf, z]⟩)
    have nF : a ∉ X.fs := fun hm => by
      obtain ⟨e, he, q⟩ := List.mem_filterMap.mp hm
      exact nfr (List.mem_filterMap.mpr ⟨e, List.mem_cons_of_mem _ he, q⟩)
    have a0 : X.s_0.heap.get? a = none := by
      cases e : X.s_0.heap.get? a with
      | none => rfl
      | some o =>
        obtain ⟨o', e'⟩ := J.base.there a o e (by rw [hex]; exact fun z => nomatch z)
        exact absurd rfl (gone a o' e' (by rw [hs]; exact nfr))
    have aP : ∀ p ∈ X.pn ++ pins, p.1 ≠ a := fun p hp => by
      obtain ⟨e, _, n1, n2, _⟩ := J.pin p hp
      refine gone p.1 p.2 e fun hm => ?_
      rcases List.mem_cons.mp (J.stkSub p.1 hm) with z | z
      · exact n1 z
      · exact n2 z
    have S3 := J3.suite he3 hd3 na nL nF
    refine wpAny_handleBy_cons (codeAny_handlers_test ?_) (by intro q; cases q)
    have LT : PySem.W.Looks (model X.prog X.w) h3 (typeOf (.ref a)) cls := fun A Q E s k q => wpAny_typeOf_ref (k _ _ he3) (by rw [hz3.1]; exact q)
    have LM := PySem.W.exm_one (M := model X.prog X.w) J3.kIn LT hb1
    have test : ∀ {Q : Value → Shared → Prop} {E : Value → Shared → Prop}, Q c { s' with heap := h3 } → wpAny (model X.prog X.w) (X.A.mark (some (.ref a))) (eval (.Name x np) X.env) Q E { s' with heap := h3 } := fun {Q E} q => by
      obtain ⟨hg, hdbg, z⟩ := hc
      rcases z with hm | ⟨hm, hv, hnn⟩
      · exact ld_glob (X := X.suite a ((a, oe3) :: (X.pn ++ pins))) S3 hg hm q hdbg
      · exact ld_blt (X := X.suite a ((a, oe3) :: (X.pn ++ pins))) S3 hg hm hv q hnn hdbg
    refine test (LM.here ?_)
    refine codeAny_handlers_suite_as (HandSPX.lands_againZ fl3 fun h4 fl4 up4 => ?_)
    have J4 : Inv X pins σ' H' { s' with heap := h4 } := J.landed nb fl4.1 ((up.trans up3).trans up4) os ag
    obtain ⟨oe4, vs4, he4, hz4, hd4⟩ := fl4.there
    have S4 := J4.suite he4 hd4 na nL nF
    have iσ : i < σ'.length := by rw [J.len]; exact (List.getElem?_eq_some_iff.mp hi).1
    refine store_ok (X := X.suite a ((a, oe4) :: (X.pn ++ pins))) (v := .ref a) S4 hN hi (.inl hln) rfl (fun s5 S5 => ?_) (.inr hln)
    have sm : PSs (X.suite a ((a, oe4) :: (X.pn ++ pins))) [.Assign [.Name y py] (.Name n qn) pa] (tAsg (tVar i) (gName j)) :=
      pss_one (ps_set (i := j) hN hj (.inl hly) (pe_var (i := i) hi (.inl hln) hd hcd) hsw (.inr hly))
    refine wpAny_mono (sm.run [] s5 _ H' { nx := fun σ6 H6 => σ6 = (σ'.set i (some (.ref a))).set j (some (.ref a)) ∧ H6 = H', rt := fun _ _ => False } S5 ⟨.ref a, by rw [List.getElem?_set_self iσ], rfl, rfl⟩) (fun f s6 q6 => ?_) fun _ _ z => False.elim z
    cases f with
    | next =>
      obtain ⟨σ6, H6, S6, e1, e2⟩ := q6
      subst e1 e2
      have J6 : Inv X ((a, oe4) :: pins) ((σ'.set i (some (.ref a))).set j (some (.ref a))) H6 s6 :=
        ⟨ok, S6.os, S6.bare, S6.base, S6.loc, S6.cell, S6.free, S6.freeC, fun p hp => S6.pin p (List.mem_append_left _ (by
          rcases List.mem_append.mp hp with z | z
          · exact List.mem_cons_of_mem _ (List.mem_append_left _ z)
          · rcases List.mem_cons.mp z with z | z
            · rw [z]; exact List.mem_cons_self
            · exact List.mem_cons_of_mem _ (List.mem_append_right _ z))), S6.hok, S6.len⟩
      refine gone_ok J6 hN hi hln fun s7 J7 => ?_
      obtain ⟨he7, na7, _⟩ := J7.pin (a, oe4) (List.mem_append_right _ List.mem_cons_self)
      have J8 : Inv X pins (((σ'.set i (some (.ref a))).set j (some (.ref a))).set i none) H6 s7 :=
        ⟨J7.ok, J7.os, J7.bare, J7.base, J7.loc, J7.cell, J7.free, J7.freeC, fun p hp => J7.pin p (by
          rcases List.mem_append.mp hp with z | z
          · exact List.mem_append_left _ z
          · exact List.mem_append_right _ (List.mem_cons_of_mem _ z)), J7.hok, J7.len⟩
      have J9 := track (o := ExV cls d a) J8 na7 he7 hd4 a0 nL aP (exV_ok he7 hz4 hd4)
      refine ⟨_, _, J9, ?_⟩
      have q := hyes a na
      have e : (σ'.set j (some (V.ref a))).set i none = ((σ'.set i (some (V.ref a))).set j (some (V.ref a))).set i none := by
        by_cases hij : j = i
        · rw [hij, List.set_set, List.set_set, List.set_set]
        · rw [List.set_comm _ _ hij, List.set_comm _ _ hij, List.set_set]
      rw [← e]
      exact q
    | brk =>
      obtain ⟨_, _, _, z⟩ := q6
      exact z.elim
    | cont =>
      obtain ⟨_, _, _, z⟩ := q6
      exact z.elim
    | ret u =>
      obtain ⟨_, _, _, _, _, z⟩ := q6
      exact z.elim
  · cases f with
    | next =>
      obtain ⟨σ', H', J', q⟩ := hsp
      exact wpAny_execs_nil ⟨σ', H', J'.ofTry ok, q⟩
    | brk =>
      obtain ⟨σ', H', J', q⟩ := hsp
      exact ⟨σ', H', J'.ofTry ok, q⟩
    | cont =>
      obtain ⟨σ', H', J', q⟩ := hsp
      exact ⟨σ', H', J'.ofTry ok, q⟩
    | ret u =>
      obtain ⟨v, σ', H', J', r, q⟩ := hsp
      exact ⟨v, σ', H', J'.ofTry ok, r, q⟩

/-! ### asking it -/
/-- what the class must say -/
def exCB (K : PySem.W.Frag) (D : Addr) : Bool := (PySem.W.clsIn K D).isSome && (decide (PySem.W.findIn K (.ref D) "__getattribute__" = some (some (.builtin "BaseException.__getattribute__"))) && (decide (PySem.W.findIn K (.ref D) "__getattr__" = some none) &&
  (decide (PySem.W.subIn K (.ref D) (.type "BaseException") = some true) && (PySem.W.hasDictIn K D && (decide (PySem.W.findIn K (.ref D) "__class__" = some (some (.builtin "object.__class__"))) &&
  (decide (PySem.W.specialIn K (.builtin "object.__class__") "__get__" = some (some (.builtin "getset_descriptor.__get__"))) && (decide (PySem.W.takesIn K (.builtin "object.__class__") = some true) && decide (PySem.W.mroIn K D (.type "object") = some true))))))))
structure ExD (K : PySem.W.Frag) (D : Addr) : Prop where
  cl : (PySem.W.clsIn K D).isSome = true
  e : ExcC K D
theorem exCB_ok {K : PySem.W.Frag} {D : Addr} (h : exCB K D = true) : ExD K D := by
  obtain ⟨h1, h⟩ := Bool.and_eq_true_iff.mp h
  obtain ⟨h2, h⟩ := Bool.and_eq_true_iff.mp h
  obtain ⟨h3, h⟩ := Bool.and_eq_true_iff.mp h
  obtain ⟨h4, h⟩ := Bool.and_eq_true_iff.mp h
  obtain ⟨h5, h⟩ := Bool.and_eq_true_iff.mp h
  obtain ⟨h6, h⟩ := Bool.and_eq_true_iff.mp h
  obtain ⟨h7, h⟩ := Bool.and_eq_true_iff.mp h
  obtain ⟨h8, h9⟩ := Bool.and_eq_true_iff.mp h
  exact ⟨h1, of_decide_eq_true h2, of_decide_eq_true h3, of_decide_eq_true h4, h5, of_decide_eq_true h6, of_decide_eq_true h7, of_decide_eq_true h8, of_decide_eq_true h9⟩

section
variable {X : Cx} {pins : List (Addr × Obj)} {σ : L2.St} {H : Hp} {s : Shared}
theorem exV_inst {a D : Addr} {d : Option Addr} (I : Inv X pins σ H s) (ea : H a = some (ExV (.ref D) d a)) (hd : ∀ dd, d = some dd → ∃ fs, H dd = some (.xd fs)) : ∃ oe od, PySem.W.InstAt s.heap a oe D od ∧ (d = none → od = none) ∧
    ∀ dd fs, d = some dd → H dd = some (.xd fs) → ∃ od' mA, od = some od' ∧ s.heap.Ns1 dd mA ∧ s.heap.get? dd = some od' ∧ ∀ f, RelO (fs.lookup f) (mA f) := by
  obtain ⟨oe, vs, ho, ⟨hc, hz⟩, hdt⟩ := exV_at I.hok ea
  have nc : PySem.W.notCls oe = true := by unfold PySem.W.notCls; rw [hdt] <;> rfl
  cases d with
  | none => exact ⟨oe, none, ⟨ho, hc, nc, by rw [hz]; trivial⟩, fun _ => rfl, fun _ _ z => nomatch z⟩
  | some dd =>
    obtain ⟨fs, hx⟩ := hd dd rfl
    have q : ObjOk X.prog X.w H s.heap dd (.xd fs) := I.hok dd _ hx
    obtain ⟨mA, hns, hr⟩ := q
    obtain ⟨od, hod, _⟩ := lookIn_ns hns
    refine ⟨oe, some od, ⟨ho, hc, nc, by rw [hz]; exact hod⟩, (fun z => by cases z), fun dd' fs' e1 e2 => ?_⟩
    cases e1
    rw [hx] at e2
    cases e2
    exact ⟨od, mA, rfl, hns, hod, hr⟩
end
/-- isinstance(e, c), e an exception that was caught -/
def rIsV (K : PySem.W.Frag) : List V → Hp → VK → Prop := fun xs H Q => ∃ (a D : Addr) (d : Option Addr) (c : V) (cv : Value) (b : Bool), xs = [.ref a, c] ∧ H a = some (ExV (.ref D) d a) ∧ (∀ dd, d = some dd → ∃ fs, H dd = some (.xd fs)) ∧ ExD K D ∧ ClsV c cv ∧
  PySem.W.kitOne K (.ref D) cv = some b ∧ Q (.bl b) H
theorem call_isV {X : Cx} : CallR X (.builtin "isinstance") (rIsV X.K) := by
  intro pins s σ H xs us Q I r h
  obtain ⟨a, D, d, c, cv, b, rfl, ea, hd, C, k, e, q⟩ := h
  obtain ⟨u1, u2, rfl, r1, r2⟩ := vals2 r
  have e2 := k.eq r2
  subst e2
  cases (show u1 = Value.ref a from r1)
  obtain ⟨oe, od, J, _, _⟩ := exV_inst I ea hd
  exact PySem.W.kia_one (PySem.W.kitx_exc C.cl C.e.hg C.e.hk C.e.hs C.e.ha C.e.hn C.e.ht C.e.hm) I.kIn J e (fun z => nomatch z) fun tk => ⟨.bl b, H, I.kept (t' := tk) fun _ _ z => z, rfl, q⟩
/-- e.f, e an exception that was caught -/
def tXfV (K : PySem.W.Frag) (f : Str) (te : TE) : TE := fun σ H Q => te σ H fun x H1 => ∃ (a D dd : Addr) (fs : List (Str × V)) (v : V), x = .ref a ∧ H1 a = some (ExV (.ref D) (some dd) a) ∧ H1 dd = some (.xd fs) ∧ ExD K D ∧ PySem.W.findIn K (.ref D) f = some none ∧ fs.lookup f = some v ∧ Q v H1
theorem pe_xfV {X : Cx} {e : Expr} {te : TE} {pos : Pos} {n : Str} (he : PE X e te) (hb : attributeBase e n X.env (eval e X.env) = eval e X.env := by rfl) : PE X (.Attribute e n pos) (tXfV X.K n te) := by
  refine ⟨fun pins s σ H Q I h => ?_⟩
  refine attr_of hb (thn (he.run pins s σ H _ I h) fun u s1 hh => ?_)
  obtain ⟨x, H1, I1, rx, a, D, dd, fs, v, ex, ea, ed, C, hno, l, q⟩ := hh
  subst ex
  obtain rfl : u = Value.ref a := rx
  obtain ⟨oe, od, J, _, k⟩ := exV_inst I1 ea (fun d' z => by cases z; exact ⟨fs, ed⟩)
  obtain ⟨od', mA, e1, hns, ho, hr⟩ := k dd fs rfl ed
  subst e1
  obtain ⟨od2, ho2, hl⟩ := lookIn_ns hns
  rw [ho] at ho2
  cases ho2
  obtain ⟨u, hu, ru⟩ := RelO.some_of (v := v) (o := mA n) (by rw [← l]; exact hr n)
  exact HandSPX.exc_get I1.kIn J C.e.hg C.e.hk C.e.hs (PySem.W.findObj_own C.e.hd hno rfl (by rw [hl, hu])) (handed_of ru) ⟨v, H1, I1.tok _, ru, q⟩
end Rf
namespace Rf
open PySem L2 PySem.Spec PyProof.Rows
/-- a class or a def of the top as a value -/
theorem pe_gref {X : Cx} {x : Str} {a : Addr} {p : Pos} (hm : X.mg x = some (.ref a)) (hg : Gl X x := by rfl) (hdb : (x == ("__debug__" : Str)) = false := by decide) : PE X (.Name x p) (tC (.ref a)) := pe_glob hg hm (show RelV (.ref a) (.ref a) from rfl) hdb
end Rf

/-! Defs of the top by their names; a lambda handed to the def that keeps a refusal. -/
namespace Rf
open PySem L2 PySem.Spec PyProof.Rows LamX

/-- the def x of the top, as the statement st writes it -/
structure Df (K : PySem.W.Frag) (x : Str) (st : Stmt) : Prop where
  ex : ∃ fd, FunD K x x (defArgs st) (defBody st) (defScope st) [] [] (He.ga K x) fd
/-- its code object -/
abbrev cdO (K : PySem.W.Frag) (x : Str) : Addr := He.codeOf K (x, none)
abbrev tbO (K : PySem.W.Frag) (x : Str) : Addr := He.tabOf K (cdO K x)
/-- the context of its body -/
abbrev bx (CX : CXT) (P : Program) (w : World) (K : PySem.W.Frag) (mg : Str → Option Value) (base : Heap) (N : List Str) (x : Str) (st : Stmt) (A : Around) (outer : List Env) (s : Shared) (H : Hp) (E : XK) : Cx :=
  cxOf CX P w K mg base N x (defScope st) (He.ga K x) (.ref (cdO K x)) A outer s H E
abbrev bEnv (K : PySem.W.Frag) (x : Str) (st : Stmt) (s : Shared) : Env := envOfC x (defScope st) s.heap.objs.size (He.ga K x) (.ref (cdO K x))
section
variable {CX : CXT} {P : Program} {w : World} {K : PySem.W.Frag} {mg : Str → Option Value} {base : Heap} {x : Str} {st : Stmt} {N ps : List Str} {k : Nat} {sp : Sp}
theorem Df.raw (D : Df K x st) : ∃ (oc : Value) (od : Option Addr) (kV doc pm : Value) (an : Option Addr) (ct : Value) (osl : Array (Option Value)),
    K.lookup (He.ga K x) = some ⟨oc, od, .func (PySem.W.fnOf x x (defArgs st) (defBody st) (defScope st) .none kV doc pm an (.ref (cdO K x)) ct), osl⟩ ∧ PySem.W.codeIn K (.ref (cdO K x)) x = true ∧ PySem.W.keepIn K (.ref (He.ga K x)) = true := by
  obtain ⟨fd, F⟩ := D.ex
  obtain ⟨oc, od, dV, kV, doc, pm, an, cdv, ct, osl, rfl, lk, hcd, hD, _⟩ := F.ex
  rcases hD with ⟨_, rfl⟩ | ⟨e, _⟩
  · obtain ⟨c, rfl⟩ := He.codeIn_ref hcd
    have e : cdO K x = c := He.codeOf_eq (p := (x, none)) lk rfl
    rw [e]
    exact ⟨oc, od, kV, doc, pm, an, ct, osl, lk, hcd, F.kp⟩
  · exact absurd rfl e
theorem has_of (D : Df K x st) (gx : mg x = some (.ref (He.ga K x))) (S : FnScope N ps (defScope st))
    (hb : ∀ (kV doc pm : Value) (an : Option Addr) (cdv ct : Value) (us : List Value), us.length = ps.length → bindArgs (PySem.W.fnOf x x (defArgs st) (defBody st) (defScope st) .none kV doc pm an cdv ct) ⟨us, []⟩ = pure (ps.zip us))
    (len : ∀ vs H Q E, sp vs H Q E → vs.length = ps.length)
    (hbody : ∀ (A : Around) (outer : List Env) (s : Shared) (H : Hp) (vs : List V) (Q : VK) (E : XK), Room k (A.deeper (bEnv K x st s)) → sp vs H Q E →
      ∃ t, PSs (bx CX P w K mg base N x st A outer s H E) (defBody st) t ∧ t { nx := fun _ H' => Q .non H', rt := Q } (L2.start N vs) H) :
    Has P w K mg base CX (k + 1) x ps sp := by
  obtain ⟨oc, od, kV, doc, pm, an, ct, osl, lk, hcd, kp⟩ := D.raw
  exact ⟨⟨_, fn_of lk hcd S len hbody, .all fun us hl => hb kV doc pm an _ ct us hl, oc, od, osl, lk⟩, gx, kp⟩
/-- where nothing leaves it -/
theorem has_of0 (D : Df K x st) (gx : mg x = some (.ref (He.ga K x))) (S : FnScope N ps (defScope st))
    (hb : ∀ (kV doc pm : Value) (an : Option Addr) (cdv ct : Value) (us : List Value), us.length = ps.length → bindArgs (PySem.W.fnOf x x (defArgs st) (defBody st) (defScope st) .none kV doc pm an cdv ct) ⟨us, []⟩ = pure (ps.zip us))
    (len : ∀ vs H Q E, sp vs H Q E → vs.length = ps.length)
    (hbody : ∀ (A : Around) (outer : List Env) (s : Shared) (H : Hp) (vs : List V) (Q : VK) (E : XK), Room k (A.deeper (bEnv K x st s)) → sp vs H Q E →
      ∃ t, PSs (bx CX0 P w K mg base N x st A outer s H E).nox (defBody st) t ∧ t { nx := fun _ H' => Q .non H', rt := Q } (L2.start N vs) H) :
    Has P w K mg base CX0 (k + 1) x ps sp :=
  has_of D gx S hb len fun A outer s H vs Q E hr h => by
    obtain ⟨t, h1, h2⟩ := hbody A outer s H vs Q E hr h
    exact ⟨t, h1.nox, h2⟩
theorem Has.at_ (h : Has P w K mg base CX k x ps sp) {fd : FuncData} {st : Stmt} (F : FunD K x x (defArgs st) (defBody st) (defScope st) [] [] (He.ga K x) fd) : FnOk P w K mg base CX k (He.ga K x) fd ps sp := by
  obtain ⟨fd', F', _, oc, od, osl, lk⟩ := h.ok
  obtain ⟨oc2, od2, dV, kV, doc, pm, an, cdv, ct, osl2, _, lk2, _⟩ := F.ex
  rw [lk] at lk2
  injection lk2 with e
  injection e with _ _ e
  injection e with e
  rw [← e]
  exact F'
theorem Has.mono {j : Nat} (h : Has P w K mg base CX j x ps sp) (hj : j ≤ k) : Has P w K mg base CX k x ps sp := by
  obtain ⟨fd, F, b⟩ := h.ok
  exact ⟨⟨fd, F.mono hj, b⟩, h.g, h.kp⟩
end

/-! ### what is raised in the body of a def that may raise -/
theorem takesB {P w K mg base N x st A outer s H E} : Takes (bx (L2.CX P w) P w K mg base N x st A outer s H E) (fun cls d _ H' => E cls d H') := takes_of rfl rfl rfl rfl
theorem passB {P w K mg base N x st A outer s H E} : Passes (L2.CX P w) (bx (L2.CX P w) P w K mg base N x st A outer s H E) E := passes_call (W := fun cls d _ H' => E cls d H') takesB fun _ _ _ _ h => h

theorem takes_len {X : Cx} {W : WX} (t : Takes X W) : Takes X (fun cls d σ H => σ.length = X.N.length → W cls d σ H) := fun u s' ⟨a, B, sI, pins, σ, H, cls, d, e, I, nb, up, sky, na, os, ag, h⟩ =>
  t u s' ⟨a, B, sI, pins, σ, H, cls, d, e, I, nb, up, sky, na, os, ag, h I.len⟩

/-! ### the def that keeps a refusal -/
/-- what it makes of a deed's reading tl: None where the deed is done, else what was refused, told from then on -/
def TKept (K : PySem.W.Frag) (C : Addr) : (XK → Hp → VK → Prop) → Hp → VK → Prop := fun tl H Q =>
  tl (fun cls d H' => PySem.W.exmOne K cls (.ref C) = some true ∧ ∀ a, H' a = none → Q (.ref a) (upd H' a (ExV cls d a))) H fun _ H' => ∃ v, (some (some V.non) : Option (Option V)) = some (some v) ∧ Q v H'
abbrev keptN : List Str := ["_law_deed", "_law_kept_here", "_law_e"]
theorem kept_gives {X : Cx} {x q : Str} {sg : Scope} {g C : Addr} {cdg : Value} {j0 : Nat} {p1 p2 p3 p4 p5 p6 p7 p8 p9 p10 p11 p12 p13 p14 : Pos}
    (l1 : sg.names.lookup ("_law_kept_here" : Str) = some .local) (l2 : sg.names.lookup ("_law_e" : Str) = some .local) (g1 : sg.names.lookup ("FoldError" : Str) = some .globalImplicit) (hm : X.mg "FoldError" = some (.ref C)) :
    GivesTo X keptN x sg g cdg [.Assign [.Name "_law_kept_here" p1] (.Constant .none j0 p2) p3, .Try [.Expr (.Call (.Name "_law_deed" p4) [] [] p5) p6] [.ExceptHandler (some (.Name "FoldError" p7)) (some "_law_e") [.Assign [.Name "_law_kept_here" p8] (.Name "_law_e" p9) p10] p11] [] [] p12,
      .Return (some (.Name "_law_kept_here" p13)) p14] "_law_deed" q (TKept X.K C) := by
  intro f c' s H Q tl act hc h
  have nd : keptN.Nodup := by decide +kernel
  have hgl : Gl (cxOf C8.CX0 X.prog X.w X.K X.mg X.base keptN x sg g cdg X.A X.stack s H C8.E0).nox "FoldError" := g1
  refine ⟨_, pss_cons (ps_set (i := 1) nd rfl (Or.inl l1) pe_non) (pss_cons (ps_try_kept (i := 2) (j := 1) (c := .ref C)
      (tb := fun W D σ H => ∃ Ech : XK, (∀ cls d σ' H', σ'.length = 3 → Ech cls d H' → W cls d σ' H') ∧ σ[0]? = some (some (.ref f)) ∧ H c' = some (CodeO c' q) ∧ tl Ech H fun _ H1 => D.nx σ H1)
      rfl rfl rfl nd rfl l2 rfl l1 ⟨hgl, by decide, .inl hm⟩ (fun W pn xe tk _ => ?_)) (pss_one (ps_ret (pe_var (i := 1) rfl (Or.inl l1))))), ?_⟩
  · refine ⟨fun pins s' σ H' D I h' => ?_⟩
    obtain ⟨Ech, hW, h1, h2, h3⟩ := h'
    have hp := act (fun cls d σ H => σ.length = keptN.length → W cls d σ H) pn xe Ech p4 p5 (takes_len tk) (fun cls d σ' H' z hl => hW cls d σ' H' hl z)
    exact (pss_one (ps_expr (pos := p6) hp)).run pins s' σ H' D I ⟨h1, h2, h3⟩
  · refine ⟨fun cls d H' => PySem.W.exmOne X.K cls (.ref C) = some true ∧ ∀ a, H' a = none → Q (.ref a) (upd H' a (ExV cls d a)), fun cls d σ' H' hl z => ⟨z.1, fun a ha => ?_⟩, rfl, hc, h⟩
    match σ', hl with
    | [_, _, _], _ => exact ⟨.ref a, rfl, z.2 a ha⟩

/-- _law_kept(lambda: body) -/
theorem pe_kept {X : Cx} {T : List (Addr × Str)} {C c P : Addr} {k : Nat} {st : Stmt} {params : Arguments} {body : Expr} {scope : Scope} {t : XK → TE} {p lpos pos : Pos}
    (D : Df X.K "_law_kept" st) (gk : X.mg "_law_kept" = some (.ref (He.ga X.K "_law_kept"))) (hG : GivesTo X keptN "_law_kept" (defScope st) (He.ga X.K "_law_kept") (.ref (cdO X.K "_law_kept")) (defBody st) "_law_deed" (X.env.qual ++ "<lambda>") (TKept X.K C))
    (hb : ∀ (kV doc pm : Value) (an : Option Addr) (cdv ct : Value) (us : List Value), us.length = 1 → bindArgs (PySem.W.fnOf "_law_kept" "_law_kept" (defArgs st) (defBody st) (defScope st) .none kV doc pm an cdv ct) ⟨us, []⟩ = pure ((["_law_deed"] : List Str).zip us))
    (Sg : FnScope keptN ["_law_deed"] (defScope st)) (hva : Vis (defScope st) "_law_deed")
    (TB : TabB X.base X.mg c P) (hcode : X.env.code = .ref c) (hmT : (P, X.env.qual ++ "<lambda>") ∈ T) (hu : ∀ p ∈ T, p.1 = P → p.2 = X.env.qual ++ "<lambda>") (hr : Room (k + 2) X.A)
    (hbody : ∀ (A : Around) (outer : List Env) (s : Shared) (H : Hp) (E : XK) (f c' : Addr), Room k (A.deeper (lamEnv X scope s.heap.objs.size f c')) → PE (lamCx X A outer s H E scope f c') body (t E))
    (hg : Gl X "_law_kept" := by rfl) (L : LamS X.env.scope scope := by exact lamS_by (by decide +kernel)) (hdef : defaultsOf params X.env = ([], []) := by rfl)
    (hbind : ∀ (q : Str) (cl : List (Str × Addr)) (pm cv ctv : Value), bindArgs (PySem.W.kla_fn "<lambda>" q params body scope cl pm cv ctv) ⟨[], []⟩ = pure [] := by exact fun _ _ _ _ _ => rfl) :
    PE X (.Call (.Name "_law_kept" p) [.Lambda params body scope lpos] [] pos) (tLam T (TKept X.K C) t) := by
  obtain ⟨oc, od, kV, doc, pm, an, ct, osl, lk, hcd, kp⟩ := D.raw
  exact pe_lamcall hg gk kp lk hcd (.all fun us hl => hb kV doc pm an _ ct us hl) Sg rfl hva hG TB hcode hmT hu hr L hdef hbind hbody
/-- in the lambda's body: what a def raises goes on -/
theorem passLam {X : Cx} {A : Around} {outer : List Env} {s : Shared} {H : Hp} {E : XK} {scope : Scope} {f c' : Addr} : Passes (L2.CX X.prog X.w) (lamCx X A outer s H E scope f c') E :=
  passes_call (W := fun cls d _ H' => E cls d H') (takes_of rfl rfl rfl rfl) fun _ _ _ _ h => h
end Rf

/-! Facts of the top; things by their kinds; clocks as they stand in the heap. -/
namespace Rf
open PySem L2 PySem.Spec PyProof.Rows

/-- the built-in names that no module binds -/
structure Bt (mg : Str → Option Value) : Prop where
  isinstance : mg "isinstance" = none
  int : mg "int" = none
  bool : mg "bool" = none
  tuple : mg "tuple" = none
  len : mg "len" = none
  list : mg "list" = none
  str : mg "str" = none
  sorted : mg "sorted" = none
  enumerate : mg "enumerate" = none
  all : mg "all" = none
  range : mg "range" = none
  dict : mg "dict" = none
  sum : mg "sum" = none
  zip : mg "zip" = none
  min : mg "min" = none
  ve : mg "ValueError" = none

/-- the classes of refusals that are made -/
abbrev xNames : List Str := ["BadClock", "BadTurn", "NoClock", "TooMany", "BadWall", "Never", "BadText"]
/-- a class of refusals -/
structure Xc (K : PySem.W.Frag) (mg : Str → Option Value) (x : Str) : Prop where
  g : mg x = some (.ref (He.ga K x))
  kp : PySem.W.keepIn K (.ref (He.ga K x)) = true
  sub : PySem.W.subIn K (.ref (He.ga K x)) (.type "BaseException") = some true
  ty : PySem.W.typeIn K (.ref (He.ga K x)) = some (.type "type")
  d : ExD K (He.ga K x)
  fe : PySem.W.exmOne K (.ref (He.ga K x)) (.ref (He.ga K "FoldError")) = some true
  ve : PySem.W.kitOne K (.ref (He.ga K x)) (.type "ValueError") = some true
  kit : ∀ y ∈ xNames, PySem.W.kitOne K (.ref (He.ga K x)) (.ref (He.ga K y)) = some (decide (x = y))
/-- .. without an own __init__ -/
structure Xp (K : PySem.W.Frag) (mg : Str → Option Value) (x : Str) : Prop extends Xc K mg x where
  exc : PySem.W.excIn K (He.ga K x) He.veBase "ValueError.__new__" = true

/-- a thing and the name of its type -/
inductive Td (H : Hp) : V → String → Prop where
  | non : Td H .non "NoneType"
  | bl (b : Bool) : Td H (.bl b) "bool"
  | int (i : Int) : Td H (.int i) "int"
  | str (x : Str) : Td H (.str x) "str"
  | lst {a : Addr} {xs : List V} (h : H a = some (.lst xs)) : Td H (.ref a) "list"
  | tup {a : Addr} {xs : List V} (h : H a = some (.tup xs)) : Td H (.ref a) "tuple"
  | dK {a : Addr} {kvs : List (Key × V)} (h : H a = some (.dK kvs)) : Td H (.ref a) "dict"
theorem Td.ty {K : PySem.W.Frag} {H : Hp} {x : V} {t : String} (h : Td H x t) : TyX K H x (.type t) := by
  cases h with
  | non => exact .base .non
  | bl b => exact .base (.bl b)
  | int i => exact .base (.int i)
  | str x => exact .base (.str x)
  | lst h => exact .base (.lst h)
  | tup h => exact .base (.tup h)
  | dK h => exact .base (.dK h)
theorem Td.same {H H' : Hp} {x : V} {t : String} (e : Same H H') (h : Td H x t) : Td H' x t := by
  cases h with
  | non => exact .non
  | bl b => exact .bl b
  | int i => exact .int i
  | str x => exact .str x
  | lst h => exact .lst (e _ _ h)
  | tup h => exact .tup (e _ _ h)
  | dK h => exact .dK (e _ _ h)
def isI : V → Bool
  | .int _ => true
  | _ => false
/-- isinstance(x, int), isinstance(x, bool) -/
theorem Td.kit {K : PySem.W.Frag} {H : Hp} {x : V} {t : String} (h : Td H x t) : ∃ b1 b2, PySem.W.kitOne K (.type t) (.type "int") = some b1 ∧ PySem.W.kitOne K (.type t) (.type "bool") = some b2 ∧ (b1 && !b2) = isI x := by
  cases h with
  | non => exact ⟨false, false, kit_ty (by decide +kernel), kit_ty (by decide +kernel), rfl⟩
  | bl b => exact ⟨true, true, kit_ty (by decide +kernel), kit_ty (by decide +kernel), rfl⟩
  | int i => exact ⟨true, false, kit_ty (by decide +kernel), kit_ty (by decide +kernel), rfl⟩
  | str x => exact ⟨false, false, kit_ty (by decide +kernel), kit_ty (by decide +kernel), rfl⟩
  | lst h => exact ⟨false, false, kit_ty (by decide +kernel), kit_ty (by decide +kernel), rfl⟩
  | tup h => exact ⟨false, false, kit_ty (by decide +kernel), kit_ty (by decide +kernel), rfl⟩
  | dK h => exact ⟨false, false, kit_ty (by decide +kernel), kit_ty (by decide +kernel), rfl⟩
theorem Td.kitT {K : PySem.W.Frag} {H : Hp} {x : V} {t : String} (h : Td H x t) : PySem.W.kitOne K (.type t) (.type "tuple") = some (decide (t = "tuple")) := by
  cases h with
  | non => exact kit_ty (by decide +kernel)
  | bl b => exact kit_ty (by decide +kernel)
  | int i => exact kit_ty (by decide +kernel)
  | str x => exact kit_ty (by decide +kernel)
  | lst h => exact kit_ty (by decide +kernel)
  | tup h => exact kit_ty (by decide +kernel)
  | dK h => exact kit_ty (by decide +kernel)

abbrev hrs : Int := 10 ^ 30
/-- what is_clock tells of a thing -/
inductive ClkRes (H : Hp) : V → Bool → Prop where
  | no {x : V} {t : String} (h : Td H x t) (n : t ≠ "tuple") : ClkRes H x false
  | len {a : Addr} {xs : List V} (h : H a = some (.tup xs)) (n : xs.length ≠ 2) (z : xs.length ≤ 1000) : ClkRes H (.ref a) false
  | odd1 {a : Addr} {x y : V} {t : String} (h : H a = some (.tup [x, y])) (tx : Td H x t) (n : isI x = false) : ClkRes H (.ref a) false
  | odd2 {a : Addr} {i : Int} {y : V} {t : String} (h : H a = some (.tup [.int i, y])) (ty : Td H y t) (n : isI y = false) : ClkRes H (.ref a) false
  | two {a : Addr} {i j : Int} (h : H a = some (.tup [.int i, .int j])) : ClkRes H (.ref a) (decide (1 ≤ i ∧ i ≤ hrs ∧ 0 ≤ j ∧ j < i))
theorem ClkRes.same {H H' : Hp} {x : V} {r : Bool} (e : Same H H') (h : ClkRes H x r) : ClkRes H' x r := by
  cases h with
  | no h n => exact .no (h.same e) n
  | len h n z => exact .len (e _ _ h) n z
  | odd1 h t n => exact .odd1 (e _ _ h) (t.same e) n
  | odd2 h t n => exact .odd2 (e _ _ h) (t.same e) n
  | two h => exact .two (e _ _ h)
/-- a clock at a place -/
structure ClkAt (H : Hp) (x : V) (c : Int × Int) : Prop where
  at_ : ∃ a, x = .ref a ∧ H a = some (.tup [.int c.1, .int c.2])
  ok : Clk c
theorem ClkAt.same {H H' : Hp} {x : V} {c : Int × Int} (e : Same H H') (h : ClkAt H x c) : ClkAt H' x c := by
  obtain ⟨a, e1, e2⟩ := h.at_
  exact ⟨⟨a, e1, e _ _ e2⟩, h.ok⟩
theorem ClkAt.res {H : Hp} {x : V} {c : Int × Int} (h : ClkAt H x c) : ClkRes H x true := by
  obtain ⟨a, rfl, e2⟩ := h.at_
  have q := ClkRes.two e2
  rw [decide_eq_true (show 1 ≤ c.1 ∧ c.1 ≤ hrs ∧ 0 ≤ c.2 ∧ c.2 < c.1 from ⟨h.ok.h1, h.ok.h2, h.ok.k1, h.ok.k2⟩)] at q
  exact q
theorem ClkRes.clk {H : Hp} {x : V} (h : ClkRes H x true) : ∃ c, ClkAt H x c := by
  generalize hb : true = b at h
  cases h with
  | no h n => cases hb
  | len h n z => cases hb
  | odd1 h t n => cases hb
  | odd2 h t n => cases hb
  | @two a i j h =>
    obtain ⟨h1, h2, h3, h4⟩ := of_decide_eq_true hb.symm
    exact ⟨(i, j), ⟨a, rfl, h⟩, h1, h2, h3, h4⟩

section
variable {P : Program} {w : World} {K : PySem.W.Frag} {mg : Str → Option Value} {base : Heap}
/-! ### the promises of clocks.py -/
def spWhole : Sp := fun vs H Q _ => ∃ x t, vs = [x] ∧ Td H x t ∧ Q (.bl (isI x)) H
def spIsClock : Sp := fun vs H Q _ => ∃ x r, vs = [x] ∧ ClkRes H x r ∧ Q (.bl r) H
abbrev xr (K : PySem.W.Frag) (x : Str) : Value := .ref (He.ga K x)
def spNeedClock (K : PySem.W.Frag) : Sp := fun vs H Q E => ∃ x r, vs = [x] ∧ ClkRes H x r ∧ (r = true → Q .non H) ∧ (r = false → E (xr K "BadClock") none H)
def spNeedTurn (K : PySem.W.Frag) : Sp := fun vs H Q E => ∃ x t, vs = [x] ∧ Td H x t ∧ (isI x = true → Q .non H) ∧ (isI x = false → E (xr K "BadTurn") none H)
/-- what a call with a clock and a turn comes to: f of a clock and a turn -/
def ofCT (K : PySem.W.Frag) (f : Int × Int → Int → V) : Sp := fun vs H Q E => ∃ x y, vs = [x, y] ∧
  ((ClkRes H x false ∧ E (xr K "BadClock") none H) ∨ ∃ c, ClkAt H x c ∧ ((∃ t, Td H y t ∧ isI y = false ∧ E (xr K "BadTurn") none H) ∨ ∃ t, y = .int t ∧ Q (f c t) H))
def spShows (K : PySem.W.Frag) : Sp := ofCT K fun c t => .int (t % c.1)
def spIsRight (K : PySem.W.Frag) : Sp := ofCT K fun c t => .bl (decide (t % c.1 = c.2))
end
end Rf
namespace Rf
open PySem L2 PySem.Spec PyProof.Rows
section
variable {K : PySem.W.Frag} {H : Hp} {Q : VK} {x : V} {t n : String} {b : Bool}
theorem is_ty (ht : Td H x t) (k : PySem.W.kitOne K (.type t) (.type n) = some b) (q : Q (.bl b) H) : rIsi K [x, .ty n] H Q := ⟨x, _, _, _, b, rfl, .ty n, ht.ty, k, q⟩
/-- t[0], t[1] of a pair -/
theorem ix0 {a : Addr} {u v : V} (h : H a = some (.tup [u, v])) (q : Q u H) : rIxT K (.ref a) (.int 0) H Q := ⟨a, _, 0, u, rfl, rfl, .of h, rfl, q⟩
theorem ix1 {a : Addr} {u v : V} (h : H a = some (.tup [u, v])) (q : Q v H) : rIxT K (.ref a) (.int 1) H Q := ⟨a, _, 1, v, rfl, rfl, .of h, rfl, q⟩
theorem lenT {a : Addr} {xs : List V} {R : Nat → Prop} (h : H a = some (.tup xs)) (q : R xs.length) : ∃ n, LenV K (.ref a) H n ∧ R n := ⟨xs.length, .inr ⟨_, .of h, rfl⟩, q⟩
theorem kitTT : PySem.W.kitOne K (.type "tuple") (.type "tuple") = some true := kit_ty (by decide +kernel)
end
end Rf

namespace Rf
open PySem L2 PySem.Spec PyProof.Rows LamX
/-! what stands where tables may grow -/
theorem exS {H H' : Hp} (e : Same H H') : ExtN H H' := fun b o h _ => e b o h
theorem xtup {H H' : Hp} (e : ExtN H H') {a : Addr} {xs : List V} (h : H a = some (.tup xs)) : H' a = some (.tup xs) := e _ _ h fun _ z => by cases z
theorem xlst {H H' : Hp} (e : ExtN H H') {a : Addr} {xs : List V} (h : H a = some (.lst xs)) : H' a = some (.lst xs) := e _ _ h fun _ z => by cases z
theorem xdK {H H' : Hp} (e : ExtN H H') {a : Addr} {xs : List (Key × V)} (h : H a = some (.dK xs)) : H' a = some (.dK xs) := e _ _ h fun _ z => by cases z
theorem xxd {H H' : Hp} (e : ExtN H H') {a : Addr} {xs : List (Str × V)} (h : H a = some (.xd xs)) : H' a = some (.xd xs) := e _ _ h fun _ z => by cases z
theorem Td.ext {H H' : Hp} {x : V} {t : String} (e : ExtN H H') (h : Td H x t) : Td H' x t := by
  cases h with
  | non => exact .non
  | bl b => exact .bl b
  | int i => exact .int i
  | str x => exact .str x
  | lst h => exact .lst (xlst e h)
  | tup h => exact .tup (xtup e h)
  | dK h => exact .dK (xdK e h)
theorem ClkRes.ext {H H' : Hp} {x : V} {r : Bool} (e : ExtN H H') (h : ClkRes H x r) : ClkRes H' x r := by
  cases h with
  | no h n => exact .no (h.ext e) n
  | len h n z => exact .len (xtup e h) n z
  | odd1 h t n => exact .odd1 (xtup e h) (t.ext e) n
  | odd2 h t n => exact .odd2 (xtup e h) (t.ext e) n
  | two h => exact .two (xtup e h)
theorem ClkAt.ext {H H' : Hp} {x : V} {c : Int × Int} (e : ExtN H H') (h : ClkAt H x c) : ClkAt H' x c := by
  obtain ⟨a, e1, e2⟩ := h.at_
  exact ⟨⟨a, e1, xtup e e2⟩, h.ok⟩
/-- a list written anew, which was not there at the start -/
theorem ext_put {H0 H : Hp} {a : Addr} {o : HO} (e : ExtN H0 H) (n : ∀ u, H0 a = some u → (∀ ps, u ≠ .tbl ps) → False) : ExtN H0 (upd H a o) := fun b u h hu => by
  by_cases hb : b = a
  · subst hb
    exact (n u h hu).elim
  · rw [upd_ne hb]
    exact e b u h hu
theorem ext_no {H0 H : Hp} {a : Addr} (e : ExtN H0 H) (n : H a = none) : ∀ u, H0 a = some u → (∀ ps, u ≠ .tbl ps) → False := fun u h hu => by
  have := e a u h hu
  rw [n] at this
  cases this
theorem tabs_put {T : List (Addr × Str)} {H : Hp} {a : Addr} {xs ys : List V} (t : Tabs T H) (h : H a = some (.lst xs)) : Tabs T (upd H a (.lst ys)) := fun p hp => by
  obtain ⟨ps, h1, h2, h3⟩ := t p hp
  refine ⟨ps, ?_, h2, fun pos cv hc => ?_⟩
  · rw [upd_ne]
    · exact h1
    · intro e
      rw [e, h] at h1
      cases h1
  · obtain ⟨c, e1, e2⟩ := h3 pos cv hc
    refine ⟨c, e1, ?_⟩
    rw [upd_ne]
    · exact e2
    · intro e
      rw [e, h] at e2
      cases e2
theorem tabs_upd {T : List (Addr × Str)} {H : Hp} {a : Addr} {o : HO} (t : Tabs T H) (n : H a = none) : Tabs T (upd H a o) := t.ext fun b u h => by
  rw [upd_ne]
  · exact h
  · intro e
    rw [e, n] at h
    cases h
theorem ne_fresh {H : Hp} {a b : Addr} {o : HO} (h : H a = some o) (n : H b = none) : a ≠ b := fun e => by
  rw [e, n] at h
  cases h
/-- two things of the same data are alike -/
theorem ne_self {K : PySem.W.Frag} {H : Hp} {x y : V} {d : PyData} {Q : VK} (h1 : Dp K H x d) (h2 : Dp K H y d) (s : SeqAt.shaped d = true) (q : Q (.bl false) H) : rNeD K x y H Q := by
  refine ⟨d, d, h1, h2, s, s, ?_⟩
  rw [SeqAt.eqv_refl _ (SeqAt.canLay_of_shaped s)]
  exact q
theorem eq_self {K : PySem.W.Frag} {H : Hp} {x y : V} {d : PyData} {Q : VK} (h1 : Dp K H x d) (h2 : Dp K H y d) (s : SeqAt.shaped d = true) (q : Q (.bl true) H) : rEqD K x y H Q := by
  refine ⟨d, d, h1, h2, s, s, ?_⟩
  rw [SeqAt.eqv_refl _ (SeqAt.canLay_of_shaped s)]
  exact q
theorem sh2 (a b : Int) : SeqAt.shaped (.tuple [.int a, .int b]) = true := rfl
theorem sh3 (a b c : Int) : SeqAt.shaped (.tuple [.int a, .int b, .int c]) = true := rfl
theorem fresh_at {H H' : Hp} {p : Addr} (e : Same H H') (n : H' p = none) : H p = none := by
  cases h : H p with
  | none => rfl
  | some o =>
    have := e _ _ h
    rw [n] at this
    cases this
theorem same_put {H0 H : Hp} {p : Addr} {o : HO} (e : Same H0 H) (n : H0 p = none) : Same H0 (upd H p o) := fun b u h => by
  rw [upd_ne (ne_fresh h n)]
  exact e _ _ h
theorem sql_ext {K : PySem.W.Frag} {H H' : Hp} {a : Addr} {xs : List V} (e : Same H H') (h : SqL K H a xs) : SqL K H' a xs :=
  h.elim (fun h => .inl (h.elim (fun h => .inl (e _ _ h)) fun ⟨o, h⟩ => .inr ⟨o, e _ _ h⟩)) fun h => .inr h
end Rf

/-! What the head's Hook looks at beside the defs: the classes of refusals. -/
namespace Rf
open PySem L2 PySem.Spec PyProof.Rows LamX
abbrev plainX : List Str := ["BadClock", "BadTurn", "NoClock", "TooMany", "BadWall"]
def xcB (K : PySem.W.Frag) (x : Str) : Bool :=
  PySem.W.keepIn K (.ref (He.ga K x)) && (decide (PySem.W.subIn K (.ref (He.ga K x)) (.type "BaseException") = some true) && (decide (PySem.W.typeIn K (.ref (He.ga K x)) = some (.type "type")) && (exCB K (He.ga K x) &&
  (decide (PySem.W.exmOne K (.ref (He.ga K x)) (.ref (He.ga K "FoldError")) = some true) && (decide (PySem.W.kitOne K (.ref (He.ga K x)) (.type "ValueError") = some true) &&
  xNames.all fun y => decide (PySem.W.kitOne K (.ref (He.ga K x)) (.ref (He.ga K y)) = some (decide (x = y))))))))
def xpB (K : PySem.W.Frag) (x : Str) : Bool := PySem.W.excIn K (He.ga K x) He.veBase "ValueError.__new__"
def noB (K : PySem.W.Frag) (x f : Str) : Bool := decide (PySem.W.findIn K (.ref (He.ga K x)) f = some none)
def exB (K : PySem.W.Frag) : Bool := xNames.all (xcB K) && (plainX.all (xpB K) && (noB K "Never" "one" && (noB K "Never" "other" && noB K "BadText" "row")))
theorem xc_of {K : PySem.W.Frag} {mg : Str → Option Value} {x : Str} (h : xcB K x = true) (g : mg x = some (.ref (He.ga K x))) : Xc K mg x := by
  obtain ⟨h1, h⟩ := Bool.and_eq_true_iff.mp h
  obtain ⟨h2, h⟩ := Bool.and_eq_true_iff.mp h
  obtain ⟨h3, h⟩ := Bool.and_eq_true_iff.mp h
  obtain ⟨h4, h⟩ := Bool.and_eq_true_iff.mp h
  obtain ⟨h5, h⟩ := Bool.and_eq_true_iff.mp h
  obtain ⟨h6, h⟩ := Bool.and_eq_true_iff.mp h
  exact ⟨g, h1, of_decide_eq_true h2, of_decide_eq_true h3, exCB_ok h4, of_decide_eq_true h5, of_decide_eq_true h6, fun y hy => of_decide_eq_true (List.all_eq_true.mp h y hy)⟩
structure Xs (K : PySem.W.Frag) (mg : Str → Option Value) : Prop where
  x : ∀ y ∈ xNames, Xc K mg y
  p : ∀ y ∈ plainX, Xp K mg y
  no : PySem.W.findIn K (.ref (He.ga K "Never")) "one" = some none ∧ PySem.W.findIn K (.ref (He.ga K "Never")) "other" = some none
  nr : PySem.W.findIn K (.ref (He.ga K "BadText")) "row" = some none
theorem xs_of {K : PySem.W.Frag} {mg : Str → Option Value} (h : exB K = true) (g : ∀ y ∈ xNames, mg y = some (.ref (He.ga K y))) : Xs K mg := by
  obtain ⟨h1, h⟩ := Bool.and_eq_true_iff.mp h
  obtain ⟨h2, h⟩ := Bool.and_eq_true_iff.mp h
  obtain ⟨h3, h⟩ := Bool.and_eq_true_iff.mp h
  obtain ⟨h4, h5⟩ := Bool.and_eq_true_iff.mp h
  have x : ∀ y ∈ xNames, Xc K mg y := fun y hy => xc_of (List.all_eq_true.mp h1 y hy) (g y hy)
  refine ⟨x, fun y hy => ⟨x y ?_, List.all_eq_true.mp h2 y hy⟩, ⟨of_decide_eq_true h3, of_decide_eq_true h4⟩, of_decide_eq_true h5⟩
  simp only [List.mem_cons, List.not_mem_nil, or_false] at hy ⊢
  rcases hy with h | h | h | h | h <;> simp [h]
/-- a def of the top as the head's Hook holds it -/
abbrev dd (x : Str) (st : Stmt) : He.DefD := ⟨(x, none), x, x, defArgs st, defBody st, defScope st, [], []⟩
abbrev btNames : List Str := ["isinstance", "int", "bool", "tuple", "len", "list", "str", "sorted", "enumerate", "all", "range", "dict", "sum", "zip", "min", "ValueError"]
theorem bt_of {mg : Str → Option Value} (h : ∀ x ∈ btNames, mg x = none) : Bt mg :=
  ⟨h _ (by simp), h _ (by simp), h _ (by simp), h _ (by simp), h _ (by simp), h _ (by simp), h _ (by simp), h _ (by simp), h _ (by simp), h _ (by simp), h _ (by simp), h _ (by simp), h _ (by simp), h _ (by simp), h _ (by simp), h _ (by simp)⟩
theorem df_of {fa : List He.Fa} {fn : List He.DefD} {K : PySem.W.Frag} {x : Str} {st : Stmt} (c : He.SaysD fa fn K) (h : dd x st ∈ fn) : Df K x st := ⟨c.defs h⟩
end Rf

/-! A slot that holds one of several defs with one promise; the law's own parts that all laws share. -/
namespace Rf
open PySem L2 PySem.Spec PyProof.Rows LamX
def tCallO (i : Nat) (S : Addr → Prop) (sp : Sp) (E : XK) (t : TA) : TE := fun σ H Q => ∃ f, σ[i]? = some (some (.ref f)) ∧ S f ∧ t σ H fun vs H1 => sp vs H1 Q E
theorem pe_callO {X : Cx} {CX : CXT} {k i : Nat} {sp : Sp} {E : XK} {x : Str} {p pos : Pos} {e : Expr} {es : List Expr} {t : TA} {S : Addr → Prop}
    (A : ∀ f, S f → ∃ fd ps, FnOk X.prog X.w X.K X.mg X.base CX k f fd ps sp ∧ PySem.W.keepIn X.K (.ref f) = true ∧ Binds X.K fd ps []) (hr : Room k X.A) (hx : Passes CX X E) (ha : PA X (e :: es) t) (hN : X.N[i]? = some x := by rfl) (hv : Vis X.env.scope x := by first | exact Or.inl rfl | exact Or.inr (Or.inl rfl) | exact Or.inr (Or.inr rfl))
    (hdb : (x == ("__debug__" : Str)) = false := by decide) (hcd : (x == ("__classdict__" : Str)) = false := by decide)
    (he : starEach (e :: es) X.env = (false, eval e X.env) :: starEach es X.env := by rfl) (hpl : (backTo pos (starEach es X.env)).any (·.1) = false := by rfl) : PE X (.Call (.Name x p) (e :: es) [] pos) (tCallO i S sp E t) := by
  refine ⟨fun pins s σ H Q I h => ?_⟩
  obtain ⟨f, hs, hS, ht⟩ := h
  obtain ⟨fd, ps, F, hk, hb⟩ := A f hS
  refine (pe_callL (i := i) (f := f) (sp := sp) (dvs := []) (E := E) F hr hN hv hk hb .nil hx ha hdb hcd he hpl).run pins s σ H Q I ⟨hs, ?_⟩
  have e0 : (fun (vs : List V) (H1 : Hp) => sp (vs ++ []) H1 Q E) = fun vs H1 => sp vs H1 Q E := by
    funext vs H1
    rw [List.append_nil]
  rw [e0]
  exact ht
/-- a for's body, a while's -/
def forBody : List Stmt → List Stmt
  | .For _ _ b _ _ :: _ => b
  | _ :: r => forBody r
  | [] => []
theorem cut_int {ns : List Int} {lo hi : Option Int} {v : V} (h : v ∈ cutV (ns.map V.int) lo hi) : ∃ c, v = .int c := by
  unfold cutV at h
  obtain ⟨c, _, rfl⟩ := List.mem_map.mp (List.mem_of_mem_drop (List.mem_of_mem_take h))
  exact ⟨c, rfl⟩
abbrev lawT (K : PySem.W.Frag) : List (Addr × Str) := [(tbO K "law", "law.<locals>.<lambda>")]
def spLaw (K : PySem.W.Frag) : Sp := fun vs H Q _ => ∃ (a : Addr) (ns : List Int), vs = [.ref a] ∧ SqL K H a (ns.map V.int) ∧ ns.length ≤ 63 ∧ Tabs (lawT K) H ∧ ∀ H', Q (.bl true) H'
end Rf

namespace Rf
open PySem L2
def topS (i : Nat) : Stmt := PySem.Challenge.pw_restfold_k03_two_clocks.main.body.getD i (.Pass ⟨0, 0, 0, 0⟩)
abbrev s_Never___init__ : Stmt := inClass (topS 7) 0
theorem sc_Never___init__ : FnScope ["self", "one", "other"] ["self", "one", "other"] (defScope s_Never___init__) := ⟨rfl, rfl, rfl, by decide +kernel, rfl, by decide +kernel, by decide +kernel⟩
abbrev s_BadText___init__ : Stmt := inClass (topS 8) 0
theorem sc_BadText___init__ : FnScope ["self", "row"] ["self", "row"] (defScope s_BadText___init__) := ⟨rfl, rfl, rfl, by decide +kernel, rfl, by decide +kernel, by decide +kernel⟩
abbrev s_is_whole : Stmt := topS 11
theorem sc_is_whole : FnScope ["thing"] ["thing"] (defScope s_is_whole) := ⟨rfl, rfl, rfl, by decide +kernel, rfl, by decide +kernel, by decide +kernel⟩
abbrev s_is_clock : Stmt := topS 12
theorem sc_is_clock : FnScope ["thing"] ["thing"] (defScope s_is_clock) := ⟨rfl, rfl, rfl, by decide +kernel, rfl, by decide +kernel, by decide +kernel⟩
abbrev s_need_clock : Stmt := topS 13
theorem sc_need_clock : FnScope ["thing"] ["thing"] (defScope s_need_clock) := ⟨rfl, rfl, rfl, by decide +kernel, rfl, by decide +kernel, by decide +kernel⟩
abbrev s_shared : Stmt := topS 14
theorem sc_shared : FnScope ["one", "other", "times", "more", "whole"] ["one", "other"] (defScope s_shared) := ⟨rfl, rfl, rfl, by decide +kernel, rfl, by decide +kernel, by decide +kernel⟩
abbrev s_fold_two : Stmt := topS 15
theorem sc_fold_two : FnScope ["one", "other", "common", "times", "apart", "rest"] ["one", "other"] (defScope s_fold_two) := ⟨rfl, rfl, rfl, by decide +kernel, rfl, by decide +kernel, by decide +kernel⟩
abbrev s_need_both : Stmt := topS 16
theorem sc_need_both : FnScope ["one", "other"] ["one", "other"] (defScope s_need_both) := ⟨rfl, rfl, rfl, by decide +kernel, rfl, by decide +kernel, by decide +kernel⟩
abbrev s_witness : Stmt := topS 17
theorem sc_witness : FnScope ["one", "other", "common"] ["one", "other"] (defScope s_witness) := ⟨rfl, rfl, rfl, by decide +kernel, rfl, by decide +kernel, by decide +kernel⟩
abbrev s_agree : Stmt := topS 18
theorem sc_agree : FnScope ["one", "other", "common", "mine", "yours"] ["one", "other"] (defScope s_agree) := ⟨rfl, rfl, rfl, by decide +kernel, rfl, by decide +kernel, by decide +kernel⟩
abbrev s_both : Stmt := topS 19
theorem sc_both : FnScope ["one", "other", "found"] ["one", "other"] (defScope s_both) := ⟨rfl, rfl, rfl, by decide +kernel, rfl, by decide +kernel, by decide +kernel⟩
abbrev s__law_mixed : Stmt := topS 21
theorem sc__law_mixed : FnScope ["_law_cell", "_law_k", "_law_number"] ["_law_cell", "_law_k"] (defScope s__law_mixed) := ⟨rfl, rfl, rfl, by decide +kernel, rfl, by decide +kernel, by decide +kernel⟩
abbrev s__law_whole : Stmt := topS 22
theorem sc__law_whole : FnScope ["_law_found"] ["_law_found"] (defScope s__law_whole) := ⟨rfl, rfl, rfl, by decide +kernel, rfl, by decide +kernel, by decide +kernel⟩
abbrev s__law_wide : Stmt := topS 23
theorem sc__law_wide : FnScope ["_law_cell", "_law_k"] ["_law_cell", "_law_k"] (defScope s__law_wide) := ⟨rfl, rfl, rfl, by decide +kernel, rfl, by decide +kernel, by decide +kernel⟩
abbrev s__law_hours : Stmt := topS 24
theorem sc__law_hours : FnScope ["_law_cell", "_law_k", "_law_number", "_law_few", "_law_smooth", "_law_wide_here"] ["_law_cell", "_law_k"] (defScope s__law_hours) := ⟨rfl, rfl, rfl, by decide +kernel, rfl, by decide +kernel, by decide +kernel⟩
abbrev s__law_turn : Stmt := topS 25
theorem sc__law_turn : FnScope ["_law_cell", "_law_k", "_law_number", "_law_wide_here"] ["_law_cell", "_law_k"] (defScope s__law_turn) := ⟨rfl, rfl, rfl, by decide +kernel, rfl, by decide +kernel, by decide +kernel⟩
abbrev s__law_common : Stmt := topS 26
theorem sc__law_common : FnScope ["_law_one", "_law_other"] ["_law_one", "_law_other"] (defScope s__law_common) := ⟨rfl, rfl, rfl, by decide +kernel, rfl, by decide +kernel, by decide +kernel⟩
abbrev s__law_clock : Stmt := topS 27
theorem sc__law_clock : FnScope ["_law_cell", "_law_k", "_law_hours_here", "_law_number"] ["_law_cell", "_law_k"] (defScope s__law_clock) := ⟨rfl, rfl, rfl, by decide +kernel, rfl, by decide +kernel, by decide +kernel⟩
abbrev s__law_meant : Stmt := topS 28
theorem sc__law_meant : FnScope ["_law_cell", "_law_k", "_law_turn_here", "_law_hours_here"] ["_law_cell", "_law_k", "_law_turn_here"] (defScope s__law_meant) := ⟨rfl, rfl, rfl, by decide +kernel, rfl, by decide +kernel, by decide +kernel⟩
abbrev s__law_kept : Stmt := topS 29
theorem sc__law_kept : FnScope ["_law_deed", "_law_kept_here", "_law_e"] ["_law_deed"] (defScope s__law_kept) := ⟨rfl, rfl, rfl, by decide +kernel, rfl, by decide +kernel, by decide +kernel⟩
abbrev s__law_word : Stmt := topS 30
theorem sc__law_word : FnScope ["_law_e", "_law_some", "_law_found", "_law_word_here", "_law_is_it"] ["_law_e"] (defScope s__law_word) := ⟨rfl, rfl, rfl, by decide +kernel, rfl, by decide +kernel, by decide +kernel⟩
abbrev s__law_right : Stmt := topS 31
theorem sc__law_right : FnScope ["_law_one", "_law_other", "_law_common_here", "_law_found", "_law_do_agree", "_law_told", "_law_fold", "_law_part"] ["_law_one", "_law_other"] (defScope s__law_right) := ⟨rfl, rfl, rfl, by decide +kernel, rfl, by decide +kernel, by decide +kernel⟩
abbrev s__law_pair : Stmt := topS 32
theorem sc__law_pair : FnScope ["_law_cell", "_law_k", "_law_number", "_law_turn_here", "_law_one", "_law_other", "_law_more"] ["_law_cell", "_law_k"] (defScope s__law_pair) := ⟨rfl, rfl, rfl, by decide +kernel, rfl, by decide +kernel, by decide +kernel⟩
abbrev s_law : Stmt := topS 33
theorem sc_law : FnScope ["_law_script", "_law_k", "_law_cell", "_law_one", "_law_other", "_law_number", "_law_odd", "_law_deed"] ["_law_script"] (defScope s_law) := ⟨rfl, rfl, rfl, by decide +kernel, rfl, by decide +kernel, by decide +kernel⟩
end Rf

namespace Rf
open PySem L2 PySem.Spec PyProof.Rows
local macro_rules | `(tactic| walk_at "rd") => `(tactic| simp only [tSeq, tAsg, tOp, tUn, tVar, tC, gName, tRet, tRetN, tIfS, tNext, tTest, tB, tNot, tAnd, tOr, tIf, tAndV, tOrV, tNotV, tCons, tNil, tCB, tCall, tDrop, tChain, rI, rI0, rU, L2.start, List.map_cons, List.map_nil, List.length_cons, List.length_nil, List.replicate_succ, List.replicate_zero, List.cons_append, List.nil_append, List.append_nil, List.getElem?_cons_zero, List.getElem?_cons_succ, List.set_cons_zero, List.set_cons_succ, Option.some.injEq, exists_eq_left', exists_eq_left, exists_and_left, V.int.injEq, V.bl.injEq, V.str.injEq, V.ref.injEq, List.cons.injEq, and_true, true_and, Nat.reduceSub, Nat.reduceAdd, Bool.not_true, Bool.not_false, if_true, if_false, Bool.false_eq_true, reduceIte, forall_const])
section
variable {P : Program} {w : World} {K : PySem.W.Frag} {mg : Str → Option Value} {base : Heap}
theorem h_is_whole (B : Bt mg) (D : Df K "is_whole" s_is_whole) (g : mg "is_whole" = some (.ref (He.ga K "is_whole"))) : Has P w K mg base CX0 2 "is_whole" ["thing"] spWhole := by
  refine has_of0 D g sc_is_whole (fun _ _ _ _ _ _ us hl => match us, hl with | [_], _ => rfl) (fun vs H Q E h => ?_) (fun A outer s H vs Q E hr h => ?_)
  · obtain ⟨x, t, rfl, _⟩ := h
    rfl
  · obtain ⟨x, t, rfl, ht, k⟩ := h
    obtain ⟨b1, b2, k1, k2, e⟩ := ht.kit (K := K)
    refine ⟨_, pss_one (ps_ret (pe_and (pe_callB call_isi (by rfl) B.isinstance (by decide +kernel) (pa_cons (pv 0) (pa_cons (pe_bltn (v := .ty "int") (by rfl) B.int (by decide +kernel) rfl) pa_nil)))
      (pe_one (pe_not (pe_callB call_isi (by rfl) B.isinstance (by decide +kernel) (pa_cons (pv 0) (pa_cons (pe_bltn (v := .ty "bool") (by rfl) B.bool (by decide +kernel) rfl) pa_nil))))))), ?_⟩
    walk_at "rd"
    refine is_ty ht k1 ?_
    rw [← e] at k
    cases b1 with
    | false => exact ⟨false, rfl, k⟩
    | true =>
      refine ⟨true, rfl, iteT ?_⟩
      refine is_ty ht k2 ?_
      exact ⟨b2, rfl, k⟩
theorem h_is_clock (B : Bt mg) (W : Has P w K mg base CX0 2 "is_whole" ["thing"] spWhole) (gM : ∃ t, mg "MOST_HOURS" = some (.int hrs t)) (D : Df K "is_clock" s_is_clock) (g : mg "is_clock" = some (.ref (He.ga K "is_clock"))) : Has P w K mg base CX0 3 "is_clock" ["thing"] spIsClock := by
  refine has_of0 D g sc_is_clock (fun _ _ _ _ _ _ us hl => match us, hl with | [_], _ => rfl) (fun vs H Q E h => ?_) (fun A outer s H vs Q E hr h => ?_)
  · obtain ⟨x, t, rfl, _⟩ := h
    rfl
  · obtain ⟨x, r, rfl, hc, k⟩ := h
    refine ⟨_, pss_cons (ps_if (PW.pt (pw_or (pt_not (pt_val (pe_callB call_isi (by rfl) B.isinstance (by decide +kernel) (pa_cons (pv 0) (pa_cons (pe_bltn (v := .ty "tuple") (by rfl) B.tuple (by decide +kernel) rfl) pa_nil)))))
        (pw_or (pt_cmpR op_ne (pe_callB call_len (by rfl) B.len (by decide +kernel) (pa_cons (pv 0) pa_nil)) pe_int (nomark _)) (pw_or (pt_not (pt_val (pe_fn W hr pass0 (pa_cons (pe_ix ix_tup (pv 0) pe_int (fun _ _ => rfl)) pa_nil)))) (pw_or1 (pt_not (pt_val (pe_fn W hr pass0 (pa_cons (pe_ix ix_tup (pv 0) pe_int (fun _ _ => rfl)) pa_nil))))))))) (pss_one (ps_ret pe_bl)) pss_nil)
      (pss_one (ps_ret (pe_and (pe_chain op_le op_le pe_int (pe_ix ix_tup (pv 0) pe_int (fun _ _ => rfl)) (pe_gint (by rfl) gM)) (pe_one (pe_chain op_le op_lt pe_int (pe_ix ix_tup (pv 0) pe_int (fun _ _ => rfl)) (pe_ix ix_tup (pv 0) pe_int (fun _ _ => rfl))))))), ?_⟩
    walk_at "rd"
    cases hc with
    | @no x t ht n =>
      refine is_ty ht ht.kitT ?_
      rw [decide_eq_false n]
      walk_at "rd"
      exact k
    | @len a xs h n z =>
      refine is_ty (.tup h) kitTT ?_
      walk_at "rd"
      refine lenT h ⟨rfl, ?_⟩
      have e : decide (V.int (xs.length : Int) = V.int 2) = false := decide_eq_false fun z => n (by injection z with z; omega)
      rw [e]
      walk_at "rd"
      exact k
    | @odd1 a u v t h tx n =>
      refine is_ty (.tup h) kitTT ?_
      walk_at "rd"
      refine lenT h ⟨rfl, ?_⟩
      show ∃ k, V.bl false = V.bl k ∧ _
      walk_at "rd"
      refine ix0 h ⟨u, t, rfl, tx, ?_⟩
      rw [n]
      walk_at "rd"
      exact k
    | @odd2 a i v t h ty n =>
      refine is_ty (.tup h) kitTT ?_
      walk_at "rd"
      refine lenT h ⟨rfl, ?_⟩
      show ∃ k, V.bl false = V.bl k ∧ _
      walk_at "rd"
      refine ix0 h ⟨.int i, _, rfl, .int i, ?_⟩
      show ∃ c, V.bl true = V.bl c ∧ _
      walk_at "rd"
      refine ix1 h ⟨v, t, rfl, ty, ?_⟩
      rw [n]
      walk_at "rd"
      exact k
    | @two a i j h =>
      refine is_ty (.tup h) kitTT ?_
      walk_at "rd"
      refine lenT h ⟨rfl, ?_⟩
      show ∃ k, V.bl false = V.bl k ∧ _
      walk_at "rd"
      refine ix0 h ⟨.int i, _, rfl, .int i, ?_⟩
      show ∃ c, V.bl true = V.bl c ∧ _
      walk_at "rd"
      refine ix1 h ⟨.int j, _, rfl, .int j, ?_⟩
      show ∃ c, V.bl true = V.bl c ∧ _
      walk_at "rd"
      refine ix0 h ⟨i, rfl, ?_⟩
      by_cases h1 : 1 ≤ i
      · rw [if_pos (decide_eq_true h1)]
        refine ⟨i, rfl, ?_⟩
        by_cases h2 : i ≤ hrs
        · rw [if_pos (decide_eq_true h2)]
          refine ix1 h ⟨j, rfl, ?_⟩
          by_cases h3 : 0 ≤ j
          · rw [if_pos (decide_eq_true h3)]
            refine ix0 h ⟨j, rfl, i, rfl, ?_⟩
            have e : decide (1 ≤ i ∧ i ≤ hrs ∧ 0 ≤ j ∧ j < i) = decide (j < i) := by
              by_cases h4 : j < i
              · rw [decide_eq_true h4, decide_eq_true ⟨h1, h2, h3, h4⟩]
              · rw [decide_eq_false h4, decide_eq_false fun z => h4 z.2.2.2]
            rw [e] at k
            exact k
          · rw [if_neg (by rw [decide_eq_false h3]; decide)]
            rw [decide_eq_false fun z => h3 z.2.2.1] at k
            exact k
        · rw [if_neg (by rw [decide_eq_false h2]; decide)]
          rw [decide_eq_false fun z => h2 z.2.1] at k
          exact k
      · rw [if_neg (by rw [decide_eq_false h1]; decide)]
        rw [decide_eq_false fun z => h1 z.1] at k
        exact k
theorem h_need_clock (C : Has P w K mg base CX0 3 "is_clock" ["thing"] spIsClock) (X : Xp K mg "BadClock") (D : Df K "need_clock" s_need_clock) (g : mg "need_clock" = some (.ref (He.ga K "need_clock"))) : Has P w K mg base (L2.CX P w) 4 "need_clock" ["thing"] (spNeedClock K) := by
  refine has_of D g sc_need_clock (fun _ _ _ _ _ _ us hl => match us, hl with | [_], _ => rfl) (fun vs H Q E h => ?_) (fun A outer s H vs Q E hr h => ?_)
  · obtain ⟨x, t, rfl, _⟩ := h
    rfl
  · obtain ⟨x, r, rfl, hc, k1, k2⟩ := h
    refine ⟨_, pss_one (ps_if (pt_not (pt_val (pe_fn C hr pass0 (pa_cons (pv 0) pa_nil)))) (pss_one (ps_raise rfl takesB (pmk_own PySem.F.excBase_ValueError X.exc X.g X.kp (raises_own X.sub X.ty) (by exact rfl)))) pss_nil), ?_⟩
    walk_at "rd"
    refine ⟨x, r, rfl, hc, r, rfl, ?_⟩
    cases r with
    | true => exact k1 rfl
    | false => exact k2 rfl
theorem isI_int {x : V} (h : isI x = true) : ∃ i, x = .int i := by
  cases x with
  | int i => exact ⟨i, rfl⟩
  | _ => cases h
end
end Rf

namespace Rf
open PySem L2 PySem.Spec PyProof.Rows
local macro_rules | `(tactic| walk_at "rd") => `(tactic| simp only [tSeq, tAsg, tLst, tTup, tDNewK, tOp, tUn, tVar, tC, gName, tRet, tRetN, tIfS, tNext, tTest, tB, tNot, tAnd, tOr, tIf, tAndV, tOrV, tNotV, tCons, tNil, tCB, tCall, tDrop, tChain, rI, rI0, rU, L2.start, List.map_cons, List.map_nil, List.length_cons, List.length_nil, List.replicate_succ, List.replicate_zero, List.cons_append, List.nil_append, List.append_nil, List.getElem?_cons_zero, List.getElem?_cons_succ, List.set_cons_zero, List.set_cons_succ, Option.some.injEq, exists_eq_left', exists_eq_left, exists_and_left, V.int.injEq, V.bl.injEq, V.str.injEq, V.ref.injEq, List.cons.injEq, and_true, true_and, Nat.reduceSub, Nat.reduceAdd, Bool.not_true, Bool.not_false, if_true, if_false, Bool.false_eq_true, reduceIte, forall_const])
section
variable {P : Program} {w : World} {K : PySem.W.Frag} {mg : Str → Option Value} {base : Heap}
theorem ixL {H : Hp} {Q : VK} {p : Addr} {xs : List V} {i : Int} (h : H p = some (.lst xs)) (h0 : 0 ≤ i) (h1 : i < xs.length) (q : ∀ v, v ∈ xs → Q v H) : rIxL K (.ref p) (.int i) H Q := by
  obtain ⟨n, rfl⟩ : ∃ n : Nat, i = (n : Int) := ⟨i.toNat, by omega⟩
  have hi : n < xs.length := by omega
  exact ⟨p, xs, (n : Int), xs[n], rfl, rfl, .of h, atI_nat (List.getElem?_eq_getElem hi), q _ (List.getElem_mem hi)⟩
theorem anInt {v : V} (ns : List Int) (p : Int → Prop) (hv : v ∈ ns.map V.int) (hp : ∀ a ∈ ns, p a) : ∃ a, v = .int a ∧ p a := by
  obtain ⟨a, ha, rfl⟩ := List.mem_map.mp hv
  exact ⟨a, rfl, hp a ha⟩
theorem same_upd {H : Hp} {p : Addr} {o : HO} (h : H p = none) : Same H (upd H p o) := fun b u e => by rw [upd_ne (ne_of_none e h)]; exact e

def spMixed : Sp := fun vs H Q _ => ∃ (c k : Int), vs = [.int c, .int k] ∧ ∀ n : Int, 0 ≤ n → n < 1000003 → Q (.int n) H
theorem h_mixed (D : Df K "_law_mixed" s__law_mixed) (g : mg "_law_mixed" = some (.ref (He.ga K "_law_mixed"))) : Has P w K mg base CX0 1 "_law_mixed" ["_law_cell", "_law_k"] spMixed := by
  refine has_of0 D g sc__law_mixed (fun _ _ _ _ _ _ us hl => match us, hl with | [_, _], _ => rfl) (fun vs H Q E h => ?_) (fun A outer s H vs Q E hr h => ?_)
  · obtain ⟨c, k, rfl, _⟩ := h
    rfl
  · obtain ⟨c, k, rfl, q⟩ := h
    refine ⟨_, pss_cons (ps_set (i := 2) sc__law_mixed.nd rfl (Or.inl rfl) (pe_op op_mod (pe_op op_add (pe_op op_add (pe_op op_mod (pv 0) pe_int) (pe_op op_mul pe_int (pv 1))) pe_int) pe_int))
      (pss_one (ps_ret (pe_op op_mod (pe_op op_mul (pe_op op_mod (pe_op op_mul (pv 2) (pv 2)) pe_int) (pv 2)) pe_int))), ?_⟩
    walk_at "rd"
    refine ⟨by decide, .inl (by decide), by decide, .inl ?_, by decide, .inl ?_, by decide, ?_⟩
    · omega
    · omega
    · exact q _ (by omega) (by omega)
theorem h_whole (B : Bt mg) (D : Df K "_law_whole" s__law_whole) (g : mg "_law_whole" = some (.ref (He.ga K "_law_whole"))) : Has P w K mg base CX0 2 "_law_whole" ["_law_found"] spWhole := by
  refine has_of0 D g sc__law_whole (fun _ _ _ _ _ _ us hl => match us, hl with | [_], _ => rfl) (fun vs H Q E h => ?_) (fun A outer s H vs Q E hr h => ?_)
  · obtain ⟨x, t, rfl, _⟩ := h
    rfl
  · obtain ⟨x, t, rfl, ht, k⟩ := h
    obtain ⟨b1, b2, k1, k2, e⟩ := ht.kit (K := K)
    refine ⟨_, pss_one (ps_ret (pe_and (pe_callB call_isi (by rfl) B.isinstance (by decide +kernel) (pa_cons (pv 0) (pa_cons (pe_bltn (v := .ty "int") (by rfl) B.int (by decide +kernel) rfl) pa_nil)))
      (pe_one (pe_not (pe_callB call_isi (by rfl) B.isinstance (by decide +kernel) (pa_cons (pv 0) (pa_cons (pe_bltn (v := .ty "bool") (by rfl) B.bool (by decide +kernel) rfl) pa_nil))))))), ?_⟩
    walk_at "rd"
    refine is_ty ht k1 ?_
    rw [← e] at k
    cases b1 with
    | false => exact ⟨false, rfl, k⟩
    | true =>
      refine ⟨true, rfl, iteT ?_⟩
      refine is_ty ht k2 ?_
      exact ⟨b2, rfl, k⟩
abbrev wd : Int := 10 ^ 53
def spWide : Sp := fun vs H Q _ => ∃ (c k : Int), vs = [.int c, .int k] ∧ ∀ n : Int, 0 ≤ n → n < wd → Q (.int n) H
theorem h_wide (M : Has P w K mg base CX0 1 "_law_mixed" ["_law_cell", "_law_k"] spMixed) (D : Df K "_law_wide" s__law_wide) (g : mg "_law_wide" = some (.ref (He.ga K "_law_wide"))) : Has P w K mg base CX0 2 "_law_wide" ["_law_cell", "_law_k"] spWide := by
  refine has_of0 D g sc__law_wide (fun _ _ _ _ _ _ us hl => match us, hl with | [_, _], _ => rfl) (fun vs H Q E h => ?_) (fun A outer s H vs Q E hr h => ?_)
  · obtain ⟨c, k, rfl, _⟩ := h
    rfl
  · obtain ⟨c, k, rfl, q⟩ := h
    refine ⟨_, pss_one (ps_ret (pe_op op_add (pe_op op_add (pe_op op_mul (pe_op op_mod (pv 0) (pe_op op_pow pe_int pe_int)) (pe_op op_pow pe_int pe_int)) (pe_op op_mul (pe_fn M hr pass0 (pa_cons (pv 0) (pa_cons (pv 1) pa_nil))) pe_int)) (pe_fn M hr pass0 (pa_cons (pv 0) (pa_cons (pe_op op_add (pv 1) pe_int) pa_nil))))), ?_⟩
    walk_at "rd"
    have e1 : (10 : Int) ^ Int.toNat 40 = 10000000000000000000000000000000000000000 := by decide
    have e2 : (1000003 : Int) ^ Int.toNat 2 = 1000006000009 := by decide
    have e3 : wd = 100000000000000000000000000000000000000000000000000000 := by decide
    refine ⟨⟨by decide, by decide, by decide⟩, by decide, ⟨by decide, by decide, by decide⟩, .inr (by decide), c, k, rfl, fun n h1 h2 => ⟨n, rfl, .inr (by decide), c, k + 50, rfl, fun m h3 h4 => ⟨m, rfl, ?_⟩⟩⟩
    rw [e1, e2]
    have z0 := Int.emod_nonneg c (show (10000000000000000000000000000000000000000 : Int) ≠ 0 by decide)
    have z1 := Int.emod_lt_of_pos c (show (0 : Int) < 10000000000000000000000000000000000000000 by decide)
    refine q _ ?_ ?_
    · omega
    · rw [e3]
      omega
/-- hours -/
def spHours : Sp := fun vs H Q _ => ∃ (c k : Int), vs = [.int c, .int k] ∧ ∀ (n : Int) (H' : Hp), Same H H' → 1 ≤ n → n ≤ hrs → Q (.int n) H'
theorem h_hours (M : Has P w K mg base CX0 1 "_law_mixed" ["_law_cell", "_law_k"] spMixed) (W : Has P w K mg base CX0 2 "_law_wide" ["_law_cell", "_law_k"] spWide) (D : Df K "_law_hours" s__law_hours) (g : mg "_law_hours" = some (.ref (He.ga K "_law_hours"))) :
    Has P w K mg base CX0 3 "_law_hours" ["_law_cell", "_law_k"] spHours := by
  refine has_of0 D g sc__law_hours (fun _ _ _ _ _ _ us hl => match us, hl with | [_, _], _ => rfl) (fun vs H Q E h => ?_) (fun A outer s H vs Q E hr h => ?_)
  · obtain ⟨c, k, rfl, _⟩ := h
    rfl
  · obtain ⟨c, k, rfl, q⟩ := h
    refine ⟨_, (pss_cons (ps_set (i := 2) sc__law_hours.nd rfl (Or.inl rfl) (pe_fn M (hr.mono (by decide)) pass0 (pa_cons (pv 0) (pa_cons (pv 1) pa_nil))))
      (pss_cons (ps_set (i := 3) sc__law_hours.nd rfl (Or.inl rfl) (pe_op op_add pe_int (pe_op op_mod (pe_op op_fdiv (pv 2) pe_int) pe_int)))
      (pss_cons (ps_set (i := 4) sc__law_hours.nd rfl (Or.inl rfl) (pe_op op_mul (pe_ix ix_list (pe_lst (pa_cons pe_int (pa_cons pe_int (pa_cons pe_int (pa_cons pe_int (pa_cons pe_int (pa_cons pe_int (pa_cons pe_int (pa_cons pe_int pa_nil))))))))) (pe_op op_mod (pe_op op_fdiv (pv 2) pe_int) pe_int) (fun _ _ => rfl)) (pe_ix ix_list (pe_lst (pa_cons pe_int (pa_cons pe_int (pa_cons pe_int (pa_cons pe_int (pa_cons pe_int (pa_cons pe_int (pa_cons pe_int (pa_cons pe_int pa_nil))))))))) (pe_op op_mod (pe_op op_fdiv (pv 2) pe_int) pe_int) (fun _ _ => rfl))))
      (pss_cons (ps_set (i := 5) sc__law_hours.nd rfl (Or.inl rfl) (pe_op op_add pe_int (pe_op op_mod (pe_fn W hr pass0 (pa_cons (pv 0) (pa_cons (pe_op op_add (pv 1) pe_int) pa_nil))) (pe_op op_pow pe_int pe_int))))
      (pss_one (ps_ret (pe_ix ix_list (pe_lst (pa_cons (pv 3) (pa_cons (pv 3) (pa_cons (pv 4) (pa_cons (pe_op op_mul (pv 4) (pe_ix ix_list (pe_lst (pa_cons pe_int (pa_cons pe_int (pa_cons pe_int (pa_cons pe_int pa_nil))))) (pe_op op_mod (pe_op op_fdiv (pv 2) pe_int) pe_int) (fun _ _ => rfl))) (pa_cons (pv 5) (pa_cons (pv 5) (pa_cons (pe_op op_pow pe_int pe_int) (pa_cons (pv 3) (pa_cons pe_int pa_nil)))))))))) (pe_op op_mod (pv 2) pe_int) (fun _ _ => rfl)))))))), ?_⟩
    walk_at "rd"
    refine ⟨c, k, rfl, fun n n0 n1 => ?_⟩
    walk_at "rd"
    refine ⟨⟨by decide, by decide⟩, by decide, by decide, fun p1 np1 => ⟨⟨by decide, by decide⟩, by decide, ?_⟩⟩
    refine ixL upd_same (by omega) (by show _ < (8 : Int); omega) fun v hv => ?_
    obtain ⟨a, rfl, a0, a1⟩ := anInt [2, 3, 4, 5, 6, 7, 9, 10] (fun a => 1 ≤ a ∧ a ≤ 10) hv (by decide)
    walk_at "rd"
    refine ⟨by decide, fun p2 np2 => ⟨⟨by decide, by decide⟩, by decide, ?_⟩⟩
    refine ixL upd_same (by omega) (by show _ < (8 : Int); omega) fun v hv => ?_
    obtain ⟨b, rfl, b0, b1⟩ := anInt [2, 3, 5, 6, 8, 9, 11, 12] (fun a => 1 ≤ a ∧ a ≤ 12) hv (by decide)
    obtain ⟨m, hm⟩ : ∃ m, m = a * b := ⟨_, rfl⟩
    have m0 : 1 ≤ m := by
      have := Int.mul_le_mul a0 b0 (by decide) (by omega)
      omega
    have m1 : m ≤ 120 := by
      have := Int.mul_le_mul a1 b1 (by omega) (by decide)
      omega
    walk_at "rd"
    rw [← hm]
    refine ⟨.inl (by omega), c, k + 1, rfl, fun z z0 z1 => ?_⟩
    have e30 : (10 : Int) ^ Int.toNat 30 = hrs := by decide
    walk_at "rd"
    refine ⟨⟨by decide, by decide, by decide⟩, by decide, by decide, fun p3 np3 => ⟨⟨by decide, by decide⟩, by decide, ?_⟩⟩
    refine ixL upd_same (by omega) (by show _ < (4 : Int); omega) fun v hv => ?_
    obtain ⟨d, rfl, d0, d1⟩ := anInt [10, 49, 72, 1000] (fun a => 1 ≤ a ∧ a ≤ 1000) hv (by decide)
    refine ⟨d, rfl, .inl (by omega), ⟨by decide, by decide, by decide⟩, by decide, fun p4 np4 => ⟨by decide, ?_⟩⟩
    obtain ⟨m2, hm2⟩ : ∃ m2, m2 = m * d := ⟨_, rfl⟩
    have m20 : 1 ≤ m2 := by
      have := Int.mul_le_mul m0 d0 (by decide) (by omega)
      omega
    have m21 : m2 ≤ 120000 := by
      have := Int.mul_le_mul m1 d1 (by omega) (by decide)
      omega
    rw [e30, ← hm2]
    have eh : hrs = 1000000000000000000000000000000 := by decide
    have w0 := Int.emod_nonneg z (show hrs ≠ 0 by decide)
    have w1 := Int.emod_lt_of_pos z (show (0 : Int) < hrs by decide)
    refine ixL upd_same (by omega) (by show _ < (9 : Int); omega) fun v hv => ?_
    obtain ⟨r, rfl, r0, r1⟩ := anInt [1 + n / 9 % 12, 1 + n / 9 % 12, m, m2, 1 + z % hrs, 1 + z % hrs, hrs, 1 + n / 9 % 12, 1] (fun a => 1 ≤ a ∧ a ≤ hrs) hv (by
      intro a ha
      simp only [List.mem_cons, List.not_mem_nil, or_false] at ha
      rcases ha with rfl | rfl | rfl | rfl | rfl | rfl | rfl | rfl | rfl <;> constructor <;> omega)
    exact q r _ ((((same_upd np1).trans (same_upd np2)).trans (same_upd np3)).trans (same_upd np4)) r0 r1
/-- turns -/
def spTurn : Sp := fun vs H Q _ => ∃ (c k : Int), vs = [.int c, .int k] ∧ ∀ (n : Int) (H' : Hp), Same H H' → n.natAbs < 2 ^ 360 → Q (.int n) H'
theorem small360 {n : Int} (h : n.natAbs ≤ 1000000) : n.natAbs < 2 ^ 360 := Nat.lt_of_le_of_lt h (by decide)
theorem wd_lt {n : Int} (h0 : 0 ≤ n) (h1 : n < wd) : n.natAbs < 2 ^ 180 := wide_le h0 (Int.le_of_lt h1) (by decide)
theorem h_turn (M : Has P w K mg base CX0 1 "_law_mixed" ["_law_cell", "_law_k"] spMixed) (W : Has P w K mg base CX0 2 "_law_wide" ["_law_cell", "_law_k"] spWide) (D : Df K "_law_turn" s__law_turn) (g : mg "_law_turn" = some (.ref (He.ga K "_law_turn"))) :
    Has P w K mg base CX0 3 "_law_turn" ["_law_cell", "_law_k"] spTurn := by
  refine has_of0 D g sc__law_turn (fun _ _ _ _ _ _ us hl => match us, hl with | [_, _], _ => rfl) (fun vs H Q E h => ?_) (fun A outer s H vs Q E hr h => ?_)
  · obtain ⟨c, k, rfl, _⟩ := h
    rfl
  · obtain ⟨c, k, rfl, q⟩ := h
    refine ⟨_, (pss_cons (ps_set (i := 2) sc__law_turn.nd rfl (Or.inl rfl) (pe_fn M (hr.mono (by decide)) pass0 (pa_cons (pv 0) (pa_cons (pv 1) pa_nil))))
      (pss_cons (ps_set (i := 3) sc__law_turn.nd rfl (Or.inl rfl) (pe_fn W hr pass0 (pa_cons (pv 0) (pa_cons (pe_op op_add (pv 1) pe_int) pa_nil))))
      (pss_one (ps_ret (pe_ix ix_list (pe_lst (pa_cons (pe_op op_mod (pe_op op_fdiv (pv 2) pe_int) pe_int) (pa_cons (pe_op op_sub (pe_un un_neg pe_int) (pe_op op_mod (pe_op op_fdiv (pv 2) pe_int) pe_int)) (pa_cons (pv 3) (pa_cons (pe_op op_sub pe_int (pv 3)) (pa_cons pe_int (pa_cons (pe_op op_mulW (pv 3) (pv 3)) pa_nil))))))) (pe_op op_mod (pv 2) pe_int) (fun _ _ => rfl)))))), ?_⟩
    walk_at "rd"
    refine ⟨c, k, rfl, fun n n0 n1 => ⟨c, k + 3, rfl, fun z z0 z1 => ?_⟩⟩
    have hz := wd_lt z0 z1
    walk_at "rd"
    refine ⟨⟨by decide, by decide⟩, by decide, ⟨by decide, by decide⟩, by decide, wide_mul hz hz (by decide) (by decide) (by decide), by decide, fun p1 np1 => ⟨by decide, ?_⟩⟩
    refine ixL upd_same (by omega) (by show _ < (6 : Int); omega) fun v hv => ?_
    obtain ⟨r, rfl, r1⟩ := anInt [n / 6 % 50, -1 - n / 6 % 50, z, 0 - z, 0, z * z] (fun a => a.natAbs < 2 ^ 360) hv (by
      intro a ha
      simp only [List.mem_cons, List.not_mem_nil, or_false] at ha
      have hz2 : z.natAbs < 2 ^ 360 := Nat.lt_of_lt_of_le hz (Nat.pow_le_pow_right (by decide) (by decide))
      rcases ha with rfl | rfl | rfl | rfl | rfl | rfl
      · exact small360 (by omega)
      · exact small360 (by omega)
      · exact hz2
      · rw [Int.zero_sub, Int.natAbs_neg]
        exact hz2
      · exact small360 (by decide)
      · exact wide_lt hz hz)
    exact q r _ (same_upd np1) r1
/-- clocks -/
def spClock : Sp := fun vs H Q _ => ∃ (c k : Int), vs = [.int c, .int k] ∧ ∀ (x : V) (cl : Int × Int) (H' : Hp), Same H H' → ClkAt H' x cl → Q x H'
theorem h_clock (M : Has P w K mg base CX0 1 "_law_mixed" ["_law_cell", "_law_k"] spMixed) (W : Has P w K mg base CX0 2 "_law_wide" ["_law_cell", "_law_k"] spWide) (Hh : Has P w K mg base CX0 3 "_law_hours" ["_law_cell", "_law_k"] spHours) (D : Df K "_law_clock" s__law_clock) (g : mg "_law_clock" = some (.ref (He.ga K "_law_clock"))) :
    Has P w K mg base CX0 4 "_law_clock" ["_law_cell", "_law_k"] spClock := by
  refine has_of0 D g sc__law_clock (fun _ _ _ _ _ _ us hl => match us, hl with | [_, _], _ => rfl) (fun vs H Q E h => ?_) (fun A outer s H vs Q E hr h => ?_)
  · obtain ⟨c, k, rfl, _⟩ := h
    rfl
  · obtain ⟨c, k, rfl, q⟩ := h
    refine ⟨_, (pss_cons (ps_set (i := 2) sc__law_clock.nd rfl (Or.inl rfl) (pe_fn Hh hr pass0 (pa_cons (pv 0) (pa_cons (pv 1) pa_nil))))
      (pss_cons (ps_set (i := 3) sc__law_clock.nd rfl (Or.inl rfl) (pe_fn M (hr.mono (by decide)) pass0 (pa_cons (pv 0) (pa_cons (pe_op op_add (pv 1) pe_int) pa_nil))))
      (pss_one (ps_ret (pe_tup (pa_cons (pv 2) (pa_cons (pe_ix ix_list (pe_lst (pa_cons pe_int (pa_cons (pe_op op_sub (pv 2) pe_int) (pa_cons (pe_op op_mod (pe_fn W (hr.mono (by decide)) pass0 (pa_cons (pv 0) (pa_cons (pe_op op_add (pv 1) pe_int) pa_nil))) (pv 2)) pa_nil)))) (pe_op op_mod (pv 3) pe_int) (fun _ _ => rfl)) pa_nil))))))), ?_⟩
    walk_at "rd"
    refine ⟨c, k, rfl, fun h H1 e1 h0 h1 => ⟨c, k + 2, rfl, fun n n0 n1 => ?_⟩⟩
    walk_at "rd"
    refine ⟨c, k + 4, rfl, fun z z0 z1 => ?_⟩
    walk_at "rd"
    refine ⟨by omega, by decide, fun p1 np1 => ⟨by decide, ?_⟩⟩
    have w0 := Int.emod_nonneg z (show h ≠ 0 by omega)
    have w1 := Int.emod_lt_of_pos z (show (0 : Int) < h by omega)
    refine ixL upd_same (by omega) (by show _ < (3 : Int); omega) fun v hv => ?_
    obtain ⟨r, rfl, r0, r1⟩ := anInt [0, h - 1, z % h] (fun a => 0 ≤ a ∧ a < h) hv (by
      intro a ha
      simp only [List.mem_cons, List.not_mem_nil, or_false] at ha
      rcases ha with rfl | rfl | rfl <;> constructor <;> omega)
    refine ⟨by decide, fun p2 np2 => ?_⟩
    exact q _ (h, r) _ ((e1.trans (same_upd np1)).trans (same_upd np2)) ⟨⟨p2, rfl, upd_same⟩, h0, h1, r0, r1⟩
end
end Rf

namespace Rf
open PySem L2 PySem.Spec PyProof.Rows
local macro_rules | `(tactic| walk_at "rd") => `(tactic| simp only [tSeq, tIsN, tNotN, tAsg, tLst, tTup, tDNewK, tOp, tUn, tVar, tC, gName, tRet, tRetN, tIfS, tNext, tTest, tB, tNot, tAnd, tOr, tIf, tAndV, tOrV, tNotV, tCons, tNil, tCB, tCall, tDrop, tChain, rI, rI0, rU, L2.start, List.map_cons, List.map_nil, List.length_cons, List.length_nil, List.replicate_succ, List.replicate_zero, List.cons_append, List.nil_append, List.append_nil, List.getElem?_cons_zero, List.getElem?_cons_succ, List.set_cons_zero, List.set_cons_succ, Option.some.injEq, exists_eq_left', exists_eq_left, exists_and_left, V.int.injEq, V.bl.injEq, V.str.injEq, V.ref.injEq, List.cons.injEq, and_true, true_and, Nat.reduceSub, Nat.reduceAdd, Bool.not_true, Bool.not_false, if_true, if_false, Bool.false_eq_true, reduceIte, forall_const])
section
variable {P : Program} {w : World} {K : PySem.W.Frag} {mg : Str → Option Value} {base : Heap}
/-- the words of a refusal of the class D, its own dict at d -/
inductive WdOut (H : Hp) : Str → Option Addr → List V → Prop where
  | clock : WdOut H "BadClock" none [.str "clock"]
  | turn : WdOut H "BadTurn" none [.str "turn"]
  | noc : WdOut H "NoClock" none [.str "none"]
  | many : WdOut H "TooMany" none [.str "many"]
  | wall : WdOut H "BadWall" none [.str "wall"]
  | never {dd : Addr} {fs : List (Str × V)} {u v : V} (h : H dd = some (.xd fs)) (h1 : fs.lookup ("one" : Str) = some u) (h2 : fs.lookup ("other" : Str) = some v) : WdOut H "Never" (some dd) [.str "never", u, v]
  | text {dd : Addr} {fs : List (Str × V)} {u : V} (h : H dd = some (.xd fs)) (h1 : fs.lookup ("row" : Str) = some u) : WdOut H "BadText" (some dd) [.str "text", u]
def spWord (K : PySem.W.Frag) : Sp := fun vs H Q _ => ∃ x, vs = [x] ∧ ((x = .non ∧ ∀ p H', Same H H' → H' p = some (.lst [.str "done"]) → Q (.ref p) H') ∨
  ∃ (a : Addr) (D : Str) (d : Option Addr) (out : List V), x = .ref a ∧ H a = some (ExV (xr K D) d a) ∧ WdOut H D d out ∧ ∀ p H', Same H H' → H p = none → H' p = some (.lst out) → Q (.ref p) H')
theorem ifF {c : Bool} {A B : Prop} (h : c = false) (b : B) : if c = true then A else B := by subst h; exact iteF b
theorem ifT {c : Bool} {A B : Prop} (h : c = true) (b : A) : if c = true then A else B := by subst h; exact iteT b
theorem is_ex {H : Hp} {Q : VK} {a : Addr} {D y : Str} {d : Option Addr} (X : Xc K mg D) (hy : y ∈ xNames) (ea : H a = some (ExV (xr K D) d a)) (hd : ∀ dd, d = some dd → ∃ fs, H dd = some (.xd fs)) (q : Q (.bl (decide (D = y))) H) : rIsV K [.ref a, .ref (He.ga K y)] H Q :=
  ⟨a, _, d, _, _, _, rfl, ea, hd, X.d, .own _, X.kit y hy, q⟩
theorem is_exV {H : Hp} {Q : VK} {a : Addr} {D : Str} {d : Option Addr} (X : Xc K mg D) (ea : H a = some (ExV (xr K D) d a)) (hd : ∀ dd, d = some dd → ∃ fs, H dd = some (.xd fs)) (q : Q (.bl true) H) : rIsV K [.ref a, .ty "ValueError"] H Q :=
  ⟨a, _, d, _, _, _, rfl, ea, hd, X.d, .ty _, X.ve, q⟩
theorem h_word (B : Bt mg) (X : ∀ y ∈ xNames, Xc K mg y) (no : PySem.W.findIn K (.ref (He.ga K "Never")) "one" = some none ∧ PySem.W.findIn K (.ref (He.ga K "Never")) "other" = some none) (nr : PySem.W.findIn K (.ref (He.ga K "BadText")) "row" = some none)
    (D : Df K "_law_word" s__law_word) (g : mg "_law_word" = some (.ref (He.ga K "_law_word"))) : Has P w K mg base CX0 1 "_law_word" ["_law_e"] (spWord K) := by
  have x1 := X "BadClock" (by decide +kernel)
  have x2 := X "BadTurn" (by decide +kernel)
  have x3 := X "NoClock" (by decide +kernel)
  have x4 := X "TooMany" (by decide +kernel)
  have x5 := X "BadWall" (by decide +kernel)
  have x6 := X "Never" (by decide +kernel)
  have x7 := X "BadText" (by decide +kernel)
  refine has_of0 D g sc__law_word (fun _ _ _ _ _ _ us hl => match us, hl with | [_], _ => rfl) (fun vs H Q E h => ?_) (fun A outer s H vs Q E hr h => ?_)
  · obtain ⟨x, rfl, _⟩ := h
    rfl
  · obtain ⟨x, rfl, h⟩ := h
    refine ⟨_, (pss_cons (ps_if (pt_cmp (pc_isN (pv 0))) (pss_one (ps_ret (pe_lst (pa_cons pe_str pa_nil)))) pss_nil)
      (pss_cons (ps_set (i := 1) sc__law_word.nd rfl (Or.inl rfl) (pe_lst (pa_cons (pe_tup (pa_cons pe_str (pa_cons (pe_callB call_isV (by rfl) B.isinstance (by decide +kernel) (pa_cons (pv 0) (pa_cons (pe_gref x1.g) pa_nil))) pa_nil))) (pa_cons (pe_tup (pa_cons pe_str (pa_cons (pe_callB call_isV (by rfl) B.isinstance (by decide +kernel) (pa_cons (pv 0) (pa_cons (pe_gref x2.g) pa_nil))) pa_nil))) (pa_cons (pe_tup (pa_cons pe_str (pa_cons (pe_callB call_isV (by rfl) B.isinstance (by decide +kernel) (pa_cons (pv 0) (pa_cons (pe_gref x3.g) pa_nil))) pa_nil))) pa_nil)))))
      (pss_cons (ps_set (i := 1) sc__law_word.nd rfl (Or.inl rfl) (pe_op op_cat (pv 1) (pe_lst (pa_cons (pe_tup (pa_cons pe_str (pa_cons (pe_callB call_isV (by rfl) B.isinstance (by decide +kernel) (pa_cons (pv 0) (pa_cons (pe_gref x4.g) pa_nil))) pa_nil))) (pa_cons (pe_tup (pa_cons pe_str (pa_cons (pe_callB call_isV (by rfl) B.isinstance (by decide +kernel) (pa_cons (pv 0) (pa_cons (pe_gref x5.g) pa_nil))) pa_nil))) pa_nil)))))
      (pss_cons (ps_setLc (i := 2) (own := [("_law_word_here", 3), ("_law_is_it", 4)]) (g := gTup K 2 (gCons (gName 3) (gCons (gName 4) gNil))) rfl sc__law_word.nd rfl rfl (sw_true rfl rfl rfl (by decide +kernel)) (pi_list (pv 1)) (blkOk_by (own := [("_law_word_here", 3), ("_law_is_it", 4)]) (N := ["_law_e", "_law_some", "_law_found", "_law_word_here", "_law_is_it"]) (sc := defScope s__law_word) (by decide +kernel))
        (fun _ _ _ _ _ => pg_tup (by rfl) (pgs_cons (pg_name (i := 3) sc__law_word.nd rfl (Or.inl rfl)) (pgs_cons (pg_name (i := 4) sc__law_word.nd rfl (Or.inl rfl)) pgs_nil))) (fun _ _ _ _ _ => pts_one (pt_val (pv 4))) (fun _ _ _ _ _ => pv 3))
      (pss_cons (ps_if (pt_val (pe_callB call_isV (by rfl) B.isinstance (by decide +kernel) (pa_cons (pv 0) (pa_cons (pe_gref x6.g) pa_nil)))) (pss_one (ps_set (i := 2) sc__law_word.nd rfl (Or.inl rfl) (pe_op op_cat (pv 2) (pe_lst (pa_cons pe_str (pa_cons (pe_xfV (pv 0)) (pa_cons (pe_xfV (pv 0)) pa_nil))))))) pss_nil)
      (pss_cons (ps_if (pt_val (pe_callB call_isV (by rfl) B.isinstance (by decide +kernel) (pa_cons (pv 0) (pa_cons (pe_gref x7.g) pa_nil)))) (pss_one (ps_set (i := 2) sc__law_word.nd rfl (Or.inl rfl) (pe_op op_cat (pv 2) (pe_lst (pa_cons pe_str (pa_cons (pe_xfV (pv 0)) pa_nil)))))) pss_nil)
      (pss_cons (ps_if (pt_not (pt_val (pe_callB call_isV (by rfl) B.isinstance (by decide +kernel) (pa_cons (pv 0) (pa_cons (pe_bltn (v := .ty "ValueError") (by rfl) B.ve (by decide +kernel) rfl) pa_nil))))) (pss_one (ps_expr (pe_bm PySem.F.plainAttrs_list PySem.F.slot_list_append PySem.F.type_list_append mt_append (pv 2) (pa_cons pe_str pa_nil)))) pss_nil)
      (pss_one (ps_ret (pv 2)))))))))), ?_⟩
    walk_at "rd"
    rcases h with ⟨rfl, q⟩ | ⟨a, Dn, d, out, rfl, ea, hw, q⟩
    · refine iteT ⟨by decide, fun p np => ?_⟩
      exact q p _ (same_upd np) upd_same
    · have hx : Xc K mg Dn := by cases hw <;> assumption
      have hd : ∀ dd, d = some dd → ∃ fs, H dd = some (.xd fs) := by
        intro dd e
        cases hw <;> first | (cases e; done) | (cases e; exact ⟨_, by assumption⟩)
      have sd : ∀ {H' : Hp}, Same H H' → ∀ dd, d = some dd → ∃ fs, H' dd = some (.xd fs) := fun s dd e => by
        obtain ⟨fs, z⟩ := hd dd e
        exact ⟨fs, s _ _ z⟩
      show if (decide (V.ref a = V.non)) = true then _ else _
      rw [if_neg (by simp)]
      refine is_ex hx (by decide +kernel) ea hd ⟨by decide, fun p1 n1 => ?_⟩
      generalize hh1 : upd _ p1 _ = H1
      have z1 : Same _ H1 := hh1 ▸ same_upd n1
      have u1 : H1 p1 = some _ := hh1 ▸ upd_same
      have s1 : Same H H1 := z1
      refine is_ex hx (by decide +kernel) (s1 _ _ ea) (sd s1) ⟨by decide, fun p2 n2 => ?_⟩
      generalize hh2 : upd _ p2 _ = H2
      have z2 : Same _ H2 := hh2 ▸ same_upd n2
      have u2 : H2 p2 = some _ := hh2 ▸ upd_same
      have s2 : Same H H2 := s1.trans z2
      refine is_ex hx (by decide +kernel) (s2 _ _ ea) (sd s2) ⟨by decide, fun p3 n3 => ?_⟩
      generalize hh3 : upd _ p3 _ = H3
      have z3 : Same _ H3 := hh3 ▸ same_upd n3
      have u3 : H3 p3 = some _ := hh3 ▸ upd_same
      have s3 : Same H H3 := s2.trans z3
      refine ⟨by decide, fun p4 n4 => ?_⟩
      generalize hh4 : upd _ p4 _ = H4
      have z4 : Same _ H4 := hh4 ▸ same_upd n4
      have u4 : H4 p4 = some _ := hh4 ▸ upd_same
      have s4 : Same H H4 := s3.trans z4
      refine is_ex hx (by decide +kernel) (s4 _ _ ea) (sd s4) ⟨by decide, fun p5 n5 => ?_⟩
      generalize hh5 : upd _ p5 _ = H5
      have z5 : Same _ H5 := hh5 ▸ same_upd n5
      have u5 : H5 p5 = some _ := hh5 ▸ upd_same
      have s5 : Same H H5 := s4.trans z5
      refine is_ex hx (by decide +kernel) (s5 _ _ ea) (sd s5) ⟨by decide, fun p6 n6 => ?_⟩
      generalize hh6 : upd _ p6 _ = H6
      have z6 : Same _ H6 := hh6 ▸ same_upd n6
      have u6 : H6 p6 = some _ := hh6 ▸ upd_same
      have s6 : Same H H6 := s5.trans z6
      refine ⟨by decide, fun p7 n7 => ?_⟩
      generalize hh7 : upd _ p7 _ = H7
      have z7 : Same _ H7 := hh7 ▸ same_upd n7
      have u7 : H7 p7 = some _ := hh7 ▸ upd_same
      have s7 : Same H H7 := s6.trans z7
      refine ⟨p4, p7, _, _, rfl, rfl, z7 _ _ (z6 _ _ (z5 _ _ u4)), u7, (by show 3 + 2 ≤ sizeLine; decide), fun p8 n8 => ?_⟩
      generalize hh8 : upd _ p8 _ = H8
      have z8 : Same _ H8 := hh8 ▸ same_upd n8
      have u8 : H8 p8 = some _ := hh8 ▸ upd_same
      have s8 : Same H H8 := s7.trans z8
      have t1 := z8 _ _ (z7 _ _ (z6 _ _ (z5 _ _ (z4 _ _ (z3 _ _ (z2 _ _ u1))))))
      have t2 := z8 _ _ (z7 _ _ (z6 _ _ (z5 _ _ (z4 _ _ (z3 _ _ u2)))))
      have t3 := z8 _ _ (z7 _ _ (z6 _ _ (z5 _ _ (z4 _ _ u3))))
      have t5 := z8 _ _ (z7 _ _ (z6 _ _ u5))
      have t6 := z8 _ _ (z7 _ _ u6)
      obtain ⟨L, hL⟩ : ∃ L : List (Addr × Str × Bool), L = [(p1, ("clock" : Str), decide (Dn = "BadClock")), (p2, ("turn" : Str), decide (Dn = "BadTurn")), (p3, ("none" : Str), decide (Dn = "NoClock")), (p5, ("many" : Str), decide (Dn = "TooMany")), (p6, ("wall" : Str), decide (Dn = "BadWall"))] := ⟨_, rfl⟩
      have hat : ∀ t ∈ L, H8 t.1 = some (.tup [.str t.2.1, .bl t.2.2]) := by
        intro t ht
        rw [hL] at ht
        simp only [List.mem_cons, List.not_mem_nil, or_false] at ht
        rcases ht with rfl | rfl | rfl | rfl | rfl <;> assumption
      have ul : SqL K H8 p8 (L.map fun t => V.ref t.1) := by rw [hL]; exact .of u8
      refine ⟨_, rfl, p8, rfl, ⟨_, ul⟩, fun Dl nD => lc_list (K := K) (a := p8) (xs := L.map fun t => V.ref t.1) (fun i H' => Same H8 H' ∧ H' Dl = some (.lst (((L.take i).filter (·.2.2)).map fun t => V.str t.2.1))) ⟨same_upd nD, upd_same⟩ (fun i H' _ q => q.1.seq ul) ?_ ?_⟩
      · rintro i y H' hi ⟨e1, e2⟩
        rw [List.getElem?_map] at hi
        obtain ⟨t, ht, rfl⟩ := Option.map_eq_some_iff.mp hi
        have hz := List.length_filter_le (fun t : Addr × Str × Bool => t.2.2) (L.take i)
        have hy := List.length_take_le i L
        have ht2 := (List.getElem?_eq_some_iff.mp ht).1
        have hlen : L.length = 5 := by rw [hL]; rfl
        refine ⟨t.1, _, rfl, .of (e1 _ _ (hat t (List.mem_of_getElem? ht))), rfl, _, _, rfl, _, _, rfl, rfl, ?_⟩
        refine ⟨rfl, _, rfl, _, rfl, ?_⟩
        show if t.2.2 = true then _ else _
        rw [List.take_succ, ht]
        cases hb : t.2.2 with
        | true =>
          refine iteT ⟨_, rfl, _, e2, ?_, ?_, ?_⟩
          · rw [List.length_map]
            exact Nat.lt_of_le_of_lt (by omega) (by decide : 5 < sizeLine)
          · intro x o hx
            have : x ≠ Dl := by rintro rfl; rw [nD] at hx; cases hx
            rw [upd_ne this]
            exact e1 _ _ hx
          · rw [upd_same]
            simp [List.filter_append, hb]
        | false =>
          refine iteF ⟨e1, ?_⟩
          rw [e2]
          simp [List.filter_append, hb]
      · rintro H' ⟨e1, e2⟩
        have s9 := s8.trans e1
        have hD0 : H Dl = none := by
          cases e : H Dl with
          | none => rfl
          | some o => exact absurd (s8 _ _ e) (by rw [nD]; simp)
        rw [List.take_of_length_le (by simp), hL] at e2
        refine is_ex hx (by decide +kernel) (s9 _ _ ea) (sd s9) ⟨_, rfl, ?_⟩
        cases hw with
        | clock | turn | noc | many | wall =>
          exact ifF (by decide +kernel) (is_ex hx (by decide +kernel) (s9 _ _ ea) (sd s9) ⟨_, rfl, ifF (by decide +kernel) (is_exV hx (s9 _ _ ea) (sd s9) ⟨_, rfl, ifF (by decide) (q Dl _ s9 hD0 e2)⟩)⟩)
        | @never dd fs u v h h1 h2 =>
          refine ifT (by decide +kernel) ⟨_, rfl, a, _, dd, fs, _, rfl, s9 _ _ ea, s9 _ _ h, hx.d, no.1, h1, _, rfl, a, _, dd, fs, _, rfl, s9 _ _ ea, s9 _ _ h, hx.d, no.2, h2, ?_⟩
          walk_at "rd"
          refine ⟨by decide, fun p10 n10 => ?_⟩
          generalize hh10 : upd _ p10 _ = H10
          have z10 : Same _ H10 := hh10 ▸ same_upd n10
          have u10 : H10 p10 = some _ := hh10 ▸ upd_same
          have s10 : Same H H10 := s9.trans z10
          refine ⟨Dl, p10, _, _, rfl, rfl, z10 _ _ e2, u10, (by show 0 + 3 ≤ sizeLine; decide), fun p11 n11 => ?_⟩
          generalize hh11 : upd _ p11 _ = H11
          have z11 : Same _ H11 := hh11 ▸ same_upd n11
          have u11 : H11 p11 = some _ := hh11 ▸ upd_same
          have s11 : Same H H11 := s10.trans z11
          have f11 : H p11 = none := by
            cases e : H p11 with
            | none => rfl
            | some o => exact absurd (s10 _ _ e) (by rw [n11]; simp)
          exact is_ex hx (by decide +kernel) (s11 _ _ ea) (sd s11) ⟨_, rfl, ifF (by decide +kernel) (is_exV hx (s11 _ _ ea) (sd s11) ⟨_, rfl, ifF (by decide) (q p11 _ s11 f11 u11)⟩)⟩
        | @text dd fs u h h1 =>
          refine ifF (by decide +kernel) (is_ex hx (by decide +kernel) (s9 _ _ ea) (sd s9) ⟨_, rfl, ifT (by decide +kernel) ⟨_, rfl, a, _, dd, fs, _, rfl, s9 _ _ ea, s9 _ _ h, hx.d, nr, h1, ?_⟩⟩)
          refine ⟨by decide, fun p10 n10 => ?_⟩
          generalize hh10 : upd _ p10 _ = H10
          have z10 : Same _ H10 := hh10 ▸ same_upd n10
          have u10 : H10 p10 = some _ := hh10 ▸ upd_same
          have s10 : Same H H10 := s9.trans z10
          refine ⟨Dl, p10, _, _, rfl, rfl, z10 _ _ e2, u10, (by show 0 + 2 ≤ sizeLine; decide), fun p11 n11 => ?_⟩
          generalize hh11 : upd _ p11 _ = H11
          have z11 : Same _ H11 := hh11 ▸ same_upd n11
          have u11 : H11 p11 = some _ := hh11 ▸ upd_same
          have s11 : Same H H11 := s10.trans z11
          have f11 : H p11 = none := by
            cases e : H p11 with
            | none => rfl
            | some o => exact absurd (s10 _ _ e) (by rw [n11]; simp)
          exact is_exV hx (s11 _ _ ea) (sd s11) ⟨_, rfl, ifF (by decide) (q p11 _ s11 f11 u11)⟩
end
end Rf

namespace Rf
open PySem L2 PySem.Spec PyProof.Rows
local macro_rules | `(tactic| walk_at "rd") => `(tactic| simp only [tSeq, tPar, tIsN, tNotN, tAsg, tLst, tTup, tDNewK, tOp, tUn, tVar, tC, gName, tRet, tRetN, tIfS, tNext, tTest, tB, tNot, tAnd, tOr, tIf, tAndV, tOrV, tNotV, tCons, tNil, tCB, tCall, tDrop, tChain, rI, rI0, rU, L2.start, List.map_cons, List.map_nil, List.length_cons, List.length_nil, List.replicate_succ, List.replicate_zero, List.cons_append, List.nil_append, List.append_nil, List.getElem?_cons_zero, List.getElem?_cons_succ, List.set_cons_zero, List.set_cons_succ, Option.some.injEq, exists_eq_left', exists_eq_left, exists_and_left, V.int.injEq, V.bl.injEq, V.str.injEq, V.ref.injEq, List.cons.injEq, and_true, true_and, Nat.reduceSub, Nat.reduceAdd, Bool.not_true, Bool.not_false, if_true, if_false, Bool.false_eq_true, reduceIte, forall_const])
section
variable {P : Program} {w : World} {K : PySem.W.Frag} {mg : Str → Option Value} {base : Heap}
/-- numbers that folds come to -/
def Wd (i : Int) : Prop := i.natAbs < 2 ^ 6000
theorem Wd.le {i j : Int} (h0 : 0 ≤ i) (h : i ≤ j) (hj : Wd j) : Wd i := wide_le h0 h hj
theorem Wd.mul {i j : Int} (hi : Wd i) (hj : Wd j) : CMulW i j := wide_mul hi hj (by decide) (by decide) (by decide)
theorem Wd.div {i j : Int} (hj : Wd j) (h : 0 < j) : CDivW i j := wide_div h hj (by decide) (by decide)
theorem Wd.div' {i j : Int} (hj : Wd j) (h : 0 < j) : CDivW i j := hj.div h
theorem Wd.absle {i j : Int} (h : (i.natAbs : Int) ≤ j) (hj : Wd j) : Wd i := Nat.lt_of_le_of_lt (by omega) hj
theorem pow_mono2 {a b : Nat} (h : a ≤ b) : 2 ^ a ≤ 2 ^ b := Nat.pow_le_pow_right (by decide) h
theorem Wd.of {i : Int} {a : Nat} (h : i.natAbs < 2 ^ a) (ha : a ≤ 6000) : Wd i := Nat.lt_of_lt_of_le h (pow_mono2 ha)
theorem Wd.hrs {i : Int} (h0 : 0 ≤ i) (h : i ≤ hrs) : Wd i := .of (a := 100) (wide_le h0 h (by decide)) (by decide)
theorem Clk.w1 {c : Int × Int} (h : Clk c) : Wd c.1 := .hrs (by have := h.h1; omega) h.h2
theorem Clk.w2 {c : Int × Int} (h : Clk c) : Wd c.2 := .hrs h.k1 (Int.le_trans (Int.le_of_lt h.k2) h.h2)
def otherN (σ : L2.St) : Nat := match σ[1]? with | some (some (V.int o)) => o.toNat | _ => 0
def whileBody : List Stmt → List Stmt
  | .While _ b _ _ :: _ => b
  | _ :: r => whileBody r
  | [] => []
def spShared : Sp := fun vs H Q _ => ∃ a b : Int, vs = [.int a, .int b] ∧ 0 < a ∧ 0 < b ∧ Wd a ∧ Wd b ∧
  ∀ (p : Addr) (x : Int) (H' : Hp), Same H H' → H' p = some (.tup [.int (gI a b), .int x]) → b ∣ gI a b - x * a → (x.natAbs : Int) ≤ b → Q (.ref p) H'
theorem h_shared (D : Df K "shared" s_shared) (g : mg "shared" = some (.ref (He.ga K "shared"))) : Has P w K mg base CX0 1 "shared" ["one", "other"] spShared := by
  refine has_of0 D g sc_shared (fun _ _ _ _ _ _ us hl => match us, hl with | [_, _], _ => rfl) (fun vs H Q E h => ?_) (fun A outer s H vs Q E hr h => ?_)
  · obtain ⟨a, b, rfl, _⟩ := h
    rfl
  · obtain ⟨a, b, rfl, ha, hb, wa, wb, q⟩ := h
    obtain ⟨tb, hb0, htb⟩ : ∃ tb, PSs (bx CX0 P w K mg base ["one", "other", "times", "more", "whole"] "shared" s_shared A outer s H E).nox (whileBody (defBody s_shared)) tb ∧
        ∀ (D : Ends) (one other times more : Int) (x4 : Option V) (H : Hp), 0 < other → CDivW one other → CMulW (one / other) other → CMulW (one / other) more →
          D.nx [some (.int other), some (.int (one - one / other * other)), some (.int more), some (.int (times - one / other * more)), some (.int (one / other))] H →
          tb D [some (.int one), some (.int other), some (.int times), some (.int more), x4] H := by
      refine ⟨_, (pss_cons (ps_set (i := 4) sc_shared.nd rfl (Or.inl rfl) (pe_op op_fdivW (pv 0) (pv 1)))
      (pss_cons (ps_par (i := 0) (j := 1) (by rfl) sc_shared.nd rfl rfl (by decide) rfl rfl (pa_cons (pv 1) (pa_cons (pe_op op_sub (pv 0) (pe_op op_mulW (pv 4) (pv 1))) pa_nil)) (by rfl))
      (pss_one (ps_par (i := 2) (j := 3) (by rfl) sc_shared.nd rfl rfl (by decide) rfl rfl (pa_cons (pv 3) (pa_cons (pe_op op_sub (pv 2) (pe_op op_mulW (pv 4) (pv 3))) pa_nil)) (by rfl))))), fun D one other times more x4 H h0 h1 h2 h3 q => ?_⟩
      walk_at "rd"
      exact ⟨h1, h2, _, _, ⟨rfl, rfl⟩, h3, _, _, ⟨rfl, rfl⟩, q⟩
    refine ⟨_, (pss_cons (ps_set (i := 2) sc_shared.nd rfl (Or.inl rfl) pe_int)
      (pss_cons (ps_set (i := 3) sc_shared.nd rfl (Or.inl rfl) pe_int)
      (pss_cons (ps_while PassesOwn.never (pt_cmpR op_gt (pv 1) pe_int (nomark _)) hb0)
      (pss_one (ps_ret (pe_tup (pa_cons (pv 0) (pa_cons (pv 2) pa_nil)))))))), ?_⟩
    refine while_by (fun σ H' => H' = H ∧ ∃ (one other times more : Int) (x4 : Option V), σ = [some (.int one), some (.int other), some (.int times), some (.int more), x4] ∧ Eu a b one other times more)
      (fun σ _ => otherN σ) ⟨rfl, a, b, 1, 0, none, rfl, .start ha hb⟩ ?_ ?_
    · rintro σ H' ⟨rfl, one, other, times, more, x4, rfl, Eo⟩
      refine ⟨_, rfl, _, _, rfl, rfl, _, rfl, ?_⟩
      have wo : Wd one := Eo.le.elim (fun z => .le (by have := Eo.o1; omega) z wa) (fun z => .le (by have := Eo.o1; omega) z wb)
      by_cases h : 0 < other
      · refine ifT (decide_eq_true h) ?_
        have E2 := Eo.step h hb
        have wt : Wd other := .le (by omega) Eo.ob wb
        have wm : Wd more := .absle E2.t wb
        have q0 : 0 ≤ one / other := Int.ediv_nonneg (by have := Eo.o1; omega) (by omega)
        have wq : Wd (one / other) := .le q0 (Int.ediv_le_self _ (by have := Eo.o1; omega)) wo
        refine htb _ _ _ _ _ _ _ h (wt.div h) (wq.mul wt) (wq.mul wm) ⟨⟨rfl, _, _, _, _, _, rfl, E2⟩, ?_⟩
        have e2 := E2.o2
        have e3 : one - one / other * other < other := by
          have := Int.emod_lt_of_pos one h
          rw [Int.emod_def, Int.mul_comm] at this
          exact this
        show (one - one / other * other).toNat < other.toNat
        omega
      · refine ifF (decide_eq_false h) ?_
        have e0 : other = 0 := by have := Eo.o2; omega
        have e1 : one = gI a b := by
          have := Eo.g
          rw [e0] at this
          have o1 := Eo.o1
          show one = (Int.gcd a b : Int)
          rw [← this, Int.gcd_zero_right]
          omega
        refine ⟨_, rfl, _, rfl, (by show 2 ≤ sizeLine; decide), fun p np => ?_⟩
        refine q p times _ (same_upd np) ?_ ?_ Eo.t
        · rw [upd_same, e1]
        · rw [← e1]
          exact Eo.d1
    · rintro σ H' Q1 Q2 k ⟨v, e, i, j, e1, e2, b, e3, q⟩
      exact ⟨v, e, i, j, e1, e2, b, e3, k _ _ q⟩
theorem ix3 {H : Hp} {Q : VK} {p : Addr} {u v w : V} (h : H p = some (.tup [u, v, w])) (q : Q u H) : rIxT K (.ref p) (.int 0) H Q := ⟨p, _, 0, u, rfl, rfl, .of h, rfl, q⟩
def spFold2 : Sp := fun vs H Q _ => ∃ (p q : Addr) (A x h k : Int), vs = [.ref p, .ref q] ∧ H p = some (.tup [.int A, .int x]) ∧ H q = some (.tup [.int h, .int k]) ∧ 0 < A ∧ 0 < h ∧ Wd A ∧ Wd h ∧ Wd x ∧ Wd k ∧
  (¬ (k - x) % gI A h = 0 → ∀ H', Same H H' → Q .non H') ∧
  ((k - x) % gI A h = 0 → ∀ (o : Addr) (t : Int) (H' : Hp), Same H H' → h ∣ gI A h - t * A → H' o = some (.tup [.int (A * (h / gI A h)), .int (x + A * ((k - x) / gI A h * t % (h / gI A h)))]) → Q (.ref o) H')
theorem h_fold_two (S : Has P w K mg base CX0 1 "shared" ["one", "other"] spShared) (D : Df K "fold_two" s_fold_two) (g : mg "fold_two" = some (.ref (He.ga K "fold_two"))) : Has P w K mg base CX0 2 "fold_two" ["one", "other"] spFold2 := by
  refine has_of0 D g sc_fold_two (fun _ _ _ _ _ _ us hl => match us, hl with | [_, _], _ => rfl) (fun vs H Q E h => ?_) (fun A outer s H vs Q E hr h => ?_)
  · obtain ⟨_, _, _, _, _, _, rfl, _⟩ := h
    rfl
  · obtain ⟨p, q, N, x, h, k, rfl, hp, hq, hN, hh, wN, wh, wx, wk, q1, q2⟩ := h
    refine ⟨_, (pss_cons (ps_asg (pe_fn S hr pass0 (pa_cons (pe_ix ix_tup (pv 0) pe_int (fun _ _ => rfl)) (pa_cons (pe_ix ix_tup (pv 1) pe_int (fun _ _ => rfl)) pa_nil))) (pg_tup (n := 2) (by rfl) (pgs_cons (pg_name (i := 2) sc_fold_two.nd rfl (Or.inl rfl)) (pgs_cons (pg_name (i := 3) sc_fold_two.nd rfl (Or.inl rfl)) pgs_nil))))
      (pss_cons (ps_set (i := 4) sc_fold_two.nd rfl (Or.inl rfl) (pe_op op_sub (pe_ix ix_tup (pv 1) pe_int (fun _ _ => rfl)) (pe_ix ix_tup (pv 0) pe_int (fun _ _ => rfl))))
      (pss_cons (ps_if (pt_cmpR op_ne (pe_op op_mod (pv 4) (pv 2)) pe_int (nomark _)) (pss_one (ps_ret pe_non)) pss_nil)
      (pss_cons (ps_set (i := 5) sc_fold_two.nd rfl (Or.inl rfl) (pe_op op_fdivW (pe_ix ix_tup (pv 1) pe_int (fun _ _ => rfl)) (pv 2)))
      (pss_one (ps_ret (pe_tup (pa_cons (pe_op op_mulW (pe_ix ix_tup (pv 0) pe_int (fun _ _ => rfl)) (pv 5)) (pa_cons (pe_op op_add (pe_ix ix_tup (pv 0) pe_int (fun _ _ => rfl)) (pe_op op_mulW (pe_ix ix_tup (pv 0) pe_int (fun _ _ => rfl)) (pe_op op_mod (pe_op op_mulW (pe_op op_fdivW (pv 4) (pv 2)) (pv 3)) (pv 5)))) pa_nil))))))))), ?_⟩
    walk_at "rd"
    refine ix0 hp (ix0 hq ⟨N, h, rfl, hN, hh, wN, wh, fun c t H1 s1 u1 d1 d2 => ?_⟩)
    refine ⟨c, _, rfl, .of u1, rfl, _, _, rfl, _, _, rfl, rfl, ?_⟩
    walk_at "rd"
    have hp1 := s1 _ _ hp
    have hq1 := s1 _ _ hq
    have g0 := gI_pos h hN
    have gle := gI_le (a := N) hh
    have wg : Wd (gI N h) := .le (by omega) gle wh
    refine ix1 hq1 (ix1 hp1 ?_)
    refine ⟨k, rfl, x, rfl, g0, rfl, _, rfl, ?_⟩
    have eN : decide (V.int ((k - x) % gI N h) = V.int 0) = decide ((k - x) % gI N h = 0) := by simp
    rw [eN]
    by_cases e0 : (k - x) % gI N h = 0
    · refine ifF (by rw [decide_eq_true e0]; rfl) ?_
      have r0 := rest_pos hN hh
      have rle : h / gI N h ≤ h := Int.ediv_le_self _ (by omega)
      have wr : Wd (h / gI N h) := .le (by omega) rle wh
      have wt : Wd t := .absle d2 wh
      have m0 := Int.emod_nonneg ((k - x) / gI N h * t) (show h / gI N h ≠ 0 by omega)
      have m1 := Int.emod_lt_of_pos ((k - x) / gI N h * t) r0
      have wm : Wd ((k - x) / gI N h * t % (h / gI N h)) := .le m0 (by omega) wr
      have wa : ((k - x) / gI N h).natAbs < 2 ^ 6001 := by
        refine Nat.lt_of_le_of_lt (Int.natAbs_ediv_le_natAbs _ _) ?_
        have e : (2 : Nat) ^ 6001 = 2 ^ 6000 + 2 ^ 6000 := by rw [Nat.pow_succ]; omega
        rw [e]
        unfold Wd at wk wx
        omega
      refine ix0 hq1 ⟨h, rfl, wg.div' g0, ix0 hp1 ⟨N, rfl, wN.mul wr, ix1 hp1 (ix0 hp1 ⟨wg.div' g0, wide_mul wa wt (by decide) (by decide) (by decide), r0, N, rfl, wN.mul wm, x, rfl, (by decide), fun o no => ?_⟩)⟩⟩
      exact q2 e0 o t _ (s1.trans (same_upd no)) d1 upd_same
    · refine ifT (by rw [decide_eq_false e0]; rfl) ?_
      exact q1 e0 _ s1
/-- what a call with two clocks comes to -/
def ofCC (K : PySem.W.Frag) (F : V → V → Int × Int → Int × Int → Hp → VK → Prop) : Sp := fun vs H Q E => ∃ x y, vs = [x, y] ∧
  ((ClkRes H x false ∧ E (xr K "BadClock") none H) ∨ ∃ c, ClkAt H x c ∧ ((ClkRes H y false ∧ E (xr K "BadClock") none H) ∨ ∃ d, ClkAt H y d ∧ F x y c d H Q))
def spNeedBoth (K : PySem.W.Frag) : Sp := ofCC K fun _ _ _ _ H Q => Q .non H
def spWitness (K : PySem.W.Frag) : Sp := ofCC K fun _ _ c d H Q => ∀ (p : Addr) (H' : Hp), Same H H' → H' p = some (.tup [.int (gI c.1 d.1), .int (c.2 % gI c.1 d.1), .int (d.2 % gI c.1 d.1)]) → Q (.ref p) H'
def spAgree (K : PySem.W.Frag) : Sp := ofCC K fun _ _ c d H Q => ∀ H', Same H H' → Q (.bl (decide ((c.2 - d.2) % gI c.1 d.1 = 0))) H'
def spBoth (K : PySem.W.Frag) : Sp := ofCC K fun _ _ c d H Q => (¬ (c.2 - d.2) % gI c.1 d.1 = 0 → ∀ H', Same H H' → Q .non H') ∧
  ((c.2 - d.2) % gI c.1 d.1 = 0 → ∀ (p : Addr) (x : Int) (H' : Hp), Same H H' → H' p = some (.tup [.int (lc c.1 d.1), .int x]) → IsFold [c, d] (lc c.1 d.1) x → Q (.ref p) H')
theorem isFold_one {c : Int × Int} (h : Clk c) : IsFold [c] c.1 c.2 := by
  refine ⟨by have := h.h1; omega, fun z => ⟨fun d e he => ?_, fun d => d c List.mem_cons_self⟩, fun e he => ?_, h.k1, h.k2⟩
  · rw [List.mem_singleton.mp he]
    exact d
  · rw [List.mem_singleton.mp he, Int.sub_self]
    exact Int.dvd_zero _
theorem h_need_both (C : Has P w K mg base (L2.CX P w) 4 "need_clock" ["thing"] (spNeedClock K)) (D : Df K "need_both" s_need_both) (g : mg "need_both" = some (.ref (He.ga K "need_both"))) : Has P w K mg base (L2.CX P w) 5 "need_both" ["one", "other"] (spNeedBoth K) := by
  refine has_of D g sc_need_both (fun _ _ _ _ _ _ us hl => match us, hl with | [_, _], _ => rfl) (fun vs H Q E h => ?_) (fun A outer s H vs Q E hr h => ?_)
  · obtain ⟨x, y, rfl, _⟩ := h
    rfl
  · obtain ⟨x, y, rfl, h⟩ := h
    refine ⟨_, (pss_cons (ps_expr (pe_fn C (hr.mono (by decide)) passB (pa_cons (pv 0) pa_nil)))
      (pss_one (ps_expr (pe_fn C (hr.mono (by decide)) passB (pa_cons (pv 1) pa_nil))))), ?_⟩
    walk_at "rd"
    rcases h with ⟨hc, q⟩ | ⟨c, hc, h⟩
    · exact ⟨x, false, rfl, hc, fun z => (by cases z), fun _ => q⟩
    · refine ⟨x, true, rfl, hc.res, fun _ => ?_, fun z => (by cases z)⟩
      rcases h with ⟨hd, q⟩ | ⟨d, hd, q⟩
      · exact ⟨y, false, rfl, hd, fun z => (by cases z), fun _ => q⟩
      · exact ⟨y, true, rfl, hd.res, fun _ => q, fun z => (by cases z)⟩
theorem h_witness (S : Has P w K mg base CX0 1 "shared" ["one", "other"] spShared) (N : Has P w K mg base (L2.CX P w) 5 "need_both" ["one", "other"] (spNeedBoth K)) (D : Df K "witness" s_witness) (g : mg "witness" = some (.ref (He.ga K "witness"))) :
    Has P w K mg base (L2.CX P w) 6 "witness" ["one", "other"] (spWitness K) := by
  refine has_of D g sc_witness (fun _ _ _ _ _ _ us hl => match us, hl with | [_, _], _ => rfl) (fun vs H Q E h => ?_) (fun A outer s H vs Q E hr h => ?_)
  · obtain ⟨x, y, rfl, _⟩ := h
    rfl
  · obtain ⟨x, y, rfl, h⟩ := h
    refine ⟨_, (pss_cons (ps_expr (pe_fn N (hr.mono (by decide)) passB (pa_cons (pv 0) (pa_cons (pv 1) pa_nil))))
      (pss_cons (ps_set (i := 2) sc_witness.nd rfl (Or.inl rfl) (pe_ix ix_tup (pe_fn S (hr.mono (by decide)) pass0 (pa_cons (pe_ix ix_tup (pv 0) pe_int (fun _ _ => rfl)) (pa_cons (pe_ix ix_tup (pv 1) pe_int (fun _ _ => rfl)) pa_nil))) pe_int (fun _ _ => rfl)))
      (pss_one (ps_ret (pe_tup (pa_cons (pv 2) (pa_cons (pe_op op_mod (pe_ix ix_tup (pv 0) pe_int (fun _ _ => rfl)) (pv 2)) (pa_cons (pe_op op_mod (pe_ix ix_tup (pv 1) pe_int (fun _ _ => rfl)) (pv 2)) pa_nil)))))))), ?_⟩
    walk_at "rd"
    rcases h with ⟨hc, q⟩ | ⟨c, hc, ⟨hd, q⟩ | ⟨d, hd, q⟩⟩
    · exact ⟨x, y, rfl, .inl ⟨hc, q⟩⟩
    · exact ⟨x, y, rfl, .inr ⟨c, hc, .inl ⟨hd, q⟩⟩⟩
    refine ⟨x, y, rfl, .inr ⟨c, hc, .inr ⟨d, hd, ?_⟩⟩⟩
    obtain ⟨a, rfl, ha⟩ := hc.at_
    obtain ⟨b, rfl, hb⟩ := hd.at_
    have c1 : 0 < c.1 := by have := hc.ok.h1; omega
    have d1 : 0 < d.1 := by have := hd.ok.h1; omega
    have g0 := gI_pos d.1 c1
    refine ix0 ha (ix0 hb ⟨_, _, rfl, c1, d1, hc.ok.w1, hd.ok.w1, fun p x H1 s1 u1 _ _ => ?_⟩)
    refine ix0 u1 ?_
    walk_at "rd"
    refine ix1 (s1 _ _ ha) ⟨_, rfl, g0, ix1 (s1 _ _ hb) ⟨_, rfl, g0, by decide, fun o no => ?_⟩⟩
    exact q o _ (s1.trans (same_upd no)) upd_same
theorem h_agree (W : Has P w K mg base (L2.CX P w) 6 "witness" ["one", "other"] (spWitness K)) (D : Df K "agree" s_agree) (g : mg "agree" = some (.ref (He.ga K "agree"))) : Has P w K mg base (L2.CX P w) 7 "agree" ["one", "other"] (spAgree K) := by
  refine has_of D g sc_agree (fun _ _ _ _ _ _ us hl => match us, hl with | [_, _], _ => rfl) (fun vs H Q E h => ?_) (fun A outer s H vs Q E hr h => ?_)
  · obtain ⟨x, y, rfl, _⟩ := h
    rfl
  · obtain ⟨x, y, rfl, h⟩ := h
    refine ⟨_, (pss_cons (ps_asg (pe_fn W (hr.mono (by decide)) passB (pa_cons (pv 0) (pa_cons (pv 1) pa_nil))) (pg_tup (n := 3) (by rfl) (pgs_cons (pg_name (i := 2) sc_agree.nd rfl (Or.inl rfl)) (pgs_cons (pg_name (i := 3) sc_agree.nd rfl (Or.inl rfl)) (pgs_cons (pg_name (i := 4) sc_agree.nd rfl (Or.inl rfl)) pgs_nil)))))
      (pss_one (ps_ret (pe_cmpR op_eq (pv 3) (pv 4) (nomark _))))), ?_⟩
    walk_at "rd"
    rcases h with ⟨hc, q⟩ | ⟨c, hc, ⟨hd, q⟩ | ⟨d, hd, q⟩⟩
    · exact ⟨x, y, rfl, .inl ⟨hc, q⟩⟩
    · exact ⟨x, y, rfl, .inr ⟨c, hc, .inl ⟨hd, q⟩⟩⟩
    refine ⟨x, y, rfl, .inr ⟨c, hc, .inr ⟨d, hd, fun p H' e u => ?_⟩⟩⟩
    refine ⟨p, _, rfl, .of u, rfl, _, _, rfl, _, _, rfl, _, _, rfl, rfl, ?_⟩
    refine ⟨_, rfl, _, rfl, rfl, ?_⟩
    have ee : decide (V.int (c.2 % gI c.1 d.1) = V.int (d.2 % gI c.1 d.1)) = decide ((c.2 - d.2) % gI c.1 d.1 = 0) := by
      simp only [V.int.injEq, rests_iff]
    rw [ee]
    exact q _ e
theorem h_both (N : Has P w K mg base (L2.CX P w) 5 "need_both" ["one", "other"] (spNeedBoth K)) (T : Has P w K mg base CX0 2 "fold_two" ["one", "other"] spFold2) (D : Df K "both" s_both) (g : mg "both" = some (.ref (He.ga K "both"))) :
    Has P w K mg base (L2.CX P w) 6 "both" ["one", "other"] (spBoth K) := by
  refine has_of D g sc_both (fun _ _ _ _ _ _ us hl => match us, hl with | [_, _], _ => rfl) (fun vs H Q E h => ?_) (fun A outer s H vs Q E hr h => ?_)
  · obtain ⟨x, y, rfl, _⟩ := h
    rfl
  · obtain ⟨x, y, rfl, h⟩ := h
    refine ⟨_, (pss_cons (ps_expr (pe_fn N (hr.mono (by decide)) passB (pa_cons (pv 0) (pa_cons (pv 1) pa_nil))))
      (pss_cons (ps_set (i := 2) sc_both.nd rfl (Or.inl rfl) (pe_fn T (hr.mono (by decide)) pass0 (pa_cons (pv 0) (pa_cons (pv 1) pa_nil))))
      (pss_one (ps_ret (pe_ifExp (pt_cmp (pc_isN (pv 2))) pe_non (pe_tup (pa_cons (pe_ix ix_tup (pv 2) pe_int (fun _ _ => rfl)) (pa_cons (pe_op op_mod (pe_ix ix_tup (pv 2) pe_int (fun _ _ => rfl)) (pe_ix ix_tup (pv 2) pe_int (fun _ _ => rfl))) pa_nil)))))))), ?_⟩
    walk_at "rd"
    rcases h with ⟨hc, q⟩ | ⟨c, hc, ⟨hd, q⟩ | ⟨d, hd, q⟩⟩
    · exact ⟨x, y, rfl, .inl ⟨hc, q⟩⟩
    · exact ⟨x, y, rfl, .inr ⟨c, hc, .inl ⟨hd, q⟩⟩⟩
    refine ⟨x, y, rfl, .inr ⟨c, hc, .inr ⟨d, hd, ?_⟩⟩⟩
    obtain ⟨a, rfl, ha⟩ := hc.at_
    obtain ⟨b, rfl, hb⟩ := hd.at_
    have c1 : 0 < c.1 := by have := hc.ok.h1; omega
    have d1 : 0 < d.1 := by have := hd.ok.h1; omega
    refine ⟨a, b, c.1, c.2, d.1, d.2, rfl, ha, hb, c1, d1, hc.ok.w1, hd.ok.w1, hc.ok.w2, hd.ok.w2, fun h H' e => ?_, fun h o t H' e dv u => ?_⟩
    · exact ifT rfl (q.1 (fun z => h (emod0_comm.mp z)) _ e)
    · have F2 := (isFold_one hc.ok).snoc (h := d.1) (k := d.2) d1 dv h
      refine ifF (decide_eq_false (by simp)) ?_
      refine ix0 u (ix1 u (ix0 u ⟨_, rfl, _, rfl, F2.pos, by decide, fun p np => ?_⟩))
      rw [Int.emod_eq_of_lt F2.lo F2.hi]
      exact q.2 (emod0_comm.mp h) p _ _ (e.trans (same_upd np)) upd_same F2
end
end Rf

namespace Rf
open PySem L2 PySem.Spec PyProof.Rows
local macro_rules | `(tactic| walk_at "rd") => `(tactic| simp only [tSeq, tPar, tIsN, tNotN, tAsg, tLst, tTup, tDNewK, tOp, tUn, tVar, tC, gName, tRet, tRetN, tIfS, tNext, tTest, tB, tNot, tAnd, tOr, tIf, tAndV, tOrV, tNotV, tCons, tNil, tCB, tCall, tDrop, tChain, rI, rI0, rU, L2.start, List.map_cons, List.map_nil, List.length_cons, List.length_nil, List.replicate_succ, List.replicate_zero, List.cons_append, List.nil_append, List.append_nil, List.getElem?_cons_zero, List.getElem?_cons_succ, List.set_cons_zero, List.set_cons_succ, Option.some.injEq, exists_eq_left', exists_eq_left, exists_and_left, V.int.injEq, V.bl.injEq, V.str.injEq, V.ref.injEq, List.cons.injEq, and_true, true_and, Nat.reduceSub, Nat.reduceAdd, Bool.not_true, Bool.not_false, if_true, if_false, Bool.false_eq_true, reduceIte, forall_const])
section
variable {P : Program} {w : World} {K : PySem.W.Frag} {mg : Str → Option Value} {base : Heap}
def common2 (σ : L2.St) : Nat := match σ[1]? with | some (some (V.int o)) => o.toNat | _ => 0
def spCommon : Sp := fun vs H Q _ => ∃ a b : Int, vs = [.int a, .int b] ∧ 0 < a ∧ 0 ≤ b ∧ Q (.int (gI a b)) H
theorem h_common (D : Df K "_law_common" s__law_common) (g : mg "_law_common" = some (.ref (He.ga K "_law_common"))) : Has P w K mg base CX0 1 "_law_common" ["_law_one", "_law_other"] spCommon := by
  refine has_of0 D g sc__law_common (fun _ _ _ _ _ _ us hl => match us, hl with | [_, _], _ => rfl) (fun vs H Q E h => ?_) (fun A outer s H vs Q E hr h => ?_)
  · obtain ⟨a, b, rfl, _⟩ := h
    rfl
  · obtain ⟨a, b, rfl, ha, hb, q⟩ := h
    obtain ⟨tb, hb0, htb⟩ : ∃ tb, PSs (bx CX0 P w K mg base ["_law_one", "_law_other"] "_law_common" s__law_common A outer s H E).nox (whileBody (defBody s__law_common)) tb ∧
        ∀ (D : Ends) (one other : Int) (H : Hp), 0 < other → D.nx [some (.int other), some (.int (one % other))] H → tb D [some (.int one), some (.int other)] H := by
      refine ⟨_, (pss_one (ps_par (i := 0) (j := 1) (by rfl) sc__law_common.nd rfl rfl (by decide) rfl rfl (pa_cons (pv 1) (pa_cons (pe_op op_mod (pv 0) (pv 1)) pa_nil)) (by rfl))), fun D one other H h0 q => ?_⟩
      walk_at "rd"
      exact ⟨h0, _, _, ⟨rfl, rfl⟩, q⟩
    refine ⟨_, (pss_cons (ps_while PassesOwn.never (pt_cmpR op_gt (pv 1) pe_int (nomark _)) hb0)
      (pss_one (ps_ret (pv 0)))), ?_⟩
    refine while_by (fun σ H' => H' = H ∧ ∃ one other : Int, σ = [some (.int one), some (.int other)] ∧ 0 < one ∧ 0 ≤ other ∧ gI one other = gI a b) (fun σ _ => common2 σ) ⟨rfl, a, b, rfl, ha, hb, rfl⟩ ?_ ?_
    · rintro σ H' ⟨rfl, one, other, rfl, o1, o2, eg⟩
      refine ⟨_, rfl, _, _, rfl, rfl, _, rfl, ?_⟩
      by_cases h : 0 < other
      · refine ifT (decide_eq_true h) ?_
        have e2 := Int.emod_nonneg one (show other ≠ 0 by omega)
        have e3 := Int.emod_lt_of_pos one h
        refine htb _ _ _ _ h ⟨⟨rfl, _, _, rfl, h, e2, ?_⟩, ?_⟩
        · rw [← eg]
          show (Int.gcd other (one % other) : Int) = (Int.gcd one other : Int)
          rw [gcd_step]
        · show (one % other).toNat < other.toNat
          omega
      · refine ifF (decide_eq_false h) ?_
        have e0 : other = 0 := by omega
        refine ⟨_, rfl, ?_⟩
        have e1 : one = gI a b := by
          rw [← eg, e0]
          show one = (Int.gcd one 0 : Int)
          rw [Int.gcd_zero_right]
          omega
        rw [e1]
        exact q
    · rintro σ H' Q1 Q2 k ⟨v, e, i, j, e1, e2, b, e3, q⟩
      exact ⟨v, e, i, j, e1, e2, b, e3, k _ _ q⟩
def spMeant : Sp := fun vs H Q _ => ∃ (c k t : Int), vs = [.int c, .int k, .int t] ∧ ∀ (x : V) (cl : Int × Int) (H' : Hp), Same H H' → ClkAt H' x cl → Q x H'
theorem h_meant (M : Has P w K mg base CX0 1 "_law_mixed" ["_law_cell", "_law_k"] spMixed) (W : Has P w K mg base CX0 2 "_law_wide" ["_law_cell", "_law_k"] spWide) (Hh : Has P w K mg base CX0 3 "_law_hours" ["_law_cell", "_law_k"] spHours) (D : Df K "_law_meant" s__law_meant) (g : mg "_law_meant" = some (.ref (He.ga K "_law_meant"))) :
    Has P w K mg base CX0 4 "_law_meant" ["_law_cell", "_law_k", "_law_turn_here"] spMeant := by
  refine has_of0 D g sc__law_meant (fun _ _ _ _ _ _ us hl => match us, hl with | [_, _, _], _ => rfl) (fun vs H Q E h => ?_) (fun A outer s H vs Q E hr h => ?_)
  · obtain ⟨c, k, t, rfl, _⟩ := h
    rfl
  · obtain ⟨c, k, t, rfl, q⟩ := h
    refine ⟨_, (pss_cons (ps_set (i := 3) sc__law_meant.nd rfl (Or.inl rfl) (pe_fn Hh (hr.mono (by decide)) pass0 (pa_cons (pv 0) (pa_cons (pv 1) pa_nil))))
      (pss_cons (ps_if (pt_cmpR op_eq (pe_op op_mod (pe_fn M (hr.mono (by decide)) pass0 (pa_cons (pv 0) (pa_cons (pe_op op_add (pv 1) pe_int) pa_nil))) pe_int) pe_int (nomark _)) (pss_one (ps_ret (pe_tup (pa_cons (pv 3) (pa_cons (pe_op op_mod (pe_fn W (hr.mono (by decide)) pass0 (pa_cons (pv 0) (pa_cons (pe_op op_add (pv 1) pe_int) pa_nil))) (pv 3)) pa_nil))))) pss_nil)
      (pss_one (ps_ret (pe_tup (pa_cons (pv 3) (pa_cons (pe_op op_mod (pv 2) (pv 3)) pa_nil))))))), ?_⟩
    walk_at "rd"
    refine ⟨c, k, rfl, fun h H1 e1 h0 h1 => ⟨c, k + 5, rfl, fun n n0 n1 => ?_⟩⟩
    refine ⟨n, rfl, by decide, rfl, _, rfl, ?_⟩
    cases hd : (decide (V.int (n % 8) = V.int 0)) with
    | true =>
      refine ifT rfl ⟨c, k + 6, rfl, fun z z0 z1 => ⟨z, rfl, h, rfl, by omega, by decide, fun p np => ?_⟩⟩
      exact q _ (h, z % h) _ (e1.trans (same_upd np)) ⟨⟨p, rfl, upd_same⟩, h0, h1, Int.emod_nonneg _ (by show h ≠ 0; omega), Int.emod_lt_of_pos _ (by show 0 < h; omega)⟩
    | false =>
      refine ifF rfl ⟨h, rfl, by omega, by decide, fun p np => ?_⟩
      exact q _ (h, t % h) _ (e1.trans (same_upd np)) ⟨⟨p, rfl, upd_same⟩, h0, h1, Int.emod_nonneg _ (by show h ≠ 0; omega), Int.emod_lt_of_pos _ (by show 0 < h; omega)⟩
end
end Rf

namespace Rf
open PySem L2 PySem.Spec PyProof.Rows
local macro_rules | `(tactic| walk_at "rd") => `(tactic| simp only [tSeq, tPar, tIsN, tNotN, tAsg, tLst, tTup, tDNewK, tOp, tUn, tVar, tC, gName, tRet, tRetN, tIfS, tNext, tTest, tB, tNot, tAnd, tOr, tIf, tAndV, tOrV, tNotV, tCons, tNil, tCB, tCall, tDrop, tChain, rI, rI0, rU, L2.start, List.map_cons, List.map_nil, List.length_cons, List.length_nil, List.replicate_succ, List.replicate_zero, List.cons_append, List.nil_append, List.append_nil, List.getElem?_cons_zero, List.getElem?_cons_succ, List.set_cons_zero, List.set_cons_succ, Option.some.injEq, exists_eq_left', exists_eq_left, exists_and_left, V.int.injEq, V.bl.injEq, V.str.injEq, V.ref.injEq, List.cons.injEq, and_true, true_and, Nat.reduceSub, Nat.reduceAdd, Bool.not_true, Bool.not_false, if_true, if_false, Bool.false_eq_true, reduceIte, forall_const])
section
variable {P : Program} {w : World} {K : PySem.W.Frag} {mg : Str → Option Value} {base : Heap}
def spRight : Sp := fun vs H Q _ => ∃ (x y : V) (c d : Int × Int), vs = [x, y] ∧ ClkAt H x c ∧ ClkAt H y d ∧ ∀ H', Same H H' → Q (.bl true) H'
theorem h_right (B : Bt mg) (C : Has P w K mg base CX0 1 "_law_common" ["_law_one", "_law_other"] spCommon) (L : Has P w K mg base CX0 2 "_law_whole" ["_law_found"] spWhole)
    (W : Has P w K mg base (L2.CX P w) 6 "witness" ["one", "other"] (spWitness K)) (G : Has P w K mg base (L2.CX P w) 7 "agree" ["one", "other"] (spAgree K)) (B2 : Has P w K mg base (L2.CX P w) 6 "both" ["one", "other"] (spBoth K))
    (D : Df K "_law_right" s__law_right) (g : mg "_law_right" = some (.ref (He.ga K "_law_right"))) : Has P w K mg base CX0 8 "_law_right" ["_law_one", "_law_other"] spRight := by
  refine has_of0 D g sc__law_right (fun _ _ _ _ _ _ us hl => match us, hl with | [_, _], _ => rfl) (fun vs H Q E h => ?_) (fun A outer s H vs Q E hr h => ?_)
  · obtain ⟨x, y, c, d, rfl, _⟩ := h
    rfl
  · obtain ⟨x, y, c, d, rfl, hc, hd, q⟩ := h
    obtain ⟨a, rfl, ha⟩ := hc.at_
    obtain ⟨b, rfl, hb⟩ := hd.at_
    have c1 : 0 < c.1 := by have := hc.ok.h1; omega
    have d1 : 0 < d.1 := by have := hd.ok.h1; omega
    have g0 := gI_pos d.1 c1
    have gle : gI c.1 d.1 ≤ d.1 := gI_le d1
    have wg : Wd (gI c.1 d.1) := .le (by omega) gle hd.ok.w1
    refine ⟨_, (pss_cons (ps_set (i := 2) sc__law_right.nd rfl (Or.inl rfl) (pe_fn C (hr.mono (by decide)) pass0 (pa_cons (pe_ix ix_tup (pv 0) pe_int (fun _ _ => rfl)) (pa_cons (pe_ix ix_tup (pv 1) pe_int (fun _ _ => rfl)) pa_nil))))
      (pss_cons (ps_set (i := 3) sc__law_right.nd rfl (Or.inl rfl) (pe_fn W (hr.mono (by decide)) passL (pa_cons (pv 0) (pa_cons (pv 1) pa_nil))))
      (pss_cons (ps_if (PW.pt (pw_or (pt_not (pt_val (pe_callB call_isi (by rfl) B.isinstance (by decide +kernel) (pa_cons (pv 3) (pa_cons (pe_bltn (v := .ty "tuple") (by rfl) B.tuple (by decide +kernel) rfl) pa_nil))))) (pw_or1 (pt_cmpR (op_neD hr.units) (pv 3) (pe_tup (pa_cons (pv 2) (pa_cons (pe_op op_mod (pe_ix ix_tup (pv 0) pe_int (fun _ _ => rfl)) (pv 2)) (pa_cons (pe_op op_mod (pe_ix ix_tup (pv 1) pe_int (fun _ _ => rfl)) (pv 2)) pa_nil)))) (nomark _))))) (pss_one (ps_ret pe_bl)) pss_nil)
      (pss_cons (ps_if (pt_cmpR (op_neD hr.units) (pe_lc (own := [("_law_part", 7)]) (g := gName 7) (by rfl) sc__law_right.nd (pi_tup (pv 3)) (blkOk_by (own := [("_law_part", 7)]) (N := ["_law_one", "_law_other", "_law_common_here", "_law_found", "_law_do_agree", "_law_told", "_law_fold", "_law_part"]) (sc := defScope s__law_right) (by decide +kernel)) (fun _ _ _ _ _ => (pg_name (i := 7) sc__law_right.nd rfl (Or.inl rfl))) (fun _ _ _ _ _ => (pts_one (pt_not (pt_val (pe_fn L (hr.mono (by decide)) pass0 (pa_cons (pv 7) pa_nil)))))) (fun _ _ _ _ _ => (pv 7))) (pe_lst pa_nil) (nomark _)) (pss_one (ps_ret pe_bl)) pss_nil)
      (pss_cons (ps_set (i := 4) sc__law_right.nd rfl (Or.inl rfl) (pe_cmpR op_eq (pe_op op_mod (pe_op op_sub (pe_ix ix_tup (pv 0) pe_int (fun _ _ => rfl)) (pe_ix ix_tup (pv 1) pe_int (fun _ _ => rfl))) (pv 2)) pe_int (nomark _)))
      (pss_cons (ps_set (i := 5) sc__law_right.nd rfl (Or.inl rfl) (pe_fn G (hr.mono (by decide)) passL (pa_cons (pv 0) (pa_cons (pv 1) pa_nil))))
      (pss_cons (ps_if (PW.pt (pw_or (pt_not (pt_val (pe_callB call_isi (by rfl) B.isinstance (by decide +kernel) (pa_cons (pv 5) (pa_cons (pe_bltn (v := .ty "bool") (by rfl) B.bool (by decide +kernel) rfl) pa_nil))))) (pw_or1 (pt_cmpR op_ne (pv 5) (pv 4) (nomark _))))) (pss_one (ps_ret pe_bl)) pss_nil)
      (pss_cons (ps_set (i := 6) sc__law_right.nd rfl (Or.inl rfl) (pe_fn B2 (hr.mono (by decide)) passL (pa_cons (pv 0) (pa_cons (pv 1) pa_nil))))
      (pss_cons (ps_if (pt_not (pt_val (pv 4))) (pss_one (ps_ret (pe_cmp (pc_isN (pv 6))))) pss_nil)
      (pss_cons (ps_if (PW.pt (pw_or (pt_not (pt_val (pe_callB call_isi (by rfl) B.isinstance (by decide +kernel) (pa_cons (pv 6) (pa_cons (pe_bltn (v := .ty "tuple") (by rfl) B.tuple (by decide +kernel) rfl) pa_nil))))) (pw_or (pt_cmpR op_ne (pe_callB call_len (by rfl) B.len (by decide +kernel) (pa_cons (pv 6) pa_nil)) pe_int (nomark _)) (pw_or (pt_not (pt_val (pe_fn L (hr.mono (by decide)) pass0 (pa_cons (pe_ix ix_tup (pv 6) pe_int (fun _ _ => rfl)) pa_nil)))) (pw_or1 (pt_not (pt_val (pe_fn L (hr.mono (by decide)) pass0 (pa_cons (pe_ix ix_tup (pv 6) pe_int (fun _ _ => rfl)) pa_nil))))))))) (pss_one (ps_ret pe_bl)) pss_nil)
      (pss_cons (ps_if (PW.pt (pw_or (pt_cmpR op_ne (pe_ix ix_tup (pv 6) pe_int (fun _ _ => rfl)) (pe_op op_mulW (pe_op op_fdivW (pe_ix ix_tup (pv 0) pe_int (fun _ _ => rfl)) (pv 2)) (pe_ix ix_tup (pv 1) pe_int (fun _ _ => rfl))) (nomark _)) (pw_or1 (pt_not (pt_chain op_le op_lt pe_int (pe_ix ix_tup (pv 6) pe_int (fun _ _ => rfl)) (pe_ix ix_tup (pv 6) pe_int (fun _ _ => rfl))))))) (pss_one (ps_ret pe_bl)) pss_nil)
      (pss_one (ps_ret (pe_and (pe_cmpR op_eq (pe_op op_mod (pe_ix ix_tup (pv 6) pe_int (fun _ _ => rfl)) (pe_ix ix_tup (pv 0) pe_int (fun _ _ => rfl))) (pe_ix ix_tup (pv 0) pe_int (fun _ _ => rfl)) (nomark _)) (pe_one (pe_cmpR op_eq (pe_op op_mod (pe_ix ix_tup (pv 6) pe_int (fun _ _ => rfl)) (pe_ix ix_tup (pv 1) pe_int (fun _ _ => rfl))) (pe_ix ix_tup (pv 1) pe_int (fun _ _ => rfl)) (nomark _))))))))))))))))), ?_⟩
    walk_at "rd"
    refine ix0 ha (ix0 hb ⟨_, _, rfl, c1, by omega, ?_⟩)
    refine ⟨_, _, rfl, .inr ⟨c, hc, .inr ⟨d, hd, fun p1 H1 s1 u1 => ?_⟩⟩⟩
    refine is_ty (.tup u1) kitTT ⟨true, rfl, ifF rfl ?_⟩
    have ha1 := s1 _ _ ha
    have hb1 := s1 _ _ hb
    refine ix1 ha1 ⟨_, rfl, _, rfl, g0, ix1 hb1 ⟨_, rfl, _, rfl, g0, by decide, fun p2 n2 => ?_⟩⟩
    generalize hh2 : upd _ p2 _ = H2
    have z2 : Same _ H2 := hh2 ▸ same_upd n2
    have u2 : H2 p2 = some _ := hh2 ▸ upd_same
    have s2 : Same H H2 := s1.trans z2
    have u12 := z2 _ _ u1
    refine ne_self (.tup (.of u12) (.cons (.int _) (.cons (.int _) (.cons (.int _) .nil)))) (.tup (.of u2) (.cons (.int _) (.cons (.int _) (.cons (.int _) .nil)))) (sh3 _ _ _) ⟨false, rfl, ifF rfl ?_⟩
    refine ⟨_, rfl, p1, rfl, ⟨_, .of u12⟩, fun Dl nD => lc_tup (K := K) (a := p1) (xs := [V.int (gI c.1 d.1), V.int (c.2 % gI c.1 d.1), V.int (d.2 % gI c.1 d.1)]) (fun _ H' => Same H2 H' ∧ H' Dl = some (.lst [])) ⟨same_upd nD, upd_same⟩ (fun _ _ _ h => .of (h.1 _ _ u12)) ?_ ?_⟩
    · rintro i y H' hy ⟨e1, e2⟩
      obtain ⟨j, rfl⟩ : ∃ j : Int, y = .int j := by
        have := List.mem_of_getElem? hy
        simp only [List.mem_cons, List.not_mem_nil, or_false] at this
        rcases this with rfl | rfl | rfl <;> exact ⟨_, rfl⟩
      exact ⟨rfl, _, rfl, _, _, rfl, .int j, _, rfl, ifF rfl ⟨e1, e2⟩⟩
    · rintro H3 ⟨e3, uD⟩
      have s3 := s2.trans e3
      refine ⟨by decide, fun p4 n4 => ?_⟩
      generalize hh4 : upd _ p4 _ = H4
      have z4 : Same _ H4 := hh4 ▸ same_upd n4
      have u4 : H4 p4 = some _ := hh4 ▸ upd_same
      have s4 : Same H H4 := s3.trans z4
      refine ne_self (.lst (.of (z4 _ _ uD)) .nil) (.lst (.of u4) .nil) rfl ⟨false, rfl, ifF rfl ?_⟩
      have ha4 := s4 _ _ ha
      have hb4 := s4 _ _ hb
      refine ix1 ha4 (ix1 hb4 ⟨_, rfl, _, rfl, _, rfl, g0, rfl, ?_⟩)
      refine ⟨_, _, rfl, .inr ⟨c, hc.same s4, .inr ⟨d, hd.same s4, fun H5 e5 => ?_⟩⟩⟩
      have eg : decide (V.int ((c.2 - d.2) % gI c.1 d.1) = V.int 0) = decide ((c.2 - d.2) % gI c.1 d.1 = 0) := by simp
      rw [eg]
      refine is_ty (b := true) (.bl _) (kit_ty (by decide +kernel)) ⟨true, rfl, ifF rfl ?_⟩
      refine ⟨rfl, _, rfl, ifF (by simp) ?_⟩
      have s5 := s4.trans e5
      refine ⟨_, _, rfl, .inr ⟨c, hc.same s5, .inr ⟨d, hd.same s5, fun n0 H6 e6 => ?_, fun y0 p6 x6 H6 e6 u6 F6 => ?_⟩⟩⟩
      · refine ⟨_, rfl, ifT (by rw [decide_eq_false n0]; rfl) ?_⟩
        simpa using q _ (s5.trans e6)
      · have s6 := s5.trans e6
        have ha6 := s6 _ _ ha
        have hb6 := s6 _ _ hb
        refine ⟨_, rfl, ifF (by rw [decide_eq_true y0]; rfl) ?_⟩
        refine is_ty (.tup u6) kitTT ⟨true, rfl, ifF rfl ?_⟩
        refine lenT u6 ⟨rfl, _, rfl, ifF rfl ?_⟩
        refine ix0 u6 ⟨_, _, rfl, .int _, true, rfl, ifF rfl ?_⟩
        refine ix1 u6 ⟨_, _, rfl, .int _, true, rfl, ifF rfl ?_⟩
        have wq : Wd (c.1 / gI c.1 d.1) := .le (Int.ediv_nonneg (by omega) (by omega)) (Int.ediv_le_self _ (by omega)) hc.ok.w1
        refine ix0 u6 (ix0 ha6 ⟨_, rfl, _, rfl, wg.div' g0, ix0 hb6 ⟨_, rfl, wq.mul hd.ok.w1, rfl, _, rfl, ifF (by rw [lc_eq c1 d1]; simp) ?_⟩⟩)
        refine ix1 u6 ⟨_, rfl, ifT (decide_eq_true F6.lo) (ix0 u6 ⟨_, rfl, _, rfl, ifF (by rw [decide_eq_true F6.hi]; rfl) ?_⟩)⟩
        have r1 : x6 % c.1 = c.2 := (right_iff hc.ok.k1 hc.ok.k2).mpr (F6.rt c List.mem_cons_self)
        have r2 : x6 % d.1 = d.2 := (right_iff hd.ok.k1 hd.ok.k2).mpr (F6.rt d (List.mem_cons_of_mem _ List.mem_cons_self))
        refine ix1 u6 (ix0 ha6 ⟨_, rfl, _, rfl, c1, ix1 ha6 ⟨rfl, _, rfl, ifT (by rw [r1]; simp) ?_⟩⟩)
        refine ix1 u6 (ix0 hb6 ⟨_, rfl, _, rfl, d1, ix1 hb6 ⟨rfl, ?_⟩⟩)
        rw [r2]
        simpa using q _ s6
/-- two clocks -/
def spPair : Sp := fun vs H Q _ => ∃ (c k : Int), vs = [.int c, .int k] ∧ ∀ (p : Addr) (x y : V) (cl dl : Int × Int) (H' : Hp), Same H H' → ClkAt H' x cl → ClkAt H' y dl → H' p = some (.tup [x, y]) → Q (.ref p) H'
theorem h_pair (M : Has P w K mg base CX0 1 "_law_mixed" ["_law_cell", "_law_k"] spMixed) (T : Has P w K mg base CX0 3 "_law_turn" ["_law_cell", "_law_k"] spTurn) (Me : Has P w K mg base CX0 4 "_law_meant" ["_law_cell", "_law_k", "_law_turn_here"] spMeant) (C : Has P w K mg base CX0 4 "_law_clock" ["_law_cell", "_law_k"] spClock)
    (D : Df K "_law_pair" s__law_pair) (g : mg "_law_pair" = some (.ref (He.ga K "_law_pair"))) : Has P w K mg base CX0 5 "_law_pair" ["_law_cell", "_law_k"] spPair := by
  refine has_of0 D g sc__law_pair (fun _ _ _ _ _ _ us hl => match us, hl with | [_, _], _ => rfl) (fun vs H Q E h => ?_) (fun A outer s H vs Q E hr h => ?_)
  · obtain ⟨c, k, rfl, _⟩ := h
    rfl
  · obtain ⟨c, k, rfl, q⟩ := h
    refine ⟨_, (pss_cons (ps_set (i := 2) sc__law_pair.nd rfl (Or.inl rfl) (pe_fn M (hr.mono (by decide)) pass0 (pa_cons (pv 0) (pa_cons (pv 1) pa_nil))))
      (pss_cons (ps_set (i := 3) sc__law_pair.nd rfl (Or.inl rfl) (pe_fn T (hr.mono (by decide)) pass0 (pa_cons (pv 0) (pa_cons (pe_op op_add (pv 1) pe_int) pa_nil))))
      (pss_cons (ps_par (i := 4) (j := 5) (by rfl) sc__law_pair.nd rfl rfl (by decide) rfl rfl (pa_cons (pe_fn Me (hr.mono (by decide)) pass0 (pa_cons (pv 0) (pa_cons (pe_op op_add (pv 1) pe_int) (pa_cons (pv 3) pa_nil)))) (pa_cons (pe_fn Me (hr.mono (by decide)) pass0 (pa_cons (pv 0) (pa_cons (pe_op op_add (pv 1) pe_int) (pa_cons (pv 3) pa_nil)))) pa_nil)) (by rfl))
      (pss_cons (ps_if (pt_cmpR op_eq (pe_op op_mod (pv 2) pe_int) pe_int (nomark _)) (pss_cons (ps_set (i := 6) sc__law_pair.nd rfl (Or.inl rfl) (pe_op op_mul (pe_ix ix_tup (pv 4) pe_int (fun _ _ => rfl)) (pe_op op_add pe_int (pe_op op_mod (pe_op op_fdiv (pv 2) pe_int) pe_int))))
      (pss_one (ps_set (i := 5) sc__law_pair.nd rfl (Or.inl rfl) (pe_ifExp (pt_cmpR op_le (pv 6) (pe_op op_pow pe_int pe_int) (nomark _)) (pe_tup (pa_cons (pv 6) (pa_cons (pe_op op_mod (pv 3) (pv 6)) pa_nil))) (pe_tup (pa_cons (pe_ix ix_tup (pv 4) pe_int (fun _ _ => rfl)) (pa_cons (pe_op op_mod (pv 3) (pe_ix ix_tup (pv 4) pe_int (fun _ _ => rfl))) pa_nil))))))) pss_nil)
      (pss_cons (ps_if (pt_cmpR op_eq (pe_op op_mod (pv 2) pe_int) pe_int (nomark _)) (pss_one (ps_set (i := 5) sc__law_pair.nd rfl (Or.inl rfl) (pe_fn C (hr.mono (by decide)) pass0 (pa_cons (pv 0) (pa_cons (pe_op op_add (pv 1) pe_int) pa_nil))))) pss_nil)
      (pss_one (ps_ret (pe_tup (pa_cons (pv 4) (pa_cons (pv 5) pa_nil)))))))))), ?_⟩
    walk_at "rd"
    refine ⟨c, k, rfl, fun n n0 n1 => ⟨c, k + 1, rfl, fun t H1 e1 _ => ?_⟩⟩
    refine ⟨c, k + 2, t, rfl, fun x cl H2 e2 hx => ⟨c, k + 30, t, rfl, fun y dl H3 e3 hy => ?_⟩⟩
    have s3 := (e1.trans e2).trans e3
    have hx := hx.same e3
    have tail : ∀ (y : V) (dl : Int × Int) (H' : Hp), Same H H' → ClkAt H' x cl → ClkAt H' y dl → (∃ i, V.int n = V.int i ∧ (0 : Int) < 4 ∧ rEq (V.int (i % 4)) (V.int 2) H' fun x' H' => ∃ k2, x' = V.bl k2 ∧ if k2 = true then
        spClock [V.int c, V.int (k + 60)] H' (fun x'' H1 => 2 ≤ sizeLine ∧ ∀ p, H1 p = none → Q (.ref p) (upd H1 p (.tup [x, x'']))) E0 else 2 ≤ sizeLine ∧ ∀ p, H' p = none → Q (.ref p) (upd H' p (.tup [x, y]))) := by
      intro y dl H' e hx hy
      refine ⟨n, rfl, by decide, rfl, _, rfl, ?_⟩
      cases hd : (decide (V.int (n % 4) = V.int 2)) with
      | true =>
        refine ifT rfl ⟨c, k + 60, rfl, fun z el H4 e4 hz => ⟨by decide, fun p np => ?_⟩⟩
        exact q p x z cl el _ ((e.trans e4).trans (same_upd np)) ((hx.same e4).same (same_upd np)) (hz.same (same_upd np)) upd_same
      | false =>
        refine ifF rfl ⟨by decide, fun p np => ?_⟩
        exact q p x y cl dl _ (e.trans (same_upd np)) (hx.same (same_upd np)) (hy.same (same_upd np)) upd_same
    refine ⟨_, _, ⟨rfl, rfl⟩, n, rfl, by decide, rfl, _, rfl, ?_⟩
    cases hd : (decide (V.int (n % 4) = V.int 1)) with
    | false => exact ifF rfl (tail y dl H3 s3 hx hy)
    | true =>
      obtain ⟨a, rfl, ha⟩ := hx.at_
      have h1 := hx.ok.h1
      refine ifT rfl (ix0 ha ⟨n, rfl, ⟨by decide, by decide⟩, by decide, _, rfl, .inr ⟨by omega, by omega⟩, ⟨by decide, by decide, by decide⟩, ?_⟩)
      have e30 : (10 : Int) ^ Int.toNat 30 = hrs := by decide
      rw [e30]
      obtain ⟨m, hm⟩ : ∃ m, m = cl.1 * (1 + n / 4 % 9) := ⟨_, rfl⟩
      have m1 : 1 ≤ m := by
        rw [hm]
        have := Int.mul_le_mul h1 (show (1 : Int) ≤ 1 + n / 4 % 9 by omega) (by decide) (by omega)
        omega
      rw [← hm]
      by_cases hle : m ≤ hrs
      · refine ifT (decide_eq_true hle) ⟨t, rfl, by omega, by decide, fun p np => ?_⟩
        exact tail _ (m, t % m) _ (s3.trans (same_upd np)) (hx.same (same_upd np)) ⟨⟨p, rfl, upd_same⟩, m1, hle, Int.emod_nonneg _ (by show m ≠ 0; omega), Int.emod_lt_of_pos _ (by show 0 < m; omega)⟩
      · refine ifF (decide_eq_false hle) (ix0 ha (ix0 ha ⟨t, rfl, _, rfl, by omega, by decide, fun p np => ?_⟩))
        exact tail _ (cl.1, t % cl.1) _ (s3.trans (same_upd np)) (hx.same (same_upd np)) ⟨⟨p, rfl, upd_same⟩, h1, hx.ok.h2, Int.emod_nonneg _ (by show cl.1 ≠ 0; omega), Int.emod_lt_of_pos _ (by show 0 < cl.1; omega)⟩
end
end Rf

namespace Rf
open PySem L2 PySem.Spec PyProof.Rows LamX
local macro_rules | `(tactic| walk_at "rd") => `(tactic| simp only [tSeq, tPar, tIsN, tNotN, tAsg, tLst, tTup, tDNewK, tOp, tUn, tVar, tC, gName, tRet, tRetN, tIfS, tNext, tTest, tB, tNot, tAnd, tOr, tIf, tAndV, tOrV, tNotV, tCons, tNil, tCB, tCall, tDrop, tChain, rI, rI0, rU, L2.start, List.map_cons, List.map_nil, List.length_cons, List.length_nil, List.replicate_succ, List.replicate_zero, List.cons_append, List.nil_append, List.append_nil, List.getElem?_cons_zero, List.getElem?_cons_succ, List.set_cons_zero, List.set_cons_succ, Option.some.injEq, exists_eq_left', exists_eq_left, exists_and_left, V.int.injEq, V.bl.injEq, V.str.injEq, V.ref.injEq, List.cons.injEq, and_true, true_and, Nat.reduceSub, Nat.reduceAdd, Bool.not_true, Bool.not_false, if_true, if_false, Bool.false_eq_true, reduceIte, forall_const])
section
variable {P : Program} {w : World} {K : PySem.W.Frag} {mg : Str → Option Value} {base : Heap}
theorem clk2 {H : Hp} {a : Addr} {i j : Int} (h : H a = some (.tup [.int i, .int j])) (n : ¬ (1 ≤ i ∧ i ≤ hrs ∧ 0 ≤ j ∧ j < i)) : ClkRes H (.ref a) false := by
  have q := ClkRes.two h
  rw [decide_eq_false n] at q
  exact q
/-- a call refused for what is no clock -/
def spRef (K : PySem.W.Frag) : Sp := fun vs H Q E => ∃ x y, vs = [x, y] ∧ ((ClkRes H x false ∧ E (xr K "BadClock") none H) ∨ ∃ c, ClkAt H x c ∧ ClkRes H y false ∧ E (xr K "BadClock") none H)
theorem ref_of {F : V → V → Int × Int → Int × Int → Hp → VK → Prop} {vs : List V} {H : Hp} {Q : VK} {E : XK} (h : spRef K vs H Q E) : ofCC K F vs H Q E := by
  obtain ⟨x, y, rfl, h | ⟨c, hc, h⟩⟩ := h
  · exact ⟨x, y, rfl, .inl h⟩
  · exact ⟨x, y, rfl, .inr ⟨c, hc, .inl h⟩⟩
def deeds (K : PySem.W.Frag) : Addr → Prop := fun f => f = He.ga K "agree" ∨ f = He.ga K "both" ∨ f = He.ga K "witness"
theorem h_law (B : Bt mg) (M : Has P w K mg base CX0 1 "_law_mixed" ["_law_cell", "_law_k"] spMixed) (Pr : Has P w K mg base CX0 5 "_law_pair" ["_law_cell", "_law_k"] spPair) (Ri : Has P w K mg base CX0 8 "_law_right" ["_law_one", "_law_other"] spRight)
    (W : Has P w K mg base (L2.CX P w) 6 "witness" ["one", "other"] (spWitness K)) (G : Has P w K mg base (L2.CX P w) 7 "agree" ["one", "other"] (spAgree K)) (B2 : Has P w K mg base (L2.CX P w) 6 "both" ["one", "other"] (spBoth K)) (Wd : Has P w K mg base CX0 1 "_law_word" ["_law_e"] (spWord K))
    (x1 : Xc K mg "BadClock") {CF : Addr} (gF : mg "FoldError" = some (.ref CF)) (f1 : PySem.W.exmOne K (xr K "BadClock") (.ref CF) = some true)
    (Dk : Df K "_law_kept" s__law_kept) (gk : mg "_law_kept" = some (.ref (He.ga K "_law_kept"))) (TB : TabB base mg (cdO K "law") (tbO K "law"))
    (D : Df K "law" s_law) (g : mg "law" = some (.ref (He.ga K "law"))) : Has P w K mg base CX0 10 "law" ["_law_script"] (spLaw K) := by
  have gA := G.g
  have gB := B2.g
  have gW := W.g
  have hO : ∀ f, deeds K f → ∃ fd ps, FnOk P w K mg base (L2.CX P w) 7 f fd ps (spRef K) ∧ PySem.W.keepIn K (.ref f) = true ∧ Binds K fd ps [] := by
    rintro f (rfl | rfl | rfl)
    · obtain ⟨fd, F, b, _⟩ := G.ok
      exact ⟨fd, _, F.imp fun _ _ _ _ => ref_of, G.kp, b⟩
    · obtain ⟨fd, F, b, _⟩ := B2.ok
      exact ⟨fd, _, (F.mono (by decide)).imp fun _ _ _ _ => ref_of, B2.kp, b⟩
    · obtain ⟨fd, F, b, _⟩ := W.ok
      exact ⟨fd, _, (F.mono (by decide)).imp fun _ _ _ _ => ref_of, W.kp, b⟩
  refine has_of0 D g sc_law (fun _ _ _ _ _ _ us hl => match us, hl with | [_], _ => rfl) (fun vs H Q E h => ?_) (fun A outer s H vs Q E hr h => ?_)
  · obtain ⟨a, ns, rfl, _⟩ := h
    rfl
  · obtain ⟨a, ns, rfl, hS, hz, hT, q⟩ := h
    obtain ⟨tb0, hb1, htb0⟩ : ∃ tb, PSs (bx CX0 P w K mg base ["_law_script", "_law_k", "_law_cell", "_law_one", "_law_other", "_law_number", "_law_odd", "_law_deed"] "law" s_law A outer s H E).nox (forBody (forBody (defBody s_law))) tb ∧
        ∀ (D : Ends) (x0 x1 x2 : Option V) (one other odd : V) (cl dl : Int × Int) (x5 : Option V) (f : Addr) (H : Hp), deeds K f → Tabs (lawT K) H → ClkAt H one cl → ClkAt H other dl → ClkRes H odd false →
          (∀ (H' : Hp), ExtN H H' → Tabs (lawT K) H' → D.nx [x0, x1, x2, some one, some other, x5, some odd, some (.ref f)] H') →
          tb D [x0, x1, x2, some one, some other, x5, some odd, some (.ref f)] H := by
      refine ⟨_, (pss_cons (ps_if (pt_cmpR (op_neD hr.units) (pe_fn Wd (hr.mono (by decide)) pass0 (pa_cons (pe_kept (T := lawT K) Dk gk (kept_gives rfl rfl rfl gF) (fun _ _ _ _ _ _ us hl => match us, hl with | [_], _ => rfl) sc__law_kept (Or.inl rfl) TB rfl (List.mem_singleton.mpr rfl) (fun p hp _ => by rw [List.mem_singleton.mp hp] <;> rfl) (hr.mono (by decide)) (fun A outer s H E f c' hr' => (pe_callO (i := 7) (CX := L2.CX P w) (k := 7) (sp := spRef K) (S := deeds K) hO hr' passLam (pa_cons (pv 6) (pa_cons (pv 4) pa_nil)))) (L := lamS_by (sc := defScope s_law) (by decide +kernel))) pa_nil)) (pe_lst (pa_cons pe_str pa_nil)) (nomark _)) (pss_one (ps_ret pe_bl)) pss_nil)
      (pss_one (ps_if (pt_cmpR (op_neD hr.units) (pe_fn Wd (hr.mono (by decide)) pass0 (pa_cons (pe_kept (T := lawT K) Dk gk (kept_gives rfl rfl rfl gF) (fun _ _ _ _ _ _ us hl => match us, hl with | [_], _ => rfl) sc__law_kept (Or.inl rfl) TB rfl (List.mem_singleton.mpr rfl) (fun p hp _ => by rw [List.mem_singleton.mp hp] <;> rfl) (hr.mono (by decide)) (fun A outer s H E f c' hr' => (pe_callO (i := 7) (CX := L2.CX P w) (k := 7) (sp := spRef K) (S := deeds K) hO hr' passLam (pa_cons (pv 3) (pa_cons (pv 6) pa_nil)))) (L := lamS_by (sc := defScope s_law) (by decide +kernel))) pa_nil)) (pe_lst (pa_cons pe_str pa_nil)) (nomark _)) (pss_one (ps_ret pe_bl)) pss_nil))), fun D x0 x1 x2 one other odd cl dl x5 f H0 hf T0 h1 h2 h3 q => ?_⟩
      walk_at "rd"
      refine ⟨T0, fun Ha1 Xa1 Ta1 => ⟨f, rfl, hf, _, rfl, _, rfl, _, _, rfl, .inl ⟨h3.ext Xa1, f1, fun ae1 na1 => ?_⟩⟩⟩
      refine ⟨_, rfl, .inr ⟨ae1, "BadClock", none, _, rfl, upd_same, .clock, fun p1 Hb1 eb1 np1 w1 => ⟨by decide, fun q1 m1 => ?_⟩⟩⟩
      refine ne_self (.lst (.of (same_upd m1 _ _ w1)) (.cons (.str _) .nil)) (.lst (.of upd_same) (.cons (.str _) .nil)) (by decide +kernel) ⟨false, rfl, ifF rfl ?_⟩
      generalize hh1 : upd _ q1 _ = H1
      have X1 : ExtN H0 H1 := Xa1.trans (exS ((same_upd na1).trans (eb1.trans (hh1 ▸ same_upd m1))))
      have T1 : Tabs (lawT K) H1 := (tabs_upd Ta1 na1).ext (eb1.trans (hh1 ▸ same_upd m1))
      refine ⟨T1, fun Ha2 Xa2 Ta2 => ⟨f, rfl, hf, _, rfl, _, rfl, _, _, rfl, .inr ⟨cl, h1.ext (X1.trans Xa2), h3.ext (X1.trans Xa2), f1, fun ae2 na2 => ?_⟩⟩⟩
      refine ⟨_, rfl, .inr ⟨ae2, "BadClock", none, _, rfl, upd_same, .clock, fun p2 Hb2 eb2 np2 w2 => ⟨by decide, fun q2 m2 => ?_⟩⟩⟩
      refine ne_self (.lst (.of (same_upd m2 _ _ w2)) (.cons (.str _) .nil)) (.lst (.of upd_same) (.cons (.str _) .nil)) (by decide +kernel) ⟨false, rfl, ifF rfl ?_⟩
      generalize hh2 : upd _ q2 _ = H2
      have X2 : ExtN H0 H2 := X1.trans (Xa2.trans (exS ((same_upd na2).trans (eb2.trans (hh2 ▸ same_upd m2)))))
      have T2 : Tabs (lawT K) H2 := (tabs_upd Ta2 na2).ext (eb2.trans (hh2 ▸ same_upd m2))
      exact q _ X2 T2
    obtain ⟨tb, hb0, htb⟩ : ∃ tb, PSs (bx CX0 P w K mg base ["_law_script", "_law_k", "_law_cell", "_law_one", "_law_other", "_law_number", "_law_odd", "_law_deed"] "law" s_law A outer s H E).nox (forBody (defBody s_law)) tb ∧
        ∀ (D : Ends) (x0 : Option V) (k c : Int) (x3 x4 x5 x6 x7 : Option V) (H : Hp), Tabs (lawT K) H → (∀ (x0 x1 x2 x3 x4 x5 x6 x7 : Option V) (H' : Hp), ExtN H H' → Tabs (lawT K) H' → D.nx [x0, x1, x2, x3, x4, x5, x6, x7] H') →
          tb D [x0, some (.int k), some (.int c), x3, x4, x5, x6, x7] H := by
      refine ⟨_, (pss_cons (ps_asg (pe_fn Pr (hr.mono (by decide)) pass0 (pa_cons (pv 2) (pa_cons (pv 1) pa_nil))) (pg_tup (n := 2) (by rfl) (pgs_cons (pg_name (i := 3) sc_law.nd rfl (Or.inr rfl)) (pgs_cons (pg_name (i := 4) sc_law.nd rfl (Or.inr rfl)) pgs_nil))))
      (pss_cons (ps_if (PW.pt (pw_or (pt_not (pt_val (pe_fn Ri (hr.mono (by decide)) pass0 (pa_cons (pv 3) (pa_cons (pv 4) pa_nil))))) (pw_or (pt_not (pt_val (pe_fn Ri (hr.mono (by decide)) pass0 (pa_cons (pv 4) (pa_cons (pv 3) pa_nil))))) (pw_or1 (pt_not (pt_val (pe_fn Ri (hr.mono (by decide)) pass0 (pa_cons (pv 3) (pa_cons (pv 3) pa_nil))))))))) (pss_one (ps_ret pe_bl)) pss_nil)
      (pss_cons (ps_set (i := 5) sc_law.nd rfl (Or.inl rfl) (pe_fn M (hr.mono (by decide)) pass0 (pa_cons (pv 2) (pa_cons (pe_op op_add (pv 1) pe_int) pa_nil))))
      (pss_cons (ps_set (i := 6) sc_law.nd rfl (Or.inr rfl) (pe_ix ix_list (pe_lst (pa_cons pe_non (pa_cons pe_int (pa_cons (pe_callTy call_list_of (by rfl) B.list (by decide +kernel) (pa_cons (pv 3) pa_nil)) (pa_cons (pe_tup (pa_cons pe_int (pa_cons pe_int pa_nil))) (pa_cons (pe_tup (pa_cons (pe_ix ix_tup (pv 3) pe_int (fun _ _ => rfl)) (pa_cons (pe_ix ix_tup (pv 3) pe_int (fun _ _ => rfl)) pa_nil))) (pa_cons (pe_tup (pa_cons (pe_ix ix_tup (pv 3) pe_int (fun _ _ => rfl)) (pa_cons (pe_un un_neg pe_int) pa_nil))) (pa_cons pe_str (pa_cons (pe_tup (pa_cons pe_bl (pa_cons pe_int pa_nil))) (pa_cons (pe_tup (pa_cons pe_int pa_nil)) (pa_cons pe_dnewK pa_nil))))))))))) (pe_op op_mod (pv 5) pe_int) (fun _ _ => rfl)))
      (pss_one (ps_for PassesOwn.never rfl (pi_tup (pe_tup (pa_cons (pe_gref gA) (pa_cons (pe_gref gB) (pa_cons (pe_gref gW) pa_nil))))) (pg_name (i := 7) sc_law.nd rfl (Or.inr rfl)) hb1)))))), fun D x0 k c x3 x4 x5 x6 x7 H0 T0 q => ?_⟩
      walk_at "rd"
      refine ⟨c, k, rfl, fun p x y cl dl H1 e1 hx hy u1 => ?_⟩
      refine ⟨p, _, rfl, .of u1, rfl, _, _, rfl, _, _, rfl, rfl, ?_⟩
      walk_at "rd"
      refine ⟨_, _, cl, dl, rfl, hx, hy, fun H2 e2 => ⟨true, rfl, ifF rfl ?_⟩⟩
      refine ⟨_, _, dl, cl, rfl, hy.same e2, hx.same e2, fun H3 e3 => ⟨true, rfl, ifF rfl ?_⟩⟩
      refine ⟨_, _, cl, cl, rfl, (hx.same e2).same e3, (hx.same e2).same e3, fun Hm em => ⟨true, rfl, ifF rfl ?_⟩⟩
      have sm := ((e1.trans e2).trans e3).trans em
      have s14 := (e2.trans e3).trans em
      have hx4 := hx.same s14
      have hy4 := hy.same s14
      obtain ⟨a, rfl, ha⟩ := hx4.at_
      have hok := hx4.ok
      refine ⟨c, k + 70, rfl, fun n g0 g1 => ⟨a, rfl, _, .inr (.of ha), fun p1 n1 => ?_⟩⟩
      generalize hh1 : upd _ p1 _ = H1
      have z1 : Same _ H1 := hh1 ▸ same_upd n1
      have u1 : H1 p1 = some _ := hh1 ▸ upd_same
      have s1 : Same Hm H1 := z1
      refine ⟨by decide, fun p2 n2 => ?_⟩
      generalize hh2 : upd _ p2 _ = H2
      have z2 : Same _ H2 := hh2 ▸ same_upd n2
      have u2 : H2 p2 = some _ := hh2 ▸ upd_same
      have s2 : Same Hm H2 := s1.trans z2
      refine ix0 (s2 _ _ ha) (ix0 (s2 _ _ ha) ⟨by decide, fun p3 n3 => ?_⟩)
      generalize hh3 : upd _ p3 _ = H3
      have z3 : Same _ H3 := hh3 ▸ same_upd n3
      have u3 : H3 p3 = some _ := hh3 ▸ upd_same
      have s3 : Same Hm H3 := s2.trans z3
      refine ix0 (s3 _ _ ha) ⟨by decide, fun p4 n4 => ?_⟩
      generalize hh4 : upd _ p4 _ = H4
      have z4 : Same _ H4 := hh4 ▸ same_upd n4
      have u4 : H4 p4 = some _ := hh4 ▸ upd_same
      have s4 : Same Hm H4 := s3.trans z4
      refine ⟨by decide, fun p5 n5 => ?_⟩
      generalize hh5 : upd _ p5 _ = H5
      have z5 : Same _ H5 := hh5 ▸ same_upd n5
      have u5 : H5 p5 = some _ := hh5 ▸ upd_same
      have s5 : Same Hm H5 := s4.trans z5
      refine ⟨by decide, fun p6 n6 => ?_⟩
      generalize hh6 : upd _ p6 _ = H6
      have z6 : Same _ H6 := hh6 ▸ same_upd n6
      have u6 : H6 p6 = some _ := hh6 ▸ upd_same
      have s6 : Same Hm H6 := s5.trans z6
      refine fun p7 n7 => ?_
      generalize hh7 : upd _ p7 _ = H7
      have z7 : Same _ H7 := hh7 ▸ same_upd n7
      have u7 : H7 p7 = some _ := hh7 ▸ upd_same
      have s7 : Same Hm H7 := s6.trans z7
      refine ⟨by decide, fun p8 n8 => ?_⟩
      generalize hh8 : upd _ p8 _ = H8
      have z8 : Same _ H8 := hh8 ▸ same_upd n8
      have u8 : H8 p8 = some _ := hh8 ▸ upd_same
      have s8 : Same Hm H8 := s7.trans z8
      refine ⟨n, rfl, by decide, ?_⟩
      refine ixL u8 (by omega) (by show _ < (10 : Int); omega) fun odd hv => ?_
      have ho : ClkRes H8 odd false := by
        simp only [List.mem_cons, List.not_mem_nil, or_false] at hv
        rcases hv with rfl | rfl | rfl | rfl | rfl | rfl | rfl | rfl | rfl | rfl
        · exact .no .non (by decide)
        · exact .no (.int 5) (by decide)
        · exact .no (.lst (z8 _ _ (z7 _ _ (z6 _ _ (z5 _ _ (z4 _ _ (z3 _ _ (z2 _ _ u1)))))))) (by decide)
        · exact clk2 (z8 _ _ (z7 _ _ (z6 _ _ (z5 _ _ (z4 _ _ (z3 _ _ u2)))))) (by omega)
        · exact clk2 (z8 _ _ (z7 _ _ (z6 _ _ (z5 _ _ (z4 _ _ u3))))) (by omega)
        · exact clk2 (z8 _ _ (z7 _ _ (z6 _ _ (z5 _ _ u4)))) (by omega)
        · exact .no (.str _) (by decide)
        · exact .odd1 (z8 _ _ (z7 _ _ (z6 _ _ u5))) (.bl _) rfl
        · exact .len (z8 _ _ (z7 _ _ u6)) (by simp) (by simp)
        · exact .no (.dK (z8 _ _ u7)) (by decide)
      refine ⟨(by show 3 ≤ sizeLine; decide), fun p9 n9 => ?_⟩
      generalize hh9 : upd _ p9 _ = H9
      have z9 : Same _ H9 := hh9 ▸ same_upd n9
      have u9 : H9 p9 = some _ := hh9 ▸ upd_same
      have s9 : Same Hm H9 := s8.trans z9
      have S9 : Same H0 H9 := sm.trans s9
      have ho9 := ho.same z9
      have hx9 := hx4.same s9
      have hy9 := hy4.same s9
      refine ⟨p9, rfl, ⟨_, .of u9⟩, ?_⟩
      refine for_it walk_tup (fun _ σ H' => (∃ x7 : Option V, σ = [x0, some (.int k), some (.int c), some (.ref a), some y, some (.int n), some odd, x7]) ∧ ExtN H9 H' ∧ Tabs (lawT K) H') ⟨⟨_, rfl⟩, .refl _, T0.ext S9⟩ (fun _ _ _ _ h => .of (xtup h.2.1 u9)) ?_ ?_
      · rintro i v σ H' H'' hi ⟨⟨y7, rfl⟩, X', T'⟩ ⟨rfl, hv⟩
        have hd := List.mem_of_getElem? hv
        simp only [List.mem_cons, List.not_mem_nil, or_false] at hd
        obtain ⟨f, rfl, hf⟩ : ∃ f, v = .ref f ∧ deeds K f := by
          rcases hd with rfl | rfl | rfl
          · exact ⟨_, rfl, .inl rfl⟩
          · exact ⟨_, rfl, .inr (.inl rfl)⟩
          · exact ⟨_, rfl, .inr (.inr rfl)⟩
        exact htb0 _ _ _ _ _ _ _ cl dl _ f _ hf T' (hx9.ext X') (hy9.ext X') (ho9.ext X') fun H6 X6 T6 => ⟨⟨_, rfl⟩, X'.trans X6, T6⟩
      · rintro σ H' ⟨⟨y7, rfl⟩, X', T'⟩
        exact q _ _ _ _ _ _ _ _ _ ((exS S9).trans X') T'
    refine ⟨_, (pss_cons (ps_for PassesOwn.never rfl (pi_enum (by rfl) B.enumerate (pa_cons (pe_op op_cat (pe_lst (pa_cons pe_int pa_nil)) (pe_slice sl_list (pv 0) po_none (po_some pe_int))) pa_nil)) (pg_tup (n := 2) (by rfl) (pgs_cons (pg_name (i := 1) sc_law.nd rfl (Or.inl rfl)) (pgs_cons (pg_name (i := 2) sc_law.nd rfl (Or.inl rfl)) pgs_nil))) hb0)
      (pss_one (ps_ret pe_bl))), ?_⟩
    refine ⟨by decide, fun p1 n1 => ?_⟩
    generalize hh1 : upd _ p1 _ = H1
    have z1 : Same _ H1 := hh1 ▸ same_upd n1
    have u1 : H1 p1 = some _ := hh1 ▸ upd_same
    refine ⟨_, rfl, ?_⟩
    refine ⟨60, rfl, ?_⟩
    refine ⟨a, _, rfl, sql_ext z1 hS, fun p2 n2 => ?_⟩
    generalize hh2 : upd _ p2 _ = H2
    have z2 : Same _ H2 := hh2 ▸ same_upd n2
    have u2 : H2 p2 = some _ := hh2 ▸ upd_same
    have hl := cutV_length (ns.map V.int) none (some 60)
    rw [List.length_map] at hl
    obtain ⟨xs, hxs⟩ : ∃ xs, xs = [V.int 6] ++ cutV (ns.map V.int) none (some 60) := ⟨_, rfl⟩
    have hxi : ∀ v ∈ xs, ∃ c, v = V.int c := by
      intro v hv
      rw [hxs] at hv
      rcases List.mem_append.mp hv with hv | hv
      · exact ⟨6, List.mem_singleton.mp hv⟩
      · exact cut_int hv
    refine ⟨p1, p2, _, _, rfl, rfl, z2 _ _ u1, u2, Nat.le_trans (Nat.add_le_add_left hl 1) (Nat.le_trans (Nat.add_le_add_left hz 1) (by decide)), fun p3 n3 => ?_⟩
    rw [← hxs]
    generalize hh3 : upd _ p3 _ = H3
    have z3 : Same _ H3 := hh3 ▸ same_upd n3
    have u3 : H3 p3 = some _ := hh3 ▸ upd_same
    have T3 : Tabs (lawT K) H3 := hT.ext ((z1.trans z2).trans z3)
    refine ⟨p3, _, rfl, .of u3, ?_⟩
    refine for_it walk_enum (fun _ σ H' => (∃ x0 x1 x2 x3 x4 x5 x6 x7 : Option V, σ = [x0, x1, x2, x3, x4, x5, x6, x7]) ∧ ExtN H3 H' ∧ Tabs (lawT K) H') ⟨⟨_, _, _, _, _, _, _, _, rfl⟩, .refl _, T3⟩ (fun _ _ _ _ h => .of (xlst h.2.1 u3)) ?_ ?_
    · rintro i x σ H4 H5 hi ⟨⟨x0, x1, x2, x3, x4, x5, x6, x7, rfl⟩, X4, T4⟩ ⟨t, y, z, rfl, nt, rfl, hy, hz⟩
      cases hy
      obtain ⟨c, rfl⟩ := hxi _ (List.mem_of_getElem? hz)
      refine ⟨t, _, rfl, .of upd_same, rfl, _, _, rfl, _, _, rfl, rfl, ?_⟩
      exact htb _ _ _ _ _ _ _ _ _ _ (tabs_upd T4 nt) fun _ _ _ _ _ _ _ _ H6 X6 T6 => ⟨⟨_, _, _, _, _, _, _, _, rfl⟩, X4.trans ((exS (same_upd nt)).trans X6), T6⟩
    · rintro σ H4 -
      exact q _
end
end Rf

set_option maxHeartbeats 0
namespace Rf
open PySem L2 PySem.Spec PyProof.Rows LamX
def fnL : List He.DefD := [dd "is_whole" s_is_whole, dd "is_clock" s_is_clock, dd "need_clock" s_need_clock, dd "shared" s_shared, dd "fold_two" s_fold_two, dd "need_both" s_need_both, dd "witness" s_witness, dd "agree" s_agree, dd "both" s_both, dd "_law_mixed" s__law_mixed, dd "_law_whole" s__law_whole, dd "_law_wide" s__law_wide, dd "_law_hours" s__law_hours, dd "_law_turn" s__law_turn, dd "_law_common" s__law_common, dd "_law_clock" s__law_clock, dd "_law_meant" s__law_meant, dd "_law_kept" s__law_kept, dd "_law_word" s__law_word, dd "_law_right" s__law_right, dd "_law_pair" s__law_pair, dd "law" s_law]
def fa : List He.Fa := ((("FoldError" : Str) :: xNames).map He.Fa.glo) ++ (fnL.map fun d => He.Fa.glo d.name) ++ btNames.map He.Fa.free ++ [.int "MOST_HOURS" (10 ^ 30)]
abbrev R : PySem.W.OpenRow := PySem.W.OpenLaw.row PySem.Challenge.rw_restfold_k03_two_clocks
abbrev hk : PySem.W.Hook := He.hookX 6 fa fnL [] [("law", none)] exB
def ob (s : PySem.W.SharedT) : He.AlX := He.obsX 6 fa fnL [] [("law", none)] exB (HandSHeadRun.getT s)
theorem ob_eq (s : PySem.W.SharedT) : ob s = hk.obs s.abs := He.obsX_eq (HandSHeadRun.getT_eq s)
theorem run (w : World) : HandSHeadRun.RunEq R (PySem.W.view R.prog [33]) hk ob 4000 ["FoldError", "BadClock", "BadTurn", "NoClock", "TooMany", "BadWall", "Never", "BadText", "MOST_HOURS", "is_whole", "is_clock", "need_clock", "shared", "fold_two", "need_both", "witness", "agree", "both", "_law_mixed", "_law_whole", "_law_wide", "_law_hours", "_law_turn", "_law_common", "_law_clock", "_law_meant", "_law_kept", "_law_word", "_law_right", "_law_pair"] w := by
  intro os
  kernel_rfl
theorem facts {w : World} {mg : Str → Option Value} {f : Addr} {h : Heap} {K : PySem.W.Frag} (X : K.In h) (G : h.Ns mainGlobals mg) (hfa : mg ("law" : Str) = some (.ref f)) (c : He.SaysX fa fnL [] [("law", none)] exB w h K) :
    LawAtS PySem.Challenge.rw_restfold_k03_two_clocks w K CX0 10 63 "_law_script" mg f h := by
  have d := c.t.d
  have gl : ∀ x, He.Fa.glo x ∈ fa → mg x = some (.ref (He.ga K x)) := fun x hx => He.glo_ok X G (d.facts hx)
  have B : Bt mg := bt_of fun x hx => He.free_ok X G (d.facts (f := .free x) (by
    unfold fa
    exact List.mem_append_left _ (List.mem_append_right _ (List.mem_map.mpr ⟨x, hx, rfl⟩))))
  have gx : ∀ x, x ∈ (("FoldError" : Str) :: xNames) → mg x = some (.ref (He.ga K x)) := fun x hx => gl x (by
    unfold fa
    exact List.mem_append_left _ (List.mem_append_left _ (List.mem_append_left _ (List.mem_map.mpr ⟨x, hx, rfl⟩))))
  have gd : ∀ {x : Str} {st : Stmt}, dd x st ∈ fnL → mg x = some (.ref (He.ga K x)) := fun {x st} hx => gl x (by
    unfold fa
    exact List.mem_append_left _ (List.mem_append_left _ (List.mem_append_right _ (List.mem_map.mpr ⟨_, hx, rfl⟩))))
  have E : Xs K mg := xs_of c.more fun y hy => gx y (List.mem_cons_of_mem _ hy)
  have D_is_whole : Df K "is_whole" s_is_whole := df_of d (by unfold fnL; exact List.mem_cons_self)
  have g_is_whole := gd (x := "is_whole") (st := s_is_whole) (by unfold fnL; exact List.mem_cons_self)
  have D_is_clock : Df K "is_clock" s_is_clock := df_of d (by unfold fnL; exact List.mem_cons_of_mem _ (List.mem_cons_self))
  have g_is_clock := gd (x := "is_clock") (st := s_is_clock) (by unfold fnL; exact List.mem_cons_of_mem _ (List.mem_cons_self))
  have D_need_clock : Df K "need_clock" s_need_clock := df_of d (by unfold fnL; exact List.mem_cons_of_mem _ (List.mem_cons_of_mem _ (List.mem_cons_self)))
  have g_need_clock := gd (x := "need_clock") (st := s_need_clock) (by unfold fnL; exact List.mem_cons_of_mem _ (List.mem_cons_of_mem _ (List.mem_cons_self)))
  have D_shared : Df K "shared" s_shared := df_of d (by unfold fnL; exact List.mem_cons_of_mem _ (List.mem_cons_of_mem _ (List.mem_cons_of_mem _ (List.mem_cons_self))))
  have g_shared := gd (x := "shared") (st := s_shared) (by unfold fnL; exact List.mem_cons_of_mem _ (List.mem_cons_of_mem _ (List.mem_cons_of_mem _ (List.mem_cons_self))))
  have D_fold_two : Df K "fold_two" s_fold_two := df_of d (by unfold fnL; exact List.mem_cons_of_mem _ (List.mem_cons_of_mem _ (List.mem_cons_of_mem _ (List.mem_cons_of_mem _ (List.mem_cons_self)))))
  have g_fold_two := gd (x := "fold_two") (st := s_fold_two) (by unfold fnL; exact List.mem_cons_of_mem _ (List.mem_cons_of_mem _ (List.mem_cons_of_mem _ (List.mem_cons_of_mem _ (List.mem_cons_self)))))
  have D_need_both : Df K "need_both" s_need_both := df_of d (by unfold fnL; exact List.mem_cons_of_mem _ (List.mem_cons_of_mem _ (List.mem_cons_of_mem _ (List.mem_cons_of_mem _ (List.mem_cons_of_mem _ (List.mem_cons_self))))))
  have g_need_both := gd (x := "need_both") (st := s_need_both) (by unfold fnL; exact List.mem_cons_of_mem _ (List.mem_cons_of_mem _ (List.mem_cons_of_mem _ (List.mem_cons_of_mem _ (List.mem_cons_of_mem _ (List.mem_cons_self))))))
  have D_witness : Df K "witness" s_witness := df_of d (by unfold fnL; exact List.mem_cons_of_mem _ (List.mem_cons_of_mem _ (List.mem_cons_of_mem _ (List.mem_cons_of_mem _ (List.mem_cons_of_mem _ (List.mem_cons_of_mem _ (List.mem_cons_self)))))))
  have g_witness := gd (x := "witness") (st := s_witness) (by unfold fnL; exact List.mem_cons_of_mem _ (List.mem_cons_of_mem _ (List.mem_cons_of_mem _ (List.mem_cons_of_mem _ (List.mem_cons_of_mem _ (List.mem_cons_of_mem _ (List.mem_cons_self)))))))
  have D_agree : Df K "agree" s_agree := df_of d (by unfold fnL; exact List.mem_cons_of_mem _ (List.mem_cons_of_mem _ (List.mem_cons_of_mem _ (List.mem_cons_of_mem _ (List.mem_cons_of_mem _ (List.mem_cons_of_mem _ (List.mem_cons_of_mem _ (List.mem_cons_self))))))))
  have g_agree := gd (x := "agree") (st := s_agree) (by unfold fnL; exact List.mem_cons_of_mem _ (List.mem_cons_of_mem _ (List.mem_cons_of_mem _ (List.mem_cons_of_mem _ (List.mem_cons_of_mem _ (List.mem_cons_of_mem _ (List.mem_cons_of_mem _ (List.mem_cons_self))))))))
  have D_both : Df K "both" s_both := df_of d (by unfold fnL; exact List.mem_cons_of_mem _ (List.mem_cons_of_mem _ (List.mem_cons_of_mem _ (List.mem_cons_of_mem _ (List.mem_cons_of_mem _ (List.mem_cons_of_mem _ (List.mem_cons_of_mem _ (List.mem_cons_of_mem _ (List.mem_cons_self)))))))))
  have g_both := gd (x := "both") (st := s_both) (by unfold fnL; exact List.mem_cons_of_mem _ (List.mem_cons_of_mem _ (List.mem_cons_of_mem _ (List.mem_cons_of_mem _ (List.mem_cons_of_mem _ (List.mem_cons_of_mem _ (List.mem_cons_of_mem _ (List.mem_cons_of_mem _ (List.mem_cons_self)))))))))
  have D__law_mixed : Df K "_law_mixed" s__law_mixed := df_of d (by unfold fnL; exact List.mem_cons_of_mem _ (List.mem_cons_of_mem _ (List.mem_cons_of_mem _ (List.mem_cons_of_mem _ (List.mem_cons_of_mem _ (List.mem_cons_of_mem _ (List.mem_cons_of_mem _ (List.mem_cons_of_mem _ (List.mem_cons_of_mem _ (List.mem_cons_self))))))))))
  have g__law_mixed := gd (x := "_law_mixed") (st := s__law_mixed) (by unfold fnL; exact List.mem_cons_of_mem _ (List.mem_cons_of_mem _ (List.mem_cons_of_mem _ (List.mem_cons_of_mem _ (List.mem_cons_of_mem _ (List.mem_cons_of_mem _ (List.mem_cons_of_mem _ (List.mem_cons_of_mem _ (List.mem_cons_of_mem _ (List.mem_cons_self))))))))))
  have D__law_whole : Df K "_law_whole" s__law_whole := df_of d (by unfold fnL; exact List.mem_cons_of_mem _ (List.mem_cons_of_mem _ (List.mem_cons_of_mem _ (List.mem_cons_of_mem _ (List.mem_cons_of_mem _ (List.mem_cons_of_mem _ (List.mem_cons_of_mem _ (List.mem_cons_of_mem _ (List.mem_cons_of_mem _ (List.mem_cons_of_mem _ (List.mem_cons_self)))))))))))
  have g__law_whole := gd (x := "_law_whole") (st := s__law_whole) (by unfold fnL; exact List.mem_cons_of_mem _ (List.mem_cons_of_mem _ (List.mem_cons_of_mem _ (List.mem_cons_of_mem _ (List.mem_cons_of_mem _ (List.mem_cons_of_mem _ (List.mem_cons_of_mem _ (List.mem_cons_of_mem _ (List.mem_cons_of_mem _ (List.mem_cons_of_mem _ (List.mem_cons_self)))))))))))
  have D__law_wide : Df K "_law_wide" s__law_wide := df_of d (by unfold fnL; exact List.mem_cons_of_mem _ (List.mem_cons_of_mem _ (List.mem_cons_of_mem _ (List.mem_cons_of_mem _ (List.mem_cons_of_mem _ (List.mem_cons_of_mem _ (List.mem_cons_of_mem _ (List.mem_cons_of_mem _ (List.mem_cons_of_mem _ (List.mem_cons_of_mem _ (List.mem_cons_of_mem _ (List.mem_cons_self))))))))))))
  have g__law_wide := gd (x := "_law_wide") (st := s__law_wide) (by unfold fnL; exact List.mem_cons_of_mem _ (List.mem_cons_of_mem _ (List.mem_cons_of_mem _ (List.mem_cons_of_mem _ (List.mem_cons_of_mem _ (List.mem_cons_of_mem _ (List.mem_cons_of_mem _ (List.mem_cons_of_mem _ (List.mem_cons_of_mem _ (List.mem_cons_of_mem _ (List.mem_cons_of_mem _ (List.mem_cons_self))))))))))))
  have D__law_hours : Df K "_law_hours" s__law_hours := df_of d (by unfold fnL; exact List.mem_cons_of_mem _ (List.mem_cons_of_mem _ (List.mem_cons_of_mem _ (List.mem_cons_of_mem _ (List.mem_cons_of_mem _ (List.mem_cons_of_mem _ (List.mem_cons_of_mem _ (List.mem_cons_of_mem _ (List.mem_cons_of_mem _ (List.mem_cons_of_mem _ (List.mem_cons_of_mem _ (List.mem_cons_of_mem _ (List.mem_cons_self)))))))))))))
  have g__law_hours := gd (x := "_law_hours") (st := s__law_hours) (by unfold fnL; exact List.mem_cons_of_mem _ (List.mem_cons_of_mem _ (List.mem_cons_of_mem _ (List.mem_cons_of_mem _ (List.mem_cons_of_mem _ (List.mem_cons_of_mem _ (List.mem_cons_of_mem _ (List.mem_cons_of_mem _ (List.mem_cons_of_mem _ (List.mem_cons_of_mem _ (List.mem_cons_of_mem _ (List.mem_cons_of_mem _ (List.mem_cons_self)))))))))))))
  have D__law_turn : Df K "_law_turn" s__law_turn := df_of d (by unfold fnL; exact List.mem_cons_of_mem _ (List.mem_cons_of_mem _ (List.mem_cons_of_mem _ (List.mem_cons_of_mem _ (List.mem_cons_of_mem _ (List.mem_cons_of_mem _ (List.mem_cons_of_mem _ (List.mem_cons_of_mem _ (List.mem_cons_of_mem _ (List.mem_cons_of_mem _ (List.mem_cons_of_mem _ (List.mem_cons_of_mem _ (List.mem_cons_of_mem _ (List.mem_cons_self))))))))))))))
  have g__law_turn := gd (x := "_law_turn") (st := s__law_turn) (by unfold fnL; exact List.mem_cons_of_mem _ (List.mem_cons_of_mem _ (List.mem_cons_of_mem _ (List.mem_cons_of_mem _ (List.mem_cons_of_mem _ (List.mem_cons_of_mem _ (List.mem_cons_of_mem _ (List.mem_cons_of_mem _ (List.mem_cons_of_mem _ (List.mem_cons_of_mem _ (List.mem_cons_of_mem _ (List.mem_cons_of_mem _ (List.mem_cons_of_mem _ (List.mem_cons_self))))))))))))))
  have D__law_common : Df K "_law_common" s__law_common := df_of d (by unfold fnL; exact List.mem_cons_of_mem _ (List.mem_cons_of_mem _ (List.mem_cons_of_mem _ (List.mem_cons_of_mem _ (List.mem_cons_of_mem _ (List.mem_cons_of_mem _ (List.mem_cons_of_mem _ (List.mem_cons_of_mem _ (List.mem_cons_of_mem _ (List.mem_cons_of_mem _ (List.mem_cons_of_mem _ (List.mem_cons_of_mem _ (List.mem_cons_of_mem _ (List.mem_cons_of_mem _ (List.mem_cons_self)))))))))))))))
  have g__law_common := gd (x := "_law_common") (st := s__law_common) (by unfold fnL; exact List.mem_cons_of_mem _ (List.mem_cons_of_mem _ (List.mem_cons_of_mem _ (List.mem_cons_of_mem _ (List.mem_cons_of_mem _ (List.mem_cons_of_mem _ (List.mem_cons_of_mem _ (List.mem_cons_of_mem _ (List.mem_cons_of_mem _ (List.mem_cons_of_mem _ (List.mem_cons_of_mem _ (List.mem_cons_of_mem _ (List.mem_cons_of_mem _ (List.mem_cons_of_mem _ (List.mem_cons_self)))))))))))))))
  have D__law_clock : Df K "_law_clock" s__law_clock := df_of d (by unfold fnL; exact List.mem_cons_of_mem _ (List.mem_cons_of_mem _ (List.mem_cons_of_mem _ (List.mem_cons_of_mem _ (List.mem_cons_of_mem _ (List.mem_cons_of_mem _ (List.mem_cons_of_mem _ (List.mem_cons_of_mem _ (List.mem_cons_of_mem _ (List.mem_cons_of_mem _ (List.mem_cons_of_mem _ (List.mem_cons_of_mem _ (List.mem_cons_of_mem _ (List.mem_cons_of_mem _ (List.mem_cons_of_mem _ (List.mem_cons_self))))))))))))))))
  have g__law_clock := gd (x := "_law_clock") (st := s__law_clock) (by unfold fnL; exact List.mem_cons_of_mem _ (List.mem_cons_of_mem _ (List.mem_cons_of_mem _ (List.mem_cons_of_mem _ (List.mem_cons_of_mem _ (List.mem_cons_of_mem _ (List.mem_cons_of_mem _ (List.mem_cons_of_mem _ (List.mem_cons_of_mem _ (List.mem_cons_of_mem _ (List.mem_cons_of_mem _ (List.mem_cons_of_mem _ (List.mem_cons_of_mem _ (List.mem_cons_of_mem _ (List.mem_cons_of_mem _ (List.mem_cons_self))))))))))))))))
  have D__law_meant : Df K "_law_meant" s__law_meant := df_of d (by unfold fnL; exact List.mem_cons_of_mem _ (List.mem_cons_of_mem _ (List.mem_cons_of_mem _ (List.mem_cons_of_mem _ (List.mem_cons_of_mem _ (List.mem_cons_of_mem _ (List.mem_cons_of_mem _ (List.mem_cons_of_mem _ (List.mem_cons_of_mem _ (List.mem_cons_of_mem _ (List.mem_cons_of_mem _ (List.mem_cons_of_mem _ (List.mem_cons_of_mem _ (List.mem_cons_of_mem _ (List.mem_cons_of_mem _ (List.mem_cons_of_mem _ (List.mem_cons_self)))))))))))))))))
  have g__law_meant := gd (x := "_law_meant") (st := s__law_meant) (by unfold fnL; exact List.mem_cons_of_mem _ (List.mem_cons_of_mem _ (List.mem_cons_of_mem _ (List.mem_cons_of_mem _ (List.mem_cons_of_mem _ (List.mem_cons_of_mem _ (List.mem_cons_of_mem _ (List.mem_cons_of_mem _ (List.mem_cons_of_mem _ (List.mem_cons_of_mem _ (List.mem_cons_of_mem _ (List.mem_cons_of_mem _ (List.mem_cons_of_mem _ (List.mem_cons_of_mem _ (List.mem_cons_of_mem _ (List.mem_cons_of_mem _ (List.mem_cons_self)))))))))))))))))
  have D__law_kept : Df K "_law_kept" s__law_kept := df_of d (by unfold fnL; exact List.mem_cons_of_mem _ (List.mem_cons_of_mem _ (List.mem_cons_of_mem _ (List.mem_cons_of_mem _ (List.mem_cons_of_mem _ (List.mem_cons_of_mem _ (List.mem_cons_of_mem _ (List.mem_cons_of_mem _ (List.mem_cons_of_mem _ (List.mem_cons_of_mem _ (List.mem_cons_of_mem _ (List.mem_cons_of_mem _ (List.mem_cons_of_mem _ (List.mem_cons_of_mem _ (List.mem_cons_of_mem _ (List.mem_cons_of_mem _ (List.mem_cons_of_mem _ (List.mem_cons_self))))))))))))))))))
  have g__law_kept := gd (x := "_law_kept") (st := s__law_kept) (by unfold fnL; exact List.mem_cons_of_mem _ (List.mem_cons_of_mem _ (List.mem_cons_of_mem _ (List.mem_cons_of_mem _ (List.mem_cons_of_mem _ (List.mem_cons_of_mem _ (List.mem_cons_of_mem _ (List.mem_cons_of_mem _ (List.mem_cons_of_mem _ (List.mem_cons_of_mem _ (List.mem_cons_of_mem _ (List.mem_cons_of_mem _ (List.mem_cons_of_mem _ (List.mem_cons_of_mem _ (List.mem_cons_of_mem _ (List.mem_cons_of_mem _ (List.mem_cons_of_mem _ (List.mem_cons_self))))))))))))))))))
  have D__law_word : Df K "_law_word" s__law_word := df_of d (by unfold fnL; exact List.mem_cons_of_mem _ (List.mem_cons_of_mem _ (List.mem_cons_of_mem _ (List.mem_cons_of_mem _ (List.mem_cons_of_mem _ (List.mem_cons_of_mem _ (List.mem_cons_of_mem _ (List.mem_cons_of_mem _ (List.mem_cons_of_mem _ (List.mem_cons_of_mem _ (List.mem_cons_of_mem _ (List.mem_cons_of_mem _ (List.mem_cons_of_mem _ (List.mem_cons_of_mem _ (List.mem_cons_of_mem _ (List.mem_cons_of_mem _ (List.mem_cons_of_mem _ (List.mem_cons_of_mem _ (List.mem_cons_self)))))))))))))))))))
  have g__law_word := gd (x := "_law_word") (st := s__law_word) (by unfold fnL; exact List.mem_cons_of_mem _ (List.mem_cons_of_mem _ (List.mem_cons_of_mem _ (List.mem_cons_of_mem _ (List.mem_cons_of_mem _ (List.mem_cons_of_mem _ (List.mem_cons_of_mem _ (List.mem_cons_of_mem _ (List.mem_cons_of_mem _ (List.mem_cons_of_mem _ (List.mem_cons_of_mem _ (List.mem_cons_of_mem _ (List.mem_cons_of_mem _ (List.mem_cons_of_mem _ (List.mem_cons_of_mem _ (List.mem_cons_of_mem _ (List.mem_cons_of_mem _ (List.mem_cons_of_mem _ (List.mem_cons_self)))))))))))))))))))
  have D__law_right : Df K "_law_right" s__law_right := df_of d (by unfold fnL; exact List.mem_cons_of_mem _ (List.mem_cons_of_mem _ (List.mem_cons_of_mem _ (List.mem_cons_of_mem _ (List.mem_cons_of_mem _ (List.mem_cons_of_mem _ (List.mem_cons_of_mem _ (List.mem_cons_of_mem _ (List.mem_cons_of_mem _ (List.mem_cons_of_mem _ (List.mem_cons_of_mem _ (List.mem_cons_of_mem _ (List.mem_cons_of_mem _ (List.mem_cons_of_mem _ (List.mem_cons_of_mem _ (List.mem_cons_of_mem _ (List.mem_cons_of_mem _ (List.mem_cons_of_mem _ (List.mem_cons_of_mem _ (List.mem_cons_self))))))))))))))))))))
  have g__law_right := gd (x := "_law_right") (st := s__law_right) (by unfold fnL; exact List.mem_cons_of_mem _ (List.mem_cons_of_mem _ (List.mem_cons_of_mem _ (List.mem_cons_of_mem _ (List.mem_cons_of_mem _ (List.mem_cons_of_mem _ (List.mem_cons_of_mem _ (List.mem_cons_of_mem _ (List.mem_cons_of_mem _ (List.mem_cons_of_mem _ (List.mem_cons_of_mem _ (List.mem_cons_of_mem _ (List.mem_cons_of_mem _ (List.mem_cons_of_mem _ (List.mem_cons_of_mem _ (List.mem_cons_of_mem _ (List.mem_cons_of_mem _ (List.mem_cons_of_mem _ (List.mem_cons_of_mem _ (List.mem_cons_self))))))))))))))))))))
  have D__law_pair : Df K "_law_pair" s__law_pair := df_of d (by unfold fnL; exact List.mem_cons_of_mem _ (List.mem_cons_of_mem _ (List.mem_cons_of_mem _ (List.mem_cons_of_mem _ (List.mem_cons_of_mem _ (List.mem_cons_of_mem _ (List.mem_cons_of_mem _ (List.mem_cons_of_mem _ (List.mem_cons_of_mem _ (List.mem_cons_of_mem _ (List.mem_cons_of_mem _ (List.mem_cons_of_mem _ (List.mem_cons_of_mem _ (List.mem_cons_of_mem _ (List.mem_cons_of_mem _ (List.mem_cons_of_mem _ (List.mem_cons_of_mem _ (List.mem_cons_of_mem _ (List.mem_cons_of_mem _ (List.mem_cons_of_mem _ (List.mem_cons_self)))))))))))))))))))))
  have g__law_pair := gd (x := "_law_pair") (st := s__law_pair) (by unfold fnL; exact List.mem_cons_of_mem _ (List.mem_cons_of_mem _ (List.mem_cons_of_mem _ (List.mem_cons_of_mem _ (List.mem_cons_of_mem _ (List.mem_cons_of_mem _ (List.mem_cons_of_mem _ (List.mem_cons_of_mem _ (List.mem_cons_of_mem _ (List.mem_cons_of_mem _ (List.mem_cons_of_mem _ (List.mem_cons_of_mem _ (List.mem_cons_of_mem _ (List.mem_cons_of_mem _ (List.mem_cons_of_mem _ (List.mem_cons_of_mem _ (List.mem_cons_of_mem _ (List.mem_cons_of_mem _ (List.mem_cons_of_mem _ (List.mem_cons_of_mem _ (List.mem_cons_self)))))))))))))))))))))
  have D_law : Df K "law" s_law := df_of d (by unfold fnL; exact List.mem_cons_of_mem _ (List.mem_cons_of_mem _ (List.mem_cons_of_mem _ (List.mem_cons_of_mem _ (List.mem_cons_of_mem _ (List.mem_cons_of_mem _ (List.mem_cons_of_mem _ (List.mem_cons_of_mem _ (List.mem_cons_of_mem _ (List.mem_cons_of_mem _ (List.mem_cons_of_mem _ (List.mem_cons_of_mem _ (List.mem_cons_of_mem _ (List.mem_cons_of_mem _ (List.mem_cons_of_mem _ (List.mem_cons_of_mem _ (List.mem_cons_of_mem _ (List.mem_cons_of_mem _ (List.mem_cons_of_mem _ (List.mem_cons_of_mem _ (List.mem_cons_of_mem _ (List.mem_cons_self))))))))))))))))))))))
  have g_law := gd (x := "law") (st := s_law) (by unfold fnL; exact List.mem_cons_of_mem _ (List.mem_cons_of_mem _ (List.mem_cons_of_mem _ (List.mem_cons_of_mem _ (List.mem_cons_of_mem _ (List.mem_cons_of_mem _ (List.mem_cons_of_mem _ (List.mem_cons_of_mem _ (List.mem_cons_of_mem _ (List.mem_cons_of_mem _ (List.mem_cons_of_mem _ (List.mem_cons_of_mem _ (List.mem_cons_of_mem _ (List.mem_cons_of_mem _ (List.mem_cons_of_mem _ (List.mem_cons_of_mem _ (List.mem_cons_of_mem _ (List.mem_cons_of_mem _ (List.mem_cons_of_mem _ (List.mem_cons_of_mem _ (List.mem_cons_of_mem _ (List.mem_cons_self))))))))))))))))))))))
  obtain rfl : f = He.ga K "law" := by
    have e := hfa.symm.trans g_law
    injection e with e
    injection e
  obtain ⟨fd, hfd⟩ := D_law.ex
  refine ⟨fd, [(cdO K "law", tbO K "law")], spLaw K, fun p hp => ?_, fun p hp => ?_, fun p hp => ?_, fun s u => FunD.bindsA (ps := ["_law_script"]) hfd (fun _ _ _ _ _ _ us hl => match us, hl with | [_], _ => rfl) s [u] rfl, fun H a ns hl _ hT hS => ⟨a, ns, rfl, hS, hl, fun p hp => ?_, fun _ => rfl⟩, fun base KX Gb TB => ?_⟩
  · rw [List.mem_singleton.mp hp]
    exact c.empty _ List.mem_cons_self
  · rw [List.mem_singleton.mp hp]
    exact c.out _ List.mem_cons_self
  · rw [List.mem_singleton.mp hp]
    exact PySem.W.codeHd_of_K X (c.hd _ List.mem_cons_self)
  · rw [List.mem_singleton.mp hp]
    exact .nil (hT (cdO K "law", tbO K "law") List.mem_cons_self)
  · have TBl := TB (cdO K "law", tbO K "law") List.mem_cons_self
    have wh : Has _ w K mg base CX0 _ _ _ _ := h_is_whole (P := PySem.Challenge.pw_restfold_k03_two_clocks) B D_is_whole g_is_whole
    have ic := h_is_clock B wh (He.int_ok X G (d.facts (f := .int "MOST_HOURS" (10 ^ 30)) (by unfold fa; simp))) D_is_clock g_is_clock
    have nc := h_need_clock ic (E.p _ (by decide +kernel)) D_need_clock g_need_clock
    have sd : Has _ w K mg base CX0 _ _ _ _ := h_shared (P := PySem.Challenge.pw_restfold_k03_two_clocks) D_shared g_shared
    have f2 := h_fold_two sd D_fold_two g_fold_two
    have nb := h_need_both nc D_need_both g_need_both
    have wn := h_witness sd nb D_witness g_witness
    have ag := h_agree wn D_agree g_agree
    have bo := h_both nb f2 D_both g_both
    have mx : Has _ w K mg base CX0 _ _ _ _ := h_mixed (P := PySem.Challenge.pw_restfold_k03_two_clocks) D__law_mixed g__law_mixed
    have lw : Has _ w K mg base CX0 _ _ _ _ := h_whole (P := PySem.Challenge.pw_restfold_k03_two_clocks) B D__law_whole g__law_whole
    have wi := h_wide mx D__law_wide g__law_wide
    have ho := h_hours mx wi D__law_hours g__law_hours
    have tu := h_turn mx wi D__law_turn g__law_turn
    have cl := h_clock mx wi ho D__law_clock g__law_clock
    have wo : Has _ w K mg base CX0 _ _ _ _ := h_word (P := PySem.Challenge.pw_restfold_k03_two_clocks) B E.x E.no E.nr D__law_word g__law_word
    have cm : Has _ w K mg base CX0 _ _ _ _ := h_common (P := PySem.Challenge.pw_restfold_k03_two_clocks) D__law_common g__law_common
    have me := h_meant mx wi ho D__law_meant g__law_meant
    have ri := h_right B cm lw wn ag bo D__law_right g__law_right
    have pr := h_pair mx tu me cl D__law_pair g__law_pair
    have la := h_law B mx pr ri wn ag bo wo (E.x _ (by decide +kernel)) (gx _ List.mem_cons_self) (E.x _ (by decide +kernel)).fe D__law_kept g__law_kept TBl D_law g_law
    exact la.at_ hfd
end Rf
open PySem PySem.W PySem.Calls PyProof.Rows
theorem PySem.Challenge.cw_restfold_k03_two_clocks_holds : PySem.Challenge.rw_restfold_k03_two_clocks.Holds := by
  w_on; o_law
  refine HandSHeadRun.head_any (r := OpenLaw.row PySem.Challenge.rw_restfold_k03_two_clocks) (q := view (OpenLaw.row PySem.Challenge.rw_restfold_k03_two_clocks).prog [33]) (H := Rf.hk) (ob := Rf.ob) (M := 4000) (loose := ["FoldError", "BadClock", "BadTurn", "NoClock", "TooMany", "BadWall", "Never", "BadText", "MOST_HOURS", "is_whole", "is_clock", "need_clock", "shared", "fold_two", "need_both", "witness", "agree", "both", "_law_mixed", "_law_whole", "_law_wide", "_law_hours", "_law_turn", "_law_common", "_law_clock", "_law_meant", "_law_kept", "_law_word", "_law_right", "_law_pair"]) (d := HandSHeadRun.topDef (OpenLaw.row PySem.Challenge.rw_restfold_k03_two_clocks).prog 33) (kwd := []) Rf.ob_eq
    (by kernel_rfl) (fun s => by kernel_rfl) Rf.run (by kernel_rfl) (by kernel_rfl) (by kernel_rfl) (by rfl) (by first | assumption | decide +kernel) (by decide +kernel) ⟨rfl, rfl, rfl, rfl, rfl, by decide +kernel⟩ ?hw ?hc
  case hw => w_witness2
  case hc =>
    refine LamX.walk_ofTsE (l := PySem.Challenge.rw_restfold_k03_two_clocks) (n := 63) (k := 10) (x := "_law_script") (CX := fun _ => L2.CX0) rfl (by decide) (by kernel_rfl) ⟨rfl, by decide, by decide⟩ ?F (fun _ _ _ _ _ z => z)
    intro w mg fa h Y G hmg0
    obtain ⟨K, KX, c⟩ := Y
    have hmg : mg ("law" : PySem.Str) = some (.ref fa) := by
      have e : (HandSHeadRun.topDef (OpenLaw.row PySem.Challenge.rw_restfold_k03_two_clocks).prog 33).name = ("law" : PySem.Str) := by kernel_rfl
      rw [← e]
      exact hmg0
    exact ⟨K, KX, Rf.facts KX G hmg c⟩
