import PyProof.Rows.All
import Wide.All
import OpenK.AllK
import Wide.FinOn
import KE.KStateDown
import HandS.ForMost
import HandS.ForExc
import HandS.ExcIs
import KE.KExcIs
import HandS.ExcInit
import HandS.ExcField
import HandS.IsInst
import HandS.TupLe
import HandS.TupAny
import HandS.Wide
import HandS.Lambda
import HandS.EndTab
import HandS.Head0
import HandS.Head1
import HandS.Head2
import HandS.HeadEnd
import HandS.HeadHook1
import HandS.HeadHook2
import HandS.HeadHook3
import HandS.HeadHook4
import HandS.HeadWalk
import Lean
import HandS.Walk
import HandS.CallLocal
import HandS.SortRule
import HandS.ListItems
import HandS.More
import HandS.Dict
import HandS.Zip
import HandS.WordsDict
import PySem.Challenge.RW_restfold_k04_walls_kept

set_option autoImplicit false
namespace Rf

/-! ### gcd over lcm -/
theorem nat_gcd_lcm (c a b : Nat) (ha : 0 < a) (hb : 0 < b) : Nat.gcd (Nat.lcm a b) c ∣ Nat.lcm (Nat.gcd a c) (Nat.gcd b c) := by
  have hl : 0 < Nat.lcm a b := Nat.lcm_pos ha hb
  obtain ⟨d, hd⟩ : ∃ d, d = Nat.gcd (Nat.lcm a b) c := ⟨_, rfl⟩
  rw [← hd]
  have d1 : d ∣ Nat.lcm a b := hd ▸ Nat.gcd_dvd_left _ _
  have d2 : d ∣ c := hd ▸ Nat.gcd_dvd_right _ _
  have d0 : 0 < d := by rw [hd]; exact Nat.gcd_pos_of_pos_left _ hl
  obtain ⟨u, hu⟩ : ∃ u, u = Nat.gcd d a := ⟨_, rfl⟩
  obtain ⟨v, hv⟩ : ∃ v, v = Nat.gcd d b := ⟨_, rfl⟩
  obtain ⟨g, hg⟩ : ∃ g, g = Nat.gcd a b := ⟨_, rfl⟩
  have ud : u ∣ d := hu ▸ Nat.gcd_dvd_left _ _
  have ua : u ∣ a := hu ▸ Nat.gcd_dvd_right _ _
  have vd : v ∣ d := hv ▸ Nat.gcd_dvd_left _ _
  have vb : v ∣ b := hv ▸ Nat.gcd_dvd_right _ _
  have e0 : 0 < Nat.gcd d g := Nat.gcd_pos_of_pos_left _ d0
  have eguv : Nat.gcd u v ∣ Nat.gcd d g := by
    refine Nat.dvd_gcd (Nat.dvd_trans (Nat.gcd_dvd_left _ _) ud) ?_
    rw [hg]
    exact Nat.dvd_gcd (Nat.dvd_trans (Nat.gcd_dvd_left _ _) ua) (Nat.dvd_trans (Nat.gcd_dvd_right _ _) vb)
  have gl : g * Nat.lcm a b = a * b := by rw [hg]; exact Nat.gcd_mul_lcm a b
  have D : d * Nat.gcd d g ∣ u * v := by
    have q : u * v = Nat.gcd (d * v) (a * v) := by rw [hu, Nat.gcd_mul_right]
    rw [q]
    refine Nat.dvd_gcd ?_ ?_
    · rw [hv, ← Nat.gcd_mul_left, ← Nat.gcd_mul_left]
      refine Nat.dvd_gcd (Nat.gcd_dvd_left _ _) (Nat.dvd_trans (Nat.gcd_dvd_right _ _) (Nat.mul_dvd_mul_left d ?_))
      rw [hg]; exact Nat.gcd_dvd_right _ _
    · rw [hv, ← Nat.gcd_mul_left, ← Nat.gcd_mul_left]
      refine Nat.dvd_gcd (Nat.dvd_trans (Nat.gcd_dvd_right _ _) ?_) (Nat.dvd_trans (Nat.gcd_dvd_right _ _) ?_)
      · rw [Nat.mul_comm a d]
        exact Nat.mul_dvd_mul_left d (by rw [hg]; exact Nat.gcd_dvd_left _ _)
      · rw [← gl, Nat.mul_comm d g]
        exact Nat.mul_dvd_mul_left g d1
  have k : d ∣ Nat.lcm u v := by
    have q : u * v = Nat.gcd u v * Nat.lcm u v := (Nat.gcd_mul_lcm u v).symm
    rw [q] at D
    have D2 : d * Nat.gcd d g ∣ Nat.lcm u v * Nat.gcd d g := by
      refine Nat.dvd_trans D ?_
      rw [Nat.mul_comm]
      exact Nat.mul_dvd_mul_left _ eguv
    exact Nat.dvd_of_mul_dvd_mul_right e0 D2
  refine Nat.dvd_trans k (Nat.lcm_dvd ?_ ?_)
  · exact Nat.dvd_trans (Nat.dvd_gcd ua (Nat.dvd_trans ud d2)) (Nat.dvd_lcm_left _ _)
  · exact Nat.dvd_trans (Nat.dvd_gcd vb (Nat.dvd_trans vd d2)) (Nat.dvd_lcm_right _ _)

theorem gcd_lcm_dvd {a b c z : Int} (ha : 0 < a) (hb : 0 < b) (h1 : (Int.gcd a c : Int) ∣ z) (h2 : (Int.gcd b c : Int) ∣ z) : (Int.gcd (Int.lcm a b : Int) c : Int) ∣ z := by
  have h := nat_gcd_lcm c.natAbs a.natAbs b.natAbs (by omega) (by omega)
  have e : Int.gcd (Int.lcm a b : Int) c = Nat.gcd (Nat.lcm a.natAbs b.natAbs) c.natAbs := rfl
  rw [e]
  have q : (Nat.lcm (Nat.gcd a.natAbs c.natAbs) (Nat.gcd b.natAbs c.natAbs) : Int) ∣ z := by
    have h1' : (Nat.gcd a.natAbs c.natAbs) ∣ z.natAbs := Int.ofNat_dvd_left.mp h1
    have h2' : (Nat.gcd b.natAbs c.natAbs) ∣ z.natAbs := Int.ofNat_dvd_left.mp h2
    exact Int.ofNat_dvd_left.mpr (Nat.lcm_dvd h1' h2')
  exact Int.dvd_trans (Int.natCast_dvd_natCast.mpr h) q

/-! ### Euclid -/
theorem gcd_step (a b : Int) : Int.gcd b (a % b) = Int.gcd a b := by
  refine Nat.dvd_antisymm ?_ ?_
  · refine Int.dvd_gcd ?_ (Int.gcd_dvd_left _ _)
    have h1 : (Int.gcd b (a % b) : Int) ∣ b := Int.gcd_dvd_left _ _
    have h2 : (Int.gcd b (a % b) : Int) ∣ a % b := Int.gcd_dvd_right _ _
    have e : a = b * (a / b) + a % b := (Int.mul_ediv_add_emod a b).symm
    rw [e]
    have h3 : (Int.gcd b (a % b) : Int) ∣ b * (a / b) := Int.dvd_trans h1 (Int.dvd_mul_right _ _)
    have h4 := Int.dvd_add h3 h2
    have e5 : (b * (a / b) + a % b) = a := e.symm
    rw [e5] at h4 ⊢
    exact h4
  · refine Int.dvd_gcd (Int.gcd_dvd_right _ _) ?_
    have h1 : (Int.gcd a b : Int) ∣ a := Int.gcd_dvd_left _ _
    have h2 : (Int.gcd a b : Int) ∣ b := Int.gcd_dvd_right _ _
    rw [Int.emod_def]
    exact Int.dvd_sub h1 (Int.dvd_trans h2 (Int.dvd_mul_right _ _))

/-- what holds at each turn of the extended Euclid's loop: a0, b0 as handed in -/
structure Eu (a0 b0 one other times more : Int) : Prop where
  o1 : 0 < one
  o2 : 0 ≤ other
  g : Int.gcd one other = Int.gcd a0 b0
  d1 : b0 ∣ one - times * a0
  d2 : b0 ∣ other - more * a0
  s : one * (more.natAbs : Int) + other * (times.natAbs : Int) = b0
  t : (times.natAbs : Int) ≤ b0
  sg : (0 ≤ times ∧ more ≤ 0) ∨ (times ≤ 0 ∧ 0 ≤ more)
  le : one ≤ a0 ∨ one ≤ b0
  ob : other ≤ b0
theorem Eu.start {a b : Int} (ha : 0 < a) (hb : 0 < b) : Eu a b a b 1 0 := by
  refine ⟨ha, by omega, rfl, ?_, ?_, ?_, ?_, .inl ⟨by decide, by decide⟩, .inl (Int.le_refl _), Int.le_refl _⟩
  · rw [Int.one_mul, Int.sub_self]; exact Int.dvd_zero _
  · rw [Int.zero_mul, Int.sub_zero]; exact Int.dvd_refl _
  · show a * ((0 : Int).natAbs : Int) + b * ((1 : Int).natAbs : Int) = b
    simp
  · show ((1 : Int).natAbs : Int) ≤ b
    simp; omega
theorem Eu.step {a0 b0 one other times more : Int} (E : Eu a0 b0 one other times more) (h : 0 < other) (hb : 0 < b0) :
    Eu a0 b0 other (one - one / other * other) more (times - one / other * more) := by
  obtain ⟨o1, o2, g, d1, d2, s, t, sg, le, ob⟩ := E
  have er : one - one / other * other = one % other := by rw [Int.emod_def, Int.mul_comm]
  have q0 : 0 ≤ one / other := Int.ediv_nonneg (by omega) (by omega)
  have hm : (more.natAbs : Int) ≤ b0 := by
    have h1 : (more.natAbs : Int) ≤ one * (more.natAbs : Int) := by
      have := Int.mul_le_mul_of_nonneg_right (show (1 : Int) ≤ one by omega) (show (0 : Int) ≤ (more.natAbs : Int) by omega)
      rw [Int.one_mul] at this
      exact this
    have h2 : 0 ≤ other * (times.natAbs : Int) := Int.mul_nonneg o2 (by omega)
    omega
  have hn : ((times - one / other * more).natAbs : Int) = (times.natAbs : Int) + one / other * (more.natAbs : Int) := by
    rcases sg with ⟨h1, h2⟩ | ⟨h1, h2⟩
    · have e1 : (more.natAbs : Int) = -more := by omega
      have e2 : (times.natAbs : Int) = times := by omega
      have e3 : 0 ≤ one / other * (-more) := Int.mul_nonneg q0 (by omega)
      rw [e1, e2, Int.mul_neg] 
      rw [Int.mul_neg] at e3
      omega
    · have e1 : (more.natAbs : Int) = more := by omega
      have e2 : (times.natAbs : Int) = -times := by omega
      have e3 : 0 ≤ one / other * more := Int.mul_nonneg q0 h2
      rw [e1, e2]
      omega
  refine ⟨h, ?_, ?_, d2, ?_, ?_, hm, ?_, .inr ob, ?_⟩
  · rw [er]; exact Int.emod_nonneg _ (by omega)
  · rw [er, gcd_step]; exact g
  · have e : one - one / other * other - (times - one / other * more) * a0 = (one - times * a0) - one / other * (other - more * a0) := by
      rw [Int.sub_mul, Int.mul_sub, Int.mul_assoc]; omega
    rw [e]
    exact Int.dvd_sub d1 (Int.dvd_trans d2 (Int.dvd_mul_left _ _))
  · rw [hn, Int.mul_add, Int.sub_mul]
    have e1 : other * (one / other * (more.natAbs : Int)) = one / other * other * (more.natAbs : Int) := by
      rw [← Int.mul_assoc, Int.mul_comm other]
    rw [e1]
    omega
  · rcases sg with ⟨h1, h2⟩ | ⟨h1, h2⟩
    · right
      refine ⟨h2, ?_⟩
      have e3 : 0 ≤ one / other * (-more) := Int.mul_nonneg q0 (by omega)
      rw [Int.mul_neg] at e3
      omega
    · left
      refine ⟨h2, ?_⟩
      have e3 : 0 ≤ one / other * more := Int.mul_nonneg q0 h2
      omega
  · rw [er]
    have := Int.emod_lt_of_pos one h
    omega
end Rf

namespace Rf
/-- the greatest number that goes into both -/
abbrev gI (a b : Int) : Int := (Int.gcd a b : Int)
theorem gI_pos {a : Int} (b : Int) (h : 0 < a) : 0 < gI a b := by
  have := Int.gcd_pos_of_ne_zero_left b (show a ≠ 0 by omega)
  show (0 : Int) < (Int.gcd a b : Int)
  omega
theorem gI_comm (a b : Int) : gI a b = gI b a := by show (Int.gcd a b : Int) = Int.gcd b a; rw [Int.gcd_comm]
theorem gI_le {a b : Int} (h : 0 < b) : gI a b ≤ b := Int.gcd_le_right a h
theorem gI_le_left {a b : Int} (h : 0 < a) : gI a b ≤ a := Int.gcd_le_left b h
/-- the least number that both go into -/
def lc (a b : Int) : Int := a * (b / gI a b)
theorem lc_eq {a b : Int} (ha : 0 < a) (_hb : 0 < b) : a / gI a b * b = lc a b := by
  have h1 : gI a b ∣ a := Int.gcd_dvd_left _ _
  have h2 : gI a b ∣ b := Int.gcd_dvd_right _ _
  have g0 := gI_pos b ha
  obtain ⟨u, hu⟩ := h1
  obtain ⟨v, hv⟩ := h2
  unfold lc
  have e1 : a / gI a b = u := by
    conv => lhs; arg 1; rw [hu]
    exact Int.mul_ediv_cancel_left _ (by omega)
  have e2 : b / gI a b = v := by
    conv => lhs; arg 1; rw [hv]
    exact Int.mul_ediv_cancel_left _ (by omega)
  rw [e1, e2]
  conv => lhs; rw [hv]
  conv => rhs; rw [hu]
  rw [← Int.mul_assoc, Int.mul_comm u]
theorem lc_lcm {a b : Int} (ha : 0 < a) (hb : 0 < b) : lc a b = (Int.lcm a b : Int) := by
  have h1 : gI a b ∣ b := Int.gcd_dvd_right _ _
  have g0 := gI_pos b ha
  have e : (Int.gcd a b : Int) * (Int.lcm a b : Int) = a * b := by
    have h := Int.gcd_mul_lcm a b
    have h2 : ((Int.gcd a b * Int.lcm a b : Nat) : Int) = ((a.natAbs * b.natAbs : Nat) : Int) := by rw [h]
    rw [Int.natCast_mul, Int.natCast_mul] at h2
    rw [h2, Int.natAbs_of_nonneg (by omega), Int.natAbs_of_nonneg (by omega)]
  obtain ⟨v, hv⟩ := h1
  have e2 : b / gI a b = v := by
    conv => lhs; arg 1; rw [hv]
    exact Int.mul_ediv_cancel_left _ (by omega)
  have e3 : gI a b * (Int.lcm a b : Int) = gI a b * (a * v) := by
    show (Int.gcd a b : Int) * _ = _
    rw [e]
    conv => lhs; rw [hv]
    rw [← Int.mul_assoc, ← Int.mul_assoc, Int.mul_comm a]
  unfold lc
  rw [e2]
  exact (Int.eq_of_mul_eq_mul_left (by omega) e3).symm
theorem lc_pos {a b : Int} (ha : 0 < a) (hb : 0 < b) : 0 < lc a b := by
  rw [lc_lcm ha hb]
  have := Int.lcm_pos (show a ≠ 0 by omega) (show b ≠ 0 by omega)
  omega
theorem lc_dvd {a b z : Int} (ha : 0 < a) (hb : 0 < b) : lc a b ∣ z ↔ a ∣ z ∧ b ∣ z := by
  rw [lc_lcm ha hb]
  exact Int.coe_lcm_dvd_iff
theorem rest_pos {a b : Int} (ha : 0 < a) (hb : 0 < b) : 0 < b / gI a b := by
  have h := lc_pos ha hb
  unfold lc at h
  exact Int.pos_of_mul_pos_right h (by omega)

theorem dvd_of_emod0 {a b : Int} (h : a % b = 0) : b ∣ a := Int.dvd_of_emod_eq_zero h
/-- two folds laid together -/
theorem fold_two_ok {A x h k t : Int} (hA : 0 < A) (hh : 0 < h) (ht : h ∣ gI A h - t * A) (hg : (k - x) % gI A h = 0) :
    A ∣ (x + A * ((k - x) / gI A h * t % (h / gI A h))) - x ∧ h ∣ (x + A * ((k - x) / gI A h * t % (h / gI A h))) - k ∧
    x ≤ x + A * ((k - x) / gI A h * t % (h / gI A h)) ∧ x + A * ((k - x) / gI A h * t % (h / gI A h)) < x + lc A h := by
  have r0 := rest_pos hA hh
  have g0 := gI_pos h hA
  obtain ⟨q, hq⟩ : ∃ q, q = (k - x) / gI A h * t % (h / gI A h) := ⟨_, rfl⟩
  have q0 : 0 ≤ q := by rw [hq]; exact Int.emod_nonneg _ (by omega)
  have q1 : q < h / gI A h := by rw [hq]; exact Int.emod_lt_of_pos _ r0
  have e1 : gI A h * ((k - x) / gI A h) = k - x := Int.mul_ediv_cancel' (Int.dvd_of_emod_eq_zero hg)
  have hlA : h ∣ A * (h / gI A h) := by
    have := (lc_dvd (z := lc A h) hA hh).mp (Int.dvd_refl _)
    exact this.2
  rw [← hq]
  refine ⟨?_, ?_, ?_, ?_⟩
  · have : x + A * q - x = A * q := by omega
    rw [this]; exact Int.dvd_mul_right _ _
  · -- A * q = A * ((k - x) / g * t) - A * rest * (..)
    have e2 : q = (k - x) / gI A h * t - h / gI A h * ((k - x) / gI A h * t / (h / gI A h)) := by rw [hq, Int.emod_def]
    have e3 : x + A * q - k = (-((k - x) / gI A h)) * (gI A h - t * A) - A * (h / gI A h) * ((k - x) / gI A h * t / (h / gI A h)) := by
      have e4 : A * q = (k - x) / gI A h * (t * A) - A * (h / gI A h) * ((k - x) / gI A h * t / (h / gI A h)) := by
        conv => lhs; rw [e2]
        rw [Int.mul_sub, ← Int.mul_assoc A (h / gI A h)]
        congr 1
        rw [Int.mul_comm A, Int.mul_assoc]
      rw [e4, Int.mul_sub, Int.neg_mul, Int.neg_mul]
      have e5 : (k - x) / gI A h * gI A h = k - x := by rw [Int.mul_comm]; exact e1
      rw [e5]
      omega
    rw [e3]
    refine Int.dvd_sub (Int.dvd_trans ht (Int.dvd_mul_left _ _)) (Int.dvd_trans hlA (Int.dvd_mul_right _ _))
  · have := Int.mul_nonneg (show 0 ≤ A by omega) q0
    omega
  · have := Int.mul_lt_mul_of_pos_left q1 hA
    unfold lc
    omega

/-! ### lists of clocks: (hours, hour) -/
structure Clk (c : Int × Int) : Prop where
  h1 : 1 ≤ c.1
  h2 : c.1 ≤ 10 ^ 30
  k1 : 0 ≤ c.2
  k2 : c.2 < c.1
def lcmL : List (Int × Int) → Int
  | [] => 1
  | c :: l => lc c.1 (lcmL l)
theorem lcmL_pos : ∀ {l : List (Int × Int)}, (∀ c ∈ l, 0 < c.1) → 0 < lcmL l
  | [], _ => by decide
  | c :: l, h => lc_pos (h c List.mem_cons_self) (lcmL_pos fun d hd => h d (List.mem_cons_of_mem _ hd))
theorem lcmL_dvd {z : Int} : ∀ {l : List (Int × Int)}, (∀ c ∈ l, 0 < c.1) → (lcmL l ∣ z ↔ ∀ c ∈ l, c.1 ∣ z)
  | [], _ => ⟨fun _ c hc => (by cases hc), fun _ => Int.one_dvd _⟩
  | c :: l, h => by
    have hl : ∀ d ∈ l, 0 < d.1 := fun d hd => h d (List.mem_cons_of_mem _ hd)
    show lc c.1 (lcmL l) ∣ z ↔ _
    rw [lc_dvd (h c List.mem_cons_self) (lcmL_pos hl), lcmL_dvd hl]
    constructor
    · rintro ⟨h1, h2⟩ d hd
      rcases List.mem_cons.mp hd with rfl | hd
      · exact h1
      · exact h2 d hd
    · intro q
      exact ⟨q c List.mem_cons_self, fun d hd => q d (List.mem_cons_of_mem _ hd)⟩
theorem lcmL_gcd {h z : Int} : ∀ {l : List (Int × Int)}, (∀ c ∈ l, 0 < c.1) → (∀ c ∈ l, gI c.1 h ∣ z) → gI (lcmL l) h ∣ z
  | [], _, _ => by
    have e : gI (lcmL []) h = 1 := by show (Int.gcd 1 h : Int) = 1; simp
    rw [e]; exact Int.one_dvd _
  | c :: l, hp, hg => by
    have hl : ∀ d ∈ l, 0 < d.1 := fun d hd => hp d (List.mem_cons_of_mem _ hd)
    have h1 := hp c List.mem_cons_self
    have e : lcmL (c :: l) = (Int.lcm c.1 (lcmL l) : Int) := lc_lcm h1 (lcmL_pos hl)
    rw [e]
    exact gcd_lcm_dvd h1 (lcmL_pos hl) (hg c List.mem_cons_self) (lcmL_gcd hl fun d hd => hg d (List.mem_cons_of_mem _ hd))
theorem dvd_anti {a b : Int} (ha : 0 < a) (hb : 0 < b) (h : ∀ z, a ∣ z ↔ b ∣ z) : a = b :=
  Int.le_antisymm (Int.le_of_dvd hb ((h b).mpr (Int.dvd_refl b))) (Int.le_of_dvd ha ((h a).mp (Int.dvd_refl a)))

/-- (N, x) is the fold of the clocks l -/
structure IsFold (l : List (Int × Int)) (N x : Int) : Prop where
  pos : 0 < N
  dv : ∀ z, N ∣ z ↔ ∀ c ∈ l, c.1 ∣ z
  rt : ∀ c ∈ l, c.1 ∣ x - c.2
  lo : 0 ≤ x
  hi : x < N
theorem IsFold.nil : IsFold [] 1 0 := ⟨by decide, fun _ => ⟨fun _ c hc => (by cases hc), fun _ => Int.one_dvd _⟩, fun c hc => (by cases hc), by decide, by decide⟩
theorem IsFold.eq {l : List (Int × Int)} {N x : Int} (F : IsFold l N x) (hp : ∀ c ∈ l, 0 < c.1) : N = lcmL l :=
  dvd_anti F.pos (lcmL_pos hp) fun z => by rw [F.dv, lcmL_dvd hp]
theorem IsFold.agrees {l : List (Int × Int)} {N x h k : Int} (F : IsFold l N x) (hp : ∀ c ∈ l, 0 < c.1) (ag : ∀ c ∈ l, gI c.1 h ∣ k - c.2) : gI N h ∣ k - x := by
  rw [F.eq hp]
  refine lcmL_gcd hp fun c hc => ?_
  have e : k - x = (k - c.2) - (x - c.2) := by omega
  rw [e]
  exact Int.dvd_sub (ag c hc) (Int.dvd_trans (Int.gcd_dvd_left _ _) (F.rt c hc))
theorem IsFold.snoc {l : List (Int × Int)} {N x h k t : Int} (F : IsFold l N x) (hh : 0 < h) (ht : h ∣ gI N h - t * N) (hg : (k - x) % gI N h = 0) :
    IsFold (l ++ [(h, k)]) (N * (h / gI N h)) (x + N * ((k - x) / gI N h * t % (h / gI N h))) := by
  obtain ⟨a1, a2, a3, a4⟩ := fold_two_ok F.pos hh ht hg
  have e : N * (h / gI N h) = lc N h := rfl
  refine ⟨lc_pos F.pos hh, fun z => ?_, fun c hc => ?_, by have := F.lo; omega, ?_⟩
  · rw [e, lc_dvd F.pos hh, F.dv]
    constructor
    · rintro ⟨h1, h2⟩ c hc
      rcases List.mem_append.mp hc with hc | hc
      · exact h1 c hc
      · rw [List.mem_singleton.mp hc]; exact h2
    · intro q
      exact ⟨fun c hc => q c (List.mem_append_left _ hc), q (h, k) (List.mem_append_right _ (List.mem_singleton.mpr rfl))⟩
  · rcases List.mem_append.mp hc with hc | hc
    · have h1 : c.1 ∣ N := (F.dv N).mp (Int.dvd_refl N) c hc
      have h2 := Int.dvd_add (Int.dvd_trans h1 a1) (F.rt c hc)
      have e2 : x + N * ((k - x) / gI N h * t % (h / gI N h)) - x + (x - c.2) = x + N * ((k - x) / gI N h * t % (h / gI N h)) - c.2 := by omega
      rw [e2] at h2
      exact h2
    · rw [List.mem_singleton.mp hc]; exact a2
  · rw [e]
    have h1 := F.hi
    have h0 := F.lo
    -- x + N * q < N * rest, q < rest
    obtain ⟨q, hq⟩ : ∃ q, q = (k - x) / gI N h * t % (h / gI N h) := ⟨_, rfl⟩
    have r0 := rest_pos F.pos hh
    have q1 : q < h / gI N h := by rw [hq]; exact Int.emod_lt_of_pos _ r0
    rw [← hq]
    have h2 := Int.mul_le_mul_of_nonneg_left (show q + 1 ≤ h / gI N h by omega) (show 0 ≤ N by have := F.pos; omega)
    rw [Int.mul_add, Int.mul_one] at h2
    unfold lc
    omega
/-- right at a turn -/
theorem right_iff {h k t : Int} (h1 : 0 ≤ k) (h2 : k < h) : t % h = k ↔ h ∣ t - k := by
  constructor
  · intro e
    rw [← e]
    exact Int.dvd_self_sub_emod
  · intro d
    have e : t % h = k % h := Int.emod_eq_emod_iff_emod_sub_eq_zero.mpr (Int.emod_eq_zero_of_dvd d)
    rw [e]
    exact Int.emod_eq_of_lt h1 h2
/-- two hours leave the same by a number just where it goes into what they differ by -/
theorem rests_iff {a b g : Int} : a % g = b % g ↔ (a - b) % g = 0 := Int.emod_eq_emod_iff_emod_sub_eq_zero
theorem emod0_comm {a b g : Int} : (a - b) % g = 0 ↔ (b - a) % g = 0 := by
  constructor
  · intro h
    have h1 := Int.dvd_of_emod_eq_zero h
    have : b - a = -(a - b) := by omega
    rw [this]
    exact Int.emod_eq_zero_of_dvd (Int.dvd_neg.mpr h1)
  · intro h
    have h1 := Int.dvd_of_emod_eq_zero h
    have : a - b = -(b - a) := by omega
    rw [this]
    exact Int.emod_eq_zero_of_dvd (Int.dvd_neg.mpr h1)
end Rf

set_option Elab.async false
set_option linter.all false
set_option maxRecDepth 100000
set_option maxHeartbeats 4000000
/-! What every law's proof here leans on. -/
namespace Rf
open PySem L2

/-! ### a def of the top with its promise -/
structure Has (P : Program) (w : World) (K : PySem.W.Frag) (mg : Str → Option Value) (base : Heap) (CX : CXT) (k : Nat) (x : Str) (ps : List Str) (sp : Sp) : Prop where
  ok : ∃ fd, FnOk P w K mg base CX k (He.ga K x) fd ps sp ∧ Binds K fd ps [] ∧ ∃ oc od osl, K.lookup (He.ga K x) = some ⟨oc, od, .func fd, osl⟩
  g : mg x = some (.ref (He.ga K x))
  kp : PySem.W.keepIn K (.ref (He.ga K x)) = true
section
variable {X : Cx} {CX : CXT} {k : Nat} {ps : List Str} {sp : Sp} {E : XK} {x : Str} {p pos : Pos} {e : Expr} {es : List Expr} {t : TA}
theorem pe_fn (h : Has X.prog X.w X.K X.mg X.base CX k x ps sp) (hr : Room k X.A) (hx : Passes CX X E) (ha : PA X (e :: es) t) (hg : Gl X x := by rfl)
    (hdb : (x == ("__debug__" : Str)) = false := by decide) (he : starEach (e :: es) X.env = (false, eval e X.env) :: starEach es X.env := by rfl) (hpl : (backTo pos (starEach es X.env)).any (·.1) = false := by rfl) :
    PE X (.Call (.Name x p) (e :: es) [] pos) (tCall sp [] E t) := by
  obtain ⟨fd, F, b, _⟩ := h.ok
  exact pe_call F hr hg h.g h.kp b .nil hx ha hdb he hpl
end
end Rf

/-! Exceptions kept as values: tracked behind the clause that caught them, asked by isinstance, their fields read. -/
namespace Rf
open PySem L2 PySem.Spec PyProof.Rows

theorem pe_gint {X : Cx} {x : Str} {i : Int} {p : Pos} (hg : Gl X x) (hm : ∃ t, X.mg x = some (.int i t)) (hdb : (x == ("__debug__" : Str)) = false := by decide) : PE X (.Name x p) (tC (.int i)) := by
  obtain ⟨t, hm⟩ := hm
  exact pe_glob hg hm ⟨t, rfl⟩ hdb

/-- an exception that was caught: its class, its own dict's place -/
def ExV (cls : Value) (d : Option Addr) (a : Addr) : HO := .ext fun h => ∃ (oe : Obj) (vs : Array Value), h.get? a = some oe ∧ Zc cls d oe ∧ oe.data = .fields vs
theorem exV_ok {P : Program} {w : World} {H : Hp} {h : Heap} {a : Addr} {cls : Value} {d : Option Addr} {oe : Obj} {vs : Array Value} (e : h.get? a = some oe) (z : Zc cls d oe) (k : oe.data = .fields vs) : ObjOk P w H h a (ExV cls d a) :=
  ⟨⟨oe, vs, e, z, k⟩, ⟨oe, e⟩, fun _ _ ⟨o, v, q, r⟩ st => ⟨o, v, st o q, r⟩⟩
theorem exV_at {P : Program} {w : World} {H : Hp} {h : Heap} {a : Addr} {cls : Value} {d : Option Addr} (hok : HOk P w H h) (e : H a = some (ExV cls d a)) : ∃ (oe : Obj) (vs : Array Value), h.get? a = some oe ∧ Zc cls d oe ∧ oe.data = .fields vs := by
  have x : ObjOk P w H h a (.ext fun h => ∃ (oe : Obj) (vs : Array Value), h.get? a = some oe ∧ Zc cls d oe ∧ oe.data = .fields vs) := hok a _ e
  exact x.1

section
variable {X : Cx} {pins : List (Addr × Obj)} {σ : L2.St} {H : Hp} {s : Shared}
/-- an untracked record of ours, younger than the entry, is tracked from now on -/
theorem track {a : Addr} {o : HO} {oe : Obj} {vs : Array Value} (I : Inv X pins σ H s) (ha : H a = none) (he : s.heap.get? a = some oe) (hd : oe.data = .fields vs) (h0 : X.s_0.heap.get? a = none) (hl : a ≠ X.env.locals)
    (hp : ∀ p ∈ X.pn ++ pins, p.1 ≠ a) (new : ObjOk X.prog X.w (upd H a o) s.heap a o) : Inv X pins σ (upd H a o) s := by
  have ne0 : ∀ b u, X.s_0.heap.get? b = some u → b ≠ a := fun b u e z => by
    rw [z, h0] at e
    cases e
  have neH : ∀ b u, H b = some u → b ≠ a := fun b u e => ne_of_none e ha
  have neC : ∀ x c, X.env.cells.lookup x = some c → c ≠ a := fun x c e z => by
    obtain ⟨v, oc, ho, hc⟩ := I.cell x c e
    rw [z, he] at ho
    cases ho
    rw [hd] at hc
    cases hc
  exact {
    ok := I.ok
    os := I.os
    bare := I.bare
    base := {
      keep := I.base.keep
      slot := I.base.slot
      free := fun b u e n hx => by rw [upd_ne (ne0 b u e)]; exact I.base.free b u e n hx
      there := I.base.there
      tups := fun b xs e => by
        have q := I.base.tups b xs e
        rw [upd_ne (neH b _ q)]
        exact q
      frzs := fun b u xs e => by
        have q := I.base.frzs b u xs e
        rw [upd_ne (neH b _ q)]
        exact q
      tbls := fun b ps e => by
        obtain ⟨m, q⟩ := I.base.tbls b ps e
        exact ⟨m, by rw [upd_ne (neH b _ q)]; exact q⟩ }
    loc := I.loc
    cell := I.cell
    free := by rw [upd_ne (Ne.symm hl)]; exact I.free
    freeC := fun x c e => by rw [upd_ne (neC x c e)]; exact I.freeC x c e
    pin := fun p m => by
      obtain ⟨e, n, r⟩ := I.pin p m
      exact ⟨e, by rw [upd_ne (hp p m)]; exact n, r⟩
    hok := fun b u e => by
      by_cases hb : b = a
      · rw [hb] at e ⊢
        rw [upd_same] at e
        cases e
        exact new
      · rw [upd_ne hb] at e
        exact (I.hok b u e).stay (fun _ _ _ q => q) (fun c q => by rw [upd_ne (neH c _ q)]; exact q) fun c xs q => by rw [upd_ne (neH c _ q)]; exact q
    len := I.len }
end

/-- what the clause 'except x as n: y = n' wishes of an exception of the body: it is caught, and tracked behind it -/
def wKept (K : PySem.W.Frag) (c : Value) (i j : Nat) (D : Ends) : WX := fun cls d σ H =>
  PySem.W.exmOne K cls c = some true ∧ ∀ a, H a = none → D.nx ((σ.set j (some (.ref a))).set i none) (upd H a (ExV cls d a))

theorem ps_try_kept {X : Cx} {x n y : Str} {c : Value} {i j : Nat} {body : List Stmt} {np py qn pa pos pos' : Pos} {tb : WX → TS} (hs : X.stack = X.env :: X.outer) (hf : X.env.frame = some X.env.locals) (hex : X.ex = []) (hN : X.N.Nodup)
    (hi : X.N[i]? = some n) (hln : X.env.kindOf n = some .local) (hj : X.N[j]? = some y) (hly : X.env.kindOf y = some .local) (hc : Names X x c)
    (hb : ∀ (W : WX) (pn : List (Addr × Obj)) (xe : Value → Shared → Prop), Takes (X.tr pn xe) W → PassesOwn (model X.prog X.w) X.A X.env xe → PSs (X.tr pn xe) body (tb W))
    (hd : (n == ("__debug__" : Str)) = false := by decide) (hcd : (n == ("__classdict__" : Str)) = false := by decide)
    (hsw : swapsWith (.Name n qn) (some (.Name y py)) pa.line X.env = pure false := by rfl) :
    PS X (.Try body [.ExceptHandler (some (.Name x np)) (some n) [.Assign [.Name y py] (.Name n qn) pa] pos'] [] [] pos) (fun D σ H => tb (wKept X.K c i j D) D σ H) := by
  refine ⟨fun pins s σ H D I h => ?_⟩
  have ok := I.ok
  have hfr : X.A.frames = some (X.env :: X.outer) := by rw [ok.frames, hs]
  refine wpAny_Try_except (wpAny_mono ((hb (wKept X.K c i j D) (X.pn ++ pins) (fun e s₁ => wpAny (model X.prog X.w) X.A (noteFrame e X.env) (fun _ s₂ => wpAny (model X.prog X.w) X.A (setFlight e none) (fun _ s₃ =>
    wpAny (model X.prog X.w) X.A (handleBy e X.env [.ExceptHandler (some (.Name x np)) (some n) [.Assign [.Name y py] (.Name n qn) pa] pos']) (SP X pins D) X.xe s₃) X.xe s₂) X.xe s₁) (fun u s' xx => ?_) PassesOwn.looking).run [] s σ H D (I.toTry _) h) (fun f s1 hsp => ?_) fun e s1 he => he)
  · obtain ⟨a, B, sI, pins', σ', H', cls, d, rfl, J', nb, up, sky, na, os, ag, hb1, hyes⟩ := xx
    have J : Inv X pins σ' H' sI := J'.ofTry ok
    have Bn : B.get? a = none := by
      rcases sky with q | q | q
      · exact q.2.1
      · exact q.2.1
      · exact q.2.1
    have gone : ∀ b o, sI.heap.get? b = some o → b ∉ frs X.stack → b ≠ a := fun b o e hm z => by
      have q := nb b o e hm
      rw [z, Bn] at q
      cases q
    rw [hs] at sky
    show wpAny (model X.prog X.w) X.A (noteFrame (.ref a) X.env) _ _ _
    refine Sky.land Zc.steady hfr hf sky fun h3 fl3 up3 => ?_
    have J3 : Inv X pins σ' H' { s' with heap := h3 } := J.landed nb fl3.1 (up.trans up3) os ag
    obtain ⟨oe3, vs3, he3, hz3, hd3⟩ := fl3.there
    have nfr : a ∉ frs (X.env :: X.outer) := fun hm => by
      obtain ⟨_, o', e', hnf⟩ := fl3.2.2.1.mem hm
      rw [he3] at e'
      cases e'
      exact hnf _ hd3
    have nL : a ≠ X.env.locals := fun z => nfr (List.mem_filterMap.mpr ⟨X.env, List.mem_cons_self, by rw [hf, z]⟩)
    have nF : a ∉ X.fs := fun hm => by
      obtain ⟨e, he, q⟩ := List.mem_filterMap.mp hm
      exact nfr (List.mem_filterMap.mpr ⟨e, List.mem_cons_of_mem _ he, q⟩)
    have a0 : X.s_0.heap.get? a = none := by
      cases e : X.s_0.heap.get? a with
      | none => rfl
      | some o =>
        obtain ⟨o', e'⟩ := J.base.there a o e (by rw [hex]; exact fun z => nomatch z)
        exact absurd rfl (gone a o' e' (by rw [hs]; exact nfr))
    have aP : ∀ p ∈ X.pn ++ pins, p.1 ≠ a := fun p hp => by
      obtain ⟨e, _, n1, n2, _⟩ := J.pin p hp
      refine gone p.1 p.2 e fun hm => ?_
      rcases List.mem_cons.mp (J.stkSub p.1 hm) with z | z
      · exact n1 z
      · exact n2 z
    have S3 := J3.suite he3 hd3 na nL nF
    refine wpAny_handleBy_cons (codeAny_handlers_test ?_) (by intro q; cases q)
    have LT : PySem.W.Looks (model X.prog X.w) h3 (typeOf (.ref a)) cls := fun A Q E s k q => wpAny_typeOf_ref (k _ _ he3) (by rw [hz3.1]; exact q)
    have LM := PySem.W.exm_one (M := model X.prog X.w) J3.kIn LT hb1
    have test : ∀ {Q : Value → Shared → Prop} {E : Value → Shared → Prop}, Q c { s' with heap := h3 } → wpAny (model X.prog X.w) (X.A.mark (some (.ref a))) (eval (.Name x np) X.env) Q E { s' with heap := h3 } := fun {Q E} q => by
      obtain ⟨hg, hdbg, z⟩ := hc
      rcases z with hm | ⟨hm, hv, hnn⟩
      · exact ld_glob (X := X.suite a ((a, oe3) :: (X.pn ++ pins))) S3 hg hm q hdbg
      · exact ld_blt (X := X.suite a ((a, oe3) :: (X.pn ++ pins))) S3 hg hm hv q hnn hdbg
    refine test (LM.here ?_)
    refine codeAny_handlers_suite_as (HandSPX.lands_againZ fl3 fun h4 fl4 up4 => ?_)
    have J4 : Inv X pins σ' H' { s' with heap := h4 } := J.landed nb fl4.1 ((up.trans up3).trans up4) os ag
    obtain ⟨oe4, vs4, he4, hz4, hd4⟩ := fl4.there
    have S4 := J4.suite he4 hd4 na nL nF
    have iσ : i < σ'.length := by rw [J.len]; exact (List.getElem?_eq_some_iff.mp hi).1
    refine store_ok (X := X.suite a ((a, oe4) :: (X.pn ++ pins))) (v := .ref a) S4 hN hi (.inl hln) rfl (fun s5 S5 => ?_) (.inr hln)
    have sm : PSs (X.suite a ((a, oe4) :: (X.pn ++ pins))) [.Assign [.Name y py] (.Name n qn) pa] (tAsg (tVar i) (gName j)) :=
      pss_one (ps_set (i := j) hN hj (.inl hly) (pe_var (i := i) hi (.inl hln) hd hcd) hsw (.inr hly))
    refine wpAny_mono (sm.run [] s5 _ H' { nx := fun σ6 H6 => σ6 = (σ'.set i (some (.ref a))).set j (some (.ref a)) ∧ H6 = H', rt := fun _ _ => False } S5 ⟨.ref a, by rw [List.getElem?_set_self iσ], rfl, rfl⟩) (fun f s6 q6 => ?_) fun _ _ z => False.elim z
    cases f with
    | next =>
      obtain ⟨σ6, H6, S6, e1, e2⟩ := q6
      subst e1 e2
      have J6 : Inv X ((a, oe4) :: pins) ((σ'.set i (some (.ref a))).set j (some (.ref a))) H6 s6 :=
        ⟨ok, S6.os, S6.bare, S6.base, S6.loc, S6.cell, S6.free, S6.freeC, fun p hp => S6.pin p (List.mem_append_left _ (by
          rcases List.mem_append.mp hp with z | z
          · exact List.mem_cons_of_mem _ (List.mem_append_left _ z)
          · rcases List.mem_cons.mp z with z | z
            · rw [z]; exact List.mem_cons_self
            · exact List.mem_cons_of_mem _ (List.mem_append_right _ z))), S6.hok, S6.len⟩
      refine gone_ok J6 hN hi hln fun s7 J7 => ?_
      obtain ⟨he7, na7, _⟩ := J7.pin (a, oe4) (List.mem_append_right _ List.mem_cons_self)
      have J8 : Inv X pins (((σ'.set i (some (.ref a))).set j (some (.ref a))).set i none) H6 s7 :=
        ⟨J7.ok, J7.os, J7.bare, J7.base, J7.loc, J7.cell, J7.free, J7.freeC, fun p hp => J7.pin p (by
          rcases List.mem_append.mp hp with z | z
          · exact List.mem_append_left _ z
          · exact List.mem_append_right _ (List.mem_cons_of_mem _ z)), J7.hok, J7.len⟩
      have J9 := track (o := ExV cls d a) J8 na7 he7 hd4 a0 nL aP (exV_ok he7 hz4 hd4)
      refine ⟨_, _, J9, ?_⟩
      have q := hyes a na
      have e : (σ'.set j (some (V.ref a))).set i none = ((σ'.set i (some (V.ref a))).set j (some (V.ref a))).set i none := by
        by_cases hij : j = i
        · rw [hij, List.set_set, List.set_set, List.set_set]
        · rw [List.set_comm _ _ hij, List.set_comm _ _ hij, List.set_set]
      rw [← e]
      exact q
    | brk =>
      obtain ⟨_, _, _, z⟩ := q6
      exact z.elim
    | cont =>
      obtain ⟨_, _, _, z⟩ := q6
      exact z.elim
    | ret u =>
      obtain ⟨_, _, _, _, _, z⟩ := q6
      exact z.elim
  · cases f with
    | next =>
      obtain ⟨σ', H', J', q⟩ := hsp
      exact wpAny_execs_nil ⟨σ', H', J'.ofTry ok, q⟩
    | brk =>
      obtain ⟨σ', H', J', q⟩ := hsp
      exact ⟨σ', H', J'.ofTry ok, q⟩
    | cont =>
      obtain ⟨σ', H', J', q⟩ := hsp
      exact ⟨σ', H', J'.ofTry ok, q⟩
    | ret u =>
      obtain ⟨v, σ', H', J', r, q⟩ := hsp
      exact ⟨v, σ', H', J'.ofTry ok, r, q⟩

/-! ### asking it -/
/-- what the class must say -/
def exCB (K : PySem.W.Frag) (D : Addr) : Bool := (PySem.W.clsIn K D).isSome && (decide (PySem.W.findIn K (.ref D) "__getattribute__" = some (some (.builtin "BaseException.__getattribute__"))) && (decide (PySem.W.findIn K (.ref D) "__getattr__" = some none) &&
  (decide (PySem.W.subIn K (.ref D) (.type "BaseException") = some true) && (PySem.W.hasDictIn K D && (decide (PySem.W.findIn K (.ref D) "__class__" = some (some (.builtin "object.__class__"))) &&
  (decide (PySem.W.specialIn K (.builtin "object.__class__") "__get__" = some (some (.builtin "getset_descriptor.__get__"))) && (decide (PySem.W.takesIn K (.builtin "object.__class__") = some true) && decide (PySem.W.mroIn K D (.type "object") = some true))))))))
structure ExD (K : PySem.W.Frag) (D : Addr) : Prop where
  cl : (PySem.W.clsIn K D).isSome = true
  e : ExcC K D
theorem exCB_ok {K : PySem.W.Frag} {D : Addr} (h : exCB K D = true) : ExD K D := by
  obtain ⟨h1, h⟩ := Bool.and_eq_true_iff.mp h
  obtain ⟨h2, h⟩ := Bool.and_eq_true_iff.mp h
  obtain ⟨h3, h⟩ := Bool.and_eq_true_iff.mp h
  obtain ⟨h4, h⟩ := Bool.and_eq_true_iff.mp h
  obtain ⟨h5, h⟩ := Bool.and_eq_true_iff.mp h
  obtain ⟨h6, h⟩ := Bool.and_eq_true_iff.mp h
  obtain ⟨h7, h⟩ := Bool.and_eq_true_iff.mp h
  obtain ⟨h8, h9⟩ := Bool.and_eq_true_iff.mp h
  exact ⟨h1, of_decide_eq_true h2, of_decide_eq_true h3, of_decide_eq_true h4, h5, of_decide_eq_true h6, of_decide_eq_true h7, of_decide_eq_true h8, of_decide_eq_true h9⟩

section
variable {X : Cx} {pins : List (Addr × Obj)} {σ : L2.St} {H : Hp} {s : Shared}
theorem exV_inst {a D : Addr} {d : Option Addr} (I : Inv X pins σ H s) (ea : H a = some (ExV (.ref D) d a)) (hd : ∀ dd, d = some dd → ∃ fs, H dd = some (.xd fs)) : ∃ oe od, PySem.W.InstAt s.heap a oe D od ∧ (d = none → od = none) ∧
    ∀ dd fs, d = some dd → H dd = some (.xd fs) → ∃ od' mA, od = some od' ∧ s.heap.Ns1 dd mA ∧ s.heap.get? dd = some od' ∧ ∀ f, RelO (fs.lookup f) (mA f) := by
  obtain ⟨oe, vs, ho, ⟨hc, hz⟩, hdt⟩ := exV_at I.hok ea
  have nc : PySem.W.notCls oe = true := by unfold PySem.W.notCls; rw [hdt] <;> rfl
  cases d with
  | none => exact ⟨oe, none, ⟨ho, hc, nc, by rw [hz]; trivial⟩, fun _ => rfl, fun _ _ z => nomatch z⟩
  | some dd =>
    obtain ⟨fs, hx⟩ := hd dd rfl
    have q : ObjOk X.prog X.w H s.heap dd (.xd fs) := I.hok dd _ hx
    obtain ⟨mA, hns, hr⟩ := q
    obtain ⟨od, hod, _⟩ := lookIn_ns hns
    refine ⟨oe, some od, ⟨ho, hc, nc, by rw [hz]; exact hod⟩, (fun z => by cases z), fun dd' fs' e1 e2 => ?_⟩
    cases e1
    rw [hx] at e2
    cases e2
    exact ⟨od, mA, rfl, hns, hod, hr⟩
end
/-- isinstance(e, c), e an exception that was caught -/
def rIsV (K : PySem.W.Frag) : List V → Hp → VK → Prop := fun xs H Q => ∃ (a D : Addr) (d : Option Addr) (c : V) (cv : Value) (b : Bool), xs = [.ref a, c] ∧ H a = some (ExV (.ref D) d a) ∧ (∀ dd, d = some dd → ∃ fs, H dd = some (.xd fs)) ∧ ExD K D ∧ ClsV c cv ∧
  PySem.W.kitOne K (.ref D) cv = some b ∧ Q (.bl b) H
theorem call_isV {X : Cx} : CallR X (.builtin "isinstance") (rIsV X.K) := by
  intro pins s σ H xs us Q I r h
  obtain ⟨a, D, d, c, cv, b, rfl, ea, hd, C, k, e, q⟩ := h
  obtain ⟨u1, u2, rfl, r1, r2⟩ := vals2 r
  have e2 := k.eq r2
  subst e2
  cases (show u1 = Value.ref a from r1)
  obtain ⟨oe, od, J, _, _⟩ := exV_inst I ea hd
  exact PySem.W.kia_one (PySem.W.kitx_exc C.cl C.e.hg C.e.hk C.e.hs C.e.ha C.e.hn C.e.ht C.e.hm) I.kIn J e (fun z => nomatch z) fun tk => ⟨.bl b, H, I.kept (t' := tk) fun _ _ z => z, rfl, q⟩
/-- e.f, e an exception that was caught -/
def tXfV (K : PySem.W.Frag) (f : Str) (te : TE) : TE := fun σ H Q => te σ H fun x H1 => ∃ (a D dd : Addr) (fs : List (Str × V)) (v : V), x = .ref a ∧ H1 a = some (ExV (.ref D) (some dd) a) ∧ H1 dd = some (.xd fs) ∧ ExD K D ∧ PySem.W.findIn K (.ref D) f = some none ∧ fs.lookup f = some v ∧ Q v H1
theorem pe_xfV {X : Cx} {e : Expr} {te : TE} {pos : Pos} {n : Str} (he : PE X e te) (hb : attributeBase e n X.env (eval e X.env) = eval e X.env := by rfl) : PE X (.Attribute e n pos) (tXfV X.K n te) := by
  refine ⟨fun pins s σ H Q I h => ?_⟩
  refine attr_of hb (thn (he.run pins s σ H _ I h) fun u s1 hh => ?_)
  obtain ⟨x, H1, I1, rx, a, D, dd, fs, v, ex, ea, ed, C, hno, l, q⟩ := hh
  subst ex
  obtain rfl : u = Value.ref a := rx
  obtain ⟨oe, od, J, _, k⟩ := exV_inst I1 ea (fun d' z => by cases z; exact ⟨fs, ed⟩)
  obtain ⟨od', mA, e1, hns, ho, hr⟩ := k dd fs rfl ed
  subst e1
  obtain ⟨od2, ho2, hl⟩ := lookIn_ns hns
  rw [ho] at ho2
  cases ho2
  obtain ⟨u, hu, ru⟩ := RelO.some_of (v := v) (o := mA n) (by rw [← l]; exact hr n)
  exact HandSPX.exc_get I1.kIn J C.e.hg C.e.hk C.e.hs (PySem.W.findObj_own C.e.hd hno rfl (by rw [hl, hu])) (handed_of ru) ⟨v, H1, I1.tok _, ru, q⟩
end Rf
namespace Rf
open PySem L2 PySem.Spec PyProof.Rows
/-- a class or a def of the top as a value -/
theorem pe_gref {X : Cx} {x : Str} {a : Addr} {p : Pos} (hm : X.mg x = some (.ref a)) (hg : Gl X x := by rfl) (hdb : (x == ("__debug__" : Str)) = false := by decide) : PE X (.Name x p) (tC (.ref a)) := pe_glob hg hm (show RelV (.ref a) (.ref a) from rfl) hdb
end Rf

/-! Defs of the top by their names; a lambda handed to the def that keeps a refusal. -/
namespace Rf
open PySem L2 PySem.Spec PyProof.Rows LamX

/-- the def x of the top, as the statement st writes it -/
structure Df (K : PySem.W.Frag) (x : Str) (st : Stmt) : Prop where
  ex : ∃ fd, FunD K x x (defArgs st) (defBody st) (defScope st) [] [] (He.ga K x) fd
/-- its code object -/
abbrev cdO (K : PySem.W.Frag) (x : Str) : Addr := He.codeOf K (x, none)
abbrev tbO (K : PySem.W.Frag) (x : Str) : Addr := He.tabOf K (cdO K x)
/-- the context of its body -/
abbrev bx (CX : CXT) (P : Program) (w : World) (K : PySem.W.Frag) (mg : Str → Option Value) (base : Heap) (N : List Str) (x : Str) (st : Stmt) (A : Around) (outer : List Env) (s : Shared) (H : Hp) (E : XK) : Cx :=
  cxOf CX P w K mg base N x (defScope st) (He.ga K x) (.ref (cdO K x)) A outer s H E
abbrev bEnv (K : PySem.W.Frag) (x : Str) (st : Stmt) (s : Shared) : Env := envOfC x (defScope st) s.heap.objs.size (He.ga K x) (.ref (cdO K x))
section
variable {CX : CXT} {P : Program} {w : World} {K : PySem.W.Frag} {mg : Str → Option Value} {base : Heap} {x : Str} {st : Stmt} {N ps : List Str} {k : Nat} {sp : Sp}
theorem Df.raw (D : Df K x st) : ∃ (oc : Value) (od : Option Addr) (kV doc pm : Value) (an : Option Addr) (ct : Value) (osl : Array (Option Value)),
    K.lookup (He.ga K x) = some ⟨oc, od, .func (PySem.W.fnOf x x (defArgs st) (defBody st) (defScope st) .none kV doc pm an (.ref (cdO K x)) ct), osl⟩ ∧ PySem.W.codeIn K (.ref (cdO K x)) x = true ∧ PySem.W.keepIn K (.ref (He.ga K x)) = true := by
  obtain ⟨fd, F⟩ := D.ex
  obtain ⟨oc, od, dV, kV, doc, pm, an, cdv, ct, osl, rfl, lk, hcd, hD, _⟩ := F.ex
  rcases hD with ⟨_, rfl⟩ | ⟨e, _⟩
  · obtain ⟨c, rfl⟩ := He.codeIn_ref hcd
    have e : cdO K x = c := He.codeOf_eq (p := (x, none)) lk rfl
    rw [e]
    exact ⟨oc, od, kV, doc, pm, an, ct, osl, lk, hcd, F.kp⟩
  · exact absurd rfl e
theorem has_of (D : Df K x st) (gx : mg x = some (.ref (He.ga K x))) (S : FnScope N ps (defScope st))
    (hb : ∀ (kV doc pm : Value) (an : Option Addr) (cdv ct : Value) (us : List Value), us.length = ps.length → bindArgs (PySem.W.fnOf x x (defArgs st) (defBody st) (defScope st) .none kV doc pm an cdv ct) ⟨us, []⟩ = pure (ps.zip us))
    (len : ∀ vs H Q E, sp vs H Q E → vs.length = ps.length)
    (hbody : ∀ (A : Around) (outer : List Env) (s : Shared) (H : Hp) (vs : List V) (Q : VK) (E : XK), Room k (A.deeper (bEnv K x st s)) → sp vs H Q E →
      ∃ t, PSs (bx CX P w K mg base N x st A outer s H E) (defBody st) t ∧ t { nx := fun _ H' => Q .non H', rt := Q } (L2.start N vs) H) :
    Has P w K mg base CX (k + 1) x ps sp := by
  obtain ⟨oc, od, kV, doc, pm, an, ct, osl, lk, hcd, kp⟩ := D.raw
  exact ⟨⟨_, fn_of lk hcd S len hbody, .all fun us hl => hb kV doc pm an _ ct us hl, oc, od, osl, lk⟩, gx, kp⟩
/-- where nothing leaves it -/
theorem has_of0 (D : Df K x st) (gx : mg x = some (.ref (He.ga K x))) (S : FnScope N ps (defScope st))
    (hb : ∀ (kV doc pm : Value) (an : Option Addr) (cdv ct : Value) (us : List Value), us.length = ps.length → bindArgs (PySem.W.fnOf x x (defArgs st) (defBody st) (defScope st) .none kV doc pm an cdv ct) ⟨us, []⟩ = pure (ps.zip us))
    (len : ∀ vs H Q E, sp vs H Q E → vs.length = ps.length)
    (hbody : ∀ (A : Around) (outer : List Env) (s : Shared) (H : Hp) (vs : List V) (Q : VK) (E : XK), Room k (A.deeper (bEnv K x st s)) → sp vs H Q E →
      ∃ t, PSs (bx CX0 P w K mg base N x st A outer s H E).nox (defBody st) t ∧ t { nx := fun _ H' => Q .non H', rt := Q } (L2.start N vs) H) :
    Has P w K mg base CX0 (k + 1) x ps sp :=
  has_of D gx S hb len fun A outer s H vs Q E hr h => by
    obtain ⟨t, h1, h2⟩ := hbody A outer s H vs Q E hr h
    exact ⟨t, h1.nox, h2⟩
theorem Has.at_ (h : Has P w K mg base CX k x ps sp) {fd : FuncData} {st : Stmt} (F : FunD K x x (defArgs st) (defBody st) (defScope st) [] [] (He.ga K x) fd) : FnOk P w K mg base CX k (He.ga K x) fd ps sp := by
  obtain ⟨fd', F', _, oc, od, osl, lk⟩ := h.ok
  obtain ⟨oc2, od2, dV, kV, doc, pm, an, cdv, ct, osl2, _, lk2, _⟩ := F.ex
  rw [lk] at lk2
  injection lk2 with e
  injection e with _ _ e
  injection e with e
  rw [← e]
  exact F'
theorem Has.mono {j : Nat} (h : Has P w K mg base CX j x ps sp) (hj : j ≤ k) : Has P w K mg base CX k x ps sp := by
  obtain ⟨fd, F, b⟩ := h.ok
  exact ⟨⟨fd, F.mono hj, b⟩, h.g, h.kp⟩
end

/-! ### what is raised in the body of a def that may raise -/
theorem takesB {P w K mg base N x st A outer s H E} : Takes (bx (L2.CX P w) P w K mg base N x st A outer s H E) (fun cls d _ H' => E cls d H') := takes_of rfl rfl rfl rfl
theorem passB {P w K mg base N x st A outer s H E} : Passes (L2.CX P w) (bx (L2.CX P w) P w K mg base N x st A outer s H E) E := passes_call (W := fun cls d _ H' => E cls d H') takesB fun _ _ _ _ h => h

theorem takes_len {X : Cx} {W : WX} (t : Takes X W) : Takes X (fun cls d σ H => σ.length = X.N.length → W cls d σ H) := fun u s' ⟨a, B, sI, pins, σ, H, cls, d, e, I, nb, up, sky, na, os, ag, h⟩ =>
  t u s' ⟨a, B, sI, pins, σ, H, cls, d, e, I, nb, up, sky, na, os, ag, h I.len⟩

/-! ### the def that keeps a refusal -/
/-- what it makes of a deed's reading tl: None where the deed is done, else what was refused, told from then on -/
def TKept (K : PySem.W.Frag) (C : Addr) : (XK → Hp → VK → Prop) → Hp → VK → Prop := fun tl H Q =>
  tl (fun cls d H' => PySem.W.exmOne K cls (.ref C) = some true ∧ ∀ a, H' a = none → Q (.ref a) (upd H' a (ExV cls d a))) H fun _ H' => ∃ v, (some (some V.non) : Option (Option V)) = some (some v) ∧ Q v H'
abbrev keptN : List Str := ["_law_deed", "_law_kept_here", "_law_e"]
theorem kept_gives {X : Cx} {x q : Str} {sg : Scope} {g C : Addr} {cdg : Value} {j0 : Nat} {p1 p2 p3 p4 p5 p6 p7 p8 p9 p10 p11 p12 p13 p14 : Pos}
    (l1 : sg.names.lookup ("_law_kept_here" : Str) = some .local) (l2 : sg.names.lookup ("_law_e" : Str) = some .local) (g1 : sg.names.lookup ("FoldError" : Str) = some .globalImplicit) (hm : X.mg "FoldError" = some (.ref C)) :
    GivesTo X keptN x sg g cdg [.Assign [.Name "_law_kept_here" p1] (.Constant .none j0 p2) p3, .Try [.Expr (.Call (.Name "_law_deed" p4) [] [] p5) p6] [.ExceptHandler (some (.Name "FoldError" p7)) (some "_law_e") [.Assign [.Name "_law_kept_here" p8] (.Name "_law_e" p9) p10] p11] [] [] p12,
      .Return (some (.Name "_law_kept_here" p13)) p14] "_law_deed" q (TKept X.K C) := by
  intro f c' s H Q tl act hc h
  have nd : keptN.Nodup := by decide +kernel
  have hgl : Gl (cxOf C8.CX0 X.prog X.w X.K X.mg X.base keptN x sg g cdg X.A X.stack s H C8.E0).nox "FoldError" := g1
  refine ⟨_, pss_cons (ps_set (i := 1) nd rfl (Or.inl l1) pe_non) (pss_cons (ps_try_kept (i := 2) (j := 1) (c := .ref C)
      (tb := fun W D σ H => ∃ Ech : XK, (∀ cls d σ' H', σ'.length = 3 → Ech cls d H' → W cls d σ' H') ∧ σ[0]? = some (some (.ref f)) ∧ H c' = some (CodeO c' q) ∧ tl Ech H fun _ H1 => D.nx σ H1)
      rfl rfl rfl nd rfl l2 rfl l1 ⟨hgl, by decide, .inl hm⟩ (fun W pn xe tk _ => ?_)) (pss_one (ps_ret (pe_var (i := 1) rfl (Or.inl l1))))), ?_⟩
  · refine ⟨fun pins s' σ H' D I h' => ?_⟩
    obtain ⟨Ech, hW, h1, h2, h3⟩ := h'
    have hp := act (fun cls d σ H => σ.length = keptN.length → W cls d σ H) pn xe Ech p4 p5 (takes_len tk) (fun cls d σ' H' z hl => hW cls d σ' H' hl z)
    exact (pss_one (ps_expr (pos := p6) hp)).run pins s' σ H' D I ⟨h1, h2, h3⟩
  · refine ⟨fun cls d H' => PySem.W.exmOne X.K cls (.ref C) = some true ∧ ∀ a, H' a = none → Q (.ref a) (upd H' a (ExV cls d a)), fun cls d σ' H' hl z => ⟨z.1, fun a ha => ?_⟩, rfl, hc, h⟩
    match σ', hl with
    | [_, _, _], _ => exact ⟨.ref a, rfl, z.2 a ha⟩

/-- _law_kept(lambda: body) -/
theorem pe_kept {X : Cx} {T : List (Addr × Str)} {C c P : Addr} {k : Nat} {st : Stmt} {params : Arguments} {body : Expr} {scope : Scope} {t : XK → TE} {p lpos pos : Pos}
    (D : Df X.K "_law_kept" st) (gk : X.mg "_law_kept" = some (.ref (He.ga X.K "_law_kept"))) (hG : GivesTo X keptN "_law_kept" (defScope st) (He.ga X.K "_law_kept") (.ref (cdO X.K "_law_kept")) (defBody st) "_law_deed" (X.env.qual ++ "<lambda>") (TKept X.K C))
    (hb : ∀ (kV doc pm : Value) (an : Option Addr) (cdv ct : Value) (us : List Value), us.length = 1 → bindArgs (PySem.W.fnOf "_law_kept" "_law_kept" (defArgs st) (defBody st) (defScope st) .none kV doc pm an cdv ct) ⟨us, []⟩ = pure ((["_law_deed"] : List Str).zip us))
    (Sg : FnScope keptN ["_law_deed"] (defScope st)) (hva : Vis (defScope st) "_law_deed")
    (TB : TabB X.base X.mg c P) (hcode : X.env.code = .ref c) (hmT : (P, X.env.qual ++ "<lambda>") ∈ T) (hu : ∀ p ∈ T, p.1 = P → p.2 = X.env.qual ++ "<lambda>") (hr : Room (k + 2) X.A)
    (hbody : ∀ (A : Around) (outer : List Env) (s : Shared) (H : Hp) (E : XK) (f c' : Addr), Room k (A.deeper (lamEnv X scope s.heap.objs.size f c')) → PE (lamCx X A outer s H E scope f c') body (t E))
    (hg : Gl X "_law_kept" := by rfl) (L : LamS X.env.scope scope := by exact lamS_by (by decide +kernel)) (hdef : defaultsOf params X.env = ([], []) := by rfl)
    (hbind : ∀ (q : Str) (cl : List (Str × Addr)) (pm cv ctv : Value), bindArgs (PySem.W.kla_fn "<lambda>" q params body scope cl pm cv ctv) ⟨[], []⟩ = pure [] := by exact fun _ _ _ _ _ => rfl) :
    PE X (.Call (.Name "_law_kept" p) [.Lambda params body scope lpos] [] pos) (tLam T (TKept X.K C) t) := by
  obtain ⟨oc, od, kV, doc, pm, an, ct, osl, lk, hcd, kp⟩ := D.raw
  exact pe_lamcall hg gk kp lk hcd (.all fun us hl => hb kV doc pm an _ ct us hl) Sg rfl hva hG TB hcode hmT hu hr L hdef hbind hbody
/-- in the lambda's body: what a def raises goes on -/
theorem passLam {X : Cx} {A : Around} {outer : List Env} {s : Shared} {H : Hp} {E : XK} {scope : Scope} {f c' : Addr} : Passes (L2.CX X.prog X.w) (lamCx X A outer s H E scope f c') E :=
  passes_call (W := fun cls d _ H' => E cls d H') (takes_of rfl rfl rfl rfl) fun _ _ _ _ h => h
end Rf

/-! Facts of the top; things by their kinds; clocks as they stand in the heap. -/
namespace Rf
open PySem L2 PySem.Spec PyProof.Rows

/-- the built-in names that no module binds -/
structure Bt (mg : Str → Option Value) : Prop where
  isinstance : mg "isinstance" = none
  int : mg "int" = none
  bool : mg "bool" = none
  tuple : mg "tuple" = none
  len : mg "len" = none
  list : mg "list" = none
  str : mg "str" = none
  sorted : mg "sorted" = none
  enumerate : mg "enumerate" = none
  all : mg "all" = none
  range : mg "range" = none
  dict : mg "dict" = none
  sum : mg "sum" = none
  zip : mg "zip" = none
  min : mg "min" = none
  ve : mg "ValueError" = none

/-- the classes of refusals that are made -/
abbrev xNames : List Str := ["BadClock", "BadTurn", "NoClock", "TooMany", "BadWall", "Never", "BadText"]
/-- a class of refusals -/
structure Xc (K : PySem.W.Frag) (mg : Str → Option Value) (x : Str) : Prop where
  g : mg x = some (.ref (He.ga K x))
  kp : PySem.W.keepIn K (.ref (He.ga K x)) = true
  sub : PySem.W.subIn K (.ref (He.ga K x)) (.type "BaseException") = some true
  ty : PySem.W.typeIn K (.ref (He.ga K x)) = some (.type "type")
  d : ExD K (He.ga K x)
  fe : PySem.W.exmOne K (.ref (He.ga K x)) (.ref (He.ga K "FoldError")) = some true
  ve : PySem.W.kitOne K (.ref (He.ga K x)) (.type "ValueError") = some true
/-- .. among all of them -/
structure Xw (K : PySem.W.Frag) (mg : Str → Option Value) (x : Str) : Prop extends Xc K mg x where
  kit : ∀ y ∈ xNames, PySem.W.kitOne K (.ref (He.ga K x)) (.ref (He.ga K y)) = some (decide (x = y))
/-- .. without an own __init__ -/
structure Xp (K : PySem.W.Frag) (mg : Str → Option Value) (x : Str) : Prop extends Xc K mg x where
  exc : PySem.W.excIn K (He.ga K x) He.veBase "ValueError.__new__" = true

/-- a thing and the name of its type -/
inductive Td (H : Hp) : V → String → Prop where
  | non : Td H .non "NoneType"
  | bl (b : Bool) : Td H (.bl b) "bool"
  | int (i : Int) : Td H (.int i) "int"
  | str (x : Str) : Td H (.str x) "str"
  | lst {a : Addr} {xs : List V} (h : H a = some (.lst xs)) : Td H (.ref a) "list"
  | tup {a : Addr} {xs : List V} (h : H a = some (.tup xs)) : Td H (.ref a) "tuple"
  | dK {a : Addr} {kvs : List (Key × V)} (h : H a = some (.dK kvs)) : Td H (.ref a) "dict"
theorem Td.ty {K : PySem.W.Frag} {H : Hp} {x : V} {t : String} (h : Td H x t) : TyX K H x (.type t) := by
  cases h with
  | non => exact .base .non
  | bl b => exact .base (.bl b)
  | int i => exact .base (.int i)
  | str x => exact .base (.str x)
  | lst h => exact .base (.lst h)
  | tup h => exact .base (.tup h)
  | dK h => exact .base (.dK h)
theorem Td.same {H H' : Hp} {x : V} {t : String} (e : Same H H') (h : Td H x t) : Td H' x t := by
  cases h with
  | non => exact .non
  | bl b => exact .bl b
  | int i => exact .int i
  | str x => exact .str x
  | lst h => exact .lst (e _ _ h)
  | tup h => exact .tup (e _ _ h)
  | dK h => exact .dK (e _ _ h)
def isI : V → Bool
  | .int _ => true
  | _ => false
/-- isinstance(x, int), isinstance(x, bool) -/
theorem Td.kit {K : PySem.W.Frag} {H : Hp} {x : V} {t : String} (h : Td H x t) : ∃ b1 b2, PySem.W.kitOne K (.type t) (.type "int") = some b1 ∧ PySem.W.kitOne K (.type t) (.type "bool") = some b2 ∧ (b1 && !b2) = isI x := by
  cases h with
  | non => exact ⟨false, false, kit_ty (by decide +kernel), kit_ty (by decide +kernel), rfl⟩
  | bl b => exact ⟨true, true, kit_ty (by decide +kernel), kit_ty (by decide +kernel), rfl⟩
  | int i => exact ⟨true, false, kit_ty (by decide +kernel), kit_ty (by decide +kernel), rfl⟩
  | str x => exact ⟨false, false, kit_ty (by decide +kernel), kit_ty (by decide +kernel), rfl⟩
  | lst h => exact ⟨false, false, kit_ty (by decide +kernel), kit_ty (by decide +kernel), rfl⟩
  | tup h => exact ⟨false, false, kit_ty (by decide +kernel), kit_ty (by decide +kernel), rfl⟩
  | dK h => exact ⟨false, false, kit_ty (by decide +kernel), kit_ty (by decide +kernel), rfl⟩
theorem Td.kitT {K : PySem.W.Frag} {H : Hp} {x : V} {t : String} (h : Td H x t) : PySem.W.kitOne K (.type t) (.type "tuple") = some (decide (t = "tuple")) := by
  cases h with
  | non => exact kit_ty (by decide +kernel)
  | bl b => exact kit_ty (by decide +kernel)
  | int i => exact kit_ty (by decide +kernel)
  | str x => exact kit_ty (by decide +kernel)
  | lst h => exact kit_ty (by decide +kernel)
  | tup h => exact kit_ty (by decide +kernel)
  | dK h => exact kit_ty (by decide +kernel)

abbrev hrs : Int := 10 ^ 30
/-- what is_clock tells of a thing -/
inductive ClkRes (H : Hp) : V → Bool → Prop where
  | no {x : V} {t : String} (h : Td H x t) (n : t ≠ "tuple") : ClkRes H x false
  | len {a : Addr} {xs : List V} (h : H a = some (.tup xs)) (n : xs.length ≠ 2) (z : xs.length ≤ 1000) : ClkRes H (.ref a) false
  | odd1 {a : Addr} {x y : V} {t : String} (h : H a = some (.tup [x, y])) (tx : Td H x t) (n : isI x = false) : ClkRes H (.ref a) false
  | odd2 {a : Addr} {i : Int} {y : V} {t : String} (h : H a = some (.tup [.int i, y])) (ty : Td H y t) (n : isI y = false) : ClkRes H (.ref a) false
  | two {a : Addr} {i j : Int} (h : H a = some (.tup [.int i, .int j])) : ClkRes H (.ref a) (decide (1 ≤ i ∧ i ≤ hrs ∧ 0 ≤ j ∧ j < i))
theorem ClkRes.same {H H' : Hp} {x : V} {r : Bool} (e : Same H H') (h : ClkRes H x r) : ClkRes H' x r := by
  cases h with
  | no h n => exact .no (h.same e) n
  | len h n z => exact .len (e _ _ h) n z
  | odd1 h t n => exact .odd1 (e _ _ h) (t.same e) n
  | odd2 h t n => exact .odd2 (e _ _ h) (t.same e) n
  | two h => exact .two (e _ _ h)
/-- a clock at a place -/
structure ClkAt (H : Hp) (x : V) (c : Int × Int) : Prop where
  at_ : ∃ a, x = .ref a ∧ H a = some (.tup [.int c.1, .int c.2])
  ok : Clk c
theorem ClkAt.same {H H' : Hp} {x : V} {c : Int × Int} (e : Same H H') (h : ClkAt H x c) : ClkAt H' x c := by
  obtain ⟨a, e1, e2⟩ := h.at_
  exact ⟨⟨a, e1, e _ _ e2⟩, h.ok⟩
theorem ClkAt.res {H : Hp} {x : V} {c : Int × Int} (h : ClkAt H x c) : ClkRes H x true := by
  obtain ⟨a, rfl, e2⟩ := h.at_
  have q := ClkRes.two e2
  rw [decide_eq_true (show 1 ≤ c.1 ∧ c.1 ≤ hrs ∧ 0 ≤ c.2 ∧ c.2 < c.1 from ⟨h.ok.h1, h.ok.h2, h.ok.k1, h.ok.k2⟩)] at q
  exact q
theorem ClkRes.clk {H : Hp} {x : V} (h : ClkRes H x true) : ∃ c, ClkAt H x c := by
  generalize hb : true = b at h
  cases h with
  | no h n => cases hb
  | len h n z => cases hb
  | odd1 h t n => cases hb
  | odd2 h t n => cases hb
  | @two a i j h =>
    obtain ⟨h1, h2, h3, h4⟩ := of_decide_eq_true hb.symm
    exact ⟨(i, j), ⟨a, rfl, h⟩, h1, h2, h3, h4⟩

section
variable {P : Program} {w : World} {K : PySem.W.Frag} {mg : Str → Option Value} {base : Heap}
/-! ### the promises of clocks.py -/
def spWhole : Sp := fun vs H Q _ => ∃ x t, vs = [x] ∧ Td H x t ∧ Q (.bl (isI x)) H
def spIsClock : Sp := fun vs H Q _ => ∃ x r, vs = [x] ∧ ClkRes H x r ∧ Q (.bl r) H
abbrev xr (K : PySem.W.Frag) (x : Str) : Value := .ref (He.ga K x)
def spNeedClock (K : PySem.W.Frag) : Sp := fun vs H Q E => ∃ x r, vs = [x] ∧ ClkRes H x r ∧ (r = true → Q .non H) ∧ (r = false → E (xr K "BadClock") none H)
def spNeedTurn (K : PySem.W.Frag) : Sp := fun vs H Q E => ∃ x t, vs = [x] ∧ Td H x t ∧ (isI x = true → Q .non H) ∧ (isI x = false → E (xr K "BadTurn") none H)
/-- what a call with a clock and a turn comes to: f of a clock and a turn -/
def ofCT (K : PySem.W.Frag) (f : Int × Int → Int → V) : Sp := fun vs H Q E => ∃ x y, vs = [x, y] ∧
  ((ClkRes H x false ∧ E (xr K "BadClock") none H) ∨ ∃ c, ClkAt H x c ∧ ((∃ t, Td H y t ∧ isI y = false ∧ E (xr K "BadTurn") none H) ∨ ∃ t, y = .int t ∧ Q (f c t) H))
def spShows (K : PySem.W.Frag) : Sp := ofCT K fun c t => .int (t % c.1)
def spIsRight (K : PySem.W.Frag) : Sp := ofCT K fun c t => .bl (decide (t % c.1 = c.2))
end
end Rf
namespace Rf
open PySem L2 PySem.Spec PyProof.Rows
section
variable {K : PySem.W.Frag} {H : Hp} {Q : VK} {x : V} {t n : String} {b : Bool}
theorem is_ty (ht : Td H x t) (k : PySem.W.kitOne K (.type t) (.type n) = some b) (q : Q (.bl b) H) : rIsi K [x, .ty n] H Q := ⟨x, _, _, _, b, rfl, .ty n, ht.ty, k, q⟩
/-- t[0], t[1] of a pair -/
theorem ix0 {a : Addr} {u v : V} (h : H a = some (.tup [u, v])) (q : Q u H) : rIxT K (.ref a) (.int 0) H Q := ⟨a, _, 0, u, rfl, rfl, .of h, rfl, q⟩
theorem ix1 {a : Addr} {u v : V} (h : H a = some (.tup [u, v])) (q : Q v H) : rIxT K (.ref a) (.int 1) H Q := ⟨a, _, 1, v, rfl, rfl, .of h, rfl, q⟩
theorem lenT {a : Addr} {xs : List V} {R : Nat → Prop} (h : H a = some (.tup xs)) (q : R xs.length) : ∃ n, LenV K (.ref a) H n ∧ R n := ⟨xs.length, .inr ⟨_, .of h, rfl⟩, q⟩
theorem kitTT : PySem.W.kitOne K (.type "tuple") (.type "tuple") = some true := kit_ty (by decide +kernel)
end
end Rf

namespace Rf
open PySem L2 PySem.Spec PyProof.Rows LamX
/-! what stands where tables may grow -/
theorem exS {H H' : Hp} (e : Same H H') : ExtN H H' := fun b o h _ => e b o h
theorem xtup {H H' : Hp} (e : ExtN H H') {a : Addr} {xs : List V} (h : H a = some (.tup xs)) : H' a = some (.tup xs) := e _ _ h fun _ z => by cases z
theorem xlst {H H' : Hp} (e : ExtN H H') {a : Addr} {xs : List V} (h : H a = some (.lst xs)) : H' a = some (.lst xs) := e _ _ h fun _ z => by cases z
theorem xdK {H H' : Hp} (e : ExtN H H') {a : Addr} {xs : List (Key × V)} (h : H a = some (.dK xs)) : H' a = some (.dK xs) := e _ _ h fun _ z => by cases z
theorem xxd {H H' : Hp} (e : ExtN H H') {a : Addr} {xs : List (Str × V)} (h : H a = some (.xd xs)) : H' a = some (.xd xs) := e _ _ h fun _ z => by cases z
theorem Td.ext {H H' : Hp} {x : V} {t : String} (e : ExtN H H') (h : Td H x t) : Td H' x t := by
  cases h with
  | non => exact .non
  | bl b => exact .bl b
  | int i => exact .int i
  | str x => exact .str x
  | lst h => exact .lst (xlst e h)
  | tup h => exact .tup (xtup e h)
  | dK h => exact .dK (xdK e h)
theorem ClkRes.ext {H H' : Hp} {x : V} {r : Bool} (e : ExtN H H') (h : ClkRes H x r) : ClkRes H' x r := by
  cases h with
  | no h n => exact .no (h.ext e) n
  | len h n z => exact .len (xtup e h) n z
  | odd1 h t n => exact .odd1 (xtup e h) (t.ext e) n
  | odd2 h t n => exact .odd2 (xtup e h) (t.ext e) n
  | two h => exact .two (xtup e h)
theorem ClkAt.ext {H H' : Hp} {x : V} {c : Int × Int} (e : ExtN H H') (h : ClkAt H x c) : ClkAt H' x c := by
  obtain ⟨a, e1, e2⟩ := h.at_
  exact ⟨⟨a, e1, xtup e e2⟩, h.ok⟩
/-- a list written anew, which was not there at the start -/
theorem ext_put {H0 H : Hp} {a : Addr} {o : HO} (e : ExtN H0 H) (n : ∀ u, H0 a = some u → (∀ ps, u ≠ .tbl ps) → False) : ExtN H0 (upd H a o) := fun b u h hu => by
  by_cases hb : b = a
  · subst hb
    exact (n u h hu).elim
  · rw [upd_ne hb]
    exact e b u h hu
theorem ext_no {H0 H : Hp} {a : Addr} (e : ExtN H0 H) (n : H a = none) : ∀ u, H0 a = some u → (∀ ps, u ≠ .tbl ps) → False := fun u h hu => by
  have := e a u h hu
  rw [n] at this
  cases this
theorem tabs_put {T : List (Addr × Str)} {H : Hp} {a : Addr} {xs ys : List V} (t : Tabs T H) (h : H a = some (.lst xs)) : Tabs T (upd H a (.lst ys)) := fun p hp => by
  obtain ⟨ps, h1, h2, h3⟩ := t p hp
  refine ⟨ps, ?_, h2, fun pos cv hc => ?_⟩
  · rw [upd_ne]
    · exact h1
    · intro e
      rw [e, h] at h1
      cases h1
  · obtain ⟨c, e1, e2⟩ := h3 pos cv hc
    refine ⟨c, e1, ?_⟩
    rw [upd_ne]
    · exact e2
    · intro e
      rw [e, h] at e2
      cases e2
theorem tabs_upd {T : List (Addr × Str)} {H : Hp} {a : Addr} {o : HO} (t : Tabs T H) (n : H a = none) : Tabs T (upd H a o) := t.ext fun b u h => by
  rw [upd_ne]
  · exact h
  · intro e
    rw [e, n] at h
    cases h
theorem ne_fresh {H : Hp} {a b : Addr} {o : HO} (h : H a = some o) (n : H b = none) : a ≠ b := fun e => by
  rw [e, n] at h
  cases h
/-- two things of the same data are alike -/
theorem ne_self {K : PySem.W.Frag} {H : Hp} {x y : V} {d : PyData} {Q : VK} (h1 : Dp K H x d) (h2 : Dp K H y d) (s : SeqAt.shaped d = true) (q : Q (.bl false) H) : rNeD K x y H Q := by
  refine ⟨d, d, h1, h2, s, s, ?_⟩
  rw [SeqAt.eqv_refl _ (SeqAt.canLay_of_shaped s)]
  exact q
theorem eq_self {K : PySem.W.Frag} {H : Hp} {x y : V} {d : PyData} {Q : VK} (h1 : Dp K H x d) (h2 : Dp K H y d) (s : SeqAt.shaped d = true) (q : Q (.bl true) H) : rEqD K x y H Q := by
  refine ⟨d, d, h1, h2, s, s, ?_⟩
  rw [SeqAt.eqv_refl _ (SeqAt.canLay_of_shaped s)]
  exact q
theorem sh2 (a b : Int) : SeqAt.shaped (.tuple [.int a, .int b]) = true := rfl
theorem sh3 (a b c : Int) : SeqAt.shaped (.tuple [.int a, .int b, .int c]) = true := rfl
theorem fresh_at {H H' : Hp} {p : Addr} (e : Same H H') (n : H' p = none) : H p = none := by
  cases h : H p with
  | none => rfl
  | some o =>
    have := e _ _ h
    rw [n] at this
    cases this
theorem same_put {H0 H : Hp} {p : Addr} {o : HO} (e : Same H0 H) (n : H0 p = none) : Same H0 (upd H p o) := fun b u h => by
  rw [upd_ne (ne_fresh h n)]
  exact e _ _ h
theorem sql_ext {K : PySem.W.Frag} {H H' : Hp} {a : Addr} {xs : List V} (e : Same H H') (h : SqL K H a xs) : SqL K H' a xs :=
  h.elim (fun h => .inl (h.elim (fun h => .inl (e _ _ h)) fun ⟨o, h⟩ => .inr ⟨o, e _ _ h⟩)) fun h => .inr h
end Rf

/-! What the head's Hook looks at beside the defs: the classes of refusals. -/
namespace Rf
open PySem L2 PySem.Spec PyProof.Rows LamX
abbrev plainX : List Str := ["BadClock", "BadTurn", "NoClock", "TooMany", "BadWall"]
def xcB (K : PySem.W.Frag) (x : Str) : Bool :=
  PySem.W.keepIn K (.ref (He.ga K x)) && (decide (PySem.W.subIn K (.ref (He.ga K x)) (.type "BaseException") = some true) && (decide (PySem.W.typeIn K (.ref (He.ga K x)) = some (.type "type")) && (exCB K (He.ga K x) &&
  (decide (PySem.W.exmOne K (.ref (He.ga K x)) (.ref (He.ga K "FoldError")) = some true) && decide (PySem.W.kitOne K (.ref (He.ga K x)) (.type "ValueError") = some true)))))
def xkB (K : PySem.W.Frag) (x : Str) : Bool := xNames.all fun y => decide (PySem.W.kitOne K (.ref (He.ga K x)) (.ref (He.ga K y)) = some (decide (x = y)))
def xpB (K : PySem.W.Frag) (x : Str) : Bool := PySem.W.excIn K (He.ga K x) He.veBase "ValueError.__new__"
def noB (K : PySem.W.Frag) (x f : Str) : Bool := decide (PySem.W.findIn K (.ref (He.ga K x)) f = some none)
def exB (K : PySem.W.Frag) : Bool := xNames.all (fun x => xcB K x && xkB K x) && (plainX.all (xpB K) && (noB K "Never" "one" && (noB K "Never" "other" && noB K "BadText" "row")))
def exP (l : List Str) (K : PySem.W.Frag) : Bool := l.all fun x => xcB K x && xpB K x
theorem xc_of {K : PySem.W.Frag} {mg : Str → Option Value} {x : Str} (h : xcB K x = true) (g : mg x = some (.ref (He.ga K x))) : Xc K mg x := by
  obtain ⟨h1, h⟩ := Bool.and_eq_true_iff.mp h
  obtain ⟨h2, h⟩ := Bool.and_eq_true_iff.mp h
  obtain ⟨h3, h⟩ := Bool.and_eq_true_iff.mp h
  obtain ⟨h4, h⟩ := Bool.and_eq_true_iff.mp h
  obtain ⟨h5, h⟩ := Bool.and_eq_true_iff.mp h
  exact ⟨g, h1, of_decide_eq_true h2, of_decide_eq_true h3, exCB_ok h4, of_decide_eq_true h5, of_decide_eq_true h⟩
theorem xp_of {K : PySem.W.Frag} {mg : Str → Option Value} {l : List Str} (h : exP l K = true) (g : ∀ y ∈ l, mg y = some (.ref (He.ga K y))) : ∀ y ∈ l, Xp K mg y := fun y hy => by
  obtain ⟨h1, h2⟩ := Bool.and_eq_true_iff.mp (List.all_eq_true.mp h y hy)
  exact ⟨xc_of h1 (g y hy), h2⟩
structure Xs (K : PySem.W.Frag) (mg : Str → Option Value) : Prop where
  x : ∀ y ∈ xNames, Xw K mg y
  p : ∀ y ∈ plainX, Xp K mg y
  no : PySem.W.findIn K (.ref (He.ga K "Never")) "one" = some none ∧ PySem.W.findIn K (.ref (He.ga K "Never")) "other" = some none
  nr : PySem.W.findIn K (.ref (He.ga K "BadText")) "row" = some none
theorem xs_of {K : PySem.W.Frag} {mg : Str → Option Value} (h : exB K = true) (g : ∀ y ∈ xNames, mg y = some (.ref (He.ga K y))) : Xs K mg := by
  obtain ⟨h1, h⟩ := Bool.and_eq_true_iff.mp h
  obtain ⟨h2, h⟩ := Bool.and_eq_true_iff.mp h
  obtain ⟨h3, h⟩ := Bool.and_eq_true_iff.mp h
  obtain ⟨h4, h5⟩ := Bool.and_eq_true_iff.mp h
  have x : ∀ y ∈ xNames, Xw K mg y := fun y hy => by
    obtain ⟨a, b⟩ := Bool.and_eq_true_iff.mp (List.all_eq_true.mp h1 y hy)
    exact ⟨xc_of a (g y hy), fun z hz => of_decide_eq_true (List.all_eq_true.mp b z hz)⟩
  refine ⟨x, fun y hy => ⟨(x y ?_).toXc, List.all_eq_true.mp h2 y hy⟩, ⟨of_decide_eq_true h3, of_decide_eq_true h4⟩, of_decide_eq_true h5⟩
  simp only [List.mem_cons, List.not_mem_nil, or_false] at hy ⊢
  rcases hy with h | h | h | h | h <;> simp [h]
/-- a def of the top as the head's Hook holds it -/
abbrev dd (x : Str) (st : Stmt) : He.DefD := ⟨(x, none), x, x, defArgs st, defBody st, defScope st, [], []⟩
abbrev btNames : List Str := ["isinstance", "int", "bool", "tuple", "len", "list", "str", "sorted", "enumerate", "all", "range", "dict", "sum", "zip", "min", "ValueError"]
theorem bt_of {mg : Str → Option Value} (h : ∀ x ∈ btNames, mg x = none) : Bt mg :=
  ⟨h _ (by simp), h _ (by simp), h _ (by simp), h _ (by simp), h _ (by simp), h _ (by simp), h _ (by simp), h _ (by simp), h _ (by simp), h _ (by simp), h _ (by simp), h _ (by simp), h _ (by simp), h _ (by simp), h _ (by simp), h _ (by simp)⟩
/-- a method of Wall -/
abbrev dm (m q : Str) (st : Stmt) : He.DefD := ⟨("Wall", some m), m, q, defArgs st, defBody st, defScope st, [], []⟩
theorem df_of {fa : List He.Fa} {fn : List He.DefD} {K : PySem.W.Frag} {x : Str} {st : Stmt} (c : He.SaysD fa fn K) (h : dd x st ∈ fn) : Df K x st := ⟨c.defs h⟩
end Rf

/-! A slot that holds one of several defs with one promise; the law's own parts that all laws share. -/
namespace Rf
open PySem L2 PySem.Spec PyProof.Rows LamX
def tCallO (i : Nat) (S : Addr → Prop) (sp : Sp) (E : XK) (t : TA) : TE := fun σ H Q => ∃ f, σ[i]? = some (some (.ref f)) ∧ S f ∧ t σ H fun vs H1 => sp vs H1 Q E
theorem pe_callO {X : Cx} {CX : CXT} {k i : Nat} {sp : Sp} {E : XK} {x : Str} {p pos : Pos} {e : Expr} {es : List Expr} {t : TA} {S : Addr → Prop}
    (A : ∀ f, S f → ∃ fd ps, FnOk X.prog X.w X.K X.mg X.base CX k f fd ps sp ∧ PySem.W.keepIn X.K (.ref f) = true ∧ Binds X.K fd ps []) (hr : Room k X.A) (hx : Passes CX X E) (ha : PA X (e :: es) t) (hN : X.N[i]? = some x := by rfl) (hv : Vis X.env.scope x := by first | exact Or.inl rfl | exact Or.inr (Or.inl rfl) | exact Or.inr (Or.inr rfl))
    (hdb : (x == ("__debug__" : Str)) = false := by decide) (hcd : (x == ("__classdict__" : Str)) = false := by decide)
    (he : starEach (e :: es) X.env = (false, eval e X.env) :: starEach es X.env := by rfl) (hpl : (backTo pos (starEach es X.env)).any (·.1) = false := by rfl) : PE X (.Call (.Name x p) (e :: es) [] pos) (tCallO i S sp E t) := by
  refine ⟨fun pins s σ H Q I h => ?_⟩
  obtain ⟨f, hs, hS, ht⟩ := h
  obtain ⟨fd, ps, F, hk, hb⟩ := A f hS
  refine (pe_callL (i := i) (f := f) (sp := sp) (dvs := []) (E := E) F hr hN hv hk hb .nil hx ha hdb hcd he hpl).run pins s σ H Q I ⟨hs, ?_⟩
  have e0 : (fun (vs : List V) (H1 : Hp) => sp (vs ++ []) H1 Q E) = fun vs H1 => sp vs H1 Q E := by
    funext vs H1
    rw [List.append_nil]
  rw [e0]
  exact ht
/-- a for's body, a while's -/
def forBody : List Stmt → List Stmt
  | .For _ _ b _ _ :: _ => b
  | _ :: r => forBody r
  | [] => []
theorem cut_int {ns : List Int} {lo hi : Option Int} {v : V} (h : v ∈ cutV (ns.map V.int) lo hi) : ∃ c, v = .int c := by
  unfold cutV at h
  obtain ⟨c, _, rfl⟩ := List.mem_map.mp (List.mem_of_mem_drop (List.mem_of_mem_take h))
  exact ⟨c, rfl⟩
abbrev lawT (K : PySem.W.Frag) : List (Addr × Str) := [(tbO K "law", "law.<locals>.<lambda>")]
def spLaw (K : PySem.W.Frag) : Sp := fun vs H Q _ => ∃ (a : Addr) (ns : List Int), vs = [.ref a] ∧ SqL K H a (ns.map V.int) ∧ ns.length ≤ 63 ∧ Tabs (lawT K) H ∧ ∀ H', Q (.bl true) H'
end Rf

/-! sorted of a list of tuples (n, y), no two of the same n. -/
namespace RfSort
open PySem PySem.W PySem.Calls PyProof.Rows Srt SrtO L2
variable {prog : Program} {w : World} {A : Around} {E : Value → Shared → Prop} {s : Shared}
def IsNum (h : Heap) (v : Value) (x : Int) : Prop := ∃ a o t r n, v = .ref a ∧ h.get? a = some o ∧ o.cls = .type "tuple" ∧ o.data = .seq #[.int x t, r] n
theorem IsNum.keeps {h h' : Heap} {v : Value} {x : Int} (p : IsNum h v x) (k : ∀ b o, h.get? b = some o → o.cls = .type "tuple" → h'.get? b = some o) : IsNum h' v x := by
  obtain ⟨a, o, t, r, n, e, ho, hc, hd⟩ := p
  exact ⟨a, o, t, r, n, e, k _ _ ho hc, hc, hd⟩
theorem swo_num (k : Value → Int) : Swo fun v u => decide (k v < k u) := by
  refine ⟨fun x y h => ?_, fun x y z h1 h2 => ?_⟩
  · have := of_decide_eq_true h
    exact decide_eq_false (by omega)
  · have a := of_decide_eq_false h1
    have b := of_decide_eq_false h2
    exact decide_eq_false (by omega)
theorem num_cmp {vs : List Value} {k : Value → Int} (hp : ∀ v ∈ vs, IsNum s.heap v (k v)) (hd : ∀ v ∈ vs, ∀ u ∈ vs, k v = k u → v = u) : Cmp prog w A s (tuples' true) (fun p => p.1 ∈ vs) (lt2 fun v u => decide (k v < k u)) := by
  intro p q hm hm'
  have h1 := hp _ hm
  have h2 := hp _ hm'
  have hdd := hd _ hm _ hm'
  show wpAny (model prog w) A (keyLt' (tuples' true) p.1 q.1) (fun r s' => s' = s ∧ r = decide (k p.1 < k q.1)) (fun _ _ => False) s
  generalize k p.1 = x at h1 hdd ⊢
  generalize k q.1 = x' at h2 hdd ⊢
  obtain ⟨a, o, t, r, n, e, ho, hc, hd⟩ := h1
  obtain ⟨a', o', t', r', n', e', ho', hc', hd'⟩ := h2
  rw [e, e']
  rw [e, e'] at hdd
  refine PySem.W.kat_lt ho hd ho' hd' ?_
  show PySem.W.KatLex prog w A true (decide (2 < 2)) _ [(.int x t, .int x' t'), (r, r')] 0 s
  refine PySem.W.kat_cons (SeqAt.EqAt.int_int x t x' t' prog w _ _ ?_)
  refine PySem.W.kat_go (fun e1 => ?_) (fun e1 => ?_)
  · have ex : x = x' := by simpa using e1
    have ea : a = a' := by
      have := hdd ex
      injection this
    subst ea
    rw [ho] at ho'
    have eo : o = o' := Option.some.inj ho'
    subst eo
    rw [hd] at hd'
    have er : r = r' := by
      injection hd' with z _
      have z2 := congrArg Array.toList z
      simp at z2
      exact z2.2
    subst er
    refine PySem.W.kat_yes (PySem.W.kat_cons (SeqAt.EqAt.same r prog w _ _ ?_))
    refine PySem.W.kat_go (fun _ => ?_) (fun e2 => by cases e2)
    have e3 : decide (x < x') = false := decide_eq_false (by omega)
    exact PySem.W.kat_yes (PySem.W.kat_nil ⟨rfl, e3.symm⟩)
  · exact PySem.W.kat_no (oneLt_int ⟨rfl, rfl⟩)
theorem firsts_num {h : Heap} : ∀ {vs : List Value}, (∀ v ∈ vs, ∃ x, IsNum h v x) → ∃ fs : List Value, PySem.W.KatTups h vs fs ∧ fs.length = vs.length ∧ ∀ f ∈ fs, ∃ x t, f = Value.int x t
  | [], _ => ⟨[], PySem.W.KatTups.nil, rfl, fun _ hm => by simp at hm⟩
  | v :: vs, hp => by
    obtain ⟨fs, h1, h2, h3⟩ := firsts_num (vs := vs) fun v' hm => hp v' (List.mem_cons_of_mem _ hm)
    obtain ⟨x, a, o, t, r, n, e, ho, hc, hd⟩ := hp v (List.mem_cons_self ..)
    subst e
    refine ⟨.int x t :: fs, PySem.W.KatTups.cons ho hc hd rfl h1, by rw [List.length_cons, List.length_cons, h2], fun f hm => ?_⟩
    rcases List.mem_cons.mp hm with rfl | hm
    · exact ⟨x, t, rfl⟩
    · exact h3 f hm
theorem num_sortable {a : Addr} {vs : List Value} {k : Value → Int} (h0 : 0 < vs.length) (hp : ∀ v ∈ vs, IsNum s.heap v (k v)) (hd : ∀ v ∈ vs, ∀ u ∈ vs, k v = k u → v = u) (ha : ∀ o, s.heap.get? a = some o → o.cls ≠ .type "tuple") : SortableO prog w A s a vs fun v u => decide (k v < k u) := by
  intro h' keep
  have hp' : ∀ v ∈ vs, IsNum h' v (k v) := fun v hm => (hp v hm).keeps fun b o e c => keep b o (fun z => by subst z; exact ha o e c) e
  obtain ⟨fs, h1, h2, h3⟩ := firsts_num fun v hm => ⟨_, hp' v hm⟩
  refine ⟨tuples' true, fun Q E hq => ?_, num_cmp hp' hd⟩
  refine PySem.W.kat_kind (T := .type "int") h1 (by omega) (fun f hm => ?_) (by rfl) ?_
  · obtain ⟨x, t, rfl⟩ := h3 f hm
    exact PySem.W.Looks.now
  · have e : (Value.type "int" != Value.type "tuple") = true := by first | decide +kernel | rfl | decide
    rw [e]
    exact hq
theorem sorted_num {l : Addr} {vs : List Value} {k : Value → Int} {Q : Value → Shared → Prop} (hl : s.heap.IsList l vs.toArray) (hz : vs.length ≤ sizeLine) (hp : ∀ v ∈ vs, IsNum s.heap v (k v)) (hd : ∀ v ∈ vs, ∀ u ∈ vs, k v = k u → v = u)
    (h : ∀ (h' : Heap) (d : Addr) (out : List Value), Srtd (fun v u => decide (k v < k u)) out → Stb (fun v u => decide (k v < k u)) out vs → (∀ b o, s.heap.get? b = some o → h'.get? b = some o) → s.heap.objs.size ≤ d → (∃ n, h'.get? d = some (seqObj "list" out.toArray n)) → Q (.ref d) { s with heap := h' }) :
    wpAny (model prog w) A (call (.builtin "sorted") [.ref l]) Q E s := by
  refine sorted_ord (swo_num k) hl hz (fun h2 h₁ a ha kk => ?_) fun out hs hb => ?_
  · refine num_sortable (s := { s with heap := h₁ }) (by omega) (fun v hm => (hp v hm).keeps fun b o e _ => (kk b o e).2) hd fun o e => ?_
    have e' : some o = some (seqObj "list" vs.toArray 0) := e.symm.trans ha
    cases e'
    intro c
    exact absurd (Value.type.inj c) (by decide)
  · exact h _ _ out hs hb (fun b o e => sortedAll_old e) (Nat.le_succ _) (sortedAll_at s.heap vs out.toArray)
end RfSort
namespace Rf
open PySem L2 PySem.Spec PyProof.Rows
abbrev ltN (k : V → Int) (x y : V) : Bool := decide (k x < k y)
theorem ltN_swo (k : V → Int) : SrtO.Swo (ltN k) := by
  refine ⟨fun x y h => ?_, fun x y z h1 h2 => ?_⟩
  · have := of_decide_eq_true h
    exact decide_eq_false (by omega)
  · have a := of_decide_eq_false h1
    have b := of_decide_eq_false h2
    exact decide_eq_false (by omega)
def rSortedN (K : PySem.W.Frag) : List V → Hp → VK → Prop := fun vs H Q => ∃ (a : Addr) (xs : List V) (k : V → Int), vs = [V.ref a] ∧ SqL K H a xs ∧ (∀ x ∈ xs, ∃ t y, x = V.ref t ∧ H t = some (.tup [.int (k x), y])) ∧ (∀ x ∈ xs, ∀ y ∈ xs, k x = k y → x = y) ∧
  ∀ ys p, SrtO.Srtd (ltN k) ys → SrtO.Stb (ltN k) ys xs → H p = none → Q (.ref p) (upd H p (.lst ys))
theorem cr_sortedN {X : Cx} : CallR X (.builtin "sorted") (rSortedN X.K) := by
  intro pins s σ H vs us Q I r h
  obtain ⟨a, xs, k, rfl, hs, hx, hdist, q⟩ := h
  obtain ⟨its, rv, hl, hz⟩ := I.list hs
  obtain ⟨u, rfl, ru⟩ := vals1 r
  obtain rfl : u = Value.ref a := ru
  obtain ⟨e1, e2⟩ := refs_back rv fun x m => by
    obtain ⟨t, _, e, _⟩ := hx x m
    exact ⟨t, e⟩
  refine RfSort.sorted_num (k := fun u => k (backV u)) hl.isList (by rw [← rv.length]; exact hz) (fun v hv => ?_) (fun v hv u hu e => ?_) fun h' d out h1 h2 kp hd hn => ?_
  · obtain ⟨t, rfl⟩ := e2 v hv
    have hm : V.ref t ∈ xs := by rw [e1]; exact List.mem_map.mpr ⟨_, hv, rfl⟩
    obtain ⟨t', y, e, ht⟩ := hx _ hm
    cases e
    obtain ⟨_, its2, r2, o, ho, hc, n, hd⟩ := I.hok _ _ ht
    obtain ⟨u1, u2, rfl, ri, rj⟩ := vals2 r2
    obtain ⟨t1, rfl⟩ := ri
    exact ⟨t, o, t1, u2, n, rfl, ho, hc, hd⟩
  · obtain ⟨t, rfl⟩ := e2 v hv
    obtain ⟨t2, rfl⟩ := e2 u hu
    have hm : V.ref t ∈ xs := by rw [e1]; exact List.mem_map.mpr ⟨_, hv, rfl⟩
    have hm2 : V.ref t2 ∈ xs := by rw [e1]; exact List.mem_map.mpr ⟨_, hu, rfl⟩
    have := hdist _ hm _ hm2 e
    injection this with z
    rw [z]
  · have h3 : ∀ u ∈ out, ∃ a, u = Value.ref a := fun u hu => e2 u (h2.perm.mem_iff.mp hu)
    obtain ⟨n, hn⟩ := hn
    have hb : SrtO.Stb (ltN k) (out.map backV) xs := by
      rw [e1]
      exact SrtO.Stb.map (ltN_swo k) backV h2
    refine ⟨.ref d, upd H d (.lst (out.map backV)), I.laid (t' := s.toks) kp hd ⟨?_, out, n, vals_back h3, hn⟩, rfl, q _ d (SrtO.srtd_map h1) hb (I.hok.fresh hd)⟩
    rw [hb.len]
    exact hz
end Rf

/-! Methods of the class Wall as the layer's promises; a dict beside the empty one. -/
namespace Rf
open PySem L2 PySem.Spec PyProof.Rows LamX
def rEqE : R2 := fun x y H Q => ∃ (a b : Addr) (ka : List (Key × V)), x = .ref a ∧ y = .ref b ∧ H a = some (.dK ka) ∧ H b = some (.dK []) ∧ Q (.bl (decide (ka = []))) H
theorem op_eqE {X : Cx} (hu : X.A.units < cLine) : OpR X (compareOp .Eq) rEqE := by
  intro pins s σ H x y v u Q I rx ry h
  obtain ⟨a, b, ka, rfl, rfl, ea, eb, q⟩ := h
  obtain rfl : v = Value.ref a := rx
  obtain rfl : u = Value.ref b := ry
  obtain ⟨_, ya, va, ra, da⟩ := (show ObjOk X.prog X.w H s.heap a (.dK ka) from I.hok a _ ea)
  obtain ⟨_, yb, vb, rb, db⟩ := (show ObjOk X.prog X.w H s.heap b (.dK []) from I.hok b _ eb)
  have l1 := ra.length
  have l2 := rb.length
  refine PySem.W.keq_eq (knd := mixKind X.prog X.w) (r := true) ya yb da db hu (fun e => ?_) (fin_bl I q ?_)
  · have e0 : ka = [] := by
      cases ka with
      | nil => rfl
      | cons p r =>
        exfalso
        simp at l1 l2
        try omega
    subst e0
    cases va with
    | nil => exact .nil
    | cons p r => exfalso; simp at l1
  · cases ka with
    | nil =>
      simp at l1 l2 ⊢
      omega
    | cons p r =>
      simp at l1 l2 ⊢
      omega

/-! ### the methods of Wall -/
abbrev wC (K : PySem.W.Frag) : Addr := He.ga K "Wall"
/-- the method m as the statement st writes it -/
structure Dm (K : PySem.W.Frag) (m q : Str) (st : Stmt) : Prop where
  ex : ∃ fd, FunD K m q (defArgs st) (defBody st) (defScope st) [] [] (He.ma K (wC K) m) fd
theorem dm_of {fa : List He.Fa} {fn : List He.DefD} {K : PySem.W.Frag} {m q : Str} {st : Stmt} (c : He.SaysD fa fn K) (h : dm m q st ∈ fn) : Dm K m q st := ⟨c.defs h⟩
structure Wc (K : PySem.W.Frag) (mg : Str → Option Value) : Prop where
  g : mg "Wall" = some (.ref (wC K))
  c : Cls K (wC K)
  hung : NoAttr K (wC K) "hung"
  given : NoAttr K (wC K) "given"
  mkr : Mk K (wC K) (He.ma K (wC K) "__init__")
structure HasM (P : Program) (w : World) (K : PySem.W.Frag) (mg : Str → Option Value) (base : Heap) (CX : CXT) (k : Nat) (m : Str) (ps : List Str) (sp : Sp) : Prop where
  ok : ∃ fd, FnOk P w K mg base CX k (He.ma K (wC K) m) fd ps sp ∧ Binds K fd ps []
section
variable {CX : CXT} {P : Program} {w : World} {K : PySem.W.Frag} {mg : Str → Option Value} {base : Heap} {m q : Str} {st : Stmt} {N ps : List Str} {k : Nat} {sp : Sp}
abbrev bxM (CX : CXT) (P : Program) (w : World) (K : PySem.W.Frag) (mg : Str → Option Value) (base : Heap) (N : List Str) (m q : Str) (st : Stmt) (cd : Value) (A : Around) (outer : List Env) (s : Shared) (H : Hp) (E : XK) : Cx :=
  cxOf CX P w K mg base N q (defScope st) (He.ma K (wC K) m) cd A outer s H E
theorem has_ofM (D : Dm K m q st) (S : FnScope N ps (defScope st))
    (hb : ∀ (kV doc pm : Value) (an : Option Addr) (cdv ct : Value) (us : List Value), us.length = ps.length → bindArgs (PySem.W.fnOf m q (defArgs st) (defBody st) (defScope st) .none kV doc pm an cdv ct) ⟨us, []⟩ = pure (ps.zip us))
    (len : ∀ vs H Q E, sp vs H Q E → vs.length = ps.length)
    (hbody : ∀ (cd : Value) (A : Around) (outer : List Env) (s : Shared) (H : Hp) (vs : List V) (Q : VK) (E : XK), Room k (A.deeper (envOfC q (defScope st) s.heap.objs.size (He.ma K (wC K) m) cd)) → sp vs H Q E →
      ∃ t, PSs (bxM CX P w K mg base N m q st cd A outer s H E) (defBody st) t ∧ t { nx := fun _ H' => Q .non H', rt := Q } (L2.start N vs) H) :
    HasM P w K mg base CX (k + 1) m ps sp := by
  obtain ⟨fd, F⟩ := D.ex
  obtain ⟨oc, od, dV, kV, doc, pm, an, cdv, ct, osl, rfl, lk, hcd, hD, _⟩ := F.ex
  rcases hD with ⟨_, rfl⟩ | ⟨e, _⟩
  · exact ⟨_, fn_of lk hcd S len (hbody cdv), .all fun us hl => hb kV doc pm an _ ct us hl⟩
  · exact absurd rfl e
theorem has_ofM0 (D : Dm K m q st) (S : FnScope N ps (defScope st))
    (hb : ∀ (kV doc pm : Value) (an : Option Addr) (cdv ct : Value) (us : List Value), us.length = ps.length → bindArgs (PySem.W.fnOf m q (defArgs st) (defBody st) (defScope st) .none kV doc pm an cdv ct) ⟨us, []⟩ = pure (ps.zip us))
    (len : ∀ vs H Q E, sp vs H Q E → vs.length = ps.length)
    (hbody : ∀ (cd : Value) (A : Around) (outer : List Env) (s : Shared) (H : Hp) (vs : List V) (Q : VK) (E : XK), Room k (A.deeper (envOfC q (defScope st) s.heap.objs.size (He.ma K (wC K) m) cd)) → sp vs H Q E →
      ∃ t, PSs (bxM CX0 P w K mg base N m q st cd A outer s H E).nox (defBody st) t ∧ t { nx := fun _ H' => Q .non H', rt := Q } (L2.start N vs) H) :
    HasM P w K mg base CX0 (k + 1) m ps sp :=
  has_ofM D S hb len fun cd A outer s H vs Q E hr h => by
    obtain ⟨t, h1, h2⟩ := hbody cd A outer s H vs Q E hr h
    exact ⟨t, h1.nox, h2⟩
theorem takesM {N m q st cd A outer s H E} : Takes (bxM (L2.CX P w) P w K mg base N m q st cd A outer s H E) (fun cls d _ H' => E cls d H') := takes_of rfl rfl rfl rfl
theorem passM {N m q st cd A outer s H E} : Passes (L2.CX P w) (bxM (L2.CX P w) P w K mg base N m q st cd A outer s H E) E := passes_call (W := fun cls d _ H' => E cls d H') takesM fun _ _ _ _ h => h
end
section
variable {X : Cx} {CX : CXT} {k : Nat} {ps : List Str} {sp : Sp} {E : XK} {m : Str} {p pos apos : Pos} {o e : Expr} {es : List Expr} {ta : TE} {t : TA}
theorem pe_mth {pl : Sem Bool} (h : HasM X.prog X.w X.K X.mg X.base CX k m ps sp) (c : Cls X.K (wC X.K)) (mt : Meth X.K (wC X.K) m (He.ma X.K (wC X.K) m)) (hr : Room k X.A) (hx : Passes CX X E) (he : PE X o ta) (ha : PA X (e :: es) t)
    (hst : starEach (e :: es) X.env = (false, eval e X.env) :: starEach es X.env := by rfl) (hpl : (backTo pos (starEach es X.env)).any (·.1) = false := by rfl)
    (ht : eval (.Call (.Attribute o m apos) (e :: es) [] pos) X.env = (do
      let ov ← eval o X.env
      standAt apos.atName
      let (f, first) ← holding [ov] (getMethod ov m pl)
      callWith pos f first (backTo pos (starEach (e :: es) X.env)) (backToKw pos (keywordEach [] X.env))) := by rfl) :
    PE X (.Call (.Attribute o m apos) (e :: es) [] pos) (tMeth (wC X.K) m sp [] E ta t) := by
  obtain ⟨fd, F, b⟩ := h.ok
  exact pe_meth he c mt F hr b .nil hx ha hst hpl ht
theorem pe_mth0 {pl : Sem Bool} (h : HasM X.prog X.w X.K X.mg X.base CX k m ps sp) (c : Cls X.K (wC X.K)) (mt : Meth X.K (wC X.K) m (He.ma X.K (wC X.K) m)) (hr : Room k X.A) (hx : Passes CX X E) (he : PE X o ta)
    (ht : eval (.Call (.Attribute o m apos) [] [] pos) X.env = (do
      let ov ← eval o X.env
      standAt apos.atName
      let (f, first) ← holding [ov] (getMethod ov m pl)
      callWith pos f first (backTo pos (starEach [] X.env)) (backToKw pos (keywordEach [] X.env))) := by rfl) :
    PE X (.Call (.Attribute o m apos) [] [] pos) (tMeth (wC X.K) m sp [] E ta tNil) := by
  obtain ⟨fd, F, b⟩ := h.ok
  exact pe_meth0 he c mt F hr b .nil hx ht
/-- Wall() -/
theorem pe_wall (h : HasM X.prog X.w X.K X.mg X.base CX0 k "__init__" ["self"] sp) (c : Wc X.K X.mg) (hr : Room (k + 1) X.A) (hg : Gl X "Wall" := by rfl) : PE X (.Call (.Name "Wall" p) [] [] pos) (tMake (wC X.K) sp [] E0 tNil) := by
  obtain ⟨fd, F, b⟩ := h.ok
  exact pe_make0 c.mkr F hr hg c.g b .nil pass0
end

/-! ### a wall as it stands -/
abbrev wIns (K : PySem.W.Frag) (dx d : Addr) (g : Int) : HO := .ins (wC K) dx [("hung", .ref d), ("given", .int g)]
/-! ### rows of numbers and clocks -/
abbrev Row : Type := Int × Int × Int
def getL (l : List Row) (n : Int) : Option (Int × Int) := (l.find? fun e => decide (e.1 = n)).map (·.2)
def putL (l : List Row) (n : Int) (c : Int × Int) : List Row := if (l.any fun e => decide (e.1 = n)) = true then l.map (fun e => if e.1 = n then (e.1, c) else e) else l ++ [(n, c)]
def dropL (l : List Row) (n : Int) : List Row := l.filter fun e => decide (e.1 ≠ n)
def Inc (l : List Row) : Prop := l.Pairwise fun a b => a.1 < b.1
/-- tuples stay -/
def Tp (H H' : Hp) : Prop := ∀ b xs, H b = some (.tup xs) → H' b = some (.tup xs)
theorem ClkAt.tp {H H' : Hp} {x : V} {c : Int × Int} (e : Tp H H') (h : ClkAt H x c) : ClkAt H' x c := by
  obtain ⟨a, e1, e2⟩ := h.at_
  exact ⟨⟨a, e1, e _ _ e2⟩, h.ok⟩
theorem Tp.of {H H' : Hp} (e : Same H H') : Tp H H' := fun b xs h => e b _ h
theorem Tp.ex {H H' : Hp} (e : ExtN H H') : Tp H H' := fun b xs h => xtup e h
theorem Tp.refl (H : Hp) : Tp H H := fun _ _ h => h
theorem Tp.trans {H H1 H2 : Hp} (a : Tp H H1) (b : Tp H1 H2) : Tp H H2 := fun x o h => b x o (a x o h)
theorem Tp.put {H : Hp} {a : Addr} {o : HO} (n : ∀ xs, H a ≠ some (.tup xs)) : Tp H (upd H a o) := fun b xs h => by
  rw [upd_ne]
  · exact h
  · intro e
    rw [e] at h
    exact n _ h
/-- the rows of a dict of clocks: numbers, clocks -/
inductive Rws (H : Hp) : List (Key × V) → List Row → Prop
  | nil : Rws H [] []
  | cons {n : Int} {v : V} {c : Int × Int} {r : List (Key × V)} {l : List Row} (h : ClkAt H v c) (t : Rws H r l) : Rws H ((.inl n, v) :: r) ((n, c) :: l)
theorem Rws.tp {H H' : Hp} {r : List (Key × V)} {l : List Row} (e : Tp H H') (h : Rws H r l) : Rws H' r l := by
  induction h with
  | nil => exact .nil
  | cons h _ ih => exact .cons (h.tp e) ih
theorem Rws.len {H : Hp} {r : List (Key × V)} {l : List Row} (h : Rws H r l) : r.length = l.length := by
  induction h with
  | nil => rfl
  | cons _ _ ih => simp [ih]
theorem Rws.keys {H : Hp} {r : List (Key × V)} {l : List Row} (h : Rws H r l) : r.map (·.1) = (l.map (·.1)).map Sum.inl := by
  induction h with
  | nil => rfl
  | cons _ _ ih => simp [ih]
theorem Rws.val {H : Hp} {r : List (Key × V)} {l : List Row} {n : Int} (h : Rws H r l) : (valV r (.inl n) = none ∧ getL l n = none) ∨ ∃ v c, valV r (.inl n) = some v ∧ getL l n = some c ∧ ClkAt H v c := by
  induction h with
  | nil => exact .inl ⟨rfl, rfl⟩
  | @cons m v c r l h t ih =>
    by_cases e : m = n
    · subst e
      exact .inr ⟨v, c, valV_pos rfl, by simp [getL], h⟩
    · have e1 : valV ((Sum.inl m, v) :: r) (.inl n : Key) = valV r (.inl n) := valV_neg (by simpa using e)
      have e2 : getL ((m, c) :: l) n = getL l n := by simp [getL, List.find?_cons, e]
      rw [e1, e2]
      exact ih
theorem Rws.any {H : Hp} {r : List (Key × V)} {l : List Row} {n : Int} (h : Rws H r l) : (r.any fun kv => decide (kv.1 = (.inl n : Key))) = l.any fun e => decide (e.1 = n) := by
  induction h with
  | nil => rfl
  | @cons m v c r l h t ih =>
    have e : decide ((Sum.inl m : Key) = Sum.inl n) = decide (m = n) := by simp
    show (decide ((Sum.inl m : Key) = Sum.inl n) || _) = (decide (m = n) || _)
    rw [ih, e]
theorem Rws.app {H : Hp} {r r' : List (Key × V)} {l l' : List Row} (h : Rws H r l) (h' : Rws H r' l') : Rws H (r ++ r') (l ++ l') := by
  induction h with
  | nil => exact h'
  | cons h _ ih => exact .cons h ih
theorem Rws.map {H : Hp} {r : List (Key × V)} {l : List Row} {n : Int} {v : V} {c : Int × Int} (hv : ClkAt H v c) (h : Rws H r l) : Rws H (r.map fun kv => if kv.1 = (.inl n : Key) then (kv.1, v) else kv) (l.map fun e => if e.1 = n then (e.1, c) else e) := by
  induction h with
  | nil => exact .nil
  | @cons m v' c' r l h t ih =>
    by_cases e : m = n
    · subst e
      simp only [List.map_cons, if_pos]
      exact .cons hv ih
    · have e2 : ¬ ((Sum.inl m : Key) = Sum.inl n) := by simpa using e
      simp only [List.map_cons, if_neg e, if_neg e2]
      exact .cons h ih
theorem Rws.put {H : Hp} {r : List (Key × V)} {l : List Row} {n : Int} {v : V} {c : Int × Int} (h : Rws H r l) (hv : ClkAt H v c) : Rws H (putK r (.inl n) v) (putL l n c) := by
  unfold putK putL
  rw [h.any]
  split
  · exact h.map hv
  · exact h.app (.cons hv .nil)
theorem Rws.drop {H : Hp} {r : List (Key × V)} {l : List Row} {n : Int} (h : Rws H r l) : Rws H (dropK r (.inl n)) (dropL l n) := by
  unfold dropK dropL
  induction h with
  | nil => exact .nil
  | @cons m v c r l h t ih =>
    by_cases e : m = n
    · subst e
      simp only [List.filter_cons]
      simpa using ih
    · have e2 : ¬ ((Sum.inl m : Key) = Sum.inl n) := by simpa using e
      simp only [List.filter_cons]
      rw [if_pos (by simpa using e2), if_pos (by simpa using e)]
      exact .cons h ih
theorem Rws.clk {H : Hp} {r : List (Key × V)} {l : List Row} (h : Rws H r l) : ∀ e ∈ l, Clk e.2 := by
  induction h with
  | nil => intro e he; cases he
  | @cons m v c r l h t ih =>
    intro e he
    rcases List.mem_cons.mp he with rfl | he
    · exact h.ok
    · exact ih e he
theorem getL_mem {l : List Row} {n : Int} {c : Int × Int} (h : getL l n = some c) : (n, c) ∈ l := by
  unfold getL at h
  obtain ⟨e, he, rfl⟩ := Option.map_eq_some_iff.mp h
  have h1 := List.mem_of_find?_eq_some he
  have h2 := List.find?_some he
  have h3 : e.1 = n := of_decide_eq_true h2
  rw [← h3]
  exact h1
theorem getL_none {l : List Row} {n : Int} (h : getL l n = none) : ∀ e ∈ l, e.1 ≠ n := by
  intro e he z
  unfold getL at h
  rw [Option.map_eq_none_iff, List.find?_eq_none] at h
  exact h e he (by simpa using z)
theorem getL_some {l : List Row} {n : Int} (h : ∃ e ∈ l, e.1 = n) : ∃ c, getL l n = some c := by
  cases q : getL l n with
  | some c => exact ⟨c, rfl⟩
  | none =>
    obtain ⟨e, he, z⟩ := h
    exact absurd z (getL_none q e he)
/-- what stands on a wall -/
structure WOk (l : List Row) (g : Int) : Prop where
  inc : Inc l
  bd : ∀ e ∈ l, 1 ≤ e.1 ∧ e.1 ≤ g
  g0 : 0 ≤ g
theorem WOk.nil : WOk [] 0 := ⟨List.Pairwise.nil, fun e he => (by cases he), by decide⟩
theorem putL_new {l : List Row} {g : Int} {c : Int × Int} (h : WOk l g) : putL l (g + 1) c = l ++ [(g + 1, c)] := by
  unfold putL
  rw [if_neg]
  intro z
  obtain ⟨e, he, h2⟩ := List.any_eq_true.mp z
  have := (h.bd e he).2
  have h3 : e.1 = g + 1 := of_decide_eq_true h2
  omega
theorem WOk.put {l : List Row} {g : Int} {c : Int × Int} (h : WOk l g) : WOk (putL l (g + 1) c) (g + 1) := by
  rw [putL_new h]
  refine ⟨List.pairwise_append.mpr ⟨h.inc, List.pairwise_singleton _ _, fun a ha b hb => ?_⟩, fun e he => ?_, by have := h.g0; omega⟩
  · rw [List.mem_singleton.mp hb]
    have := (h.bd a ha).2
    show a.1 < g + 1
    omega
  · rcases List.mem_append.mp he with he | he
    · have := h.bd e he
      omega
    · rw [List.mem_singleton.mp he]
      have := h.g0
      show 1 ≤ g + 1 ∧ g + 1 ≤ g + 1
      omega
theorem WOk.drop {l : List Row} {g n : Int} (h : WOk l g) : WOk (dropL l n) g :=
  ⟨List.Pairwise.sublist List.filter_sublist h.inc, fun e he => h.bd e (List.mem_filter.mp he).1, h.g0⟩
theorem putL_old {l : List Row} {n : Int} {c c' : Int × Int} (h : getL l n = some c') : putL l n c = l.map (fun e => if e.1 = n then (e.1, c) else e) := by
  unfold putL
  rw [if_pos]
  exact List.any_eq_true.mpr ⟨_, getL_mem h, by simp⟩
theorem putL_keys {l : List Row} {n : Int} {c c' : Int × Int} (h : getL l n = some c') : (putL l n c).map (·.1) = l.map (·.1) := by
  rw [putL_old h, List.map_map]
  refine List.map_congr_left fun e _ => ?_
  show (if e.1 = n then (e.1, c) else e).1 = e.1
  split <;> rfl
theorem WOk.turn {l : List Row} {g n : Int} {c c' : Int × Int} (h : WOk l g) (e : getL l n = some c') : WOk (putL l n c) g := by
  have k := putL_keys (c := c) e
  refine ⟨?_, fun r hr => ?_, h.g0⟩
  · have := List.pairwise_map.mpr h.inc
    exact List.pairwise_map.mp (k ▸ List.pairwise_map.mpr h.inc : ((putL l n c).map (·.1)).Pairwise (· < ·))
  · have hm : r.1 ∈ (putL l n c).map (·.1) := List.mem_map.mpr ⟨r, hr, rfl⟩
    rw [k] at hm
    obtain ⟨s, hs, e⟩ := List.mem_map.mp hm
    rw [← e]
    exact h.bd s hs
theorem putL_len {l : List Row} {n : Int} {c c' : Int × Int} (h : getL l n = some c') : (putL l n c).length = l.length := by
  rw [putL_old h, List.length_map]
theorem dropL_len {l : List Row} {n : Int} : (dropL l n).length ≤ l.length := List.length_filter_le _ _
end Rf

/-! Rows of clocks told as a list of pairs. -/
namespace Rf
open PySem L2 PySem.Spec PyProof.Rows
def rowD (e : Row) : PyData := .tuple [.int e.1, .tuple [.int e.2.1, .int e.2.2]]
theorem canLay_rows : ∀ l : List Row, PyData.canLayAll0 (l.map rowD) = true
  | [] => by simp [PyData.canLayAll0]
  | e :: l => by simp [PyData.canLayAll0, PyData.canLay0, rowD, canLay_rows l]
theorem depth_rows : ∀ l : List Row, PyData.depthAll (l.map rowD) ≤ 2
  | [] => by simp [PyData.depthAll]
  | e :: l => by
    have := depth_rows l
    simp only [List.map_cons, PyData.depthAll, PyData.depth, rowD]
    omega
theorem shaped_rows (l : List Row) : SeqAt.shaped (.list (l.map rowD)) = true := by
  unfold SeqAt.shaped
  have h := depth_rows l
  rw [Bool.and_eq_true]
  refine ⟨by simp [PyData.canLay0, canLay_rows l], decide_eq_true ?_⟩
  simp only [PyData.depth]
  omega
inductive Told (H : Hp) : List Addr → List Row → Prop
  | nil : Told H [] []
  | cons {t : Addr} {v : V} {e : Row} {ts : List Addr} {l : List Row} (h : H t = some (.tup [.int e.1, v])) (c : ClkAt H v e.2) (r : Told H ts l) : Told H (t :: ts) (e :: l)
theorem Told.tp {H H' : Hp} {ts : List Addr} {l : List Row} (e : Tp H H') (h : Told H ts l) : Told H' ts l := by
  induction h with
  | nil => exact .nil
  | cons h c _ ih => exact .cons (e _ _ h) (c.tp e) ih
theorem Told.len {H : Hp} {ts : List Addr} {l : List Row} (h : Told H ts l) : ts.length = l.length := by
  induction h with
  | nil => rfl
  | cons _ _ _ ih => simp [ih]
theorem told_of {H : Hp} : ∀ {ts : List Addr} {r : List (Key × V)} {l : List Row}, Paired (fun (t : Addr) (q : Key × V) => H t = some (.tup [kV q.1, q.2])) ts r → Rws H r l → Told H ts l
  | _, _, _, .nil, .nil => .nil
  | _, _, _, .cons h p, .cons c q => .cons h c (told_of p q)
theorem Told.dp {K : PySem.W.Frag} {H : Hp} {ts : List Addr} {l : List Row} (h : Told H ts l) : DpAll K H (ts.map V.ref) (l.map rowD) := by
  induction h with
  | nil => exact .nil
  | @cons t v e ts l h c _ ih =>
    obtain ⟨a, rfl, ha⟩ := c.at_
    exact .cons (.tup (.of h) (.cons (.int _) (.cons (.tup (.of ha) (.cons (.int _) (.cons (.int _) .nil))) .nil))) ih
/-- the number of a row told at x -/
def numOf (H : Hp) (x : V) : Int := match x with
  | .ref t => (match H t with
    | some (.tup (.int n :: _)) => n
    | _ => 0)
  | _ => 0
theorem numOf_at {H : Hp} {t : Addr} {n : Int} {v : V} (h : H t = some (.tup [.int n, v])) : numOf H (.ref t) = n := by
  show (match H t with
    | some (.tup (.int n :: _)) => n
    | _ => 0) = n
  rw [h]
theorem Told.each {H : Hp} {ts : List Addr} {l : List Row} (h : Told H ts l) : ∀ x ∈ ts.map V.ref, (∃ t y, x = V.ref t ∧ H t = some (.tup [.int (numOf H x), y])) ∧ ∃ e ∈ l, numOf H x = e.1 := by
  induction h with
  | nil => intro x hx; cases hx
  | @cons t v e ts l h c _ ih =>
    intro x hx
    rcases List.mem_cons.mp hx with rfl | hx
    · have := numOf_at h
      exact ⟨⟨t, v, rfl, by rw [this]; exact h⟩, e, List.mem_cons_self, this⟩
    · obtain ⟨h1, e', he, h2⟩ := ih x hx
      exact ⟨h1, e', List.mem_cons_of_mem _ he, h2⟩
theorem Told.dist {H : Hp} {ts : List Addr} {l : List Row} (h : Told H ts l) (i : Inc l) : ∀ x ∈ ts.map V.ref, ∀ y ∈ ts.map V.ref, numOf H x = numOf H y → x = y := by
  induction h with
  | nil => intro x hx; cases hx
  | @cons t v e ts l h c r ih =>
    have i' := List.pairwise_cons.mp i
    have k := numOf_at h
    intro x hx y hy z
    rcases List.mem_cons.mp hx with rfl | hx <;> rcases List.mem_cons.mp hy with rfl | hy
    · rfl
    · obtain ⟨_, e', he, h2⟩ := r.each y hy
      have := i'.1 e' he
      omega
    · obtain ⟨_, e', he, h2⟩ := r.each x hx
      have := i'.1 e' he
      omega
    · exact ih i'.2 x hx y hy z
theorem Told.srt {H : Hp} {ts : List Addr} {l : List Row} (h : Told H ts l) (i : Inc l) : SrtO.Srtd (ltN (numOf H)) (ts.map V.ref) := by
  induction h with
  | nil => exact List.Pairwise.nil
  | @cons t v e ts l h c r ih =>
    have i' := List.pairwise_cons.mp i
    refine List.pairwise_cons.mpr ⟨fun y hy => ?_, ih i'.2⟩
    obtain ⟨_, e', he, h2⟩ := r.each y hy
    have := i'.1 e' he
    have k := numOf_at h
    exact decide_eq_false (by omega)
/-- sorted of such a list: the same rows -/
theorem sorted_told {K : PySem.W.Frag} {H : Hp} {Q : VK} {a : Addr} {ts : List Addr} {l : List Row} (ha : H a = some (.lst (ts.map V.ref))) (h : Told H ts l) (i : Inc l) (q : ∀ p, H p = none → Q (.ref p) (upd H p (.lst (ts.map V.ref)))) : rSortedN K [.ref a] H Q := by
  refine ⟨a, _, numOf H, rfl, .of ha, fun x hx => (h.each x hx).1, h.dist i, fun ys p h1 h2 hp => ?_⟩
  rw [SrtO.stb_uniq (ltN_swo _) h1 (h.srt i) h2]
  exact q p hp
end Rf

namespace Rf
open PySem L2
def topS (i : Nat) : Stmt := PySem.Challenge.pw_restfold_k04_walls_kept.main.body.getD i (.Pass ⟨0, 0, 0, 0⟩)
abbrev s__wall : Stmt := topS 0
theorem sc__wall : FnScope ["k"] ["k"] (defScope s__wall) := ⟨rfl, rfl, rfl, by decide +kernel, rfl, by decide +kernel, by decide +kernel⟩
abbrev s_is_whole : Stmt := topS 9
theorem sc_is_whole : FnScope ["thing"] ["thing"] (defScope s_is_whole) := ⟨rfl, rfl, rfl, by decide +kernel, rfl, by decide +kernel, by decide +kernel⟩
abbrev s_is_clock : Stmt := topS 10
theorem sc_is_clock : FnScope ["thing"] ["thing"] (defScope s_is_clock) := ⟨rfl, rfl, rfl, by decide +kernel, rfl, by decide +kernel, by decide +kernel⟩
abbrev s_need_clock : Stmt := topS 11
theorem sc_need_clock : FnScope ["thing"] ["thing"] (defScope s_need_clock) := ⟨rfl, rfl, rfl, by decide +kernel, rfl, by decide +kernel, by decide +kernel⟩
abbrev s_need_turn : Stmt := topS 12
theorem sc_need_turn : FnScope ["thing"] ["thing"] (defScope s_need_turn) := ⟨rfl, rfl, rfl, by decide +kernel, rfl, by decide +kernel, by decide +kernel⟩
abbrev s_shows : Stmt := topS 13
theorem sc_shows : FnScope ["clock", "turn"] ["clock", "turn"] (defScope s_shows) := ⟨rfl, rfl, rfl, by decide +kernel, rfl, by decide +kernel, by decide +kernel⟩
abbrev s_Wall___init__ : Stmt := inClass (topS 17) 0
theorem sc_Wall___init__ : FnScope ["self"] ["self"] (defScope s_Wall___init__) := ⟨rfl, rfl, rfl, by decide +kernel, rfl, by decide +kernel, by decide +kernel⟩
abbrev s_Wall_put : Stmt := inClass (topS 17) 1
theorem sc_Wall_put : FnScope ["self", "clock"] ["self", "clock"] (defScope s_Wall_put) := ⟨rfl, rfl, rfl, by decide +kernel, rfl, by decide +kernel, by decide +kernel⟩
abbrev s_Wall_need_number : Stmt := inClass (topS 17) 2
theorem sc_Wall_need_number : FnScope ["self", "number"] ["self", "number"] (defScope s_Wall_need_number) := ⟨rfl, rfl, rfl, by decide +kernel, rfl, by decide +kernel, by decide +kernel⟩
abbrev s_Wall_take : Stmt := inClass (topS 17) 3
theorem sc_Wall_take : FnScope ["self", "number"] ["self", "number"] (defScope s_Wall_take) := ⟨rfl, rfl, rfl, by decide +kernel, rfl, by decide +kernel, by decide +kernel⟩
abbrev s_Wall_turn_to : Stmt := inClass (topS 17) 4
theorem sc_Wall_turn_to : FnScope ["self", "number", "hour", "clock"] ["self", "number", "hour"] (defScope s_Wall_turn_to) := ⟨rfl, rfl, rfl, by decide +kernel, rfl, by decide +kernel, by decide +kernel⟩
abbrev s_Wall_lay : Stmt := inClass (topS 17) 5
theorem sc_Wall_lay : FnScope ["self", "other"] ["self", "other"] (defScope s_Wall_lay) := ⟨rfl, rfl, rfl, by decide +kernel, rfl, by decide +kernel, by decide +kernel⟩
abbrev s_Wall_clocks : Stmt := inClass (topS 17) 6
theorem sc_Wall_clocks : FnScope ["self"] ["self"] (defScope s_Wall_clocks) := ⟨rfl, rfl, rfl, by decide +kernel, rfl, by decide +kernel, by decide +kernel⟩
abbrev s_Wall_shows : Stmt := inClass (topS 17) 7
theorem sc_Wall_shows : FnScope ["self", "number", "turn"] ["self", "number", "turn"] (defScope s_Wall_shows) := ⟨rfl, rfl, rfl, by decide +kernel, rfl, by decide +kernel, by decide +kernel⟩
abbrev s_Wall_clash : Stmt := inClass (topS 17) 8
theorem sc_Wall_clash : FnScope ["self"] ["self"] (defScope s_Wall_clash) := ⟨rfl, rfl, rfl, by decide +kernel, rfl, by decide +kernel, by decide +kernel⟩
abbrev s_Wall_copied : Stmt := inClass (topS 17) 9
theorem sc_Wall_copied : FnScope ["self", "found"] ["self"] (defScope s_Wall_copied) := ⟨rfl, rfl, rfl, by decide +kernel, rfl, by decide +kernel, by decide +kernel⟩
abbrev s_Wall_fold : Stmt := inClass (topS 17) 10
theorem sc_Wall_fold : FnScope ["self"] ["self"] (defScope s_Wall_fold) := ⟨rfl, rfl, rfl, by decide +kernel, rfl, by decide +kernel, by decide +kernel⟩
abbrev s_Wall_is_met : Stmt := inClass (topS 17) 11
theorem sc_Wall_is_met : FnScope ["self", "turn"] ["self", "turn"] (defScope s_Wall_is_met) := ⟨rfl, rfl, rfl, by decide +kernel, rfl, by decide +kernel, by decide +kernel⟩
abbrev s_Wall_next_turn : Stmt := inClass (topS 17) 12
theorem sc_Wall_next_turn : FnScope ["self", "turn"] ["self", "turn"] (defScope s_Wall_next_turn) := ⟨rfl, rfl, rfl, by decide +kernel, rfl, by decide +kernel, by decide +kernel⟩
abbrev s_Wall_last_turn : Stmt := inClass (topS 17) 13
theorem sc_Wall_last_turn : FnScope ["self", "turn"] ["self", "turn"] (defScope s_Wall_last_turn) := ⟨rfl, rfl, rfl, by decide +kernel, rfl, by decide +kernel, by decide +kernel⟩
abbrev s__law_mixed : Stmt := topS 19
theorem sc__law_mixed : FnScope ["_law_cell", "_law_k", "_law_number"] ["_law_cell", "_law_k"] (defScope s__law_mixed) := ⟨rfl, rfl, rfl, by decide +kernel, rfl, by decide +kernel, by decide +kernel⟩
abbrev s__law_whole : Stmt := topS 20
theorem sc__law_whole : FnScope ["_law_found"] ["_law_found"] (defScope s__law_whole) := ⟨rfl, rfl, rfl, by decide +kernel, rfl, by decide +kernel, by decide +kernel⟩
abbrev s__law_wide : Stmt := topS 21
theorem sc__law_wide : FnScope ["_law_cell", "_law_k"] ["_law_cell", "_law_k"] (defScope s__law_wide) := ⟨rfl, rfl, rfl, by decide +kernel, rfl, by decide +kernel, by decide +kernel⟩
abbrev s__law_hours : Stmt := topS 22
theorem sc__law_hours : FnScope ["_law_cell", "_law_k", "_law_number", "_law_few", "_law_smooth", "_law_wide_here"] ["_law_cell", "_law_k"] (defScope s__law_hours) := ⟨rfl, rfl, rfl, by decide +kernel, rfl, by decide +kernel, by decide +kernel⟩
abbrev s__law_turn : Stmt := topS 23
theorem sc__law_turn : FnScope ["_law_cell", "_law_k", "_law_number", "_law_wide_here"] ["_law_cell", "_law_k"] (defScope s__law_turn) := ⟨rfl, rfl, rfl, by decide +kernel, rfl, by decide +kernel, by decide +kernel⟩
abbrev s__law_meant : Stmt := topS 24
theorem sc__law_meant : FnScope ["_law_cell", "_law_k", "_law_turn_here", "_law_hours_here"] ["_law_cell", "_law_k", "_law_turn_here"] (defScope s__law_meant) := ⟨rfl, rfl, rfl, by decide +kernel, rfl, by decide +kernel, by decide +kernel⟩
abbrev s__law_done : Stmt := topS 25
theorem sc__law_done : FnScope ["_law_shut", "_law_own", "_law_given", "_law_cell", "_law_k", "_law_turn_here", "_law_number", "_law_numbers", "_law_way", "_law_clock", "_law_at", "_law_hours_here", "_law_hour"] ["_law_shut", "_law_own", "_law_given", "_law_cell", "_law_k", "_law_turn_here"] (defScope s__law_done) := ⟨rfl, rfl, rfl, by decide +kernel, rfl, by decide +kernel, by decide +kernel⟩
abbrev s__law_is_right : Stmt := topS 26
theorem sc__law_is_right : FnScope ["_law_shut", "_law_own", "_law_cell", "_law_k", "_law_found", "_law_at", "_law_turn_here", "_law_told", "_law_row"] ["_law_shut", "_law_own", "_law_cell", "_law_k"] (defScope s__law_is_right) := ⟨rfl, rfl, rfl, by decide +kernel, rfl, by decide +kernel, by decide +kernel⟩
abbrev s_law : Stmt := topS 27
theorem sc_law : FnScope ["_law_script", "_law_turn_here", "_law_cell", "_law_shuts", "_law_owns", "_law_given", "_law_k", "_law_number", "_law_at", "_law_shut", "_law_own"] ["_law_script"] (defScope s_law) := ⟨rfl, rfl, rfl, by decide +kernel, rfl, by decide +kernel, by decide +kernel⟩
end Rf

namespace Rf
open PySem L2 PySem.Spec PyProof.Rows
local macro_rules | `(tactic| walk_at "rd") => `(tactic| simp only [tSeq, tAsg, tOp, tUn, tVar, tC, gName, tRet, tRetN, tIfS, tNext, tTest, tB, tNot, tAnd, tOr, tIf, tAndV, tOrV, tNotV, tCons, tNil, tCB, tCall, tDrop, tChain, rI, rI0, rU, L2.start, List.map_cons, List.map_nil, List.length_cons, List.length_nil, List.replicate_succ, List.replicate_zero, List.cons_append, List.nil_append, List.append_nil, List.getElem?_cons_zero, List.getElem?_cons_succ, List.set_cons_zero, List.set_cons_succ, Option.some.injEq, exists_eq_left', exists_eq_left, exists_and_left, V.int.injEq, V.bl.injEq, V.str.injEq, V.ref.injEq, List.cons.injEq, and_true, true_and, Nat.reduceSub, Nat.reduceAdd, Bool.not_true, Bool.not_false, if_true, if_false, Bool.false_eq_true, reduceIte, forall_const])
section
variable {P : Program} {w : World} {K : PySem.W.Frag} {mg : Str → Option Value} {base : Heap}
theorem h_is_whole (B : Bt mg) (D : Df K "is_whole" s_is_whole) (g : mg "is_whole" = some (.ref (He.ga K "is_whole"))) : Has P w K mg base CX0 2 "is_whole" ["thing"] spWhole := by
  refine has_of0 D g sc_is_whole (fun _ _ _ _ _ _ us hl => match us, hl with | [_], _ => rfl) (fun vs H Q E h => ?_) (fun A outer s H vs Q E hr h => ?_)
  · obtain ⟨x, t, rfl, _⟩ := h
    rfl
  · obtain ⟨x, t, rfl, ht, k⟩ := h
    obtain ⟨b1, b2, k1, k2, e⟩ := ht.kit (K := K)
    refine ⟨_, pss_one (ps_ret (pe_and (pe_callB call_isi (by rfl) B.isinstance (by decide +kernel) (pa_cons (pv 0) (pa_cons (pe_bltn (v := .ty "int") (by rfl) B.int (by decide +kernel) rfl) pa_nil)))
      (pe_one (pe_not (pe_callB call_isi (by rfl) B.isinstance (by decide +kernel) (pa_cons (pv 0) (pa_cons (pe_bltn (v := .ty "bool") (by rfl) B.bool (by decide +kernel) rfl) pa_nil))))))), ?_⟩
    walk_at "rd"
    refine is_ty ht k1 ?_
    rw [← e] at k
    cases b1 with
    | false => exact ⟨false, rfl, k⟩
    | true =>
      refine ⟨true, rfl, iteT ?_⟩
      refine is_ty ht k2 ?_
      exact ⟨b2, rfl, k⟩
theorem h_is_clock (B : Bt mg) (W : Has P w K mg base CX0 2 "is_whole" ["thing"] spWhole) (gM : ∃ t, mg "MOST_HOURS" = some (.int hrs t)) (D : Df K "is_clock" s_is_clock) (g : mg "is_clock" = some (.ref (He.ga K "is_clock"))) : Has P w K mg base CX0 3 "is_clock" ["thing"] spIsClock := by
  refine has_of0 D g sc_is_clock (fun _ _ _ _ _ _ us hl => match us, hl with | [_], _ => rfl) (fun vs H Q E h => ?_) (fun A outer s H vs Q E hr h => ?_)
  · obtain ⟨x, t, rfl, _⟩ := h
    rfl
  · obtain ⟨x, r, rfl, hc, k⟩ := h
    refine ⟨_, pss_cons (ps_if (PW.pt (pw_or (pt_not (pt_val (pe_callB call_isi (by rfl) B.isinstance (by decide +kernel) (pa_cons (pv 0) (pa_cons (pe_bltn (v := .ty "tuple") (by rfl) B.tuple (by decide +kernel) rfl) pa_nil)))))
        (pw_or (pt_cmpR op_ne (pe_callB call_len (by rfl) B.len (by decide +kernel) (pa_cons (pv 0) pa_nil)) pe_int (nomark _)) (pw_or (pt_not (pt_val (pe_fn W hr pass0 (pa_cons (pe_ix ix_tup (pv 0) pe_int (fun _ _ => rfl)) pa_nil)))) (pw_or1 (pt_not (pt_val (pe_fn W hr pass0 (pa_cons (pe_ix ix_tup (pv 0) pe_int (fun _ _ => rfl)) pa_nil))))))))) (pss_one (ps_ret pe_bl)) pss_nil)
      (pss_one (ps_ret (pe_and (pe_chain op_le op_le pe_int (pe_ix ix_tup (pv 0) pe_int (fun _ _ => rfl)) (pe_gint (by rfl) gM)) (pe_one (pe_chain op_le op_lt pe_int (pe_ix ix_tup (pv 0) pe_int (fun _ _ => rfl)) (pe_ix ix_tup (pv 0) pe_int (fun _ _ => rfl))))))), ?_⟩
    walk_at "rd"
    cases hc with
    | @no x t ht n =>
      refine is_ty ht ht.kitT ?_
      rw [decide_eq_false n]
      walk_at "rd"
      exact k
    | @len a xs h n z =>
      refine is_ty (.tup h) kitTT ?_
      walk_at "rd"
      refine lenT h ⟨rfl, ?_⟩
      have e : decide (V.int (xs.length : Int) = V.int 2) = false := decide_eq_false fun z => n (by injection z with z; omega)
      rw [e]
      walk_at "rd"
      exact k
    | @odd1 a u v t h tx n =>
      refine is_ty (.tup h) kitTT ?_
      walk_at "rd"
      refine lenT h ⟨rfl, ?_⟩
      show ∃ k, V.bl false = V.bl k ∧ _
      walk_at "rd"
      refine ix0 h ⟨u, t, rfl, tx, ?_⟩
      rw [n]
      walk_at "rd"
      exact k
    | @odd2 a i v t h ty n =>
      refine is_ty (.tup h) kitTT ?_
      walk_at "rd"
      refine lenT h ⟨rfl, ?_⟩
      show ∃ k, V.bl false = V.bl k ∧ _
      walk_at "rd"
      refine ix0 h ⟨.int i, _, rfl, .int i, ?_⟩
      show ∃ c, V.bl true = V.bl c ∧ _
      walk_at "rd"
      refine ix1 h ⟨v, t, rfl, ty, ?_⟩
      rw [n]
      walk_at "rd"
      exact k
    | @two a i j h =>
      refine is_ty (.tup h) kitTT ?_
      walk_at "rd"
      refine lenT h ⟨rfl, ?_⟩
      show ∃ k, V.bl false = V.bl k ∧ _
      walk_at "rd"
      refine ix0 h ⟨.int i, _, rfl, .int i, ?_⟩
      show ∃ c, V.bl true = V.bl c ∧ _
      walk_at "rd"
      refine ix1 h ⟨.int j, _, rfl, .int j, ?_⟩
      show ∃ c, V.bl true = V.bl c ∧ _
      walk_at "rd"
      refine ix0 h ⟨i, rfl, ?_⟩
      by_cases h1 : 1 ≤ i
      · rw [if_pos (decide_eq_true h1)]
        refine ⟨i, rfl, ?_⟩
        by_cases h2 : i ≤ hrs
        · rw [if_pos (decide_eq_true h2)]
          refine ix1 h ⟨j, rfl, ?_⟩
          by_cases h3 : 0 ≤ j
          · rw [if_pos (decide_eq_true h3)]
            refine ix0 h ⟨j, rfl, i, rfl, ?_⟩
            have e : decide (1 ≤ i ∧ i ≤ hrs ∧ 0 ≤ j ∧ j < i) = decide (j < i) := by
              by_cases h4 : j < i
              · rw [decide_eq_true h4, decide_eq_true ⟨h1, h2, h3, h4⟩]
              · rw [decide_eq_false h4, decide_eq_false fun z => h4 z.2.2.2]
            rw [e] at k
            exact k
          · rw [if_neg (by rw [decide_eq_false h3]; decide)]
            rw [decide_eq_false fun z => h3 z.2.2.1] at k
            exact k
        · rw [if_neg (by rw [decide_eq_false h2]; decide)]
          rw [decide_eq_false fun z => h2 z.2.1] at k
          exact k
      · rw [if_neg (by rw [decide_eq_false h1]; decide)]
        rw [decide_eq_false fun z => h1 z.1] at k
        exact k
theorem h_need_clock (C : Has P w K mg base CX0 3 "is_clock" ["thing"] spIsClock) (X : Xp K mg "BadClock") (D : Df K "need_clock" s_need_clock) (g : mg "need_clock" = some (.ref (He.ga K "need_clock"))) : Has P w K mg base (L2.CX P w) 4 "need_clock" ["thing"] (spNeedClock K) := by
  refine has_of D g sc_need_clock (fun _ _ _ _ _ _ us hl => match us, hl with | [_], _ => rfl) (fun vs H Q E h => ?_) (fun A outer s H vs Q E hr h => ?_)
  · obtain ⟨x, t, rfl, _⟩ := h
    rfl
  · obtain ⟨x, r, rfl, hc, k1, k2⟩ := h
    refine ⟨_, pss_one (ps_if (pt_not (pt_val (pe_fn C hr pass0 (pa_cons (pv 0) pa_nil)))) (pss_one (ps_raise rfl takesB (pmk_own PySem.F.excBase_ValueError X.exc X.g X.kp (raises_own X.sub X.ty) (by exact rfl)))) pss_nil), ?_⟩
    walk_at "rd"
    refine ⟨x, r, rfl, hc, r, rfl, ?_⟩
    cases r with
    | true => exact k1 rfl
    | false => exact k2 rfl
theorem h_need_turn (W : Has P w K mg base CX0 2 "is_whole" ["thing"] spWhole) (X : Xp K mg "BadTurn") (D : Df K "need_turn" s_need_turn) (g : mg "need_turn" = some (.ref (He.ga K "need_turn"))) : Has P w K mg base (L2.CX P w) 4 "need_turn" ["thing"] (spNeedTurn K) := by
  refine has_of D g sc_need_turn (fun _ _ _ _ _ _ us hl => match us, hl with | [_], _ => rfl) (fun vs H Q E h => ?_) (fun A outer s H vs Q E hr h => ?_)
  · obtain ⟨x, t, rfl, _⟩ := h
    rfl
  · obtain ⟨x, t, rfl, ht, k1, k2⟩ := h
    refine ⟨_, pss_one (ps_if (pt_not (pt_val (pe_fn W (hr.mono (by decide)) pass0 (pa_cons (pv 0) pa_nil)))) (pss_one (ps_raise rfl takesB (pmk_own PySem.F.excBase_ValueError X.exc X.g X.kp (raises_own X.sub X.ty) (by exact rfl)))) pss_nil), ?_⟩
    walk_at "rd"
    refine ⟨x, t, rfl, ht, _, rfl, ?_⟩
    cases e : isI x with
    | true => exact k1 e
    | false => exact k2 e
theorem isI_int {x : V} (h : isI x = true) : ∃ i, x = .int i := by
  cases x with
  | int i => exact ⟨i, rfl⟩
  | _ => cases h
theorem h_shows (C : Has P w K mg base (L2.CX P w) 4 "need_clock" ["thing"] (spNeedClock K)) (T : Has P w K mg base (L2.CX P w) 4 "need_turn" ["thing"] (spNeedTurn K)) (D : Df K "shows" s_shows) (g : mg "shows" = some (.ref (He.ga K "shows"))) :
    Has P w K mg base (L2.CX P w) 5 "shows" ["clock", "turn"] (spShows K) := by
  refine has_of D g sc_shows (fun _ _ _ _ _ _ us hl => match us, hl with | [_, _], _ => rfl) (fun vs H Q E h => ?_) (fun A outer s H vs Q E hr h => ?_)
  · obtain ⟨x, t, rfl, _⟩ := h
    rfl
  · obtain ⟨x, y, rfl, h⟩ := h
    refine ⟨_, pss_cons (ps_expr (pe_fn C hr passB (pa_cons (pv 0) pa_nil))) (pss_cons (ps_expr (pe_fn T hr passB (pa_cons (pv 1) pa_nil))) (pss_one (ps_ret (pe_op op_mod (pv 1) (pe_ix ix_tup (pv 0) pe_int (fun _ _ => rfl)))))), ?_⟩
    walk_at "rd"
    rcases h with ⟨hc, q⟩ | ⟨c, hc, h⟩
    · exact ⟨x, false, rfl, hc, fun z => (by cases z), fun _ => q⟩
    · refine ⟨x, true, rfl, hc.res, fun _ => ?_, fun z => (by cases z)⟩
      rcases h with ⟨t, ht, n, q⟩ | ⟨t, rfl, q⟩
      · exact ⟨y, t, rfl, ht, fun z => (by rw [n] at z; cases z), fun _ => q⟩
      · refine ⟨.int t, _, rfl, .int t, fun _ => ?_, fun z => (by cases z)⟩
        obtain ⟨a, rfl, ha⟩ := hc.at_
        show rIxT K (.ref a) (.int 0) H _
        refine ix0 ha ?_
        walk_at "rd"
        exact ⟨by have := hc.ok.h1; omega, q⟩
end
end Rf

namespace Rf
open PySem L2 PySem.Spec PyProof.Rows
local macro_rules | `(tactic| walk_at "rd") => `(tactic| simp only [tSeq, tAsg, tLst, tTup, tDNewK, tOp, tUn, tVar, tC, gName, tRet, tRetN, tIfS, tNext, tTest, tB, tNot, tAnd, tOr, tIf, tAndV, tOrV, tNotV, tCons, tNil, tCB, tCall, tDrop, tChain, rI, rI0, rU, L2.start, List.map_cons, List.map_nil, List.length_cons, List.length_nil, List.replicate_succ, List.replicate_zero, List.cons_append, List.nil_append, List.append_nil, List.getElem?_cons_zero, List.getElem?_cons_succ, List.set_cons_zero, List.set_cons_succ, Option.some.injEq, exists_eq_left', exists_eq_left, exists_and_left, V.int.injEq, V.bl.injEq, V.str.injEq, V.ref.injEq, List.cons.injEq, and_true, true_and, Nat.reduceSub, Nat.reduceAdd, Bool.not_true, Bool.not_false, if_true, if_false, Bool.false_eq_true, reduceIte, forall_const])
section
variable {P : Program} {w : World} {K : PySem.W.Frag} {mg : Str → Option Value} {base : Heap}
theorem ixL {H : Hp} {Q : VK} {p : Addr} {xs : List V} {i : Int} (h : H p = some (.lst xs)) (h0 : 0 ≤ i) (h1 : i < xs.length) (q : ∀ v, v ∈ xs → Q v H) : rIxL K (.ref p) (.int i) H Q := by
  obtain ⟨n, rfl⟩ : ∃ n : Nat, i = (n : Int) := ⟨i.toNat, by omega⟩
  have hi : n < xs.length := by omega
  exact ⟨p, xs, (n : Int), xs[n], rfl, rfl, .of h, atI_nat (List.getElem?_eq_getElem hi), q _ (List.getElem_mem hi)⟩
theorem anInt {v : V} (ns : List Int) (p : Int → Prop) (hv : v ∈ ns.map V.int) (hp : ∀ a ∈ ns, p a) : ∃ a, v = .int a ∧ p a := by
  obtain ⟨a, ha, rfl⟩ := List.mem_map.mp hv
  exact ⟨a, rfl, hp a ha⟩
theorem same_upd {H : Hp} {p : Addr} {o : HO} (h : H p = none) : Same H (upd H p o) := fun b u e => by rw [upd_ne (ne_of_none e h)]; exact e

def spMixed : Sp := fun vs H Q _ => ∃ (c k : Int), vs = [.int c, .int k] ∧ ∀ n : Int, 0 ≤ n → n < 1000003 → Q (.int n) H
theorem h_mixed (D : Df K "_law_mixed" s__law_mixed) (g : mg "_law_mixed" = some (.ref (He.ga K "_law_mixed"))) : Has P w K mg base CX0 1 "_law_mixed" ["_law_cell", "_law_k"] spMixed := by
  refine has_of0 D g sc__law_mixed (fun _ _ _ _ _ _ us hl => match us, hl with | [_, _], _ => rfl) (fun vs H Q E h => ?_) (fun A outer s H vs Q E hr h => ?_)
  · obtain ⟨c, k, rfl, _⟩ := h
    rfl
  · obtain ⟨c, k, rfl, q⟩ := h
    refine ⟨_, pss_cons (ps_set (i := 2) sc__law_mixed.nd rfl (Or.inl rfl) (pe_op op_mod (pe_op op_add (pe_op op_add (pe_op op_mod (pv 0) pe_int) (pe_op op_mul pe_int (pv 1))) pe_int) pe_int))
      (pss_one (ps_ret (pe_op op_mod (pe_op op_mul (pe_op op_mod (pe_op op_mul (pv 2) (pv 2)) pe_int) (pv 2)) pe_int))), ?_⟩
    walk_at "rd"
    refine ⟨by decide, .inl (by decide), by decide, .inl ?_, by decide, .inl ?_, by decide, ?_⟩
    · omega
    · omega
    · exact q _ (by omega) (by omega)
theorem h_whole (B : Bt mg) (D : Df K "_law_whole" s__law_whole) (g : mg "_law_whole" = some (.ref (He.ga K "_law_whole"))) : Has P w K mg base CX0 2 "_law_whole" ["_law_found"] spWhole := by
  refine has_of0 D g sc__law_whole (fun _ _ _ _ _ _ us hl => match us, hl with | [_], _ => rfl) (fun vs H Q E h => ?_) (fun A outer s H vs Q E hr h => ?_)
  · obtain ⟨x, t, rfl, _⟩ := h
    rfl
  · obtain ⟨x, t, rfl, ht, k⟩ := h
    obtain ⟨b1, b2, k1, k2, e⟩ := ht.kit (K := K)
    refine ⟨_, pss_one (ps_ret (pe_and (pe_callB call_isi (by rfl) B.isinstance (by decide +kernel) (pa_cons (pv 0) (pa_cons (pe_bltn (v := .ty "int") (by rfl) B.int (by decide +kernel) rfl) pa_nil)))
      (pe_one (pe_not (pe_callB call_isi (by rfl) B.isinstance (by decide +kernel) (pa_cons (pv 0) (pa_cons (pe_bltn (v := .ty "bool") (by rfl) B.bool (by decide +kernel) rfl) pa_nil))))))), ?_⟩
    walk_at "rd"
    refine is_ty ht k1 ?_
    rw [← e] at k
    cases b1 with
    | false => exact ⟨false, rfl, k⟩
    | true =>
      refine ⟨true, rfl, iteT ?_⟩
      refine is_ty ht k2 ?_
      exact ⟨b2, rfl, k⟩
abbrev wd : Int := 10 ^ 53
def spWide : Sp := fun vs H Q _ => ∃ (c k : Int), vs = [.int c, .int k] ∧ ∀ n : Int, 0 ≤ n → n < wd → Q (.int n) H
theorem h_wide (M : Has P w K mg base CX0 1 "_law_mixed" ["_law_cell", "_law_k"] spMixed) (D : Df K "_law_wide" s__law_wide) (g : mg "_law_wide" = some (.ref (He.ga K "_law_wide"))) : Has P w K mg base CX0 2 "_law_wide" ["_law_cell", "_law_k"] spWide := by
  refine has_of0 D g sc__law_wide (fun _ _ _ _ _ _ us hl => match us, hl with | [_, _], _ => rfl) (fun vs H Q E h => ?_) (fun A outer s H vs Q E hr h => ?_)
  · obtain ⟨c, k, rfl, _⟩ := h
    rfl
  · obtain ⟨c, k, rfl, q⟩ := h
    refine ⟨_, pss_one (ps_ret (pe_op op_add (pe_op op_add (pe_op op_mul (pe_op op_mod (pv 0) (pe_op op_pow pe_int pe_int)) (pe_op op_pow pe_int pe_int)) (pe_op op_mul (pe_fn M hr pass0 (pa_cons (pv 0) (pa_cons (pv 1) pa_nil))) pe_int)) (pe_fn M hr pass0 (pa_cons (pv 0) (pa_cons (pe_op op_add (pv 1) pe_int) pa_nil))))), ?_⟩
    walk_at "rd"
    have e1 : (10 : Int) ^ Int.toNat 40 = 10000000000000000000000000000000000000000 := by decide
    have e2 : (1000003 : Int) ^ Int.toNat 2 = 1000006000009 := by decide
    have e3 : wd = 100000000000000000000000000000000000000000000000000000 := by decide
    refine ⟨⟨by decide, by decide, by decide⟩, by decide, ⟨by decide, by decide, by decide⟩, .inr (by decide), c, k, rfl, fun n h1 h2 => ⟨n, rfl, .inr (by decide), c, k + 50, rfl, fun m h3 h4 => ⟨m, rfl, ?_⟩⟩⟩
    rw [e1, e2]
    have z0 := Int.emod_nonneg c (show (10000000000000000000000000000000000000000 : Int) ≠ 0 by decide)
    have z1 := Int.emod_lt_of_pos c (show (0 : Int) < 10000000000000000000000000000000000000000 by decide)
    refine q _ ?_ ?_
    · omega
    · rw [e3]
      omega
/-- hours -/
def spHours : Sp := fun vs H Q _ => ∃ (c k : Int), vs = [.int c, .int k] ∧ ∀ (n : Int) (H' : Hp), Same H H' → 1 ≤ n → n ≤ hrs → Q (.int n) H'
theorem h_hours (M : Has P w K mg base CX0 1 "_law_mixed" ["_law_cell", "_law_k"] spMixed) (W : Has P w K mg base CX0 2 "_law_wide" ["_law_cell", "_law_k"] spWide) (D : Df K "_law_hours" s__law_hours) (g : mg "_law_hours" = some (.ref (He.ga K "_law_hours"))) :
    Has P w K mg base CX0 3 "_law_hours" ["_law_cell", "_law_k"] spHours := by
  refine has_of0 D g sc__law_hours (fun _ _ _ _ _ _ us hl => match us, hl with | [_, _], _ => rfl) (fun vs H Q E h => ?_) (fun A outer s H vs Q E hr h => ?_)
  · obtain ⟨c, k, rfl, _⟩ := h
    rfl
  · obtain ⟨c, k, rfl, q⟩ := h
    refine ⟨_, (pss_cons (ps_set (i := 2) sc__law_hours.nd rfl (Or.inl rfl) (pe_fn M (hr.mono (by decide)) pass0 (pa_cons (pv 0) (pa_cons (pv 1) pa_nil))))
      (pss_cons (ps_set (i := 3) sc__law_hours.nd rfl (Or.inl rfl) (pe_op op_add pe_int (pe_op op_mod (pe_op op_fdiv (pv 2) pe_int) pe_int)))
      (pss_cons (ps_set (i := 4) sc__law_hours.nd rfl (Or.inl rfl) (pe_op op_mul (pe_ix ix_list (pe_lst (pa_cons pe_int (pa_cons pe_int (pa_cons pe_int (pa_cons pe_int (pa_cons pe_int (pa_cons pe_int (pa_cons pe_int (pa_cons pe_int pa_nil))))))))) (pe_op op_mod (pe_op op_fdiv (pv 2) pe_int) pe_int) (fun _ _ => rfl)) (pe_ix ix_list (pe_lst (pa_cons pe_int (pa_cons pe_int (pa_cons pe_int (pa_cons pe_int (pa_cons pe_int (pa_cons pe_int (pa_cons pe_int (pa_cons pe_int pa_nil))))))))) (pe_op op_mod (pe_op op_fdiv (pv 2) pe_int) pe_int) (fun _ _ => rfl))))
      (pss_cons (ps_set (i := 5) sc__law_hours.nd rfl (Or.inl rfl) (pe_op op_add pe_int (pe_op op_mod (pe_fn W hr pass0 (pa_cons (pv 0) (pa_cons (pe_op op_add (pv 1) pe_int) pa_nil))) (pe_op op_pow pe_int pe_int))))
      (pss_one (ps_ret (pe_ix ix_list (pe_lst (pa_cons (pv 3) (pa_cons (pv 3) (pa_cons (pv 4) (pa_cons (pe_op op_mul (pv 4) (pe_ix ix_list (pe_lst (pa_cons pe_int (pa_cons pe_int (pa_cons pe_int (pa_cons pe_int pa_nil))))) (pe_op op_mod (pe_op op_fdiv (pv 2) pe_int) pe_int) (fun _ _ => rfl))) (pa_cons (pv 5) (pa_cons (pv 5) (pa_cons (pe_op op_pow pe_int pe_int) (pa_cons (pv 3) (pa_cons pe_int pa_nil)))))))))) (pe_op op_mod (pv 2) pe_int) (fun _ _ => rfl)))))))), ?_⟩
    walk_at "rd"
    refine ⟨c, k, rfl, fun n n0 n1 => ?_⟩
    walk_at "rd"
    refine ⟨⟨by decide, by decide⟩, by decide, by decide, fun p1 np1 => ⟨⟨by decide, by decide⟩, by decide, ?_⟩⟩
    refine ixL upd_same (by omega) (by show _ < (8 : Int); omega) fun v hv => ?_
    obtain ⟨a, rfl, a0, a1⟩ := anInt [2, 3, 4, 5, 6, 7, 9, 10] (fun a => 1 ≤ a ∧ a ≤ 10) hv (by decide)
    walk_at "rd"
    refine ⟨by decide, fun p2 np2 => ⟨⟨by decide, by decide⟩, by decide, ?_⟩⟩
    refine ixL upd_same (by omega) (by show _ < (8 : Int); omega) fun v hv => ?_
    obtain ⟨b, rfl, b0, b1⟩ := anInt [2, 3, 5, 6, 8, 9, 11, 12] (fun a => 1 ≤ a ∧ a ≤ 12) hv (by decide)
    obtain ⟨m, hm⟩ : ∃ m, m = a * b := ⟨_, rfl⟩
    have m0 : 1 ≤ m := by
      have := Int.mul_le_mul a0 b0 (by decide) (by omega)
      omega
    have m1 : m ≤ 120 := by
      have := Int.mul_le_mul a1 b1 (by omega) (by decide)
      omega
    walk_at "rd"
    rw [← hm]
    refine ⟨.inl (by omega), c, k + 1, rfl, fun z z0 z1 => ?_⟩
    have e30 : (10 : Int) ^ Int.toNat 30 = hrs := by decide
    walk_at "rd"
    refine ⟨⟨by decide, by decide, by decide⟩, by decide, by decide, fun p3 np3 => ⟨⟨by decide, by decide⟩, by decide, ?_⟩⟩
    refine ixL upd_same (by omega) (by show _ < (4 : Int); omega) fun v hv => ?_
    obtain ⟨d, rfl, d0, d1⟩ := anInt [10, 49, 72, 1000] (fun a => 1 ≤ a ∧ a ≤ 1000) hv (by decide)
    refine ⟨d, rfl, .inl (by omega), ⟨by decide, by decide, by decide⟩, by decide, fun p4 np4 => ⟨by decide, ?_⟩⟩
    obtain ⟨m2, hm2⟩ : ∃ m2, m2 = m * d := ⟨_, rfl⟩
    have m20 : 1 ≤ m2 := by
      have := Int.mul_le_mul m0 d0 (by decide) (by omega)
      omega
    have m21 : m2 ≤ 120000 := by
      have := Int.mul_le_mul m1 d1 (by omega) (by decide)
      omega
    rw [e30, ← hm2]
    have eh : hrs = 1000000000000000000000000000000 := by decide
    have w0 := Int.emod_nonneg z (show hrs ≠ 0 by decide)
    have w1 := Int.emod_lt_of_pos z (show (0 : Int) < hrs by decide)
    refine ixL upd_same (by omega) (by show _ < (9 : Int); omega) fun v hv => ?_
    obtain ⟨r, rfl, r0, r1⟩ := anInt [1 + n / 9 % 12, 1 + n / 9 % 12, m, m2, 1 + z % hrs, 1 + z % hrs, hrs, 1 + n / 9 % 12, 1] (fun a => 1 ≤ a ∧ a ≤ hrs) hv (by
      intro a ha
      simp only [List.mem_cons, List.not_mem_nil, or_false] at ha
      rcases ha with rfl | rfl | rfl | rfl | rfl | rfl | rfl | rfl | rfl <;> constructor <;> omega)
    exact q r _ ((((same_upd np1).trans (same_upd np2)).trans (same_upd np3)).trans (same_upd np4)) r0 r1
/-- turns -/
def spTurn : Sp := fun vs H Q _ => ∃ (c k : Int), vs = [.int c, .int k] ∧ ∀ (n : Int) (H' : Hp), Same H H' → n.natAbs < 2 ^ 360 → Q (.int n) H'
theorem small360 {n : Int} (h : n.natAbs ≤ 1000000) : n.natAbs < 2 ^ 360 := Nat.lt_of_le_of_lt h (by decide)
theorem wd_lt {n : Int} (h0 : 0 ≤ n) (h1 : n < wd) : n.natAbs < 2 ^ 180 := wide_le h0 (Int.le_of_lt h1) (by decide)
theorem h_turn (M : Has P w K mg base CX0 1 "_law_mixed" ["_law_cell", "_law_k"] spMixed) (W : Has P w K mg base CX0 2 "_law_wide" ["_law_cell", "_law_k"] spWide) (D : Df K "_law_turn" s__law_turn) (g : mg "_law_turn" = some (.ref (He.ga K "_law_turn"))) :
    Has P w K mg base CX0 3 "_law_turn" ["_law_cell", "_law_k"] spTurn := by
  refine has_of0 D g sc__law_turn (fun _ _ _ _ _ _ us hl => match us, hl with | [_, _], _ => rfl) (fun vs H Q E h => ?_) (fun A outer s H vs Q E hr h => ?_)
  · obtain ⟨c, k, rfl, _⟩ := h
    rfl
  · obtain ⟨c, k, rfl, q⟩ := h
    refine ⟨_, (pss_cons (ps_set (i := 2) sc__law_turn.nd rfl (Or.inl rfl) (pe_fn M (hr.mono (by decide)) pass0 (pa_cons (pv 0) (pa_cons (pv 1) pa_nil))))
      (pss_cons (ps_set (i := 3) sc__law_turn.nd rfl (Or.inl rfl) (pe_fn W hr pass0 (pa_cons (pv 0) (pa_cons (pe_op op_add (pv 1) pe_int) pa_nil))))
      (pss_one (ps_ret (pe_ix ix_list (pe_lst (pa_cons (pe_op op_mod (pe_op op_fdiv (pv 2) pe_int) pe_int) (pa_cons (pe_op op_sub (pe_un un_neg pe_int) (pe_op op_mod (pe_op op_fdiv (pv 2) pe_int) pe_int)) (pa_cons (pv 3) (pa_cons (pe_op op_sub pe_int (pv 3)) (pa_cons pe_int (pa_cons (pe_op op_mulW (pv 3) (pv 3)) pa_nil))))))) (pe_op op_mod (pv 2) pe_int) (fun _ _ => rfl)))))), ?_⟩
    walk_at "rd"
    refine ⟨c, k, rfl, fun n n0 n1 => ⟨c, k + 3, rfl, fun z z0 z1 => ?_⟩⟩
    have hz := wd_lt z0 z1
    walk_at "rd"
    refine ⟨⟨by decide, by decide⟩, by decide, ⟨by decide, by decide⟩, by decide, wide_mul hz hz (by decide) (by decide) (by decide), by decide, fun p1 np1 => ⟨by decide, ?_⟩⟩
    refine ixL upd_same (by omega) (by show _ < (6 : Int); omega) fun v hv => ?_
    obtain ⟨r, rfl, r1⟩ := anInt [n / 6 % 50, -1 - n / 6 % 50, z, 0 - z, 0, z * z] (fun a => a.natAbs < 2 ^ 360) hv (by
      intro a ha
      simp only [List.mem_cons, List.not_mem_nil, or_false] at ha
      have hz2 : z.natAbs < 2 ^ 360 := Nat.lt_of_lt_of_le hz (Nat.pow_le_pow_right (by decide) (by decide))
      rcases ha with rfl | rfl | rfl | rfl | rfl | rfl
      · exact small360 (by omega)
      · exact small360 (by omega)
      · exact hz2
      · rw [Int.zero_sub, Int.natAbs_neg]
        exact hz2
      · exact small360 (by decide)
      · exact wide_lt hz hz)
    exact q r _ (same_upd np1) r1
/-- clocks -/
def spClock : Sp := fun vs H Q _ => ∃ (c k : Int), vs = [.int c, .int k] ∧ ∀ (x : V) (cl : Int × Int) (H' : Hp), Same H H' → ClkAt H' x cl → Q x H'
end
end Rf

namespace Rf
open PySem L2 PySem.Spec PyProof.Rows
local macro_rules | `(tactic| walk_at "rd") => `(tactic| simp only [tSeq, tIsN, tNotN, tAsg, tLst, tTup, tDNewK, tOp, tUn, tVar, tC, gName, tRet, tRetN, tIfS, tNext, tTest, tB, tNot, tAnd, tOr, tIf, tAndV, tOrV, tNotV, tCons, tNil, tCB, tCall, tDrop, tChain, rI, rI0, rU, L2.start, List.map_cons, List.map_nil, List.length_cons, List.length_nil, List.replicate_succ, List.replicate_zero, List.cons_append, List.nil_append, List.append_nil, List.getElem?_cons_zero, List.getElem?_cons_succ, List.set_cons_zero, List.set_cons_succ, Option.some.injEq, exists_eq_left', exists_eq_left, exists_and_left, V.int.injEq, V.bl.injEq, V.str.injEq, V.ref.injEq, List.cons.injEq, and_true, true_and, Nat.reduceSub, Nat.reduceAdd, Bool.not_true, Bool.not_false, if_true, if_false, Bool.false_eq_true, reduceIte, forall_const])
section
variable {P : Program} {w : World} {K : PySem.W.Frag} {mg : Str → Option Value} {base : Heap}
/-- the words of a refusal of the class D, its own dict at d -/
inductive WdOut (H : Hp) : Str → Option Addr → List V → Prop where
  | clock : WdOut H "BadClock" none [.str "clock"]
  | turn : WdOut H "BadTurn" none [.str "turn"]
  | noc : WdOut H "NoClock" none [.str "none"]
  | many : WdOut H "TooMany" none [.str "many"]
  | wall : WdOut H "BadWall" none [.str "wall"]
  | never {dd : Addr} {fs : List (Str × V)} {u v : V} (h : H dd = some (.xd fs)) (h1 : fs.lookup ("one" : Str) = some u) (h2 : fs.lookup ("other" : Str) = some v) : WdOut H "Never" (some dd) [.str "never", u, v]
  | text {dd : Addr} {fs : List (Str × V)} {u : V} (h : H dd = some (.xd fs)) (h1 : fs.lookup ("row" : Str) = some u) : WdOut H "BadText" (some dd) [.str "text", u]
def spWord (K : PySem.W.Frag) : Sp := fun vs H Q _ => ∃ x, vs = [x] ∧ ((x = .non ∧ ∀ p H', Same H H' → H' p = some (.lst [.str "done"]) → Q (.ref p) H') ∨
  ∃ (a : Addr) (D : Str) (d : Option Addr) (out : List V), x = .ref a ∧ H a = some (ExV (xr K D) d a) ∧ WdOut H D d out ∧ ∀ p H', Same H H' → H p = none → H' p = some (.lst out) → Q (.ref p) H')
theorem ifF {c : Bool} {A B : Prop} (h : c = false) (b : B) : if c = true then A else B := by subst h; exact iteF b
theorem ifT {c : Bool} {A B : Prop} (h : c = true) (b : A) : if c = true then A else B := by subst h; exact iteT b
theorem is_ex {H : Hp} {Q : VK} {a : Addr} {D y : Str} {d : Option Addr} (X : Xw K mg D) (hy : y ∈ xNames) (ea : H a = some (ExV (xr K D) d a)) (hd : ∀ dd, d = some dd → ∃ fs, H dd = some (.xd fs)) (q : Q (.bl (decide (D = y))) H) : rIsV K [.ref a, .ref (He.ga K y)] H Q :=
  ⟨a, _, d, _, _, _, rfl, ea, hd, X.d, .own _, X.kit y hy, q⟩
theorem is_exV {H : Hp} {Q : VK} {a : Addr} {D : Str} {d : Option Addr} (X : Xc K mg D) (ea : H a = some (ExV (xr K D) d a)) (hd : ∀ dd, d = some dd → ∃ fs, H dd = some (.xd fs)) (q : Q (.bl true) H) : rIsV K [.ref a, .ty "ValueError"] H Q :=
  ⟨a, _, d, _, _, _, rfl, ea, hd, X.d, .ty _, X.ve, q⟩
end
end Rf

namespace Rf
open PySem L2 PySem.Spec PyProof.Rows
local macro_rules | `(tactic| walk_at "rd") => `(tactic| simp only [tSeq, tPar, tIsN, tNotN, tAsg, tLst, tTup, tDNewK, tOp, tUn, tVar, tC, gName, tRet, tRetN, tIfS, tNext, tTest, tB, tNot, tAnd, tOr, tIf, tAndV, tOrV, tNotV, tCons, tNil, tCB, tCall, tDrop, tChain, rI, rI0, rU, L2.start, List.map_cons, List.map_nil, List.length_cons, List.length_nil, List.replicate_succ, List.replicate_zero, List.cons_append, List.nil_append, List.append_nil, List.getElem?_cons_zero, List.getElem?_cons_succ, List.set_cons_zero, List.set_cons_succ, Option.some.injEq, exists_eq_left', exists_eq_left, exists_and_left, V.int.injEq, V.bl.injEq, V.str.injEq, V.ref.injEq, List.cons.injEq, and_true, true_and, Nat.reduceSub, Nat.reduceAdd, Bool.not_true, Bool.not_false, if_true, if_false, Bool.false_eq_true, reduceIte, forall_const])
section
variable {P : Program} {w : World} {K : PySem.W.Frag} {mg : Str → Option Value} {base : Heap}
/-- numbers that folds come to -/
def Wd (i : Int) : Prop := i.natAbs < 2 ^ 6000
theorem Wd.le {i j : Int} (h0 : 0 ≤ i) (h : i ≤ j) (hj : Wd j) : Wd i := wide_le h0 h hj
theorem Wd.mul {i j : Int} (hi : Wd i) (hj : Wd j) : CMulW i j := wide_mul hi hj (by decide) (by decide) (by decide)
theorem Wd.div {i j : Int} (hj : Wd j) (h : 0 < j) : CDivW i j := wide_div h hj (by decide) (by decide)
theorem Wd.div' {i j : Int} (hj : Wd j) (h : 0 < j) : CDivW i j := hj.div h
theorem Wd.absle {i j : Int} (h : (i.natAbs : Int) ≤ j) (hj : Wd j) : Wd i := Nat.lt_of_le_of_lt (by omega) hj
theorem pow_mono2 {a b : Nat} (h : a ≤ b) : 2 ^ a ≤ 2 ^ b := Nat.pow_le_pow_right (by decide) h
theorem Wd.of {i : Int} {a : Nat} (h : i.natAbs < 2 ^ a) (ha : a ≤ 6000) : Wd i := Nat.lt_of_lt_of_le h (pow_mono2 ha)
theorem Wd.hrs {i : Int} (h0 : 0 ≤ i) (h : i ≤ hrs) : Wd i := .of (a := 100) (wide_le h0 h (by decide)) (by decide)
theorem Clk.w1 {c : Int × Int} (h : Clk c) : Wd c.1 := .hrs (by have := h.h1; omega) h.h2
theorem Clk.w2 {c : Int × Int} (h : Clk c) : Wd c.2 := .hrs h.k1 (Int.le_trans (Int.le_of_lt h.k2) h.h2)
def otherN (σ : L2.St) : Nat := match σ[1]? with | some (some (V.int o)) => o.toNat | _ => 0
def whileBody : List Stmt → List Stmt
  | .While _ b _ _ :: _ => b
  | _ :: r => whileBody r
  | [] => []
def spShared : Sp := fun vs H Q _ => ∃ a b : Int, vs = [.int a, .int b] ∧ 0 < a ∧ 0 < b ∧ Wd a ∧ Wd b ∧
  ∀ (p : Addr) (x : Int) (H' : Hp), Same H H' → H' p = some (.tup [.int (gI a b), .int x]) → b ∣ gI a b - x * a → (x.natAbs : Int) ≤ b → Q (.ref p) H'
theorem ix3 {H : Hp} {Q : VK} {p : Addr} {u v w : V} (h : H p = some (.tup [u, v, w])) (q : Q u H) : rIxT K (.ref p) (.int 0) H Q := ⟨p, _, 0, u, rfl, rfl, .of h, rfl, q⟩
def spFold2 : Sp := fun vs H Q _ => ∃ (p q : Addr) (A x h k : Int), vs = [.ref p, .ref q] ∧ H p = some (.tup [.int A, .int x]) ∧ H q = some (.tup [.int h, .int k]) ∧ 0 < A ∧ 0 < h ∧ Wd A ∧ Wd h ∧ Wd x ∧ Wd k ∧
  (¬ (k - x) % gI A h = 0 → ∀ H', Same H H' → Q .non H') ∧
  ((k - x) % gI A h = 0 → ∀ (o : Addr) (t : Int) (H' : Hp), Same H H' → h ∣ gI A h - t * A → H' o = some (.tup [.int (A * (h / gI A h)), .int (x + A * ((k - x) / gI A h * t % (h / gI A h)))]) → Q (.ref o) H')
/-- what a call with two clocks comes to -/
def ofCC (K : PySem.W.Frag) (F : V → V → Int × Int → Int × Int → Hp → VK → Prop) : Sp := fun vs H Q E => ∃ x y, vs = [x, y] ∧
  ((ClkRes H x false ∧ E (xr K "BadClock") none H) ∨ ∃ c, ClkAt H x c ∧ ((ClkRes H y false ∧ E (xr K "BadClock") none H) ∨ ∃ d, ClkAt H y d ∧ F x y c d H Q))
def spNeedBoth (K : PySem.W.Frag) : Sp := ofCC K fun _ _ _ _ H Q => Q .non H
def spWitness (K : PySem.W.Frag) : Sp := ofCC K fun _ _ c d H Q => ∀ (p : Addr) (H' : Hp), Same H H' → H' p = some (.tup [.int (gI c.1 d.1), .int (c.2 % gI c.1 d.1), .int (d.2 % gI c.1 d.1)]) → Q (.ref p) H'
def spAgree (K : PySem.W.Frag) : Sp := ofCC K fun _ _ c d H Q => ∀ H', Same H H' → Q (.bl (decide ((c.2 - d.2) % gI c.1 d.1 = 0))) H'
def spBoth (K : PySem.W.Frag) : Sp := ofCC K fun _ _ c d H Q => (¬ (c.2 - d.2) % gI c.1 d.1 = 0 → ∀ H', Same H H' → Q .non H') ∧
  ((c.2 - d.2) % gI c.1 d.1 = 0 → ∀ (p : Addr) (x : Int) (H' : Hp), Same H H' → H' p = some (.tup [.int (lc c.1 d.1), .int x]) → IsFold [c, d] (lc c.1 d.1) x → Q (.ref p) H')
theorem isFold_one {c : Int × Int} (h : Clk c) : IsFold [c] c.1 c.2 := by
  refine ⟨by have := h.h1; omega, fun z => ⟨fun d e he => ?_, fun d => d c List.mem_cons_self⟩, fun e he => ?_, h.k1, h.k2⟩
  · rw [List.mem_singleton.mp he]
    exact d
  · rw [List.mem_singleton.mp he, Int.sub_self]
    exact Int.dvd_zero _
end
end Rf

namespace Rf
open PySem L2 PySem.Spec PyProof.Rows
local macro_rules | `(tactic| walk_at "rd") => `(tactic| simp only [tSeq, tPar, tIsN, tNotN, tAsg, tLst, tTup, tDNewK, tOp, tUn, tVar, tC, gName, tRet, tRetN, tIfS, tNext, tTest, tB, tNot, tAnd, tOr, tIf, tAndV, tOrV, tNotV, tCons, tNil, tCB, tCall, tDrop, tChain, rI, rI0, rU, L2.start, List.map_cons, List.map_nil, List.length_cons, List.length_nil, List.replicate_succ, List.replicate_zero, List.cons_append, List.nil_append, List.append_nil, List.getElem?_cons_zero, List.getElem?_cons_succ, List.set_cons_zero, List.set_cons_succ, Option.some.injEq, exists_eq_left', exists_eq_left, exists_and_left, V.int.injEq, V.bl.injEq, V.str.injEq, V.ref.injEq, List.cons.injEq, and_true, true_and, Nat.reduceSub, Nat.reduceAdd, Bool.not_true, Bool.not_false, if_true, if_false, Bool.false_eq_true, reduceIte, forall_const])
section
variable {P : Program} {w : World} {K : PySem.W.Frag} {mg : Str → Option Value} {base : Heap}
def common2 (σ : L2.St) : Nat := match σ[1]? with | some (some (V.int o)) => o.toNat | _ => 0
def spCommon : Sp := fun vs H Q _ => ∃ a b : Int, vs = [.int a, .int b] ∧ 0 < a ∧ 0 ≤ b ∧ Q (.int (gI a b)) H
def spMeant : Sp := fun vs H Q _ => ∃ (c k t : Int), vs = [.int c, .int k, .int t] ∧ ∀ (x : V) (cl : Int × Int) (H' : Hp), Same H H' → ClkAt H' x cl → Q x H'
theorem h_meant (M : Has P w K mg base CX0 1 "_law_mixed" ["_law_cell", "_law_k"] spMixed) (W : Has P w K mg base CX0 2 "_law_wide" ["_law_cell", "_law_k"] spWide) (Hh : Has P w K mg base CX0 3 "_law_hours" ["_law_cell", "_law_k"] spHours) (D : Df K "_law_meant" s__law_meant) (g : mg "_law_meant" = some (.ref (He.ga K "_law_meant"))) :
    Has P w K mg base CX0 4 "_law_meant" ["_law_cell", "_law_k", "_law_turn_here"] spMeant := by
  refine has_of0 D g sc__law_meant (fun _ _ _ _ _ _ us hl => match us, hl with | [_, _, _], _ => rfl) (fun vs H Q E h => ?_) (fun A outer s H vs Q E hr h => ?_)
  · obtain ⟨c, k, t, rfl, _⟩ := h
    rfl
  · obtain ⟨c, k, t, rfl, q⟩ := h
    refine ⟨_, (pss_cons (ps_set (i := 3) sc__law_meant.nd rfl (Or.inl rfl) (pe_fn Hh (hr.mono (by decide)) pass0 (pa_cons (pv 0) (pa_cons (pv 1) pa_nil))))
      (pss_cons (ps_if (pt_cmpR op_eq (pe_op op_mod (pe_fn M (hr.mono (by decide)) pass0 (pa_cons (pv 0) (pa_cons (pe_op op_add (pv 1) pe_int) pa_nil))) pe_int) pe_int (nomark _)) (pss_one (ps_ret (pe_tup (pa_cons (pv 3) (pa_cons (pe_op op_mod (pe_fn W (hr.mono (by decide)) pass0 (pa_cons (pv 0) (pa_cons (pe_op op_add (pv 1) pe_int) pa_nil))) (pv 3)) pa_nil))))) pss_nil)
      (pss_one (ps_ret (pe_tup (pa_cons (pv 3) (pa_cons (pe_op op_mod (pv 2) (pv 3)) pa_nil))))))), ?_⟩
    walk_at "rd"
    refine ⟨c, k, rfl, fun h H1 e1 h0 h1 => ⟨c, k + 5, rfl, fun n n0 n1 => ?_⟩⟩
    refine ⟨n, rfl, by decide, rfl, _, rfl, ?_⟩
    cases hd : (decide (V.int (n % 8) = V.int 0)) with
    | true =>
      refine ifT rfl ⟨c, k + 6, rfl, fun z z0 z1 => ⟨z, rfl, h, rfl, by omega, by decide, fun p np => ?_⟩⟩
      exact q _ (h, z % h) _ (e1.trans (same_upd np)) ⟨⟨p, rfl, upd_same⟩, h0, h1, Int.emod_nonneg _ (by show h ≠ 0; omega), Int.emod_lt_of_pos _ (by show 0 < h; omega)⟩
    | false =>
      refine ifF rfl ⟨h, rfl, by omega, by decide, fun p np => ?_⟩
      exact q _ (h, t % h) _ (e1.trans (same_upd np)) ⟨⟨p, rfl, upd_same⟩, h0, h1, Int.emod_nonneg _ (by show h ≠ 0; omega), Int.emod_lt_of_pos _ (by show 0 < h; omega)⟩
end
end Rf

namespace Rf
open PySem L2 PySem.Spec PyProof.Rows
local macro_rules | `(tactic| walk_at "rd") => `(tactic| simp only [tSeq, tPar, tIsN, tNotN, tAsg, tLst, tTup, tDNewK, tOp, tUn, tVar, tC, gName, tRet, tRetN, tIfS, tNext, tTest, tB, tNot, tAnd, tOr, tIf, tAndV, tOrV, tNotV, tCons, tNil, tCB, tCall, tDrop, tChain, rI, rI0, rU, L2.start, List.map_cons, List.map_nil, List.length_cons, List.length_nil, List.replicate_succ, List.replicate_zero, List.cons_append, List.nil_append, List.append_nil, List.getElem?_cons_zero, List.getElem?_cons_succ, List.set_cons_zero, List.set_cons_succ, Option.some.injEq, exists_eq_left', exists_eq_left, exists_and_left, V.int.injEq, V.bl.injEq, V.str.injEq, V.ref.injEq, List.cons.injEq, and_true, true_and, Nat.reduceSub, Nat.reduceAdd, Bool.not_true, Bool.not_false, if_true, if_false, Bool.false_eq_true, reduceIte, forall_const])
section
variable {P : Program} {w : World} {K : PySem.W.Frag} {mg : Str → Option Value} {base : Heap}
/-- the wall at w: its dict at d, the number given last, the dict's entries -/
structure WAt (K : PySem.W.Frag) (H : Hp) (w dx d : Addr) (g : Int) (r : List (Key × V)) : Prop where
  i : H w = some (wIns K dx d g)
  d : H d = some (.dK r)
theorem fl {K : PySem.W.Frag} {mg : Str → Option Value} {H : Hp} {Q : VK} {w dx d : Addr} {g : Int} {r : List (Key × V)} (W : Wc K mg) (h : WAt K H w dx d g r) (q : Q (.ref d) H) :
    ∃ a C dx fs v, V.ref w = .ref a ∧ H a = some (.ins C dx fs) ∧ Cls K C ∧ NoAttr K C "hung" ∧ fs.lookup ("hung" : Str) = some v ∧ Q v H := ⟨w, _, _, _, _, rfl, h.i, W.c, W.hung, rfl, q⟩
def spInit (K : PySem.W.Frag) : Sp := fun vs H Q _ => ∃ (x : Addr), vs = [.ref x] ∧ ∃ dx, H x = some (.ins (wC K) dx []) ∧ ∀ p, H p = none → Q .non (upd (upd H p (.dK [])) x (wIns K dx p 0))
def spNum (K : PySem.W.Frag) : Sp := fun vs H Q E => ∃ (w : Addr) (y : V), vs = [.ref w, y] ∧ ∃ dx d g r t, WAt K H w dx d g r ∧ Td H y t ∧
  ((∃ n v, y = .int n ∧ valV r (.inl n) = some v ∧ Q .non H) ∨ ((∀ n, y = .int n → valV r (.inl n) = none) ∧ E (xr K "NoClock") none H))
def spPut (K : PySem.W.Frag) : Sp := fun vs H Q E => ∃ (w : Addr) (y : V), vs = [.ref w, y] ∧ ∃ dx d g r b, WAt K H w dx d g r ∧ r.length ≤ 1000 ∧ ClkRes H y b ∧ (b = false → E (xr K "BadClock") none H) ∧ (b = true → r.length = 60 → E (xr K "TooMany") none H) ∧
  (b = true → r.length ≠ 60 → Q (.int (g + 1)) (upd (upd H w (wIns K dx d (g + 1))) d (.dK (putK r (.inl (g + 1)) y))))
/-- a deed with the clock of a number -/
def spAt (K : PySem.W.Frag) (w : Addr) (y : V) (H : Hp) (E : XK) (F : Addr → Addr → Int → List (Key × V) → Int → V → Prop) : Prop := ∃ dx d g r t, WAt K H w dx d g r ∧ Td H y t ∧
  ((∃ n v, y = .int n ∧ valV r (.inl n) = some v ∧ F dx d g r n v) ∨ ((∀ n, y = .int n → valV r (.inl n) = none) ∧ E (xr K "NoClock") none H))
def spTake (K : PySem.W.Frag) : Sp := fun vs H Q E => ∃ (w : Addr) (y : V), vs = [.ref w, y] ∧ spAt K w y H E fun dx d g r n v => Q v (upd H d (.dK (dropK r (.inl n))))
def spTurnTo (K : PySem.W.Frag) : Sp := fun vs H Q E => ∃ (w : Addr) (y z : V), vs = [.ref w, y, z] ∧ spAt K w y H E fun dx d g r n v => r.length ≤ 1000 ∧ ∃ c tz, ClkAt H v c ∧ Td H z tz ∧
  ((∃ j, z = .int j ∧ 0 ≤ j ∧ j < c.1 ∧ ∀ p, H p = none → Q .non (upd (upd H p (.tup [.int c.1, .int j])) d (.dK (putK r (.inl n) (.ref p))))) ∨
   ((∀ j, z = .int j → ¬ (0 ≤ j ∧ j < c.1)) ∧ ∀ p, H p = none → E (xr K "BadClock") none (upd H p (.tup [.int c.1, z]))))
def spShowsM (K : PySem.W.Frag) : Sp := fun vs H Q E => ∃ (w : Addr) (y z : V), vs = [.ref w, y, z] ∧ spAt K w y H E fun dx d g r n v => ∃ c, ClkAt H v c ∧ ((∃ t, Td H z t ∧ isI z = false ∧ E (xr K "BadTurn") none H) ∨ ∃ t, z = .int t ∧ Q (.int (t % c.1)) H)
def spClocks (K : PySem.W.Frag) : Sp := fun vs H Q _ => ∃ (w : Addr), vs = [.ref w] ∧ ∃ dx d g r, WAt K H w dx d g r ∧ ∀ (H' : Hp) (p : Addr) (ts : List Addr), Same H H' → H p = none → (∀ t ∈ ts, H t = none) → p ∉ ts → H' p = some (.lst (ts.map V.ref)) →
  Paired (fun (t : Addr) (q : Key × V) => H' t = some (.tup [kV q.1, q.2])) ts r → Q (.ref p) H'
def spCopied (K : PySem.W.Frag) : Sp := fun vs H Q _ => ∃ (w : Addr), vs = [.ref w] ∧ ∃ dx d g r, WAt K H w dx d g r ∧ ∀ (x dx' d' : Addr) (H' : Hp), Same H H' → H x = none → H d' = none → x ≠ d' → WAt K H' x dx' d' g r → Q (.ref x) H'
theorem h_Wall___init__  (W : Wc K mg) (D : Dm K "__init__" "Wall.__init__" s_Wall___init__) : HasM P w K mg base CX0 1 "__init__" ["self"] (spInit K) := by
  refine has_ofM0 D sc_Wall___init__ (fun _ _ _ _ _ _ us hl => match us, hl with | [_], _ => rfl) (fun vs H Q E h => ?_) (fun cd A outer s H vs Q E hr h => ?_)
  · obtain ⟨x, rfl, _⟩ := h
    rfl
  · obtain ⟨x, rfl, h⟩ := h
    have hu := hu_of hr
    refine ⟨_, (pss_cons (ps_fld (pv 0) pe_dnewK rfl) (pss_one (ps_fld (pv 0) pe_int rfl))), ?_⟩
    walk_at "rd"
    obtain ⟨dx, hx, q⟩ := h
    refine fun p np => ⟨_, rfl, x, _, dx, [], rfl, (upd_ne (ne_fresh hx np)).trans hx, W.c, W.hung, by decide, ?_⟩
    refine ⟨_, rfl, x, _, dx, _, rfl, upd_same, W.c, W.given, (by show 1 < 1000; decide), ?_⟩
    rw [upd_upd]
    exact q p np
theorem h_Wall_need_number (L : Has P w K mg base CX0 2 "is_whole" ["thing"] spWhole) (X : Xp K mg "NoClock") (W : Wc K mg) (D : Dm K "need_number" "Wall.need_number" s_Wall_need_number) : HasM P w K mg base (L2.CX P w) 3 "need_number" ["self", "number"] (spNum K) := by
  refine has_ofM D sc_Wall_need_number (fun _ _ _ _ _ _ us hl => match us, hl with | [_, _], _ => rfl) (fun vs H Q E h => ?_) (fun cd A outer s H vs Q E hr h => ?_)
  · obtain ⟨w, y, rfl, _⟩ := h
    rfl
  · obtain ⟨w, y, rfl, h⟩ := h
    have hu := hu_of hr
    refine ⟨_, (pss_one (ps_if (PW.pt (pw_or (pt_not (pt_val (pe_fn L hr pass0 (pa_cons (pv 1) pa_nil)))) (pw_or1 (pt_cmp (pc_dnotin hu (pv 1) (pe_fld (pv 0) rfl)))))) (pss_one (ps_raise rfl takesM (pmk_own PySem.F.excBase_ValueError X.exc X.g X.kp (raises_own X.sub X.ty) (by exact rfl)))) pss_nil)), ?_⟩
    walk_at "rd"
    obtain ⟨dx, d, g, r, t, hw, ht, h⟩ := h
    rcases h with ⟨n, v, rfl, hv, q⟩ | ⟨hn, e⟩
    · have hg : DGet H d (.int n) (some v) := hv ▸ DGet.k (k := Sum.inl n) hw.d
      exact ⟨_, t, rfl, ht, _, rfl, ifF rfl ⟨_, rfl, _, rfl, w, _, dx, _, _, rfl, hw.i, W.c, W.hung, rfl, d, _, rfl, hg, _, rfl, ifF rfl q⟩⟩
    · refine ⟨y, t, rfl, ht, _, rfl, ?_⟩
      cases hi : isI y with
      | false => exact ifT rfl e
      | true =>
        obtain ⟨n, rfl⟩ := isI_int hi
        have hg : DGet H d (.int n) none := hn n rfl ▸ DGet.k (k := Sum.inl n) hw.d
        exact ifF rfl ⟨_, rfl, _, rfl, w, _, dx, _, _, rfl, hw.i, W.c, W.hung, rfl, d, _, rfl, hg, _, rfl, ifT rfl e⟩
theorem h_Wall_put (B : Bt mg) (N : Has P w K mg base (L2.CX P w) 4 "need_clock" ["thing"] (spNeedClock K)) (X : Xp K mg "TooMany") (gM : ∃ t, mg "MOST_CLOCKS" = some (.int 60 t)) (W : Wc K mg) (D : Dm K "put" "Wall.put" s_Wall_put) : HasM P w K mg base (L2.CX P w) 5 "put" ["self", "clock"] (spPut K) := by
  refine has_ofM D sc_Wall_put (fun _ _ _ _ _ _ us hl => match us, hl with | [_, _], _ => rfl) (fun vs H Q E h => ?_) (fun cd A outer s H vs Q E hr h => ?_)
  · obtain ⟨w, y, rfl, _⟩ := h
    rfl
  · obtain ⟨w, y, rfl, h⟩ := h
    have hu := hu_of hr
    refine ⟨_, (pss_cons (ps_expr (pe_fn N hr passM (pa_cons (pv 1) pa_nil))) (pss_cons (ps_if (pt_cmpR op_eq (pe_callB call_lenD (by rfl) B.len (by decide +kernel) (pa_cons (pe_fld (pv 0) rfl) pa_nil)) (pe_gint (by rfl) gM) (nomark _)) (pss_one (ps_raise rfl takesM (pmk_own PySem.F.excBase_ValueError X.exc X.g X.kp (raises_own X.sub X.ty) (by exact rfl)))) pss_nil) (pss_cons (ps_fld (pv 0) (pe_op op_add (pe_fld (pv 0) rfl) pe_int) rfl) (pss_cons (ps_dput hu (pe_fld (pv 0) rfl) (pe_fld (pv 0) rfl) (pv 1) rfl) (pss_one (ps_ret (pe_fld (pv 0) rfl))))))), ?_⟩
    walk_at "rd"
    obtain ⟨dx, d, g, r, b, hw, hz, hc, e1, e2, q⟩ := h
    refine ⟨_, _, rfl, hc, fun hb => ?_, e1⟩
    refine ⟨_, rfl, w, _, dx, _, _, rfl, hw.i, W.c, W.hung, rfl, d, rfl, _, hw.d, rfl, _, rfl, ?_⟩
    by_cases hl : r.length = 60
    · exact ifT (by rw [hl]; rfl) (e2 hb hl)
    · refine ifF (decide_eq_false (fun z => hl (by injection z with z; omega))) ?_
      refine ⟨_, rfl, w, _, dx, _, .int g, rfl, hw.i, W.c, W.given, rfl, _, _, rfl, rfl, ?_⟩
      refine ⟨_, rfl, w, _, dx, _, rfl, hw.i, W.c, W.given, (by show 2 < 1000; decide), ?_⟩
      have hd : upd H w (wIns K dx d (g + 1)) d = some (.dK r) := (upd_ne (ne_of hw.d hw.i (by simp))).trans hw.d
      refine ⟨_, rfl, _, rfl, w, _, dx, _, .ref d, rfl, upd_same, W.c, W.hung, rfl, ?_⟩
      refine ⟨_, rfl, w, _, dx, _, .int (g + 1), rfl, upd_same, W.c, W.given, rfl, ?_⟩
      refine ⟨d, _, rfl, .k (k := Sum.inl (g + 1)) hd (small1000 hz), ?_⟩
      have hi : upd (upd H w (wIns K dx d (g + 1))) d (.dK (putK r (.inl (g + 1)) y)) w = some (wIns K dx d (g + 1)) := (upd_ne (ne_of hw.d hw.i (by simp)).symm).trans upd_same
      exact ⟨_, rfl, w, _, dx, _, .int (g + 1), rfl, hi, W.c, W.given, rfl, q hb hl⟩
theorem h_Wall_take (Nn : HasM P w K mg base (L2.CX P w) 3 "need_number" ["self", "number"] (spNum K)) (mn : Meth K (wC K) "need_number" (He.ma K (wC K) "need_number")) (W : Wc K mg) (D : Dm K "take" "Wall.take" s_Wall_take) : HasM P w K mg base (L2.CX P w) 4 "take" ["self", "number"] (spTake K) := by
  refine has_ofM D sc_Wall_take (fun _ _ _ _ _ _ us hl => match us, hl with | [_, _], _ => rfl) (fun vs H Q E h => ?_) (fun cd A outer s H vs Q E hr h => ?_)
  · obtain ⟨w, y, rfl, _⟩ := h
    rfl
  · obtain ⟨w, y, rfl, h⟩ := h
    have hu := hu_of hr
    refine ⟨_, (pss_cons (ps_expr (pe_mth Nn W.c mn (hr.mono (by decide)) passM (pv 0) (pa_cons (pv 1) pa_nil))) (pss_one (ps_ret (pe_dpop1 (pe_fld (pv 0) rfl) (pv 1) ⟨rfl, rfl, rfl, rfl⟩)))), ?_⟩
    walk_at "rd"
    obtain ⟨dx, d, g, r, t, hw, ht, h⟩ := h
    refine ⟨_, rfl, ?_⟩
    rcases h with ⟨n, v, rfl, hv, q⟩ | ⟨hn, e⟩
    · refine ⟨w, dx, _, rfl, hw.i, rfl, _, rfl, w, _, rfl, dx, d, g, r, _, hw, ht, .inl ⟨n, v, rfl, hv, ?_⟩⟩
      exact ⟨_, rfl, w, _, dx, _, _, rfl, hw.i, W.c, W.hung, rfl, d, rfl, .inl ⟨_, .of hw.d⟩, _, rfl, r, .inl n, v, hw.d, rfl, hv, q⟩
    · exact ⟨w, dx, _, rfl, hw.i, rfl, _, rfl, w, _, rfl, dx, d, g, r, _, hw, ht, .inr ⟨hn, e⟩⟩
theorem h_Wall_turn_to (I : Has P w K mg base CX0 3 "is_clock" ["thing"] spIsClock) (X : Xp K mg "BadClock") (Nn : HasM P w K mg base (L2.CX P w) 3 "need_number" ["self", "number"] (spNum K)) (mn : Meth K (wC K) "need_number" (He.ma K (wC K) "need_number")) (W : Wc K mg) (D : Dm K "turn_to" "Wall.turn_to" s_Wall_turn_to) : HasM P w K mg base (L2.CX P w) 4 "turn_to" ["self", "number", "hour"] (spTurnTo K) := by
  refine has_ofM D sc_Wall_turn_to (fun _ _ _ _ _ _ us hl => match us, hl with | [_, _, _], _ => rfl) (fun vs H Q E h => ?_) (fun cd A outer s H vs Q E hr h => ?_)
  · obtain ⟨w, y, z, rfl, _⟩ := h
    rfl
  · obtain ⟨w, y, z, rfl, h⟩ := h
    have hu := hu_of hr
    refine ⟨_, (pss_cons (ps_expr (pe_mth Nn W.c mn (hr.mono (by decide)) passM (pv 0) (pa_cons (pv 1) pa_nil))) (pss_cons (ps_set (i := 3) sc_Wall_turn_to.nd rfl (Or.inl rfl) (pe_tup (pa_cons (pe_ix ix_tup (pe_dget hu (pe_fld (pv 0) rfl) (pv 1) (fun _ _ => rfl)) pe_int (fun _ _ => rfl)) (pa_cons (pv 2) pa_nil)))) (pss_cons (ps_if (pt_not (pt_val (pe_fn I hr pass0 (pa_cons (pv 3) pa_nil)))) (pss_one (ps_raise rfl takesM (pmk_own PySem.F.excBase_ValueError X.exc X.g X.kp (raises_own X.sub X.ty) (by exact rfl)))) pss_nil) (pss_one (ps_dput hu (pe_fld (pv 0) rfl) (pv 1) (pv 3) rfl))))), ?_⟩
    walk_at "rd"
    obtain ⟨dx, d, g, r, t, hw, ht, h⟩ := h
    refine ⟨_, rfl, ?_⟩
    rcases h with ⟨n, v, rfl, hv, hz, c, tz, hc, htz, h⟩ | ⟨hn, e⟩
    · have hg : DGet H d (.int n) (some v) := hv ▸ DGet.k (k := Sum.inl n) hw.d
      refine ⟨w, dx, _, rfl, hw.i, rfl, _, rfl, w, _, rfl, dx, d, g, r, _, hw, ht, .inl ⟨n, v, rfl, hv, ?_⟩⟩
      refine ⟨_, rfl, w, _, dx, _, _, rfl, hw.i, W.c, W.hung, rfl, _, rfl, d, v, rfl, hg, ?_⟩
      obtain ⟨a, rfl, ha⟩ := hc.at_
      refine ix0 ha ⟨by decide, fun p np => ?_⟩
      rcases h with ⟨j, rfl, j0, j1, q⟩ | ⟨hj, e⟩
      · refine ⟨_, _, rfl, .two upd_same, _, rfl, ifF (by rw [decide_eq_true (show 1 ≤ c.1 ∧ c.1 ≤ hrs ∧ 0 ≤ j ∧ j < c.1 from ⟨hc.ok.h1, hc.ok.h2, j0, j1⟩)]; rfl) ?_⟩
        exact ⟨_, rfl, _, rfl, w, _, dx, _, _, rfl, same_upd np _ _ hw.i, W.c, W.hung, rfl, _, rfl, d, _, rfl, .k (k := Sum.inl n) (same_upd np _ _ hw.d) (small1000 hz), q p np⟩
      · have hr : ClkRes (upd H p (.tup [.int c.1, z])) (.ref p) false := by
          cases hi : isI z with
          | false => exact .odd2 upd_same (htz.same (same_upd np)) hi
          | true =>
            obtain ⟨j, rfl⟩ := isI_int hi
            have q := ClkRes.two (H := upd H p (.tup [.int c.1, .int j])) upd_same
            rw [decide_eq_false (fun z => hj j rfl ⟨z.2.2.1, z.2.2.2⟩)] at q
            exact q
        exact ⟨_, _, rfl, hr, _, rfl, ifT rfl (e p np)⟩
    · exact ⟨w, dx, _, rfl, hw.i, rfl, _, rfl, w, _, rfl, dx, d, g, r, _, hw, ht, .inr ⟨hn, e⟩⟩
theorem h_Wall_shows (Sh : Has P w K mg base (L2.CX P w) 5 "shows_clocks" ["clock", "turn"] (spShows K)) (Nn : HasM P w K mg base (L2.CX P w) 3 "need_number" ["self", "number"] (spNum K)) (mn : Meth K (wC K) "need_number" (He.ma K (wC K) "need_number")) (W : Wc K mg) (D : Dm K "shows" "Wall.shows" s_Wall_shows) : HasM P w K mg base (L2.CX P w) 6 "shows" ["self", "number", "turn"] (spShowsM K) := by
  refine has_ofM D sc_Wall_shows (fun _ _ _ _ _ _ us hl => match us, hl with | [_, _, _], _ => rfl) (fun vs H Q E h => ?_) (fun cd A outer s H vs Q E hr h => ?_)
  · obtain ⟨w, y, z, rfl, _⟩ := h
    rfl
  · obtain ⟨w, y, z, rfl, h⟩ := h
    have hu := hu_of hr
    refine ⟨_, (pss_cons (ps_expr (pe_mth Nn W.c mn (hr.mono (by decide)) passM (pv 0) (pa_cons (pv 1) pa_nil))) (pss_one (ps_ret (pe_fn Sh hr passM (pa_cons (pe_dget hu (pe_fld (pv 0) rfl) (pv 1) (fun _ _ => rfl)) (pa_cons (pv 2) pa_nil)))))), ?_⟩
    walk_at "rd"
    obtain ⟨dx, d, g, r, t, hw, ht, h⟩ := h
    refine ⟨_, rfl, ?_⟩
    rcases h with ⟨n, v, rfl, hv, c, hc, h⟩ | ⟨hn, e⟩
    · have hg : DGet H d (.int n) (some v) := hv ▸ DGet.k (k := Sum.inl n) hw.d
      refine ⟨w, dx, _, rfl, hw.i, rfl, _, rfl, w, _, rfl, dx, d, g, r, _, hw, ht, .inl ⟨n, v, rfl, hv, ?_⟩⟩
      exact ⟨_, rfl, w, _, dx, _, _, rfl, hw.i, W.c, W.hung, rfl, _, rfl, d, v, rfl, hg, _, _, rfl, .inr ⟨c, hc, h⟩⟩
    · exact ⟨w, dx, _, rfl, hw.i, rfl, _, rfl, w, _, rfl, dx, d, g, r, _, hw, ht, .inr ⟨hn, e⟩⟩
theorem h_Wall_clocks (B : Bt mg) (W : Wc K mg) (D : Dm K "clocks" "Wall.clocks" s_Wall_clocks) : HasM P w K mg base CX0 1 "clocks" ["self"] (spClocks K) := by
  refine has_ofM0 D sc_Wall_clocks (fun _ _ _ _ _ _ us hl => match us, hl with | [_], _ => rfl) (fun vs H Q E h => ?_) (fun cd A outer s H vs Q E hr h => ?_)
  · obtain ⟨w, rfl, _⟩ := h
    rfl
  · obtain ⟨w, rfl, h⟩ := h
    have hu := hu_of hr
    refine ⟨_, (pss_one (ps_ret (LiI.pe_listItems (by rfl) (pe_fld (pv 0) rfl) (by rfl) B.list (by decide +kernel)))), ?_⟩
    walk_at "rd"
    obtain ⟨dx, d, g, r, hw, q⟩ := h
    refine ⟨_, rfl, w, _, dx, _, _, rfl, hw.i, W.c, W.hung, rfl, d, _, rfl, hw.d, ?_⟩
    exact q
theorem h_Wall_copied (B : Bt mg) (In : HasM P w K mg base CX0 1 "__init__" ["self"] (spInit K)) (W : Wc K mg) (D : Dm K "copied" "Wall.copied" s_Wall_copied) : HasM P w K mg base CX0 3 "copied" ["self"] (spCopied K) := by
  refine has_ofM0 D sc_Wall_copied (fun _ _ _ _ _ _ us hl => match us, hl with | [_], _ => rfl) (fun vs H Q E h => ?_) (fun cd A outer s H vs Q E hr h => ?_)
  · obtain ⟨w, rfl, _⟩ := h
    rfl
  · obtain ⟨w, rfl, h⟩ := h
    have hu := hu_of hr
    refine ⟨_, (pss_cons (ps_set (i := 1) sc_Wall_copied.nd rfl (Or.inl rfl) (pe_wall In W hr)) (pss_cons (ps_fld (pv 1) (pe_callTy call_dictD (by rfl) B.dict (by decide +kernel) (pa_cons (pe_fld (pv 0) rfl) pa_nil)) rfl) (pss_cons (ps_fld (pv 1) (pe_fld (pv 0) rfl) rfl) (pss_one (ps_ret (pv 1)))))), ?_⟩
    walk_at "rd"
    obtain ⟨dx, d, g, r, hw, q⟩ := h
    refine fun x dx' nx ndx hne => ⟨x, rfl, dx', upd_same, fun p np => ⟨rfl, ?_⟩⟩
    generalize hh1 : upd (upd H dx' _) x _ = H1 at np ⊢
    have s1 : Same H H1 := hh1 ▸ same_put (same_upd ndx) nx
    generalize hh2 : upd H1 p _ = H2
    have s2 : Same H H2 := s1.trans (hh2 ▸ same_upd np)
    generalize hh3 : upd H2 x _ = H3
    have s3 : Same H H3 := hh3 ▸ same_put s2 nx
    have u3 : H3 x = some (wIns K dx' p 0) := hh3 ▸ upd_same
    refine ⟨_, rfl, w, _, dx, _, _, rfl, s3 _ _ hw.i, W.c, W.hung, rfl, d, rfl, _, .of (s3 _ _ hw.d), fun p4 n4 => ?_⟩
    generalize hh4 : upd H3 p4 _ = H4
    have z4 : Same H3 H4 := hh4 ▸ same_upd n4
    have s4 : Same H H4 := s3.trans z4
    have u4 : H4 p4 = some (.dK r) := hh4 ▸ upd_same
    refine ⟨_, rfl, x, _, dx', _, rfl, z4 _ _ u3, W.c, W.hung, (by show 2 < 1000; decide), ?_⟩
    generalize hh5 : upd H4 x _ = H5
    have s5 : Same H H5 := hh5 ▸ same_put s4 nx
    have u5 : H5 x = some (wIns K dx' p4 0) := hh5 ▸ upd_same
    refine ⟨_, rfl, w, _, dx, _, .int g, rfl, s5 _ _ hw.i, W.c, W.given, rfl, ?_⟩
    refine ⟨_, rfl, x, _, dx', _, rfl, u5, W.c, W.given, (by show 2 < 1000; decide), ?_⟩
    have hxp : p4 ≠ x := (ne_fresh u3 n4).symm
    refine ⟨_, rfl, q x dx' p4 _ (same_put s5 nx) nx (fresh_at s3 n4) hxp.symm ⟨upd_same, ?_⟩⟩
    rw [upd_ne hxp, ← hh5, upd_ne hxp]
    exact u4
end
end Rf

namespace Rf
open PySem L2 PySem.Spec PyProof.Rows
local macro_rules | `(tactic| walk_at "rd") => `(tactic| simp only [tSeq, tPar, tIsN, tNotN, tAsg, tLst, tTup, tDNewK, tOp, tUn, tVar, tC, gName, tRet, tRetN, tIfS, tNext, tTest, tB, tNot, tAnd, tOr, tIf, tAndV, tOrV, tNotV, tCons, tNil, tCB, tCall, tDrop, tChain, rI, rI0, rU, L2.start, List.map_cons, List.map_nil, List.length_cons, List.length_nil, List.replicate_succ, List.replicate_zero, List.cons_append, List.nil_append, List.append_nil, List.getElem?_cons_zero, List.getElem?_cons_succ, List.set_cons_zero, List.set_cons_succ, Option.some.injEq, exists_eq_left', exists_eq_left, exists_and_left, V.int.injEq, V.bl.injEq, V.str.injEq, V.ref.injEq, List.cons.injEq, and_true, true_and, Nat.reduceSub, Nat.reduceAdd, Bool.not_true, Bool.not_false, if_true, if_false, Bool.false_eq_true, reduceIte, forall_const])
section
variable {P : Program} {w : World} {K : PySem.W.Frag} {mg : Str → Option Value} {base : Heap}
def ifBody : List Stmt → List Stmt
  | .If _ b _ _ :: _ => b
  | _ :: r => ifBody r
  | [] => []
def afterIf : List Stmt → List Stmt
  | .If _ _ _ _ :: r => r
  | _ :: r => afterIf r
  | [] => []
/-- all but three stay, and the tuples -/
structure Fr3 (w d o : Addr) (H H' : Hp) : Prop where
  k : ∀ b u, H b = some u → b ≠ w → b ≠ d → b ≠ o → H' b = some u
  t : Tp H H'
theorem Fr3.of {w d o : Addr} {H H' : Hp} (e : Same H H') : Fr3 w d o H H' := ⟨fun b u h _ _ _ => e b u h, .of e⟩
theorem Fr3.pw {w d o : Addr} {H H' : Hp} {x u : HO} (e : Fr3 w d o H H') (h : H' w = some u) (n : ∀ xs, u ≠ .tup xs) : Fr3 w d o H (upd H' w x) :=
  ⟨fun b u hb h1 h2 h3 => (upd_ne h1).trans (e.k b u hb h1 h2 h3), e.t.trans (.put fun xs z => n xs (Option.some.inj (h.symm.trans z)))⟩
theorem Fr3.pd {w d o : Addr} {H H' : Hp} {x u : HO} (e : Fr3 w d o H H') (h : H' d = some u) (n : ∀ xs, u ≠ .tup xs) : Fr3 w d o H (upd H' d x) :=
  ⟨fun b u hb h1 h2 h3 => (upd_ne h2).trans (e.k b u hb h1 h2 h3), e.t.trans (.put fun xs z => n xs (Option.some.inj (h.symm.trans z)))⟩
theorem Fr3.po {w d o : Addr} {H H' : Hp} {x u : HO} (e : Fr3 w d o H H') (h : H' o = some u) (n : ∀ xs, u ≠ .tup xs) : Fr3 w d o H (upd H' o x) :=
  ⟨fun b u hb h1 h2 h3 => (upd_ne h3).trans (e.k b u hb h1 h2 h3), e.t.trans (.put fun xs z => n xs (Option.some.inj (h.symm.trans z)))⟩
theorem Fr3.same {w d o : Addr} {H H' H2 : Hp} (e : Fr3 w d o H H') (f : Same H' H2) : Fr3 w d o H H2 := ⟨fun b u h h1 h2 h3 => f _ _ (e.k b u h h1 h2 h3), e.t.trans (.of f)⟩
theorem WAt.same {K : PySem.W.Frag} {H H' : Hp} {w dx d : Addr} {g : Int} {r : List (Key × V)} (e : Same H H') (h : WAt K H w dx d g r) : WAt K H' w dx d g r := ⟨e _ _ h.i, e _ _ h.d⟩
/-- a wall and the law's own dict beside it -/
structure Side (K : PySem.W.Frag) (H : Hp) (w d o : Addr) (g : Int) (l : List Row) : Prop where
  ex : ∃ dx r ro, WAt K H w dx d g r ∧ H o = some (.dK ro) ∧ Rws H r l ∧ Rws H ro l
  ok : WOk l g
  len : l.length ≤ 60
  od : o ≠ d
def spDone (K : PySem.W.Frag) : Sp := fun vs H Q _ => ∃ (w o : Addr) (g c k t : Int), vs = [.ref w, .ref o, .int g, .int c, .int k, .int t] ∧ ∃ (d : Addr) (l : List Row), Side K H w d o g l ∧
  ∀ (g' : Int) (l' : List Row) (H' : Hp), Fr3 w d o H H' → Side K H' w d o g' l' → Q (.int g') H'
theorem h_done (B : Bt mg) (W : Wc K mg) (M : Has P w K mg base CX0 1 "_law_mixed" ["_law_cell", "_law_k"] spMixed) (Wi : Has P w K mg base CX0 2 "_law_wide" ["_law_cell", "_law_k"] spWide) (Me : Has P w K mg base CX0 4 "_law_meant" ["_law_cell", "_law_k", "_law_turn_here"] spMeant)
    (Mput : HasM P w K mg base (L2.CX P w) 5 "put" ["self", "clock"] (spPut K)) (mput : Meth K (wC K) "put" (He.ma K (wC K) "put")) (Mtake : HasM P w K mg base (L2.CX P w) 4 "take" ["self", "number"] (spTake K)) (mtake : Meth K (wC K) "take" (He.ma K (wC K) "take"))
    (Mturn : HasM P w K mg base (L2.CX P w) 4 "turn_to" ["self", "number", "hour"] (spTurnTo K)) (mturn : Meth K (wC K) "turn_to" (He.ma K (wC K) "turn_to"))
    (D : Df K "_law_done" s__law_done) (g : mg "_law_done" = some (.ref (He.ga K "_law_done"))) : Has P w K mg base CX0 6 "_law_done" ["_law_shut", "_law_own", "_law_given", "_law_cell", "_law_k", "_law_turn_here"] (spDone K) := by
  refine has_of0 D g sc__law_done (fun _ _ _ _ _ _ us hl => match us, hl with | [_, _, _, _, _, _], _ => rfl) (fun vs H Q E h => ?_) (fun A outer s H vs Q E hr h => ?_)
  · obtain ⟨w, o, g, c, k, t, rfl, _⟩ := h
    rfl
  · obtain ⟨wa, o, g, c, k, tn, rfl, d, l, S, q⟩ := h
    have hu := hu_of hr
    obtain ⟨dx, r, ro, hw, ho, hr1, hr2⟩ := S.ex
    obtain ⟨tput, hput, htput⟩ : ∃ t, PSs (bx CX0 P w K mg base ["_law_shut", "_law_own", "_law_given", "_law_cell", "_law_k", "_law_turn_here", "_law_number", "_law_numbers", "_law_way", "_law_clock", "_law_at", "_law_hours_here", "_law_hour"] "_law_done" s__law_done A outer s H E).nox (ifBody (defBody s__law_done)) t ∧
        ∀ (D : Ends) (x6 x7 x8 x9 x10 x11 x12 : Option V) (H1 : Hp), Same H H1 → l.length ≠ 60 → (∀ v H', Q v H' → D.rt v H') → t D [some (.ref wa), some (.ref o), some (.int g), some (.int c), some (.int k), some (.int tn), x6, x7, x8, x9, x10, x11, x12] H1 := by
      refine ⟨_, (pss_cons (ps_set (i := 9) sc__law_done.nd rfl (Or.inl rfl) (pe_fn Me (hr.mono (by decide)) pass0 (pa_cons (pv 3) (pa_cons (pe_op op_add (pv 4) pe_int) (pa_cons (pv 5) pa_nil)))))
      (pss_cons (ps_dput hu (pv 1) (pe_op op_add (pv 2) pe_int) (pv 9) rfl)
      (pss_one (ps_ret (pe_ifExp (pt_cmpR op_eq (pe_mth Mput W.c mput (hr.mono (by decide)) passL (pv 0) (pa_cons (pv 9) pa_nil)) (pe_op op_add (pv 2) pe_int) (nomark _)) (pe_op op_add (pv 2) pe_int) pe_non))))), fun D x6 x7 x8 x9 x10 x11 x12 H1 e1 hl hQ => ?_⟩
      walk_at "rd"
      refine ⟨c, k + 7, tn, rfl, fun x cl H2 e2 hx => ?_⟩
      have E2 := e1.trans e2
      have ho2 := E2 _ _ ho
      have hw2 := hw.same E2
      have l1 : ro.length ≤ 1000 := by
        have := hr2.len
        have := S.len
        omega
      have l2 : r.length ≤ 60 := by
        have := hr1.len
        have := S.len
        omega
      refine ⟨_, rfl, _, rfl, _, rfl, _, _, rfl, rfl, o, _, rfl, .k (k := Sum.inl (g + 1)) ho2 (small1000 l1), ?_⟩
      generalize hh3 : upd H2 o _ = H3
      have o3 : H3 o = some _ := hh3 ▸ upd_same
      have ow : o ≠ wa := ne_of ho2 hw2.i (by simp)
      have w3 : WAt K H3 wa dx d g r := ⟨hh3 ▸ (upd_ne ow.symm).trans hw2.i, hh3 ▸ (upd_ne S.od.symm).trans hw2.d⟩
      have F3 : Fr3 wa d o H H3 := hh3 ▸ (Fr3.of E2).po ho2 (by simp)
      have T3 : Tp H2 H3 := hh3 ▸ .put (by rw [ho2]; simp)
      have hx3 := hx.tp T3
      refine ⟨_, rfl, wa, dx, _, rfl, w3.i, rfl, _, rfl, wa, x, rfl, dx, d, g, r, true, w3, by omega, hx3.res, fun z => (by cases z), fun _ z => absurd (hr1.len.symm.trans z) hl, fun _ _ => ?_⟩
      generalize hh4 : upd H3 wa _ = H4
      have dw : d ≠ wa := ne_of w3.d w3.i (by simp)
      have w4 : H4 wa = some (wIns K dx d (g + 1)) := hh4 ▸ upd_same
      have d4 : H4 d = some (.dK r) := hh4 ▸ (upd_ne dw).trans w3.d
      have o4 := hh4 ▸ (upd_ne ow).trans o3
      have F4 : Fr3 wa d o H H4 := hh4 ▸ F3.pw w3.i (by simp)
      have T4 : Tp H3 H4 := hh4 ▸ .put (by rw [w3.i]; simp)
      generalize hh5 : upd H4 d _ = H5
      have w5 : H5 wa = some (wIns K dx d (g + 1)) := hh5 ▸ (upd_ne dw.symm).trans w4
      have d5 : H5 d = some _ := hh5 ▸ upd_same
      have o5 : H5 o = some _ := hh5 ▸ (upd_ne S.od).trans o4
      have F5 : Fr3 wa d o H H5 := hh5 ▸ F4.pd d4 (by simp)
      have T5 : Tp H4 H5 := hh5 ▸ .put (by rw [d4]; simp)
      have hx5 := (hx3.tp T4).tp T5
      refine ⟨_, rfl, _, _, rfl, rfl, rfl, _, rfl, ifT (by simp) ?_⟩
      refine ⟨_, rfl, _, _, rfl, rfl, hQ _ _ (q (g + 1) (putL l (g + 1) cl) _ F5 ⟨⟨dx, _, _, ⟨w5, d5⟩, o5, (hr1.tp F5.t).put hx5, (hr2.tp F5.t).put hx5⟩, S.ok.put, ?_, S.od⟩)⟩
      rw [putL_new S.ok, List.length_append]
      have := S.len
      show l.length + 1 ≤ 60
      omega
    obtain ⟨trest, hrest, htrest⟩ : ∃ t, PSs (bx CX0 P w K mg base ["_law_shut", "_law_own", "_law_given", "_law_cell", "_law_k", "_law_turn_here", "_law_number", "_law_numbers", "_law_way", "_law_clock", "_law_at", "_law_hours_here", "_law_hour"] "_law_done" s__law_done A outer s H E).nox (afterIf (defBody s__law_done)) t ∧
        ∀ (D : Ends) (p : Addr) (n : Int) (x9 x10 x11 x12 : Option V) (H1 : Hp), Same H H1 → 0 ≤ n → l ≠ [] → H1 p = some (.lst ((l.map (·.1)).map V.int)) → (∀ v H', Q v H' → D.rt v H') →
          t D [some (.ref wa), some (.ref o), some (.int g), some (.int c), some (.int k), some (.int tn), some (.int n), some (.ref p), some (.int (n % 8)), x9, x10, x11, x12] H1 := by
      refine ⟨_, (pss_cons (ps_set (i := 10) sc__law_done.nd rfl (Or.inl rfl) (pe_ix ix_list (pv 7) (pe_op op_mod (pe_op op_fdiv (pv 6) pe_int) (pe_callB call_len (by rfl) B.len (by decide +kernel) (pa_cons (pv 7) pa_nil))) (fun _ _ => rfl)))
      (pss_cons (ps_if (pt_cmpR op_eq (pv 8) pe_int (nomark _)) (pss_cons (ps_set (i := 9) sc__law_done.nd rfl (Or.inl rfl) (pe_dpop1 (pv 1) (pv 10) ⟨rfl, rfl, rfl, rfl⟩))
      (pss_one (ps_ret (pe_ifExp (pt_cmpR (op_eqD hr.units) (pe_mth Mtake W.c mtake (hr.mono (by decide)) passL (pv 0) (pa_cons (pv 10) pa_nil)) (pv 9) (nomark _)) (pv 2) pe_non)))) pss_nil)
      (pss_cons (ps_set (i := 11) sc__law_done.nd rfl (Or.inl rfl) (pe_ix ix_tup (pe_dget hu (pv 1) (pv 10) (fun _ _ => rfl)) pe_int (fun _ _ => rfl)))
      (pss_cons (ps_set (i := 12) sc__law_done.nd rfl (Or.inl rfl) (pe_ix ix_list (pe_lst (pa_cons (pe_op op_mod (pv 5) (pv 11)) (pa_cons (pe_op op_mod (pv 5) (pv 11)) (pa_cons (pe_op op_mod (pe_fn Wi (hr.mono (by decide)) pass0 (pa_cons (pv 3) (pa_cons (pe_op op_add (pv 4) pe_int) pa_nil))) (pv 11)) pa_nil)))) (pe_op op_mod (pe_op op_fdiv (pv 6) pe_int) pe_int) (fun _ _ => rfl)))
      (pss_cons (ps_dput hu (pv 1) (pv 10) (pe_tup (pa_cons (pv 11) (pa_cons (pv 12) pa_nil))) rfl)
      (pss_one (ps_ret (pe_ifExp (pt_cmp (pc_isN (pe_mth Mturn W.c mturn (hr.mono (by decide)) passL (pv 0) (pa_cons (pv 10) (pa_cons (pv 12) pa_nil))))) (pv 2) pe_non)))))))), fun D p n x9 x10 x11 x12 H1 e1 n0 hl hp hQ => ?_⟩
      walk_at "rd"
      have lp : 0 < l.length := List.length_pos_iff.mpr hl
      have lz : ((l.map (·.1)).map V.int).length = l.length := by rw [List.length_map, List.length_map]
      refine ⟨⟨by decide, by decide⟩, l.length, .inl ⟨_, .of hp, lz.symm⟩, by omega, ?_⟩
      have i0 := Int.emod_nonneg (n / 8) (show (l.length : Int) ≠ 0 by omega)
      have i1 := Int.emod_lt_of_pos (n / 8) (show (0 : Int) < l.length by omega)
      refine ixL hp i0 (by rw [lz]; exact i1) fun v hv => ?_
      obtain ⟨m, hm, rfl⟩ := List.mem_map.mp hv
      obtain ⟨e, he, rfl⟩ := List.mem_map.mp hm
      obtain ⟨cc, hcc⟩ := getL_some (l := l) (n := e.1) ⟨e, he, rfl⟩
      have ho1 := e1 _ _ ho
      have hw1 := hw.same e1
      have q1 := hr1.tp (.of e1)
      have q2 := hr2.tp (.of e1)
      obtain ⟨vr, hvr, hcr⟩ : ∃ v, valV r (.inl e.1) = some v ∧ ClkAt H1 v cc := by
        rcases q1.val (n := e.1) with ⟨_, z⟩ | ⟨v, c', h1, h2, h3⟩
        · rw [hcc] at z
          cases z
        · rw [hcc] at h2
          cases h2
          exact ⟨v, h1, h3⟩
      obtain ⟨vo, hvo, hco⟩ : ∃ v, valV ro (.inl e.1) = some v ∧ ClkAt H1 v cc := by
        rcases q2.val (n := e.1) with ⟨_, z⟩ | ⟨v, c', h1, h2, h3⟩
        · rw [hcc] at z
          cases z
        · rw [hcc] at h2
          cases h2
          exact ⟨v, h1, h3⟩
      have ow : o ≠ wa := ne_of ho1 hw1.i (by simp)
      have dw : d ≠ wa := ne_of hw1.d hw1.i (by simp)
      refine ⟨rfl, _, rfl, ?_⟩
      cases hway : decide (V.int (n % 8) = V.int 5) with
      | true =>
        refine ifT rfl ⟨_, rfl, o, rfl, .inl ⟨_, .of ho1⟩, _, rfl, ro, .inl e.1, vo, ho1, rfl, hvo, ?_⟩
        generalize hh2 : upd H1 o _ = H2
        have o2 : H2 o = some _ := hh2 ▸ upd_same
        have w2 : WAt K H2 wa dx d g r := ⟨hh2 ▸ (upd_ne ow.symm).trans hw1.i, hh2 ▸ (upd_ne S.od.symm).trans hw1.d⟩
        have F2 : Fr3 wa d o H H2 := hh2 ▸ (Fr3.of e1).po ho1 (by simp)
        have T2 : Tp H1 H2 := hh2 ▸ .put (by rw [ho1]; simp)
        refine ⟨_, rfl, wa, dx, _, rfl, w2.i, rfl, _, rfl, wa, .int e.1, rfl, dx, d, g, r, _, w2, .int _, .inl ⟨e.1, vr, rfl, hvr, ?_⟩⟩
        dsimp only
        generalize hh3 : upd H2 d _ = H3
        have d3 : H3 d = some _ := hh3 ▸ upd_same
        have o3 : H3 o = some _ := hh3 ▸ (upd_ne S.od).trans o2
        have w3 : H3 wa = some _ := hh3 ▸ (upd_ne dw.symm).trans w2.i
        have F3 : Fr3 wa d o H H3 := hh3 ▸ F2.pd w2.d (by simp)
        have T3 : Tp H2 H3 := hh3 ▸ .put (by rw [w2.d]; simp)
        obtain ⟨a1, rfl, ha1⟩ := (hcr.tp (T2.trans T3)).at_
        obtain ⟨a2, rfl, ha2⟩ := (hco.tp (T2.trans T3)).at_
        refine eq_self (.tup (.of ha1) (.cons (.int _) (.cons (.int _) .nil))) (.tup (.of ha2) (.cons (.int _) (.cons (.int _) .nil))) (sh2 _ _) ⟨true, rfl, ifT rfl ?_⟩
        exact hQ _ _ (q g (dropL l e.1) _ F3 ⟨⟨dx, _, _, ⟨w3, d3⟩, o3, (hr1.tp F3.t).drop, (hr2.tp F3.t).drop⟩, S.ok.drop, Nat.le_trans dropL_len S.len, S.od⟩)
      | false =>
        have hg : DGet H1 o (.int e.1) (some vo) := hvo ▸ DGet.k (k := Sum.inl e.1) ho1
        refine ifF rfl ⟨_, rfl, _, rfl, o, vo, rfl, hg, ?_⟩
        obtain ⟨a2, rfl, ha2⟩ := hco.at_
        have c1 : 0 < cc.1 := by have := hco.ok.h1; omega
        refine ix0 ha2 ⟨_, rfl, c1, _, rfl, c1, ?_⟩
        refine ⟨c, k + 8, rfl, fun z z0 z1 => ⟨z, rfl, _, rfl, c1, by decide, fun p3 n3 => ⟨⟨by decide, by decide⟩, by decide, ?_⟩⟩⟩
        have w0 := Int.emod_nonneg z (show cc.1 ≠ 0 by omega)
        have w1 := Int.emod_lt_of_pos z c1
        have t0 := Int.emod_nonneg tn (show cc.1 ≠ 0 by omega)
        have t1 := Int.emod_lt_of_pos tn c1
        refine ixL upd_same (by omega) (by show _ < (3 : Int); omega) fun v hv3 => ?_
        obtain ⟨j, rfl, j0, j1⟩ := anInt [tn % cc.1, tn % cc.1, z % cc.1] (fun a => 0 ≤ a ∧ a < cc.1) hv3 (by
          intro a ha
          simp only [List.mem_cons, List.not_mem_nil, or_false] at ha
          rcases ha with rfl | rfl | rfl <;> constructor <;> omega)
        generalize hh2 : upd H1 p3 _ = H2
        have s2 : Same H1 H2 := hh2 ▸ same_upd n3
        refine ⟨_, rfl, _, rfl, (by show 2 ≤ sizeLine; decide), fun p4 n4 => ?_⟩
        generalize hh3 : upd H2 p4 _ = H3
        have z3 : Same H2 H3 := hh3 ▸ same_upd n4
        have u3 : H3 p4 = some _ := hh3 ▸ upd_same
        have s3 := s2.trans z3
        have ho3 := s3 _ _ ho1
        have hw3 := hw1.same s3
        have l1 : ro.length ≤ 1000 := by
          have := hr2.len
          have := S.len
          omega
        have l2 : r.length ≤ 1000 := by
          have := hr1.len
          have := S.len
          omega
        refine ⟨_, rfl, _, rfl, o, _, rfl, .k (k := Sum.inl e.1) ho3 (small1000 l1), ?_⟩
        generalize hh4 : upd H3 o _ = H4
        have o4 : H4 o = some _ := hh4 ▸ upd_same
        have w4 : WAt K H4 wa dx d g r := ⟨hh4 ▸ (upd_ne ow.symm).trans hw3.i, hh4 ▸ (upd_ne S.od.symm).trans hw3.d⟩
        have F4 : Fr3 wa d o H H4 := hh4 ▸ (Fr3.of (e1.trans s3)).po ho3 (by simp)
        have T4 : Tp H3 H4 := hh4 ▸ .put (by rw [ho3]; simp)
        have hcr4 := (hcr.same s3).tp T4
        refine ⟨_, rfl, wa, dx, _, rfl, w4.i, rfl, _, rfl, _, rfl, wa, .int e.1, .int j, rfl, dx, d, g, r, _, w4, .int _, .inl ⟨e.1, vr, rfl, hvr, l2, cc, _, hcr4, .int j, .inl ⟨j, rfl, j0, j1, fun p5 n5 => ?_⟩⟩⟩
        generalize hh5 : upd H4 p5 _ = H5
        have z5 : Same H4 H5 := hh5 ▸ same_upd n5
        have u5 : H5 p5 = some _ := hh5 ▸ upd_same
        have w5 := w4.same z5
        have o5 := z5 _ _ o4
        generalize hh6 : upd H5 d _ = H6
        have d6 : H6 d = some _ := hh6 ▸ upd_same
        have o6 : H6 o = some _ := hh6 ▸ (upd_ne S.od).trans o5
        have i6 : H6 wa = some _ := hh6 ▸ (upd_ne dw.symm).trans w5.i
        have F6 : Fr3 wa d o H H6 := hh6 ▸ (F4.same z5).pd w5.d (by simp)
        have T6 : Tp H5 H6 := hh6 ▸ .put (by rw [w5.d]; simp)
        have ck : Clk (cc.1, j) := ⟨hco.ok.h1, hco.ok.h2, j0, j1⟩
        have c5 : ClkAt H6 (.ref p5) (cc.1, j) := ⟨⟨p5, rfl, T6 _ _ u5⟩, ck⟩
        have c4 : ClkAt H6 (.ref p4) (cc.1, j) := ⟨⟨p4, rfl, T6 _ _ (z5 _ _ (T4 _ _ u3))⟩, ck⟩
        dsimp only
        refine ⟨_, rfl, ifT (decide_eq_true rfl) ⟨_, rfl, hQ _ _ (q g (putL l e.1 (cc.1, j)) _ F6 ⟨⟨dx, _, _, ⟨i6, d6⟩, o6, (hr1.tp F6.t).put c5, (hr2.tp F6.t).put c4⟩, S.ok.turn hcc, ?_, S.od⟩)⟩⟩
        rw [putL_len hcc]
        exact S.len
    refine ⟨_, (pss_cons (ps_set (i := 6) sc__law_done.nd rfl (Or.inl rfl) (pe_fn M (hr.mono (by decide)) pass0 (pa_cons (pv 3) (pa_cons (pv 4) pa_nil)))) (pss_cons (ps_set (i := 7) sc__law_done.nd rfl (Or.inl rfl) (pe_callB (call_sortedDI (by rfl)) (by rfl) B.sorted (by decide +kernel) (pa_cons (pv 1) pa_nil))) (pss_cons (ps_set (i := 8) sc__law_done.nd rfl (Or.inl rfl) (pe_op op_mod (pv 6) pe_int)) (pss_cons (ps_if (PW.pt (pw_or (PW.pt (pw_and (pt_cmpR op_lt (pv 8) pe_int (nomark _)) (pw_and1 (pt_cmpR op_lt (pe_callB call_lenD (by rfl) B.len (by decide +kernel) (pa_cons (pv 1) pa_nil)) pe_int (nomark _))))) (pw_or1 (pt_cmpR (op_eqE (Nat.lt_of_succ_lt hu)) (pv 1) pe_dnewK (nomark _))))) hput pss_nil) hrest)))), ?_⟩
    walk_at "rd"
    have kz : (l.map (·.1)).length < 64 := by
      have := S.len
      rw [List.length_map]
      omega
    refine ⟨c, k, rfl, fun n n0 n1 => ⟨ro, .of ho, l.map (·.1), hr2.keys, kz, fun ys p perm srt np => ?_⟩⟩
    obtain rfl : ys = l.map (·.1) := List.Perm.eq_of_pairwise (le := fun a b : Int => a ≤ b) (fun a b _ _ h1 h2 => by omega) srt (List.pairwise_map.mpr (S.ok.inc.imp fun h => Int.le_of_lt h)) perm
    generalize hh1 : upd H p _ = H1
    have s1 : Same H H1 := hh1 ▸ same_upd np
    have u1 : H1 p = some _ := hh1 ▸ upd_same
    have ho1 := s1 _ _ ho
    refine ⟨n, rfl, by decide, ?_⟩
    have EMP : ∀ p1, H1 p1 = none → rEqE (.ref o) (.ref p1) (upd H1 p1 (.dK [])) fun x H' => ∃ b, x = .bl b ∧ if b = true then tput { nx := trest { nx := fun x H' => Q .non H', rt := Q }, rt := Q } [some (.ref wa), some (.ref o), some (.int g), some (.int c), some (.int k), some (.int tn), some (.int n), some (.ref p), some (.int (n % 8)), none, none, none, none] H'
        else trest { nx := fun x H' => Q .non H', rt := Q } [some (.ref wa), some (.ref o), some (.int g), some (.int c), some (.int k), some (.int tn), some (.int n), some (.ref p), some (.int (n % 8)), none, none, none, none] H' := by
      intro p1 np1
      refine ⟨o, p1, ro, rfl, rfl, same_upd np1 _ _ ho1, upd_same, _, rfl, ?_⟩
      by_cases hl : l = []
      · have hro : ro = [] := List.length_eq_zero_iff.mp (by rw [hr2.len, hl]; rfl)
        refine ifT (decide_eq_true hro) (htput _ _ _ _ _ _ _ _ _ (s1.trans (same_upd np1)) (by rw [hl]; decide) fun _ _ z => z)
      · have hro : ro ≠ [] := fun z => hl (List.length_eq_zero_iff.mp (by rw [← hr2.len, z]; rfl))
        refine ifF (decide_eq_false hro) (htrest _ _ _ _ _ _ _ _ (s1.trans (same_upd np1)) n0 hl (same_upd np1 _ _ u1) fun _ _ z => z)
    by_cases h5 : n % 8 < 5
    · refine ifT (decide_eq_true h5) ⟨ro, ho1, ?_⟩
      by_cases h6 : (ro.length : Int) < 60
      · refine ifT (decide_eq_true h6) (htput _ _ _ _ _ _ _ _ _ s1 (by have := hr2.len; omega) fun _ _ z => z)
      · exact ifF (decide_eq_false h6) EMP
    · exact ifF (decide_eq_false h5) EMP
end
end Rf

namespace Rf
open PySem L2 PySem.Spec PyProof.Rows
local macro_rules | `(tactic| walk_at "rd") => `(tactic| simp only [tSeq, tPar, tIsN, tNotN, tAsg, tLst, tTup, tDNewK, tOp, tUn, tVar, tC, gName, tRet, tRetN, tIfS, tNext, tTest, tB, tNot, tAnd, tOr, tIf, tAndV, tOrV, tNotV, tCons, tNil, tCB, tCall, tDrop, tChain, rI, rI0, rU, L2.start, List.map_cons, List.map_nil, List.length_cons, List.length_nil, List.replicate_succ, List.replicate_zero, List.cons_append, List.nil_append, List.append_nil, List.getElem?_cons_zero, List.getElem?_cons_succ, List.set_cons_zero, List.set_cons_succ, Option.some.injEq, exists_eq_left', exists_eq_left, exists_and_left, V.int.injEq, V.bl.injEq, V.str.injEq, V.ref.injEq, List.cons.injEq, and_true, true_and, Nat.reduceSub, Nat.reduceAdd, Bool.not_true, Bool.not_false, if_true, if_false, Bool.false_eq_true, reduceIte, forall_const])
section
variable {P : Program} {w : World} {K : PySem.W.Frag} {mg : Str → Option Value} {base : Heap}
theorem Rws.get {H : Hp} {r : List (Key × V)} {l : List Row} {n : Int} {c : Int × Int} (h : Rws H r l) (e : getL l n = some c) : ∃ v, valV r (.inl n) = some v ∧ ClkAt H v c := by
  rcases h.val (n := n) with ⟨_, z⟩ | ⟨v, c', h1, h2, h3⟩
  · rw [e] at z
    cases z
  · rw [e] at h2
    cases h2
    exact ⟨v, h1, h3⟩
theorem told_clk {H : Hp} {ts : List Addr} {l : List Row} (h : Told H ts l) {ta : Addr} (hm : V.ref ta ∈ ts.map V.ref) : ∃ v2, H ta = some (.tup [.int (numOf H (.ref ta)), v2]) ∧ ∃ c2, ClkAt H v2 c2 := by
  induction h with
  | nil => cases hm
  | @cons t v e ts l h c r ih =>
    rcases List.mem_cons.mp hm with z | hm
    · injection z with z
      subst z
      exact ⟨v, by rw [numOf_at h]; exact h, _, c⟩
    · exact ih hm
def spIsRightL (K : PySem.W.Frag) : Sp := fun vs H Q _ => ∃ (w o : Addr) (c k : Int), vs = [.ref w, .ref o, .int c, .int k] ∧ ∃ (d : Addr) (g : Int) (l : List Row), Side K H w d o g l ∧ ∀ H', Same H H' → Q (.bl true) H'
theorem h_is_rightL (B : Bt mg) (W : Wc K mg) (M : Has P w K mg base CX0 1 "_law_mixed" ["_law_cell", "_law_k"] spMixed) (T : Has P w K mg base CX0 3 "_law_turn" ["_law_cell", "_law_k"] spTurn) (L : Has P w K mg base CX0 2 "_law_whole" ["_law_found"] spWhole)
    (Mclocks : HasM P w K mg base CX0 1 "clocks" ["self"] (spClocks K)) (mclocks : Meth K (wC K) "clocks" (He.ma K (wC K) "clocks")) (Mshows : HasM P w K mg base (L2.CX P w) 6 "shows" ["self", "number", "turn"] (spShowsM K)) (mshows : Meth K (wC K) "shows" (He.ma K (wC K) "shows"))
    (D : Df K "_law_is_right" s__law_is_right) (g : mg "_law_is_right" = some (.ref (He.ga K "_law_is_right"))) : Has P w K mg base CX0 7 "_law_is_right" ["_law_shut", "_law_own", "_law_cell", "_law_k"] (spIsRightL K) := by
  refine has_of0 D g sc__law_is_right (fun _ _ _ _ _ _ us hl => match us, hl with | [_, _, _, _], _ => rfl) (fun vs H Q E h => ?_) (fun A outer s H vs Q E hr h => ?_)
  · obtain ⟨w, o, c, k, rfl, _⟩ := h
    rfl
  · obtain ⟨wa, o, c, k, rfl, d, g, l, S, q⟩ := h
    have hu := hu_of hr
    obtain ⟨dx, r, ro, hw, ho, hr1, hr2⟩ := S.ex
    refine ⟨_, (pss_cons (ps_set (i := 4) sc__law_is_right.nd rfl (Or.inl rfl) (pe_mth0 Mclocks W.c mclocks (hr.mono (by decide)) pass0 (pv 0)))
      (pss_cons (ps_if (PW.pt (pw_or (pt_not (pt_val (pe_callB call_isi (by rfl) B.isinstance (by decide +kernel) (pa_cons (pv 4) (pa_cons (pe_bltn (v := .ty "list") (by rfl) B.list (by decide +kernel) rfl) pa_nil))))) (pw_or1 (pt_cmpR (op_neD hr.units) (pv 4) (pe_callB cr_sortedN (by rfl) B.sorted (by decide +kernel) (pa_cons (LiI.pe_listItems (by rfl) (pv 1) (by rfl) B.list (by decide +kernel)) pa_nil)) (nomark _))))) (pss_one (ps_ret pe_bl)) pss_nil)
      (pss_cons (ps_if (pt_not (pt_val (pe_callB (cr_all (by rfl)) (by rfl) B.all (by decide +kernel) (pa_cons (pe_lc (own := [("_law_row", 8)]) (g := gName 8) (te := tAndV (tCB (rIsi K) (tCons (tVar 8) (tCons (tC (.ty "tuple")) tNil))) (tCB (rIsi K) (tCons (tOp (rIxT K) (tVar 8) (tC (.int 1))) (tCons (tC (.ty "tuple")) tNil)))) (by rfl) sc__law_is_right.nd (pi_list (pv 4)) (blkOk_by (own := [("_law_row", 8)]) (N := ["_law_shut", "_law_own", "_law_cell", "_law_k", "_law_found", "_law_at", "_law_turn_here", "_law_told", "_law_row"]) (sc := defScope s__law_is_right) (by decide +kernel)) (fun _ _ _ _ _ => (pg_name (i := 8) sc__law_is_right.nd rfl (Or.inl rfl))) (fun _ _ _ _ _ => pts_nil) (fun _ _ _ _ _ => (pe_and (pe_callB call_isi (by rfl) B.isinstance (by decide +kernel) (pa_cons (pv 8) (pa_cons (pe_bltn (v := .ty "tuple") (by rfl) B.tuple (by decide +kernel) rfl) pa_nil))) (pe_one (pe_callB call_isi (by rfl) B.isinstance (by decide +kernel) (pa_cons (pe_ix ix_tup (pv 8) pe_int (fun _ _ => rfl)) (pa_cons (pe_bltn (v := .ty "tuple") (by rfl) B.tuple (by decide +kernel) rfl) pa_nil))))))) pa_nil)))) (pss_one (ps_ret pe_bl)) pss_nil)
      (pss_cons (ps_expr (pe_bm PySem.F.plainAttrs_list PySem.F.slot_list_append PySem.F.type_list_append mt_append (pv 4) (pa_cons (pe_tup (pa_cons pe_int (pa_cons (pe_tup (pa_cons pe_int (pa_cons pe_int pa_nil))) pa_nil))) pa_nil)))
      (pss_cons (ps_if (pt_cmpR (op_eqE (Nat.lt_of_succ_lt hu)) (pv 1) pe_dnewK (nomark _)) (pss_one (ps_ret pe_bl)) pss_nil)
      (pss_cons (ps_set (i := 5) sc__law_is_right.nd rfl (Or.inl rfl) (pe_ix ix_list (pe_callB (call_sortedDI (by rfl)) (by rfl) B.sorted (by decide +kernel) (pa_cons (pv 1) pa_nil)) (pe_op op_mod (pe_fn M (hr.mono (by decide)) pass0 (pa_cons (pv 2) (pa_cons (pv 3) pa_nil))) (pe_callB call_lenD (by rfl) B.len (by decide +kernel) (pa_cons (pv 1) pa_nil))) (fun _ _ => rfl)))
      (pss_cons (ps_set (i := 6) sc__law_is_right.nd rfl (Or.inl rfl) (pe_fn T (hr.mono (by decide)) pass0 (pa_cons (pv 2) (pa_cons (pe_op op_add (pv 3) pe_int) pa_nil))))
      (pss_cons (ps_set (i := 7) sc__law_is_right.nd rfl (Or.inl rfl) (pe_mth Mshows W.c mshows (hr.mono (by decide)) passL (pv 0) (pa_cons (pv 5) (pa_cons (pv 6) pa_nil))))
      (pss_one (ps_ret (pe_and (pe_fn L (hr.mono (by decide)) pass0 (pa_cons (pv 7) pa_nil)) (pe_one (pe_cmpR op_eq (pv 7) (pe_op op_mod (pv 6) (pe_ix ix_tup (pe_dget hu (pv 1) (pv 5) (fun _ _ => rfl)) pe_int (fun _ _ => rfl))) (nomark _)))))))))))))), ?_⟩
    walk_at "rd"
    refine ⟨_, rfl, wa, dx, _, rfl, hw.i, rfl, wa, rfl, dx, d, g, r, hw, fun H1 fp ts e1 nfp nts pts ufp pr => ?_⟩
    walk_at "rd"
    have told := told_of pr (hr1.tp (.of e1))
    refine is_ty (b := true) (.lst ufp) (kit_ty (by decide +kernel)) ⟨true, rfl, ifF rfl ?_⟩
    refine ⟨_, rfl, o, ro, rfl, e1 _ _ ho, fun H2 p2 ts2 e2 np2 nts2 pts2 u2 pr2 => ?_⟩
    have s2 := e1.trans e2
    have told2 := told_of pr2 (hr2.tp (.of s2))
    refine sorted_told u2 told2 S.ok.inc fun p3 n3 => ?_
    generalize hh3 : upd _ p3 _ = H3
    have z3 : Same _ H3 := hh3 ▸ same_upd n3
    have u3 : H3 p3 = some _ := hh3 ▸ upd_same
    have s3 : Same H2 H3 := z3
    have E3 := s2.trans s3
    have ufp3 := s3 _ _ (e2 _ _ ufp)
    have told3 := told.tp (.of (Same.trans e2 s3))
    have dp3 := told3.dp (K := K)
    refine ne_self (.lst (.of ufp3) dp3) (.lst (.of u3) ((told2.tp (.of s3)).dp)) (shaped_rows l) ⟨false, rfl, ifF rfl ?_⟩
    refine ⟨_, rfl, fp, rfl, ⟨_, .of ufp3⟩, fun Dl nD => lc_list (K := K) (a := fp) (xs := ts.map V.ref) (fun i H' => Same H3 H' ∧ H' Dl = some (.lst ((List.replicate i true).map V.bl))) ⟨same_upd nD, upd_same⟩ (fun _ _ _ h => .of (h.1 _ _ ufp3)) ?_ ?_⟩
    · rintro i y H' hy ⟨f1, f2⟩
      have hm := List.mem_of_getElem? hy
      obtain ⟨⟨ta, yv, rfl, hta⟩, e0, he0, _⟩ := told3.each y hm
      obtain ⟨v2, hv2, c2, hc2⟩ := told_clk told3 hm
      obtain ⟨a2, rfl, ha2⟩ := hc2.at_
      have hi : i < ts.length := by
        have := (List.getElem?_eq_some_iff.mp hy).1
        rw [List.length_map] at this
        exact this
      refine ⟨rfl, ?_⟩
      simp only [tYes, if_true]
      refine ⟨_, rfl, ?_⟩
      simp only [tCons, tC, tNil]
      refine is_ty (b := true) (.tup (f1 _ _ hv2)) kitTT ⟨true, rfl, iteT ⟨_, rfl, ?_⟩⟩
      refine ix1 (f1 _ _ hv2) ?_
      refine is_ty (b := true) (.tup (f1 _ _ ha2)) kitTT ⟨_, f2, ?_, same_put f1 nD, ?_⟩
      · rw [List.length_map, List.length_replicate]
        have := told.len
        have := S.len
        exact Nat.lt_of_le_of_lt (show i ≤ 1000 by omega) (by decide)
      · rw [upd_same, List.replicate_succ']
        simp
    · rintro H4 ⟨f1, f2⟩
      refine ⟨Dl, _, rfl, .of f2, _, rfl, ifF (by simp) ?_⟩
      have E4 : Same H H4 := E3.trans f1
      refine ⟨_, rfl, .inl ⟨rfl, _, .of (f1 _ _ ufp3)⟩, ?_⟩
      refine ⟨by decide, fun p5 n5 => ⟨(by show 2 ≤ sizeLine; decide), fun p6 n6 => ?_⟩⟩
      generalize hh5 : upd H4 p5 _ = H5 at n6 ⊢
      have s5 : Same H4 H5 := hh5 ▸ same_upd n5
      generalize hh6 : upd H5 p6 _ = H6
      have s6 : Same H5 H6 := hh6 ▸ same_upd n6
      have E6 := (E4.trans s5).trans s6
      refine ⟨fp, _, _, rfl, rfl, s6 _ _ (s5 _ _ (f1 _ _ ufp3)), ?_, ?_⟩
      · rw [List.length_map]
        have := told.len
        have := S.len
        exact Nat.lt_of_le_of_lt (show ts.length ≤ 1000 by omega) (by decide)
      generalize hh7 : upd H6 fp _ = H7
      have E7 : Same H H7 := hh7 ▸ same_put E6 nfp
      refine fun p8 n8 => ⟨o, p8, ro, rfl, rfl, same_upd n8 _ _ (E7 _ _ ho), upd_same, _, rfl, ?_⟩
      generalize hh8 : upd H7 p8 _ = H8
      have E8 : Same H H8 := E7.trans (hh8 ▸ same_upd n8)
      by_cases hro : ro = []
      · exact ifT (decide_eq_true hro) (q _ E8)
      have hl : l ≠ [] := fun z => hro (List.length_eq_zero_iff.mp (by rw [hr2.len, z]; rfl))
      have lp : 0 < l.length := List.length_pos_iff.mpr hl
      have kz : (l.map (·.1)).length < 64 := by
        have := S.len
        rw [List.length_map]
        omega
      refine ifF (decide_eq_false hro) ⟨ro, .of (E8 _ _ ho), l.map (·.1), hr2.keys, kz, fun ys p9 perm srt n9 => ?_⟩
      obtain rfl : ys = l.map (·.1) := List.Perm.eq_of_pairwise (le := fun a b : Int => a ≤ b) (fun a b _ _ h1 h2 => by omega) srt (List.pairwise_map.mpr (S.ok.inc.imp fun h => Int.le_of_lt h)) perm
      generalize hh9 : upd H8 p9 _ = H9
      have E9 : Same H H9 := E8.trans (hh9 ▸ same_upd n9)
      have u9 : H9 p9 = some _ := hh9 ▸ upd_same
      have lz : ((l.map (·.1)).map V.int).length = l.length := by rw [List.length_map, List.length_map]
      refine ⟨c, k, rfl, fun n n0 n1 => ⟨ro, E9 _ _ ho, n, rfl, by rw [hr2.len]; omega, ?_⟩⟩
      rw [hr2.len]
      have i0 := Int.emod_nonneg n (show (l.length : Int) ≠ 0 by omega)
      have i1 := Int.emod_lt_of_pos n (show (0 : Int) < l.length by omega)
      refine ixL u9 i0 (by rw [lz]; exact i1) fun v hv => ?_
      obtain ⟨m, hm, rfl⟩ := List.mem_map.mp hv
      obtain ⟨e, he, rfl⟩ := List.mem_map.mp hm
      obtain ⟨cc, hcc⟩ := getL_some (l := l) (n := e.1) ⟨e, he, rfl⟩
      refine ⟨c, k + 1, rfl, fun t H10 e10 _ => ?_⟩
      have E10 := E9.trans e10
      have q1 := hr1.tp (.of E10)
      have q2 := hr2.tp (.of E10)
      have w10 := hw.same E10
      have o10 := E10 _ _ ho
      obtain ⟨vr, hvr, hcr⟩ := q1.get hcc
      obtain ⟨vo, hvo, hco⟩ := q2.get hcc
      have c1 : 0 < cc.1 := by have := hco.ok.h1; omega
      refine ⟨_, rfl, wa, dx, _, rfl, w10.i, rfl, _, rfl, _, rfl, wa, .int e.1, .int t, rfl, dx, d, g, r, _, w10, .int _, .inl ⟨e.1, vr, rfl, hvr, cc, hcr, .inr ⟨t, rfl, ?_⟩⟩⟩
      refine ⟨_, _, rfl, .int _, true, rfl, ifT rfl ?_⟩
      have hg : DGet H10 o (.int e.1) (some vo) := hvo ▸ DGet.k (k := Sum.inl e.1) o10
      refine ⟨_, rfl, _, rfl, o, vo, rfl, hg, ?_⟩
      obtain ⟨a2, rfl, ha2⟩ := hco.at_
      refine ix0 ha2 ⟨t, rfl, _, rfl, c1, rfl, ?_⟩
      simpa using q _ E10
end
end Rf

namespace Rf
open PySem L2 PySem.Spec PyProof.Rows
local macro_rules | `(tactic| walk_at "rd") => `(tactic| simp only [tSeq, tPar, tIsN, tNotN, tAsg, tLst, tTup, tDNewK, tOp, tUn, tVar, tC, gName, tRet, tRetN, tIfS, tNext, tTest, tB, tNot, tAnd, tOr, tIf, tAndV, tOrV, tNotV, tCons, tNil, tCB, tCall, tDrop, tChain, rI, rI0, rU, L2.start, List.map_cons, List.map_nil, List.length_cons, List.length_nil, List.replicate_succ, List.replicate_zero, List.cons_append, List.nil_append, List.append_nil, List.getElem?_cons_zero, List.getElem?_cons_succ, List.set_cons_zero, List.set_cons_succ, Option.some.injEq, exists_eq_left', exists_eq_left, exists_and_left, V.int.injEq, V.bl.injEq, V.str.injEq, V.ref.injEq, List.cons.injEq, and_true, true_and, Nat.reduceSub, Nat.reduceAdd, Bool.not_true, Bool.not_false, if_true, if_false, Bool.false_eq_true, reduceIte, forall_const])
section
variable {P : Program} {w : World} {K : PySem.W.Frag} {mg : Str → Option Value} {base : Heap}
theorem ixA0 {H : Hp} {Q : VK} {p : Addr} {u v : V} (h : H p = some (.lst [u, v])) (q : Q u H) : rIxL K (.ref p) (.int 0) H Q := ⟨p, _, 0, u, rfl, rfl, .of h, rfl, q⟩
theorem ixA1 {H : Hp} {Q : VK} {p : Addr} {u v : V} (h : H p = some (.lst [u, v])) (q : Q v H) : rIxL K (.ref p) (.int 1) H Q := ⟨p, _, 1, v, rfl, rfl, .of h, rfl, q⟩
theorem ixAt {H : Hp} {Q : VK} {p : Addr} {xs : List V} {i : Nat} {v : V} (h : H p = some (.lst xs)) (hv : xs[i]? = some v) (q : Q v H) : rIxL K (.ref p) (.int (i : Int)) H Q := ⟨p, xs, (i : Int), v, rfl, rfl, .of h, atI_nat hv, q⟩
theorem setAt {H : Hp} {Q : Hp → Prop} {p : Addr} {xs : List V} {i : Nat} {k : Int} {v : V} (hk : k = (i : Int)) (h : H p = some (.lst xs)) (hi : i < xs.length) (q : Q (upd H p (.lst (xs.set i v)))) : rSetL (.ref p) (.int k) v H Q := by
  subst hk
  exact ⟨p, xs, (i : Int), i, rfl, rfl, h, by unfold ixN; rw [if_pos (by omega), if_pos (by omega)]; simp, q⟩
def setF {α : Type} (f : Nat → α) (k : Nat) (v : α) : Nat → α := fun j => if j = k then v else f j
theorem setF_at {α : Type} (f : Nat → α) (k : Nat) (v : α) : setF f k v k = v := if_pos rfl
theorem setF_ne {α : Type} (f : Nat → α) {k j : Nat} (v : α) (h : j ≠ k) : setF f k v j = f j := if_neg h
theorem two_set {α β : Type} (F : α → β) (f : Nat → α) {i : Nat} (hi : i < 2) (v : α) : [F (f 0), F (f 1)].set i (F v) = [F (setF f i v 0), F (setF f i v 1)] := by
  rcases (show i = 0 ∨ i = 1 by omega) with rfl | rfl <;> rfl
theorem two_get {α β : Type} (F : α → β) (f : Nat → α) {i : Nat} (hi : i < 2) : [F (f 0), F (f 1)][i]? = some (F (f i)) := by
  rcases (show i = 0 ∨ i = 1 by omega) with rfl | rfl <;> rfl
theorem Side.keep {K : PySem.W.Frag} {H H' : Hp} {w d o : Addr} {g : Int} {l : List Row} (S : Side K H w d o g l) (hw : ∀ u, H w = some u → (∀ xs, u ≠ .lst xs) → H' w = some u) (hd : ∀ u, H d = some u → (∀ xs, u ≠ .lst xs) → H' d = some u) (ho : ∀ u, H o = some u → (∀ xs, u ≠ .lst xs) → H' o = some u) (t : Tp H H') : Side K H' w d o g l := by
  obtain ⟨dx, r, ro, h1, h2, h3, h4⟩ := S.ex
  exact ⟨⟨dx, r, ro, ⟨hw _ h1.i (by simp), hd _ h1.d (by simp)⟩, ho _ h2 (by simp), h3.tp t, h4.tp t⟩, S.ok, S.len, S.od⟩
theorem Side.same {K : PySem.W.Frag} {H H' : Hp} {w d o : Addr} {g : Int} {l : List Row} (S : Side K H w d o g l) (e : Same H H') : Side K H' w d o g l := S.keep (fun u h _ => e _ u h) (fun u h _ => e _ u h) (fun u h _ => e _ u h) (.of e)
/-- a list written anew -/
theorem Side.lst {K : PySem.W.Frag} {H : Hp} {w d o p : Addr} {g : Int} {l : List Row} {xs : List V} {u : HO} (S : Side K H w d o g l) (h : H p = some (.lst xs)) : Side K (upd H p u) w d o g l := by
  have ne : ∀ (a : Addr) (v : HO), H a = some v → (∀ xs, v ≠ .lst xs) → upd H p u a = some v := fun a v ha hn => by
    rw [upd_ne]
    · exact ha
    · intro e
      rw [e, h] at ha
      exact hn _ (Option.some.inj ha).symm
  exact S.keep (ne w) (ne d) (ne o) (.put (by rw [h]; simp))
/-- two walls, the law's two dicts beside them, the numbers given; the list that is gone through -/
structure LS (K : PySem.W.Frag) (H : Hp) (ps po pg pe : Addr) (xs : List V) : Prop where
  ex : ∃ (w d o : Nat → Addr) (g : Nat → Int) (l : Nat → List Row), H ps = some (.lst [.ref (w 0), .ref (w 1)]) ∧ H po = some (.lst [.ref (o 0), .ref (o 1)]) ∧ H pg = some (.lst [.int (g 0), .int (g 1)]) ∧
    (∀ i, i < 2 → Side K H (w i) (d i) (o i) (g i) (l i)) ∧ ∀ i j, i < 2 → j < 2 → i ≠ j → w i ≠ w j ∧ d i ≠ d j ∧ o i ≠ o j ∧ o i ≠ d j
  it : H pe = some (.lst xs)
  ne : ps ≠ po ∧ ps ≠ pg ∧ po ≠ pg ∧ pe ≠ ps ∧ pe ≠ po ∧ pe ≠ pg
theorem make_wall {K : PySem.W.Frag} {σ : L2.St} {H : Hp} {Q : VK} (q : ∀ (x dx d : Addr) (H' : Hp), Same H H' → H x = none → H d = none → x ≠ d → WAt K H' x dx d 0 [] → Q (.ref x) H') : tMake (wC K) (spInit K) [] E0 tNil σ H Q := by
  refine fun x dx nx ndx hne => ⟨x, rfl, dx, upd_same, fun p np => ⟨rfl, ?_⟩⟩
  generalize hh1 : upd (upd H dx _) x _ = H1 at np ⊢
  have s1 : Same H H1 := hh1 ▸ same_put (same_upd ndx) nx
  have u1 : H1 x = some _ := hh1 ▸ upd_same
  have xp : x ≠ p := ne_fresh u1 np
  exact q x dx p _ (same_put (s1.trans (same_upd np)) nx) nx (fresh_at s1 np) xp ⟨upd_same, (upd_ne xp.symm).trans upd_same⟩
def spLaw0 (K : PySem.W.Frag) : Sp := fun vs H Q _ => ∃ (a : Addr) (ns : List Int), vs = [.ref a] ∧ SqL K H a (ns.map V.int) ∧ ns.length ≤ 63 ∧ ∀ H', Q (.bl true) H'
theorem LS.same {K : PySem.W.Frag} {H H' : Hp} {ps po pg pe : Addr} {xs : List V} (S : LS K H ps po pg pe xs) (e : Same H H') : LS K H' ps po pg pe xs := by
  obtain ⟨⟨w, d, o, g, l, h1, h2, h3, h4, h5⟩, it, ne⟩ := S
  exact ⟨⟨w, d, o, g, l, e _ _ h1, e _ _ h2, e _ _ h3, fun i hi => (h4 i hi).same e, h5⟩, e _ _ it, ne⟩
theorem h_law (B : Bt mg) (W : Wc K mg) (M : Has P w K mg base CX0 1 "_law_mixed" ["_law_cell", "_law_k"] spMixed) (T : Has P w K mg base CX0 3 "_law_turn" ["_law_cell", "_law_k"] spTurn)
    (In : HasM P w K mg base CX0 1 "__init__" ["self"] (spInit K)) (Mcop : HasM P w K mg base CX0 3 "copied" ["self"] (spCopied K)) (mcop : Meth K (wC K) "copied" (He.ma K (wC K) "copied"))
    (Do : Has P w K mg base CX0 6 "_law_done" ["_law_shut", "_law_own", "_law_given", "_law_cell", "_law_k", "_law_turn_here"] (spDone K)) (Ri : Has P w K mg base CX0 7 "_law_is_right" ["_law_shut", "_law_own", "_law_cell", "_law_k"] (spIsRightL K))
    (D : Df K "law" s_law) (g : mg "law" = some (.ref (He.ga K "law"))) : Has P w K mg base CX0 8 "law" ["_law_script"] (spLaw0 K) := by
  refine has_of0 D g sc_law (fun _ _ _ _ _ _ us hl => match us, hl with | [_], _ => rfl) (fun vs H Q E h => ?_) (fun A outer s H vs Q E hr h => ?_)
  · obtain ⟨a, ns, rfl, _⟩ := h
    rfl
  · obtain ⟨a, ns, rfl, hS, hz, q⟩ := h
    obtain ⟨tin, hinner, htin⟩ : ∃ t, PSs (bx CX0 P w K mg base ["_law_script", "_law_turn_here", "_law_cell", "_law_shuts", "_law_owns", "_law_given", "_law_k", "_law_number", "_law_at", "_law_shut", "_law_own"] "law" s_law A outer s H E).nox (forBody (forBody (defBody s_law))) t ∧
        ∀ (D : Ends) (x0 : Option V) (tu c k : Int) (ps po pg : Addr) (x7 x8 : Option V) (wa d o : Addr) (g : Int) (l : List Row) (H : Hp), Side K H wa d o g l →
          (∀ H', Same H H' → D.nx [x0, some (.int tu), some (.int c), some (.ref ps), some (.ref po), some (.ref pg), some (.int k), x7, x8, some (.ref wa), some (.ref o)] H') → t D [x0, some (.int tu), some (.int c), some (.ref ps), some (.ref po), some (.ref pg), some (.int k), x7, x8, some (.ref wa), some (.ref o)] H := by
      refine ⟨_, (pss_one (ps_if (pt_not (pt_val (pe_fn Ri (hr.mono (by decide)) pass0 (pa_cons (pv 9) (pa_cons (pv 10) (pa_cons (pv 2) (pa_cons (pe_op op_add (pv 6) pe_int) pa_nil))))))) (pss_one (ps_ret pe_bl)) pss_nil)), fun D x0 tu c k ps po pg x7 x8 wa d o g l H0 S q => ?_⟩
      walk_at "rd"
      exact ⟨wa, o, c, k + 95, rfl, d, g, l, S, fun H' e => ⟨true, rfl, ifF rfl (q _ e)⟩⟩
    obtain ⟨tcopy, hcopy, htcopy⟩ : ∃ t, PSs (bx CX0 P w K mg base ["_law_script", "_law_turn_here", "_law_cell", "_law_shuts", "_law_owns", "_law_given", "_law_k", "_law_number", "_law_at", "_law_shut", "_law_own"] "law" s_law A outer s H E).nox (ifBody (forBody (defBody s_law))) t ∧
        ∀ (D : Ends) (x0 : Option V) (tu c k : Int) (ps po pg pe : Addr) (xs : List V) (x7 x9 x10 : Option V) (i : Nat) (H : Hp), i < 2 → LS K H ps po pg pe xs →
          (∀ H', LS K H' ps po pg pe xs → D.nx [x0, some (.int tu), some (.int c), some (.ref ps), some (.ref po), some (.ref pg), some (.int k), x7, some (.int (i : Int)), x9, x10] H') → t D [x0, some (.int tu), some (.int c), some (.ref ps), some (.ref po), some (.ref pg), some (.int k), x7, some (.int (i : Int)), x9, x10] H := by
      refine ⟨_, (pss_cons (ps_asg (pe_mth0 Mcop W.c mcop (hr.mono (by decide)) pass0 (pe_ix ix_list (pv 3) (pv 8) (fun _ _ => rfl))) (pg_sub (pv 3) (pe_op op_sub pe_int (pv 8)) set_list (fun _ => rfl)))
      (pss_cons (ps_asg (pe_callTy call_dictD (by rfl) B.dict (by decide +kernel) (pa_cons (pe_ix ix_list (pv 4) (pv 8) (fun _ _ => rfl)) pa_nil)) (pg_sub (pv 4) (pe_op op_sub pe_int (pv 8)) set_list (fun _ => rfl)))
      (pss_one (ps_asg (pe_ix ix_list (pv 5) (pv 8) (fun _ _ => rfl)) (pg_sub (pv 5) (pe_op op_sub pe_int (pv 8)) set_list (fun _ => rfl)))))), fun D x0 tu c k ps po pg pe xs x7 x9 x10 i H0 hi S q => ?_⟩
      obtain ⟨⟨w, d, o, g, l, h1, h2, h3, h4, h5⟩, it, ne⟩ := S
      obtain ⟨dx, r, ro, hw, ho, hr1, hr2⟩ := (h4 i hi).ex
      have hj : 1 - i < 2 := by omega
      have ij : i ≠ 1 - i := by omega
      have ej : (1 : Int) - (i : Int) = ((1 - i : Nat) : Int) := by omega
      refine ⟨_, rfl, _, rfl, ixAt h1 (two_get V.ref w hi) ?_⟩
      refine ⟨w i, dx, _, rfl, hw.i, rfl, w i, rfl, dx, d i, g i, r, hw, fun x dx' d' H1 e1 nx nd hxd hw1 => ?_⟩
      refine ⟨_, rfl, _, rfl, _, _, rfl, rfl, setAt ej (e1 _ _ h1) hj ?_⟩
      rw [two_set V.ref w hj x]
      generalize hh2 : upd H1 ps _ = H2
      have ps2 : H2 ps = some _ := hh2 ▸ upd_same
      have S2 : Side K H2 (w i) (d i) (o i) (g i) (l i) := hh2 ▸ ((h4 i hi).same e1).lst (e1 _ _ h1)
      have k2 : ∀ a u, H1 a = some u → a ≠ ps → H2 a = some u := fun a u h n => hh2 ▸ (upd_ne n).trans h
      have T2 : Tp H0 H2 := (Tp.of e1).trans (hh2 ▸ .put (by rw [e1 _ _ h1]; simp))
      have po2 := k2 _ _ (e1 _ _ h2) ne.1.symm
      have pg2 := k2 _ _ (e1 _ _ h3) ne.2.1.symm
      have it2 := k2 _ _ (e1 _ _ it) ne.2.2.2.1
      have x2 := k2 _ _ hw1.i (ne_of hw1.i (e1 _ _ h1) (by simp))
      have d2 := k2 _ _ hw1.d (ne_of hw1.d (e1 _ _ h1) (by simp))
      obtain ⟨_, _, ro2, _, o2, _, _⟩ := S2.ex
      refine ⟨_, rfl, _, rfl, ixAt po2 (two_get V.ref o hi) ⟨o i, ro, rfl, .of (k2 _ _ (e1 _ _ ho) (ne_of (e1 _ _ ho) (e1 _ _ h1) (by simp))), fun p np => ?_⟩⟩
      generalize hh3 : upd H2 p _ = H3
      have s3 : Same H2 H3 := hh3 ▸ same_upd np
      have p3 : H3 p = some (.dK ro) := hh3 ▸ upd_same
      have N3 : Side K H3 x d' p (g i) (l i) := ⟨⟨dx', r, ro, ⟨s3 _ _ x2, s3 _ _ d2⟩, p3, hr1.tp (T2.trans (.of s3)), hr2.tp (T2.trans (.of s3))⟩, (h4 i hi).ok, (h4 i hi).len, (ne_fresh d2 np).symm⟩
      refine ⟨_, rfl, _, rfl, _, _, rfl, rfl, setAt ej (s3 _ _ po2) hj ?_⟩
      rw [two_set V.ref o hj p]
      generalize hh4 : upd H3 po _ = H4
      have k4 : ∀ a u, H3 a = some u → a ≠ po → H4 a = some u := fun a u h n => hh4 ▸ (upd_ne n).trans h
      have po4 : H4 po = some _ := hh4 ▸ upd_same
      have S4 : Side K H4 (w i) (d i) (o i) (g i) (l i) := hh4 ▸ (S2.same s3).lst (s3 _ _ po2)
      have N4 : Side K H4 x d' p (g i) (l i) := hh4 ▸ N3.lst (s3 _ _ po2)
      have ps4 := k4 _ _ (s3 _ _ ps2) ne.1
      have pg4 := k4 _ _ (s3 _ _ pg2) ne.2.2.1.symm
      have it4 := k4 _ _ (s3 _ _ it2) ne.2.2.2.2.1
      refine ⟨_, rfl, _, rfl, ixAt pg4 (two_get V.int g hi) ?_⟩
      refine ⟨_, rfl, _, rfl, _, _, rfl, rfl, setAt ej pg4 hj ?_⟩
      rw [two_set V.int g hj (g i)]
      generalize hh5 : upd H4 pg _ = H5
      have k5 : ∀ a u, H4 a = some u → a ≠ pg → H5 a = some u := fun a u h n => hh5 ▸ (upd_ne n).trans h
      have S5 : Side K H5 (w i) (d i) (o i) (g i) (l i) := hh5 ▸ S4.lst pg4
      have N5 : Side K H5 x d' p (g i) (l i) := hh5 ▸ N4.lst pg4
      have xw : x ≠ w i := (ne_fresh hw.i nx).symm
      have dd : d' ≠ d i := (ne_fresh hw.d nd).symm
      have po_ : p ≠ o i := (ne_fresh o2 np).symm
      have pd : p ≠ d i := by
        obtain ⟨_, _, _, q1, _, _, _⟩ := S2.ex
        exact (ne_fresh q1.d np).symm
      have od : o i ≠ d' := ne_fresh ho nd
      refine q H5 ⟨⟨setF w (1 - i) x, setF d (1 - i) d', setF o (1 - i) p, setF g (1 - i) (g i), setF l (1 - i) (l i), k5 _ _ ps4 ne.2.1, k5 _ _ po4 ne.2.2.1, hh5 ▸ upd_same, fun m hm => ?_, fun a b ha hb hab => ?_⟩, k5 _ _ it4 ne.2.2.2.2.2, ne⟩
      · by_cases e : m = 1 - i
        · rw [e, setF_at, setF_at, setF_at, setF_at, setF_at]
          exact N5
        · have : m = i := by omega
          rw [setF_ne _ _ e, setF_ne _ _ e, setF_ne _ _ e, setF_ne _ _ e, setF_ne _ _ e, this]
          exact S5
      · rcases (show (a = 1 - i ∧ b = i) ∨ (a = i ∧ b = 1 - i) by omega) with ⟨e1, e2⟩ | ⟨e1, e2⟩
        · rw [e1, e2, setF_at, setF_at, setF_at, setF_ne _ _ ij, setF_ne _ _ ij, setF_ne _ _ ij]
          exact ⟨xw, dd, po_, pd⟩
        · rw [e1, e2, setF_at, setF_at, setF_at, setF_ne _ _ ij, setF_ne _ _ ij, setF_ne _ _ ij]
          exact ⟨xw.symm, dd.symm, po_.symm, od⟩
    obtain ⟨trest, hrest, htrest⟩ : ∃ t, PSs (bx CX0 P w K mg base ["_law_script", "_law_turn_here", "_law_cell", "_law_shuts", "_law_owns", "_law_given", "_law_k", "_law_number", "_law_at", "_law_shut", "_law_own"] "law" s_law A outer s H E).nox (afterIf (forBody (defBody s_law))) t ∧
        ∀ (D : Ends) (x0 : Option V) (tu c k : Int) (ps po pg pe : Addr) (xs : List V) (x7 x9 x10 : Option V) (i : Nat) (H : Hp), i < 2 → LS K H ps po pg pe xs →
          (∀ (x7 x8 x9 x10 : Option V) H', LS K H' ps po pg pe xs → D.nx [x0, some (.int tu), some (.int c), some (.ref ps), some (.ref po), some (.ref pg), some (.int k), x7, x8, x9, x10] H') → t D [x0, some (.int tu), some (.int c), some (.ref ps), some (.ref po), some (.ref pg), some (.int k), x7, some (.int (i : Int)), x9, x10] H := by
      refine ⟨_, (pss_cons (ps_asg (pe_fn Do (hr.mono (by decide)) pass0 (pa_cons (pe_ix ix_list (pv 3) (pv 8) (fun _ _ => rfl)) (pa_cons (pe_ix ix_list (pv 4) (pv 8) (fun _ _ => rfl)) (pa_cons (pe_ix ix_list (pv 5) (pv 8) (fun _ _ => rfl)) (pa_cons (pv 2) (pa_cons (pv 6) (pa_cons (pv 1) pa_nil))))))) (pg_sub (pv 5) (pv 8) set_list (fun _ => rfl)))
      (pss_cons (ps_if (pt_cmp (pc_isN (pe_ix ix_list (pv 5) (pv 8) (fun _ _ => rfl)))) (pss_one (ps_ret pe_bl)) pss_nil)
      (pss_one (ps_for PassesOwn.never rfl (pi_zip (by rfl) B.zip (pa_cons (pv 3) (pa_cons (pv 4) pa_nil))) (pg_tup (n := 2) (by rfl) (pgs_cons (pg_name (i := 9) sc_law.nd rfl (Or.inl rfl)) (pgs_cons (pg_name (i := 10) sc_law.nd rfl (Or.inl rfl)) pgs_nil))) hinner)))), fun D x0 tu c k ps po pg pe xs x7 x9 x10 i H0 hi S q => ?_⟩
      obtain ⟨⟨w, d, o, g, l, h1, h2, h3, h4, h5⟩, it, ne⟩ := S
      obtain ⟨dx, r, ro, hw, ho, hr1, hr2⟩ := (h4 i hi).ex
      have lw : ∀ {p : Addr} {ys : List V}, H0 p = some (.lst ys) → p ≠ w i ∧ p ≠ d i ∧ p ≠ o i := fun h => ⟨ne_of h hw.i (by simp), ne_of h hw.d (by simp), ne_of h ho (by simp)⟩
      refine ⟨_, rfl, _, rfl, ixAt h1 (two_get V.ref w hi) ⟨_, rfl, _, rfl, ixAt h2 (two_get V.ref o hi) ⟨_, rfl, _, rfl, ixAt h3 (two_get V.int g hi) ⟨_, rfl, _, rfl, _, rfl, ?_⟩⟩⟩⟩
      refine ⟨w i, o i, g i, c, k, tu, rfl, d i, l i, h4 i hi, fun g' l' H1 F1 S1 => ?_⟩
      have kl : ∀ {p : Addr} {ys : List V}, H0 p = some (.lst ys) → H1 p = some (.lst ys) := fun h => F1.k _ _ h (lw h).1 (lw h).2.1 (lw h).2.2
      refine ⟨_, rfl, _, rfl, setAt rfl (kl h3) hi ?_⟩
      rw [two_set V.int g hi g']
      generalize hh2 : upd H1 pg _ = H2
      have k2 : ∀ a u, H1 a = some u → a ≠ pg → H2 a = some u := fun a u h n => hh2 ▸ (upd_ne n).trans h
      have pg2 : H2 pg = some _ := hh2 ▸ upd_same
      have ps2 := k2 _ _ (kl h1) ne.2.1
      have po2 := k2 _ _ (kl h2) ne.2.2.1
      have it2 := k2 _ _ (kl it) ne.2.2.2.2.2
      have sides : ∀ m, m < 2 → Side K H2 (w m) (d m) (o m) (setF g i g' m) (setF l i l' m) := fun m hm => by
        by_cases e : m = i
        · rw [e, setF_at, setF_at]
          exact hh2 ▸ S1.lst (kl h3)
        · rw [setF_ne _ _ e, setF_ne _ _ e]
          obtain ⟨dxm, rm, rom, hwm, hom, _, _⟩ := (h4 m hm).ex
          obtain ⟨n1, n2, n3, n4⟩ := h5 m i hm hi e
          have n5 := (h5 i m hi hm (Ne.symm e)).2.2.2
          have Sm : Side K H1 (w m) (d m) (o m) (g m) (l m) := (h4 m hm).keep (fun u h _ => F1.k _ _ h n1 (ne_of hwm.i hw.d (by simp)) (ne_of hwm.i ho (by simp)))
            (fun u h _ => F1.k _ _ h (ne_of hwm.d hw.i (by simp)) n2 n5.symm) (fun u h _ => F1.k _ _ h (ne_of hom hw.i (by simp)) n4 n3) F1.t
          exact hh2 ▸ Sm.lst (kl h3)
      have S2 : LS K H2 ps po pg pe xs := ⟨⟨w, d, o, setF g i g', setF l i l', ps2, po2, pg2, sides, h5⟩, it2, ne⟩
      refine ⟨_, rfl, _, rfl, ixAt pg2 (two_get V.int (setF g i g') hi) ⟨_, rfl, ifF (decide_eq_false (by simp)) ?_⟩⟩
      refine ⟨_, rfl, _, rfl, ps, po, _, _, rfl, .of ps2, .of po2, ?_⟩
      refine for_it (walk_zip (n := 2) rfl) (fun _ σ H' => (∃ x7 x8 x9 x10 : Option V, σ = [x0, some (.int tu), some (.int c), some (.ref ps), some (.ref po), some (.ref pg), some (.int k), x7, x8, x9, x10]) ∧ Same H2 H') ⟨⟨_, _, _, _, rfl⟩, .refl _⟩ (fun _ _ _ _ h => ⟨.of (h.2 _ _ ps2), .of (h.2 _ _ po2)⟩) ?_ ?_
      · rintro m y σ H3 H4 hm ⟨⟨x7, x8, x9, x10, rfl⟩, e3⟩ ⟨tt, y1, y2, rfl, nt, rfl, hy1, hy2⟩
        have z1 := hy1.symm.trans (two_get V.ref w hm)
        have z2 := hy2.symm.trans (two_get V.ref o hm)
        cases z1
        cases z2
        refine ⟨tt, _, rfl, .of upd_same, rfl, _, _, rfl, _, _, rfl, rfl, ?_⟩
        exact htin _ _ _ _ _ _ _ _ _ _ _ _ _ _ _ _ (((sides m hm).same e3).same (same_upd nt)) fun H5 e5 => ⟨⟨_, _, _, _, rfl⟩, (Same.trans e3 (same_upd nt)).trans e5⟩
      · rintro σ H3 ⟨⟨x7, x8, x9, x10, rfl⟩, e3⟩
        exact q _ _ _ _ _ (S2.same e3)
    obtain ⟨tb, hb0, htb⟩ : ∃ t, PSs (bx CX0 P w K mg base ["_law_script", "_law_turn_here", "_law_cell", "_law_shuts", "_law_owns", "_law_given", "_law_k", "_law_number", "_law_at", "_law_shut", "_law_own"] "law" s_law A outer s H E).nox (forBody (defBody s_law)) t ∧
        ∀ (D : Ends) (x0 : Option V) (tu c k : Int) (ps po pg pe : Addr) (xs : List V) (x7 x8 x9 x10 : Option V) (H : Hp), LS K H ps po pg pe xs →
          (∀ (x7 x8 x9 x10 : Option V) H', LS K H' ps po pg pe xs → D.nx [x0, some (.int tu), some (.int c), some (.ref ps), some (.ref po), some (.ref pg), some (.int k), x7, x8, x9, x10] H') → t D [x0, some (.int tu), some (.int c), some (.ref ps), some (.ref po), some (.ref pg), some (.int k), x7, x8, x9, x10] H := by
      refine ⟨_, (pss_cons (ps_set (i := 7) sc_law.nd rfl (Or.inl rfl) (pe_fn M (hr.mono (by decide)) pass0 (pa_cons (pv 2) (pa_cons (pe_op op_add (pv 6) pe_int) pa_nil)))) (pss_cons (ps_set (i := 8) sc_law.nd rfl (Or.inl rfl) (pe_op op_mod (pv 7) pe_int)) (pss_cons (ps_if (pt_cmpR op_eq (pe_op op_mod (pe_op op_fdiv (pv 7) pe_int) pe_int) pe_int (nomark _)) hcopy pss_nil) hrest))), fun D x0 tu c k ps po pg pe xs x7 x8 x9 x10 H0 S q => ?_⟩
      walk_at "rd"
      refine ⟨c, k + 90, rfl, fun n n0 n1 => ⟨n, rfl, by decide, n, rfl, ⟨by decide, by decide⟩, by decide, rfl, _, rfl, ?_⟩⟩
      obtain ⟨i, hi, ei⟩ : ∃ i : Nat, i < 2 ∧ n % 2 = (i : Int) := ⟨(n % 2).toNat, by omega, by omega⟩
      rw [ei]
      cases hcp : decide (V.int (n / 2 % 9) = V.int 0) with
      | true => exact ifT rfl (htcopy _ _ _ _ _ _ _ _ pe xs _ _ _ i _ hi S fun H' S' => htrest _ _ _ _ _ _ _ _ pe xs _ _ _ i _ hi S' q)
      | false => exact ifF rfl (htrest _ _ _ _ _ _ _ _ pe xs _ _ _ i _ hi S q)
    refine ⟨_, (pss_cons (ps_set (i := 1) sc_law.nd rfl (Or.inl rfl) (pe_fn T (hr.mono (by decide)) pass0 (pa_cons (pe_callB (cr_sum (by rfl)) (by rfl) B.sum (by decide +kernel) (pa_cons (pe_lc (own := [("_law_cell", 2)]) (g := gName 2) (by rfl) sc_law.nd (pi_list (pe_slice sl_list (pv 0) po_none (po_some pe_int))) (blkOk_by (own := [("_law_cell", 2)]) (N := ["_law_script", "_law_turn_here", "_law_cell", "_law_shuts", "_law_owns", "_law_given", "_law_k", "_law_number", "_law_at", "_law_shut", "_law_own"]) (sc := defScope s_law) (by decide +kernel)) (fun _ _ _ _ _ => (pg_name (i := 2) sc_law.nd rfl (Or.inl rfl))) (fun _ _ _ _ _ => pts_nil) (fun _ _ _ _ _ => (pe_fn M (hr.mono (by decide)) pass0 (pa_cons (pv 2) (pa_cons pe_int pa_nil))))) pa_nil)) (pa_cons pe_int pa_nil))))
      (pss_cons (ps_set (i := 3) sc_law.nd rfl (Or.inl rfl) (pe_lst (pa_cons (pe_wall In W (hr.mono (by decide))) (pa_cons (pe_wall In W (hr.mono (by decide))) pa_nil))))
      (pss_cons (ps_set (i := 4) sc_law.nd rfl (Or.inl rfl) (pe_lst (pa_cons pe_dnewK (pa_cons pe_dnewK pa_nil))))
      (pss_cons (ps_set (i := 5) sc_law.nd rfl (Or.inl rfl) (pe_lst (pa_cons pe_int (pa_cons pe_int pa_nil))))
      (pss_cons (ps_for PassesOwn.never rfl (pi_enum (by rfl) B.enumerate (pa_cons (pe_slice sl_list (pv 0) po_none (po_some pe_int)) pa_nil)) (pg_tup (n := 2) (by rfl) (pgs_cons (pg_name (i := 6) sc_law.nd rfl (Or.inl rfl)) (pgs_cons (pg_name (i := 2) sc_law.nd rfl (Or.inl rfl)) pgs_nil))) hb0)
      (pss_one (ps_ret (pe_and (pe_fn Ri (hr.mono (by decide)) pass0 (pa_cons (pe_ix ix_list (pv 3) pe_int (fun _ _ => rfl)) (pa_cons (pe_ix ix_list (pv 4) pe_int (fun _ _ => rfl)) (pa_cons pe_int (pa_cons pe_int pa_nil))))) (pe_one (pe_fn Ri (hr.mono (by decide)) pass0 (pa_cons (pe_ix ix_list (pv 3) pe_int (fun _ _ => rfl)) (pa_cons (pe_ix ix_list (pv 4) pe_int (fun _ _ => rfl)) (pa_cons pe_int (pa_cons pe_int pa_nil)))))))))))))), ?_⟩
    walk_at "rd"
    have hl := cutV_length (ns.map V.int) none (some 63)
    rw [List.length_map] at hl
    refine ⟨_, rfl, 63, rfl, a, _, rfl, hS, fun p1 n1 => ?_⟩
    generalize hh1 : upd _ p1 _ = H1
    have s1 : Same H H1 := hh1 ▸ same_upd n1
    have u1 : H1 p1 = some _ := hh1 ▸ upd_same
    refine ⟨p1, rfl, ⟨_, .of u1⟩, fun Dl nD => lc_list (K := K) (a := p1) (xs := cutV (ns.map V.int) none (some 63)) (fun i H' => Same H1 H' ∧ ∃ ms : List Int, H' Dl = some (.lst (ms.map V.int)) ∧ ms.length = i) ⟨same_upd nD, [], upd_same, rfl⟩ (fun _ _ _ h => .of (h.1 _ _ u1)) ?_ ?_⟩
    · rintro i y H' hy ⟨f1, ms, f2, f3⟩
      obtain ⟨c, rfl⟩ := cut_int (List.mem_of_getElem? hy)
      have hi := (List.getElem?_eq_some_iff.mp hy).1
      refine ⟨rfl, ?_⟩
      simp only [tYes, if_true]
      refine ⟨_, rfl, c, 4, rfl, fun n n0 n1 => ⟨_, f2, ?_, same_put f1 nD, ms ++ [n], ?_, ?_⟩⟩
      · rw [List.length_map, f3]
        exact Nat.lt_of_lt_of_le (show i < 64 by omega) (by decide)
      · rw [upd_same]
        simp
      · simp [f3]
    · rintro H2 ⟨f1, ms, f2, f3⟩
      refine ⟨Dl, ms, rfl, .of f2, _, 5, rfl, fun tu H3 e3 _ => ?_⟩
      refine make_wall fun x1 dx1 d1 H4 e4 nx1 nd1 xd1 w1 => ?_
      refine make_wall fun x2 dx2 d2 H5 e5 nx2 nd2 xd2 w2 => ?_
      refine ⟨(by show 2 ≤ sizeLine; decide), fun ps nps => ?_⟩
      generalize hh6 : upd H5 ps _ = H6
      have s6 : Same H5 H6 := hh6 ▸ same_upd nps
      have ups : H6 ps = some _ := hh6 ▸ upd_same
      refine fun o1 no1 => ?_
      generalize hh7 : upd H6 o1 _ = H7
      have s7 : Same H6 H7 := hh7 ▸ same_upd no1
      have uo1 : H7 o1 = some _ := hh7 ▸ upd_same
      refine fun o2 no2 => ?_
      generalize hh8 : upd H7 o2 _ = H8
      have s8 : Same H7 H8 := hh8 ▸ same_upd no2
      have uo2 : H8 o2 = some _ := hh8 ▸ upd_same
      refine ⟨(by show 2 ≤ sizeLine; decide), fun po npo => ?_⟩
      generalize hh9 : upd H8 po _ = H9
      have s9 : Same H8 H9 := hh9 ▸ same_upd npo
      have upo : H9 po = some _ := hh9 ▸ upd_same
      refine ⟨(by show 2 ≤ sizeLine; decide), fun pg npg => ?_⟩
      generalize hh10 : upd H9 pg _ = H10
      have s10 : Same H9 H10 := hh10 ▸ same_upd npg
      have upg : H10 pg = some _ := hh10 ▸ upd_same
      have E56 : Same H5 H10 := (((s6.trans s7).trans s8).trans s9).trans s10
      have E5 : Same H H5 := (((s1.trans f1).trans e3).trans e4).trans e5
      have E10 : Same H H10 := E5.trans E56
      refine ⟨_, rfl, 63, rfl, a, _, rfl, sql_ext E10 hS, fun pe npe => ?_⟩
      obtain ⟨xs, hxs⟩ : ∃ xs, xs = cutV (ns.map V.int) none (some 63) := ⟨_, rfl⟩
      have hxi : ∀ v ∈ xs, ∃ c, v = V.int c := by
        rw [hxs]
        exact fun v hv => cut_int hv
      rw [← hxs]
      generalize hh11 : upd _ pe _ = H11
      have s11 : Same H10 H11 := hh11 ▸ same_upd npe
      have upe : H11 pe = some _ := hh11 ▸ upd_same
      have w1' := (w1.same e5).same (E56.trans s11)
      have w2' := w2.same (E56.trans s11)
      have o1' := s11 _ _ (s10 _ _ (s9 _ _ (s8 _ _ uo1)))
      have o2' := s11 _ _ (s10 _ _ (s9 _ _ uo2))
      have ps' := s11 _ _ (s10 _ _ (s9 _ _ (s8 _ _ (s7 _ _ ups))))
      have po' := s11 _ _ (s10 _ _ upo)
      have pg' := s11 _ _ upg
      have x12 : x1 ≠ x2 := ne_fresh w1.i nx2
      have d12 : d1 ≠ d2 := ne_fresh w1.d nd2
      have q5 : ∀ {b : Addr} {u : HO}, H5 b = some u → b ≠ o1 ∧ b ≠ o2 := fun h => ⟨ne_fresh (s6 _ _ h) no1, ne_fresh (s7 _ _ (s6 _ _ h)) no2⟩
      have o12 : o1 ≠ o2 := ne_fresh uo1 no2
      have a1 := q5 (w1.same e5).d
      have a2 := q5 w2.d
      have L0 : LS K H11 ps po pg pe xs := by
        refine ⟨⟨setF (fun _ => x1) 1 x2, setF (fun _ => d1) 1 d2, setF (fun _ => o1) 1 o2, fun _ => 0, fun _ => [], ps', po', pg', fun i hi => ?_, fun i j hi hj hij => ?_⟩, upe, ?_⟩
        · rcases (show i = 0 ∨ i = 1 by omega) with rfl | rfl
          · exact ⟨⟨dx1, [], [], w1', o1', .nil, .nil⟩, .nil, by decide, a1.1.symm⟩
          · exact ⟨⟨dx2, [], [], w2', o2', .nil, .nil⟩, .nil, by decide, a2.2.symm⟩
        · rcases (show (i = 0 ∧ j = 1) ∨ (i = 1 ∧ j = 0) by omega) with ⟨rfl, rfl⟩ | ⟨rfl, rfl⟩
          · exact ⟨x12, d12, o12, a2.1.symm⟩
          · exact ⟨x12.symm, d12.symm, o12.symm, a1.2.symm⟩
        · have c1 := s8 _ _ (s7 _ _ ups)
          have c2 := s9 _ _ c1
          exact ⟨ne_fresh c1 npo, ne_fresh c2 npg, ne_fresh upo npg, (ne_fresh (s10 _ _ c2) npe).symm, (ne_fresh (s10 _ _ upo) npe).symm, (ne_fresh upg npe).symm⟩
      refine ⟨pe, _, rfl, .of upe, ?_⟩
      refine for_it walk_enum (fun _ σ H' => (∃ x2 x6 x7 x8 x9 x10 : Option V, σ = [some (.ref a), some (.int tu), x2, some (.ref ps), some (.ref po), some (.ref pg), x6, x7, x8, x9, x10]) ∧ LS K H' ps po pg pe xs) ⟨⟨_, _, _, _, _, _, rfl⟩, L0⟩ (fun _ _ _ _ h => .of h.2.it) ?_ ?_
      · rintro i x σ H12 H13 hi ⟨⟨x2, x6, x7, x8, x9, x10, rfl⟩, L⟩ ⟨t, y, z, rfl, nt, rfl, hy, hz⟩
        cases hy
        obtain ⟨c, rfl⟩ := hxi _ (List.mem_of_getElem? hz)
        refine ⟨t, _, rfl, .of upd_same, rfl, _, _, rfl, _, _, rfl, rfl, ?_⟩
        exact htb _ _ _ _ _ _ _ _ pe xs _ _ _ _ _ (L.same (same_upd nt)) fun _ _ _ _ H14 L14 => ⟨⟨_, _, _, _, _, _, rfl⟩, L14⟩
      · rintro σ H12 ⟨⟨x2, x6, x7, x8, x9, x10, rfl⟩, ⟨⟨w, d, o, g, l, h1, h2, h3, h4, h5⟩, it, ne⟩⟩
        walk_at "rd"
        refine ixA0 h1 (ixA0 h2 ?_)
        refine ⟨w 0, o 0, 0, 1, rfl, d 0, g 0, l 0, h4 0 (by decide), fun H13 e13 => ⟨true, rfl, ifT rfl ?_⟩⟩
        refine ixA1 (e13 _ _ h1) (ixA1 (e13 _ _ h2) ?_)
        exact ⟨w 1, o 1, 0, 2, rfl, d 1, g 1, l 1, (h4 1 (by decide)).same e13, fun H14 _ => q _⟩
end
end Rf

set_option maxHeartbeats 0
namespace Rf
open PySem L2 PySem.Spec PyProof.Rows LamX
def fnL : List He.DefD := [dd "is_whole" s_is_whole, dd "is_clock" s_is_clock, dd "need_clock" s_need_clock, dd "need_turn" s_need_turn, dd "shows" s_shows, dd "_law_mixed" s__law_mixed, dd "_law_whole" s__law_whole, dd "_law_wide" s__law_wide, dd "_law_hours" s__law_hours, dd "_law_turn" s__law_turn, dd "_law_meant" s__law_meant, dd "_law_done" s__law_done, dd "_law_is_right" s__law_is_right, dd "law" s_law, dm "__init__" "Wall.__init__" s_Wall___init__, dm "put" "Wall.put" s_Wall_put, dm "need_number" "Wall.need_number" s_Wall_need_number, dm "take" "Wall.take" s_Wall_take, dm "turn_to" "Wall.turn_to" s_Wall_turn_to, dm "clocks" "Wall.clocks" s_Wall_clocks, dm "shows" "Wall.shows" s_Wall_shows, dm "copied" "Wall.copied" s_Wall_copied]
def fa : List He.Fa := ((["FoldError", "BadClock", "BadTurn", "NoClock", "TooMany"] : List Str).map He.Fa.glo) ++ ((["is_whole", "is_clock", "need_clock", "need_turn", "shows", "_law_mixed", "_law_whole", "_law_wide", "_law_hours", "_law_turn", "_law_meant", "_law_done", "_law_is_right", "law"] : List Str).map He.Fa.glo) ++ btNames.map He.Fa.free ++ [.int "MOST_HOURS" (10 ^ 30), .int "MOST_CLOCKS" 60, .glo "shows_clocks", .cls "Wall", .noat "Wall" "hung", .noat "Wall" "given", .mkr "Wall", .glo "Wall", .meth "Wall" "put", .meth "Wall" "need_number", .meth "Wall" "take", .meth "Wall" "turn_to", .meth "Wall" "clocks", .meth "Wall" "shows", .meth "Wall" "copied"]
abbrev R : PySem.W.OpenRow := PySem.W.OpenLaw.row PySem.Challenge.rw_restfold_k04_walls_kept
def exL (K : PySem.W.Frag) : Bool := exP ["BadClock", "BadTurn", "NoClock", "TooMany"] K && decide (He.ga K "shows_clocks" = He.ga K "shows")
abbrev hk : PySem.W.Hook := He.hookX 6 fa fnL [] [] exL
def ob (s : PySem.W.SharedT) : He.AlX := He.obsX 6 fa fnL [] [] exL (HandSHeadRun.getT s)
theorem ob_eq (s : PySem.W.SharedT) : ob s = hk.obs s.abs := He.obsX_eq (HandSHeadRun.getT_eq s)
theorem run (w : World) : HandSHeadRun.RunEq R (PySem.W.view R.prog [27]) hk ob 4000 ["_wall", "FoldError", "BadClock", "BadTurn", "NoClock", "TooMany", "MOST_HOURS", "is_whole", "is_clock", "need_clock", "need_turn", "shows", "shows_clocks", "MOST_CLOCKS", "Wall", "_law_mixed", "_law_whole", "_law_wide", "_law_hours", "_law_turn", "_law_meant", "_law_done", "_law_is_right"] w := by
  intro os
  kernel_rfl
theorem facts {w : World} {mg : Str → Option Value} {f : Addr} {h : Heap} {K : PySem.W.Frag} (X : K.In h) (G : h.Ns mainGlobals mg) (hfa : mg ("law" : Str) = some (.ref f)) (c : He.SaysX fa fnL [] [] exL w h K) :
    LawAtS PySem.Challenge.rw_restfold_k04_walls_kept w K CX0 8 63 "_law_script" mg f h := by
  have d := c.t.d
  have gl : ∀ x, He.Fa.glo x ∈ fa → mg x = some (.ref (He.ga K x)) := fun x hx => He.glo_ok X G (d.facts hx)
  have B : Bt mg := bt_of fun x hx => He.free_ok X G (d.facts (f := .free x) (by
    unfold fa
    exact List.mem_append_left _ (List.mem_append_right _ (List.mem_map.mpr ⟨x, hx, rfl⟩))))
  have gx : ∀ x, x ∈ (["FoldError", "BadClock", "BadTurn", "NoClock", "TooMany"] : List Str) → mg x = some (.ref (He.ga K x)) := fun x hx => gl x (by
    unfold fa
    exact List.mem_append_left _ (List.mem_append_left _ (List.mem_append_left _ (List.mem_map.mpr ⟨x, hx, rfl⟩))))
  have gd : ∀ x, x ∈ (["is_whole", "is_clock", "need_clock", "need_turn", "shows", "_law_mixed", "_law_whole", "_law_wide", "_law_hours", "_law_turn", "_law_meant", "_law_done", "_law_is_right", "law"] : List Str) → mg x = some (.ref (He.ga K x)) := fun x hx => gl x (by
    unfold fa
    exact List.mem_append_left _ (List.mem_append_left _ (List.mem_append_right _ (List.mem_map.mpr ⟨_, hx, rfl⟩))))
  have lf : ∀ f, f ∈ ([.int "MOST_HOURS" (10 ^ 30), .int "MOST_CLOCKS" 60, .glo "shows_clocks", .cls "Wall", .noat "Wall" "hung", .noat "Wall" "given", .mkr "Wall", .glo "Wall", .meth "Wall" "put", .meth "Wall" "need_number", .meth "Wall" "take", .meth "Wall" "turn_to", .meth "Wall" "clocks", .meth "Wall" "shows", .meth "Wall" "copied"] : List He.Fa) → f.ok K = true := fun f hf => d.facts (by
    unfold fa
    exact List.mem_append_right _ hf)
  have D_is_whole : Df K "is_whole" s_is_whole := df_of d (by unfold fnL; exact (List.mem_cons_self))
  have g_is_whole := gd "is_whole" (List.mem_cons_self)
  have D_is_clock : Df K "is_clock" s_is_clock := df_of d (by unfold fnL; exact (List.mem_cons_of_mem _ (List.mem_cons_self)))
  have g_is_clock := gd "is_clock" (List.mem_cons_of_mem _ (List.mem_cons_self))
  have D_need_clock : Df K "need_clock" s_need_clock := df_of d (by unfold fnL; exact (List.mem_cons_of_mem _ (List.mem_cons_of_mem _ (List.mem_cons_self))))
  have g_need_clock := gd "need_clock" (List.mem_cons_of_mem _ (List.mem_cons_of_mem _ (List.mem_cons_self)))
  have D_need_turn : Df K "need_turn" s_need_turn := df_of d (by unfold fnL; exact (List.mem_cons_of_mem _ (List.mem_cons_of_mem _ (List.mem_cons_of_mem _ (List.mem_cons_self)))))
  have g_need_turn := gd "need_turn" (List.mem_cons_of_mem _ (List.mem_cons_of_mem _ (List.mem_cons_of_mem _ (List.mem_cons_self))))
  have D_shows : Df K "shows" s_shows := df_of d (by unfold fnL; exact (List.mem_cons_of_mem _ (List.mem_cons_of_mem _ (List.mem_cons_of_mem _ (List.mem_cons_of_mem _ (List.mem_cons_self))))))
  have g_shows := gd "shows" (List.mem_cons_of_mem _ (List.mem_cons_of_mem _ (List.mem_cons_of_mem _ (List.mem_cons_of_mem _ (List.mem_cons_self)))))
  have D__law_mixed : Df K "_law_mixed" s__law_mixed := df_of d (by unfold fnL; exact (List.mem_cons_of_mem _ (List.mem_cons_of_mem _ (List.mem_cons_of_mem _ (List.mem_cons_of_mem _ (List.mem_cons_of_mem _ (List.mem_cons_self)))))))
  have g__law_mixed := gd "_law_mixed" (List.mem_cons_of_mem _ (List.mem_cons_of_mem _ (List.mem_cons_of_mem _ (List.mem_cons_of_mem _ (List.mem_cons_of_mem _ (List.mem_cons_self))))))
  have D__law_whole : Df K "_law_whole" s__law_whole := df_of d (by unfold fnL; exact (List.mem_cons_of_mem _ (List.mem_cons_of_mem _ (List.mem_cons_of_mem _ (List.mem_cons_of_mem _ (List.mem_cons_of_mem _ (List.mem_cons_of_mem _ (List.mem_cons_self))))))))
  have g__law_whole := gd "_law_whole" (List.mem_cons_of_mem _ (List.mem_cons_of_mem _ (List.mem_cons_of_mem _ (List.mem_cons_of_mem _ (List.mem_cons_of_mem _ (List.mem_cons_of_mem _ (List.mem_cons_self)))))))
  have D__law_wide : Df K "_law_wide" s__law_wide := df_of d (by unfold fnL; exact (List.mem_cons_of_mem _ (List.mem_cons_of_mem _ (List.mem_cons_of_mem _ (List.mem_cons_of_mem _ (List.mem_cons_of_mem _ (List.mem_cons_of_mem _ (List.mem_cons_of_mem _ (List.mem_cons_self)))))))))
  have g__law_wide := gd "_law_wide" (List.mem_cons_of_mem _ (List.mem_cons_of_mem _ (List.mem_cons_of_mem _ (List.mem_cons_of_mem _ (List.mem_cons_of_mem _ (List.mem_cons_of_mem _ (List.mem_cons_of_mem _ (List.mem_cons_self))))))))
  have D__law_hours : Df K "_law_hours" s__law_hours := df_of d (by unfold fnL; exact (List.mem_cons_of_mem _ (List.mem_cons_of_mem _ (List.mem_cons_of_mem _ (List.mem_cons_of_mem _ (List.mem_cons_of_mem _ (List.mem_cons_of_mem _ (List.mem_cons_of_mem _ (List.mem_cons_of_mem _ (List.mem_cons_self))))))))))
  have g__law_hours := gd "_law_hours" (List.mem_cons_of_mem _ (List.mem_cons_of_mem _ (List.mem_cons_of_mem _ (List.mem_cons_of_mem _ (List.mem_cons_of_mem _ (List.mem_cons_of_mem _ (List.mem_cons_of_mem _ (List.mem_cons_of_mem _ (List.mem_cons_self)))))))))
  have D__law_turn : Df K "_law_turn" s__law_turn := df_of d (by unfold fnL; exact (List.mem_cons_of_mem _ (List.mem_cons_of_mem _ (List.mem_cons_of_mem _ (List.mem_cons_of_mem _ (List.mem_cons_of_mem _ (List.mem_cons_of_mem _ (List.mem_cons_of_mem _ (List.mem_cons_of_mem _ (List.mem_cons_of_mem _ (List.mem_cons_self)))))))))))
  have g__law_turn := gd "_law_turn" (List.mem_cons_of_mem _ (List.mem_cons_of_mem _ (List.mem_cons_of_mem _ (List.mem_cons_of_mem _ (List.mem_cons_of_mem _ (List.mem_cons_of_mem _ (List.mem_cons_of_mem _ (List.mem_cons_of_mem _ (List.mem_cons_of_mem _ (List.mem_cons_self))))))))))
  have D__law_meant : Df K "_law_meant" s__law_meant := df_of d (by unfold fnL; exact (List.mem_cons_of_mem _ (List.mem_cons_of_mem _ (List.mem_cons_of_mem _ (List.mem_cons_of_mem _ (List.mem_cons_of_mem _ (List.mem_cons_of_mem _ (List.mem_cons_of_mem _ (List.mem_cons_of_mem _ (List.mem_cons_of_mem _ (List.mem_cons_of_mem _ (List.mem_cons_self))))))))))))
  have g__law_meant := gd "_law_meant" (List.mem_cons_of_mem _ (List.mem_cons_of_mem _ (List.mem_cons_of_mem _ (List.mem_cons_of_mem _ (List.mem_cons_of_mem _ (List.mem_cons_of_mem _ (List.mem_cons_of_mem _ (List.mem_cons_of_mem _ (List.mem_cons_of_mem _ (List.mem_cons_of_mem _ (List.mem_cons_self)))))))))))
  have D__law_done : Df K "_law_done" s__law_done := df_of d (by unfold fnL; exact (List.mem_cons_of_mem _ (List.mem_cons_of_mem _ (List.mem_cons_of_mem _ (List.mem_cons_of_mem _ (List.mem_cons_of_mem _ (List.mem_cons_of_mem _ (List.mem_cons_of_mem _ (List.mem_cons_of_mem _ (List.mem_cons_of_mem _ (List.mem_cons_of_mem _ (List.mem_cons_of_mem _ (List.mem_cons_self)))))))))))))
  have g__law_done := gd "_law_done" (List.mem_cons_of_mem _ (List.mem_cons_of_mem _ (List.mem_cons_of_mem _ (List.mem_cons_of_mem _ (List.mem_cons_of_mem _ (List.mem_cons_of_mem _ (List.mem_cons_of_mem _ (List.mem_cons_of_mem _ (List.mem_cons_of_mem _ (List.mem_cons_of_mem _ (List.mem_cons_of_mem _ (List.mem_cons_self))))))))))))
  have D__law_is_right : Df K "_law_is_right" s__law_is_right := df_of d (by unfold fnL; exact (List.mem_cons_of_mem _ (List.mem_cons_of_mem _ (List.mem_cons_of_mem _ (List.mem_cons_of_mem _ (List.mem_cons_of_mem _ (List.mem_cons_of_mem _ (List.mem_cons_of_mem _ (List.mem_cons_of_mem _ (List.mem_cons_of_mem _ (List.mem_cons_of_mem _ (List.mem_cons_of_mem _ (List.mem_cons_of_mem _ (List.mem_cons_self))))))))))))))
  have g__law_is_right := gd "_law_is_right" (List.mem_cons_of_mem _ (List.mem_cons_of_mem _ (List.mem_cons_of_mem _ (List.mem_cons_of_mem _ (List.mem_cons_of_mem _ (List.mem_cons_of_mem _ (List.mem_cons_of_mem _ (List.mem_cons_of_mem _ (List.mem_cons_of_mem _ (List.mem_cons_of_mem _ (List.mem_cons_of_mem _ (List.mem_cons_of_mem _ (List.mem_cons_self)))))))))))))
  have D_law : Df K "law" s_law := df_of d (by unfold fnL; exact (List.mem_cons_of_mem _ (List.mem_cons_of_mem _ (List.mem_cons_of_mem _ (List.mem_cons_of_mem _ (List.mem_cons_of_mem _ (List.mem_cons_of_mem _ (List.mem_cons_of_mem _ (List.mem_cons_of_mem _ (List.mem_cons_of_mem _ (List.mem_cons_of_mem _ (List.mem_cons_of_mem _ (List.mem_cons_of_mem _ (List.mem_cons_of_mem _ (List.mem_cons_self)))))))))))))))
  have g_law := gd "law" (List.mem_cons_of_mem _ (List.mem_cons_of_mem _ (List.mem_cons_of_mem _ (List.mem_cons_of_mem _ (List.mem_cons_of_mem _ (List.mem_cons_of_mem _ (List.mem_cons_of_mem _ (List.mem_cons_of_mem _ (List.mem_cons_of_mem _ (List.mem_cons_of_mem _ (List.mem_cons_of_mem _ (List.mem_cons_of_mem _ (List.mem_cons_of_mem _ (List.mem_cons_self))))))))))))))
  have Dm___init__ : Dm K "__init__" "Wall.__init__" s_Wall___init__ := dm_of d (by unfold fnL; exact (List.mem_cons_of_mem _ (List.mem_cons_of_mem _ (List.mem_cons_of_mem _ (List.mem_cons_of_mem _ (List.mem_cons_of_mem _ (List.mem_cons_of_mem _ (List.mem_cons_of_mem _ (List.mem_cons_of_mem _ (List.mem_cons_of_mem _ (List.mem_cons_of_mem _ (List.mem_cons_of_mem _ (List.mem_cons_of_mem _ (List.mem_cons_of_mem _ (List.mem_cons_of_mem _ (List.mem_cons_self))))))))))))))))
  have Dm_put : Dm K "put" "Wall.put" s_Wall_put := dm_of d (by unfold fnL; exact (List.mem_cons_of_mem _ (List.mem_cons_of_mem _ (List.mem_cons_of_mem _ (List.mem_cons_of_mem _ (List.mem_cons_of_mem _ (List.mem_cons_of_mem _ (List.mem_cons_of_mem _ (List.mem_cons_of_mem _ (List.mem_cons_of_mem _ (List.mem_cons_of_mem _ (List.mem_cons_of_mem _ (List.mem_cons_of_mem _ (List.mem_cons_of_mem _ (List.mem_cons_of_mem _ (List.mem_cons_of_mem _ (List.mem_cons_self)))))))))))))))))
  have Dm_need_number : Dm K "need_number" "Wall.need_number" s_Wall_need_number := dm_of d (by unfold fnL; exact (List.mem_cons_of_mem _ (List.mem_cons_of_mem _ (List.mem_cons_of_mem _ (List.mem_cons_of_mem _ (List.mem_cons_of_mem _ (List.mem_cons_of_mem _ (List.mem_cons_of_mem _ (List.mem_cons_of_mem _ (List.mem_cons_of_mem _ (List.mem_cons_of_mem _ (List.mem_cons_of_mem _ (List.mem_cons_of_mem _ (List.mem_cons_of_mem _ (List.mem_cons_of_mem _ (List.mem_cons_of_mem _ (List.mem_cons_of_mem _ (List.mem_cons_self))))))))))))))))))
  have Dm_take : Dm K "take" "Wall.take" s_Wall_take := dm_of d (by unfold fnL; exact (List.mem_cons_of_mem _ (List.mem_cons_of_mem _ (List.mem_cons_of_mem _ (List.mem_cons_of_mem _ (List.mem_cons_of_mem _ (List.mem_cons_of_mem _ (List.mem_cons_of_mem _ (List.mem_cons_of_mem _ (List.mem_cons_of_mem _ (List.mem_cons_of_mem _ (List.mem_cons_of_mem _ (List.mem_cons_of_mem _ (List.mem_cons_of_mem _ (List.mem_cons_of_mem _ (List.mem_cons_of_mem _ (List.mem_cons_of_mem _ (List.mem_cons_of_mem _ (List.mem_cons_self)))))))))))))))))))
  have Dm_turn_to : Dm K "turn_to" "Wall.turn_to" s_Wall_turn_to := dm_of d (by unfold fnL; exact (List.mem_cons_of_mem _ (List.mem_cons_of_mem _ (List.mem_cons_of_mem _ (List.mem_cons_of_mem _ (List.mem_cons_of_mem _ (List.mem_cons_of_mem _ (List.mem_cons_of_mem _ (List.mem_cons_of_mem _ (List.mem_cons_of_mem _ (List.mem_cons_of_mem _ (List.mem_cons_of_mem _ (List.mem_cons_of_mem _ (List.mem_cons_of_mem _ (List.mem_cons_of_mem _ (List.mem_cons_of_mem _ (List.mem_cons_of_mem _ (List.mem_cons_of_mem _ (List.mem_cons_of_mem _ (List.mem_cons_self))))))))))))))))))))
  have Dm_clocks : Dm K "clocks" "Wall.clocks" s_Wall_clocks := dm_of d (by unfold fnL; exact (List.mem_cons_of_mem _ (List.mem_cons_of_mem _ (List.mem_cons_of_mem _ (List.mem_cons_of_mem _ (List.mem_cons_of_mem _ (List.mem_cons_of_mem _ (List.mem_cons_of_mem _ (List.mem_cons_of_mem _ (List.mem_cons_of_mem _ (List.mem_cons_of_mem _ (List.mem_cons_of_mem _ (List.mem_cons_of_mem _ (List.mem_cons_of_mem _ (List.mem_cons_of_mem _ (List.mem_cons_of_mem _ (List.mem_cons_of_mem _ (List.mem_cons_of_mem _ (List.mem_cons_of_mem _ (List.mem_cons_of_mem _ (List.mem_cons_self)))))))))))))))))))))
  have Dm_shows : Dm K "shows" "Wall.shows" s_Wall_shows := dm_of d (by unfold fnL; exact (List.mem_cons_of_mem _ (List.mem_cons_of_mem _ (List.mem_cons_of_mem _ (List.mem_cons_of_mem _ (List.mem_cons_of_mem _ (List.mem_cons_of_mem _ (List.mem_cons_of_mem _ (List.mem_cons_of_mem _ (List.mem_cons_of_mem _ (List.mem_cons_of_mem _ (List.mem_cons_of_mem _ (List.mem_cons_of_mem _ (List.mem_cons_of_mem _ (List.mem_cons_of_mem _ (List.mem_cons_of_mem _ (List.mem_cons_of_mem _ (List.mem_cons_of_mem _ (List.mem_cons_of_mem _ (List.mem_cons_of_mem _ (List.mem_cons_of_mem _ (List.mem_cons_self))))))))))))))))))))))
  have Dm_copied : Dm K "copied" "Wall.copied" s_Wall_copied := dm_of d (by unfold fnL; exact (List.mem_cons_of_mem _ (List.mem_cons_of_mem _ (List.mem_cons_of_mem _ (List.mem_cons_of_mem _ (List.mem_cons_of_mem _ (List.mem_cons_of_mem _ (List.mem_cons_of_mem _ (List.mem_cons_of_mem _ (List.mem_cons_of_mem _ (List.mem_cons_of_mem _ (List.mem_cons_of_mem _ (List.mem_cons_of_mem _ (List.mem_cons_of_mem _ (List.mem_cons_of_mem _ (List.mem_cons_of_mem _ (List.mem_cons_of_mem _ (List.mem_cons_of_mem _ (List.mem_cons_of_mem _ (List.mem_cons_of_mem _ (List.mem_cons_of_mem _ (List.mem_cons_of_mem _ (List.mem_cons_self)))))))))))))))))))))))
  obtain ⟨ex1, ex2⟩ := Bool.and_eq_true_iff.mp (show (exP ["BadClock", "BadTurn", "NoClock", "TooMany"] K && decide (He.ga K "shows_clocks" = He.ga K "shows")) = true from c.more)
  have E := xp_of ex1 fun y hy => gx y (List.mem_cons_of_mem _ hy)
  have esh : He.ga K "shows_clocks" = He.ga K "shows" := of_decide_eq_true ex2
  have W : Wc K mg := ⟨He.glo_ok X G (lf _ (List.mem_cons_of_mem _ (List.mem_cons_of_mem _ (List.mem_cons_of_mem _ (List.mem_cons_of_mem _ (List.mem_cons_of_mem _ (List.mem_cons_of_mem _ (List.mem_cons_of_mem _ List.mem_cons_self)))))))), He.cls_ok (lf _ (List.mem_cons_of_mem _ (List.mem_cons_of_mem _ (List.mem_cons_of_mem _ List.mem_cons_self)))), He.noat_ok (lf _ (List.mem_cons_of_mem _ (List.mem_cons_of_mem _ (List.mem_cons_of_mem _ (List.mem_cons_of_mem _ List.mem_cons_self))))), He.noat_ok (lf _ (List.mem_cons_of_mem _ (List.mem_cons_of_mem _ (List.mem_cons_of_mem _ (List.mem_cons_of_mem _ (List.mem_cons_of_mem _ List.mem_cons_self)))))), He.mkr_ok (lf _ (List.mem_cons_of_mem _ (List.mem_cons_of_mem _ (List.mem_cons_of_mem _ (List.mem_cons_of_mem _ (List.mem_cons_of_mem _ (List.mem_cons_of_mem _ List.mem_cons_self)))))))⟩
  have m_put := He.meth_ok (lf _ (List.mem_cons_of_mem _ (List.mem_cons_of_mem _ (List.mem_cons_of_mem _ (List.mem_cons_of_mem _ (List.mem_cons_of_mem _ (List.mem_cons_of_mem _ (List.mem_cons_of_mem _ (List.mem_cons_of_mem _ List.mem_cons_self)))))))))
  have m_need_number := He.meth_ok (lf _ (List.mem_cons_of_mem _ (List.mem_cons_of_mem _ (List.mem_cons_of_mem _ (List.mem_cons_of_mem _ (List.mem_cons_of_mem _ (List.mem_cons_of_mem _ (List.mem_cons_of_mem _ (List.mem_cons_of_mem _ (List.mem_cons_of_mem _ List.mem_cons_self))))))))))
  have m_take := He.meth_ok (lf _ (List.mem_cons_of_mem _ (List.mem_cons_of_mem _ (List.mem_cons_of_mem _ (List.mem_cons_of_mem _ (List.mem_cons_of_mem _ (List.mem_cons_of_mem _ (List.mem_cons_of_mem _ (List.mem_cons_of_mem _ (List.mem_cons_of_mem _ (List.mem_cons_of_mem _ List.mem_cons_self)))))))))))
  have m_turn_to := He.meth_ok (lf _ (List.mem_cons_of_mem _ (List.mem_cons_of_mem _ (List.mem_cons_of_mem _ (List.mem_cons_of_mem _ (List.mem_cons_of_mem _ (List.mem_cons_of_mem _ (List.mem_cons_of_mem _ (List.mem_cons_of_mem _ (List.mem_cons_of_mem _ (List.mem_cons_of_mem _ (List.mem_cons_of_mem _ List.mem_cons_self))))))))))))
  have m_clocks := He.meth_ok (lf _ (List.mem_cons_of_mem _ (List.mem_cons_of_mem _ (List.mem_cons_of_mem _ (List.mem_cons_of_mem _ (List.mem_cons_of_mem _ (List.mem_cons_of_mem _ (List.mem_cons_of_mem _ (List.mem_cons_of_mem _ (List.mem_cons_of_mem _ (List.mem_cons_of_mem _ (List.mem_cons_of_mem _ (List.mem_cons_of_mem _ List.mem_cons_self)))))))))))))
  have m_shows := He.meth_ok (lf _ (List.mem_cons_of_mem _ (List.mem_cons_of_mem _ (List.mem_cons_of_mem _ (List.mem_cons_of_mem _ (List.mem_cons_of_mem _ (List.mem_cons_of_mem _ (List.mem_cons_of_mem _ (List.mem_cons_of_mem _ (List.mem_cons_of_mem _ (List.mem_cons_of_mem _ (List.mem_cons_of_mem _ (List.mem_cons_of_mem _ (List.mem_cons_of_mem _ List.mem_cons_self))))))))))))))
  have m_copied := He.meth_ok (lf _ (List.mem_cons_of_mem _ (List.mem_cons_of_mem _ (List.mem_cons_of_mem _ (List.mem_cons_of_mem _ (List.mem_cons_of_mem _ (List.mem_cons_of_mem _ (List.mem_cons_of_mem _ (List.mem_cons_of_mem _ (List.mem_cons_of_mem _ (List.mem_cons_of_mem _ (List.mem_cons_of_mem _ (List.mem_cons_of_mem _ (List.mem_cons_of_mem _ (List.mem_cons_of_mem _ List.mem_cons_self)))))))))))))))
  obtain rfl : f = He.ga K "law" := by
    have e := hfa.symm.trans g_law
    injection e with e
    injection e
  obtain ⟨fd, hfd⟩ := D_law.ex
  refine ⟨fd, [], spLaw0 K, fun p hp => (by cases hp), fun p hp => (by cases hp), fun p hp => (by cases hp), fun s u => FunD.bindsA (ps := ["_law_script"]) hfd (fun _ _ _ _ _ _ us hl => match us, hl with | [_], _ => rfl) s [u] rfl, fun H a ns hl _ hT hS => ⟨a, ns, rfl, hS, hl, fun _ => rfl⟩, fun base KX Gb TB => ?_⟩
  · skip
    have wh : Has _ w K mg base CX0 _ _ _ _ := h_is_whole (P := PySem.Challenge.pw_restfold_k04_walls_kept) B D_is_whole g_is_whole
    have ic := h_is_clock B wh (He.int_ok X G (lf _ List.mem_cons_self)) D_is_clock g_is_clock
    have nc := h_need_clock ic (E _ (by decide +kernel)) D_need_clock g_need_clock
    have nt := h_need_turn wh (E _ (by decide +kernel)) D_need_turn g_need_turn
    have sh := h_shows nc nt D_shows g_shows
    have shc : Has PySem.Challenge.pw_restfold_k04_walls_kept w K mg base (L2.CX PySem.Challenge.pw_restfold_k04_walls_kept w) 5 "shows_clocks" ["clock", "turn"] (spShows K) := ⟨by rw [esh]; exact sh.ok, He.glo_ok X G (lf _ (List.mem_cons_of_mem _ (List.mem_cons_of_mem _ List.mem_cons_self))), by rw [esh]; exact sh.kp⟩
    have mx : Has _ w K mg base CX0 _ _ _ _ := h_mixed (P := PySem.Challenge.pw_restfold_k04_walls_kept) D__law_mixed g__law_mixed
    have lw : Has _ w K mg base CX0 _ _ _ _ := h_whole (P := PySem.Challenge.pw_restfold_k04_walls_kept) B D__law_whole g__law_whole
    have wi := h_wide mx D__law_wide g__law_wide
    have ho := h_hours mx wi D__law_hours g__law_hours
    have tu := h_turn mx wi D__law_turn g__law_turn
    have me := h_meant mx wi ho D__law_meant g__law_meant
    have wInit : HasM _ w K mg base CX0 _ _ _ _ := h_Wall___init__ (P := PySem.Challenge.pw_restfold_k04_walls_kept) W Dm___init__
    have wNum := h_Wall_need_number wh (E _ (by decide +kernel)) W Dm_need_number
    have wPut := h_Wall_put B nc (E _ (by decide +kernel)) (He.int_ok X G (lf _ (List.mem_cons_of_mem _ List.mem_cons_self))) W Dm_put
    have wTake := h_Wall_take wNum m_need_number W Dm_take
    have wTurn := h_Wall_turn_to ic (E _ (by decide +kernel)) wNum m_need_number W Dm_turn_to
    have wShows := h_Wall_shows shc wNum m_need_number W Dm_shows
    have wClocks : HasM _ w K mg base CX0 _ _ _ _ := h_Wall_clocks (P := PySem.Challenge.pw_restfold_k04_walls_kept) B W Dm_clocks
    have wCopied := h_Wall_copied B wInit W Dm_copied
    have dn := h_done B W mx wi me wPut m_put wTake m_take wTurn m_turn_to D__law_done g__law_done
    have ri := h_is_rightL B W mx tu lw wClocks m_clocks wShows m_shows D__law_is_right g__law_is_right
    have la := h_law B W mx tu wInit wCopied m_copied dn ri D_law g_law
    exact la.at_ hfd
end Rf
open PySem PySem.W PySem.Calls PyProof.Rows
theorem PySem.Challenge.cw_restfold_k04_walls_kept_holds : PySem.Challenge.rw_restfold_k04_walls_kept.Holds := by
  w_on; o_law
  refine HandSHeadRun.head_any (r := OpenLaw.row PySem.Challenge.rw_restfold_k04_walls_kept) (q := view (OpenLaw.row PySem.Challenge.rw_restfold_k04_walls_kept).prog [27]) (H := Rf.hk) (ob := Rf.ob) (M := 4000) (loose := ["_wall", "FoldError", "BadClock", "BadTurn", "NoClock", "TooMany", "MOST_HOURS", "is_whole", "is_clock", "need_clock", "need_turn", "shows", "shows_clocks", "MOST_CLOCKS", "Wall", "_law_mixed", "_law_whole", "_law_wide", "_law_hours", "_law_turn", "_law_meant", "_law_done", "_law_is_right"]) (d := HandSHeadRun.topDef (OpenLaw.row PySem.Challenge.rw_restfold_k04_walls_kept).prog 27) (kwd := []) Rf.ob_eq
    (by kernel_rfl) (fun s => by kernel_rfl) Rf.run (by kernel_rfl) (by kernel_rfl) (by kernel_rfl) (by rfl) (by first | assumption | decide +kernel) (by decide +kernel) ⟨rfl, rfl, rfl, rfl, rfl, by decide +kernel⟩ ?hw ?hc
  case hw => w_witness2
  case hc =>
    refine LamX.walk_ofTsE (l := PySem.Challenge.rw_restfold_k04_walls_kept) (n := 63) (k := 8) (x := "_law_script") (CX := fun _ => L2.CX0) rfl (by decide) (by kernel_rfl) ⟨rfl, by decide, by decide⟩ ?F (fun _ _ _ _ _ z => z)
    intro w mg fa h Y G hmg0
    obtain ⟨K, KX, c⟩ := Y
    have hmg : mg ("law" : PySem.Str) = some (.ref fa) := by
      have e : (HandSHeadRun.topDef (OpenLaw.row PySem.Challenge.rw_restfold_k04_walls_kept).prog 27).name = ("law" : PySem.Str) := by kernel_rfl
      rw [← e]
      exact hmg0
    exact ⟨K, KX, Rf.facts KX G hmg c⟩
